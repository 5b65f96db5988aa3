import PyProof.Rows.All
import Wide.All
import OpenK.AllK
import Wide.FinOn
import KE.KSortTup
import KE.KDictOf
import PyProof.AttrMiss
import PyProof.DefCall
import PyProof.CompFree
import PySem.Challenge.RW_sa0118_01
set_option autoImplicit true
set_option genSizeOf false
set_option genInjectivity false
set_option genCtorIdx false
set_option backward.match.sparseCases false
set_option bootstrap.genMatcherCode false
set_option tactic.hygienic false
set_option compiler.extract_closed false
set_option maxRecDepth 100000
set_option linter.unusedSimpArgs false
set_option linter.unusedVariables false
set_option Elab.async false
namespace Mine
noncomputable section
set_option hygiene false in
local macro_rules
  |`(tactic|exists $h:ident) => `(tactic|(refine sp1 $h fun za => ?_;clear $h;subst za))
  |`(tactic|exists $a,$b,*)=>`(tactic|refine $a fun $b* =>?_)
  |`(tactic|injections $h:ident) => `(tactic|(refine sp2 $h fun za zb => ?_;clear $h;subst za;subst zb))
namespace Internal
theorem dq{p:Prop}[Decidable p](h:decide p=true:=by rfl):p:=of_decide_eq_true h
section
theorem ak{p0 p1:Prop}{P:Prop}(h:p0/\p1)(k:p0->p1->P):P:=k h.1 h.2
theorem dK{p0 p1 p2:Prop}{P:Prop}(h:p0/\p1/\p2)(k:p0->p1->p2->P):P:=k h.1 h.2.1 h.2.2
theorem ft{p0 p1 p2 p3:Prop}{P:Prop}(h:p0/\p1/\p2/\p3)(k:p0->p1->p2->p3->P):P:=k h.1 h.2.1 h.2.2.1 h.2.2.2
theorem FX{p0 p1 p2 p3 p4:Prop}{P:Prop}(h:p0/\p1/\p2/\p3/\p4)(k:p0->p1->p2->p3->p4->P):P:=k h.1 h.2.1 h.2.2.1 h.2.2.2.1 h.2.2.2.2
theorem Kz{p0 p1 p2 p3 p4 p5:Prop}{P:Prop}(h:p0/\p1/\p2/\p3/\p4/\p5)(k:p0->p1->p2->p3->p4->p5->P):P:=k h.1 h.2.1 h.2.2.1 h.2.2.2.1 h.2.2.2.2.1 h.2.2.2.2.2
theorem aD{br:Sort _}{p0:br->Prop}{P:Prop}(h:∃a0,p0 a0)(k:∀a0,p0 a0->P):P:=h.elim fun a0 h=>k a0 h
theorem ae{br:Sort _}{p0 p1:br->Prop}{P:Prop}(h:∃a0,p0 a0/\p1 a0)(k:∀a0,p0 a0->p1 a0->P):P:=h.elim fun a0 h=>k a0 h.1 h.2
theorem b7{br:Sort _}{p0 p1 p2:br->Prop}{P:Prop}(h:∃a0,p0 a0/\p1 a0/\p2 a0)(k:∀a0,p0 a0->p1 a0->p2 a0->P):P:=h.elim fun a0 h=>k a0 h.1 h.2.1 h.2.2
theorem dX{br:Sort _}{p0 p1 p2 p3:br->Prop}{P:Prop}(h:∃a0,p0 a0/\p1 a0/\p2 a0/\p3 a0)(k:∀a0,p0 a0->p1 a0->p2 a0->p3 a0->P):P:=h.elim fun a0 h=>k a0 h.1 h.2.1 h.2.2.1 h.2.2.2
theorem nF{br:Sort _}{p0 p1 p2 p3 p4:br->Prop}{P:Prop}(h:∃a0,p0 a0/\p1 a0/\p2 a0/\p3 a0/\p4 a0)(k:∀a0,p0 a0->p1 a0->p2 a0->p3 a0->p4 a0->P):P:=h.elim fun a0 h=>k a0 h.1 h.2.1 h.2.2.1 h.2.2.2.1 h.2.2.2.2
theorem pn{br:Sort _}{p0 p1 p2 p3 p4 p5:br->Prop}{P:Prop}(h:∃a0,p0 a0/\p1 a0/\p2 a0/\p3 a0/\p4 a0/\p5 a0)(k:∀a0,p0 a0->p1 a0->p2 a0->p3 a0->p4 a0->p5 a0->P):P:=h.elim fun a0 h=>k a0 h.1 h.2.1 h.2.2.1 h.2.2.2.1 h.2.2.2.2.1 h.2.2.2.2.2
theorem de{br:Sort _}{bP:Sort _}{p0:br->bP->Prop}{P:Prop}(h:∃a0 a1,p0 a0 a1)(k:∀a0 a1,p0 a0 a1->P):P:=h.elim fun a0 h=>h.elim fun a1 h=>k a0 a1 h
theorem aU{br:Sort _}{bP:Sort _}{p0 p1:br->bP->Prop}{P:Prop}(h:∃a0 a1,p0 a0 a1/\p1 a0 a1)(k:∀a0 a1,p0 a0 a1->p1 a0 a1->P):P:=h.elim fun a0 h=>h.elim fun a1 h=>k a0 a1 h.1 h.2
theorem cx{br:Sort _}{bP:Sort _}{p0 p1 p2:br->bP->Prop}{P:Prop}(h:∃a0 a1,p0 a0 a1/\p1 a0 a1/\p2 a0 a1)(k:∀a0 a1,p0 a0 a1->p1 a0 a1->p2 a0 a1->P):P:=h.elim fun a0 h=>h.elim fun a1 h=>k a0 a1 h.1 h.2.1 h.2.2
theorem jQ{br:Sort _}{bP:Sort _}{p0 p1 p2 p3:br->bP->Prop}{P:Prop}(h:∃a0 a1,p0 a0 a1/\p1 a0 a1/\p2 a0 a1/\p3 a0 a1)(k:∀a0 a1,p0 a0 a1->p1 a0 a1->p2 a0 a1->p3 a0 a1->P):P:=h.elim fun a0 h=>h.elim fun a1 h=>k a0 a1 h.1 h.2.1 h.2.2.1 h.2.2.2
theorem gK{br:Sort _}{bP:Sort _}{p0 p1 p2 p3 p4:br->bP->Prop}{P:Prop}(h:∃a0 a1,p0 a0 a1/\p1 a0 a1/\p2 a0 a1/\p3 a0 a1/\p4 a0 a1)(k:∀a0 a1,p0 a0 a1->p1 a0 a1->p2 a0 a1->p3 a0 a1->p4 a0 a1->P):P:=h.elim fun a0 h=>h.elim fun a1 h=>k a0 a1 h.1 h.2.1 h.2.2.1 h.2.2.2.1 h.2.2.2.2
theorem sI{br:Sort _}{bP:Sort _}{p0 p1 p2 p3 p4 p5:br->bP->Prop}{P:Prop}(h:∃a0 a1,p0 a0 a1/\p1 a0 a1/\p2 a0 a1/\p3 a0 a1/\p4 a0 a1/\p5 a0 a1)(k:∀a0 a1,p0 a0 a1->p1 a0 a1->p2 a0 a1->p3 a0 a1->p4 a0 a1->p5 a0 a1->P):P:=h.elim fun a0 h=>h.elim fun a1 h=>k a0 a1 h.1 h.2.1 h.2.2.1 h.2.2.2.1 h.2.2.2.2.1 h.2.2.2.2.2
theorem KS{br:Sort _}{bP:Sort _}{p0 p1 p2 p3 p4 p5 p6 p7 p8 p9 Fj:br->bP->Prop}{P:Prop}(h:∃a0 a1,p0 a0 a1/\p1 a0 a1/\p2 a0 a1/\p3 a0 a1/\p4 a0 a1/\p5 a0 a1/\p6 a0 a1/\p7 a0 a1/\p8 a0 a1/\p9 a0 a1/\Fj a0 a1)(k:∀a0 a1,p0 a0 a1->p1 a0 a1->p2 a0 a1->p3 a0 a1->p4 a0 a1->p5 a0 a1->p6 a0 a1->p7 a0 a1->p8 a0 a1->p9 a0 a1->Fj a0 a1->P):P:=h.elim fun a0 h=>h.elim fun a1 h=>k a0 a1 h.1 h.2.1 h.2.2.1 h.2.2.2.1 h.2.2.2.2.1 h.2.2.2.2.2.1 h.2.2.2.2.2.2.1 h.2.2.2.2.2.2.2.1 h.2.2.2.2.2.2.2.2.1 h.2.2.2.2.2.2.2.2.2.1 h.2.2.2.2.2.2.2.2.2.2
theorem lh{br:Sort _}{bP:Sort _}{cv:Sort _}{p0:br->bP->cv->Prop}{P:Prop}(h:∃a0 a1 a2,p0 a0 a1 a2)(k:∀a0 a1 a2,p0 a0 a1 a2->P):P:=h.elim fun a0 h=>h.elim fun a1 h=>h.elim fun a2 h=>k a0 a1 a2 h
theorem pT{br:Sort _}{bP:Sort _}{cv:Sort _}{p0 p1:br->bP->cv->Prop}{P:Prop}(h:∃a0 a1 a2,p0 a0 a1 a2/\p1 a0 a1 a2)(k:∀a0 a1 a2,p0 a0 a1 a2->p1 a0 a1 a2->P):P:=h.elim fun a0 h=>h.elim fun a1 h=>h.elim fun a2 h=>k a0 a1 a2 h.1 h.2
theorem dE{br:Sort _}{bP:Sort _}{cv:Sort _}{p0 p1 p2:br->bP->cv->Prop}{P:Prop}(h:∃a0 a1 a2,p0 a0 a1 a2/\p1 a0 a1 a2/\p2 a0 a1 a2)(k:∀a0 a1 a2,p0 a0 a1 a2->p1 a0 a1 a2->p2 a0 a1 a2->P):P:=h.elim fun a0 h=>h.elim fun a1 h=>h.elim fun a2 h=>k a0 a1 a2 h.1 h.2.1 h.2.2
theorem fH{br:Sort _}{bP:Sort _}{cv:Sort _}{p0 p1 p2 p3:br->bP->cv->Prop}{P:Prop}(h:∃a0 a1 a2,p0 a0 a1 a2/\p1 a0 a1 a2/\p2 a0 a1 a2/\p3 a0 a1 a2)(k:∀a0 a1 a2,p0 a0 a1 a2->p1 a0 a1 a2->p2 a0 a1 a2->p3 a0 a1 a2->P):P:=h.elim fun a0 h=>h.elim fun a1 h=>h.elim fun a2 h=>k a0 a1 a2 h.1 h.2.1 h.2.2.1 h.2.2.2
theorem jV{br:Sort _}{bP:Sort _}{cv:Sort _}{p0 p1 p2 p3 p4:br->bP->cv->Prop}{P:Prop}(h:∃a0 a1 a2,p0 a0 a1 a2/\p1 a0 a1 a2/\p2 a0 a1 a2/\p3 a0 a1 a2/\p4 a0 a1 a2)(k:∀a0 a1 a2,p0 a0 a1 a2->p1 a0 a1 a2->p2 a0 a1 a2->p3 a0 a1 a2->p4 a0 a1 a2->P):P:=h.elim fun a0 h=>h.elim fun a1 h=>h.elim fun a2 h=>k a0 a1 a2 h.1 h.2.1 h.2.2.1 h.2.2.2.1 h.2.2.2.2
theorem X8{br:Sort _}{bP:Sort _}{cv:Sort _}{p0 p1 p2 p3 p4 p5:br->bP->cv->Prop}{P:Prop}(h:∃a0 a1 a2,p0 a0 a1 a2/\p1 a0 a1 a2/\p2 a0 a1 a2/\p3 a0 a1 a2/\p4 a0 a1 a2/\p5 a0 a1 a2)(k:∀a0 a1 a2,p0 a0 a1 a2->p1 a0 a1 a2->p2 a0 a1 a2->p3 a0 a1 a2->p4 a0 a1 a2->p5 a0 a1 a2->P):P:=h.elim fun a0 h=>h.elim fun a1 h=>h.elim fun a2 h=>k a0 a1 a2 h.1 h.2.1 h.2.2.1 h.2.2.2.1 h.2.2.2.2.1 h.2.2.2.2.2
theorem EM{br:Sort _}{bP:Sort _}{cv:Sort _}{dS:Sort _}{p0 p1:br->bP->cv->dS->Prop}{P:Prop}(h:∃a0 a1 a2 a3,p0 a0 a1 a2 a3/\p1 a0 a1 a2 a3)(k:∀a0 a1 a2 a3,p0 a0 a1 a2 a3->p1 a0 a1 a2 a3->P):P:=h.elim fun a0 h=>h.elim fun a1 h=>h.elim fun a2 h=>h.elim fun a3 h=>k a0 a1 a2 a3 h.1 h.2
theorem vC{br:Sort _}{bP:Sort _}{cv:Sort _}{dS:Sort _}{p0 p1 p2:br->bP->cv->dS->Prop}{P:Prop}(h:∃a0 a1 a2 a3,p0 a0 a1 a2 a3/\p1 a0 a1 a2 a3/\p2 a0 a1 a2 a3)(k:∀a0 a1 a2 a3,p0 a0 a1 a2 a3->p1 a0 a1 a2 a3->p2 a0 a1 a2 a3->P):P:=h.elim fun a0 h=>h.elim fun a1 h=>h.elim fun a2 h=>h.elim fun a3 h=>k a0 a1 a2 a3 h.1 h.2.1 h.2.2
theorem Ip{br:Sort _}{bP:Sort _}{cv:Sort _}{dS:Sort _}{p0 p1 p2 p3:br->bP->cv->dS->Prop}{P:Prop}(h:∃a0 a1 a2 a3,p0 a0 a1 a2 a3/\p1 a0 a1 a2 a3/\p2 a0 a1 a2 a3/\p3 a0 a1 a2 a3)(k:∀a0 a1 a2 a3,p0 a0 a1 a2 a3->p1 a0 a1 a2 a3->p2 a0 a1 a2 a3->p3 a0 a1 a2 a3->P):P:=h.elim fun a0 h=>h.elim fun a1 h=>h.elim fun a2 h=>h.elim fun a3 h=>k a0 a1 a2 a3 h.1 h.2.1 h.2.2.1 h.2.2.2
theorem Eu{br:Sort _}{bP:Sort _}{cv:Sort _}{dS:Sort _}{p0 p1 p2 p3 p4:br->bP->cv->dS->Prop}{P:Prop}(h:∃a0 a1 a2 a3,p0 a0 a1 a2 a3/\p1 a0 a1 a2 a3/\p2 a0 a1 a2 a3/\p3 a0 a1 a2 a3/\p4 a0 a1 a2 a3)(k:∀a0 a1 a2 a3,p0 a0 a1 a2 a3->p1 a0 a1 a2 a3->p2 a0 a1 a2 a3->p3 a0 a1 a2 a3->p4 a0 a1 a2 a3->P):P:=h.elim fun a0 h=>h.elim fun a1 h=>h.elim fun a2 h=>h.elim fun a3 h=>k a0 a1 a2 a3 h.1 h.2.1 h.2.2.1 h.2.2.2.1 h.2.2.2.2
theorem Ih{br:Sort _}{bP:Sort _}{cv:Sort _}{dS:Sort _}{fP:Sort _}{p0 p1:br->bP->cv->dS->fP->Prop}{P:Prop}(h:∃a0 a1 a2 a3 a4,p0 a0 a1 a2 a3 a4/\p1 a0 a1 a2 a3 a4)(k:∀a0 a1 a2 a3 a4,p0 a0 a1 a2 a3 a4->p1 a0 a1 a2 a3 a4->P):P:=h.elim fun a0 h=>h.elim fun a1 h=>h.elim fun a2 h=>h.elim fun a3 h=>h.elim fun a4 h=>k a0 a1 a2 a3 a4 h.1 h.2
theorem WI{br:Sort _}{bP:Sort _}{cv:Sort _}{dS:Sort _}{fP:Sort _}{p0 p1 p2 p3:br->bP->cv->dS->fP->Prop}{P:Prop}(h:∃a0 a1 a2 a3 a4,p0 a0 a1 a2 a3 a4/\p1 a0 a1 a2 a3 a4/\p2 a0 a1 a2 a3 a4/\p3 a0 a1 a2 a3 a4)(k:∀a0 a1 a2 a3 a4,p0 a0 a1 a2 a3 a4->p1 a0 a1 a2 a3 a4->p2 a0 a1 a2 a3 a4->p3 a0 a1 a2 a3 a4->P):P:=h.elim fun a0 h=>h.elim fun a1 h=>h.elim fun a2 h=>h.elim fun a3 h=>h.elim fun a4 h=>k a0 a1 a2 a3 a4 h.1 h.2.1 h.2.2.1 h.2.2.2
theorem HH{br:Sort _}{bP:Sort _}{cv:Sort _}{dS:Sort _}{fP:Sort _}{iP:Sort _}{p0 p1 p2 p3 p4 p5:br->bP->cv->dS->fP->iP->Prop}{P:Prop}(h:∃a0 a1 a2 a3 a4 a5,p0 a0 a1 a2 a3 a4 a5/\p1 a0 a1 a2 a3 a4 a5/\p2 a0 a1 a2 a3 a4 a5/\p3 a0 a1 a2 a3 a4 a5/\p4 a0 a1 a2 a3 a4 a5/\p5 a0 a1 a2 a3 a4 a5)(k:∀a0 a1 a2 a3 a4 a5,p0 a0 a1 a2 a3 a4 a5->p1 a0 a1 a2 a3 a4 a5->p2 a0 a1 a2 a3 a4 a5->p3 a0 a1 a2 a3 a4 a5->p4 a0 a1 a2 a3 a4 a5->p5 a0 a1 a2 a3 a4 a5->P):P:=h.elim fun a0 h=>h.elim fun a1 h=>h.elim fun a2 h=>h.elim fun a3 h=>h.elim fun a4 h=>h.elim fun a5 h=>k a0 a1 a2 a3 a4 a5 h.1 h.2.1 h.2.2.1 h.2.2.2.1 h.2.2.2.2.1 h.2.2.2.2.2
theorem IC{br:Sort _}{bP:Sort _}{cv:Sort _}{dS:Sort _}{fP:Sort _}{iP:Sort _}{p0 p1 p2 p3 p4 p5 p6 p7 p8:br->bP->cv->dS->fP->iP->Prop}{P:Prop}(h:∃a0 a1 a2 a3 a4 a5,p0 a0 a1 a2 a3 a4 a5/\p1 a0 a1 a2 a3 a4 a5/\p2 a0 a1 a2 a3 a4 a5/\p3 a0 a1 a2 a3 a4 a5/\p4 a0 a1 a2 a3 a4 a5/\p5 a0 a1 a2 a3 a4 a5/\p6 a0 a1 a2 a3 a4 a5/\p7 a0 a1 a2 a3 a4 a5/\p8 a0 a1 a2 a3 a4 a5)(k:∀a0 a1 a2 a3 a4 a5,p0 a0 a1 a2 a3 a4 a5->p1 a0 a1 a2 a3 a4 a5->p2 a0 a1 a2 a3 a4 a5->p3 a0 a1 a2 a3 a4 a5->p4 a0 a1 a2 a3 a4 a5->p5 a0 a1 a2 a3 a4 a5->p6 a0 a1 a2 a3 a4 a5->p7 a0 a1 a2 a3 a4 a5->p8 a0 a1 a2 a3 a4 a5->P):P:=h.elim fun a0 h=>h.elim fun a1 h=>h.elim fun a2 h=>h.elim fun a3 h=>h.elim fun a4 h=>h.elim fun a5 h=>k a0 a1 a2 a3 a4 a5 h.1 h.2.1 h.2.2.1 h.2.2.2.1 h.2.2.2.2.1 h.2.2.2.2.2.1 h.2.2.2.2.2.2.1 h.2.2.2.2.2.2.2.1 h.2.2.2.2.2.2.2.2
theorem MF{br:Sort _}{bP:Sort _}{cv:Sort _}{dS:Sort _}{fP:Sort _}{iP:Sort _}{mn:Sort _}{p0:br->bP->cv->dS->fP->iP->mn->Prop}{P:Prop}(h:∃a0 a1 a2 a3 a4 a5 a6,p0 a0 a1 a2 a3 a4 a5 a6)(k:∀a0 a1 a2 a3 a4 a5 a6,p0 a0 a1 a2 a3 a4 a5 a6->P):P:=h.elim fun a0 h=>h.elim fun a1 h=>h.elim fun a2 h=>h.elim fun a3 h=>h.elim fun a4 h=>h.elim fun a5 h=>h.elim fun a6 h=>k a0 a1 a2 a3 a4 a5 a6 h
theorem uE{br:Sort _}{bP:Sort _}{cv:Sort _}{dS:Sort _}{fP:Sort _}{iP:Sort _}{mn:Sort _}{p0 p1:br->bP->cv->dS->fP->iP->mn->Prop}{P:Prop}(h:∃a0 a1 a2 a3 a4 a5 a6,p0 a0 a1 a2 a3 a4 a5 a6/\p1 a0 a1 a2 a3 a4 a5 a6)(k:∀a0 a1 a2 a3 a4 a5 a6,p0 a0 a1 a2 a3 a4 a5 a6->p1 a0 a1 a2 a3 a4 a5 a6->P):P:=h.elim fun a0 h=>h.elim fun a1 h=>h.elim fun a2 h=>h.elim fun a3 h=>h.elim fun a4 h=>h.elim fun a5 h=>h.elim fun a6 h=>k a0 a1 a2 a3 a4 a5 a6 h.1 h.2
theorem FU{br:Sort _}{bP:Sort _}{cv:Sort _}{dS:Sort _}{fP:Sort _}{iP:Sort _}{mn:Sort _}{p0 p1 p2 p3 p4 p5:br->bP->cv->dS->fP->iP->mn->Prop}{P:Prop}(h:∃a0 a1 a2 a3 a4 a5 a6,p0 a0 a1 a2 a3 a4 a5 a6/\p1 a0 a1 a2 a3 a4 a5 a6/\p2 a0 a1 a2 a3 a4 a5 a6/\p3 a0 a1 a2 a3 a4 a5 a6/\p4 a0 a1 a2 a3 a4 a5 a6/\p5 a0 a1 a2 a3 a4 a5 a6)(k:∀a0 a1 a2 a3 a4 a5 a6,p0 a0 a1 a2 a3 a4 a5 a6->p1 a0 a1 a2 a3 a4 a5 a6->p2 a0 a1 a2 a3 a4 a5 a6->p3 a0 a1 a2 a3 a4 a5 a6->p4 a0 a1 a2 a3 a4 a5 a6->p5 a0 a1 a2 a3 a4 a5 a6->P):P:=h.elim fun a0 h=>h.elim fun a1 h=>h.elim fun a2 h=>h.elim fun a3 h=>h.elim fun a4 h=>h.elim fun a5 h=>h.elim fun a6 h=>k a0 a1 a2 a3 a4 a5 a6 h.1 h.2.1 h.2.2.1 h.2.2.2.1 h.2.2.2.2.1 h.2.2.2.2.2
theorem JR{br:Sort _}{bP:Sort _}{cv:Sort _}{dS:Sort _}{fP:Sort _}{iP:Sort _}{mn:Sort _}{Zg:Sort _}{p0 p1 p2 p3 p4 p5 p6:br->bP->cv->dS->fP->iP->mn->Zg->Prop}{P:Prop}(h:∃a0 a1 a2 a3 a4 a5 a6 a7,p0 a0 a1 a2 a3 a4 a5 a6 a7/\p1 a0 a1 a2 a3 a4 a5 a6 a7/\p2 a0 a1 a2 a3 a4 a5 a6 a7/\p3 a0 a1 a2 a3 a4 a5 a6 a7/\p4 a0 a1 a2 a3 a4 a5 a6 a7/\p5 a0 a1 a2 a3 a4 a5 a6 a7/\p6 a0 a1 a2 a3 a4 a5 a6 a7)(k:∀a0 a1 a2 a3 a4 a5 a6 a7,p0 a0 a1 a2 a3 a4 a5 a6 a7->p1 a0 a1 a2 a3 a4 a5 a6 a7->p2 a0 a1 a2 a3 a4 a5 a6 a7->p3 a0 a1 a2 a3 a4 a5 a6 a7->p4 a0 a1 a2 a3 a4 a5 a6 a7->p5 a0 a1 a2 a3 a4 a5 a6 a7->p6 a0 a1 a2 a3 a4 a5 a6 a7->P):P:=h.elim fun a0 h=>h.elim fun a1 h=>h.elim fun a2 h=>h.elim fun a3 h=>h.elim fun a4 h=>h.elim fun a5 h=>h.elim fun a6 h=>h.elim fun a7 h=>k a0 a1 a2 a3 a4 a5 a6 a7 h.1 h.2.1 h.2.2.1 h.2.2.2.1 h.2.2.2.2.1 h.2.2.2.2.2.1 h.2.2.2.2.2.2
noncomputable def oo{A B:Type _}(x:Option A)(f:A->Option B):Option B:=match x with
 |some a=>f a
 |none=>none
noncomputable def oB{A:Type _}(x:Option A)(f:A->Bool):Bool:=match x with
 |some a=>f a
 |none=>false
noncomputable def bO{B:Type _}(b:Bool)(x:Option B):Option B:=match b with
 |true=>x
 |false=>none
noncomputable def bB(b x:Bool):Bool:=match b with
 |true=>x
 |false=>false
theorem aQ{A B:Type _}{x:Option A}{f:A->Option B}{b:B}(h:oo x f=some b):∃a,x=some a/\f a=some b:=by
 induction x using Option.casesOn with
 |none=>exact Option.noConfusion rfl (heq_of_eq h)
 |some a=>exact⟨a,rfl,h⟩
theorem jK{A:Type _}{x:Option A}{f:A->Bool}(h:oB x f=true):∃a,x=some a/\f a=true:=by
 induction x using Option.casesOn with
 |none=>exact Bool.noConfusion h
 |some a=>exact⟨a,rfl,h⟩
theorem LB{B:Type _}{b:Bool}{x:Option B}{y:B}(h:bO b x=some y):b=true/\x=some y:=by
 induction b using Bool.casesOn with
 |false=>exact Option.noConfusion rfl (heq_of_eq h)
 |true=>exact⟨rfl,h⟩
theorem mW(h:bB b x=true):b=true/\x=true:=by
 induction b using Bool.casesOn with
 |false=>exact Bool.noConfusion h
 |true=>exact⟨rfl,h⟩
theorem nq{A:Type _}{P:Prop}{a:A}(h:none=some a):P:=Option.noConfusion rfl (heq_of_eq h)
theorem sy{A:Sort _}{a b:A}(h:a=b):b=a:=h.symm
theorem ns{A:Type _}{P:Prop}{a:A}(h:some a=none):P:=nq h.symm
theorem bf{P:Prop}(h:false=true):P:=Bool.noConfusion h
theorem bt{P:Prop}(h:true=false):P:=Bool.noConfusion h
theorem sp1{A:Type _}{a c:A}{P:Prop}(h:some a=some c)(k:a=c->P):P:=k (Option.some.inj h)
theorem sp2{A B:Type _}{a c:A}{b d:B}{P:Prop}(h:some (a,b)=some (c,d))(k:a=c->b=d->P):P:=k (congrArg (fun x:A×B=>x.1) (Option.some.inj h)) (congrArg (fun x:A×B=>x.2) (Option.some.inj h))
theorem jC{A B D:Type _}{a c:A}{b d:B}{x y:D}{P:Prop}(h:some (a,b,x)=some (c,d,y))(k:a=c->b=d->x=y->P):P:=k (congrArg (fun x:A×B×D=>x.1) (Option.some.inj h)) (congrArg (fun x:A×B×D=>x.2.1) (Option.some.inj h)) (congrArg (fun x:A×B×D=>x.2.2) (Option.some.inj h))
theorem Bm{A:Type _}{l:List A}(h:l.length=1):∃a,l=[a]:=by
 induction l using List.casesOn with
 |nil=>exact nomatch h
 |cons a l=>induction l using List.casesOn with
  |nil=>exact⟨a,rfl⟩
  |cons=>exact nomatch h
theorem q7{A:Type _}{l:List A}(h:l.length=2):∃a b,l=[a,b]:=by
 induction l using List.casesOn with
 |nil=>exact nomatch h
 |cons a l=>exact aD (Bm (Nat.succ.inj h)) fun b e=>⟨a,b,congrArg (List.cons a) e⟩
theorem wg{A:Type _}{l:List A}(h:l.length=3):∃a b c,l=[a,b,c]:=by
 induction l using List.casesOn with
 |nil=>exact nomatch h
 |cons a l=>exact de (q7 (Nat.succ.inj h)) fun b c e=>⟨a,b,c,congrArg (List.cons a) e⟩
theorem g6{A:Type}{M:PySem.Model}{a:PySem.Around}{c:Prop}[Decidable c]{x y:PySem.Sem A}{Q:A->PySem.Shared->Prop}{E:PySem.Value->PySem.Shared->Prop}{s:PySem.Shared}(h:c)(k:PySem.wpAny M a x Q E s):PySem.wpAny M a (if c then x else y) Q E s:=by
 rw[if_pos h];exact k
theorem eF{A:Type}{M:PySem.Model}{a:PySem.Around}{c:Prop}[Decidable c]{x y:PySem.Sem A}{Q:A->PySem.Shared->Prop}{E:PySem.Value->PySem.Shared->Prop}{s:PySem.Shared}(h:¬ c)(k:PySem.wpAny M a y Q E s):PySem.wpAny M a (if c then x else y) Q E s:=by
 rw[if_neg h];exact k
theorem cps{G:Prop}(h:∀P:Prop,(G->P)->P):G:=h G id
end
end Internal
section
open PySem PySem.W PyProof.Rows
open Internal
noncomputable abbrev row0:OpenRow:=PySem.Challenge.rw_sa0118_01.row
noncomputable def vw:Program:=view PySem.Challenge.pw_sa0118_01 [1,3,4,5,6,7,8,9,11,12,14,15,16,17,18,19,20,21,22,23,25,26,27,28,29,30,31,32,34,35,36,37,38,39,40,42,44,45,46,47,48,49,50,51,52,54,56,57,58,59,60,61,62,64,65,66,67,68,69]
def UU(h:Heap):Option Frag:=oo (h.get? mainGlobals) fun a=>oo (h.get? 88) fun b=>oo (h.get? 89) fun c=>some [(mainGlobals,a),(88,b),(89,c)]
noncomputable def vInt(v:Value):Option Int:=match v with
 |.int i _=>some i
 |_=>none
noncomputable def vRef(v:Value):Option Addr:=match v with
 |.ref a=>some a
 |_=>none
noncomputable def lNil{A:Type}(l:List A):Bool:=match l with
 |[]=>true
 |_::_=>false
noncomputable def Cr{A:Type}(x:Option A):Bool:=match x with
 |none=>true
 |some _=>false
noncomputable def seq0(o:Obj):Option (List Value):=match o.data with
 |.seq a n=>match n with
  |0=>some a.toList
  |_+1=>none
 |_=>none
noncomputable def isTup(o:Obj):Bool:=match o.cls with
 |.type t=>t == "tuple"
 |_=>false
def plainT(o:Obj):Bool:=bB (isTup o) (bB (Cr o.dict) (lNil o.slots.toList))
def isI(v:Value)(i:Int):Bool:=oB (vInt v) fun p=>p == i
def twoL(l:List Value)(i j:Int):Bool:=match l with
 |[]=>false
 |x::l=>match l with
  |[]=>false
  |y::l=>bB (lNil l) (bB (isI x i) (isI y j))
def Xm(K:Frag)(x:Str)(i j:Int):Bool:=oB (nsIn K mainGlobals x) fun r=>oB r fun v=>oB (vRef v) fun a=>oB (K.lookup a) fun o=>bB (plainT o) (oB (seq0 o) fun l=>twoL l i j)
def intAt(K:Frag)(x:Str)(i:Int):Bool:=oB (nsIn K mainGlobals x) fun r=>oB r fun v=>isI v i
def XY(K:Frag)(x:Str):Bool:=oB (nsIn K mainGlobals x) Cr
noncomputable def vz:List Str:=["len","sum","max","min","abs","any","sorted","tuple","dict","int","enumerate","range","zip"]
noncomputable def Ce:List (Str×Int):=[("MOST_BITS",200000),("MOST_FAR",20000),("MOST_WORK",3000000)]
noncomputable def A5:List (Str×Int×Int):=[("R0",0,1),("R1",1,1)]
def chkK(K:Frag):Bool:=vz.all (XY K) && Ce.all (fun e=>intAt K e.1 e.2) && A5.all (fun e=>Xm K e.1 e.2.1 e.2.2)
def chkH(h:Heap):Bool:=oB (UU h) chkK
def Says(h:Heap):Prop:=∃K,Frag.In K h/\chkK K=true
theorem yq{h:Heap}{a:Addr}{o:Obj}{K:Frag}(e:h.get? a=some o)(i:Frag.In K h):Frag.In ((a,o)::K) h:=by
 intro x y m;simp only[List.lookup]at m;split at m
 ·rename_i r;cases m;rw[eq_of_beq r];exact e
 ·exact i x y m
theorem WE{h:Heap}(e:chkH h=true):Says h:=by
 exists ae (jK e),K,q,e;exists ae (aQ q),a,h1,q;exists ae (aQ q),b,h2,q;exists ae (aQ q),c,h3,q;exact⟨K,Option.some.inj q▸yq h1 (yq h2 (yq h3 fun _ _ m=>nomatch m)),e⟩
theorem UA{h h':Heap}(s:Says h)(k:∀b o,h.get? b=some o->h'.get? b=some o):Says h':=
 let ⟨K,i,c⟩:=s;⟨K,fun a o e=>k _ _ (i a o e),c⟩
def xtOk(s:Shared):Bool:=xlAt vw [] s && recOk (RowW.records row0.toRowW) s
theorem Jn:(defOf vw row0.name).isSome=true:=by kernel_rfl
def lawD:DefRec×List (Str×Expr):=(defOf vw row0.name).get Jn
theorem dl_eq:defOf vw row0.name=some (lawD.1,lawD.2):=(Option.some_get Jn).symm
theorem chk_q:(chkH ⟨#[],default⟩ ||true)=true:=by k_qdec
theorem UG:LeftO PySem.Challenge.pw_sa0118_01 vw [] xtOk (fun s=>chkH s.heap) (fun _=>true) 3956:=fun w=>by
 unfold xtOk;rw[PySem.W.Fast.te4187177175401517315,PySem.W.Fast.te5923862056798008813,PySem.W.Fast.te14364793385576792824,PySem.W.Fast.te16695537632394750670];kernel_rfl
theorem hp0:row0.prog.theDef row0.name=some (lawD.1.params,lawD.1.body,lawD.1.scope):=by kernel_rfl
theorem hk0:kwWritten? lawD.1.params.kwonlyargs lawD.1.params.kw_defaults=some lawD.2:=by kernel_rfl
theorem PL:PySem.Challenge.rw_sa0118_01.wellSaid=true:=by
 rw[PySem.W.Fast.te9446332074065402090];kernel_rfl
set_option maxHeartbeats 8000000 in
theorem hd(hc:WalkO vw [] (XL vw []) (fun _ h=>Says h) row0.toRowW lawD.1 lawD.2 (fun f vs=>PySem.call f vs)):PySem.Challenge.rw_sa0118_01.Holds:=by
 w_on
 exists holds_law PL,aaY;refine holds_open (q:=vw) (loose:=[]) (Xt:=xtOk) (XP:=XL vw []) (Yf:=fun s=>chkH s.heap) (Ya:=fun _=>true) (YP:=fun _ h=>Says h) (N:=3956) UG (fun _ _ e=>WE e) (fun _ _ _ s k=>UA s k) (fun s e=>xl_of s (Bool.and_eq_true_iff.mp e).1) XL.keeps dl_eq hp0 hk0 (fun s e=>recFacts_of (Bool.and_eq_true_iff.mp e).2) (by rfl) (by first|assumption|decide +kernel) (by decide +kernel) ⟨rfl,rfl,rfl,rfl,rfl,by decide +kernel⟩ ?_ hc
 w_witness2
end
namespace Internal
open PySem renaming wpAny_bind->a9,wpAny_pure->aw,wpAny_mono->cq,wpAny_holding->dM,wpAny_standAt->fR
open Option renaming some.inj->aI,casesOn->aL
open Bool renaming casesOn->aB,eq_iff_iff->g8,eq_false_iff->gP,and_eq_true_iff->mq
open List renaming length_map->aJ,mem_cons->aH,map_cons->aO,casesOn->aN,mem_singleton->c9,replicate->cu,length_append->d8,mem_of_getElem?->ee,getElem?_eq_some_iff->fj,getElem?_map->dP,size_toArray->dY,nil_append->dh,mem_map->cE,nodup_cons->eu,map_map->d5,getD_eq_getElem?_getD->jc,length_cons->fS,append_nil->gc,range'->eE,forall_mem_cons->jn,map_append->gM,flatMap_cons->iQ,append_assoc->jA,length_range'->kn,lookup_cons->lD,mem_append->lO,cons_ne_nil->vO
open Nat renaming le_of_ble_eq_true->bC,le_trans->bx,casesAuxOn->bL,eq_of_beq_eq_true->cU,beq->aF,ble->b8,le_refl->cw,ble_eq_true_of_le->fq,le_of_succ_le->fo,beq_refl->ew,blt->c8,gcd->cc,ne_of_lt->eR,le_succ->eU,zero_le->f6,succ.inj->gG,succ_ne_zero->kc,lt_irrefl->kT
open Int renaming casesOn->kC
section
open PySem
set_option genCtorIdx true in
set_option genInjectivity true in
inductive V where
 |none
 |bool (b:Bool)
 |int (i:Int)
 |str (s:List Nat)
 |tup (l:List V)
 |lst (l:List V)
 |dct (l:List (List Int×V))
 |ref (n:Nat)
 deriving Inhabited
inductive bq where
 |list (l:List V)
 |dict (l:List (List Int×V))
structure Ent where
 id:Nat
 lock:Bool
 obj:bq
structure Hp where
 nxt:Nat
 es:List Ent
noncomputable abbrev CF:=List V->Hp->Option (V×Hp)
set_option genCtorIdx true in
inductive BI where
 |len|sum|max2|maxl|min2|abs|any|sorted|tuple|dict|int
set_option genCtorIdx true in
inductive eZ where
 |append|extend|pop0|jZ|dpop1|dpopN|reverse|sort
set_option genCtorIdx true in
inductive IK where
 |seq|enum|range1|range2|zip
inductive bF (F:Type) where
 |const (v:V)
 |var (i:Nat)
 |bin (op:Operator) (a b:bF F)
 |neg (a:bF F)
 |lE (a:bF F)
 |lz (l:List (bF F))
 |eT (l:List (bF F))
 |cmp (op:CmpOp) (a b:bF F)
 |ite (t a b:bF F)
 |call (g:F) (args:List (bF F))
 |bi (b:BI) (args:List (bF F))
 |cP (m:eZ) (o:bF F) (args:List (bF F))
 |sub (a i:bF F)
 |slice (up:Bool) (a b:bF F)
 |rev (a:bF F)
 |tup (l:List (bF F))
 |list (l:List (bF F))
 |ji
 |nj (k v:bF F)
 |lcomp (clr:List Nat) (e:bF F) (gens:List (List Nat×Bool×IK×List (bF F)×List (bF F)))
 |dcomp (clr:List Nat) (k v:bF F) (gens:List (List Nat×Bool×IK×List (bF F)×List (bF F)))
noncomputable abbrev ME:=bF CF
noncomputable abbrev tn(F:Type):=List Nat×Bool×IK×List (bF F)×List (bF F)
noncomputable abbrev Gen:=tn CF
inductive oS (F:Type) where
 |assign (i:Nat) (e:bF F)
 |unpack (is:List Nat) (e:bF F)
 |store (o i e:bF F)
 |aug (i:Nat) (op:Operator) (e:bF F)
 |expr (e:bF F)
 |if_ (t:bF F) (a b:List (oS F))
 |while_ (t:bF F) (b:List (oS F))
 |for_ (tg:List Nat) (many:Bool) (ik:IK) (es:List (bF F)) (b:List (oS F))
 |ret (e:bF F)
 |cont
 |stuck
noncomputable abbrev MS:=oS CF
inductive Fl where
 |next|cont|ret (v:V)
noncomputable abbrev ai:=List (Option V)
noncomputable def ieq:Int->Int->Bool
 |.ofNat a,.ofNat b=>aF a b
 |.negSucc a,.negSucc b=>aF a b
 |_,_=>false
noncomputable def ilt:Int->Int->Bool
 |.ofNat a,.ofNat b=>c8 a b
 |.negSucc a,.negSucc b=>c8 b a
 |.negSucc _,.ofNat _=>true
 |.ofNat _,.negSucc _=>false
noncomputable def band:Bool->Bool->Bool
 |true,b=>b
 |false,_=>false
noncomputable def guard'{B:Type}(b:Bool)(x:Option B):Option B:=match b with
 |true=>x
 |false=>none
noncomputable def lenOk{A:Type}(l:List A):Bool:=b8 l.length 1000000
noncomputable def look:List Ent->Nat->Option Ent
 |[],_=>none
 |e::r,n=>match aF e.id n with
  |true=>some e
  |false=>look r n
noncomputable def put:List Ent->Nat->Bool->bq->List Ent
 |[],_,_,_=>[]
 |e::r,n,lk,o=>match aF e.id n with
  |true=>⟨n,lk,o⟩::r
  |false=>e::put r n lk o
noncomputable def newObj(H:Hp)(o:bq):V×Hp:=(.ref H.nxt,⟨H.nxt.succ,⟨H.nxt,false,o⟩::H.es⟩)
noncomputable def keyOf:List V->Option (List Int)
 |[]=>some []
 |.int i::r=>match keyOf r with
  |some k=>some (i::k)
  |none=>none
 |_::_=>none
noncomputable def ofKey(k:List Int):V:=.tup (k.map .int)
def keq:List Int->List Int->Bool
 |[],[]=>true
 |a::r,b::s=>match ieq a b with
  |true=>keq r s
  |false=>false
 |_,_=>false
def dget:List (List Int×V)->List Int->Option V
 |[],_=>none
 |e::r,k=>match keq e.1 k with
  |true=>some e.2
  |false=>dget r k
def dset:List (List Int×V)->List Int->V->List (List Int×V)
 |[],k,v=>[(k,v)]
 |e::r,k,v=>match keq e.1 k with
  |true=>(e.1,v)::r
  |false=>e::dset r k v
def ddel:List (List Int×V)->List Int->List (List Int×V)
 |[],_=>[]
 |e::r,k=>match keq e.1 k with
  |true=>r
  |false=>e::ddel r k
def kA:V->Option (List Int)
 |.tup k=>keyOf k
 |_=>none
def listView(H:Hp):V->Option (List V)
 |.lst l=>some l
 |.ref n=>match look H.es n with
  |some e=>match e.obj with
   |.list l=>some l
   |.dict _=>none
  |none=>none
 |_=>none
def dictView(H:Hp):V->Option (List (List Int×V))
 |.dct l=>some l
 |.ref n=>match look H.es n with
  |some e=>match e.obj with
   |.dict l=>some l
   |.list _=>none
  |none=>none
 |_=>none
def seqView(H:Hp):V->Option (List V)
 |.tup l=>some l
 |v=>listView H v
def ze(H:Hp)(v:V):Option (List V):=match seqView H v with
 |some l=>some l
 |none=>match dictView H v with
  |some l=>some (l.map fun e=>ofKey e.1)
  |none=>none
noncomputable def beq':Bool->Bool->Bool
 |true,b=>b
 |false,b=>!b
noncomputable def tA:List Nat->List Nat->Bool
 |[]=>fun l=>match l with
  |[]=>true
  |_::_=>false
 |a::r=>fun l=>match l with
  |[]=>false
  |b::s=>match aF a b with
   |true=>tA r s
   |false=>false
noncomputable def codesOk:List Nat->Bool
 |[]=>true
 |a::r=>match c8 a 1114112 with
  |true=>codesOk r
  |false=>false
noncomputable def resL(f:V->Option V):List V->Option (List V)
 |[]=>some []
 |a::r=>match f a with
  |some b=>match resL f r with
   |some s=>some (b::s)
   |none=>none
  |none=>none
noncomputable def mkT(x:Option (List V)):Option V:=match x with
 |some l=>some (.tup l)
 |none=>none
noncomputable def mkL(x:Option (List V)):Option V:=match x with
 |some l=>some (.lst l)
 |none=>none
def resR(f:V->Option V)(x:Option Ent):Option V:=match x with
 |some e=>match e.obj with
  |.list l=>mkL (resL f l)
  |.dict _=>none
 |none=>none
def res(H:Hp):Nat->V->Option V
 |0=>fun _=>none
 |n+1=>fun v=>match v with
  |.none=>some .none
  |.bool b=>some (.bool b)
  |.int i=>some (.int i)
  |.str l=>guard' (codesOk l) (some (.str l))
  |.tup l=>mkT (resL (res H n) l)
  |.lst l=>mkL (resL (res H n) l)
  |.dct _=>none
  |.ref k=>resR (res H n) (look H.es k)
noncomputable def gA(f:V->V->Bool):List V->List V->Bool
 |[]=>fun l=>match l with
  |[]=>true
  |_::_=>false
 |a::r=>fun l=>match l with
  |[]=>false
  |b::s=>match f a b with
   |true=>gA f r s
   |false=>false
noncomputable def b2i(b:Bool):Int:=match b with
 |true=>1
 |false=>0
def teq:Nat->V->V->Bool
 |0=>fun _ _=>false
 |n+1=>fun a b=>match a with
  |.none=>match b with
   |.none=>true
   |_=>false
  |.bool x=>match b with
   |.bool y=>beq' x y
   |.int j=>ieq (b2i x) j
   |_=>false
  |.int x=>match b with
   |.int y=>ieq x y
   |.bool y=>ieq x (b2i y)
   |_=>false
  |.str x=>match b with
   |.str y=>tA x y
   |_=>false
  |.tup x=>match b with
   |.tup y=>gA (teq n) x y
   |_=>false
  |.lst x=>match b with
   |.lst y=>gA (teq n) x y
   |_=>false
  |_=>false
noncomputable def deepN:Nat:=8
noncomputable def cJ:Nat:=7
def mU(H:Hp)(a b:V):Option Bool:=match res H cJ a with
 |some a=>match res H cJ b with
  |some b=>some (teq deepN a b)
  |none=>none
 |none=>none
def fM(g:Bool)(f:V->V->Option Bool):List V->List V->Option Bool
 |[]=>fun l=>match l with
  |[]=>some false
  |_::_=>some (!g)
 |a::r=>fun l=>match l with
  |[]=>some g
  |b::s=>match teq deepN a b with
   |true=>fM g f r s
   |false=>f a b
def Ec(g:Bool)(x y:Int):Bool:=match g with
 |true=>ilt y x
 |false=>ilt x y
def tcmp(g:Bool):Nat->V->V->Option Bool
 |0=>fun _ _=>none
 |n+1=>fun a b=>match a with
  |.int x=>match b with
   |.int y=>some (Ec g x y)
   |_=>none
  |.tup x=>match b with
   |.tup y=>fM g (tcmp g n) x y
   |_=>none
  |_=>none
def jJ(g:Bool)(H:Hp)(a b:V):Option Bool:=match res H cJ a with
 |some a=>match res H cJ b with
  |some b=>tcmp g deepN a b
  |none=>none
 |none=>none
noncomputable def e0:Hp:=⟨0,[]⟩
noncomputable def treeRun{α:Type}(f:Nat->Nat->Option Bool)(t:PySem.W.KasT α):Option α:=t.rec some fun i j _ ih=>match f i j with
 |some c=>ih c
 |none=>none
noncomputable def headKind:V->Nat
 |.tup l=>match l with
  |[]=>0
  |x::_=>match x with
   |.int _=>1
   |.tup _=>2
   |_=>0
 |_=>0
def allKind(k:Nat):List V->Bool
 |[]=>true
 |x::r=>match aF (headKind x) k with
  |true=>allKind k r
  |false=>false
noncomputable def cR(l:List V)(i:Nat):V:=l.getD i .none
def iM(l:List V)(i j:Nat):Option Bool:=jJ false e0 (cR l i) (cR l j)
def CH(l:List V)(r:Option (Array Nat)):Option (List V):=match r with
 |some p=>some (p.toList.map (cR l))
 |none=>none
def sortGo(l:List V)(k:Nat):Option (List V):=match k with
 |0=>none
 |k+1=>guard' (allKind k.succ l) (CH l (treeRun (iM l) (PySem.W.kas_sort l.length)))
def vsort(l:List V):Option (List V):=match l with
 |[]=>some l
 |x::r=>match r with
  |[]=>some l
  |_::_=>guard' (b8 l.length 60) (sortGo l (headKind x))
def tmem(x:V):List V->Bool
 |[]=>false
 |y::r=>match teq deepN y x with
  |true=>true
  |false=>tmem x r
def qd(H:Hp)(x:V)(l:List V):Option Bool:=match res H cJ x with
 |some x=>match resL (res H cJ) l with
  |some l=>some (tmem x l)
  |none=>none
 |none=>none
def inB(lo hi x:Int):Bool:=match ilt x lo with
 |true=>false
 |false=>match ilt hi x with
  |true=>false
  |false=>true
noncomputable def fits(x:Int):Bool:=match b8 x.natAbs 18446744073709551616 with
 |true=>true
 |false=>false
noncomputable def Z8(x y:Int)(H:Hp):Option (V×Hp):=some (.int (x+y),H)
noncomputable def Su(x y:Int)(H:Hp):Option (V×Hp):=some (.int (x - y),H)
def aan(x y:Int)(H:Hp):Option (V×Hp):=guard' (band (fits x) (fits y)) (some (.int (x * y),H))
def aaS(x y:Int)(H:Hp):Option (V×Hp):=guard' (band (!ieq y 0) (band (fits x) (fits y))) (some (.int (x.fdiv y),H))
def Yd(x y:Int)(H:Hp):Option (V×Hp):=guard' (!ieq y 0) (some (.int (x.fmod y),H))
def UX(x y:Int)(H:Hp):Option (V×Hp):=guard' (band (ieq x 2) (ieq y 64)) (some (.int 18446744073709551616,H))
def binI(op:Operator):Int->Int->Hp->Option (V×Hp):=match op with
 |.Add=>Z8
 |.Sub=>Su
 |.Mult=>aan
 |.FloorDiv=>aaS
 |.Mod=>Yd
 |.Pow=>UX
 |_=>fun _ _ _=>none
noncomputable def isAdd:Operator->Bool
 |.Add=>true
 |_=>false
noncomputable def isMul:Operator->Bool
 |.Mult=>true
 |_=>false
def sg(a b:V)(H:Hp):Option (V×Hp):=match listView H a with
 |some x=>match listView H b with
  |some y=>guard' (band (lenOk x) (lenOk y)) (some (newObj H (.list (x++y))))
  |none=>none
 |none=>none
def rep2(n:Int)(v:V)(H:Hp):Option (V×Hp):=guard' (ieq n 2) (some (.tup [v,v],H))
def DJ(x:List V)(n:Int)(H:Hp):Option (V×Hp):=match x with
 |[]=>none
 |v::r=>match r with
  |[]=>rep2 n v H
  |_::_=>none
def BZ(op:Operator)(x:List V)(b:V)(H:Hp):Option (V×Hp):=match b with
 |.tup y=>guard' (band (isAdd op) (band (lenOk x) (lenOk y))) (some (.tup (x++y),H))
 |.int n=>guard' (isMul op) (DJ x n H)
 |_=>none
def binOp(op:Operator)(a b:V)(H:Hp):Option (V×Hp):=match a with
 |.int x=>match b with
  |.int y=>binI op x y H
  |_=>none
 |.tup x=>BZ op x b H
 |a=>guard' (isAdd op) (sg a b H)
noncomputable def jm(r:Option Bool):Option Bool:=match r with
 |some r=>some (!r)
 |none=>none
def inD(l:List (List Int×V))(a:V):Option Bool:=match kA a with
 |some k=>some (dget l k).isSome
 |none=>none
def inS(H:Hp)(a b:V):Option Bool:=match seqView H b with
 |some l=>guard' (lenOk l) (qd H a l)
 |none=>none
def yu(H:Hp)(a b:V):Option Bool:=match dictView H b with
  |some l=>inD l a
  |none=>inS H a b
noncomputable def isNone:V->Bool
 |.none=>true
 |_=>false
def Te(a b:V)(H:Hp):Option Bool:=mU H a b
def ET(a b:V)(H:Hp):Option Bool:=jm (mU H a b)
def XI(a b:V)(H:Hp):Option Bool:=jJ false H a b
def Ui(a b:V)(H:Hp):Option Bool:=jJ true H a b
def pC(a b:V):Option Bool:=match a with
 |.int x=>match b with
  |.int y=>some (!ilt y x)
  |_=>none
 |_=>none
def La(a b:V)(_:Hp):Option Bool:=pC a b
def Qn(a b:V)(_:Hp):Option Bool:=pC b a
def Yo(a b:V)(_:Hp):Option Bool:=guard' (isNone b) (some (isNone a))
def Ur(a b:V)(_:Hp):Option Bool:=guard' (isNone b) (some (!isNone a))
def Ob(a b:V)(H:Hp):Option Bool:=yu H a b
def NU(a b:V)(H:Hp):Option Bool:=jm (inS H a b)
def bu(op:CmpOp):V->V->Hp->Option Bool:=match op with
 |.Eq=>Te
 |.NotEq=>ET
 |.Lt=>XI
 |.Gt=>Ui
 |.GtE=>Qn
 |.LtE=>La
 |.Is=>Yo
 |.IsNot=>Ur
 |.In=>Ob
 |.NotIn=>NU
def subD(l:List (List Int×V))(i:V):Option V:=match kA i with
 |some k=>dget l k
 |none=>none
def subL(l:List V)(i:V):Option V:=match i with
 |.int j=>match j with
  |.ofNat n=>guard' (lenOk l) l[n]?
  |.negSucc _=>none
 |_=>none
def subs(H:Hp)(a i:V):Option V:=match dictView H a with
 |some l=>subD l i
 |none=>match seqView H a with
  |some l=>subL l i
  |none=>none
noncomputable def nat?:V->Option Nat
 |.int (.ofNat n)=>match b8 n 100000 with
  |true=>some n
  |false=>none
 |_=>none
def upT(l:List V)(h:Nat)(H:Hp):Option (V×Hp):=guard' (band (lenOk l) (b8 h l.length)) (some (.tup (l.take h),H))
def fromT(l:List V)(b:Nat)(H:Hp):Option (V×Hp):=guard' (band (lenOk l) (band (b8 b l.length) (b8 1 b))) (some (.tup (l.drop b),H))
def upL(l:List V)(h:Nat)(H:Hp):Option (V×Hp):=guard' (lenOk l) (some (newObj H (.list (l.take h))))
def fromL(l:List V)(b:Nat)(H:Hp):Option (V×Hp):=guard' (band (lenOk l) (b8 b l.length)) (some (newObj H (.list (l.drop b))))
def gN(up:Bool)(a:V)(n:Nat)(H:Hp):Option (V×Hp):=match a with
 |.tup l=>match up with
  |true=>upT l n H
  |false=>fromT l n H
 |a=>match listView H a with
  |some l=>match up with
   |true=>upL l n H
   |false=>fromL l n H
  |none=>none
def sumI:List V->Option Int
 |[]=>some 0
 |.int i::r=>match inB (-1000000000) 1000000000 i with
  |true=>match sumI r with
   |some s=>some (i+s)
   |none=>none
  |false=>none
 |_::_=>none
def maxI:Int->List V->Option Int
 |m,[]=>some m
 |m,.int i::r=>match ilt m i with
  |true=>maxI i r
  |false=>maxI m r
 |_,_::_=>none
noncomputable def anyB:List V->Option Bool
 |[]=>some false
 |.bool b::r=>match anyB r with
  |some c=>match b with
   |true=>some true
   |false=>some c
  |none=>none
 |_::_=>none
noncomputable def z9(v:V):Option (List V):=match v with
 |.tup l=>some l
 |_=>none
noncomputable def EJ(l:List V):Option (V×V):=match l with
 |[]=>none
 |a::r=>match r with
  |[]=>none
  |b::r=>match r with
   |[]=>some (a,b)
   |_::_=>none
def pairsOf:List V->List (List Int×V)->Option (List (List Int×V))
 |[],acc=>some acc
 |p::r,acc=>oo (z9 p) fun l=>oo (EJ l) fun q=>oo (z9 q.1) fun a=>oo (keyOf a) fun k=>pairsOf r (dset acc k q.2)
noncomputable def one(f:V->Hp->Option (V×Hp))(vs:List V)(H:Hp):Option (V×Hp):=match vs with
 |[]=>none
 |v::r=>match r with
  |[]=>f v H
  |_::_=>none
def two(f:V->V->Hp->Option (V×Hp))(vs:List V)(H:Hp):Option (V×Hp):=match vs with
 |[]=>none
 |v::r=>one (f v) r H
noncomputable def nM(f:Int->Int->Int)(a b:V)(H:Hp):Option (V×Hp):=match a with
 |.int x=>match b with
  |.int y=>some (.int (f x y),H)
  |_=>none
 |_=>none
def Ah(v:V)(H:Hp):Option (V×Hp):=match seqView H v with
  |some l=>guard' (lenOk l) (some (.int (.ofNat l.length),H))
  |none=>match dictView H v with
   |some l=>guard' (lenOk l) (some (.int (.ofNat l.length),H))
   |none=>none
noncomputable def retI(r:Option Int)(H:Hp):Option (V×Hp):=match r with
 |some s=>some (.int s,H)
 |none=>none
noncomputable def retB(r:Option Bool)(H:Hp):Option (V×Hp):=match r with
 |some s=>some (.bool s,H)
 |none=>none
def AW(v:V)(H:Hp):Option (V×Hp):=match seqView H v with
  |some l=>guard' (b8 l.length 1000) (retI (sumI l) H)
  |none=>none
def imax(x y:Int):Int:=match ilt x y with
 |true=>y
 |false=>x
def lT(x y:Int):Int:=match ilt y x with
 |true=>y
 |false=>x
def maxL(l:List V):Option Int:=match l with
 |[]=>none
 |v::r=>match v with
  |.int x=>maxI x r
  |_=>none
def xc(v:V)(H:Hp):Option (V×Hp):=match listView H v with
  |some l=>retI (maxL l) H
  |none=>none
def xR(v:V)(H:Hp):Option (V×Hp):=match v with
 |.int x=>some (.int (match ilt x 0 with|true=>-x|false=>x),H)
 |_=>none
def yf(v:V)(H:Hp):Option (V×Hp):=match listView H v with
  |some l=>retB (anyB l) H
  |none=>none
def retL(r:Option (List V))(H:Hp):Option (V×Hp):=match r with
 |some s=>some (newObj H (.list s))
 |none=>none
def u9(r:Option (List (List Int×V)))(H:Hp):Option (V×Hp):=match r with
 |some s=>some (newObj H (.dict s))
 |none=>none
def AK(v:V)(H:Hp):Option (V×Hp):=match listView H v with
  |some l=>retL (vsort l) H
  |none=>none
def JL(v:V)(H:Hp):Option (V×Hp):=match listView H v with
  |some l=>guard' (lenOk l) (some (.tup l,H))
  |none=>none
noncomputable def sP:Int->Bool
 |.ofNat n=>b8 n 8
 |.negSucc _=>false
def smallKey:List Int->Bool
 |[]=>false
 |a::r=>match r with
  |[]=>false
  |b::t=>match t with
   |[]=>band (sP a) (sP b)
   |_::_=>false
def smallKeys:List (List Int×V)->Bool
 |[]=>true
 |e::r=>match smallKey e.1 with
  |true=>smallKeys r
  |false=>false
def yc(v:V)(H:Hp):Option (V×Hp):=match dictView H v with
  |some l=>guard' (band (lenOk l) (smallKeys l)) (some (newObj H (.dict l)))
  |none=>match listView H v with
   |some l=>guard' (lenOk l) (u9 (pairsOf l []) H)
   |none=>none
noncomputable def yD(v:V)(H:Hp):Option (V×Hp):=match v with
 |.int x=>some (.int x,H)
 |_=>none
def cz(b:BI):List V->Hp->Option (V×Hp):=match b with
 |.len=>one Ah
 |.sum=>one AW
 |.max2=>two (nM imax)
 |.maxl=>one xc
 |.min2=>two (nM lT)
 |.abs=>one xR
 |.any=>one yf
 |.sorted=>one AK
 |.tuple=>one JL
 |.dict=>one yc
 |.int=>one yD
def setObj(H:Hp)(n:Nat)(o:bq):Hp:=⟨H.nxt,put H.es n false o⟩
def own(H:Hp):V->Option (Nat×bq)
 |.ref n=>match look H.es n with
  |some e=>match e.lock with
   |true=>none
   |false=>some (n,e.obj)
  |none=>none
 |_=>none
noncomputable def qO(f:Nat->List V->Hp->Option (V×Hp))(n:Nat)(ob:bq)(vs:List V)(H:Hp):Option (V×Hp):=match vs with
 |[]=>match ob with
  |.list l=>f n l H
  |.dict _=>none
 |_::_=>none
def t7(f:Nat->List V->V->Hp->Option (V×Hp))(n:Nat)(ob:bq)(vs:List V)(H:Hp):Option (V×Hp):=match ob with
 |.list l=>one (f n l) vs H
 |.dict _=>none
def CE(n:Nat)(l:List V)(x:V)(H:Hp):Option (V×Hp):=guard' (lenOk l) (some (.none,setObj H n (.list (l++[x]))))
noncomputable def notRef(n:Nat):V->Bool
 |.ref k=>!aF k n
 |_=>true
def Iw(n:Nat)(l:List V)(v:V)(H:Hp):Option (V×Hp):=match listView H v with
 |some x=>guard' (band (notRef n v) (band (lenOk l) (lenOk x))) (some (.none,setObj H n (.list (l++x))))
 |none=>none
def N7:V->Bool
 |.int i=>ieq i 0
 |_=>false
def Bf(n:Nat)(l:List V)(i:V)(H:Hp):Option (V×Hp):=match l with
 |[]=>none
 |x::r=>guard' (band (N7 i) (lenOk r)) (some (x,setObj H n (.list r)))
def EP(n:Nat)(l:List V)(H:Hp):Option (V×Hp):=match l.getLast? with
 |some x=>guard' (lenOk l) (some (x,setObj H n (.list l.dropLast)))
 |none=>none
def CZ(n:Nat)(l:List V)(H:Hp):Option (V×Hp):=guard' (lenOk l) (some (.none,setObj H n (.list l.reverse)))
def EL(n:Nat)(l:List V)(H:Hp):Option (V×Hp):=match vsort l with
 |some s=>some (.none,setObj H n (.list s))
 |none=>none
def yH(d:Option V)(n:Nat)(l:List (List Int×V))(k:List Int)(H:Hp)(r:Option V):Option (V×Hp):=match r with
 |some v=>some (v,setObj H n (.dict (ddel l k)))
 |none=>match d with
  |some d=>some (d,H)
  |none=>none
def oM(d:Option V)(n:Nat)(l:List (List Int×V))(k:V)(H:Hp):Option (V×Hp):=match kA k with
 |some k=>guard' (lenOk l) (yH d n l k H (dget l k))
 |none=>none
def BA(n:Nat)(ob:bq)(vs:List V)(H:Hp):Option (V×Hp):=match ob with
 |.dict l=>one (oM none n l) vs H
 |.list _=>none
def yF(n:Nat)(ob:bq)(vs:List V)(H:Hp):Option (V×Hp):=match ob with
 |.dict l=>two (fun k d=>oM (some d) n l k) vs H
 |.list _=>none
def Dx(m:eZ):Nat->bq->List V->Hp->Option (V×Hp):=match m with
 |.append=>t7 CE
 |.extend=>t7 Iw
 |.pop0=>t7 Bf
 |.jZ=>qO EP
 |.reverse=>qO CZ
 |.sort=>qO EL
 |.dpop1=>BA
 |.dpopN=>yF
def eC(m:eZ)(o:V)(vs:List V)(H:Hp):Option (V×Hp):=match own H o with
 |none=>none
 |some (n,ob)=>Dx m n ob vs H
def vY(n:Nat)(l:List V)(i v:V)(H:Hp):Option Hp:=match i with
 |.int j=>match j with
  |.ofNat k=>guard' (band (c8 k l.length) (lenOk l)) (some (setObj H n (.list (l.set k v))))
  |.negSucc _=>none
 |_=>none
def JI(n:Nat)(l:List (List Int×V))(i v:V)(H:Hp):Option Hp:=match kA i with
 |some k=>guard' (lenOk l) (some (setObj H n (.dict (dset l k v))))
 |none=>none
def storeO(n:Nat)(ob:bq)(i v:V)(H:Hp):Option Hp:=match ob with
 |.list l=>vY n l i v H
 |.dict l=>JI n l i v H
def iI(H:Hp)(o i v:V):Option Hp:=match own H o with
 |none=>none
 |some p=>match p with
  |(n,ob)=>storeO n ob i v H
noncomputable def cF:ai->Nat->Option V
 |[],_=>none
 |x::_,0=>x
 |_::r,n+1=>cF r n
noncomputable def slotS:ai->Nat->Option V->ai
 |[],_,_=>[]
 |_::r,0,v=>v::r
 |x::r,n+1,v=>x::slotS r n v
def slotC:ai->List Nat->ai
 |ρ,[]=>ρ
 |ρ,i::is=>slotC (slotS ρ i none) is
def bindTs:ai->List Nat->List V->Option ai
 |ρ,[],[]=>some ρ
 |ρ,i::is,v::vs=>bindTs (slotS ρ i (some v)) is vs
 |_,_,_=>none
def eB(ρ:ai)(tg:List Nat)(many:Bool)(v:V):Option ai:=match many with
 |false=>bindTs ρ tg [v]
 |true=>match v with
  |.tup l=>bindTs ρ tg l
  |_=>none
noncomputable def rangeL(a:Int):Nat->List V
 |0=>[]
 |n+1=>.int a::rangeL (a+1) n
noncomputable def enumL:Int->List V->List V
 |_,[]=>[]
 |i,x::r=>.tup [.int i,x]::enumL (i+1) r
noncomputable def zipL:List V->List V->List V
 |x::r,y::s=>.tup [x,y]::zipL r s
 |_,_=>[]
def iterOf(H:Hp)(ik:IK)(vs:List V):Option (List V):=match ik,vs with
 |.seq,[v]=>ze H v
 |.enum,[v]=>match seqView H v with
  |some l=>some (enumL 0 l)
  |none=>none
 |.range1,[.int b]=>match inB (-100000) 100000 b with
  |true=>some (rangeL 0 b.toNat)
  |false=>none
 |.range2,[.int a,.int b]=>match inB (-100000) 100000 a with
  |true=>match inB (-100000) 100000 b with
   |true=>some (rangeL a (b - a).toNat)
   |false=>none
  |false=>none
 |.zip,[a,b]=>match listView H a,listView H b with
  |some x,some y=>some (zipL x y)
  |_,_=>none
 |_,_=>none
def cN(es:List Ent)(v:V):List Ent:=match v with
 |.ref n=>match look es n with
  |some e=>put es n true e.obj
  |none=>es
 |_=>es
def nk:List Ent->List V->List Ent
 |es,[]=>es
 |es,v::r=>nk (cN es v) r
def tP(es:List Ent)(n:Nat)(x y:Option Ent):List Ent:=match x with
 |none=>es
 |some e=>match y with
  |none=>es
  |some f=>put es n e.lock f.obj
def gQ(dQ es:List Ent)(v:V):List Ent:=match v with
 |.ref n=>tP es n (look dQ n) (look es n)
 |_=>es
def eD(dQ:List Ent):List Ent->List V->List Ent
 |es,[]=>es
 |es,v::r=>eD dQ (gQ dQ es v) r
section
variable (dn:ME->ai->Hp->Option (V×Hp))
noncomputable def ob{A B:Type}(x:Option (A×Hp))(f:A->Hp->Option B):Option B:=match x with
 |some p=>match p with
  |(a,H)=>f a H
 |none=>none
def denL(ρ:ai):List ME->Hp->Option (List V×Hp)
 |[]=>fun H=>some ([],H)
 |e::r=>fun H=>ob (dn e ρ H) fun v H=>ob (denL ρ r H) fun vs H=>some (v::vs,H)
def cK{B:Type}(x:Option (V×Hp))(f:Bool->Hp->Option B):Option B:=ob x fun v H=>match v with
 |.bool b=>f b H
 |_=>none
def iT(ρ:ai):List ME->Hp->Option (V×Hp)
 |[]=>fun _=>none
 |e::r=>fun H=>cK (dn e ρ H) fun b H=>match r with
   |[]=>some (.bool b,H)
   |_::_=>match b with
    |true=>iT ρ r H
    |false=>some (.bool false,H)
def iS(ρ:ai):List ME->Hp->Option (V×Hp)
 |[]=>fun _=>none
 |e::r=>fun H=>cK (dn e ρ H) fun b H=>match r with
   |[]=>some (.bool b,H)
   |_::_=>match b with
    |false=>iS ρ r H
    |true=>some (.bool true,H)
def denIfs(ρ:ai):List ME->Hp->Option (Bool×Hp)
 |[]=>fun H=>some (true,H)
 |e::r=>fun H=>cK (dn e ρ H) fun b H=>match b with
  |true=>denIfs ρ r H
  |false=>some (false,H)
noncomputable def forItems(f:V->Hp->Option Hp):List V->Hp->Option Hp
 |[]=>fun H=>some H
 |v::r=>fun H=>match f v H with
  |some H=>forItems f r H
  |none=>none
noncomputable def qL(go:Hp->Option Hp)(b:Bool)(H:Hp):Option Hp:=match b with
 |true=>go H
 |false=>some H
def turn(tg:List Nat)(many:Bool)(ifs:List ME)(go:ai->Hp->Option Hp)(ρ:ai)(v:V)(H:Hp):Option Hp:=
 match eB ρ tg many v with
 |some ρ=>ob (denIfs dn ρ ifs H) (qL (go ρ))
 |none=>none
def lockH(H:Hp)(vs:List V):Hp:=⟨H.nxt,nk H.es vs⟩
def unlH(es:List Ent)(vs:List V)(r:Option Hp):Option Hp:=match r with
 |some H=>some ⟨H.nxt,eD es H.es vs⟩
 |none=>none
def runGens(emit:ai->Hp->Option Hp):List Gen->ai->Hp->Option Hp
 |[]=>emit
 |(tg,many,ik,es,ifs)::gs=>fun ρ H=>ob (denL dn ρ es H) fun vs H=>match iterOf H ik vs with
   |some items=>unlH H.es vs (forItems (turn dn tg many ifs (runGens emit gs) ρ) items (lockH H vs))
   |none=>none
end
noncomputable abbrev DN:=ME->ai->Hp->Option (V×Hp)
noncomputable def RF(v:V)(_:DN)(_:ai)(H:Hp):Option (V×Hp):=some (v,H)
def aaz(i:Nat)(_:DN)(ρ:ai)(H:Hp):Option (V×Hp):=match cF ρ i with
 |some v=>some (v,H)
 |none=>none
def aad(op:Operator)(a b:ME)(dn:DN)(ρ:ai)(H:Hp):Option (V×Hp):=
 ob (dn a ρ H) fun x H=>ob (dn b ρ H) fun y H=>binOp op x y H
noncomputable def uD(v:V)(H:Hp):Option (V×Hp):=match v with
 |.int i=>some (.int (-i),H)
 |_=>none
def P6(a:ME)(dn:DN)(ρ:ai)(H:Hp):Option (V×Hp):=ob (dn a ρ H) uD
noncomputable def oA(v:V)(H:Hp):Option (V×Hp):=match v with
 |.bool b=>some (.bool (!b),H)
 |_=>none
def YK(a:ME)(dn:DN)(ρ:ai)(H:Hp):Option (V×Hp):=ob (dn a ρ H) oA
def RH(l:List ME)(dn:DN)(ρ:ai)(H:Hp):Option (V×Hp):=iT dn ρ l H
def M3(l:List ME)(dn:DN)(ρ:ai)(H:Hp):Option (V×Hp):=iS dn ρ l H
def VZ(op:CmpOp)(a b:ME)(dn:DN)(ρ:ai)(H:Hp):Option (V×Hp):=
 ob (dn a ρ H) fun x H=>ob (dn b ρ H) fun y H=>retB (bu op x y H) H
def Yr(t a b:ME)(dn:DN)(ρ:ai)(H:Hp):Option (V×Hp):=ob (dn t ρ H) fun v H=>match v with
 |.bool c=>match c with
  |true=>dn a ρ H
  |false=>dn b ρ H
 |_=>none
def Lz(g:CF)(args:List ME)(dn:DN)(ρ:ai)(H:Hp):Option (V×Hp):=ob (denL dn ρ args H) g
def MO(b:BI)(args:List ME)(dn:DN)(ρ:ai)(H:Hp):Option (V×Hp):=ob (denL dn ρ args H) (cz b)
noncomputable def F3:eZ->Bool
 |.dpop1=>false
 |.dpopN=>false
 |_=>true
def fZ(m:eZ)(x:Option (Nat×bq)):Bool:=match x with
 |some p=>match p with
  |(_,o)=>match o with
   |.list _=>F3 m
   |.dict _=>!F3 m
 |none=>false
def QG(m:eZ)(o:ME)(args:List ME)(dn:DN)(ρ:ai)(H:Hp):Option (V×Hp):=
 ob (dn o ρ H) fun ov H=>guard' (fZ m (own H ov)) (ob (denL dn ρ args H) fun vs H=>eC m ov vs H)
noncomputable def tw(r:Option V)(H:Hp):Option (V×Hp):=match r with
 |some s=>some (s,H)
 |none=>none
def UL(a i:ME)(dn:DN)(ρ:ai)(H:Hp):Option (V×Hp):=
 ob (dn a ρ H) fun x H=>ob (dn i ρ H) fun y H=>tw (subs H x y) H
def j6(up:Bool)(a:V)(n:Option Nat)(H:Hp):Option (V×Hp):=match n with
 |some n=>gN up a n H
 |none=>none
def aaH(up:Bool)(a b:ME)(dn:DN)(ρ:ai)(H:Hp):Option (V×Hp):=
 ob (dn a ρ H) fun x H=>ob (dn b ρ H) fun y H=>j6 up x (nat? y) H
def sW(v:V)(H:Hp):Option (V×Hp):=match v with
 |.tup l=>guard' (lenOk l) (some (.tup l.reverse,H))
 |_=>none
def Ze(a:ME)(dn:DN)(ρ:ai)(H:Hp):Option (V×Hp):=ob (dn a ρ H) sW
def Q3(l:List ME)(dn:DN)(ρ:ai)(H:Hp):Option (V×Hp):=ob (denL dn ρ l H) fun vs H=>some (.tup vs,H)
def dList(l:List ME)(dn:DN)(ρ:ai)(H:Hp):Option (V×Hp):=ob (denL dn ρ l H) fun vs H=>some (newObj H (.list vs))
def XH(_:DN)(_:ai)(H:Hp):Option (V×Hp):=some (newObj H (.dict []))
def cp(n:Nat)(e:ME)(dn:DN)(ρ:ai)(H:Hp):Option Hp:=ob (dn e ρ H) fun v H=>match own H (.ref n)with
 |some p=>match p with
  |(_,o)=>match o with
   |.list l=>guard' (lenOk l) (some (setObj H n (.list (l++[v]))))
   |.dict _=>none
 |none=>none
def iZ(n:Nat)(k v:ME)(dn:DN)(ρ:ai)(H:Hp):Option Hp:=ob (dn k ρ H) fun kv H=>ob (dn v ρ H) fun v H=>match kA kv with
 |some k=>match own H (.ref n)with
  |some p=>match p with
   |(_,o)=>match o with
    |.dict l=>guard' (lenOk l) (some (setObj H n (.dict (dset l k v))))
    |.list _=>none
  |none=>none
 |none=>none
noncomputable def dw(n:Nat)(r:Option Hp):Option (V×Hp):=match r with
 |some H=>some (.ref n,H)
 |none=>none
def aag(k v:ME)(dn:DN)(ρ:ai)(H:Hp):Option (V×Hp):=dw H.nxt (iZ H.nxt k v dn ρ (newObj H (.dict [])).2)
def compGo(n:Nat)(f:V->Hp->Option Hp)(items vs:List V)(H:Hp):Option (V×Hp):=dw n (unlH H.es vs (forItems f items (lockH H vs)))
def rX(emit:Nat->ai->Hp->Option Hp)(Lx:bq)(clr:List Nat)(gens:List Gen)(dn:DN)(ρ:ai)(H:Hp):Option (V×Hp):=match gens with
 |[]=>none
 |g::gs=>match g with
  |(tg,many,ik,es,ifs)=>ob (denL dn ρ es H) fun vs H=>match iterOf H ik vs with
   |some items=>compGo H.nxt (turn dn tg many ifs (runGens dn (emit H.nxt) gs) (slotC ρ clr)) items vs (newObj H Lx).2
   |none=>none
def DU(clr:List Nat)(e:ME)(gens:List Gen)(dn:DN):ai->Hp->Option (V×Hp):=rX (fun n=>cp n e dn) (.list []) clr gens dn
def Jj(clr:List Nat)(k v:ME)(gens:List Gen)(dn:DN):ai->Hp->Option (V×Hp):=rX (fun n=>iZ n k v dn) (.dict []) clr gens dn
def n8(e:ME):DN->ai->Hp->Option (V×Hp):=match e with
 |.const v=>RF v
 |.var i=>aaz i
 |.bin op a b=>aad op a b
 |.neg a=>P6 a
 |.lE a=>YK a
 |.lz l=>RH l
 |.eT l=>M3 l
 |.cmp op a b=>VZ op a b
 |.ite t a b=>Yr t a b
 |.call g args=>Lz g args
 |.bi b args=>MO b args
 |.cP m o args=>QG m o args
 |.sub a i=>UL a i
 |.slice up a b=>aaH up a b
 |.rev a=>Ze a
 |.tup l=>Q3 l
 |.list l=>dList l
 |.ji=>XH
 |.nj k v=>aag k v
 |.lcomp clr e gens=>DU clr e gens
 |.dcomp clr k v gens=>Jj clr k v gens
def den:Nat->DN
 |0=>fun _ _ _=>none
 |n+1=>fun e=>n8 e (den n)
noncomputable abbrev DS:=MS->ai->Hp->Option (Fl×ai×Hp)
noncomputable def sb(x:Option (Fl×ai×Hp))(f:Fl->ai->Hp->Option (Fl×ai×Hp)):Option (Fl×ai×Hp):=match x with
 |some p=>match p with
  |(a,q)=>match q with
   |(ρ,H)=>f a ρ H
 |none=>none
def denSs(ds:DS):List MS->ai->Hp->Option (Fl×ai×Hp)
 |[]=>fun ρ H=>some (.next,ρ,H)
 |s::r=>fun ρ H=>sb (ds s ρ H) fun f ρ H=>match f with
  |.next=>denSs ds r ρ H
  |.cont=>some (.cont,ρ,H)
  |.ret v=>some (.ret v,ρ,H)
def fm(t:ai->Hp->Option (V×Hp))(b:ai->Hp->Option (Fl×ai×Hp)):Nat->ai->Hp->Option (Fl×ai×Hp)
 |0=>fun _ _=>none
 |n+1=>fun ρ H=>cK (t ρ H) fun c H=>match c with
  |true=>sb (b ρ H) fun f ρ H=>match f with
   |.next=>fm t b n ρ H
   |.cont=>fm t b n ρ H
   |.ret v=>some (.ret v,ρ,H)
  |false=>some (.next,ρ,H)
def loopF(tg:List Nat)(many:Bool)(b:ai->Hp->Option (Fl×ai×Hp)):List V->ai->Hp->Option (Fl×ai×Hp)
 |[]=>fun ρ H=>some (.next,ρ,H)
 |v::r=>fun ρ H=>match eB ρ tg many v with
  |some ρ=>sb (b ρ H) fun f ρ H=>match f with
   |.next=>loopF tg many b r ρ H
   |.cont=>loopF tg many b r ρ H
   |.ret v=>some (.ret v,ρ,H)
  |none=>none
def aap(i:Nat)(e:ME)(dn:DN)(_:DS)(ρ:ai)(H:Hp):Option (Fl×ai×Hp):=ob (dn e ρ H) fun v H=>some (.next,slotS ρ i (some v),H)
noncomputable def uL(ρ:Option ai)(H:Hp):Option (Fl×ai×Hp):=match ρ with
 |some ρ=>some (.next,ρ,H)
 |none=>none
def OM(is:List Nat)(e:ME)(dn:DN)(_:DS)(ρ:ai)(H:Hp):Option (Fl×ai×Hp):=ob (dn e ρ H) fun v H=>uL (eB ρ is true v) H
noncomputable def tE(ρ:ai)(H:Option Hp):Option (Fl×ai×Hp):=match H with
 |some H=>some (.next,ρ,H)
 |none=>none
def Xz(o i e:ME)(dn:DN)(_:DS)(ρ:ai)(H:Hp):Option (Fl×ai×Hp):=
 ob (dn e ρ H) fun v H=>ob (dn o ρ H) fun ov H=>ob (dn i ρ H) fun iv H=>tE ρ (iI H ov iv v)
def augV(op:Operator)(x y:V)(H:Hp):Option (V×Hp):=match x with
 |.int a=>match y with
  |.int b=>binI op a b H
  |_=>none
 |_=>none
def XQ(i:Nat)(op:Operator)(e:ME)(dn:DN)(_:DS)(ρ:ai)(H:Hp):Option (Fl×ai×Hp):=match cF ρ i with
 |some x=>ob (dn e ρ H) fun y H=>ob (augV op x y H) fun r H=>some (.next,slotS ρ i (some r),H)
 |none=>none
def Nn(e:ME)(dn:DN)(_:DS)(ρ:ai)(H:Hp):Option (Fl×ai×Hp):=ob (dn e ρ H) fun _ H=>some (.next,ρ,H)
def SX(t:ME)(a b:List MS)(dn:DN)(ds:DS)(ρ:ai)(H:Hp):Option (Fl×ai×Hp):=cK (dn t ρ H) fun c H=>match c with
 |true=>denSs ds a ρ H
 |false=>denSs ds b ρ H
def Us(t:ME)(b:List MS)(dn:DN)(ds:DS)(ρ:ai)(H:Hp):Option (Fl×ai×Hp):=fm (dn t) (denSs ds b) 1000 ρ H
def sunl(es:List Ent)(vs:List V)(r:Option (Fl×ai×Hp)):Option (Fl×ai×Hp):=sb r fun f ρ H=>some (f,ρ,⟨H.nxt,eD es H.es vs⟩)
def Md(tg:List Nat)(many:Bool)(ik:IK)(es:List ME)(b:List MS)(dn:DN)(ds:DS)(ρ:ai)(H:Hp):Option (Fl×ai×Hp):=
 ob (denL dn ρ es H) fun vs H=>match iterOf H ik vs with
  |some items=>sunl H.es vs (loopF tg many (denSs ds b) items ρ (lockH H vs))
  |none=>none
def Om(e:ME)(dn:DN)(_:DS)(ρ:ai)(H:Hp):Option (Fl×ai×Hp):=ob (dn e ρ H) fun v H=>some (.ret v,ρ,H)
noncomputable def Of(_:DN)(_:DS)(ρ:ai)(H:Hp):Option (Fl×ai×Hp):=some (.cont,ρ,H)
noncomputable def PX(_:DN)(_:DS)(_:ai)(_:Hp):Option (Fl×ai×Hp):=none
def De(s:MS):DN->DS->ai->Hp->Option (Fl×ai×Hp):=match s with
 |.assign i e=>aap i e
 |.unpack is e=>OM is e
 |.store o i e=>Xz o i e
 |.aug i op e=>XQ i op e
 |.expr e=>Nn e
 |.if_ t a b=>SX t a b
 |.while_ t b=>Us t b
 |.for_ tg many ik es b=>Md tg many ik es b
 |.ret e=>Om e
 |.cont=>Of
 |.stuck=>PX
def denS:Nat->DS
 |0=>fun _ _ _=>none
 |n+1=>fun s=>De s (den n) (denS n)
def freezeV(es:List Ent)(n₀:Nat):Nat->V->V
 |0,v=>v
 |k+1,v=>match v with
  |.ref n=>match b8 n₀ n with
   |true=>match look es n with
    |some e=>match e.obj with
     |.list l=>.lst (l.map (freezeV es n₀ k))
     |.dict l=>.dct l
    |none=>.ref n
   |false=>.ref n
  |.tup l=>.tup (l.map (freezeV es n₀ k))
  |v=>v
noncomputable def dropNew(n₀:Nat):List Ent->List Ent
 |[]=>[]
 |e::r=>match b8 n₀ e.id with
  |true=>dropNew n₀ r
  |false=>e::dropNew n₀ r
def leaveF(H H':Hp)(v:V):V×Hp:=(freezeV H'.es H.nxt 3 v,⟨H'.nxt,dropNew H.nxt H'.es⟩)
def F6(H H':Hp)(n:Nat)(x:Option Ent):V×Hp:=match x with
 |some e=>(.ref n,⟨H'.nxt,e::dropNew H.nxt H'.es⟩)
 |none=>(.ref n,⟨H'.nxt,dropNew H.nxt H'.es⟩)
def leave(keep:Bool)(H H':Hp)(v:V):V×Hp:=match keep with
 |false=>leaveF H H' v
 |true=>match v with
  |.ref n=>match b8 H.nxt n with
   |true=>F6 H H' n (look H'.es n)
   |false=>leaveF H H' v
  |v=>leaveF H H' v
def mkEnd(keep:Bool)(H:Hp)(x:Option (Fl×ai×Hp)):Option (V×Hp):=match x with
 |some p=>match p with
  |(a,q)=>match q with
   |(_,H')=>match a with
    |.ret v=>some (leave keep H H' v)
    |.next=>some (leave keep H H' .none)
    |.cont=>none
 |none=>none
noncomputable def rE:List V->Nat->Nat->Option ai
 |[],0,n=>some (cu n none)
 |[],_+1,_=>none
 |_::_,0,_=>none
 |v::r,k+1,n=>match rE r k n with
  |some ρ=>some (some v::ρ)
  |none=>none
def bA(arity slots:Nat)(body:List MS)(keep:Bool):CF:=fun args H=>match rE args arity slots with
 |some ρ=>mkEnd keep H (denSs (denS 20) body ρ H)
 |none=>none
end
section
open PySem
inductive iU (F:Type) where
 |val (v:V)
 |fn (g:F)
 |bi (b:BI)
 |it (k:IK)
noncomputable abbrev GI:=iU CF
structure cG (F:Type) where
 names:List (Str×NameKind)
 vm:List (Str×Nat)
 nx:Nat
 gl:List (Str×iU F)
noncomputable abbrev Cx:=cG CF
section
variable {F:Type}
noncomputable def cG.slot(c:cG F)(x:Str):Option Nat:=match c.names.lookup x with
 |some .local=>c.vm.lookup x
 |some .cell=>c.vm.lookup x
 |some .free=>c.vm.lookup x
 |_=>none
noncomputable def cG.tgt(c:cG F)(x:Str):Option Nat:=match c.names.lookup x with
 |some .local=>c.vm.lookup x
 |some .cell=>c.vm.lookup x
 |_=>none
noncomputable def cG.glob(c:cG F)(x:Str):Option (iU F):=match c.names.lookup x with
 |some .globalImplicit=>c.gl.lookup x
 |_=>none
noncomputable def optL{α β:Type}(f:α->Option β):List α->Option (List β)
 |[]=>some []
 |a::r=>match f a with
  |some b=>match optL f r with
   |some bs=>some (b::bs)
   |none=>none
  |none=>none
noncomputable def oe{A B:Type}(x:Option A)(f:A->B)(d:B):B:=match x with
 |some a=>f a
 |none=>d
noncomputable def sole{A:Type}(l:List A):Option A:=match l with
 |[]=>none
 |a::r=>match r with
  |[]=>some a
  |_::_=>none
noncomputable def isNil{A:Type}(l:List A):Bool:=match l with
 |[]=>true
 |_::_=>false
noncomputable def nameOf(e:PySem.Expr):Option Str:=match e with
 |.Name x _=>some x
 |_=>none
noncomputable def qw(e:PySem.Expr):Option (List PySem.Expr):=match e with
 |.Tuple es _ _=>some es
 |_=>none
def jM(c:cG F)(e:PySem.Expr):Option Nat:=oo (nameOf e) c.tgt
def compT(c:cG F)(e:PySem.Expr):Option (List Nat×Bool):=oe (nameOf e) (fun x=>oo (c.tgt x) fun i=>some ([i],false)) (oo (qw e) fun es=>oo (optL (jM c) es) fun is=>some (is,true))
def pD:List Nat->Bool
 |[]=>true
 |a::r=>band (!r.any (aF a)) (pD r)
noncomputable def ownSlots:List (Str×NameKind)->Nat->List (Str×Nat)
 |[],_=>[]
 |(x,k)::r,n=>match k with
  |.local=>(x,n)::ownSlots r (n+1)
  |.cell=>(x,n)::ownSlots r (n+1)
  |_=>ownSlots r n
noncomputable def cG.freeOk(c:cG F)(x:Str):Option Nat:=match c.names.lookup x with
 |some .cell=>c.vm.lookup x
 |some .free=>c.vm.lookup x
 |_=>none
def freeSlots(c:cG F):List (Str×NameKind)->Option (List (Str×Nat))
 |[]=>some []
 |(x,k)::r=>match k with
  |.free=>match c.freeOk x with
   |some i=>match freeSlots c r with
    |some l=>some ((x,i)::l)
    |none=>none
   |none=>none
  |_=>freeSlots c r
def pM:List Str->Bool
 |[]=>true
 |a::r=>band (!r.contains a) (pM r)
def cellHas(vm:List (Str×Nat)):List (Str×NameKind)->Bool
 |[]=>true
 |(z,k)::r=>match k with
  |.cell=>band (vm.lookup z).isSome (cellHas vm r)
  |_=>cellHas vm r
def noDict:List (Str×Nat)->Bool
 |[]=>true
 |(z,_)::r=>band (!(z == ("__classdict__" : Str))) (noDict r)
def cxOk(c:cG F):Bool:=band (pD (c.vm.map (·.2))) (band (pM (c.names.map (·.1))) (band (noDict c.vm) (cellHas c.vm c.names)))
noncomputable def isFn:ScopeKind->Bool
 |.function=>true
 |_=>false
def innerCx(c:cG F)(names:List (Str×NameKind))(fr:List (Str×Nat)):cG F:=⟨names,ownSlots names c.nx++fr,c.nx+(ownSlots names c.nx).length,c.gl⟩
def cG.inner(c:cG F)(sc:Scope):Option (cG F×List Nat):=match isFn sc.kind with
 |true=>match freeSlots c sc.names with
  |some fr=>match cxOk (innerCx c sc.names fr)with
   |true=>some (innerCx c sc.names fr,(ownSlots sc.names c.nx).map (·.2))
   |false=>none
  |none=>none
 |false=>none
noncomputable def okIt:IK->Bool->Bool
 |.enum,b=>b
 |.zip,b=>b
 |_,_=>true
def isZ0(a:bF F):Bool:=match a with
 |.const v=>match v with
  |.int i=>ieq i 0
  |_=>false
 |_=>false
noncomputable def pickM(b:Bool)(x y:eZ):eZ:=match b with
 |true=>x
 |false=>y
def Gj(as:List (bF F)):Option eZ:=match as with
 |[]=>some .jZ
 |a::r=>match r with
  |[]=>some (pickM (isZ0 a) .pop0 .dpop1)
  |_::r=>guard' (isNil r) (some .dpopN)
noncomputable def q0{A:Type}(b:Bool)(x y:Option A):Option A:=match b with
 |true=>x
 |false=>y
def yy(name:Str)(n:Nat)(as:List (bF F)):Option eZ:=
 q0 (decide (name=Str.ofString "append")) (guard' (aF n 1) (some .append)) (q0 (decide (name=Str.ofString "extend")) (guard' (aF n 1) (some .extend)) (q0 (decide (name=Str.ofString "pop")) (Gj as)
  (q0 (decide (name=Str.ofString "reverse")) (guard' (aF n 0) (some .reverse)) (q0 (decide (name=Str.ofString "sort")) (guard' (aF n 0) (some .sort)) none))))
noncomputable def lN:List (tn F)->List Nat
 |[]=>[]
 |g::r=>g.1++lN r
def iK(clr:List Nat)(gs:List (tn F)):Bool:=band (pD (lN gs)) ((lN gs).all fun i=>clr.any (aF i))
noncomputable def isRec:PySem.Expr->Bool
 |.Name _ _=>true
 |.Subscript _ _ _=>true
 |_=>false
def qp(b:BI)(n:Nat):Option BI:=match b with
 |.max2=>match aF n 2 with
  |true=>some .max2
  |false=>guard' (aF n 1) (some .maxl)
 |.min2=>guard' (aF n 2) (some .min2)
 |b=>guard' (aF n 1) (some b)
noncomputable def callE(e:PySem.Expr):Option (PySem.Expr×List PySem.Expr×List PySem.Keyword):=match e with
 |.Call f as kws _=>some (f,as,kws)
 |_=>none
def IZ(e:PySem.Expr):Option (Str×List PySem.Expr):=oo (callE e) fun q=>guard' (isNil q.2.2) (oo (nameOf q.1) fun x=>some (x,q.2.1))
noncomputable def EG(g:iU F):Option IK:=match g with
 |.it k=>some k
 |_=>none
def ve(k:IK)(n:Nat):Option IK:=match k with
 |.enum=>guard' (aF n 1) (some .enum)
 |.range1=>match aF n 1 with
  |true=>some .range1
  |false=>guard' (aF n 2) (some .range2)
 |.zip=>guard' (aF n 2) (some .zip)
 |_=>none
def compIt(c:cG F)(ce:PySem.Expr->Option (bF F))(e:PySem.Expr):Option (IK×List (bF F)):=
 oe (oo (IZ e) fun q=>oo (c.glob q.1) fun g=>oo (EG g) fun k=>some (k,q.2))
  (fun q=>oo (optL ce q.2) fun ms=>oo (ve q.1 ms.length) fun k=>some (k,ms))
  (oo (ce e) fun m=>some (.seq,[m]))
def compGens(ce:cG F->PySem.Expr->Option (bF F))(c:cG F):cG F->List PySem.Comprehension->Option (List (tn F))
 |_,[]=>some []
 |out,g::r=>guard' (decide (g.is_async=0)) (oo (compT c g.target) fun t=>oo (compIt out (ce out) g.iter) fun k=>oo (optL (ce c) g.ifs) fun fs=>guard' (okIt k.1 t.2) (oo (compGens ce c c r) fun gs=>some ((t.1,t.2,k.1,k.2,fs)::gs)))
def gsOk(clr:List Nat)(gs:List (tn F)):Bool:=match gs with
 |[]=>false
 |_::_=>iK clr gs
noncomputable def cConst(k:Const):Option (bF F):=match k with
 |.none=>some (.const .none)
 |.bool b=>some (.const (.bool b))
 |.int i=>some (.const (.int i))
 |.str s=>some (.const (.str s.cps.toList))
 |_=>none
noncomputable def valOf(g:iU F):Option V:=match g with
 |.val v=>some v
 |_=>none
def cName(c:cG F)(x:Str):Option (bF F):=guard' (!decide (x=Str.ofString "__debug__")) (oe (c.slot x) (fun i=>some (.var i)) (oo (c.glob x) fun g=>oo (valOf g) fun v=>some (.const v)))
noncomputable def cUn(op:PySem.UnaryOp)(x:bF F):Option (bF F):=match op with
 |.USub=>some (.neg x)
 |.Not=>some (.lE x)
 |_=>none
noncomputable def cBool(op:PySem.BoolOp)(ms:List (bF F)):bF F:=match op with
 |.And=>.lz ms
 |.Or=>.eT ms
def cCall(g:iU F)(ms:List (bF F)):Option (bF F):=match g with
 |.fn f=>some (.call f ms)
 |.bi b=>oo (qp b ms.length) fun b=>some (.bi b ms)
 |_=>none
noncomputable def EA(e:PySem.Expr):Option (PySem.Expr×Str×Pos):=match e with
 |.Attribute o x p=>some (o,x,p)
 |_=>none
noncomputable def sliceOf(e:PySem.Expr):Option (Option PySem.Expr×Option PySem.Expr×Option PySem.Expr):=match e with
 |.Slice a b d _=>some (a,b,d)
 |_=>none
noncomputable def Gd(e:PySem.Expr):Option (PySem.UnaryOp×PySem.Expr):=match e with
 |.UnaryOp op a _=>some (op,a)
 |_=>none
noncomputable def R7(op:PySem.UnaryOp):Bool:=match op with
 |.USub=>true
 |_=>false
noncomputable def intOf(e:PySem.Expr):Option Int:=match e with
 |.Constant (.int i) _ _=>some i
 |_=>none
def Hk(e:PySem.Expr):Option Unit:=oo (Gd e) fun q=>guard' (R7 q.1) (oo (intOf q.2) fun i=>guard' (decide (i=1)) (some ()))
def cSlice(ce:PySem.Expr->Option (bF F))(x:bF F)(lo hi st:Option PySem.Expr):Option (bF F):=match st with
 |some st=>oo (Hk st) fun _=>match lo with
  |some _=>none
  |none=>match hi with
   |some _=>none
   |none=>some (.rev x)
 |none=>match lo with
  |some b=>(match hi with
   |some _=>none
   |none=>oo (ce b) fun y=>some (.slice false x y))
  |none=>oo hi fun b=>oo (ce b) fun y=>some (.slice true x y)
def compE:Nat->cG F->PySem.Expr->Option (bF F)
 |0,_,_=>none
 |n+1,c,e=>match e with
  |.Constant k _ _=>cConst k
  |.Name x _=>cName c x
  |.BinOp a op b _=>oo (compE n c a) fun x=>oo (compE n c b) fun y=>some (.bin op x y)
  |.UnaryOp op a _=>oo (compE n c a) fun x=>cUn op x
  |.BoolOp op l _=>oo (optL (compE n c) l) fun ms=>some (cBool op ms)
  |.Compare a ops bs _=>oo (sole ops) fun op=>oo (sole bs) fun b=>oo (compE n c a) fun x=>oo (compE n c b) fun y=>guard' (!behindInMarks op b) (some (.cmp op x y))
  |.IfExp t a b _=>oo (compE n c t) fun t=>oo (compE n c a) fun a=>oo (compE n c b) fun b=>some (.ite t a b)
  |.Call f as kws pos=>guard' (band (isNil kws) (b8 as.length 4)) (oo (optL (compE n c) as) fun ms=>oe (nameOf f) (fun x=>oo (c.glob x) fun g=>cCall g ms)
   (oo (EA f) fun q=>guard' (band (isRec q.1) (aF q.2.2.endLine pos.line)) (oo (compE n c q.1) fun m=>oo (yy q.2.1 ms.length ms) fun k=>some (.cP k m ms))))
  |.Subscript a i _=>oo (compE n c a) fun x=>oe (sliceOf i) (fun q=>cSlice (compE n c) x q.1 q.2.1 q.2.2) (oo (compE n c i) fun y=>some (.sub x y))
  |.Tuple l _ _=>guard' (b8 l.length 100) (oo (optL (compE n c) l) fun ms=>some (.tup ms))
  |.List l _=>guard' (b8 l.length 100) (oo (optL (compE n c) l) fun ms=>some (.list ms))
  |.Dict ks vs _=>match ks with
   |[]=>guard' (isNil vs) (some .ji)
   |k::r=>guard' (isNil r) (oo k fun k=>oo (sole vs) fun v=>oo (compE n c k) fun k=>oo (compE n c v) fun v=>some (.nj k v))
  |.ListComp e gens scope _=>oo (c.inner scope) fun q=>oo (compE n q.1 e) fun m=>oo (compGens (compE n) q.1 c gens) fun gs=>guard' (gsOk q.2 gs) (some (.lcomp q.2 m gs))
  |.DictComp k v gens scope _=>oo (c.inner scope) fun q=>oo (compE n q.1 k) fun k=>oo (compE n q.1 v) fun v=>oo (compGens (compE n) q.1 c gens) fun gs=>guard' (gsOk q.2 gs) (some (.dcomp q.2 k v gs))
  |_=>none
noncomputable def yK:PySem.Expr->Bool
 |.Tuple vs _ _=>match vs.all (PySem.constantsAlone 8)with
  |true=>vs.all (PySem.foldedForSure 8)
  |false=>true
 |_=>true
noncomputable def JG(e:PySem.Expr):Option (PySem.Expr×PySem.Expr):=match e with
 |.Subscript o i _=>some (o,i)
 |_=>none
def cAsg(c:cG F)(ce:PySem.Expr->Option (bF F))(t e:PySem.Expr)(m:bF F):Option (oS F):=
 oe (nameOf t) (fun x=>oo (c.tgt x) fun i=>some (.assign i m)) (oe (qw t) (fun es=>oo (optL (jM c) es) fun is=>guard' (band (pD is) (yK e)) (some (.unpack is m)))
  (oo (JG t) fun q=>oe (sliceOf q.2) (fun _=>none) (oo (ce q.1) fun a=>oo (ce q.2) fun b=>some (.store a b m))))
def compS:Nat->cG F->PySem.Stmt->Option (oS F)
 |0,_,_=>none
 |n+1,c,s=>match s with
  |.Assign ts e _=>oo (sole ts) fun t=>oo (compE n c e) fun m=>cAsg c (compE n c) t e m
  |.AugAssign t op e _=>oo (nameOf t) fun x=>oo (c.tgt x) fun i=>oo (compE n c e) fun m=>guard' (isAdd op) (some (.aug i op m))
  |.Expr e _=>oo (callE e) fun _=>oo (compE n c e) fun m=>some (.expr m)
  |.If t a b _=>oo (compE n c t) fun t=>oo (optL (compS n c) a) fun a=>oo (optL (compS n c) b) fun b=>some (.if_ t a b)
  |.While t b o _=>guard' (isNil o) (oo (compE n c t) fun t=>oo (optL (compS n c) b) fun b=>some (.while_ t b))
  |.For t it b o _=>guard' (isNil o) (oo (compT c t) fun t=>oo (compIt c (compE n c) it) fun k=>oo (optL (compS n c) b) fun b=>guard' (okIt k.1 t.2) (some (.for_ t.1 t.2 k.1 k.2 b)))
  |.Return e _=>oo e fun e=>oo (compE n c e) fun m=>some (.ret m)
  |.Continue _=>some .cont
  |.Raise _ _ _=>some .stuck
  |_=>none
def iW(gl:List (Str×iU F))(params:List Str)(names:List (Str×NameKind)):cG F:=
 let own:=(params++((names.filter fun x=>match x.2 with|.local=>true|.cell=>true|_=>false).map (·.1)).filter fun x=>!params.contains x)
 ⟨names,own.zipIdx,own.length,gl⟩
end
section
theorem cm{B:Type}{b:Bool}{x:Option B}{y:B}{P:Prop}(h:(match b with|true=>x|false=>none)=some y)(k:b=true->x=some y->P):P:=by cases b with|false=>exact nq h|true=>exact k rfl h
theorem kb1{B:Type}{b:Bool}{x:Option B}{y:B}{P:Prop}(h:(match b with|false=>none|true=>x)=some y)(k:b=true->x=some y->P):P:=by cases b with|false=>exact nq h|true=>exact k rfl h
theorem kb2{b x:Bool}{P:Prop}(h:(match b with|true=>x|false=>false)=true)(k:b=true->x=true->P):P:=by cases b with|false=>exact bf h|true=>exact k rfl h
theorem fY{B:Type}{x:Option (List V)}{f:List V->Option B}{b:B}{P:Prop}(h:(match x with|some a=>f a|none=>none)=some b)(k:∀a,x=some a->f a=some b->P):P:=by cases x with|none=>exact nq h|some a=>exact k a rfl h
theorem k9{B:Type}{x:Option V}{f:V->Option B}{b:B}{P:Prop}(h:(match x with|some a=>f a|none=>none)=some b)(k:∀a,x=some a->f a=some b->P):P:=by cases x with|none=>exact nq h|some a=>exact k a rfl h
theorem ml{B:Type}{x:Option Ent}{f:Ent->Option B}{b:B}{P:Prop}(h:(match x with|some a=>f a|none=>none)=some b)(k:∀a,x=some a->f a=some b->P):P:=by cases x with|none=>exact nq h|some a=>exact k a rfl h
theorem EH{B:Type}{x:Option (List Int)}{f:List Int->Option B}{b:B}{P:Prop}(h:(match x with|some a=>f a|none=>none)=some b)(k:∀a,x=some a->f a=some b->P):P:=by cases x with|none=>exact nq h|some a=>exact k a rfl h
theorem Z7{x:Option (List Int)}{f:List Int->Bool}{P:Prop}(h:(match x with|some a=>f a|none=>false)=true)(k:∀a,x=some a->f a=true->P):P:=by cases x with|none=>exact bf h|some a=>exact k a rfl h
theorem NN{B:Type}{x:Option (List Int)}{f:List Int->Option B}{b:B}{P:Prop}(h:(match x with|none=>none|some a=>f a)=some b)(k:∀a,x=some a->f a=some b->P):P:=by cases x with|none=>exact nq h|some a=>exact k a rfl h
theorem sj{B:Type}{x:Option Bool}{f:Bool->Option B}{b:B}{P:Prop}(h:(match x with|some a=>f a|none=>none)=some b)(k:∀a,x=some a->f a=some b->P):P:=by cases x with|none=>exact nq h|some a=>exact k a rfl h
theorem Nk{B:Type}{x:Option Bool}{f:Bool->Option B}{b:B}{P:Prop}(h:(match x with|none=>none|some a=>f a)=some b)(k:∀a,x=some a->f a=some b->P):P:=by cases x with|none=>exact nq h|some a=>exact k a rfl h
theorem xl{B:Type}{x:Option (List (List Int×V))}{f:List (List Int×V)->Option B}{b:B}{P:Prop}(h:(match x with|some a=>f a|none=>none)=some b)(k:∀a,x=some a->f a=some b->P):P:=by cases x with|none=>exact nq h|some a=>exact k a rfl h
theorem zx{B:Type}{x:Option Int}{f:Int->Option B}{b:B}{P:Prop}(h:(match x with|some a=>f a|none=>none)=some b)(k:∀a,x=some a->f a=some b->P):P:=by cases x with|none=>exact nq h|some a=>exact k a rfl h
theorem Fu{B:Type}{x:Option Int}{f:Int->Option B}{b:B}{P:Prop}(h:(match x with|none=>none|some a=>f a)=some b)(k:∀a,x=some a->f a=some b->P):P:=by cases x with|none=>exact nq h|some a=>exact k a rfl h
theorem XZ{B:Type}{x:Option Nat}{f:Nat->Option B}{b:B}{P:Prop}(h:(match x with|some a=>f a|none=>none)=some b)(k:∀a,x=some a->f a=some b->P):P:=by cases x with|none=>exact nq h|some a=>exact k a rfl h
theorem y4{B:Type}{x:Option (Array Nat)}{f:Array Nat->Option B}{b:B}{P:Prop}(h:(match x with|some a=>f a|none=>none)=some b)(k:∀a,x=some a->f a=some b->P):P:=by cases x with|none=>exact nq h|some a=>exact k a rfl h
theorem SY{B:Type}{x:Option (List (Str×Nat))}{f:List (Str×Nat)->Option B}{b:B}{P:Prop}(h:(match x with|some a=>f a|none=>none)=some b)(k:∀a,x=some a->f a=some b->P):P:=by cases x with|none=>exact nq h|some a=>exact k a rfl h
theorem Tq{x:Option (List (List Int))}{f:List (List Int)->Bool}{P:Prop}(h:(match x with|some a=>f a|none=>false)=true)(k:∀a,x=some a->f a=true->P):P:=by cases x with|none=>exact bf h|some a=>exact k a rfl h
theorem zV{B:Type}{x:Option (List (List Int))}{f:List (List Int)->Option B}{b:B}{P:Prop}(h:(match x with|none=>none|some a=>f a)=some b)(k:∀a,x=some a->f a=some b->P):P:=by cases x with|none=>exact nq h|some a=>exact k a rfl h
theorem Uk{x:Option (List (List Int))}{f:List (List Int)->Bool}{P:Prop}(h:(match x with|none=>false|some a=>f a)=true)(k:∀a,x=some a->f a=true->P):P:=by cases x with|none=>exact bf h|some a=>exact k a rfl h
end
end
section
open PySem PySem.Calls PyProof.Rows PySem.W
noncomputable abbrev d6(vs:List Value)(n:Nat):Obj:={ cls:=.type "tuple",data:=.seq vs.toArray n }
noncomputable abbrev fe(vs:List Value)(n:Nat):Obj:={ cls:=.type "list",data:=.seq vs.toArray n }
noncomputable abbrev cS(es:List DictEntry)(n:Nat):Obj:={ cls:=.type "dict",data:=.dict es.toArray n }
section
variable (kh:List Int->Int) (φ:Nat->Option Addr) (M:Addr->Prop) (h:Heap)
mutual
inductive VR:V->Value->Prop
 |none:VR .none .none
 |bool (b:Bool):VR (.bool b) (.bool b)
 |int (i:Int) (t:Tok):VR (.int i) (.int i t)
 |str (x:Str) (t:Tok):VR (.str x.cps.toList) (.str x t)
 |tup {a:Addr} {l:List V} {vs:List Value} {n:Nat}:h.get? a=some (d6 vs n)->¬ M a->bD l vs->VR (.tup l) (.ref a)
 |lst {a:Addr} {l:List V} {vs:List Value} {n:Nat}:h.get? a=some (fe vs n)->¬ M a->bD l vs->VR (.lst l) (.ref a)
 |dct {a:Addr} {l:List (List Int×V)} {es:List DictEntry} {n:Nat}:h.get? a=some (cS es n)->a≠sysModules->¬ M a->d4 l es->(l.map (·.1)).Nodup->VR (.dct l) (.ref a)
 |ref {n:Nat} {a:Addr}:φ n=some a->VR (.ref n) (.ref a)
inductive bD:List V->List Value->Prop
 |nil:bD [] []
 |cons {v:V} {x:Value} {l:List V} {vs:List Value}:VR v x->bD l vs->bD (v::l) (x::vs)
inductive d4:List (List Int×V)->List DictEntry->Prop
 |nil:d4 [] []
 |cons {k:List Int} {v:V} {l:List (List Int×V)} {e:DictEntry} {es:List DictEntry} {a:Addr}:e.key = .ref a->e.hash=kh k->VR (.tup (k.map .int)) (.ref a)->VR v e.val->d4 l es->
  d4 ((k,v)::l) (e::es)
end
end
section
variable {kh:List Int->Int} {φ a8:Nat->Option Addr} {M M':Addr->Prop} {h h':Heap}
structure Go (φ a8:Nat->Option Addr) (M M':Addr->Prop) (h h':Heap) (N:V->Prop) (Ns:List V->Prop) (Ne:List (List Int×V)->Prop):Prop where
 it:∀l,N (.tup l)->Ns l
 il:∀l,N (.lst l)->Ns l
 id:∀l,N (.dct l)->Ne l
 is:∀v l,Ns (v::l)->N v/\Ns l
 ie:∀k v l,Ne ((k,v)::l)->N (.tup (k.map .int))/\N v/\Ne l
 r:∀n a,N (.ref n)->φ n=some a->a8 n=some a
 t:∀l b vs n,N (.tup l)->h.get? b=some (d6 vs n)->¬ M b->h'.get? b=some (d6 vs n)/\¬ M' b
 l:∀l b vs n,N (.lst l)->h.get? b=some (fe vs n)->¬ M b->h'.get? b=some (fe vs n)/\¬ M' b
 d:∀l b vs n,N (.dct l)->h.get? b=some (cS vs n)->¬ M b->h'.get? b=some (cS vs n)/\¬ M' b
section
variable {N:V->Prop} {Ns:List V->Prop} {Ne:List (List Int×V)->Prop} (G:Go φ a8 M M' h h' N Ns Ne)
include G
theorem A8(e:h.get? a=some (d6 vs n))(m:¬ M a)(_:bD kh φ M h l vs)(ih:Ns l->bD kh a8 M' h' l vs)(f:N (.tup l)):VR kh a8 M' h' (.tup l) (.ref a):=.tup (G.t _ _ _ _ f e m).1 (G.t _ _ _ _ f e m).2 (ih (G.it _ f))
theorem CC(e:h.get? a=some (fe vs n))(m:¬ M a)(_:bD kh φ M h l vs)(ih:Ns l->bD kh a8 M' h' l vs)(f:N (.lst l)):VR kh a8 M' h' (.lst l) (.ref a):=.lst (G.l _ _ _ _ f e m).1 (G.l _ _ _ _ f e m).2 (ih (G.il _ f))
theorem yN(e:h.get? a=some (cS es n))(z:a≠sysModules)(m:¬ M a)(_:d4 kh φ M h l es)(d:(l.map (·.1)).Nodup)(ih:Ne l->d4 kh a8 M' h' l es)(f:N (.dct l)):VR kh a8 M' h' (.dct l) (.ref a):=.dct (G.d _ _ _ _ f e m).1 z (G.d _ _ _ _ f e m).2 (ih (G.id _ f)) d
theorem Av(_:VR kh φ M h v x)(_:bD kh φ M h l vs)(ia:N v->VR kh a8 M' h' v x)(ir:Ns l->bD kh a8 M' h' l vs)(f:Ns (v::l)):bD kh a8 M' h' (v::l) (x::vs):=.cons (ia (G.is _ _ f).1) (ir (G.is _ _ f).2)
theorem B7(e1:e.key = .ref a)(e2:e.hash=kh k)(_:VR kh φ M h (.tup (k.map .int)) (.ref a))(_:VR kh φ M h v e.val)(_:d4 kh φ M h l es)
  (ik:N (.tup (k.map .int))->VR kh a8 M' h' (.tup (k.map .int)) (.ref a)) (iv:N v->VR kh a8 M' h' v e.val) (ir:Ne l->d4 kh a8 M' h' l es) (f:Ne ((k,v)::l)):d4 kh a8 M' h' ((k,v)::l) (e::es):=.cons e1 e2 (ik (G.ie _ _ _ f).1) (iv (G.ie _ _ _ f).2.1) (ir (G.ie _ _ _ f).2.2)
theorem C9(r:VR kh φ M h v x):N v->VR kh a8 M' h' v x:=
 VR.rec (motive_1:=fun v x _=>N v->VR kh a8 M' h' v x) (motive_2:=fun l vs _=>Ns l->bD kh a8 M' h' l vs) (motive_3:=fun l es _=>Ne l->d4 kh a8 M' h' l es)
  (fun _=>.none) (fun b _=>.bool b) (fun i t _=>.int i t) (fun x t _=>.str x t) (A8 G) (CC G) (yN G) (fun e f=>.ref (G.r _ _ f e)) (fun _=>.nil) (Av G) (fun _=>.nil) (B7 G) r
theorem E3(r:bD kh φ M h l vs):Ns l->bD kh a8 M' h' l vs:=
 bD.rec (motive_1:=fun v x _=>N v->VR kh a8 M' h' v x) (motive_2:=fun l vs _=>Ns l->bD kh a8 M' h' l vs) (motive_3:=fun l es _=>Ne l->d4 kh a8 M' h' l es)
  (fun _=>.none) (fun b _=>.bool b) (fun i t _=>.int i t) (fun x t _=>.str x t) (A8 G) (CC G) (yN G) (fun e f=>.ref (G.r _ _ f e)) (fun _=>.nil) (Av G) (fun _=>.nil) (B7 G) r
theorem EW(r:d4 kh φ M h l es):Ne l->d4 kh a8 M' h' l es:=
 d4.rec (motive_1:=fun v x _=>N v->VR kh a8 M' h' v x) (motive_2:=fun l vs _=>Ns l->bD kh a8 M' h' l vs) (motive_3:=fun l es _=>Ne l->d4 kh a8 M' h' l es)
  (fun _=>.none) (fun b _=>.bool b) (fun i t _=>.int i t) (fun x t _=>.str x t) (A8 G) (CC G) (yN G) (fun e f=>.ref (G.r _ _ f e)) (fun _=>.nil) (Av G) (fun _=>.nil) (B7 G) r
end
noncomputable abbrev tr{α:Sort _}(_:α):Prop:=True
theorem y3(lZ:∀n a,φ n=some a->a8 n=some a)(hk:∀b o,h.get? b=some o->¬ M b->h'.get? b=some o)(hM:∀b o,M' b->h.get? b=some o->M b):Go φ a8 M M' h h' tr tr tr:=
 have q:∀b o,h.get? b=some o->¬ M b->h'.get? b=some o/\¬ M' b:=fun b o e m=>⟨hk b o e m,fun z=>m (hM b o z e)⟩
 ⟨fun _ _=>trivial,fun _ _=>trivial,fun _ _=>trivial,fun _ _ _=>⟨trivial,trivial⟩,fun _ _ _ _=>⟨trivial,trivial,trivial⟩,fun n a _=>lZ n a,fun _ b _ _ _=>q b _,fun _ b _ _ _=>q b _,fun _ b _ _ _=>q b _⟩
theorem VR.mono(lZ:∀n a,φ n=some a->a8 n=some a)(hk:∀b o,h.get? b=some o->¬ M b->h'.get? b=some o)(hM:∀b o,M' b->h.get? b=some o->M b)(r:VR kh φ M h v x):VR kh a8 M' h' v x:=C9 (y3 lZ hk hM) r trivial
theorem bD.mono(lZ:∀n a,φ n=some a->a8 n=some a)(hk:∀b o,h.get? b=some o->¬ M b->h'.get? b=some o)(hM:∀b o,M' b->h.get? b=some o->M b)(r:bD kh φ M h l vs):bD kh a8 M' h' l vs:=E3 (y3 lZ hk hM) r trivial
theorem d4.mono(lZ:∀n a,φ n=some a->a8 n=some a)(hk:∀b o,h.get? b=some o->¬ M b->h'.get? b=some o)(hM:∀b o,M' b->h.get? b=some o->M b)(r:d4 kh φ M h l es):d4 kh a8 M' h' l es:=EW (y3 lZ hk hM) r trivial
theorem bD.length(r:bD kh φ M h l vs):l.length=vs.length:=by
 induction l generalizing vs with
 |nil=>cases r;rfl
 |cons a l ih=>cases r with|cons _ r=>simp [ih r]
theorem bD.append(r:bD kh φ M h l vs)(r':bD kh φ M h l' vs'):bD kh φ M h (l++l') (vs++vs'):=by
 induction l generalizing vs with
 |nil=>cases r;exact r'
 |cons a l ih=>clear r';cases r with|cons a r=>exact .cons a (ih r)
theorem bD.get{l:List V}{vs:List Value}(r:bD kh φ M h l vs){i:Nat}{v:V}(e:l[i]?=some v):∃x,vs[i]?=some x/\VR kh φ M h v x:=by
 induction l generalizing vs i with
 |nil=>simp at e
 |cons a l ih=>
  cases r with
  |cons q r=>
   induction i using bL with
   |zero=>simp at e;clear r ih;subst e;exact⟨_,rfl,q⟩
   |succ i=>simp at e;simpa using ih r e
theorem bD.take(r:bD kh φ M h l vs)(n:Nat):bD kh φ M h (l.take n) (vs.take n):=by
 induction l generalizing vs n with
 |nil=>cases r;simpa using bD.nil
 |cons a l ih=>
  cases r with
  |cons q r=>
   induction n using bL with
   |zero=>simpa using bD.nil
   |succ n=>exact .cons q (ih r n)
theorem bD.drop(r:bD kh φ M h l vs)(n:Nat):bD kh φ M h (l.drop n) (vs.drop n):=by
 induction l generalizing vs n with
 |nil=>cases r;simpa using bD.nil
 |cons a l ih=>
  cases r with
  |cons q r=>
   induction n using bL with
   |zero=>exact .cons q r
   |succ n=>simpa using ih r n
theorem bD.reverse(r:bD kh φ M h l vs):bD kh φ M h l.reverse vs.reverse:=by
 induction l generalizing vs with
 |nil=>cases r;exact .nil
 |cons a l ih=>
  cases r with
  |cons q r=>simp only[List.reverse_cons];exact(ih r).append (.cons q .nil)
theorem bD.set(r:bD kh φ M h l vs)(i:Nat)(q:VR kh φ M h v x):bD kh φ M h (l.set i v) (vs.set i x):=by
 induction l generalizing vs i with
 |nil=>clear q;cases r;simpa using bD.nil
 |cons a l ih=>
  cases r with
  |cons p r=>
   induction i using bL with
   |zero=>exact .cons q r
   |succ n=>exact .cons p (ih r n)
end
structure Ph where
 f:Nat->Option Addr
 fr:Addr->Prop
noncomputable def Own(φ:Ph)(H:Hp)(a:Addr):Prop:=∃e∈H.es,φ.f e.id=some a
noncomputable def aT(φ:Ph)(H:Hp)(a:Addr):Prop:=Own φ H a\/φ.fr a
noncomputable def gS(φ:Ph)(H:Hp)(a:Addr):Prop:=∃e∈H.es,e.lock=false/\φ.f e.id=some a
theorem gS.own(x:gS φ H a):Own φ H a:=let ⟨e,m,_,q⟩:=x;⟨e,m,q⟩
theorem gS.mut(x:gS φ H a):aT φ H a:=.inl x.own
section
variable (kh:List Int->Int) (φ:Nat->Option Addr) (M:Addr->Prop) (h:Heap)
noncomputable def OR(o:bq)(a:Addr):Prop:=match o with
 |.list l=>∃vs n,h.get? a=some (fe vs n)/\bD kh φ M h l vs
 |.dict l=>∃es n,h.get? a=some (cS es n)/\d4 kh φ M h l es/\(l.map (·.1)).Nodup
end
structure HI (kh:List Int->Int) (h₀:Heap) (φ:Ph) (H:Hp) (h:Heap):Prop where
 base:∀b o,h₀.get? b=some o->h.get? b=some o
 objs:∀e∈H.es,∃a,φ.f e.id=some a/\h₀.get? a=none/\OR kh φ.f (aT φ H) h e.obj a
 nodup:(H.es.map (·.id)).Nodup
 inj:∀e∈H.es,∀e'∈H.es,φ.f e.id=φ.f e'.id->e.id=e'.id
 lt:∀e∈H.es,e.id<H.nxt
 fresh:∀n,H.nxt<=n->φ.f n=none
 cC:∀a,φ.fr a->h₀.get? a=none/\(∀e∈H.es,φ.f e.id≠some a)/\∃o,h.get? a=some o
 sys:∃o,h₀.get? sysModules=some o
structure St (φ:Ph) (H:Hp) (h:Heap) (a8:Ph) (H':Hp) (h':Heap):Prop where
 keep:∀b o,h.get? b=some o->¬ gS φ H b->h'.get? b=some o
 ext:∀n a,φ.f n=some a->a8.f n=some a
 nxt:H.nxt<=H'.nxt
 ids:∀e∈H.es,∃e'∈H'.es,e'.id=e.id/\e'.lock=e.lock/\(e.lock=true->e'.obj=e.obj)
 new:∀e'∈H'.es,(∃e∈H.es,e.id=e'.id)\/(∀a,a8.f e'.id=some a->h.get? a=none)
 alive:∀b o,h.get? b=some o->∃o',h'.get? b=some o'
 du:∀a,φ.fr a->a8.fr a
 gE:∀a,a8.fr a->φ.fr a\/h.get? a=none
section
variable {kh:List Int->Int} {h₀:Heap} {φ a8 rP:Ph} {H H' eo:Hp} {h h' h'':Heap}
theorem hY{l:List Ent}:(l.map (·.id)).Nodup->∀{a b:Ent},a∈l->b∈l->a.id=b.id->a=b:=by
 induction l with
 |nil=>
  intro _ _ _ m _ _;cases m
 |cons x l ih=>
  intro N a b m m' e;rw[aO,eu]at N;rcases aH.mp m with q|m
  ·clear m;rcases aH.mp m' with q'|m'
   ·rw[q,q']
   ·exact absurd (cE.mpr ⟨b,m',by rw[<- e,q]⟩) N.1
  ·rcases aH.mp m' with q'|m'
   ·exact absurd (cE.mpr ⟨a,m,by rw[e,q']⟩) N.1
   ·exact ih N.2 m m' e
theorem St.own(S:St φ H h a8 H' h')(I:HI kh h₀ φ H h):∀b o,Own a8 H' b->h.get? b=some o->Own φ H b:=by
 rintro b o ⟨e',m,q⟩ g;rcases S.new e' m with⟨e,me,q'⟩|q'
 ·exists ae (I.objs e me),a,ha,Z0;have:=S.ext _ _ ha;rw[q',q]at this;exact⟨e,me,by rw[ha];exact this.symm⟩
 ·rw[q' b q]at g;exact nq g
theorem St.mut(S:St φ H h a8 H' h')(I:HI kh h₀ φ H h):∀b o,aT a8 H' b->h.get? b=some o->aT φ H b:=by
 rintro b o (q|q) g
 ·exact .inl (S.own I b o q g)
 ·clear I;rcases S.gE b q with q|q
  ·exact .inr q
  ·rw[q]at g;exact nq g
theorem St.kW(S:St φ H h a8 H' h')(I:HI kh h₀ φ H h)(N:(H'.es.map (·.id)).Nodup):∀b o,gS a8 H' b->h.get? b=some o->gS φ H b:=by
 rintro b o ⟨e',m,lk,q⟩ g;rcases S.new e' m with⟨e,me,q'⟩|q'
 ·exists ae (I.objs e me),a,ha,Z0;have ea:=S.ext _ _ ha;rw[q',q]at ea
  (clear g q I;exists ea)
  exists dX (S.ids e me),e2,m2,i2,l2,Z0;have:e2=e':=by
   have e:e2.id=e'.id:=i2.trans q';exact hY N m2 m e
  subst this;exact⟨e,me,by rw[<- l2];exact lk,ha⟩
 ·rw[q' b q]at g;exact nq g
theorem St.vr(S:St φ H h a8 H' h')(I:HI kh h₀ φ H h)(r:VR kh φ.f (aT φ H) h v x):VR kh a8.f (aT a8 H') h' v x:=
 r.mono S.ext (fun b o e m=>S.keep b o e fun u=>m u.mut) (S.mut I)
theorem St.hU(S:St φ H h a8 H' h')(I:HI kh h₀ φ H h)(r:bD kh φ.f (aT φ H) h l vs):bD kh a8.f (aT a8 H') h' l vs:=
 r.mono S.ext (fun b o e m=>S.keep b o e fun u=>m u.mut) (S.mut I)
theorem St.refl(φ:Ph)(H:Hp)(h:Heap):St φ H h φ H h:=
 ⟨fun _ _ e _=>e,fun _ _ e=>e,cw _,fun e m=>⟨e,m,rfl,rfl,fun _=>rfl⟩,fun e m=>.inl ⟨e,m,rfl⟩,fun _ o e=>⟨o,e⟩,fun _ e=>e,fun _ e=>.inl e⟩
theorem St.trans(S:St φ H h a8 H' h')(T:St a8 H' h' rP eo h'')(I:HI kh h₀ φ H h)(I':HI kh h₀ a8 H' h'):St φ H h rP eo h'':=by
 refine⟨fun b o e u=>T.keep b o (S.keep b o e u) fun q=>u (S.kW I I'.nodup b o q e),fun n a e=>T.ext _ _ (S.ext _ _ e),bx S.nxt T.nxt,fun e m=>?_,fun Ap m=>?_,fun b o e=>?_,fun a e=>T.du a (S.du a e),fun a e=>?_⟩
 ·exists dX (S.ids e m),e1,m1,a1,b1,c1;exists dX (T.ids e1 m1),e2,m2,a2,b2,c2;exact⟨e2,m2,a2.trans a1,b2.trans b1,fun q=>(c2 (b1.trans q)).trans (c1 q)⟩
 ·clear I;rcases T.new Ap m with⟨e',m',q⟩|q
  ·clear m;rcases S.new e' m' with⟨e,me,q'⟩|q'
   ·exact .inl ⟨e,me,q'.trans q⟩
   ·exists ae (I'.objs e' m'),a',fE,Z0;exists .inr,a,ha;have:=T.ext _ _ fE;rw[q,ha]at this
    (clear ha q m' I' T S;exists this)
    exact q' _ fE
  ·exists .inr,a,ha;clear m I' T;induction g:h.get? a using aL with
   |none=>rfl
   |some o=>
    exists aD (S.alive a o g),o',g';rw[q a ha]at g';exact nq g'
 ·exists aD (S.alive b o e),o',e';exact T.alive b o' e'
 ·clear I' I;rcases T.gE a e with e|e
  ·exact S.gE a e
  ·refine .inr ?_;clear T;induction g:h.get? a using aL with
   |none=>rfl
   |some o=>
    exists aD (S.alive a o g),o',g';rw[e]at g';exact nq g'
end
structure Cf where
 prog:Program
 w:World
 h₀:Heap
noncomputable def Cf.kh(C:Cf):List Int->Int:=tupleKeyHash (intKind C.prog C.w)
noncomputable abbrev Cf.R(C:Cf)(φ:Ph)(H:Hp)(h:Heap):V->Value->Prop:=VR C.kh φ.f (aT φ H) h
noncomputable abbrev Cf.Rs(C:Cf)(φ:Ph)(H:Hp)(h:Heap):List V->List Value->Prop:=bD C.kh φ.f (aT φ H) h
noncomputable abbrev Cf.Es(C:Cf)(φ:Ph)(H:Hp)(h:Heap):List (List Int×V)->List DictEntry->Prop:=d4 C.kh φ.f (aT φ H) h
noncomputable abbrev Cf.I(C:Cf)(φ:Ph)(H:Hp)(h:Heap):Prop:=HI C.kh C.h₀ φ H h
noncomputable abbrev Cf.wp(C:Cf){α:Type}(A:Around)(t:Sem α)(Q:α->Shared->Prop)(E:Value->Shared->Prop)(s:Shared):Prop:=wpAny (model C.prog C.w) A t Q E s
noncomputable def Cf.Po(C:Cf){α:Type}(φ:Ph)(H:Hp)(s:Shared)(H':Hp)(R:(Ph)->Heap->α->Prop)(Q:α->Shared->Prop):Prop:=
 ∀a a8 h' tk,St φ H s.heap a8 H' h'->C.I a8 H' h'->R a8 h' a->Q a { s with heap:=h',toks:=tk }
theorem Cf.Po.step{C:Cf}{α:Type}{φ ax:Ph}{H H₁ H':Hp}{s:Shared}{ao:Heap}{tk₁:Nat}{R:(Ph)->Heap->α->Prop}{Q:α->Shared->Prop}
  (P:C.Po φ H s H' R Q) (S:St φ H s.heap ax H₁ ao) (I:C.I φ H s.heap) (ah:C.I ax H₁ ao):C.Po ax H₁ { s with heap:=ao,toks:=tk₁ } H' R Q:=
 fun a a8 h' tk S' I' r=>P a a8 h' tk (S.trans S' I ah) I' r
theorem Cf.Po.here{C:Cf}{α:Type}{φ:Ph}{H:Hp}{s:Shared}{R:(Ph)->Heap->α->Prop}{Q:α->Shared->Prop}
  (P:C.Po φ H s H R Q) (I:C.I φ H s.heap) {a:α} (r:R φ s.heap a) (tk:Nat):Q a { s with toks:=tk }:=P a φ s.heap tk (.refl ..) I r
theorem Cf.Po.dT{C:Cf}{α:Type}{φ:Ph}{H:Hp}{s:Shared}{R:(Ph)->Heap->α->Prop}{Q:α->Shared->Prop}
  (P:C.Po φ H s H R Q) (I:C.I φ H s.heap) {a:α} (r:R φ s.heap a):Q a s:=P.here I r s.toks
structure Rm (A:Around) (n:Nat):Prop where
 handled:A.handled=none
 depth:A.depth+n<recursionLimit
 units:A.units+12 * n+200<cLine
theorem Rm.le(r:Rm A n)(h:m<=n):Rm A m:=⟨r.handled,by have:=r.depth;lia,by have:=r.units;lia⟩
theorem Rm.u1(r:Rm A n):A.in1.units<cLine:=by have:=r.units;show A.units+1<cLine;lia
theorem Rm.u(r:Rm A n):A.units<cLine:=by have:=r.units;lia
theorem Rm.JP(r:Rm A n):A.units+64<cLine:=by have:=r.units;lia
noncomputable def QP(env:Env)(x:Str):NameKind->Prop
 |.local=>env.kindOf x=some .local
 |.cell=>env.kindOf x=some .cell
 |.free=>env.kindOf x=some .free\/env.kindOf x=some .cell
 |.globalImplicit=>env.kindOf x=some .globalImplicit
 |.globalExplicit=>True
structure HY (c:Cx):Prop where
 cells:∀z,c.names.lookup z=some .cell->∃i,c.vm.lookup z=some i
 plain:∀x i,c.vm.lookup x=some i->(x == ("__classdict__" : Str))=false
 inj:∀x y i,c.vm.lookup x=some i->c.vm.lookup y=some i->x=y
structure ER (C:Cf) (c:Cx) (ρ:ai) (env:Env) (φ:Ph) (H:Hp) (h:Heap):Prop where
 kind:env.scope.kind = .function
 glob:env.globals=mainGlobals
 blt:env.builtins=builtinsNs
 kinds:∀x k,c.names.lookup x=some k->QP env x k
 loc:∃m,h.Ns env.locals m/\∀x i v,c.names.lookup x=some .local->c.vm.lookup x=some i->cF ρ i=some v->∃val,m x=some val/\C.R φ H h v val
 cell:∀x i,(c.names.lookup x=some .cell\/c.names.lookup x=some .free)->c.vm.lookup x=some i->
  ∃a ov,env.cells.lookup x=some a/\h.IsCell a ov/\φ.fr a/\a≠env.locals/\∀v,cF ρ i=some v->∃val,ov=some val/\C.R φ H h v val
 ib:φ.fr env.locals
 kz:∀x a,env.cells.lookup x=some a->φ.fr a
 inj:∀x y a,env.cells.lookup x=some a->env.cells.lookup y=some a->x=y
 ok:HY c
theorem ip{h h':Heap}{a:Addr}{m:Str->Option Value}(x:h.Ns a m)(k:∀o,h.get? a=some o->h'.get? a=some o):h'.Ns a m:=pT x fun o es ep e r=>⟨o,es,ep,k _ e,r⟩
theorem mB{h:Heap}{a:Addr}{m:Str->Option Value}(x:h.Ns a m):∃o,h.get? a=some o:=let ⟨o,_,_,e,_⟩:=x;⟨o,e⟩
theorem oI{h h':Heap}{a:Addr}{v:Option Value}(x:h.IsCell a v)(k:∀o,h.get? a=some o->h'.get? a=some o):h'.IsCell a v:=let ⟨o,e,r⟩:=x;⟨o,k _ e,r⟩
theorem sq{h:Heap}{a:Addr}{v:Option Value}(x:h.IsCell a v):∃o,h.get? a=some o:=let ⟨o,e,_⟩:=x;⟨o,e⟩
theorem HT(S:St φ H h a8 H' h')(I:HI kh h₀ φ H h)(f:φ.fr a)(e:h.get? a=some o):h'.get? a=some o:=
 S.keep _ _ e fun u=>by
  exists b7 u,en,m,Z0,q
  try clear u
  exact(I.cC a f).2.1 en m q
theorem ER.step{C:Cf}{c:Cx}{ρ:ai}{env:Env}{φ a8:Ph}{H H':Hp}{h h':Heap}(x:ER C c ρ env φ H h)(S:St φ H h a8 H' h')(I:C.I φ H h):ER C c ρ env a8 H' h':=by
 refine⟨x.kind,x.glob,x.blt,x.kinds,?_,fun y i hy hi=>?_,S.du _ x.ib,fun y a e=>S.du _ (x.kz y a e),x.inj,x.ok⟩
 ·exists ae x.loc,m,hn,hm;refine⟨m,ip hn fun o e=>HT S I x.ib e,fun y i v h1 h2 h3=>?_⟩;exists ae (hm y i v h1 h2 h3),val,e,r;exact⟨val,e,S.vr I r⟩
 ·exists gK (x.cell y i hy hi),a,ov,e1,e2,e3,e4,e5;refine⟨a,ov,e1,oI e2 fun o e=>HT S I e3 e,S.du _ e3,e4,fun v hv=>?_⟩;exists ae (e5 v hv),val,e,r;exact⟨val,e,S.vr I r⟩
noncomputable def Cf.SE(C:Cf)(n:Nat)(c:Cx)(e:PySem.Expr)(f:ai->Hp->Option (V×Hp)):Prop:=∀A env ρ φ H s v H' Q E,Rm A n->C.I φ H s.heap->ER C c ρ env φ H s.heap->f ρ H=some (v,H')->
 C.Po φ H s H' (fun a8 h' x=>C.R a8 H' h' v x) Q->C.wp A (eval e env) Q E s
noncomputable def Cf.SB(C:Cf)(n:Nat)(c:Cx)(e:PySem.Expr)(f:ai->Hp->Option (V×Hp)):Prop:=∀A env ρ φ H s b H' Q E,Rm A n->C.I φ H s.heap->ER C c ρ env φ H s.heap->f ρ H=some (.bool b,H')->
 C.Po φ H s H' (fun _ _ x=>x=b) Q->C.wp A (isTrue e env (eval e env)) Q E s
noncomputable def Cf.fz(C:Cf)(n:Nat)(g:CF)(f:Addr):Prop:=∀A φ H s args vals v H' Q E,Rm A n->C.I φ H s.heap->C.Rs φ H s.heap args vals->g args H=some (v,H')->
 C.Po φ H s H' (fun a8 h' x=>C.R a8 H' h' v x) Q->C.wp A (call (.ref f) vals) Q E s
end
section
open PySem PySem.Calls PyProof.Rows PySem.W
theorem ieq_iff(a b:Int):ieq a b=true↔a=b:=by
 induction a using kC with
 |ofNat a=>induction b using kC with
  |ofNat b=>exact⟨fun h=>congrArg Int.ofNat (cU h),fun h=>by rw[Int.ofNat.inj h];exact ew b⟩
  |negSucc b=>exact⟨fun h=>bf h,fun h=>Int.noConfusion h⟩
 |negSucc a=>induction b using kC with
  |ofNat b=>exact⟨fun h=>bf h,fun h=>Int.noConfusion h⟩
  |negSucc b=>exact⟨fun h=>congrArg Int.negSucc (cU h),fun h=>by rw[Int.negSucc.inj h];exact ew b⟩
theorem ieq_eq(a b:Int):ieq a b=decide (a=b):=by
 rw[g8,ieq_iff];simp
theorem ilt_eq:∀(a b:Int),ilt a b=decide (a<b)
 |.ofNat a,.ofNat b=>by
  simp only[ilt,Int.ofNat_eq_natCast];rw[g8];simp [c8];exact Nat.add_one_le_iff
 |.negSucc a,.negSucc b=>by
  simp only[ilt];rw[g8];simp [c8];lia
 |.ofNat a,.negSucc b=>by
  simp only[ilt];rw[g8];simp;exact Int.le.intro_sub (a+b.succ) rfl
 |.negSucc a,.ofNat b=>by
  simp only[ilt];rw[g8];simp;exact(fun{a b}=>Int.compare_eq_gt.mp) rfl
theorem keq_iff(a:List Int):∀(b:List Int),keq a b=true↔a=b:=by
 induction a with
 |nil=>
  intro b
  induction b using aN with
  |nil=>exact⟨fun _=>rfl,fun _=>rfl⟩
  |cons b s=>exact⟨fun h=>bf h,fun h=>absurd h.symm (vO b s)⟩
 |cons a r ih=>
  intro b
  induction b using aN with
  |nil=>exact⟨fun h=>bf h,fun h=>absurd h (vO a r)⟩
  |cons b s=>
   dsimp only[keq]
   induction h:ieq a b using aB with
   |true=>exact⟨fun e=>by rw[(ieq_iff a b).mp h,(ih s).mp e],fun e=>(ih s).mpr (List.cons.inj e).2⟩
   |false=>exact⟨fun e=>bf e,fun e=>by rw[(ieq_iff a b).mpr (List.cons.inj e).1]at h;exact bt h⟩
theorem C0(h:keq a b=false):a≠b:=fun q=>by rw[(keq_iff a b).mpr q]at h;exact bt h
theorem LQ(a:List Nat):∀(b:List Nat),tA a b=true↔a=b:=by
 induction a with
 |nil=>
  intro b
  induction b using aN with
  |nil=>exact⟨fun _=>rfl,fun _=>rfl⟩
  |cons b s=>exact⟨fun h=>bf h,fun h=>absurd h.symm (vO b s)⟩
 |cons a r ih=>
  intro b
  induction b using aN with
  |nil=>exact⟨fun h=>bf h,fun h=>absurd h (vO a r)⟩
  |cons b s=>
   dsimp only[tA]
   induction h:aF a b using aB with
   |true=>exact⟨fun e=>by rw[cU h,(ih s).mp e],fun e=>(ih s).mpr (List.cons.inj e).2⟩
   |false=>exact⟨fun e=>bf e,fun e=>by rw[<- (List.cons.inj e).1,ew]at h;exact bt h⟩
theorem cX(a b:Bool):band a b=true↔a=true/\b=true:=by induction a using aB <;> induction b using aB <;> simp [band]
theorem guard_some{B:Type}{b:Bool}{x:Option B}{y:B}(h:guard' b x=some y):b=true/\x=some y:=by induction b using aB <;> simp_all [guard']
theorem l7{A B:Type}{x:Option A}{f:A->B}{d b:B}(h:oe x f d=b):(∃a,x=some a/\f a=b)\/x=none/\d=b:=by
 induction x using aL with
 |none=>exact .inr ⟨rfl,h⟩
 |some a=>exact .inl ⟨a,rfl,h⟩
theorem wj{A:Type}{l:List A}{a:A}(h:sole l=some a):l=[a]:=by
 induction l using aN with
 |nil=>exact nomatch h
 |cons x r=>induction r using aN with
  |nil=>rw[aI h]
  |cons=>exact nomatch h
theorem nW{A:Type}{l:List A}(h:isNil l=true):l=[]:=by
 induction l using aN with
 |nil=>rfl
 |cons=>exact nomatch h
theorem nn{A:Type}{P:Prop}{a:A}(h:none=some a):P:=nomatch h
theorem bV{A B:Type}{x:Option (A×Hp)}{f:A->Hp->Option B}{y:B}(h:ob x f=some y):∃a H,x=some (a,H)/\f a H=some y:=by
 match x,h with
 |some (a,H),h=>exact⟨a,H,rfl,h⟩
theorem nC{B:Type}{x:Option (V×Hp)}{f:Bool->Hp->Option B}{y:B}(h:cK x f=some y):∃b H,x=some (.bool b,H)/\f b H=some y:=by
 exists aU (bV h),a,H,e,q;clear h;induction a using V.casesOn with
 |bool b=>exact⟨_,H,e,q⟩
 |_=>exact nq q
theorem fN:∀{n:Nat} {e:Ent},look es n=some e->e∈es/\e.id=n:=by
 induction es with
 |nil=>
  intro _ _ h;exact nq h
 |cons x r ih=>
  intro n e h;dsimp only[look]at h
  induction q:aF x.id n using aB with
  |true=>rw[q]at h;exists h;exact⟨.head _,cU q⟩
  |false=>rw[q]at h;have:=ih h;exact⟨.tail _ this.1,this.2⟩
theorem put_ids(es:List Ent):∀(n:Nat) (lk:Bool) (o:bq),(put es n lk o).map (·.id)=es.map (·.id):=by
 induction es with
 |nil=>
  intro _ _ _;exact rfl
 |cons x r ih=>
  intro n lk o;dsimp only[put]
  induction q:aF x.id n using aB with
  |true=>simp [(cU q).symm]
  |false=>simp [ih n lk o]
theorem aaI:∀{n:Nat} {lk:Bool} {o:bq} {e:Ent},(es.map (·.id)).Nodup->e∈put es n lk o->(e=⟨n,lk,o⟩/\∃e'∈es,e'.id=n)\/(e∈es/\e.id≠n):=by
 induction es with
 |nil=>
  intro _ _ _ _ _ h;cases h
 |cons x r ih=>
  intro n lk o e N h;rw[aO,eu]at N;have h:e∈(match aF x.id n with
   |true=>(⟨n,lk,o⟩:Ent)::r
   |false=>x::put r n lk o):=h
  induction q:aF x.id n using aB with
  |true=>
   rw[q]at h;have qx:=cU q;clear q;clear ih;rcases aH.mp h with h|h
   ·exact .inl ⟨h,x,.head _,qx⟩
   ·refine .inr ⟨.tail _ h,fun z=>N.1 ?_⟩;rw[qx,<- z];exact cE.mpr ⟨e,h,rfl⟩
  |false=>
   rw[q]at h;have qx:x.id≠n:=fun z=>by rw[z,ew]at q;exact bt q
   clear q;rcases aH.mp h with h|h
   ·clear N;clear ih;subst h;exact .inr ⟨.head _,qx⟩
   ·clear qx;rcases ih N.2 h with⟨a,e',b,c⟩|⟨a,b⟩
    ·exact .inl ⟨a,e',.tail _ b,c⟩
    ·exact .inr ⟨.tail _ a,b⟩
theorem oP:∀{n:Nat} {lk:Bool} {o:bq} {e:Ent},(es.map (·.id)).Nodup->e∈es->(e.id=n->(⟨n,lk,o⟩:Ent)∈put es n lk o)/\(e.id≠n->e∈put es n lk o):=by
 induction es with
 |nil=>
  intro _ _ _ _ _ h;cases h
 |cons x r ih=>
  intro n lk o e N h;rw[aO,eu]at N;dsimp only[put]
  induction q:aF x.id n using aB with
  |true=>
   have qx:=cU q;refine⟨fun _=>.head _,fun z=>?_⟩;clear q N;clear ih;rcases aH.mp h with h|h
   ·subst h;exact absurd qx z
   ·exact .tail _ h
  |false=>
   have qx:x.id≠n:=fun z=>by rw[z,ew]at q;exact bt q
   clear q;rcases aH.mp h with h|h
   ·clear N;clear ih;subst h;exact⟨fun z=>absurd z qx,fun _=>.head _⟩
   ·have this:=ih (n:=n) (lk:=lk) (o:=o) N.2 h;exact⟨fun z=>.tail _ (this.1 z),fun z=>.tail _ (this.2 z)⟩
section
variable {C:Cf} {φ:Ph} {H:Hp} {h h':Heap}
theorem zl(r:C.R φ H h v x)(k:∀b o,h.get? b=some o->h'.get? b=some o):C.R φ H h' v x:=r.mono (fun _ _ e=>e) (fun b o e _=>k b o e) fun _ _ e _=>e
theorem xS(r:C.Rs φ H h v x)(k:∀b o,h.get? b=some o->h'.get? b=some o):C.Rs φ H h' v x:=r.mono (fun _ _ e=>e) (fun b o e _=>k b o e) fun _ _ e _=>e
theorem Fq(r:C.Es φ H h v x)(k:∀b o,h.get? b=some o->h'.get? b=some o):C.Es φ H h' v x:=r.mono (fun _ _ e=>e) (fun b o e _=>k b o e) fun _ _ e _=>e
theorem Cf.grow(I:C.I φ H h)(k:∀b o,h.get? b=some o->h'.get? b=some o):C.I φ H h'/\St φ H h φ H h':=by
 refine⟨⟨fun b o e=>k _ _ (I.base b o e),fun e m=>?_,I.nodup,I.inj,I.lt,I.fresh,fun a f=>let ⟨p,q,o,e⟩:=I.cC a f;⟨p,q,o,k _ _ e⟩,I.sys⟩,⟨fun b o e _=>k b o e,fun _ _ e=>e,cw _,fun e m=>⟨e,m,rfl,rfl,fun _=>rfl⟩,fun e m=>.inl ⟨e,m,rfl⟩,fun b o e=>⟨o,k b o e⟩,fun _ e=>e,fun _ e=>.inl e⟩⟩;exists b7 (I.objs e m),a,e1,e2,e3;refine⟨a,e1,e2,?_⟩;revert e3;clear e2 e1 m I;induction e.obj using Internal.bq.casesOn with
 |list l=>rintro ⟨vs,n,g,r⟩;exact⟨vs,n,k _ _ g,xS r k⟩
 |dict l=>rintro ⟨vs,n,g,r,d⟩;exact⟨vs,n,k _ _ g,Fq r k,d⟩
theorem OY(k:∀b o,h.get? b=some o->h'.get? b=some o)(e:h'.get? D=none):h.get? D=none:=by
 induction q:h.get? D using aL with
 |none=>rfl
 |some o=>rw[k _ _ q]at e;exact ns e
noncomputable def ed(φ:Ph)(n:Nat)(D:Addr):Ph:=⟨fun m=>if m=n then some D else φ.f m,φ.fr⟩
noncomputable def v9(C:Cf)(φ:Ph)(H:Hp)(h h':Heap)(o:bq)(a:Addr):Prop:=match o with
 |.list l=>∃vs n,h'.get? a=some (fe vs n)/\C.Rs φ H h l vs
 |.dict l=>∃es n,h'.get? a=some (cS es n)/\C.Es φ H h l es/\(l.map (·.1)).Nodup
theorem Cy(I:C.I φ H h)(n:Nat)(a:Addr)(e:φ.f n=some a):(ed φ H.nxt D).f n=some a:=by
 unfold ed;dsimp only;rw[if_neg]
 ·exact e
 ·rintro rfl;rw[I.fresh _ (cw _)]at e;exact nq e
theorem Ke:(ed φ H.nxt D).f H.nxt=some D:=by unfold ed;dsimp only;rw[if_pos rfl]
theorem Hh(I:C.I φ H h)(e:Ent)(m:e∈H.es):(ed φ H.nxt D).f e.id=φ.f e.id:=by unfold ed;dsimp only;rw[if_neg (eR (I.lt e m))]
theorem yE(I:C.I φ H h)(hD:h.get? D=none)(b:Addr)(o':Obj)(m:aT (ed φ H.nxt D) (newObj H o).2 b)(g:h.get? b=some o'):aT φ H b:=by
 rcases m with⟨e,m,q⟩|q
 ·rcases aH.mp m with rfl|m
  ·rw[Ke]at q;clear m I;exists q;rw[hD]at g;exact nq g
  ·exact .inl ⟨e,m,by rw[<- Hh I e m];exact q⟩
 ·exact .inr q
theorem QO(r:OR kh f M h o D)(g:h.get? D=none):False:=by
 induction o using Internal.bq.casesOn with
 |list l=>exists aU r,Z0,Z0,e,Z0;rw[g]at e;exact nq e
 |dict l=>exists cx r,Z0,Z0,e,Z0,Z0;rw[g]at e;exact nq e
theorem JY(r:OR kh f M h o D)(kD:∀o,h.get? D=some o->h'.get? D=some o)(hl:∀l vs,bD kh f M h l vs->bD kh f' M' h' l vs)(hd:∀l vs,d4 kh f M h l vs->d4 kh f' M' h' l vs):OR kh f' M' h' o D:=by
 induction o using Internal.bq.casesOn with
 |list l=>exact aU r fun vs n e r=>⟨vs,n,kD _ e,hl _ _ r⟩
 |dict l=>exact cx r fun vs n e r d=>⟨vs,n,kD _ e,hd _ _ r,d⟩
theorem Cf.JA(I:C.I φ H h)(k:∀b o,h.get? b=some o->h'.get? b=some o)(hD:h.get? D=none)(hb:C.h₀.get? D=none)(r:OR C.kh (ed φ H.nxt D).f (aT (ed φ H.nxt D) (newObj H o).2) h' o D) :
  C.I (ed φ H.nxt D) (newObj H o).2 h'/\St φ H h (ed φ H.nxt D) (newObj H o).2 h'/\C.R (ed φ H.nxt D) (newObj H o).2 h' (newObj H o).1 (.ref D):=by
 have hx:=Cy I (D:=D);have dO:(ed φ H.nxt D).f H.nxt=some D:=Ke;have hold:=Hh I (D:=D);have hM:=yE I hD (o:=o);refine⟨⟨fun b o e=>k _ _ (I.base b o e),fun e m=>?_,?_,fun e m e' m' q=>?_,fun e m=>?_,fun n hn=>?_,fun a f=>?_,I.sys⟩,⟨fun b o e _=>k b o e,hx,eU _,fun e m=>⟨e,.tail _ m,rfl,rfl,fun _=>rfl⟩,fun e m=>?_,fun b o e=>⟨o,k b o e⟩,fun _ e=>e,fun _ e=>.inl e⟩,.ref dO⟩
 ·clear hD;rcases aH.mp m with rfl|m
  ·exact⟨D,dO,hb,r⟩
  ·exact b7 (I.objs e m) fun a e1 e2 e3=>⟨a,(hold e m).trans e1,e2,JY e3 (k a) (fun _ _ r=>r.mono hx (fun b o e _=>k b o e) hM) (fun _ _ r=>r.mono hx (fun b o e _=>k b o e) hM)⟩
 ·exact eu.mpr ⟨fun m=>ae (cE.mp m) fun e m q=>kT _ (q▸I.lt e m),I.nodup⟩
 ·have old:∀e∈H.es,(ed φ H.nxt D).f e.id=some D->False:=fun e m q=>b7 (I.objs e m) fun a e1 _ e3=>by
   rw[hold e m,e1]at q;exact QO e3 (aI q▸hD)
  clear hM hx r hb hD k;rcases aH.mp m with rfl|m <;> rcases aH.mp m' with rfl|m'
  ·rfl
  ·exact(old e' m' (q.symm.trans dO)).elim
  ·exact(old e m (q.trans dO)).elim
  ·exact I.inj e m e' m' (by rw[hold e m,hold e' m']at q;exact q)
 ·clear hM hold dO hx r hb hD k;rcases aH.mp m with rfl|m
  ·exact Nat.lt_succ_self _
  ·exact Nat.lt_succ_of_lt (I.lt e m)
 ·have h1:H.nxt+1<=n:=hn;unfold ed;dsimp only;rw[if_neg (Nat.ne_of_lt' hn)];exact I.fresh n (fo hn)
 ·exists dK (I.cC a f),p,q,g;refine⟨p,fun e m=>?_,aD g fun o g=>⟨o,k _ _ g⟩⟩;clear p f hM hx r hb k I;rcases aH.mp m with rfl|m
  ·rw[dO];intro z;clear m q hold dO;exists z;exact aD g fun o g=>nq (hD.symm.trans g)
  ·rw[hold e m];exact q e m
 ·clear hM hold hx r hb k I;rcases aH.mp m with rfl|m
  ·exact .inr fun a ha=>aI (dO.symm.trans ha)▸hD
  ·exact .inl ⟨e,m,rfl⟩
theorem Cf.fresh(I:C.I φ H h)(k:∀b o,h.get? b=some o->h'.get? b=some o)(hD:h.get? D=none)(r:v9 C φ H h h' o D) :
  C.I (ed φ H.nxt D) (newObj H o).2 h'/\St φ H h (ed φ H.nxt D) (newObj H o).2 h'/\C.R (ed φ H.nxt D) (newObj H o).2 h' (newObj H o).1 (.ref D):=by
 have hb:C.h₀.get? D=none:=by
  clear r k;induction q:C.h₀.get? D using aL with
  |none=>rfl
  |some o'=>rw[I.base _ _ q]at hD;exact nq hD.symm
 refine C.JA I k hD hb ?_;clear hb;induction o using Internal.bq.casesOn with
 |list l=>exact aU r fun vs n g r=>⟨vs,n,g,r.mono (Cy I) (fun b o e _=>k b o e) (yE I hD)⟩
 |dict l=>exact cx r fun vs n g r d=>⟨vs,n,g,r.mono (Cy I) (fun b o e _=>k b o e) (yE I hD),d⟩
theorem look_none:∀{n:Nat},look es n=none->∀e∈es,e.id≠n:=by
 induction es with
 |nil=>
  intro _ _ _ m;cases m
 |cons x r ih=>
  intro n h e m;dsimp only[look]at h
  induction q:aF x.id n using aB with
  |true=>rw[q]at h;exact ns h
  |false=>
   rw[q]at h;rcases aH.mp m with rfl|m
   ·rintro rfl;rw[ew]at q;exact bt q
   ·exact ih h e m
set_option tactic.hygienic true in
theorem rA(e:own H v=some (n,o)):v = .ref n/\(⟨n,false,o⟩:Ent)∈H.es:=by
 induction v using V.casesOn with
 |ref k=>
  exists ml e,f,hl,e
  ·exists ak (fN hl),m,i;clear hl;obtain⟨a,b,c⟩:=f
   induction b using aB with
   |true=>exact nq e
   |false=>
    injection (aI e)with e1 e2
    subst e1 e2 i;exact⟨rfl,m⟩
 |_=>exact nq e
theorem Ly(r:v9 C φ H h h' o D):∃ob,h'.get? D=some ob:=by
 induction o using Internal.bq.casesOn with
 |list l=>exact aU r fun _ _ e _=>⟨_,e⟩
 |dict l=>exact cx r fun _ _ e _ _=>⟨_,e⟩
theorem XO(r:v9 C φ H h h' o D)(hl:∀l vs,C.Rs φ H h l vs->bD C.kh f' M' h' l vs)(hd:∀l vs,C.Es φ H h l vs->d4 C.kh f' M' h' l vs):OR C.kh f' M' h' o D:=by
 induction o using Internal.bq.casesOn with
 |list l=>exact aU r fun vs n e r=>⟨vs,n,e,hl _ _ r⟩
 |dict l=>exact cx r fun vs n e r d=>⟨vs,n,e,hd _ _ r,d⟩
theorem E6{es:List Ent}{n:Nat}{lk:Bool}{o:bq}{e:Ent}{P:Prop}(N:(es.map (·.id)).Nodup)(me:e∈put es n lk o)(k1:∀e',e'∈es->e'.id=n->e=⟨n,lk,o⟩->P)(k2:e∈es->e.id≠n->P):P:=
 (aaI N me).elim (fun q=>q.2.elim fun e' r=>k1 e' r.1 r.2 q.1) fun q=>k2 q.1 q.2
theorem Cf.upd(I:C.I φ H h){n:Nat}{o o':bq}(m:(⟨n,false,o⟩:Ent)∈H.es){a:Addr}(ha:φ.f n=some a)(k:∀b ob,b≠a->h.get? b=some ob->h'.get? b=some ob)(r:v9 C φ H h h' o' a) :
  C.I φ (setObj H n o') h'/\St φ H h φ (setObj H n o') h':=by
 have f:∀e,e∈(setObj H n o').es->∃wH∈H.es,wH.id=e.id:=fun e me=>E6 I.nodup me (fun e' m' i z=>⟨e',m',by rw[z];exact i⟩) fun me _=>⟨e,me,rfl⟩;have zw:∀b,aT φ (setObj H n o') b->aT φ H b:=fun b q=>q.imp (fun q=>ae q fun e me q=>ae (f e me) fun wH Rw i=>⟨wH,Rw,by rw[i];exact q⟩) id;have ma:aT φ H a:=.inl ⟨_,m,ha⟩;have kk:∀b ob,h.get? b=some ob->¬ aT φ H b->h'.get? b=some ob:=fun b ob e q=>k b ob (fun z=>q (z▸ma)) e;have hU:∀v x,C.Rs φ H h v x->C.Rs φ (setObj H n o') h' v x:=fun v x r=>r.mono (fun _ _ e=>e) kk fun b _ q _=>zw b q;have m6:∀v x,C.Es φ H h v x->C.Es φ (setObj H n o') h' v x:=fun v x r=>r.mono (fun _ _ e=>e) kk fun b _ q _=>zw b q;exists ae (I.objs _ m),a',fE,q;have hb:C.h₀.get? a=none:=aI (fE.symm.trans ha)▸q.1;clear fE q;have hg:=Ly r;refine⟨⟨fun b ob e=>k _ _ (fun z=>by rw[z,hb]at e;exact nq e) (I.base b ob e),fun e me=>?_,by show((put H.es n false o').map (·.id)).Nodup;rw[put_ids];exact I.nodup,fun e me e' Zn q=>?_,fun e me=>?_,I.fresh,fun b f0=>?_,I.sys⟩,
  ⟨fun b ob e u=>k b ob (fun z=>u (z▸⟨_,m,rfl,ha⟩)) e,fun _ _ e=>e,cw _,fun e me=>?_,fun e me=>?_,fun b ob e=>?_,fun _ e=>e,fun _ e=>.inl e⟩⟩
 ·refine E6 I.nodup me (fun _ _ _ z=>?_) fun me bN=>?_
  ·rw[z];exact⟨a,ha,hb,XO r hU m6⟩
  ·exact b7 (I.objs e me) fun b e1 e2 e3=>⟨b,e1,e2,JY e3 (fun o g=>k b o (fun z=>bN (I.inj e me _ m (by rw[e1,z];exact ha.symm))) g) hU m6⟩
 ·refine ae (f e me) fun x mx ix=>ae (f e' Zn) fun y my iy=>?_;rw[<- ix,<- iy]at q ⊢;exact I.inj x mx y my q
 ·exact ae (f e me) fun x mx ix=>ix▸I.lt x mx
 ·refine dK (I.cC b f0) fun p q g=>⟨p,fun e me=>?_,aD g fun o2 g=>⟨o2,k _ _ (fun z=>q _ m (by rw[z];exact ha)) g⟩⟩;exact ae (f e me) fun x mx ix=>ix▸q x mx
 ·by_cases q:e.id=n
  ·have:=hY I.nodup me m q;clear q hg hb m6 hU kk ma zw f r k ha m;subst this;exact⟨_,(oP I.nodup me).1 rfl,rfl,rfl,fun z=>bf z⟩
  ·exact⟨e,(oP I.nodup me).2 q,rfl,rfl,fun _=>rfl⟩
 ·exact .inl (ae (f e me) fun x mx ix=>⟨x,mx,ix⟩)
 ·by_cases q:b=a
  ·rw[q];exact hg
  ·exact⟨ob,k b ob q e⟩
theorem Gn(es:List Ent)(v:V):(cN es v).map (·.id)=es.map (·.id):=by
 induction v using Internal.V.casesOn with
 |ref n=>
  unfold cN;dsimp only
  induction look es n using aL with
  |some e=>exact put_ids ..
  |none=>rfl
 |_=>rfl
theorem ku(vs:List V):∀(es:List Ent),(nk es vs).map (·.id)=es.map (·.id):=by
 induction vs with
 |nil=>exact fun _=>rfl
 |cons v r ih=>exact fun es=>(ih (cN es v)).trans (Gn es v)
theorem ZF(v:V)(N:(es.map (·.id)).Nodup)(e:Ent)(m:e∈es):∃e'∈cN es v,e'.id=e.id/\e'.obj=e.obj/\(e.lock=true->e'.lock=true)/\(v = .ref e.id->e'.lock=true)/\(v ≠ .ref e.id->e'.lock=e.lock):=by
 induction v using Internal.V.casesOn with
 |ref n=>
  unfold cN;dsimp only
  induction hl:look es n using aL with
  |none=>exact⟨e,m,rfl,rfl,id,fun z=>absurd (V.ref.inj z).symm (look_none hl e m),fun _=>rfl⟩
  |some x=>
   exists ak (fN hl),mx,ix;by_cases q:e.id=n
   ·have ex:=hY N m mx (q.trans ix.symm);exact⟨_,(oP N m).1 q,q.symm,by rw[ex],fun _=>rfl,fun _=>rfl,fun z=>absurd (congrArg V.ref q.symm) z⟩
   ·exact⟨e,(oP N m).2 q,rfl,rfl,id,fun z=>absurd (V.ref.inj z).symm q,fun _=>rfl⟩
 |_=>exact⟨e,m,rfl,rfl,id,fun z=>V.noConfusion z,fun _=>rfl⟩
theorem qZ(vs:List V):∀(es:List Ent),(es.map (·.id)).Nodup->∀e∈es,∃e'∈nk es vs,e'.id=e.id/\e'.obj=e.obj/\(e.lock=true->e'.lock=true)/\(.ref e.id∈vs->e'.lock=true)/\(.ref e.id ∉ vs->e'.lock=e.lock):=by
 induction vs with
 |nil=>exact fun es _ e m=>⟨e,m,rfl,rfl,id,fun q=>(nomatch q),fun _=>rfl⟩
 |cons v r ih=>
  intro es N e m;exists pn (ZF v N e m),e1,m1,i1,o1,a1,b1,c1;exists pn (ih (cN es v) (by rw[Gn];exact N) e1 m1),e2,m2,i2,o2,a2,b2,c2;rw[i1]at b2 c2;exact⟨e2,m2,i2.trans i1,o2.trans o1,fun z=>a2 (a1 z),fun q=>(aH.mp q).elim (fun z=>a2 (b1 z.symm)) b2,fun q=>(c2 fun z=>q (.tail _ z)).trans (c1 fun z=>q (z▸.head _))⟩
theorem gZ{l l':List Ent}(e:l'.map (·.id)=l.map (·.id)){x:Ent}(m:x∈l'):∃y∈l,y.id=x.id:=by
 have:x.id∈l.map (·.id):=e▸cE.mpr ⟨x,m,rfl⟩;exists ae (cE.mp this),y,my,q;exact⟨y,my,q⟩
theorem A0(N:(H.es.map (·.id)).Nodup)(vs:List V):∀e'∈(lockH H vs).es,∃e∈H.es,e.id=e'.id/\e.obj=e'.obj/\(e'.lock=false->e.lock=false):=by
 intro e' m';exists ae (gZ (ku vs H.es) m'),e,m,i;exists nF (qZ vs H.es N e m),e2,m2,h1,h2,h3,Z0;have N':((nk H.es vs).map (·.id)).Nodup:=by rw[ku];exact N
 have:e2=e':=hY N' m2 m' (h1.trans i);clear N' h1 m2 m' N;subst this;refine⟨e,m,i,h2.symm,fun q=>?_⟩;clear i h2 m;induction z:e.lock using aB with
 |false=>rfl
 |true=>rw[h3 z]at q;exact bt q
theorem Kp(dQ es:List Ent)(v:V):(gQ dQ es v).map (·.id)=es.map (·.id):=by
 induction v using Internal.V.casesOn with
 |ref n=>
  unfold gQ;dsimp only
  induction look dQ n using aL with
  |none=>rfl
  |some e=>induction look es n using aL with
   |none=>rfl
   |some f=>exact put_ids ..
 |_=>rfl
theorem zA(dQ:List Ent)(vs:List V):∀(es:List Ent),(eD dQ es vs).map (·.id)=es.map (·.id):=by
 induction vs with
 |nil=>exact fun _=>rfl
 |cons v r ih=>exact fun es=>(ih (gQ dQ es v)).trans (Kp dQ es v)
theorem YY(v:V)(z7:(dQ.map (·.id)).Nodup)(N:(es.map (·.id)).Nodup)(e:Ent)(m:e∈es):∃e'∈gQ dQ es v,e'.id=e.id/\e'.obj=e.obj/\∀x∈dQ,x.id=e.id->(v = .ref e.id\/e.lock=x.lock)->e'.lock=x.lock:=by
 induction v using Internal.V.casesOn with
 |ref n=>
  unfold gQ;dsimp only
  induction h0:look dQ n using aL with
  |none=>exact⟨e,m,rfl,rfl,fun x mx ix q=>q.elim (fun z=>absurd (ix.trans (V.ref.inj z).symm) (look_none h0 x mx)) id⟩
  |some x₀=>
   exists ak (fN h0),O6,Td;clear h0;induction hl:look es n using aL with
   |none=>exact⟨e,m,rfl,rfl,fun x _ _ q=>q.elim (fun z=>absurd (V.ref.inj z).symm (look_none hl e m)) id⟩
   |some f=>
    exists ak (fN hl),mf,jf;by_cases q:e.id=n
    ·have ef:=hY N m mf (q.trans jf.symm);exact⟨_,(oP N m).1 q,q.symm,by rw[ef],fun x mx ix _=>by rw[hY z7 mx O6 ((ix.trans q).trans Td.symm)]⟩
    ·exact⟨e,(oP N m).2 q,rfl,rfl,fun x _ _ z=>z.elim (fun z=>absurd (V.ref.inj z).symm q) id⟩
 |_=>exact⟨e,m,rfl,rfl,fun x _ _ q=>q.elim (fun z=>V.noConfusion z) id⟩
theorem Dp(dQ:List Ent)(z7:(dQ.map (·.id)).Nodup)(vs:List V):∀(es:List Ent),(es.map (·.id)).Nodup->∀e∈es,∃e'∈eD dQ es vs,e'.id=e.id/\e'.obj=e.obj/\
  (∀x∈dQ,x.id=e.id->(.ref e.id∈vs\/e.lock=x.lock)->e'.lock=x.lock):=by
 induction vs with
 |nil=>exact fun es _ e m=>⟨e,m,rfl,rfl,fun x _ _ q=>q.elim (fun z=>nomatch z) id⟩
 |cons v r ih=>
  intro es N e m;exists dX (YY v z7 N e m),e1,m1,i1,o1,c1;exists dX (ih (gQ dQ es v) (by rw[Kp];exact N) e1 m1),e2,m2,i2,o2,c2;rw[i1]at c2;exact⟨e2,m2,i2.trans i1,o2.trans o1,fun x mx ix q=>c2 x mx ix (q.elim (fun q=>(aH.mp q).elim (fun z=>.inr (c1 x mx ix (.inl z.symm))) .inl) fun q=>.inr (c1 x mx ix (.inr q)))⟩
theorem yS{H H':Hp}(e:H'.es.map (·.id)=H.es.map (·.id)){a:Addr}(m:aT φ H' a):aT φ H a:=by
 rcases m with⟨x,mx,q⟩|q
 ·exists ae (gZ e mx),y,my,i;exact .inl ⟨y,my,by rw[i];exact q⟩
 ·exact .inr q
theorem Cf.flags{H':Hp}(I:C.I φ H h)(hn:H'.nxt=H.nxt)(hi:H'.es.map (·.id)=H.es.map (·.id))(ho:∀e'∈H'.es,∃e∈H.es,e.id=e'.id/\e.obj=e'.obj):C.I φ H' h:=by
 have hm:∀b,aT φ H' b->aT φ H b:=fun b=>yS hi;refine⟨I.base,fun e' m'=>?_,by rw[hi];exact I.nodup,fun x mx y my q=>?_,fun e m=>?_,fun n q=>I.fresh n (hn▸q),fun a f=>?_,I.sys⟩
 ·exists b7 (ho e' m'),e,m,i,o;exists b7 (I.objs e m),a,e1,e2,e3;refine⟨a,i▸e1,e2,?_⟩;rw[<- o];revert e3;clear e2 e1 o i m m' ho hi hn I;induction e.obj using Internal.bq.casesOn with
  |list l=>rintro ⟨vs,n,g,r⟩;exact⟨vs,n,g,r.mono (fun _ _ e=>e) (fun b o e _=>e) fun b _ q _=>hm b q⟩
  |dict l=>rintro ⟨vs,n,g,r,d⟩;exact⟨vs,n,g,r.mono (fun _ _ e=>e) (fun b o e _=>e) (fun b _ q _=>hm b q),d⟩
 ·exists ae (gZ hi mx),x',tf,ix;exists ae (gZ hi my),y',N4,iy;rw[<- ix,<- iy]at q ⊢;exact I.inj x' tf y' N4 q
 ·exists ae (gZ hi m),x',tf,ix;rw[hn,<- ix];exact I.lt x' tf
 ·clear hm ho hn;obtain⟨p,q,o2,g⟩:=I.cC a f;refine⟨p,fun e m=>?_,o2,g⟩;exists ae (gZ hi m),x',tf,ix;rw[<- ix];exact q x' tf
theorem Cf.Am(I:C.I φ H h)(vs:List V):C.I φ (lockH H vs) h:=
 C.flags I rfl (ku vs H.es) fun e' m'=>let ⟨e,m,i,o,_⟩:=A0 I.nodup vs e' m';⟨e,m,i,o⟩
theorem zP(vs:List V)(a:Addr):aT φ (lockH H vs) a↔aT φ H a:=⟨yS (ku vs H.es),yS (ku vs H.es).symm⟩
theorem lQ(vs:List V)(r:C.R φ H h v x):C.R φ (lockH H vs) h v x:=r.mono (fun _ _ e=>e) (fun _ _ e _=>e) fun _ _ q _=>(zP vs _).mp q
theorem JQ(e:unlH es vs r=some H'):∃H₁,r=some H₁/\H'=⟨H₁.nxt,eD es H₁.es vs⟩:=by
 induction r using aL with
 |none=>exact nq e
 |some H₁=>exact⟨H₁,rfl,(aI e).symm⟩
theorem vl(I:C.I φ H h)(hD:h.get? D=none):¬ aT φ H D:=by
 rintro (⟨e,me,q⟩|q)
 ·exists b7 (I.objs e me),a',e1,e2,e3;rw[q]at e1;exists e1;revert e3;clear e2 q me I;induction e.obj using Internal.bq.casesOn with
  |list l=>rintro ⟨_,_,g,_⟩;rw[hD]at g;exact nq g
  |dict l=>rintro ⟨_,_,g,_⟩;rw[hD]at g;exact nq g
 ·obtain⟨_,_,o,g⟩:=I.cC D q;rw[hD]at g;exact nq g
theorem cA(h:Heap):h.get? h.objs.size=none:=by
 induction q:h.get? h.objs.size using aL with
 |none=>rfl
 |some o=>exact absurd (Heap.lt_size q) (kT _)
end
end
section
open PySem PySem.Calls PyProof.Rows PySem.W
section
variable {C:Cf} {φ:Ph} {H:Hp} {h:Heap}
theorem zY(I:C.I φ H h)(e:C.h₀.get? a=none):a≠sysModules:=fun q=>by
 exists aD I.sys,o,z;rw[q,z]at e;exact ns e
theorem gj(I:C.I φ H h)(r:C.R φ H h v x)(e:listView H v=some l):∃a vs n,x = .ref a/\h.get? a=some (fe vs n)/\C.Rs φ H h l vs:=by
 cases r with
 |none=>exact nq e
 |bool=>exact nq e
 |int=>exact nq e
 |str=>exact nq e
 |tup=>exact nq e
 |dct=>exact nq e
 |@lst a l' vs n hg hm rs=>exists e;exact⟨a,vs,n,rfl,hg,rs⟩
 |@ref k a hk=>
  unfold listView at e;dsimp only at e;exists ml e,en,hl,e
  ·exists ak (fN hl),m,i;exists b7 (I.objs en m),b,e1,e2,e3;rw[i,hk]at e1;exists e1;revert e3 e;clear e2 i m hl hk I;clear e;induction en.obj using Internal.bq.casesOn with
   |list l'=>rintro e ⟨vs,n,g,r⟩;exists e;exact⟨_,vs,n,rfl,g,r⟩
   |dict l'=>intro e;exact nq e
theorem sa(I:C.I φ H h)(r:C.R φ H h v x)(e:dictView H v=some l):∃a es n,x = .ref a/\h.get? a=some (cS es n)/\C.Es φ H h l es/\(l.map (·.1)).Nodup/\a≠sysModules:=by
 cases r with
 |none=>exact nq e
 |bool=>exact nq e
 |int=>exact nq e
 |str=>exact nq e
 |tup=>exact nq e
 |lst=>exact nq e
 |@dct a l' vs n hg hz hm rs nd=>exists e;exact⟨a,vs,n,rfl,hg,rs,nd,hz⟩
 |@ref k a hk=>
  unfold dictView at e;dsimp only at e;exists ml e,en,hl,e
  ·exists ak (fN hl),m,i;exists b7 (I.objs en m),b,e1,e2,e3;rw[i,hk]at e1;exists e1;revert e3 e;clear i m hl hk;clear e;induction en.obj using Internal.bq.casesOn with
   |list l'=>intro e;exact nq e
   |dict l'=>rintro e ⟨vs,n,g,r,d⟩;exists e;exact⟨_,vs,n,rfl,g,r,d,zY I e2⟩
theorem nN(I:C.I φ H h)(r:C.R φ H h v x)(e:seqView H v=some l) :
  ∃a vs n,x = .ref a/\(h.get? a=some (d6 vs n)\/h.get? a=some (fe vs n))/\C.Rs φ H h l vs:=by
 cases r with
 |none=>exact nq e
 |bool=>exact nq e
 |int=>exact nq e
 |str=>exact nq e
 |dct=>exact nq e
 |@tup a l' vs n hg hm rs=>exists e;exact⟨a,vs,n,rfl,.inl hg,rs⟩
 |@lst a l' vs n hg hm rs=>
  exists dE (gj I (.lst hg hm rs) e),a,vs,n,e1,e2,e3;exact⟨a,vs,n,e1,.inr e2,e3⟩
 |@ref n a hk=>
  exists dE (gj I (.ref hk) e),a,vs,n,e1,e2,e3;exact⟨a,vs,n,e1,.inr e2,e3⟩
theorem int_at(r:C.R φ H h (.int i) x):∃t,x = .int i t:=by cases r;exact⟨_,rfl⟩
theorem tB(r:C.R φ H h (.bool i) x):x = .bool i:=by cases r;rfl
set_option tactic.hygienic true in
theorem gq(r:C.R φ H h (.tup l) x):∃a vs n,x = .ref a/\h.get? a=some (d6 vs n)/\¬ aT φ H a/\C.Rs φ H h l vs:=by
 cases r;rename_i a vs n e m r;exact⟨a,vs,n,rfl,e,m,r⟩
theorem dJ{A:Type}{l:List A}(e:lenOk l=true):l.length<=1000000:=bC e
theorem jN(h:n<=1000000):n<=sizeLine:=bx h dq
mutual
noncomputable def bE:V->PyData
 |.none=>.none
 |.bool b=>.bool b
 |.int i=>.int i
 |.str s=>.str ⟨s.toArray⟩
 |.tup l=>.tuple (pyVs l)
 |.lst l=>.list (pyVs l)
 |.dct _=>.dict []
 |.ref _=>.dict []
noncomputable def pyVs:List V->List PyData
 |[]=>[]
 |v::l=>bE v::pyVs l
end
theorem U5:∀{l:List Nat},codesOk l=true->PyData.strOk ⟨l.toArray⟩=true:=by
 intro l h;have:∀{l:List Nat},codesOk l=true->∀x∈l,x<1114112:=by
  intro l;clear h;induction l with
  |nil=>intro _ x hx;cases hx
  |cons a r ih=>
   intro h x hx;dsimp only[codesOk]at h
   induction q:c8 a 1114112 using aB with
   |true=>
    rw[q]at h;rcases aH.mp hx with rfl|hx
    ·exact bC q
    ·exact ih h x hx
   |false=>rw[q]at h;exact bf h
 unfold PyData.strOk;simp only[dY,List.all_toArray',List.all_eq_true,decide_eq_true_eq];exact this h
set_option tactic.hygienic true in
theorem A7(I:C.I φ H h)(n:Nat)(ih:∀v v' x,res H n v=some v'->C.R φ H h v x->∃as,Reads h x (bE v') as/\(bE v').canLay0=true/\(bE v').depth<=n) :
  ∀(l l':List V) (vs:List Value),resL (res H n) l=some l'->C.Rs φ H h l vs->∃as,ReadsAll h vs (pyVs l') as/\PyData.canLayAll0 (pyVs l')=true/\PyData.depthAll (pyVs l')<=n:=by
 intro l
 induction l with
 |nil=>
  intro l' vs e r
  (clear ih I;exists e);cases r
  exact⟨_,.nil,rfl,f6 _⟩
 |cons v l oV=>
  intro l' vs e r;cases r with
  |cons r1 r2=>
   dsimp only[resL]at e;split at e
   ·rename_i b hb;exists fY e,s,hs,e
    ·exists e;exists b7 (ih _ _ _ hb r1),as,q1,q2,q3;exists b7 (oV _ _ hs r2),bs,p1,p2,p3;refine⟨_,.cons q1 p1,?_,?_⟩
     ·show(PyData.canLay0 _ && PyData.canLayAll0 _)=true;rw[q2,p2];rfl
     ·show max _ _<=n;exact Nat.max_le_of_le_of_le q3 p3
   ·exact nq e
theorem HC(e:mkT x=some v):∃l,x=some l/\v = .tup l:=by induction x using aL <;> cases e;exact⟨_,rfl,rfl⟩
theorem yR(e:mkL x=some v):∃l,x=some l/\v = .lst l:=by induction x using aL <;> cases e;exact⟨_,rfl,rfl⟩
set_option tactic.hygienic true in
theorem jO(I:C.I φ H h):∀(n:Nat) (v v':V) (x:Value),res H n v=some v'->C.R φ H h v x->∃as,Reads h x (bE v') as/\(bE v').canLay0=true/\(bE v').depth<=n:=by
 intro n
 induction n with
 |zero=>intro v v' x e;exact nq e
 |succ n ih=>
  intro v v' x e r;dsimp only[res]at e;have lists:∀{l l':List V} {a:Addr} {vs:List Value} {k:Nat},resL (res H n) l=some l'->C.Rs φ H h l vs->h.get? a=some (fe vs k)->
    ∃as,Reads h (.ref a) (bE (.lst l')) as/\(bE (.lst l')).canLay0=true/\(bE (.lst l')).depth<=n+1:=by
   intro l l' a vs k e r g;exists b7 (A7 I n ih _ _ _ e r),as,q1,q2,q3;refine⟨_,.list g rfl rfl (by simpa using q1),q2,?_⟩;show PyData.depthAll _+1<=n+1;exact Nat.add_le_add_right q3 1
  cases r with
  |none=>exists e;exact⟨_,.none,rfl,f6 _⟩
  |bool b=>exists e;exact⟨_,.bool b,rfl,f6 _⟩
  |int i t=>exists e;exact⟨_,.int i t,rfl,f6 _⟩
  |str y t=>
   exists ak (guard_some e),q,e
   (clear lists ih I;exists e)
   have:=U5 q;exact⟨[],.str y t,this,f6 _⟩
  |tup g m rs=>
   exists ae (HC e),l',e1,BG;clear e m lists;subst BG;exists b7 (A7 I n ih _ _ _ e1 rs),as,q1,q2,q3;refine⟨_,.tuple g rfl rfl (by simpa using q1),q2,?_⟩;show PyData.depthAll _+1<=n+1;exact Nat.add_le_add_right q3 1
  |lst g m rs=>
   exists ae (yR e),l',e1,ON;clear e m ih I;subst ON;exact lists e1 rs g
  |dct=>exact nq e
  |ref hk=>
   rename_i k a;dsimp only at e;unfold resR at e;split at e
   ·rename_i en hl;exists ak (fN hl),m,i;exists b7 (I.objs en m),b,e1,e2,e3;rw[i,hk]at e1;exists e1;revert e3 e;clear e2 i m hl hk ih I;induction en.obj using Internal.bq.casesOn with
    |list l'=>
     rintro e ⟨vs,n',g,r⟩;exists ae (yR e),l'',e1,Lv;clear e;subst Lv;exact lists e1 r g
    |dict l'=>intro e;exact nq e
   ·exact nq e
theorem Jx(n:Nat)(ih:∀a b,(bE a).depth<=n->teq (n+1) a b=PyData.eqv (bE a) (bE b))(x:List V):∀(y:List V),PyData.depthAll (pyVs x)<=n->gA (teq (n+1)) x y=PyData.eqvAll (pyVs x) (pyVs y):=by
 induction x with
 |nil=>intro y _;induction y using aN <;> rfl
 |cons a x GW=>
  intro y hd
  induction y using aN with
  |nil=>rfl
  |cons b y=>
   have km:max (bE a).depth (PyData.depthAll (pyVs x))<=n:=hd;show(match teq (n+1) a b with|true=>gA (teq (n+1)) x y|false=>false)=(PyData.eqv (bE a) (bE b) && PyData.eqvAll (pyVs x) (pyVs y))
   rw[ih a b (bx (Nat.le_max_left ..) km),GW y (bx (Nat.le_max_right ..) km)];clear km hd ih GW;induction PyData.eqv (bE a) (bE b)using aB <;> rfl
theorem beq'_eq(a b:Bool):beq' a b=(a == b):=by induction a using aB <;> induction b using aB <;> rfl
theorem strs_eq(x y:List Nat):tA x y=((⟨x.toArray⟩:Str) == ⟨y.toArray⟩):=by
 rw[g8,LQ];simp
set_option tactic.hygienic true in
theorem sJ:∀(n:Nat) (a b:V),(bE a).depth<=n->teq (n+1) a b=PyData.eqv (bE a) (bE b):=by
 intro n
 induction n with
 |zero=>
  intro a b hd
  induction a using Internal.V.casesOn with
  |tup x=>exact absurd hd (by show ¬ PyData.depthAll _+1<=0;exact Nat.not_add_one_le_zero (PyData.depthAll (pyVs x)))
  |lst x=>exact absurd hd (by show ¬ PyData.depthAll _+1<=0;exact Nat.not_add_one_le_zero (PyData.depthAll (pyVs x)))
  |dct x=>exact absurd hd (by show ¬ PyData.depthKv []+1<=0;exact Nat.not_add_one_le_zero (PyData.depthKv []))
  |ref x=>exact absurd hd (by show ¬ PyData.depthKv []+1<=0;exact Nat.not_add_one_le_zero (PyData.depthKv []))
  |none=>clear hd;induction b using Internal.V.casesOn <;> rfl
  |bool x=>induction b using Internal.V.casesOn <;> first|rfl|(show beq' _ _=(_ == _);exact beq'_eq _ _)|(show ieq _ _=(_ == _);rw[ieq_eq];induction x using aB <;> rfl)
  |int x=>induction b using Internal.V.casesOn <;> first|rfl|(show ieq _ _=(_ == _);rw[ieq_eq];rfl)|(rename_i y;show ieq _ _=(_ == _);rw[ieq_eq];induction y using aB <;> rfl)
  |str x=>clear hd;induction b using Internal.V.casesOn <;> first|rfl|exact strs_eq _ _
 |succ n ih=>
  intro a b hd
  induction a using Internal.V.casesOn with
  |tup x=>
   have hx:PyData.depthAll (pyVs x)+1<=n+1:=hd;clear hd;induction b using Internal.V.casesOn <;> first|rfl|exact Jx n ih x _ (Nat.le_of_lt_succ hx)
  |lst x=>
   have hx:PyData.depthAll (pyVs x)+1<=n+1:=hd;clear hd;induction b using Internal.V.casesOn <;> first|rfl|exact Jx n ih x _ (Nat.le_of_lt_succ hx)
  |dct x=>clear hd ih;induction b using Internal.V.casesOn <;> rfl
  |ref x=>clear hd ih;induction b using Internal.V.casesOn <;> rfl
  |none=>clear hd ih;induction b using Internal.V.casesOn <;> rfl
  |bool x=>induction b using Internal.V.casesOn <;> first|rfl|(show beq' _ _=(_ == _);exact beq'_eq _ _)|(show ieq _ _=(_ == _);rw[ieq_eq];induction x using aB <;> rfl)
  |int x=>induction b using Internal.V.casesOn <;> first|rfl|(show ieq _ _=(_ == _);rw[ieq_eq];rfl)|(rename_i y;show ieq _ _=(_ == _);rw[ieq_eq];induction y using aB <;> rfl)
  |str x=>clear hd ih;induction b using Internal.V.casesOn <;> first|rfl|exact strs_eq _ _
section
variable {A:Around} {n:Nat} {E:Value->Shared->Prop} {s:Shared}
set_option tactic.hygienic true in
theorem HN(e:mU H a b=some r):∃a' b',res H cJ a=some a'/\res H cJ b=some b'/\r=teq deepN a' b':=by
 unfold mU at e;split at e
 ·rename_i a' ha;exists k9 e,b',hb,e
  ·exact⟨a',b',ha,hb,(aI e).symm⟩
 ·exact nq e
theorem u4(h1:d.canLay0=true)(h2:d.depth<=cJ):SeqAt.shaped d=true:=by
 unfold SeqAt.shaped;rw[h1,Bool.true_and];exact decide_eq_true (bx h2 dq)
theorem cmp_eq(I:C.I φ H s.heap)(R:Rm A n)(ra:C.R φ H s.heap a x)(rb:C.R φ H s.heap b y)(e:mU H a b=some r)(h:Q (.bool r) s):C.wp A (compareOp .Eq x y) Q E s:=by
 exists cx (HN e),a',b',ea,eb,Sa;clear e;subst Sa;exists b7 (jO I _ _ _ _ ea ra),as,q1,q2,q3;exists b7 (jO I _ _ _ _ eb rb),bs,p1,p2,p3;refine eq_dataH q1 p1 (u4 q2 q3) (u4 p2 p3) R.JP ?_;rw[<- sJ 7 a' b' q3];exact h
theorem WZ(I:C.I φ H s.heap)(R:Rm A n)(ra:C.R φ H s.heap a x)(rb:C.R φ H s.heap b y)(e:ET a b H=some r)(h:Q (.bool r) s):C.wp A (compareOp .NotEq x y) Q E s:=by
 have e:jm (mU H a b)=some r:=e
 induction e':mU H a b using aL with
 |none=>rw[e']at e;exact nq e
 |some r'=>
  rw[e']at e;exists e;exists cx (HN e'),a',b',ea,eb,Ri;clear e';subst Ri;exists b7 (jO I _ _ _ _ ea ra),as,q1,q2,q3;exists b7 (jO I _ _ _ _ eb rb),bs,p1,p2,p3;refine ne_dataH q1 p1 (u4 q2 q3) (u4 p2 p3) R.JP ?_;rw[<- sJ 7 a' b' q3];exact h
end
end
end
section
open PySem PySem.Calls PyProof.Rows PySem.W
section
variable {prog:Program} {w:World} {A:Around} {E:Value->Shared->Prop} {s:Shared}
noncomputable def gop(g:Bool):CmpOp:=match g with
 |true=>.Gt
 |false=>.Lt
noncomputable def VJ(g:Bool):Builtin:=match g with
 |true=>Builtin.«tuple.__gt__»
 |false=>Builtin.«tuple.__lt__»
theorem readsAll_len:∀{vs:List Value} {as:List Addr},ReadsAll h vs (pyVs l) as->vs.length=l.length:=by
 induction l with
 |nil=>intro vs as r;cases r;rfl
 |cons a l ih=>intro vs as r;cases r with|cons _ r=>exact congrArg Nat.succ (ih r)
noncomputable def HB(g:Bool)(n:Nat):Prop:=∀(prog:Program) (w:World) (A:Around) (s:Shared) (a b:V) (x y:Value) (as bs:List Addr) (r:Bool) (E Q:Value->Shared->Prop),Reads s.heap x (bE a) as->Reads s.heap y (bE b) bs->
 (bE a).canLay0=true->(bE b).canLay0=true->(bE a).depth<=cJ->(bE b).depth<=cJ->tcmp g n a b=some r->A.units+2 * n+64<cLine->Q (.bool r) s->wpAny (model prog w) A (richCompare (gop g) x y) Q E s
structure TI (g:Bool) (n:Nat) (r:Bool) (h:Heap) (N M:Nat) (vs us:List Value) (a b:List V) (as bs:List Addr) (c:Nat):Prop where
 ra:ReadsAll h vs (pyVs a) as
 rb:ReadsAll h us (pyVs b) bs
 ca:PyData.canLayAll0 (pyVs a)=true
 cb:PyData.canLayAll0 (pyVs b)=true
 da:PyData.depthAll (pyVs a)<cJ
 db:PyData.depthAll (pyVs b)<cJ
 e:fM g (tcmp g n) a b=some r
 l1:N=c+vs.length
 l2:M=c+us.length
noncomputable def zj(g:Bool)(n:Nat)(r:Bool)(h:Heap)(N M:Nat)(rest:List (Value×Value)):Prop:=∃vs us a b as bs c,rest=List.zip vs us/\TI g n r h N M vs us a b as bs c
theorem readsAll_nil(r:ReadsAll h vs (pyVs []) as):vs=[]:=by cases r;rfl
theorem uX(r:ReadsAll h vs (pyVs (a::l)) as):∃v ws lx v3,vs=v::ws/\Reads h v (bE a) lx/\ReadsAll h ws (pyVs l) v3:=by
 cases r with
 |cons r1 r2=>exact⟨_,_,_,_,rfl,r1,r2⟩
section
variable {g:Bool} {n:Nat} {r:Bool} {h:Heap} {N M:Nat} {vs us:List Value} {a b:List V} {as bs:List Addr} {c:Nat} {rest:List (Value×Value)} {p q:Value}
theorem Jd(T:TI g n r h N M vs us a b as bs c)(hr:(p,q)::rest=List.zip vs us):∃a1 a2 b1 b2 lx oD,Reads h p (bE a1) lx/\Reads h q (bE b1) oD/\(bE a1).canLay0=true/\(bE b1).canLay0=true/\(bE a1).depth<cJ/\(bE b1).depth<cJ/\
  (match teq deepN a1 b1 with|true=>fM g (tcmp g n) a2 b2|false=>tcmp g n a1 b1)=some r/\(fM g (tcmp g n) a2 b2=some r->zj g n r h N M rest)/\a=a1::a2/\b=b1::b2:=by
 induction a using aN with
 |nil=>rw[readsAll_nil T.ra]at hr;exact nomatch hr
 |cons a1 a2=>
  induction b using aN with
  |nil=>rw[readsAll_nil T.rb,List.zip_nil_right]at hr;exact nomatch hr
  |cons b1 b2=>
   exists vC (uX T.ra),v,ws,lx,v3,e1,r1,r2;exists vC (uX T.rb),u,xs,oD,Dk,e2,q1,q2;have l1:=T.l1;have l2:=T.l2;rw[e1,e2,List.zip_cons_cons]at hr;rw[e1]at l1;rw[e2]at l2;have c1:=mq.mp (show(PyData.canLay0 (bE a1) && PyData.canLayAll0 (pyVs a2))=true from T.ca);have c2:=mq.mp (show(PyData.canLay0 (bE b1) && PyData.canLayAll0 (pyVs b2))=true from T.cb);have d1:=Nat.max_lt.mp (show max (bE a1).depth (PyData.depthAll (pyVs a2))<cJ from T.da);have d2:=Nat.max_lt.mp (show max (bE b1).depth (PyData.depthAll (pyVs b2))<cJ from T.db);clear e2 e1;cases hr;exact⟨a1,a2,b1,b2,lx,oD,r1,q1,c1.1,c2.1,d1.1,d2.1,T.e,fun e=>⟨ws,xs,a2,b2,v3,Dk,c+1,rfl,r2,q2,c1.2,c2.2,d1.2,d2.2,e,by rw[l1,fS];exact Eq.symm (Nat.succ_add_eq_add_succ c ws.length),by rw[l2,fS];exact Eq.symm (Nat.succ_add_eq_add_succ c xs.length)⟩,rfl,rfl⟩
theorem Kn(T:TI g n r h N M vs us a b as bs c)(hr:[]=List.zip vs us):Builtin.Tuple.tupleCompareSizes (gop g) N M = .bool r:=by
 have e:=T.e;have k1:=readsAll_len T.ra;have k2:=readsAll_len T.rb;rw[T.l1,T.l2,k1,k2];clear k2 k1;induction a using aN with
 |nil=>
  induction b using aN with
  |nil=>cases aI e;induction g using aB <;> simp [Builtin.Tuple.tupleCompareSizes,gop]
  |cons b1 b2=>cases aI e;induction g using aB <;> simp [Builtin.Tuple.tupleCompareSizes,gop]
 |cons a1 a2=>
  induction b using aN with
  |nil=>cases aI e;induction g using aB <;> simp [Builtin.Tuple.tupleCompareSizes,gop]
  |cons b1 b2=>
   exists vC (uX T.ra),v,ws,lx,v3,e1,r1,r2;exists vC (uX T.rb),u,xs,oD,Dk,e2,q1,q2;rw[e1,e2]at hr;exact nomatch hr
end
theorem VW(g:Bool)(n:Nat)(ih:HB g n)
  (hx:s.heap.get? x=some ox) (dx:ox.data = .seq vs m) (hy:s.heap.get? y=some oy) (cy:oy.cls = .type "tuple") (dy:oy.data = .seq us k) (ra:ReadsAll s.heap vs.toList (pyVs a) as) (rb:ReadsAll s.heap us.toList (pyVs b) bs) (ca:PyData.canLayAll0 (pyVs a)=true) (cb:PyData.canLayAll0 (pyVs b)=true)
  (da:PyData.depthAll (pyVs a)<cJ) (db:PyData.depthAll (pyVs b)<cJ) (e:fM g (tcmp g n) a b=some r) (hu:A.units+2 * n+64<cLine) (h:P (.done (.ret (.bool r))) s) :
  wpAny (model prog w) A (VJ g ⟨[.ref x,.ref y],[]⟩) P E s:=by
 have BF:s.TypeIs (.ref y) "tuple":=⟨_,hy,cy⟩
 suffices hs:wpAny (model prog w) A (isInstance (.ref y) (.type "tuple") >>= fun c=>if (!c)=true then ret .notImplemented else Builtin.Tuple.tupleItemsOf (.ref x) >>= fun xs=>Builtin.Tuple.tupleItemsOf (.ref y) >>= fun ys=>do
   for (p,q) in xs.toList.zip ys.toList do
    if !(<- eqBool p q)then rule "tuple.compare.by-the-first-pair-that-differs";return <- ret (<- richCompare (gop g) p q)
   ret (Builtin.Tuple.tupleCompareSizes (gop g) xs.size ys.size)) P E s by
  clear BF h hu e db da cb ca rb ra dy cy hy dx hx ih;induction g using aB <;> exact hs
 refine a9 (wpAny_isInstance BF isSubtype_tuple_tuple ?_);refine eF dq ?_;refine a9 (wpAny_tupleItemsOf hx dx ?_);refine a9 (wpAny_tupleItemsOf hy dy ?_);refine a9 ?_;have T0:zj g n r s.heap vs.size us.size (List.zip vs.toList us.toList):=⟨_,_,a,b,as,bs,0,rfl,ra,rb,ca,cb,da,db,e,by simp,by simp⟩;clear hx dx hy cy dy ra rb ca cb da db e BF;refine wpAny_forIn_list _ (fun rest z s'=>z.1=none/\s'=s/\zj g n r s.heap vs.size us.size rest) _ ?_ ?_ _ _ ⟨rfl,rfl,T0⟩
 ·rintro ⟨p,q⟩ rest ⟨z1,z2⟩ s' ⟨hz,rfl,T⟩;clear T0;cases (show z1=none from hz);exists uE T,vs,us,a,b,as,bs,c,hr,T;exists IC (Jd T hr),a1,a2,b1,b2,lx,oD,r1,q1,c1,c2,d1,d2,e2,hT,Z0;have RY:cJ=7:=rfl;refine a9 (SeqAt.eqAt_reads (bE a1) (bE b1) A s' p q _ _ r1 q1 c1 c2 (by lia) prog w E _ ?_);rw[<- sJ 7 a1 b1 (fo d1)];clear T hr hz;cases ht:teq (7+1) a1 b1 with
  |true=>
   rw[show teq deepN a1 b1=true from ht]at e2;refine eF dq ?_;exact aw ⟨rfl,rfl,hT e2⟩
  |false=>
   rw[show teq deepN a1 b1=false from ht]at e2;refine g6 dq ?_;refine a9 (wpAny_rule (a9 (ih prog w A s' a1 b1 p q _ _ r E _ r1 q1 c1 c2 (fo d1) (fo d2) e2 (by lia) ?_)));exact a9 (aw (aw (aw h)))
 ·rintro ⟨z1,z2⟩ s' ⟨hz,rfl,T⟩;clear T0 hu ih;cases (show z1=none from hz);exists uE T,Z0,Z0,a,b,as,bs,c,hr,T;show wpAny (model prog w) A (ret (Builtin.Tuple.tupleCompareSizes (gop g) vs.size us.size)) P E s';rw[Kn T hr];exact aw h
theorem Y0(e:tcmp g (n+1) a b=some r):(∃x y,a = .int x/\b = .int y/\r=Ec g x y)\/∃x y,a = .tup x/\b = .tup y/\fM g (tcmp g n) x y=some r:=by
 induction a using V.casesOn with
 |int x=>induction b using V.casesOn with
  |int y=>exact .inl ⟨_,_,rfl,rfl,(aI e).symm⟩
  |_=>exact nq e
 |tup x=>induction b using V.casesOn with
  |tup y=>exact .inr ⟨_,_,rfl,rfl,e⟩
  |_=>exact nq e
 |_=>exact nq e
theorem Ds(g:Bool)(n:Nat):HB g n:=by
 induction n with
 |zero=>exact fun _ _ _ _ _ _ _ _ _ _ _ _ _ _ _ _ _ _ _ e=>nq e
 |succ n ih=>
  intro prog w A s a b x y as bs r E Q ra rb ca cb da db e hu h;rcases Y0 e with⟨i,j,rfl,rfl,rfl⟩|⟨l,l',rfl,rfl,e⟩
  ·clear e db cb da ca hu;cases ra;cases rb;clear ih;induction g using aB with
   |false=>exact(show wpAny (model prog w) A (compareOp .Lt _ _) Q E s from lt_int (by rw[<- ilt_eq];exact h))
   |true=>exact(show wpAny (model prog w) A (compareOp .Gt _ _) Q E s from gt_int (by rw[<- ilt_eq];exact h))
  ·dsimp only[bE]at ra rb;cases ra with
   |@tuple xa xo xs xn _ _ h1 h2 h3 h4=>
    cases rb with
    |@tuple ya yo ys yn _ _ k1 k2 k3 k4=>
     have d1:PyData.depthAll (pyVs l)+1<=cJ:=da;have d2:PyData.depthAll (pyVs l')+1<=cJ:=db;have c1:PyData.canLayAll0 (pyVs l)=true:=ca;have c2:PyData.canLayAll0 (pyVs l')=true:=cb;have GS:A.in1.units+2 * n+64<cLine:=by show A.units+1+2 * n+64<cLine;lia
     have tree:=VW (prog:=prog) (w:=w) (A:=A.in1) (E:=E) g n ih (P:=fun fin s'=>∃v,fin = .done (.ret v)/\(v ≠ .notImplemented/\Q v s')) h1 h3 k1 k2 k3 h4 k4 c1 c2 (by lia) (by lia) e GS ⟨_,rfl,by simp,h⟩;clear GS c2 c1 d2 d1 k4 k3 h4 h3 e db cb da ca h;clear e ih;induction g using aB with
     |false=>exact wpAny_richCompare_same_room (op:=.Lt) ⟨_,h1,h2⟩ ⟨_,k1,k2⟩ PySem.F.slot_tuple_lt (wpAny_call_entry PySem.F.slot_tuple_lt ⟨_,h1,h2⟩ PySem.F.entry_tuple_lt tree (PySem.F.args_tuple_lt_2 _ _)) (by lia)
     |true=>exact wpAny_richCompare_same_room (op:=.Gt) ⟨_,h1,h2⟩ ⟨_,k1,k2⟩ PySem.F.slot_tuple_gt (wpAny_call_entry PySem.F.slot_tuple_gt ⟨_,h1,h2⟩ PySem.F.entry_tuple_gt tree (PySem.F.args_tuple_gt_2 _ _)) (by lia)
variable {C:Cf} {φ:Ph} {H:Hp} {n:Nat}
set_option tactic.hygienic true in
theorem Hy(I:C.I φ H s.heap)(R:Rm A n)(ra:C.R φ H s.heap a x)(rb:C.R φ H s.heap b y)(e:jJ g H a b=some r)(h:Q (.bool r) s):C.wp A (richCompare (gop g) x y) Q E s:=by
 unfold jJ at e;split at e
 ·rename_i a' ea;exists k9 e,b',eb,e
  ·exists b7 (jO I _ _ _ _ ea ra),as,q1,q2,q3;exists b7 (jO I _ _ _ _ eb rb),bs,p1,p2,p3;exact Ds g 8 C.prog C.w A s a' b' x y _ _ r E Q q1 p1 q2 p2 q3 p3 e (by have:=R.units;lia) h
 ·exact nq e
theorem Rb(I:C.I φ H s.heap)(R:Rm A n)(ra:C.R φ H s.heap a x)(rb:C.R φ H s.heap b y)(e:jJ false H a b=some r)(h:Q (.bool r) s):C.wp A (compareOp .Lt x y) Q E s:=Hy (g:=false) I R ra rb e h
theorem cmp_gt(I:C.I φ H s.heap)(R:Rm A n)(ra:C.R φ H s.heap a x)(rb:C.R φ H s.heap b y)(e:jJ true H a b=some r)(h:Q (.bool r) s):C.wp A (compareOp .Gt x y) Q E s:=Hy (g:=true) I R ra rb e h
theorem CU(e:pC a b=some r):∃i j,a = .int i/\b = .int j/\r = !ilt j i:=by
 induction a using Internal.V.casesOn <;> simp only[pC]at e <;> try cases e
 induction b using Internal.V.casesOn <;> simp only at e <;> cases e
 exact⟨_,_,rfl,rfl,rfl⟩
theorem TC(ra:C.R φ H h a x)(rb:C.R φ H h b y)(e:pC a b=some r)(hq:Q (.bool r) s):C.wp A (compareOp .LtE x y) Q E s:=by
 exists cx (CU e),i,j,xY,Q6,Ng;clear e;subst xY;subst Q6;subst Ng;exists aD (int_at ra),t,WH;clear ra;subst WH;exists aD (int_at rb),u,yj;clear rb;subst yj;refine le_int ?_;rw[ilt_eq]at hq;rw[show decide (i<=j) = !decide (j<i) by rw[g8];simp];exact hq
theorem RW(ra:C.R φ H h a x)(rb:C.R φ H h b y)(e:pC b a=some r)(hq:Q (.bool r) s):C.wp A (compareOp .GtE x y) Q E s:=by
 exists cx (CU e),i,j,L9,P1,Um;clear e;subst L9;subst P1;subst Um;exists aD (int_at ra),t,th;clear ra;subst th;exists aD (int_at rb),u,Aa;clear rb;subst Aa;refine ge_int ?_;rw[ilt_eq]at hq;rw[show decide (i<=j) = !decide (j<i) by rw[g8];simp];exact hq
theorem FY(r:C.R φ H h a x):isNone a=(x == Value.none):=by cases r <;> rfl
theorem G5(r:C.R φ H h a x)(e:isNone a=true):x=Value.none:=by cases r <;> first|rfl|exact bf e
theorem Qo(ra:C.R φ H h a x)(rb:C.R φ H h b y)(e:guard' (isNone b) (some (isNone a))=some r)(hq:Q (.bool r) s):C.wp A (compareOp .Is x y) Q E s:=by
 exists ak (guard_some e),e1,e2
 (clear e;exists e2)
 have:=G5 rb e1;clear e1 rb;subst this;exact is_none (by rw[<- FY ra];exact hq)
theorem XD(ra:C.R φ H h a x)(rb:C.R φ H h b y)(e:guard' (isNone b) (some (!isNone a))=some r)(hq:Q (.bool r) s):C.wp A (compareOp .IsNot x y) Q E s:=by
 exists ak (guard_some e),e1,e2
 (clear e;exists e2)
 have:=G5 rb e1;clear e1 rb;subst this;exact isNot_none (by rw[<- FY ra];exact hq)
end
end
section
open PySem PySem.Calls PyProof.Rows PySem.W
noncomputable abbrev Cf.knd(C:Cf):HeapKind C.prog C.w (List Int):=tupleKind (intKind C.prog C.w)
section
variable {C:Cf} {φ:Ph} {H:Hp} {h h':Heap}
theorem XJ:∀{vs:List Value},C.Rs φ H h (k.map .int) vs->ItemsAre (intKind C.prog C.w) k vs:=by
 induction k with
 |nil=>
  intro _ r;cases r;exact .nil
 |cons a k ih=>
  intro _ r;cases r with
  |cons q r=>
   exists aD (int_at q),t,Zb;clear q;subst Zb;exact .cons (intKind_is _ _ a t) (ih r)
theorem kF(r:C.R φ H h (.tup (k.map .int)) (.ref a)):C.knd.is h k a:=by
 exists fH (gq r),b,vs,n,e,g,m,rs;clear m r;cases e;exact⟨_,_,n,g,rfl,rfl,by simpa using XJ rs⟩
theorem H0:∀{k:List Int},keyOf l=some k->l=k.map .int:=by
 induction l with
 |nil=>
  intro k e;exists e;rfl
 |cons v l ih=>
  intro k e
  induction v using Internal.V.casesOn with
  |int i=>
   have e:(match keyOf l with|some k=>some (i::k)|none=>none)=some k:=e
   induction hk:keyOf l using aL with
   |none=>rw[hk]at e;exact nq e
   |some k'=>rw[hk]at e;exists e;rw[ih hk];rfl
  |_=>exact nq e
theorem tC(e:kA v=some k):v = .tup (k.map .int):=by
 unfold kA at e;split at e
 ·rw[H0 e]
 ·exact nq e
inductive EX (C:Cf) (φ:Ph) (H:Hp) (h:Heap):List (List Int×V)->List (List Int×Addr×Value)->Prop
 |nil:EX C φ H h [] []
 |cons {k:List Int} {v:V} {l:List (List Int×V)} {a:Addr} {x:Value} {xs:List (List Int×Addr×Value)}:C.R φ H h (.tup (k.map .int)) (.ref a)->C.R φ H h v x->EX C φ H h l xs->EX C φ H h ((k,v)::l) ((k,a,x)::xs)
theorem EX.of:∀{es:List DictEntry},C.Es φ H h l es->∃xs,EX C φ H h l xs/\es=xs.map (entryOfKey C.knd):=by
 induction l with
 |nil=>intro _ r;cases r;exact⟨[],.nil,rfl⟩
 |cons kv l ih=>
  intro _ r;cases r with
  |@cons k v _ e es a e1 e2 q1 q2 r=>
   exists ae (ih r),xs,p,qn;clear r;subst qn;refine⟨(k,a,e.val)::xs,.cons q1 q2 p,?_⟩;rw[aO];congr 1;clear p q2 q1;obtain⟨iF,jb,pY⟩:=e;simp only at e1 e2;subst e1 e2;rfl
theorem EX.es(r:EX C φ H h l xs):C.Es φ H h l (xs.map (entryOfKey C.knd)):=by
 induction r with
 |nil=>exact .nil
 |cons q1 q2 _ ih=>exact .cons rfl rfl q1 q2 ih
theorem EX.keys(r:EX C φ H h l xs):xs.map (·.1)=l.map (·.1):=by
 induction r with
 |nil=>rfl
 |cons q1 q2 _ ih=>exact congrArg (List.cons _) ih
theorem EX.is(r:EX C φ H h l xs):∀x∈xs,C.knd.is h x.1 x.2.1:=by
 induction r with
 |nil=>exact fun _ m=>nomatch m
 |cons q1 q2 _ ih=>exact jn.mpr ⟨kF q1,ih⟩
theorem EX.length(r:EX C φ H h l xs):xs.length=l.length:=by
 induction r with
 |nil=>rfl
 |cons q1 q2 _ ih=>exact congrArg Nat.succ ih
theorem EX.dict{l:List (List Int×V)}{es:List DictEntry}{a:Addr}{n:Nat}(g:h.get? a=some (cS es n))(r:C.Es φ H h l es)(nd:(l.map (·.1)).Nodup) :
  ∃xs,EX C φ H h l xs/\h.DictOfH C.knd a xs:=by
 exists ae (EX.of r),xs,p,Sb;clear r;subst Sb;exact⟨xs,p,_,_,n,g,⟨rfl,rfl,rfl⟩,rfl,by simp,p.is,by rw[p.keys];exact nd⟩
theorem vP(D:h.DictOfH C.knd a xs):∃n,h.get? a=some (cS (xs.map (entryOfKey C.knd)) n):=by
 obtain⟨o,es,ep,g,⟨c1,c2,c3⟩,d,e,_⟩:=D;refine⟨ep,?_⟩;rw[g];clear g;obtain⟨oc,od,odt,osl⟩:=o;simp only at c1 c2 c3 d;subst c1 c2 c3 d;obtain⟨l⟩:=es;simp only at e;subst e;rfl
theorem Fm(x:List Int×Addr×Value)(xs:List (List Int×Addr×Value))(k:List Int):atKey (x::xs) k=if x.1=k then some x.2 else atKey xs k:=by
 unfold atKey;rw[List.find?_cons];by_cases q:x.1=k <;> simp [q]
theorem EX.get(r:EX C φ H h l xs)(k:List Int):(∀v,dget l k=some v->∃a x,atKey xs k=some (a,x)/\C.R φ H h v x)/\(dget l k=none->atKey xs k=none):=by
 induction r with
 |nil=>exact⟨fun v e=>nn e,fun _=>rfl⟩
 |@cons k' v' l a x xs q1 q2 r ih=>
   rw[Fm];dsimp only[dget];clear r q1;induction z:keq k' k using aB with
   |true=>
    rw[keq_iff]at z;subst z;simp only[if_true];exact⟨fun v e=>⟨_,_,rfl,aI e▸q2⟩,fun e=>ns e⟩
   |false=>
    rw[if_neg (C0 z)];exact ih
theorem Pu(l:List (List Int×V))(k:List Int)(v:V):(dset l k v).map (·.1)=if k∈l.map (·.1)then l.map (·.1)else l.map (·.1)++[k]:=by
 induction l with
 |nil=>simp [dset]
 |cons e l ih=>
  obtain⟨k',v'⟩:=e;dsimp only[dset]
  induction z:keq k' k using aB with
  |true=>
   rw[keq_iff]at z;subst z;simp
  |false=>
   have bN:=C0 z;have:=ih;simp only[aO,aH,this];by_cases q:k∈l.map (·.1)
   ·simp [q]
   ·simp [q,Ne.symm bN]
theorem z6(nd:(l.map (·.1)).Nodup)(k:List Int)(v:V):((dset l k v).map (·.1)).Nodup:=by
 rw[Pu];split
 ·exact nd
 ·rename_i q;rw[List.nodup_append];exact⟨nd,by simp,fun x hx y hy=>by simp at hy;clear nd;subst hy;exact fun e=>q (e▸hx)⟩
theorem EX.T6(r:EX C φ H h l xs):(l.map (·.1)).Nodup->∀{k:List Int} {v:V} {x:Value},C.R φ H h v x->k∈l.map (·.1)->EX C φ H h (dset l k v) (xs.map (putAt k x)):=by
 induction r with
 |nil=>exact fun _ _ _ _ _ m=>nomatch m
 |@cons k' v' l a y xs q1 q2 r ih=>
   intro nd k v x rv m;rw[aO,eu]at nd;dsimp only[dset]
   induction z:keq k' k using aB with
   |true=>
    rw[keq_iff]at z;clear q2 m;subst z;rw[aO,putAt,if_pos rfl,map_putAt_of_not_mem xs k' x (by rw[r.keys];exact nd.1)];exact .cons q1 rv r
   |false=>
    have bN:=C0 z;rw[aO,putAt,if_neg bN];refine .cons q1 q2 (ih nd.2 rv ?_);clear z r q2 q1 rv nd;rcases aH.mp m with e|m
    ·exact absurd e.symm bN
    ·exact m
theorem EX.append(r:EX C φ H h l xs)(r':EX C φ H h l' KQ):EX C φ H h (l++l') (xs++KQ):=by
 induction r with
 |nil=>exact r'
 |cons a b _ ih=>exact .cons a b ih
theorem Mg{l:List (List Int×V)}{k:List Int}{v:V}:k ∉ l.map (·.1)->dset l k v=l++[(k,v)]:=by
 induction l with
 |nil=>intro _;rfl
 |cons e0 l ih=>
  obtain⟨k',v'⟩:=e0;intro m;dsimp only[dset]
  induction z:keq k' k using aB with
  |true=>exact absurd ((keq_iff _ _).mp z▸.head _) m
  |false=>exact congrArg ((k',v') :: ·) (ih fun q=>m (.tail _ q))
theorem z8{xs:List (List Int×Addr×Value)}{k:List Int}:(atKey xs k).isSome=true↔k∈xs.map (·.1):=by
 induction xs with
 |nil=>simp [atKey]
 |cons x xs ih=>
  rw[Fm];by_cases q:x.1=k
  ·simp [q]
  ·simp only[if_neg q,aO,aH,ih];exact⟨.inr,fun z=>z.resolve_left fun e=>q e.symm⟩
theorem EX.set{l:List (List Int×V)}{xs:List (List Int×Addr×Value)}(r:EX C φ H h l xs)(nd:(l.map (·.1)).Nodup){k:List Int}{v:V}{x:Value}{a:Addr}(rk:C.R φ H h (.tup (k.map .int)) (.ref a))(rv:C.R φ H h v x) :
  EX C φ H h (dset l k v) (storedH xs k a x):=by
 unfold storedH;by_cases q:(atKey xs k).isSome=true
 ·rw[if_pos q];rw[z8,r.keys]at q;exact r.T6 nd rv q
 ·rw[if_neg q];rw[z8,r.keys]at q;rw[Mg q];exact r.append (.cons rk rv .nil)
theorem aaW:((ddel l k).map (·.1)).Sublist (l.map (·.1)):=by
 induction l with
 |nil=>exact .slnil
 |cons e l ih=>
  obtain⟨k',v'⟩:=e;dsimp only[ddel]
  induction keq k' k using aB with
  |true=>exact .cons _ (.refl _)
  |false=>exact .cons_cons _ ih
theorem EX.del(r:EX C φ H h l xs):∀{k:List Int} {j:Nat} {p:Addr×Value},(xs.map (·.1)).Nodup->xs[j]?=some (k,p)->EX C φ H h (ddel l k) (xs.eraseIdx j):=by
 induction r with
 |nil=>exact fun{_ _ _} _ e=>nn e
 |@cons k' v' l a y xs q1 q2 r ih=>
   intro k j p nd e;rw[aO,eu]at nd;dsimp only[ddel]
   induction j using bL with
   |zero=>
    simp at e;exists ak e,Rn,th
    try clear e
    subst Rn;subst th;rw[(keq_iff k' k').mpr rfl];exact r
   |succ j=>
    simp at e
    induction z:keq k' k using aB with
    |true=>
     rw[keq_iff]at z;subst z;exact absurd (cE.mpr ⟨_,ee e,rfl⟩) nd.1
    |false=>exact .cons q1 q2 (ih nd.2 e)
end
end
section
open PySem PySem.Calls PyProof.Rows PySem.W
section
variable {C:Cf} {φ:Ph} {H:Hp} {h:Heap} {A:Around} {n:Nat} {E:Value->Shared->Prop} {s:Shared}
theorem X9(x:V)(l:List V):(∀y∈l,(bE y).depth<=cJ)->tmem x l=(pyVs l).any (fun y=>PyData.eqv y (bE x)):=by
 induction l with
 |nil=>intro _;rfl
 |cons y l ih=>
  intro hd;have e:tmem x (y::l)=(match teq deepN y x with|true=>true|false=>tmem x l):=rfl;rw[e,show teq deepN y x=PyData.eqv (bE y) (bE x)from sJ 7 y x (hd y (.head _)),ih fun z m=>hd z (.tail _ m)];show _=(PyData.eqv (bE y) (bE x) ||_)
  clear e hd ih;induction PyData.eqv (bE y) (bE x)using aB <;> rfl
theorem N8{l:List V}{n:Nat}:PyData.depthAll (pyVs l)<=n->∀y∈l,(bE y).depth<=n:=by
 induction l with
 |nil=>intro _ y m;exact absurd m List.not_mem_nil
 |cons a l ih=>
  intro hd y m;have km:max (bE a).depth (PyData.depthAll (pyVs l))<=n:=hd;rcases aH.mp m with rfl|m
  ·exact bx (Nat.le_max_left ..) km
  ·exact ih (bx (Nat.le_max_right ..) km) y m
set_option tactic.hygienic true in
theorem Wf(e:qd H x l=some r):∃x' l',res H cJ x=some x'/\resL (res H cJ) l=some l'/\r=tmem x' l':=by
 unfold qd at e;split at e
 ·rename_i a' ha;exists fY e,b',hb,e
  ·exact⟨a',b',ha,hb,(aI e).symm⟩
 ·exact nq e
theorem S9(e:inS H a b=some r):∃l,seqView H b=some l/\lenOk l=true/\qd H a l=some r:=by
 exists fY e,l,hl,e
 ·exists ak (guard_some e),e1,e2;exact⟨l,hl,e1,e2⟩
theorem F4(I:C.I φ H s.heap)(R:Rm A n)(ra:C.R φ H s.heap a x)(rb:C.R φ H s.heap b y)(e:inS H a b=some r) :
  (∀Q:Value->Shared->Prop,Q (.bool r) s->C.wp A (compareOp .In x y) Q E s)/\(∀Q:Value->Shared->Prop,Q (.bool (!r)) s->C.wp A (compareOp .NotIn x y) Q E s):=by
 exists b7 (S9 e),l,hl,hlen,hm;exists cx (Wf hm),x',l',ex,el,Zd;clear hm hlen e;subst Zd;exists dE (nN I rb hl),d,vs,k,rq,hg,rs;clear hl rb;subst rq;exists b7 (jO I _ _ _ _ ex ra),as,q1,q2,q3;exists b7 (A7 I cJ (jO I cJ) _ _ _ el rs),bs,p1,p2,p3;have hu:A.units+1+min (PyData.depthAll (pyVs l')) (bE x').depth<cLine:=by
  have:=R.units;have:min (PyData.depthAll (pyVs l')) (bE x').depth<=7:=bx (Nat.min_le_right _ _) q3
  lia
 have et:=X9 x' l' (N8 p3);clear p3 q3 rs el ex ra R I;rcases hg with hg|hg
 ·have rd:Reads s.heap (.ref d) (.tuple (pyVs l')) bs:=.tuple hg rfl rfl (by simpa using p1);exact⟨fun Q hq=>SeqAt.in_tuple_reads rd q1 p2 q2 hu (by rw[<- et];exact hq),fun Q hq=>SeqAt.notIn_tuple_reads rd q1 p2 q2 hu (by rw[<- et];exact hq)⟩
 ·have rd:Reads s.heap (.ref d) (.list (pyVs l')) (d::bs):=.list hg rfl rfl (by simpa using p1);exact⟨fun Q hq=>SeqAt.in_list_reads rd q1 p2 q2 hu (by rw[<- et];exact hq),fun Q hq=>SeqAt.notIn_list_reads rd q1 p2 q2 hu (by rw[<- et];exact hq)⟩
theorem uH(R:Rm A n):C.knd.room A.in1:=R.u1
theorem s6(h:a≠sysModules):(a == sysModules)=false:=beq_eq_false_iff_ne.mpr h
theorem pg(r:C.R φ H h (.tup l) x):∃a,x = .ref a:=by obtain⟨a,_,_,e,_⟩:=gq r;exact⟨a,e⟩
set_option tactic.hygienic true in
theorem O8(I:C.I φ H s.heap)(R:Rm A n)(ra:C.R φ H s.heap a x)(rb:C.R φ H s.heap b y)(e:yu H a b=some r)
  (hq:∀tk,Q (.bool r) { s with toks:=tk }):C.wp A (compareOp .In x y) Q E s:=by
 unfold yu at e;split at e
 ·rename_i l hl;exists EH e,k,hk,e
  ·exists e;have:=tC hk;clear hk;subst this;exists aD (pg ra),ka,Ww;subst Ww;exists jV (sa I rb hl),d,es,m,Yh,g,re,nd,ns;clear hl rb I;subst Yh;exists ae (EX.dict g re nd),xs,px,D;refine wpAny_in_heap (uH R) (kF ra) (s6 ns) D ?_;have:=px.get k;clear D px ns nd re g ra R;induction hd:dget l k using aL with
   |none=>rw[this.2 hd];rw[hd]at hq;exact hq _
   |some v=>
    exists aU (this.1 v hd),a',x',e',Z0;rw[e'];rw[hd]at hq;exact hq _
 ·exact(F4 I R ra rb e).1 Q (hq s.toks)
theorem QU(I:C.I φ H s.heap)(R:Rm A n)(ra:C.R φ H s.heap a x)(rb:C.R φ H s.heap b y)(e:jm (inS H a b)=some r)
  (hq:Q (.bool r) s):C.wp A (compareOp .NotIn x y) Q E s:=by
 induction h':inS H a b using aL with
 |none=>rw[h']at e;exact nq e
 |some r'=>rw[h']at e;exists e;exact(F4 I R ra rb h').2 Q hq
theorem Cf.cmp(op:CmpOp)(I:C.I φ H s.heap)(R:Rm A n)(ra:C.R φ H s.heap a x)(rb:C.R φ H s.heap b y)(e:bu op a b H=some r)
  (hq:∀tk,Q (.bool r) { s with toks:=tk }):C.wp A (compareOp op x y) Q E s:=by
 induction op using PySem.CmpOp.casesOn with
 |Eq=>exact cmp_eq I R ra rb e (hq s.toks)
 |NotEq=>exact WZ I R ra rb e (hq s.toks)
 |Lt=>exact Rb I R ra rb e (hq s.toks)
 |LtE=>exact TC ra rb e (hq s.toks)
 |Gt=>exact cmp_gt I R ra rb e (hq s.toks)
 |GtE=>exact RW ra rb e (hq s.toks)
 |Is=>exact Qo ra rb e (hq s.toks)
 |IsNot=>exact XD ra rb e (hq s.toks)
 |In=>exact O8 I R ra rb e hq
 |NotIn=>exact QU I R ra rb e (hq s.toks)
theorem xP(e:fits x=true) : -(2 ^ 65)<x/\x<2 ^ 65:=by
 unfold fits at e
 induction q:b8 x.natAbs 18446744073709551616 using aB with
 |false=>rw[q]at e;exact bf e
 |true=>
  have:=bC q
  lia
theorem Ny(e:fits x=true)(f:fits y=true):IntMulOk x y:=by
 have h1:=xP e;have h2:=xP f;have bits:∀z:Int,-(2 ^ 65)<z->z<2 ^ 65->Builtin.Int.intBits z<=65:=by
  intro z a b;unfold Builtin.Int.intBits;split
  ·exact f6 _
  ·have:z.natAbs<2 ^ 65:=by lia
   have h3:z.natAbs≠0:=by rename_i q;simpa using q
   have:=(Nat.log2_lt h3).mpr this
   assumption
 have b1:=bits x h1.1 h1.2;have b2:=bits y h2.1 h2.2;have hb:bitsLine=134217728:=rfl;unfold IntMulOk;have:Builtin.Int.intTooBig (Builtin.Int.intBits x+Builtin.Int.intBits y)=false:=by
  unfold Builtin.Int.intTooBig;exact decide_eq_false (by lia)
 rw[this];simp
theorem Rl(f:fits y=true):Builtin.divisionGoesByPylong x y=false:=by
 have h2:=xP f;have:¬ ((if (y == 0)=true then 0 else y.natAbs.log2 / 30+1) > 300):=by
  split
  ·exact Nat.not_lt_zero 300
  ·have:y.natAbs<2 ^ 65:=by lia
   have h3:y.natAbs≠0:=by rename_i q;simpa using q
   have:=(Nat.log2_lt h3).mpr this
   lia
 unfold Builtin.divisionGoesByPylong;show(decide (_ > 300) && _)=false;rw[decide_eq_false this];rfl
theorem Cf.binI(e:Internal.binI op i j H=some (v,H'))(hq:∀r t tk,v = .int r->H'=H->Q (.int r t) { s with toks:=tk }) :
  C.wp A (binaryOp op (.int i t) (.int j u)) Q E s:=by
 induction op using PySem.Operator.casesOn with
 |Add=>injections e;exact add_int (hq _ _ _ rfl rfl)
 |Sub=>injections e;exact sub_int (hq _ _ _ rfl rfl)
 |Mult=>
  exists ak (guard_some (show guard' (band (fits i) (fits j)) (some (V.int (i * j),H))=some (v,H')from e)),e1,e2;rw[cX]at e1
  (clear e;injections e2)
  exact mul_int (hq _ _ _ rfl rfl) (Ny e1.1 e1.2)
 |FloorDiv=>
  exists ak (guard_some (show guard' (band (!ieq j 0) (band (fits i) (fits j))) (some (V.int (i.fdiv j),H))=some (v,H')from e)),e1,e2;rw[cX,cX,ieq_eq]at e1
  (clear e;injections e2)
  exact floordiv_int (by simpa using e1.1) (hq _ _ _ rfl rfl) (.inl (Rl e1.2.2))
 |Mod=>
  exists ak (guard_some (show guard' (!ieq j 0) (some (V.int (i.fmod j),H))=some (v,H')from e)),e1,e2;rw[ieq_eq]at e1
  (clear e;injections e2)
  exact mod_int' (by simpa using e1) (hq _ _ _ rfl rfl)
 |Pow=>
  exists ak (guard_some (show guard' (band (ieq i 2) (ieq j 64)) (some (V.int 18446744073709551616,H))=some (v,H')from e)),e1,e2;rw[cX,ieq_iff,ieq_iff]at e1;exists ak e1,Nf,wO
  try clear e1
  clear e;subst Nf;subst wO;injections e2;refine pow_int dq (by decide +kernel) ?_;exact hq _ _ _ rfl rfl
 |_=>exact nq e
theorem TZ(I:C.I φ H s.heap)(ra:C.R φ H s.heap (.tup l) x)(rb:C.R φ H s.heap (.tup l') y)(h1:lenOk l=true)(h2:lenOk l'=true)
  (P:C.Po φ H s H (fun a8 h' z=>C.R a8 H h' (.tup (l++l')) z) Q):C.wp A (binaryOp .Add x y) Q E s:=by
 obtain⟨a,vs,n,rfl,ga,ma,ra⟩:=gq ra;obtain⟨b,us,m,rfl,gb,mb,rb⟩:=gq rb;have la:=ra.length;have lb:=rb.length;have l1:=dJ h1;have l2:=dJ h2;by_cases hv:vs=[]
 ·refine concat_meets ⟨_,ga,rfl⟩ ⟨_,gb,rfl⟩ noFill_tuple_add seq_tuple_add PySem.F.slot_tuple_add PySem.F.entry_tuple_add (PySem.F.args_tuple_add_2 _ _) (tuple_addW0 a b vs.toArray us.toArray n m _ _ _ _ (by simp [hv])) ⟨ga,gb,?_⟩;have:l=[]:=by subst hv;induction l using aN with|nil=>rfl|cons=>cases la
  clear hv l2 l1 lb la ra ma ga h2 h1;clear ra;subst this;exact P.dT I (.tup gb mb rb)
 ·by_cases hw:us=[]
  ·refine concat_meets ⟨_,ga,rfl⟩ ⟨_,gb,rfl⟩ noFill_tuple_add seq_tuple_add PySem.F.slot_tuple_add PySem.F.entry_tuple_add (PySem.F.args_tuple_add_2 _ _) (tuple_addW1 a b vs.toArray us.toArray n m _ _ _ _ (by simpa using hv) (by simp [hw])) ⟨ga,gb,?_⟩;have:l'=[]:=by subst hw;induction l' using aN with|nil=>rfl|cons=>cases lb
   clear hw hv l2 l1 lb la rb mb gb h2 h1;clear rb;subst this;rw[gc]at P;exact P.dT I (.tup ga ma ra)
  ·refine concat_meets ⟨_,ga,rfl⟩ ⟨_,gb,rfl⟩ noFill_tuple_add seq_tuple_add PySem.F.slot_tuple_add PySem.F.entry_tuple_add (PySem.F.args_tuple_add_2 _ _)
    (tuple_addW2 a b vs.toArray us.toArray n m _ _ _ _ (by simpa using hv) (by simpa using hw) (by rw[dY,dY,<- la,<- lb];exact bx (Nat.add_le_add l1 l2) dq)) ⟨ga,gb,?_⟩
   have k:∀b o,s.heap.get? b=some o->(s.heap.push { cls:=Value.type "tuple",data:=Data.seq (vs.toArray++us.toArray) }).get? b=some o:=fun b o e=>Heap.get?_push_of_some _ e;clear hw hv l2 l1 lb la mb gb ma ga h2 h1;obtain⟨I',S⟩:=C.grow I k;have g:(s.heap.push { cls:=Value.type "tuple",data:=Data.seq (vs.toArray++us.toArray) }).get? s.heap.objs.size=some (d6 (vs++us) 0):=by
    rw[Heap.get?_push_size _ rfl];simp
   exact P _ φ _ s.toks S I' (.tup g (vl I (cA _)) (xS (ra.append rb) k))
end
end
section
open PySem PySem.Calls PyProof.Rows PySem.W
theorem Yl:fillsNumberSlot (.type "tuple") "mul" = pure false:=
 PySem.fillsNumberSlot_seq (id:="tuple.__mul__") (r:=some (.builtin "tuple.__rmul__")) PySem.F.slot_tuple_mul.lookup (by decide +kernel) PySem.F.slot_tuple_rmul.lookup (by decide +kernel)
theorem Sy:seqRepeat? (.type "tuple")=pure (some (.builtin "tuple.__mul__")):=by
 unfold seqRepeat?;rw[PySem.seqSlot_of (T:="tuple") (name:="__mul__") (id:="tuple.__mul__") PySem.F.slot_tuple_mul.lookup (by decide +kernel),PySem.seqSlot_of (T:="tuple") (name:="__rmul__") (id:="tuple.__rmul__") PySem.F.slot_tuple_rmul.lookup (by decide +kernel)];rfl
theorem RU(a:Int)(t:Tok)(l:Addr)(items:Array Value)(n:Nat) :
  Meets (Builtin.«int.__rmul__» ⟨[.int a t,.ref l],[]⟩) (fun _ R s=>s.heap.get? l=some { cls:=.type "tuple",dict:=none,data:=.seq items n,slots:=#[] }/\R (.ok (.ret Value.notImplemented)) s):=
 .of_wp fun prog w A R s h=>by obtain⟨hp,g,d,tk,os⟩:=s;obtain⟨hl,h⟩:=h;wp_walk;exact⟨_,rfl,h⟩
theorem KY(l:Addr)(v:Value)(n:Nat)(u:Tok) :
  Meets (Builtin.«tuple.__mul__» ⟨[.ref l,.int 2 u],[]⟩) (fun _ R s=>s.heap.get? l=some (d6 [v] n)/\R (.ok (.ret (Value.ref s.heap.objs.size))) { s with heap:=s.heap.push (d6 [v,v] 0) }):=
 .of_wp fun prog w A R s h=>by
  obtain⟨hp,g,d,tk,os⟩:=s;exists ak h,hl,h
  wp_walk
  exact⟨_,rfl,h⟩
section
variable {C:Cf} {φ:Ph} {H:Hp} {h h':Heap} {A:Around} {n:Nat} {E:Value->Shared->Prop} {s:Shared}
theorem Cf.pQ(I:C.I φ H h)(k:∀b o,h.get? b=some o->h'.get? b=some o)(hD:h.get? D=none)(g:h'.get? D=some (d6 vs m))(rs:C.Rs φ H h l vs) :
  C.I φ H h'/\St φ H h φ H h'/\C.R φ H h' (.tup l) (.ref D):=by
 exists ak (C.grow I k),I',S;exact⟨I',S,.tup g (vl I hD) (xS rs k)⟩
theorem cV(h:Heap)(o:Obj):∀b ob,h.get? b=some ob->(h.push o).get? b=some ob:=fun _ _ e=>Heap.get?_push_of_some _ e
theorem TY(I:C.I φ H s.heap)(ra:C.R φ H s.heap (.tup [v]) x)(P:C.Po φ H s H (fun a8 h' z=>C.R a8 H h' (.tup [v,v]) z) Q) :
  C.wp A (binaryOp .Mult x (.int 2 u)) Q E s:=by
 obtain⟨a,vs,n,rfl,ga,ma,ra⟩:=gq ra;clear ma;cases ra with
 |cons r1 r2=>
  clear ra;cases r2;refine wpAny_binaryOp_repeat_ref (T:="tuple") (U:="int") dq ⟨_,ga,rfl⟩ (fun s'=>typeIs_int s' 2 u) Yl PySem.F.fills_int_mul PySem.F.slot_int_rmul Sy PySem.F.slot_int_index.lookup
   (call_meets PySem.F.slot_int_rmul (typeIs_int s 2 u) PySem.F.entry_int_rmul (PySem.F.args_int_rmul_2 _ _) (RU 2 u a _ n)
    ⟨ga,rfl,⟨_,ga,rfl⟩,call_meets PySem.F.slot_tuple_mul ⟨_,ga,rfl⟩ PySem.F.entry_tuple_mul (PySem.F.args_tuple_mul_2 _ _) (KY a _ n u) ⟨ga,?_⟩⟩)
  clear ga;obtain⟨I',S,r⟩:=C.pQ I (cV s.heap (d6 [_,_] 0)) (cA _) (Heap.get?_push_size _ rfl) (.cons r1 (.cons r1 .nil));exact P _ φ _ s.toks S I' r
set_option tactic.hygienic true in
theorem WC(I:C.I φ H s.heap)(ra:C.R φ H s.heap a x)(rb:C.R φ H s.heap b y)(e:sg a b H=some (v,H'))
  (P:C.Po φ H s H' (fun a8 h' z=>C.R a8 H' h' v z) Q):C.wp A (binaryOp .Add x y) Q E s:=by
 unfold sg at e;split at e
 ·rename_i l hl;split at e
  ·rename_i l' rG;exists ak (guard_some e),e1,e2;rw[cX]at e1;exists dE (gj I ra hl),a,vs,n,rq,ga,rs;clear e hl ra;subst rq;exists dE (gj I rb rG),b,us,m,RP,gb,qs;clear rG rb;subst RP;refine concat_meets ⟨_,ga,rfl⟩ ⟨_,gb,rfl⟩ noFill_list_add seq_list_add PySem.F.slot_list_add PySem.F.entry_list_add (PySem.F.args_list_add_2 _ _)
    (list_addW a b vs.toArray us.toArray n m _ _ _ _ (by rw[dY,dY,<- rs.length,<- qs.length];exact bx (Nat.add_le_add (dJ e1.1) (dJ e1.2)) dq)) ⟨ga,gb,?_⟩
   have k:=cV s.heap { cls:=Value.type "list",data:=Data.seq (vs.toArray++us.toArray) };have g:(s.heap.push { cls:=Value.type "list",data:=Data.seq (vs.toArray++us.toArray) }).get? s.heap.objs.size=some (fe (vs++us) 0):=by
    rw[Heap.get?_push_size _ rfl];simp
   exists dK (C.fresh I k (cA _) (o:=.list (l++l')) ⟨_,_,g,rs.append qs⟩),I',S,r
   (clear g k qs gb rs ga e1 I;injections e2)
   exact P _ _ _ s.toks S I' r
  ·exact nq e
 ·exact nq e
theorem Az(h:isAdd op=true):op = .Add:=by
 induction op using PySem.Operator.casesOn with
 |Add=>rfl
 |_=>exact bf h
theorem MZ(h:isMul op=true):op = .Mult:=by
 induction op using PySem.Operator.casesOn with
 |Mult=>rfl
 |_=>exact bf h
theorem Cf.binOp(I:C.I φ H s.heap)(ra:C.R φ H s.heap a x)(rb:C.R φ H s.heap b y)(e:Internal.binOp op a b H=some (v,H'))
  (P:C.Po φ H s H' (fun a8 h' z=>C.R a8 H' h' v z) Q):C.wp A (binaryOp op x y) Q E s:=by
 have lists:guard' (isAdd op) (sg a b H)=some (v,H')->C.wp A (binaryOp op x y) Q E s:=by
  intro e;exists ak (guard_some e),e1,e2;have:op = .Add:=Az e1;clear e1 e;clear e;subst this;exact WC I ra rb e2 P
 unfold Internal.binOp at e
 induction a using Internal.V.casesOn with
 |int i=>
  clear lists;induction b using Internal.V.casesOn with
  |int j=>
   exists aD (int_at ra),t,CO;clear ra;subst CO;exists aD (int_at rb),u,sV;clear rb;subst sV;exists C.binI e,r,t,tk,ev,eh;clear e;subst ev eh;exact P.here I (.int r t) tk
  |_=>exact nq e
 |tup l=>
  have e:BZ op l b H=some (v,H'):=e;unfold BZ at e;clear lists;induction b using Internal.V.casesOn with
  |tup l'=>
   exists ak (guard_some e),e1,e2;rw[cX,cX]at e1;have:op = .Add:=Az e1.1;clear e;subst this;injections e2;exact TZ I ra rb e1.2.1 e1.2.2 P
  |int n=>
   exists ak (guard_some e),e1,e2;have:op = .Mult:=MZ e1;clear e1 e;subst this;unfold DJ at e2
   induction l using aN with
   |nil=>exact nq e2
   |cons w r=>
    induction r using aN with
    |cons=>exact nq e2
    |nil=>
     exists ak (guard_some (show guard' (ieq n 2) (some (V.tup [w,w],H))=some (v,H')from e2)),e3,e4;rw[ieq_iff]at e3;subst e3;injections e4;exists aD (int_at rb),u,xH;clear rb;subst xH;exact TY I ra P
  |_=>exact nq e
 |none=>exact lists e
 |bool=>exact lists e
 |str=>exact lists e
 |lst=>exact lists e
 |dct=>exact lists e
 |ref=>exact lists e
end
end
section
open PySem PySem.Calls PyProof.Rows PySem.W
section
variable {prog:Program} {w:World} {A:Around} {E:Value->Shared->Prop} {s:Shared}
theorem sliced(sl:Addr)(hs:s.heap.IsSliceOf sl va vb vc)(pa:IsPart va a)(pb:IsPart vb b)(pc:IsPart vc c)(h0:c.getD 1≠0)
  (h:Q ((Builtin.Slice.sliceAdjust a b (c.getD 1) n).1,c.getD 1,Builtin.Slice.slicePlaces (Builtin.Slice.sliceAdjust a b (c.getD 1) n).1 (Builtin.Slice.sliceAdjust a b (c.getD 1) n).2 (c.getD 1)) s) :
  wpAny (model prog w) A (Builtin.Slice.sliceApplied (.ref sl) (pure (n:Int))) Q E s:=by
 exists b7 (id hs),os,oF,f9,te;have part:∀{v:Value} {x:Option Int} {Q:Option Int->Shared->Prop},IsPart v x->Q x s->wpAny (model prog w) A (Builtin.Slice.slicePartIndex v) Q E s:=by
  intro v x Q p hq;clear te f9 oF h h0 pc pb pa hs;induction p using PySem.IsPart.casesOn with
  |none=>exact slicePart_none hq
  |int i t=>exact slicePart_int hq
 unfold Builtin.Slice.sliceApplied Builtin.Slice.sliceFields;refine a9 (a9 (wpAny_field oF te (x:=va) rfl (a9 (wpAny_field oF te (x:=vb) rfl (a9 (wpAny_field oF te (x:=vc) rfl (aw ?_)))))));refine a9 (part pc ?_);refine eF (by simpa using h0) ?_;exact a9 (part pa (a9 (part pb (a9 (aw (aw h))))))
theorem JT(ht:s.heap.get? t=some (d6 vs m))(hs:s.heap.IsSliceOf sl va vb vc)
  (pa:IsPart va a) (pb:IsPart vb b) (pc:IsPart vc c) (h0:c.getD 1≠0) (lo st:Int) (k:Nat) (pd:(Builtin.Slice.sliceAdjust a b (c.getD 1) vs.length).1=lo) (CD:c.getD 1=st)
  (hk:Builtin.Slice.slicePlaces lo (Builtin.Slice.sliceAdjust a b (c.getD 1) vs.length).2 st=k) (Vw:k<=sizeLine)
  (h1:lo=0->st=1->k=vs.length->Q (.ref t) s)
  (h2:Q (.ref s.heap.objs.size) { s with heap:=s.heap.push { cls:=.type "tuple",data:=.seq ((List.range k).filterMap fun(j:Nat)=>vs[(lo+(j:Int) * st).toNat]?).toArray } }):wpAny (model prog w) A (getItem (.ref t) (.ref sl)) Q E s:=by
 subst CD;have qm:IsTup s.heap t vs.toArray:=⟨_,ht,rfl,m,rfl⟩;exists b7 (id hs),os,oF,f9,te;have XA:s.TypeIs (.ref sl) "slice":=⟨os,oF,f9⟩;have g7:sizeOk (.seq ((List.range k).filterMap fun(j:Nat)=>vs[(lo+(j:Int) * c.getD 1).toNat]?).toArray):=by
  show Array.size _<=sizeLine;rw[dY];exact bx (List.length_filterMap_le _ _) (by rw[List.length_range];exact Vw)
 unfold getItem
 try with_reducible refine dM ?_
 refine a9 (wpAny_sequenceKey qm.typeIs dq ?_);refine a9 (wpAny_callSpecial?_slot (name:=Str.ofString "__getitem__") qm.typeIs PyProof.Rows.slot_tuple_getitem
  (wpAny_call_entry PyProof.Rows.slot_tuple_getitem qm.typeIs PyProof.Rows.entry_tuple_getitem ?_ (PyProof.Rows.args_tuple_getitem _ _)))
 show wpAny _ _ (Builtin.Tuple.tupleItemsOf (.ref t) >>= _) _ _ s;refine a9 (tupleItemsOf_ qm ?_);refine a9 (wpAny_typeOf XA ?_);refine g6 dq ?_;have es:vs.toArray.size=vs.length:=by simp
 rw[es];refine a9 (sliced sl hs pa pb pc h0 ?_);rw[pd,hk];dsimp only;have eg:(fun(j:Nat)=>vs.toArray[(lo+(j:Int) * c.getD 1).toNat]?)=fun(j:Nat)=>vs[(lo+(j:Int) * c.getD 1).toNat]?:=by funext j;simp
 rw[eg];by_cases hw:(lo == 0 && c.getD 1 == 1 && k == vs.length)=true
 ·refine g6 hw ?_;simp only[Bool.and_eq_true,beq_iff_eq]at hw;refine a9 (m:=Builtin.Tuple.tupleIsExact (.ref t)) ?_;unfold Builtin.Tuple.tupleIsExact;refine a9 (wpAny_typeOf qm.typeIs (aw ?_));refine g6 dq ?_;have q:=h1 hw.1.1 hw.1.2 hw.2;refine a9 (wpAny_rule ?_);refine aw ?_;refine⟨_,rfl,?_⟩;refine aw ?_;exact q
 ·refine eF hw ?_
  first
   |exact a9 (m:=Builtin.Tuple.tupleExact _) (wpAny_newObj_type (aw ⟨_,rfl,aw h2⟩) g7)
   |exact a9 (a9 (m:=Builtin.Tuple.tupleExact _) (wpAny_newObj_type (aw ⟨_,rfl,aw h2⟩) g7))
end
theorem Ig(b n:Nat):Builtin.Slice.sliceAdjust none (some (b:Int)) 1 (n:Int)=(0,((min b n:Nat):Int)):=by
 unfold Builtin.Slice.sliceAdjust;have h1:¬ ((1:Int)<0):=by decide
 have h2:¬ ((b:Int)<0):=by exact Int.not_ofNat_neg b
 simp only[h1,h2,if_false];congr 1
 lia
theorem Lc(k:Nat):Builtin.Slice.slicePlaces 0 (k:Int) 1=k:=by
 unfold Builtin.Slice.slicePlaces;have h1:(1:Int) > 0:=by exact Int.one_pos
 simp only[h1,if_true,Int.ediv_one];split <;> lia
theorem D8(n:Nat):Builtin.Slice.sliceAdjust none none (-1) (n:Int)=((n:Int) - 1,-1):=by
 unfold Builtin.Slice.sliceAdjust;simp
theorem L7(n:Nat):Builtin.Slice.slicePlaces ((n:Int) - 1) (-1) (-1)=n:=by
 unfold Builtin.Slice.slicePlaces;have h1:¬ ((-1:Int) > 0):=by decide
 simp only[h1,if_false,Int.neg_neg,Int.ediv_one];split <;> lia
theorem aaX(vs:List Value)(k:Nat)(hk:k<=vs.length):((List.range k).filterMap fun(j:Nat)=>vs[((0:Int)+(j:Int) * 1).toNat]?)=vs.take k:=by
 induction k with
 |zero=>simp
 |succ k ih=>
  rw[List.range_succ,List.filterMap_append,ih (fo hk),List.take_add_one];congr 1;have:((0:Int)+(k:Int) * 1).toNat=k:=by lia
  simp only[List.filterMap_cons,List.filterMap_nil,this];clear this hk ih;induction vs[k]? using aL <;> rfl
theorem ZZ:∀(vs:List Value),((List.range vs.length).filterMap fun(j:Nat)=>vs[(((vs.length:Int) - 1)+(j:Int) * (-1)).toNat]?)=vs.reverse:=by
 intro vs;have key:∀k,k<=vs.length->((List.range k).filterMap fun(j:Nat)=>vs[(((vs.length:Int) - 1)+(j:Int) * (-1)).toNat]?)=vs.reverse.take k:=by
  intro k
  induction k with
  |zero=>intro _;simp
  |succ k ih=>
   intro hk;rw[List.range_succ,List.filterMap_append,ih (fo hk),List.take_add_one];congr 1;have:(((vs.length:Int) - 1)+(k:Int) * (-1)).toNat=vs.length - 1 - k:=by lia
   simp only[List.filterMap_cons,List.filterMap_nil,this];rw[List.getElem?_reverse (by assumption)];clear this hk ih;induction vs[vs.length - 1 - k]? using aL <;> rfl
 rw[key _ (cw _),List.take_of_length_le (by simp)]
section
variable {C:Cf} {φ:Ph} {H:Hp} {h h':Heap} {A:Around} {n:Nat} {E:Value->Shared->Prop} {s:Shared}
theorem Yv(I:C.I φ H s.heap){Q:Value->Shared->Prop}{l:List V}{x:Value}{sl:Addr}{k:Nat}{u:Tok}(ra:C.R φ H s.heap (.tup l) x)(hs:s.heap.IsSliceOf sl .none (.int k u) .none)(h1:lenOk l=true)(h2:k<=l.length)
  (P:C.Po φ H s H (fun a8 h' z=>C.R a8 H h' (.tup (l.take k)) z) Q):C.wp A (getItem x (.ref sl)) Q E s:=by
 obtain⟨a,vs,m,rfl,ga,ma,ra⟩:=gq ra;have la:=ra.length;refine JT ga hs .none (.int (k:Int) u) .none dq 0 1 k (by show(Builtin.Slice.sliceAdjust none (some (k:Int)) 1 (vs.length:Int)).1=0;rw[Ig]) rfl
  (by show Builtin.Slice.slicePlaces 0 (Builtin.Slice.sliceAdjust none (some (k:Int)) 1 (vs.length:Int)).2 1=k;rw[Ig,Nat.min_eq_left (le_of_le_of_eq h2 la),Lc]) (by have:=dJ h1;exact jN (bx h2 this)) ?_ ?_
 ·intro _ _ hk;have:l.take k=l:=List.take_of_length_le (by lia);rw[this]at P;exact P.dT I (.tup ga ma ra)
 ·rw[aaX vs k (le_of_le_of_eq h2 la)];clear la ma ga h2 h1 hs;obtain⟨I',S,r⟩:=C.pQ I (cV s.heap _) (cA _) (Heap.get?_push_size _ rfl) (ra.take k);exact P _ φ _ s.toks S I' r
theorem aaa(I:C.I φ H s.heap){Q:Value->Shared->Prop}{l:List V}{x:Value}{sl:Addr}{k:Nat}{u:Tok}(ra:C.R φ H s.heap (.tup l) x)(hs:s.heap.IsSliceOf sl (.int k u) .none .none)(h1:lenOk l=true)(h2:k<=l.length)(h3:1<=k)
  (P:C.Po φ H s H (fun a8 h' z=>C.R a8 H h' (.tup (l.drop k)) z) Q):C.wp A (getItem x (.ref sl)) Q E s:=by
 obtain⟨a,vs,m,rfl,ga,ma,ra⟩:=gq ra;have la:=ra.length;have ht:IsTup s.heap a vs.toArray:=⟨_,ga,rfl,m,rfl⟩;refine PyProof.Rows.getItem_tuple_from ht hs h3 (by simp;exact le_of_le_of_eq h2 la) ?_ (by simp;exact jN (by have:=dJ h1;lia));clear ht la ma ga h3 h2 h1 hs;obtain⟨I',S,r⟩:=C.pQ I (cV s.heap _) (cA _) (Heap.get?_push_size _ rfl) (ra.drop k);exact P _ φ _ s.toks S I' r
theorem Xq(I:C.I φ H s.heap)(ra:C.R φ H s.heap (.tup l) x)(hs:s.heap.IsSliceOf sl .none .none (.int (-1) u))(h1:lenOk l=true)
  (P:C.Po φ H s H (fun a8 h' z=>C.R a8 H h' (.tup l.reverse) z) Q):C.wp A (getItem x (.ref sl)) Q E s:=by
 obtain⟨a,vs,m,rfl,ga,ma,ra⟩:=gq ra;have la:=ra.length;refine JT ga hs .none .none (.int (-1) u) dq ((vs.length:Int) - 1) (-1) vs.length (by show(Builtin.Slice.sliceAdjust none none (-1) (vs.length:Int)).1=_;rw[D8]) rfl
  (by show Builtin.Slice.slicePlaces _ (Builtin.Slice.sliceAdjust none none (-1) (vs.length:Int)).2 (-1)=_;rw[D8,L7]) (by have:=dJ h1;exact jN (by lia)) ?_ ?_
 ·intro _ h _;clear la ra ma ga P h1 hs I;cases h
 ·rw[ZZ vs];clear la ma ga h1 hs;obtain⟨I',S,r⟩:=C.pQ I (cV s.heap _) (cA _) (Heap.get?_push_size _ rfl) ra.reverse;exact P _ φ _ s.toks S I' r
theorem Ju(I:C.I φ H s.heap)(ra:C.R φ H s.heap x y)(hl:listView H x=some l)(hs:s.heap.IsSliceOf sl va vb .none)(pa:IsPart va a)(pb:IsPart vb b)(h1:lenOk l=true)
  (hp:∀vs,C.Rs φ H s.heap l vs->∃vs',slicePick vs.toArray a b none=vs'.toArray/\C.Rs φ H s.heap l' vs')
  (P:C.Po φ H s (newObj H (.list l')).2 (fun a8 h' z=>C.R a8 (newObj H (.list l')).2 h' (newObj H (.list l')).1 z) Q):C.wp A (getItem y (.ref sl)) Q E s:=by
 exists dE (gj I ra hl),d,vs,m,OO,ga,rs;clear hl ra;subst OO;exists ae (hp vs rs),vs',ep,KD;have hL:s.heap.IsList d vs.toArray:=⟨_,ga,rfl,m,rfl⟩;refine wpAny_getItem_list_slice hL hs pa pb .none (by simp) ?_ (by rw[dY,<- rs.length];exact jN (dJ h1));rw[ep];clear hL ep rs ga hp h1 pb pa hs;obtain⟨I',S,r⟩:=C.fresh I (cV s.heap _) (cA _) (o:=.list l') ⟨_,_,Heap.get?_push_size _ rfl,KD⟩;exact P _ _ _ s.toks S I' r
theorem Cf.gN(I:C.I φ H s.heap){Q:Value->Shared->Prop}{up:Bool}{a:V}{x:Value}{sl:Addr}{k:Nat}{u:Tok}{v:V}{H':Hp}(ra:C.R φ H s.heap a x)(hs:s.heap.IsSliceOf sl (if up then .none else .int k u) (if up then .int k u else .none) .none)
  (e:Internal.gN up a k H=some (v,H')) (P:C.Po φ H s H' (fun a8 h' z=>C.R a8 H' h' v z) Q):C.wp A (getItem x (.ref sl)) Q E s:=by
 have lists:∀l,listView H a=some l->(match (generalizing:=false) up with|true=>upL l k H|false=>fromL l k H)=some (v,H')->C.wp A (getItem x (.ref sl)) Q E s:=by
  intro l hl e
  induction up using aB with
  |true=>
   exists ak (guard_some e),e1,e2
   (clear e;injections e2)
   exact Ju I ra hl hs .none (.int _ _) e1 (fun vs rs=>⟨vs.take k,by rw[slicePick_upto'],rs.take k⟩) P
  |false=>
   exists ak (guard_some e),e1,e2
   (clear e;injections e2)
   rw[cX]at e1;exact Ju I ra hl hs (.int _ _) .none e1.1 (fun vs rs=>⟨vs.drop k,by rw[slicePick_from'],rs.drop k⟩) P
 unfold Internal.gN at e
 induction a using Internal.V.casesOn with
 |tup l=>
  clear lists;induction up using aB with
  |true=>
   exists ak (guard_some e),e1,e2;injections e2;rw[cX]at e1;exact Yv I ra hs e1.1 (bC e1.2) P
  |false=>
   exists ak (guard_some e),e1,e2;injections e2;rw[cX,cX]at e1;exact aaa I ra hs e1.1 (bC e1.2.1) (bC e1.2.2) P
 |none=>exact nq e
 |bool=>exact nq e
 |int=>exact nq e
 |str=>exact nq e
 |lst l=>exact lists l rfl e
 |dct=>exact nq e
 |ref k'=>
  dsimp only at e;clear ra P hs I;induction hl:listView H (.ref k')using aL with
  |none=>rw[hl]at e;exact nq e
  |some l=>rw[hl]at e;exact lists l hl e
theorem aai(e:sW a H=some (v,H')):∃l,a = .tup l/\v = .tup l.reverse/\H'=H/\lenOk l=true:=by
 unfold sW at e;split at e
 ·exists ak (guard_some e),e1,e2
  (clear e;injections e2)
  exact⟨_,rfl,rfl,rfl,e1⟩
 ·exact nq e
set_option tactic.hygienic true in
theorem L8(e:subL l i=some v):∃n:Nat,i = .int n/\lenOk l=true/\l[n]?=some v:=by
 unfold subL at e;split at e
 ·rename_i j;split at e
  ·exists ak (guard_some e),e1,e2;exact⟨_,rfl,e1,e2⟩
  ·exact nq e
 ·exact nq e
set_option tactic.hygienic true in
theorem Cf.sub(I:C.I φ H s.heap)(R:Rm A n)(ra:C.R φ H s.heap a x)(ri:C.R φ H s.heap i y)(e:subs H a i=some v)
  (hs:subscripted slice false x y=operate [x,y] (getItem x y)) (h:∀z tk,C.R φ H s.heap v z->Q z { s with toks:=tk }):C.wp A (subscriptTail value slice x y) Q E s:=by
 unfold subs at e;split at e
 ·rename_i l hl;unfold subD at e;split at e
  ·rename_i k hk;have:=tC hk;clear hk;subst this;exists aD (pg ri),ka,OE;subst OE;exists jV (sa I ra hl),d,es,m,yw,g,re,nd,ns;clear ns hl ra I;subst yw;exists ae (EX.dict g re nd),xs,px,D;exists aU ((px.get k).1 v e),a',x',e',rx;exact tail_any D.typeIs slot_dict_getitem.lookup (wpAny_getItem_heap (uH R) (kF ri) D e' (h _ _ rx)) hs
  ·exact nq e
 ·split at e
  ·rename_i l hl;exists b7 (L8 e),k,AD,e1,e2;clear e R;subst AD;exists aD (int_at ri),u,rp;clear ri;subst rp;exists dE (nN I ra hl),d,vs,m,sR,hg,rs;clear hl ra I;subst sR;exists ae (rs.get e2),z,hz,rz;have hk:k<vs.length:=(fj.mp hz).1;have kj:k<1000000:=by have:=dJ e1;have:=rs.length;lia
   have hh:=h z s.toks rz;clear rz rs e2 e1 h;rcases hg with hg|hg
   ·have ht:IsTup s.heap d vs.toArray:=⟨_,hg,rfl,m,rfl⟩;refine tail_any ht.typeIs PyProof.Rows.slot_tuple_getitem.lookup (PyProof.Rows.getItem_tuple (j:=k) ht (Int.neg_ofNat_le_natCast (2 ^ 63) k) (by lia) ?_ (by simpa using hz) hh) hs;unfold seqIndex?;simp;lia
   ·have hL:s.heap.IsList d vs.toArray:=⟨_,hg,rfl,m,rfl⟩;exact tail_any hL.typeIs PySem.slot_list_getitem.lookup (wpAny_getItem_list hL (Int.natCast_nonneg k) (by lia) (by simpa using hz) hh) hs
  ·exact nq e
end
end
section
open PySem PySem.Calls PyProof.Rows PySem.W
section
variable {prog:Program} {w:World} {A:Around} {E:Value->Shared->Prop} {s:Shared}
theorem MB{α:Type}{cmp:Nat->Nat->(Bool->Shared->Prop)->Shared->Prop}{f:Nat->Nat->Option Bool}{s:Shared}(hc:∀i j c,f i j=some c->∀C:Bool->Shared->Prop,C c s->cmp i j C s){G:α->Shared->Prop} :
  ∀(t:KasT α) {p:α},treeRun f t=some p->G p s->t.kasWp cmp G s:=by
 intro t
 induction t with
 |ret a=>intro p e h;exists e;exact h
 |ask i j k ih=>
  intro p e h;have e:(match f i j with
   |some c=>treeRun f (k c)
   |none=>none)=some p:=e
  exact sj e fun c kS e=>hc i j c kS _ (ih c e h)
noncomputable def kP(vs:List Value)(p:Option (Array Nat)):List Value:=match p with
 |some p=>p.toList.map fun i=>vs.getD i Value.none
 |none=>vs
theorem Ca(ho:s.heap.get? a=some (seqObj "list" vs.toArray n))(uP:vs.length<64)
  (ep:(vs.length<2/\p=none)\/(2<=vs.length/\∃q,p=some q/\treeRun f (kas_sort vs.length)=some q))
  (hk:∀h1 e1,(∀b ob,b≠a->s.heap.get? b=some ob->h1.get? b=some ob)->h1.get? a=some (seqObj "list" #[] e1)->2<=vs.length->
   ∃κ,(∀Q:SortKind->Shared->Prop,Q κ { s with heap:=h1 }->wpAny (model prog w) A (keyKind' vs.toArray) Q E { s with heap:=h1 })/\∀i j c,f i j=some c->∀C:Bool->Shared->Prop,C c { s with heap:=h1 }->kas_ask prog w A κ vs i j C { s with heap:=h1 })
  (h:∀h' n',h'.get? a=some (seqObj "list" (kP vs p).toArray n')->(∀b ob,b≠a->s.heap.get? b=some ob->h'.get? b=some ob)->P (.done (.ret .none)) { s with heap:=h' }) :
  wpAny (model prog w) A (Builtin.«list.sort» ⟨[.ref a],[]⟩) P E s:=by
 have ha:a<s.heap.objs.size:=Heap.lt_size ho;clear ha;obtain⟨e1,zJ⟩:∃e1,(s.heap.update a (Obj.mapSeq fun _=>(#[]:Array Value))).get? a=some (seqObj "list" #[] e1):=⟨_,get?_update_seq ho fun _=>#[]⟩;have ny:(((s.heap.update a (Obj.mapSeq fun _=>#[])).push (seqObj "tuple" vs.toArray 0)).push (seqObj "list" #[] 0)).get? a=some (seqObj "list" #[] e1):=
  Heap.get?_push_of_some _ (Heap.get?_push_of_some _ zJ)
 have jv:∀b ob,b≠a->s.heap.get? b=some ob->(((s.heap.update a (Obj.mapSeq fun _=>#[])).push (seqObj "tuple" vs.toArray 0)).push (seqObj "list" #[] 0)).get? b=some ob:=fun b ob hb e=>
  Heap.get?_push_of_some _ (Heap.get?_push_of_some _ (by rw[Heap.get?_update_ne _ _ _ _ hb];exact e))
 have fin:∀out:Array Value,out=(kP vs p).toArray->P (.done (.ret .none)) { s with heap:=(((s.heap.update a (Obj.mapSeq fun _=>#[])).push (seqObj "tuple" vs.toArray 0)).push (seqObj "list" #[] 0)).update a (Obj.mapSeq fun _=>out) }:=by
  rintro out rfl;exact h _ _ (get?_update_seq ny fun _=>(kP vs p).toArray) fun b ob hb e=>by rw[Heap.get?_update_ne _ _ _ _ hb];exact jv b ob hb e
 rw[list_sort_plain];refine a9 (listItems_at ho rfl ?_);refine a9 (listUpdate_at ho rfl ?_ (by rw[dY,sizeLine_eq];lia) (f6 _));refine a9 (seqEpoch_at zJ rfl ?_);refine a9 (wpAny_newTuple ?_ (by show vs.length<=_;rw[sizeLine_eq];lia));refine a9 (wpAny_newList ?_ (f6 _));refine dM ?_;generalize hg:((s.heap.update a (Obj.mapSeq fun _=>(#[]:Array Value))).push (seqObj "tuple" vs.toArray 0)).push (seqObj "list" #[] 0)=h6 at ny jv fin ⊢;clear hg;dsimp only;have hz:vs.toArray.size=vs.length:=by simp
 clear zJ h ho;rcases ep with⟨h2,rfl⟩|⟨h2,q,rfl,hq⟩
 ·have gz:vs.toArray.size<2:=by assumption
  rw[if_pos gz,if_pos gz];refine a9 (aw ?_);rw[StateT.run_pure];refine a9 (aw ?_);dsimp only;have Km:(arrOf (SortSt.mk' general' (vs.toArray.zip vs.toArray) #[] 7 none)).map (·.2)=vs.toArray:=by
   show(vs.toArray.zip vs.toArray).map (·.2)=vs.toArray;apply Array.toList_inj.mp;simp [List.map_snd_zip]
  refine a9 (seqEpoch_at ny rfl ?_);refine a9 (listUpdate_at ny rfl ?_ (f6 _) (by rw[Km,sizeLine_eq];simp;lia));simp only[bne_self_eq_false,Bool.false_eq_true,if_false];exact aw (fin _ Km)
 ·have gz:¬ vs.toArray.size<2:=by exact(fun{a b}=>Nat.not_lt.mpr) h2
  rw[if_neg gz,if_neg gz];exists ae (hk _ e1 jv ny h2),κ,Pk,Vk;refine a9 (Pk _ ?_);refine a9 (cq (kat_run (ks:=vs) (Q:=fun m5 s'=>s'={ s with heap:=h6 }/\q.size=vs.length/\arrOf m5=q.map (kas_item (vs.toArray.zip vs.toArray))/\failedOf m5=none)
   (G:=fun p' s'=>p'=q/\s'={ s with heap:=h6 })
   rfl h2 uP (by rintro p' m5 s' a1 a2 a3 ⟨rfl,rfl⟩;exact⟨rfl,a1,a2,a3⟩) (MB Vk _ hq ⟨rfl,rfl⟩)) ?_ fun _ _ e=>e)
  rintro ⟨⟨⟩,m5⟩ s' ⟨rfl,hp,har,hf⟩;have DR:=kat_snds rfl har;refine a9 (seqEpoch_at ny rfl ?_);refine a9 (listUpdate_at ny rfl ?_ (f6 _) (by rw[DR,dY,aJ,Array.length_toList,hp,sizeLine_eq];lia));rw[hf];simp only[bne_self_eq_false,Bool.false_eq_true,if_false];exact aw (fin _ DR)
theorem FH(hl:s.heap.IsList l vs.toArray)(uP:vs.length<64)
  (ep:(vs.length<2/\p=none)\/(2<=vs.length/\∃q,p=some q/\treeRun f (kas_sort vs.length)=some q))
  (hk:∀h1,(∀b ob,s.heap.get? b=some ob->h1.get? b=some ob)->2<=vs.length->
   ∃κ,(∀Q:SortKind->Shared->Prop,Q κ { s with heap:=h1 }->wpAny (model prog w) A.in1.in1 (keyKind' vs.toArray) Q E { s with heap:=h1 })/\∀i j c,f i j=some c->∀C:Bool->Shared->Prop,C c { s with heap:=h1 }->kas_ask prog w A.in1.in1 κ vs i j C { s with heap:=h1 })
  (h:∀h' D n',s.heap.get? D=none->h'.get? D=some (seqObj "list" (kP vs p).toArray n')->(∀b ob,s.heap.get? b=some ob->h'.get? b=some ob)->Q (.ref D) { s with heap:=h' }) :
  wpAny (model prog w) A (call (.builtin "sorted") [.ref l]) Q E s:=by
 refine Calls.call_function_entry kind_sorted plain_sorted entry_sorted (args_sorted1 _) ?_;unfold Builtin.«sorted»;refine a9 (m:=checkCount "sorted" 1 1 _) (aw ?_);refine a9 (collect_list hl ?_ (by rw[sizeLine_eq];lia));refine a9 (wpAny_newList ?_ (by rw[sizeLine_eq];lia));have d9:((s.heap.push (seqObj "list" #[] 0)).update s.heap.objs.size (Obj.mapSeq (· ++ vs.toArray))).objs.size=s.heap.objs.size+1:=by
  rw[Heap.size_update,size_push']
 have C4:(((s.heap.push (seqObj "list" #[] 0)).update s.heap.objs.size (Obj.mapSeq (· ++ vs.toArray))).push (seqObj "list" vs.toArray 0)).get? (s.heap.objs.size+1)=some (seqObj "list" vs.toArray 0):=by
  rw[<- d9];exact Heap.get?_push_size _ rfl
 have keep:∀b o,s.heap.get? b=some o->(((s.heap.push (seqObj "list" #[] 0)).update s.heap.objs.size (Obj.mapSeq (· ++ vs.toArray))).push (seqObj "list" vs.toArray 0)).get? b=some o:=fun b o q=>by
  have dz:b<s.heap.objs.size:=Heap.lt_size q;rw[Heap.get?_push_ne _ _ _ (by rw[d9];exact eR (Nat.lt_succ_of_lt dz)),Heap.get?_update_ne _ _ _ _ (eR dz),Heap.get?_push_ne _ _ _ (eR dz)];exact q
 have dH:s.heap.get? (s.heap.objs.size+1)=none:=by
  clear keep C4 d9 h hk ep uP hl;induction q:s.heap.get? (s.heap.objs.size+1)using aL with
  |none=>rfl
  |some o=>exact absurd (Heap.lt_size q) (Nat.not_lt.mpr (eU _))
 have bN:∀b o,s.heap.get? b=some o->b≠s.heap.objs.size+1:=fun b o q z=>by rw[z,dH]at q;exact nq q
 rw[d9];refine a9 (dM (wpAny_call_entry slot_list_sort ⟨_,C4,rfl⟩ entry_list_sort ?body (args_list_sort _)))
 case body=>
  refine Ca (s:={ s with heap:=((s.heap.push (seqObj "list" #[] 0)).update s.heap.objs.size (Obj.mapSeq (· ++ vs.toArray))).push (seqObj "list" vs.toArray 0) }) C4 uP ep
   (fun h1 e1 k _ h2=>hk h1 (fun b ob q=>k b ob (bN b ob q) (keep b ob q)) h2) fun h' n' hg k=>⟨_,rfl,?_⟩
  exact aw ⟨_,rfl,h h' _ n' dH hg fun b ob q=>k b ob (bN b ob q) (keep b ob q)⟩
noncomputable def EC:List V->Prop
 |.int _::_=>True
 |_=>False
theorem MP(hu:A.units+100<cLine)(QD:fin=decide (N<M))(h:Q r s)(rest:List (Value×Value)):∀(i:Nat) (vs us:List Value) (x y:List V) (as bs:List Addr) (c:Nat),rest=vs.zip us->TI false 7 r s.heap N M vs us x y as bs c->(b=true->i=0->EC x/\EC y)->KatLex prog w A b fin Q rest i s:=by
 induction rest with
 |nil=>
  intro i vs us x y as bs c hr T _;refine kat_nil ?_;have q:=Kn T hr;have q2:Value.bool (decide (N<M)) = .bool r:=q;rw[QD,Value.bool.inj q2];exact h
 |cons pq rest ih=>
  intro i vs us x y as bs c hr T hf;obtain⟨p,q⟩:=pq;refine kat_cons ?_;exists IC (Jd T hr),a1,a2,b1,b2,lx,oD,r1,q1,c1,c2,d1,d2,e2,hT,IS;have RY:cJ=7:=rfl;refine SeqAt.eqAt_reads (bE a1) (bE b1) A s _ _ _ _ r1 q1 c1 c2 (by lia) prog w _ _ ?_;rw[<- sJ 7 a1 b1 (fo d1)];clear hr T;induction ht:teq (7+1) a1 b1 using aB with
  |true=>
   rw[show teq deepN a1 b1=true from ht]at e2;exists uE (hT e2),vs,us,x,y,as,bs,c,hr,T;exact kat_yes (ih (i+1) vs us x y as bs c hr T fun _ z=>absurd z (kc i))
  |false=>
   rw[show teq deepN a1 b1=false from ht]at e2;refine kat_no ?_;clear ih hT;induction hb:(b && i == 0)using aB with
   |true=>
    rw[Bool.and_eq_true]at hb;exists ak (hf hb.1 (by simpa using hb.2)),f1,f2;rw[IS.1]at f1;rw[IS.2]at f2
    induction a1 using Internal.V.casesOn with
    |int i1=>
     induction b1 using Internal.V.casesOn with
     |int j1=>
      cases r1;cases q1;cases aI e2;refine oneLt_int ?_;rw[<- ilt_eq];exact h
     |_=>exact f2.elim
    |_=>exact f1.elim
   |false=>exact kat_one _ _ (Ds false 7 prog w A s a1 b1 _ _ _ _ r _ _ r1 q1 c1 c2 (fo d1) (fo d2) e2 (by lia) h)
set_option tactic.hygienic true in
theorem EI:∀(H:Hp) (n:Nat) (v v':V),res e0 n v=some v'->res H n v=some v'/\v'=v:=by
 intro H n
 induction n with
 |zero=>intro v v' e;exact nq e
 |succ n ih=>
  have lists:∀(l l':List V),resL (res e0 n) l=some l'->resL (res H n) l=some l'/\l'=l:=by
   intro l
   induction l with
   |nil=>intro l' e;exists e;exact⟨rfl,rfl⟩
   |cons a r oV=>
    intro l' e;dsimp only[resL]at e ⊢;exists k9 e,b,hb,e
    ·exists fY e,t,ht,e
     ·exists e;exists ak (ih _ _ hb),h1,SH;clear hb ih;subst SH;exists ak (oV _ ht),h2,Nh;clear ht oV;subst Nh;rw[h1,h2];exact⟨rfl,rfl⟩
  intro v v' e;clear ih;induction v using Internal.V.casesOn with
  |none=>exists e;exact⟨rfl,rfl⟩
  |bool=>exists e;exact⟨rfl,rfl⟩
  |int=>exists e;exact⟨rfl,rfl⟩
  |str l=>exact⟨e,(aI (guard_some (b:=codesOk l) (x:=some (V.str l)) e).2).symm⟩
  |tup l=>
   exists ae (HC (x:=resL (res e0 n) l) e),l',e1,z;subst z;exact⟨congrArg mkT (lists _ _ e1).1,congrArg V.tup (lists _ _ e1).2⟩
  |lst l=>
   exists ae (yR (x:=resL (res e0 n) l) e),l',e1,z;subst z;exact⟨congrArg mkL (lists _ _ e1).1,congrArg V.lst (lists _ _ e1).2⟩
  |dct=>exact nq e
  |ref=>exact nq e
end
section
variable {C:Cf} {φ:Ph} {H:Hp} {h h':Heap} {A:Around} {n:Nat} {E:Value->Shared->Prop} {s:Shared}
theorem zp(rs:C.Rs φ H h l vs)(i:Nat):C.R φ H h (cR l i) (vs.getD i Value.none):=by
 unfold cR
 induction e:l[i]? using aL with
 |none=>
  have hv:vs[i]?=none:=by
   rw[List.getElem?_eq_none_iff]at e ⊢;rw[<- rs.length];exact e
  rw[jc,jc,e,hv];exact .none
 |some v=>
  exists ae (rs.get e),x,hx,r;rw[jc,jc,e,hx];exact r
set_option tactic.hygienic true in
theorem Lg(e:jJ g H a b=some r):∃a' b',res H cJ a=some a'/\res H cJ b=some b'/\tcmp g deepN a' b'=some r:=by
 exists k9 e,a',ea,e;exists k9 e,b',eb,e;exact⟨a',b',ea,eb,e⟩
theorem Vy:allKind k l=true->∀v∈l,headKind v=k:=by
 induction l with
 |nil=>
  intro _ v m;cases m
 |cons x r ih=>
  intro e v m;exists ak (mW e),hk,e
  ·rcases aH.mp m with rfl|m
   ·exact cU hk
   ·exact ih e v m
theorem CT(e:headKind v=k+1):∃x l,v = .tup (x::l)/\((k=0/\∃i,x = .int i)\/(k=1/\∃t,x = .tup t)):=by
 induction v using V.casesOn with
 |tup l=>
  induction l using aN with
  |nil=>exact absurd e (kc k).symm
  |cons x l=>
   refine⟨x,l,rfl,?_⟩
   induction x using V.casesOn with
   |int i=>exact .inl ⟨(gG e).symm,_,rfl⟩
   |tup t=>exact .inr ⟨(gG e).symm,_,rfl⟩
   |_=>exact absurd e (kc k).symm
 |_=>exact absurd e (kc k).symm
theorem Tf:∀{vs:List Value},C.Rs φ H s.heap l vs->(∀v∈l,headKind v=k+1)->∃fs,KatTups s.heap vs fs/\fs.length=vs.length/\∀v∈fs,Looks M s.heap (typeOf v) (.type (if k=0 then "int" else "tuple")):=by
 induction l with
 |nil=>intro _ r _;cases r;exact⟨[],.nil,rfl,fun v m=>nomatch m⟩
 |cons v l ih=>
  intro _ r hk;cases r with
  |cons r1 r2=>
   exists aU (CT (hk v (.head _))),x,t,wJ,hx;subst wJ;exists b7 (ih r2 fun u m=>hk u (.tail _ m)),fs,q1,q2,q3;exists fH (gq r1),a,vs,m,sR,g,nm,rt;clear nm r1 hk r2 ih;subst sR;cases rt with
   |@cons _ f _ vs' rx rt=>
    refine⟨f::fs,.cons (o:=d6 (f::vs') m) (xs:=(f::vs').toArray) (n:=m) g rfl rfl (by simp) q1,by simp [q2],fun u mu=>?_⟩;rcases aH.mp mu with rfl|mu
    ·clear mu q3;rcases hx with⟨rfl,i,rfl⟩|⟨rfl,t',rfl⟩
     ·exists aD (int_at rx),t,AS;clear rx;subst AS;exact .now
     ·exists dE (gq rx),b,Z0,Z0,MK,g',Z0;clear rx;subst MK;exact(Looks.ld g').andThen .now
    ·exact q3 u mu
theorem EO(I:C.I φ H s.heap)(rs:C.Rs φ H s.heap l vs)(hk:allKind (k+1) l=true)(bN:0<l.length)(hu:A.units+100<cLine) :
  ∃κ,(∀Q:SortKind->Shared->Prop,Q κ s->C.wp A (keyKind' vs.toArray) Q E s)/\∀i j c,iM l i j=some c->∀G:Bool->Shared->Prop,G c s->kas_ask C.prog C.w A κ vs i j G s:=by
 have hm:=Vy hk;exists b7 (Tf (M:=model C.prog C.w) rs hm),fs,q1,q2,q3;have hl:=rs.length;refine⟨tuples' (Value.type (if k=0 then "int" else "tuple") != Value.type "tuple"),fun Q hq=>kat_kind q1 (by lia) q3 (by split <;> decide) hq,fun i j c ec G hG=>?_⟩;exists cx (Lg ec),a',b',ea,eb,et;exists ak (EI H _ _ _ ea),ea,OS;clear ec hl q3 q2 q1 bN hk;subst OS;exists ak (EI H _ _ _ eb),eb,KO;subst KO;have ri:=zp rs i;have rj:=zp rs j;exists b7 (jO I _ _ _ _ ea ri),as,p1,p2,p3;exists b7 (jO I _ _ _ _ eb rj),bs,o1,o2,o3;have idx:∀i,cR l i = .none\/headKind (cR l i)=k+1:=fun i=>by
  unfold cR;rw[jc];clear o3 o2 o1 p3 p2 p1 rj ri eb et ea hG hu rs I;clear eb ea;induction e:l[i]? using aL with
  |none=>exact .inl rfl
  |some v=>exact .inr (hm v (ee e))
 have hi:∃x l',cR l i = .tup (x::l')/\((k=0/\∃i,x = .int i)\/(k=1/\∃t,x = .tup t)):=by
  clear o3 o2 o1 p3 p2 p1 rj ri eb ea hG hm hu rs I;clear eb ea;rcases idx i with z|z
  ·rw[z]at et;exact nq et
  ·exact CT z
 have hj:∃x l',cR l j = .tup (x::l')/\((k=0/\∃i,x = .int i)\/(k=1/\∃t,x = .tup t)):=by
  clear o3 o2 o1 p3 p2 p1 rj ri eb ea hG hm hu rs I;clear eb ea;rcases idx j with z|z
  ·rw[z]at et;exists aU hi,x,l',e,Z0
   try clear hi
   rw[e]at et;exact nq et
  ·exact CT z
 exists aU hi,x,l1,e1,hx
 try clear hi
 exists aU hj,y,l2,e2,hy
 try clear hj
 unfold kas_ask;revert p1 p2 p3 o1 o2 o3 et;rw[e1,e2];dsimp only[bE];intro et p1 p2 p3 o1 o2 o3;generalize vs.getD i Value.none=u at *;generalize vs.getD j Value.none=v at *;clear rj ri e2 e1 idx eb ea hm rs I;clear eb ea;cases p1 with
 |@tuple xa xo xs xn _ _ h1 h2 h3 h4=>
  cases o1 with
  |@tuple ya yo ys yn _ _ k1 k2 k3 k4=>
   have d1:PyData.depthAll (pyVs (x::l1))+1<=cJ:=p3;have d2:PyData.depthAll (pyVs (y::l2))+1<=cJ:=o3;refine kat_lt h1 h3 k1 k3 (MP (N:=xs.size) (M:=ys.size) hu rfl hG _ 0 _ _ (x::l1) (y::l2) _ _ 0 rfl ⟨h4,k4,p2,o2,d1,d2,et,by rw[Array.length_toList,Nat.zero_add],by rw[Array.length_toList,Nat.zero_add]⟩ fun hb _=>?_);rcases hx with⟨rfl,i,rfl⟩|⟨rfl,t,rfl⟩
   ·clear hb;rcases hy with⟨_,i',rfl⟩|⟨z,_⟩
    ·exact⟨trivial,trivial⟩
    ·lia
   ·simp at hb
set_option tactic.hygienic true in
theorem Ep(e:vsort l=some l'):l.length<=60/\((l.length<2/\l'=l)\/(2<=l.length/\∃k q,allKind (k+1) l=true/\treeRun (iM l) (kas_sort l.length)=some q/\l'=q.toList.map (cR l))):=by
 induction l using aN with
 |nil=>exact⟨f6 _,.inl ⟨Nat.zero_lt_two,(aI e).symm⟩⟩
 |cons x r=>induction r using aN with
  |nil=>exact⟨bC rfl,.inl ⟨Nat.one_lt_two,(aI e).symm⟩⟩
  |cons y r=>
   exists ak (guard_some (b:=b8 (x::y::r).length 60) (x:=sortGo (x::y::r) (headKind x)) e),e1,e2;refine⟨bC e1,.inr ⟨Nat.succ_le_succ (Nat.succ_le_succ (f6 _)),?_⟩⟩;clear e e1;revert e2;generalize headKind x=k;intro e2
   induction k using bL with
   |zero=>exact nq e2
   |succ k=>
    exists ak (guard_some e2),e3,e4;exists y4 e4,q,hq,e4
    ·(clear e2;exists e4)
     exact⟨_,q,e3,hq,rfl⟩
theorem wZ(rs:C.Rs φ H h l vs):∀(q:List Nat),C.Rs φ H h (q.map (cR l)) (q.map fun i=>vs.getD i Value.none)
 |[]=>.nil
 |i::q=>.cons (zp rs i) (wZ rs q)
end
end
section
open PySem PySem.Calls PyProof.Rows PySem.W
section
variable {C:Cf} {φ:Ph} {H:Hp} {h h':Heap} {A:Around} {n:Nat} {E:Value->Shared->Prop} {s:Shared}
theorem iC(e:one f l H=some (v,H')):∃a,l=[a]/\f a H=some (v,H'):=by
 unfold one at e;split at e
 ·exact nq e
 ·split at e
  ·exact⟨_,rfl,e⟩
  ·exact nq e
theorem y6(e:two f l H=some (v,H')):∃a b,l=[a,b]/\f a b H=some (v,H'):=by
 unfold two at e;split at e
 ·exact nq e
 ·exists ae (iC e),b,Ae,e;clear e;subst Ae;exact⟨_,b,rfl,e⟩
theorem fA(r:C.Rs φ H h [a] vs):∃x,vs=[x]/\C.R φ H h a x:=by
 cases r with
 |cons r1 r2=>cases r2;exact⟨_,rfl,r1⟩
theorem oL(r:C.Rs φ H h [a,b] vs):∃x y,vs=[x,y]/\C.R φ H h a x/\C.R φ H h b y:=by
 cases r with
 |cons r1 r2=>obtain⟨y,rfl,r3⟩:=fA r2;exact⟨_,_,rfl,r1,r3⟩
set_option tactic.hygienic true in
theorem Sg(I:C.I φ H s.heap)(ra:C.R φ H s.heap a x)(e:Ah a H=some (v,H'))(P:C.Po φ H s H' (fun a8 h' z=>C.R a8 H' h' v z) Q) :
  C.wp A (call (.builtin "len") [x]) Q E s:=by
 unfold Ah at e;split at e
 ·rename_i l hl;exists ak (guard_some e),e1,e2
  (clear e;injections e2)
  have hle:=dJ e1;exists dE (nN I ra hl),d,vs,m,rq,hg,rs;clear e1 hl ra;subst rq;have el:=rs.length;have g7:(vs.toArray.size:Int)<2 ^ 63:=by rw[dY];lia
  have hq:∀t tk,Q (.int vs.toArray.size t) { s with toks:=tk }:=fun t tk=>by
   have:=P.here I (a:=.int l.length t) (.int _ t) tk;rw[dY,<- el];exact this
  clear el rs hle P I;rcases hg with hg|hg
  ·exact PyProof.Rows.len_tuple ⟨_,hg,rfl,m,rfl⟩ g7 (hq _ _)
  ·exact Calls.call_len_list ⟨_,hg,rfl,m,rfl⟩ g7 (hq _ _)
 ·split at e
  ·rename_i l hl;exists ak (guard_some e),e1,e2
   (clear e;injections e2)
   have hle:=dJ e1;exists jV (sa I ra hl),d,es,m,Rp,hg,re,nd,ns;clear nd e1 hl ra;subst Rp;have el:es.length=l.length:=by clear ns hg hle P I;obtain⟨xs,px,rfl⟩:=EX.of re;rw[aJ];exact px.length
   have hT:s.TypeIs (.ref d) "dict":=⟨_,hg,rfl⟩;refine Calls.call_function_entry kind_len plain_len entry_len (args_len1 _) ?_;unfold Builtin.«len»;refine a9 (m:=oneArg "len" _) (aw ?_);refine a9 (m:=callSpecial? (.ref d) (Str.ofString "__len__")) (wpAny_callSpecial?_slot (name:=Str.ofString "__len__") hT PySem.F.slot_dict_len
    (wpAny_call_entry PySem.F.slot_dict_len hT PySem.F.entry_dict_len ?_ (PySem.F.args_dict_len_1 _)))
   show wpAny _ _ (dictSize d >>= _) _ _ s;unfold dictSize;refine a9 (a9 (wpAny_dictEntries hg rfl (aw ?_)));show wpAny _ _ (Builtin.Dict.pendingCount d >>= _) _ _ s;refine a9 (wpAny_pendingCount_other (s6 ns) ?_);have e0:(es.toArray.size:Int)+((0:Nat):Int)=(l.length:Int):=by simp [el]
   rw[e0];refine wpAny_ret_mkInt ?_;refine a9 (dM (aw ?_));refine a9 (wpAny_letGo ?_);show wpAny _ _ (if (l.length:Int)<0 then _ else _) _ _ _;refine eF (Int.not_ofNat_neg l.length) ?_;show wpAny _ _ (if (l.length:Int) >= 2 ^ 63 then _ else _) _ _ _;refine eF (by lia) ?_;exact a9 (wpAny_mkInt (aw ⟨_,rfl,P.here I (.int _ _) _⟩))
  ·exact nq e
theorem Mz:∀{vs:List Value} {t:Int},C.Rs φ H h l vs->sumI l=some t->∃ns,IntsAre vs ns/\t=ns.sum:=by
 induction l with
 |nil=>intro _ t r e;cases r;exact⟨[],.nil,(aI e).symm⟩
 |cons v l ih=>
  intro _ t r e;cases r with
  |cons r1 r2=>
   induction v using Internal.V.casesOn with
   |int i=>
    have e:(match inB (-1000000000) 1000000000 i with|true=>(match sumI l with|some s=>some (i+s)|none=>none)|false=>none)=some t:=e
    exists ak (LB e),Z0,e
    ·exists zx e,t',ht,e
     ·exists e;exists ae (ih r2 ht),ns,h1,CJ;clear e ht r2 ih;subst CJ;exists aD (int_at r1),u,sV;clear r1;subst sV;exact⟨i::ns,.cons _ _ h1,by simp⟩
   |_=>exact nq e
theorem SJ(hh:A.handled=none)(hl:s.heap.IsTuple l (intItems xs))
  (h:∀h' tk t',(∀b o,s.heap.get? b=some o->h'.get? b=some o)->Q (.int (preSum (numAt xs) xs.size) t') { s with heap:=h',toks:=tk }):C.wp A (call (.builtin "sum") [.ref l]) Q E s:=by
 have dz:l<s.heap.objs.size:=by clear h hh;obtain⟨_,e,_⟩:=hl;exact Heap.lt_size e
 refine call_sum_walkG (wpAny_pyIter_tuple hl ?_);refine⟨_,_,_,_,_,_,numAt xs,rfl,Walks.tuple (A:=A.in1) hh s.heap.objs.size l (eR dz) (intItems xs),⟨⟨_,Heap.get?_push_size _ rfl,rfl,rfl⟩,hl.push _⟩,fun b hb=>?_,(fun _ _=>intItems_at),fun h' tk t' hk=>?_⟩
 ·show b<(s.heap.push _).objs.size;rw[Heap.size_push];clear h hl hh;rcases aH.mp hb with rfl|hb
  ·exact Nat.lt_succ_self _
  ·rcases aH.mp hb with rfl|hb
   ·exact Nat.lt_succ_of_lt dz
   ·clear dz;cases hb
 ·have:=h h' tk t' fun b o e=>hk b o (fun hm=>by
   clear hk dz h hl hh;rcases aH.mp hm with e1|hm
   ·exact absurd (e1▸Heap.lt_size e) (kT _)
   ·clear e;cases hm) (Heap.get?_push_of_some _ e)
  simpa [intItems]using this
set_option tactic.hygienic true in
theorem YE(I:C.I φ H s.heap)(R:Rm A n)(ra:C.R φ H s.heap a x)(e:AW a H=some (v,H'))(P:C.Po φ H s H' (fun a8 h' z=>C.R a8 H' h' v z) Q) :
  C.wp A (call (.builtin "sum") [x]) Q E s:=by
 unfold AW at e;split at e
 ·rename_i l hl;exists ak (guard_some e),e1,e2;exists zx e2,t,ht,e2
  ·(clear e1 e;injections e2)
   exists dE (nN I ra hl),d,vs,m,Up,hg,rs;clear e2 hl ra;subst Up;exists ae (Mz rs ht),ns,hi,Bg;clear rs ht;subst Bg;exists aD hi.allInts.items,xs,hx;have e1:ns=xs.toList.map (·.1):=by
    rw[<- nums_intItems,<- hx];exact(show numsOf vs.toArray.toList=ns from hi.numsOf).symm
   have e2:preSum (numAt xs) xs.size=ns.sum:=by
    rw[preSum_eq,List.take_of_length_le (by simp),e1]
   have fin:∀h' tk t',(∀b o,s.heap.get? b=some o->h'.get? b=some o)->Q (.int (preSum (numAt xs) xs.size) t') { s with heap:=h',toks:=tk }:=fun h' tk t' k=>by
    exists ak (C.grow I k),I',S;rw[e2];exact P _ φ h' tk S I' (.int _ _)
   clear e2 P hi I;clear e1;rcases hg with hg|hg
   ·exact SJ R.handled ⟨_,hg,rfl,m,by rw[<- hx]⟩ fin
   ·exact sum_intListG R.handled ⟨_,hg,rfl,m,by rw[<- hx]⟩ fin
 ·exact nq e
theorem DV(e:nM f a b H=some (v,H')):∃i j,a = .int i/\b = .int j/\v = .int (f i j)/\H'=H:=by
 unfold nM at e;split at e
 ·split at e
  ·injections e;exact⟨_,_,rfl,rfl,rfl,rfl⟩
  ·exact nq e
 ·exact nq e
theorem Y2(I:C.I φ H s.heap)(R:Rm A n)(ra:C.R φ H s.heap a x)(rb:C.R φ H s.heap b y)(e:nM imax a b H=some (v,H'))(P:C.Po φ H s H' (fun a8 h' z=>C.R a8 H' h' v z) Q) :
  C.wp A (call (.builtin "max") [x,y]) Q E s:=by
 exists jQ (DV e),i,j,A6,yw,WT,Zu;clear e;subst A6;subst yw;subst WT;subst Zu;exists aD (int_at ra),t,xZ;clear ra;subst xZ;exists aD (int_at rb),u,xv;clear rb;subst xv;exists max_two_ints R.handled,h',tk,k;exists ak (C.grow I k),I',S;unfold imax at P;rw[ilt_eq]at P;by_cases q:j > i
 ·rw[if_pos q];have:decide (i<j)=true:=by simpa using q
  rw[this]at P;exact P _ φ h' tk S I' (.int _ _)
 ·rw[if_neg q];have:decide (i<j)=false:=by simpa using q
  rw[this]at P;exact P _ φ h' tk S I' (.int _ _)
theorem Y9(I:C.I φ H s.heap)(R:Rm A n)(ra:C.R φ H s.heap a x)(rb:C.R φ H s.heap b y)(e:nM lT a b H=some (v,H'))(P:C.Po φ H s H' (fun a8 h' z=>C.R a8 H' h' v z) Q) :
  C.wp A (call (.builtin "min") [x,y]) Q E s:=by
 exists jQ (DV e),i,j,wJ,OG,Ym,ZP;clear e;subst wJ;subst OG;subst Ym;subst ZP;exists aD (int_at ra),t,rp;clear ra;subst rp;exists aD (int_at rb),u,Xe;clear rb;subst Xe;exists min_two_ints R.handled,h',tk,k;exists ak (C.grow I k),I',S;unfold lT at P;rw[ilt_eq]at P;by_cases q:j<i
 ·rw[if_pos q];rw[decide_eq_true q]at P;exact P _ φ h' tk S I' (.int _ _)
 ·rw[if_neg q];rw[decide_eq_false q]at P;exact P _ φ h' tk S I' (.int _ _)
set_option tactic.hygienic true in
theorem V6(I:C.I φ H s.heap)(ra:C.R φ H s.heap a x)(e:xR a H=some (v,H'))(P:C.Po φ H s H' (fun a8 h' z=>C.R a8 H' h' v z) Q) :
  C.wp A (call (.builtin "abs") [x]) Q E s:=by
 unfold xR at e;split at e
 ·rename_i i;exists aD (int_at ra),t,Br;clear ra;subst Br;exists PyProof.Rows.call_abs_int,u,tk;injections e;rw[ilt_eq]at P;by_cases q:i<0
  ·rw[if_pos q];rw[decide_eq_true q]at P;exact P.here I (.int _ _) tk
  ·rw[if_neg q];rw[decide_eq_false q]at P;exact P.here I (.int _ _) tk
 ·exact nq e
theorem Yt:∀{vs:List Value} {m t:Int},C.Rs φ H h l vs->maxI m l=some t->∃ns,IntsAre vs ns/\(t=m\/t∈ns)/\m<=t/\∀a∈ns,a<=t:=by
 induction l with
 |nil=>intro _ m t r e;cases r;cases aI e;exact⟨[],.nil,.inl rfl,Int.le_refl _,fun a ha=>nomatch ha⟩
 |cons v l ih=>
  intro _ m t r e;cases r with
  |cons r1 r2=>
   induction v using Internal.V.casesOn with
   |int i=>
    exists aD (int_at r1),u,Ua;clear r1;subst Ua;have e:(match ilt m i with|true=>maxI i l|false=>maxI m l)=some t:=e;rw[ilt_eq]at e;split at e
    ·rename_i q;have q:=of_decide_eq_true q;exists dX (ih r2 e),ns,h1,h2,h3,h4;exact⟨i::ns,.cons _ _ h1,.inr (h2.elim (fun z=>z▸.head _) (.tail _)),by lia,fun a ha=>by
      clear h2 h1 q e r2;clear q e ih;rcases aH.mp ha with rfl|ha
      ·exact h3
      ·exact h4 a ha⟩
    ·rename_i q;have q:=of_decide_eq_false q;exists dX (ih r2 e),ns,h1,h2,h3,h4;exact⟨i::ns,.cons _ _ h1,h2.imp id (.tail _),h3,fun a ha=>by
      clear h2 h1 e r2;clear e ih;rcases aH.mp ha with rfl|ha
      ·lia
      ·exact h4 a ha⟩
   |_=>exact nq e
theorem T7(e:maxL l=some t):∃i r,l = .int i::r/\maxI i r=some t:=by
 unfold maxL at e;split at e
 ·exact nq e
 ·split at e
  ·exact⟨_,_,rfl,e⟩
  ·exact nq e
theorem Xd(I:C.I φ H s.heap)(R:Rm A n)(ra:C.R φ H s.heap a x)(e:xc a H=some (v,H'))(P:C.Po φ H s H' (fun a8 h' z=>C.R a8 H' h' v z) Q) :
  C.wp A (call (.builtin "max") [x]) Q E s:=by
 unfold xc at e;exists fY e,l,hl,e
 ·unfold retI at e;exists zx e,t,ht,e
  ·injections e;exists dE (gj I ra hl),d,vs,m,Pt,hg,rs;clear hl ra;subst Pt;exists aU (T7 ht),i,r,ZJ,ht;clear ht;subst ZJ;cases rs with
   |@cons _ _ _ vs' r1 r2=>
    exists aD (int_at r1),u,Qy;subst Qy;exists dX (Yt r2 ht),wc,h1,h2,h3,h4;have hi:IntsAre (.int i u::vs') (i::wc):=.cons _ _ h1;exists aD hi.allInts.items,xs,hx;have fk:i::wc=xs.toList.map (·.1):=by rw[<- hi.numsOf,<- nums_intItems,<- hx]
    have d9:0<xs.size:=by
     have:=congrArg List.length fk;simp at this;exact Nat.lt_of_sub_eq_succ (id (Eq.symm this))
    have rG:s.heap.IsList d (intItems xs):=⟨_,hg,rfl,m,by rw[<- hx]⟩;exists max_intList R.handled rG d9,v,h',tk,hv,k;exists aD (intItems_at hv),t',Rd;clear hv rG hx hi h1 hg r2 ht R;subst Rd;exists ak (argBest_gt (numAt xs) (xs.size - 1)),g1,g2;exists ak (C.grow I k),I',S;have:numAt xs (argBest (fun i j=>decide (numAt xs i > numAt xs j)) (xs.size - 1))=t:=by
     have m1:numAt xs (argBest (fun i j=>decide (numAt xs i > numAt xs j)) (xs.size - 1))∈i::wc:=by
      rw[fk,numAt_eq];exact getD_mem (by rw[aJ,Array.length_toList];exact Nat.lt_of_le_pred d9 g1)
     have m2:t∈i::wc:=h2.elim (fun z=>z▸.head _) (.tail _);have a2:numAt xs (argBest (fun i j=>decide (numAt xs i > numAt xs j)) (xs.size - 1))<=t:=by
      clear m2 S I' g2 g1 k d9 fk h2 P I;rcases aH.mp m1 with z|z
      ·rw[z];exact h3
      ·exact h4 _ z
     rw[fk]at m2;exists ae (mem_getD m2),j,hj,ej;have a1:numAt xs j<=_:=g2 j (by rw[aJ,Array.length_toList]at hj;exact(fun{m n} h=>(Nat.le_sub_one_iff_lt h).mpr) d9 hj);rw[numAt_eq xs j]at a1
     lia
    rw[this];exact P _ φ h' tk S I' (.int _ _)
theorem TS:∀{vs:List Value} {t:Bool},C.Rs φ H h l vs->anyB l=some t->∃bs,LSm.BoolsAre vs bs/\t=bs.any id:=by
 induction l with
 |nil=>intro _ t r e;cases r;exact⟨[],.nil,(aI e).symm⟩
 |cons v l ih=>
  intro _ t r e;cases r with
  |cons r1 r2=>
   induction v using Internal.V.casesOn with
   |bool b=>
    have e:(match anyB l with|some c=>(match (generalizing:=false) b with|true=>some true|false=>some c)|none=>none)=some t:=e
    split at e
    ·rename_i c hc;exists ae (ih r2 hc),bs,h1,V0;clear hc r2;clear ih;subst V0;have:=tB r1;clear r1;subst this;exact⟨b::bs,.cons _ h1,by clear h1;induction b using aB <;> cases e <;> simp⟩
    ·exact nq e
   |_=>exact nq e
theorem KV(I:C.I φ H s.heap)(R:Rm A n)(ra:C.R φ H s.heap a x)(e:yf a H=some (v,H'))(P:C.Po φ H s H' (fun a8 h' z=>C.R a8 H' h' v z) Q) :
  C.wp A (call (.builtin "any") [x]) Q E s:=by
 unfold yf at e;exists fY e,l,hl,e
 ·unfold retB at e;exists sj e,t,ht,e
  ·(exists sp2 e,aab,UM;clear e;clear e;subst aab;clear e;subst UM)
   exists dE (gj I ra hl),d,vs,m,VD,hg,rs;clear hl ra;subst VD;exists ae (TS rs ht),bs,hb,SU;clear rs ht;subst SU;have dz:d<s.heap.objs.size:=Heap.lt_size hg;have hL:s.heap.IsList d vs.toArray:=⟨_,hg,rfl,m,rfl⟩;refine call_any_walk (wpAny_pyIter_list hL ?_);refine⟨s.heap.objs.size,[s.heap.objs.size,d],[s.heap.objs.size],vs.toArray.size,_,_,fun i=>(bs[i]?).getD false,rfl,Walks.list (A:=A.in1) R.handled _ d (eR dz) vs.toArray,
    ⟨⟨_,Heap.get?_push_size _ rfl,rfl,rfl⟩,hL.push _⟩,fun i v s' Q' E' hP hQ=>?_,fun h' tk hk=>?_⟩
   ·exists ae (hb.get i v (by simpa using hP)),b,e,VF;clear hP hL dz P hb hg R I;subst VF;simp only[e,Option.getD_some]at hQ;exact wpAny_truthy_bool hQ
   ·have e:((List.range vs.toArray.size).any fun i=>(bs[i]?).getD false)=bs.any id:=by
     rw[dY,hb.length];exact LSm.range_any bs
    rw[e];exists ak (C.grow I (LSm.kept_iter hk)),I',S;exact P _ φ h' tk S I' (.bool _)
theorem OU(I:C.I φ H s.heap)(R:Rm A n)(ra:C.R φ H s.heap a x)(e:AK a H=some (v,H'))(P:C.Po φ H s H' (fun a8 h' z=>C.R a8 H' h' v z) Q) :
  C.wp A (call (.builtin "sorted") [x]) Q E s:=by
 unfold AK at e;exists fY e,l,hl,e
 ·unfold retL at e;exists fY e,l',hs,e
  ·(exists sp2 e,U8,Z0;clear e;clear e;subst U8;clear e;subst Z0)
   exists dE (gj I ra hl),d,vs,m,Mp,hg,rs;clear hl ra;subst Mp;have el:=rs.length;have hL:s.heap.IsList d vs.toArray:=⟨_,hg,rfl,m,rfl⟩;exists ak (Ep hs),VQ,hv;have fin:∀p,C.Rs φ H s.heap l' (kP vs p)->∀h' D n',s.heap.get? D=none->h'.get? D=some (seqObj "list" (kP vs p).toArray n')->(∀b ob,s.heap.get? b=some ob->h'.get? b=some ob)->Q (.ref D) { s with heap:=h' }:=by
    intro p ro h' D n' hD sG k;exists dK (C.fresh I k hD (o:=.list l') ⟨_,_,sG,ro⟩),I',S,r;exact P _ _ _ s.toks S I' r
   clear hg P hs;rcases hv with⟨h2,rfl⟩|⟨h2,k,q,hk,hq,rfl⟩
   ·exact FH (f:=fun _ _=>none) (p:=none) hL (by lia) (.inl ⟨by exact lt_of_eq_of_lt (id (Eq.symm el)) h2,rfl⟩) (fun h1 _ z=>by lia) (fin none rs)
   ·refine FH (f:=iM l) (p:=some q) hL (by lia) (.inr ⟨by exact le_of_le_of_eq h2 el,q,rfl,by rw[<- el];exact hq⟩) (fun h1 kp _=>?_) (fin (some q) (wZ rs q.toList));exists ak (C.grow I kp),I1,S1;have hu:A.in1.in1.units+100<cLine:=by have:=R.units;show A.units+1+1+100<cLine;lia
    exact EO (s:={ s with heap:=h1 }) I1 (S1.hU I rs) hk (Nat.zero_lt_of_lt h2) hu
theorem Wl(I:C.I φ H s.heap)(ra:C.R φ H s.heap a x)(e:JL a H=some (v,H'))(P:C.Po φ H s H' (fun a8 h' z=>C.R a8 H' h' v z) Q) :
  C.wp A (call (.type "tuple") [x]) Q E s:=by
 exists fY e,l,hl,e
 ·exists ak (guard_some e),e1,e2
  (clear e;injections e2)
  exists dE (gj I ra hl),d,vs,m,YA,hg,rs;clear e hl ra;subst YA;have hle:=dJ e1;have hL:s.heap.IsList d vs.toArray:=⟨_,hg,rfl,m,rfl⟩;refine call_tuple_list hL (fun h' k=>?_) (by rw[dY,<- rs.length];exact jN hle);exists ak (C.grow I k),I',S;refine dK (C.pQ I' (cV h' { cls:=.type "tuple",data:=.seq vs.toArray }) (cA _) (Heap.get?_push_size _ rfl) (S.hU I rs)) fun I2 S2 r=>?_;exact P _ φ _ s.toks (S.trans S2 I I') I2 r
theorem ZU(I:C.I φ H s.heap)(ra:C.R φ H s.heap a x)(e:yD a H=some (v,H'))(P:C.Po φ H s H' (fun a8 h' z=>C.R a8 H' h' v z) Q) :
  C.wp A (call (.type "int") [x]) Q E s:=by
 unfold yD at e;split at e
 ·injections e;exists aD (int_at ra),t,O1;clear ra;subst O1;exact call_int_int (P.dT I (.int _ _))
 ·exact nq e
end
end
section
open PySem PySem.Calls PyProof.Rows PySem.W
noncomputable def zL(k:List Int):Int:=reduceHash (Builtin.Tuple.tupleHashOf (k.map hashInt))
noncomputable def Dr:List (List Int):=(List.range 9).flatMap fun(i:Nat)=>(List.range 9).map fun(j:Nat)=>[(i:Int),(j:Int)]
theorem Zh:(Dr.map zL).Nodup:=by decide +kernel
theorem Rc{α β:Type}{f:α->β}{l:List α}:(l.map f).Nodup->∀{a b:α},a∈l->b∈l->f a=f b->a=b:=by
 induction l with
 |nil=>
  intro _ _ _ m _ _;cases m
 |cons x l ih=>
  intro N a b m m' e;rw[aO,eu]at N;rcases aH.mp m with q|q
  ·clear m;clear ih;rcases aH.mp m' with q'|q'
   ·exact q.trans q'.symm
   ·exact absurd (cE.mpr ⟨b,q',by rw[<- e,q]⟩) N.1
  ·clear m;rcases aH.mp m' with q'|q'
   ·exact absurd (cE.mpr ⟨a,q,by rw[e,q']⟩) N.1
   ·exact ih N.2 q q' e
theorem GJ(e:smallKey k=true):k∈Dr:=by
 have sn:∀{a:Int},sP a=true->∃n:Nat,n<9/\a=n:=fun{a} e=>by
  induction a using kC with
  |ofNat n=>exact⟨n,Nat.lt_succ_of_le (bC e),rfl⟩
  |negSucc n=>exact bf e
 match k,e with
 |[a,b],e=>
  have e:band (sP a) (sP b)=true:=e;rw[cX]at e;exists ae (sn e.1),i,hi,mS;subst mS;exists ae (sn e.2),j,hj,ye;clear e sn;clear e;subst ye;exact List.mem_flatMap.mpr ⟨i,List.mem_range.mpr hi,cE.mpr ⟨j,List.mem_range.mpr hj,rfl⟩⟩
theorem Vj:smallKeys l=true->∀k∈l.map (·.1),smallKey k=true:=by
 induction l with
 |nil=>
  intro _ k m;cases m
 |cons e r ih=>
  intro h k m;dsimp only[smallKeys]at h;split at h
  ·rename_i hs;rcases aH.mp m with rfl|m
   ·exact hs
   ·exact ih h k m
  ·exact bf h
section
variable {C:Cf} {φ:Ph} {H:Hp} {h h':Heap} {A:Around} {n:Nat} {E:Value->Shared->Prop} {s:Shared}
theorem US(r:C.Es φ H h l es)(nd:(l.map (·.1)).Nodup)(sk:smallKeys l=true)(e:DictEntry):(es.filter (fun x=>x.hash == e.hash)).length<=1:=by
 exists ae (EX.of r),xs,px,qP;subst qP;have hk:=px.keys;rw[<- hk]at nd;have C7:∀k∈xs.map (·.1),smallKey k=true:=by rw[hk];exact Vj sk
 clear px hk r;generalize e.hash=g
 induction xs with
 |nil=>simp
 |cons x xs ih=>
  rw[aO,eu]at nd;have ih:=ih nd.2 fun k m=>C7 k (.tail _ m);rw[aO,List.filter_cons];split
  ·rename_i hx;have hx:zL x.1=g:=by have q:C.knd.hash x.1=g:=by{ simpa [entryOfKey]using hx };exact q
   have:((xs.map (entryOfKey C.knd)).filter fun x=>x.hash == g)=[]:=by
    rw[List.filter_eq_nil_iff];rintro y hy;exists ae (cE.mp hy),z,hz,zd;subst zd;intro q;have q:zL z.1=g:=by have q':C.knd.hash z.1=g:=by{ simpa [entryOfKey]using q };exact q'
    have mz:z.1∈xs.map (·.1):=cE.mpr ⟨z,hz,rfl⟩;have:=Rc Zh (GJ (C7 z.1 (.tail _ mz))) (GJ (C7 x.1 (.head _))) (q.trans hx.symm);exact nd.1 (this▸mz)
   rw[this];simp
  ·exact ih
theorem aau(hT:s.TypeIs (.ref a) "tuple")(h:Q false s):wpAny M A (Builtin.Dict.quietEq (.ref a)) Q E s:=by
 unfold Builtin.Dict.quietEq;refine a9 (wpAny_specialOf hT PySem.F.slot_tuple_eq.lookup ?_);exact aw h
theorem Ro{id:String}{d:Addr}{l:List (List Int×V)}{es:List DictEntry}{m:Nat}{Q:Array DictEntry->Shared->Prop}(g:s.heap.get? d=some (cS es m))(r:C.Es φ H s.heap l es)(nd:(l.map (·.1)).Nodup)(sk:smallKeys l=true)(h:Q es.toArray s) :
  C.wp A (Builtin.Dict.entriesForEmpty id d) Q E s:=by
 unfold Builtin.Dict.entriesForEmpty;refine a9 (wpAny_dictEntries g rfl ?_);refine a9 ?_;rw[<- Array.forIn_toList];refine wpAny_forIn_list _ (fun rest _ s'=>s'=s/\∀e∈rest,e∈es) _ ?_ ?_ _ _ ⟨rfl,fun e m=>by simpa using m⟩
 ·rintro e rest b s' ⟨rfl,hm⟩;have hx:∃a,e.key = .ref a/\s'.TypeIs (.ref a) "tuple":=by
   exists ae (EX.of r),xs,px,mH;clear h r g sk nd;subst mH;exists ae (cE.mp (hm e (.head _))),x,mx,rU;clear hm;subst rU;exists fH (px.is x mx),o,items,n,ho,hc,hd,hi;exact⟨x.2.1,rfl,o,ho,hc⟩
  exists ae hx,a,ea,hT
  try clear hx
  refine a9 ?_;rw[ea];refine aau hT ?_;refine g6 dq ?_;have h1:=US r nd sk e;refine eF (by rw[Array.size_eq_length_toList,Array.toList_filter];simpa using h1) ?_;exact aw ⟨rfl,fun e' m=>hm e' (.tail _ m)⟩
 ·rintro b s' ⟨rfl,_⟩;exact aw h
theorem WX(vg:d≠o)(ho:o≠sysModules)(gd:s.heap.get? d=some (cS [] k))(g:s.heap.get? o=some (cS es m))
  (r:C.Es φ H s.heap l es) (nd:(l.map (·.1)).Nodup) (sk:smallKeys l=true) (hl:lenOk l=true)
  (h:∀h' k',h'.get? d=some (cS es k')->(∀b ob,b≠d->s.heap.get? b=some ob->h'.get? b=some ob)->Q () { s with heap:=h' }):C.wp A (Builtin.Dict.mergeDict nm d o) Q E s:=by
 have el:es.length=l.length:=by clear h hl sk nd g gd ho vg;obtain⟨xs,px,rfl⟩:=EX.of r;rw[aJ];exact px.length
 have hle:=dJ hl;unfold Builtin.Dict.mergeDict;refine eF (by simpa using vg) ?_;unfold Builtin.Dict.showsAll;rw[if_neg (by rw[s6 ho];exact Bool.false_ne_true)];refine a9 (aw ?_);refine a9 (wpAny_dictEntries g rfl ?_);dsimp only;have here:es=[]->Q () s:=by
  rintro rfl;exact h s.heap _ gd fun b ob _ e=>e
 split
 ·refine a9 (wpAny_dictEntries gd rfl ?_);refine g6 (by simp) ?_;refine a9 (Ro g r nd sk ?_);split
  ·refine a9 (wpAny_updateDictKeysTo gd rfl (aw ?_) (by simp;rw[sizeLine_eq];lia));refine h _ _ (Heap.get?_update_self _ gd (Obj.isFreed_of_dict (Obj.data_mapDictKeys rfl _))) fun b ob hb e=>by rw[Heap.get?_update_ne _ _ _ _ hb];exact e
  ·rename_i bN;exact aw (here (by simpa using bN))
 ·rename_i A9;have:es=[]:=by
   clear here hle el h hl sk nd g gd ho vg;induction es using aN with
   |nil=>rfl
   |cons e es=>
    exfalso;apply A9;exists ae (EX.of r),xs,px,ex;clear px A9 r;induction xs using aN with
    |nil=>cases ex
    |cons x xs=>
     rw[aO]at ex;injection ex with e1 e2
     subst e1;simp [entryOfKey,keyPart]
  clear A9 hle el h hl sk nd r gd ho vg;subst this;refine a9 (wpAny_dictEpoch g rfl (a9 (wpAny_dictEntries g rfl ?_)));refine a9 ?_;rw[Std.Legacy.Range.forIn_eq_forIn_range'];simp only[Std.Legacy.Range.size,dY,List.length_nil,Nat.sub_zero,Nat.add_sub_cancel,Nat.div_one];refine aw (aw (here rfl))
end
end
section
open PySem PySem.Calls PyProof.Rows PySem.W
theorem N6:typeLookup (.type "list") "keys" = pure none:=by rw[typeLookup_type,builtinLookup_eq_fast];kernel_rfl
theorem UE:typeLookup (.type "list") "__getattr__" = pure none:=by rw[typeLookup_type,builtinLookup_eq_fast];kernel_rfl
theorem V4(u:Tok) :
  Meets (Builtin.«object.__getattribute__» ⟨[.ref a,.str "keys" u],[]⟩) (fun A R s=>s.heap.get? a=some { cls:=.type "list",dict:=none,data:=.seq xs m,slots:=#[] }/\raisesAttr (.ref a) "keys" A R s):=
 Meets.of_wp fun prog w A R s hs=>by
  obtain⟨hp,g,d,tk,os⟩:=s;exists ak hs,ho,hs;have hT:(⟨hp,g,d,tk,os⟩:Shared).TypeIs (.ref a) "list":=⟨_,ho,rfl⟩;have f4:=N6;unfold Builtin.«object.__getattribute__»
  repeat (any_goals (first|assumption|wp_step))
  exact wpAny_raiseAttrError hs.1 hs.2 (attrMsg_fits (by decide +kernel) (by decide +kernel))
section
variable {prog:Program} {w:World} {A:Around} {E:Value->Shared->Prop} {s:Shared}
theorem LU(ho:s.heap.get? a=some { cls:=.type "list",dict:=none,data:=.seq xs m,slots:=#[] })(hA:A.handled=none)
  (h:∀h' tk,(∀b ob,s.heap.get? b=some ob->h'.get? b=some ob)->Q none { s with heap:=h',toks:=tk }):wpAny (model prog w) A (getAttr? (.ref a) "keys") Q E s:=by
 obtain⟨hp,g,d,tk,os⟩:=s;have hT:(⟨hp,g,d,tk,os⟩:Shared).TypeIs (.ref a) "list":=⟨_,ho,rfl⟩;have f1:=sub_AttributeError;have f3:=F.slot_list_getattribute.lookup;have f4:=F.slot_list_getattribute.bind (.ref a);have f5:=UE;unfold getAttr? getAttrBy? getAttrBy
 repeat (any_goals (first|assumption|((with_reducible show wpAny _ _ (call (Value.builtin "list.__getattribute__") _ _) _ _ _);refine call_meets F.slot_list_getattribute ⟨_,ho,rfl⟩ F.entry_list_ga (F.args_list_getattribute_2 _ _) (V4 _) ⟨ho,hA,fun h' lu e hx=>?_⟩)|wp_step))
 exists de hx.there,t',u',he;show wpAny _ _ (getattributeRaised _ _ _ _ _ _ _) _ _ _;unfold getattributeRaised
 repeat (any_goals (first|assumption|wp_step))
 exact h _ _ hx.keeps
end
theorem Ik(h:z9 v=some l):v = .tup l:=by
 induction v using Internal.V.casesOn with
 |tup l'=>exact congrArg _ (aI h)
 |_=>exact nq h
theorem PA(h:EJ l=some q):l=[q.1,q.2]:=by
 induction l using aN with
 |nil=>exact nq h
 |cons a l=>induction l using aN with
  |nil=>exact nq h
  |cons b l=>induction l using aN with
   |nil=>cases aI h;rfl
   |cons=>exact nq h
theorem aaR(e:pairsOf (v::r) acc=some out):∃k w,v = .tup [.tup (k.map .int),w]/\pairsOf r (dset acc k w)=some out:=by
 exists ae (aQ e),l,h1,e;exists ae (aQ e),q,h2,e;exists ae (aQ e),a,h3,e;exists ae (aQ e),k,h4,e;exact⟨k,q.2,by rw[Ik h1,PA h2,Ik h3,H0 h4],e⟩
theorem Lf(l:List (List Int×V))(k:List Int)(v:V):(dset l k v).length<=l.length+1:=by
 induction l with
 |nil=>simp [dset]
 |cons e r ih=>
  dsimp only[dset];split
  ·simp
  ·simp;exact ih
theorem Di:entryFor table "dict.update.loop" = some Builtin.«dict.update.loop»:=entryFor_of_fast (by kernel_rfl)
theorem Kx:plainId "dict.update.loop" = true:=by decide +kernel
section
variable {C:Cf} {φ:Ph} {H:Hp} {h h':Heap} {A:Around} {n:Nat} {E:Value->Shared->Prop} {s:Shared}
theorem EX.keep(r:EX C φ H h l xs)(k:∀b o,h.get? b=some o->h'.get? b=some o):EX C φ H h' l xs:=by
 induction r with
 |nil=>exact .nil
 |cons a b _ ih=>exact .cons (zl a k) (zl b k) ih
theorem ML(lq:h0.get? d=none)(l6:h0.get? it=none)(sQ:d≠it)(hh:A.handled=none)(hu:A.in1.units<cLine)(qF:h0.get? l=some (fe items mm))
  {out:List (List Int×V)} (hR:∀(s':Shared) xs k,(∀b o,h0.get? b=some o->s'.heap.get? b=some o)->EX C φ H h0 out xs->(out.map (·.1)).Nodup->s'.heap.get? d=some (cS (xs.map (entryOfKey C.knd)) k)->
   (∃h' tk,s'={ s with heap:=h',toks:=tk })->R (.ok (.ret .none)) s') :
  ∀(rest:List V) (vs pre:List Value) (acc:List (List Int×V)) (xs:List (List Int×Addr×Value)) (k:Nat) (s1:Shared),items=pre++vs->C.Rs φ H h0 rest vs->pairsOf rest acc=some out->EX C φ H h0 acc xs->(acc.map (·.1)).Nodup->acc.length+rest.length<=1000000->
   (∀b o,h0.get? b=some o->s1.heap.get? b=some o)->s1.heap.get? d=some (cS (xs.map (entryOfKey C.knd)) k)->s1.heap.IsListIter it l pre.length->(∃h' tk,s1={ s with heap:=h',toks:=tk })->
   codeAny (model C.prog C.w) A (.builtin "dict.update.loop" ⟨[.ref d,.ref it,rawInt pre.length,.none],[]⟩) R s1:=by
 intro rest
 induction rest with
 |nil=>
  intro vs pre acc xs k s1 hit rs ep px nd hlen keep gd hI hs;clear hlen hu lq;cases rs;exists ep;refine codeAny_builtin Di ?_;rw[Around.under_plainId Kx _];show wpAny _ A.in1 (pyNext (.ref it) >>= _) _ _ s1;have hL:s1.heap.IsList l items.toArray:=⟨_,keep _ _ qF,rfl,mm,rfl⟩;refine a9 (wpAny_pyNext_list_end hh hI hL (by rw[hit];simp) fun h' hx=>?_);show wpAny _ _ (Builtin.Dict.addKeywords d [] >>= _) _ _ _;refine a9 (aw (aw ?_));exists de hs,h1,tk,mH
  try clear hs
  clear hL hit hI qF hh;subst mH;exact hR _ xs k (fun b o e=>hx b o (fun z=>by rw[z,l6]at e;exact nq e) (keep b o e)) px nd (hx d _ sQ gd) ⟨h',tk,rfl⟩
 |cons v rest ih=>
  intro vs pre acc xs k s1 hit rs ep px nd hlen keep gd hI hs;exists aU (aaR ep),ky,w,qn,B9;clear ep;subst qn;cases rs with
  |@cons _ x _ vs r1 r2=>
   refine codeAny_builtin Di ?_;rw[Around.under_plainId Kx _];show wpAny _ A.in1 (pyNext (.ref it) >>= _) _ _ s1;have hL:s1.heap.IsList l items.toArray:=⟨_,keep _ _ qF,rfl,mm,rfl⟩;refine a9 (wpAny_pyNext_list_item hI hL (x:=x) (by rw[hit];simp) fun h1 uW GX=>?_);have jv:∀b o,h0.get? b=some o->h1.get? b=some o:=fun b o e=>by rw[GX.2 b fun z=>by rw[z,l6]at e;cases e];exact keep b o e
   have mQ:h1.get? d=some (cS (xs.map (entryOfKey C.knd)) k):=by rw[GX.2 d sQ];exact gd
   exists fH (gq r1),a,us,m,NQ,ga,Z0,ru;subst NQ;exists cx (oL ru),kx,vx,ke,rk,rw;clear ru;subst ke;exists aD (pg rk),ka,AV;subst AV;have vF:=jv _ _ ga;refine a9 (dM ?_);refine a9 (wpAny_tryCatch ?_);unfold Builtin.Dict.pairItems;refine a9 (wpAny_typeOf (T:="tuple") ⟨_,vF,rfl⟩ ?_);refine g6 dq ?_;unfold seqItems?;refine a9 (a9 (wpAny_load vF (aw (aw ?_))));have D1:h1.DictOfH C.knd d xs:=⟨_,_,k,mQ,⟨rfl,rfl,rfl⟩,rfl,by simp,(px.keep jv).is,by rw[px.keys];exact nd⟩;have xK:=px.length;show wpAny _ _ (holding [.ref ka,vx] (dictSet d (.ref ka) vx)) _ _ _;refine dM (wpAny_dictSet_heap (knd:=C.knd) (s:={ s1 with heap:=h1 }) hu (kF (zl rk jv)) D1 (fun h2 D2 fF=>?_) (by rw[xK,sizeLine_eq];simp at hlen;lia));exists aD (vP D2),k2,AA;have Hj:∀b o,h0.get? b=some o->h2.get? b=some o:=fun b o e=>by rw[fF.2 b fun z=>by rw[z,lq]at e;clear z AA fF D2 xK D1 vF ga rk rw hit mQ jv uW r2 hlen B9 hs nd px hR qF hu hh sQ l6 lq;cases e];exact jv b o e
   refine aw ⟨Code.quiet_builtin _ (by decide +kernel),?_⟩;have key:=ih vs (pre++[.ref a]) (dset acc ky w) (storedH xs ky ka vx) k2 { s1 with heap:=h2,toks:=s1.toks+C.knd.draws ky } (by rw[hit];simp) r2 B9 (px.set nd rk rw) (z6 nd _ _)
    (by have:=Lf acc ky w;simp at hlen;lia) Hj AA (by
     have:(pre++[Value.ref a]).length=pre.length+1:=by simp
     rw[this];exists ae uW,o,ho,hc
     try clear uW
     exact⟨o,by rw[fF.2 it (Ne.symm sQ)];exact ho,hc⟩) (by clear Hj AA fF D2 xK D1 vF ga rk rw hit mQ jv uW r2 hlen B9 nd px hR qF hu hh sQ l6 lq;obtain⟨h3,tk,rfl⟩:=hs;exact⟨_,_,rfl⟩)
   have e2:rawInt ((pre++[Value.ref a]).length)=rawInt ((pre.length:Int)+1):=by simp
   rw[e2]at key;exact key
set_option tactic.hygienic true in
theorem Ry(I:C.I φ H s.heap)(R:Rm A n)(ra:C.R φ H s.heap a x)(e:yc a H=some (v,H'))(P:C.Po φ H s H' (fun a8 h' z=>C.R a8 H' h' v z) Q) :
  C.wp A (call (.type "dict") [x]) Q E s:=by
 have gd:(s.heap.push { cls:=.type "dict",data:=.dict #[] }).get? s.heap.objs.size=some (cS [] 0):=Heap.get?_push_size _ rfl;have kp:=cV s.heap { cls:=.type "dict",data:=.dict #[] };have q8:(({ s with heap:=s.heap.push { cls:=.type "dict",data:=.dict #[] } }:Shared)).TypeIs (.ref s.heap.objs.size) "dict":=⟨_,gd,rfl⟩;unfold yc at e;split at e
 ·rename_i l hl;exists ak (guard_some e),e1,e2;rw[cX]at e1
  (clear e R;injections e2)
  exists jV (sa I ra hl),o,es,m,WL,g,re,nd,ns;subst WL;refine callType_codes (Q₁:=fun obj s₁=>obj = .ref s.heap.objs.size/\s₁={ s with heap:=s.heap.push { cls:=.type "dict",data:=.dict #[] } }) F.kt_called_dict (F.kt_typeCall_dict_1 _) F.entry_dict_init (kt_code_dict_new _ ⟨rfl,rfl⟩) ?_;rintro obj s₁ ⟨rfl,rfl⟩;have oG:(({ s with heap:=s.heap.push { cls:=.type "dict",data:=.dict #[] } }:Shared)).TypeIs (.ref o) "dict":=⟨_,kp _ _ g,rfl⟩;refine⟨q8,F.args_dict_init_2 _ _,?_⟩;unfold Builtin.«dict.__init__»;refine a9 ?_;unfold Builtin.Dict.selfAndRest;refine a9 (wpAny_notOrdered_dict q8 ?_);show wpAny _ _ (pure (s.heap.objs.size,[Value.ref o])) _ _ _;refine aw ?_;show wpAny _ _ (Builtin.Dict.updateFrom "dict.__init__" s.heap.objs.size (.ref o) [] .none) _ _ _;unfold Builtin.Dict.updateFrom;refine a9 (wpAny_typeOf oG ?_);refine eF dq ?_;refine a9 ?_;unfold Builtin.Dict.merge;refine a9 ?_;unfold Builtin.Dict.readDirectly;refine a9 (wpAny_isInstance oG isSubtype_dict_dict ?_);refine eF dq ?_;refine a9 (wpAny_specialOf oG F.slot_dict_iter.lookup (aw ?_));refine g6 dq ?_;refine a9 (aw ?_);exists ak (C.grow I kp),I1,S1;have bN:s.heap.objs.size≠o:=fun z=>by rw[<- z,cA]at g;exact nq g
  refine WX (φ:=φ) (H:=H) (s:={ s with heap:=s.heap.push { cls:=.type "dict",data:=.dict #[] } }) bN ns gd (kp _ _ g) (Fq re kp) nd e1.2 e1.1 fun h' k' g' k=>?_;have k2:∀b ob,s.heap.get? b=some ob->h'.get? b=some ob:=fun b ob e=>k b ob (fun z=>by rw[z,cA]at e;exact nq e) (kp _ _ e);exists dK (C.fresh I k2 (cA _) (o:=.dict l) ⟨_,_,g',re,nd⟩),I',S,r;show wpAny _ _ (Builtin.Dict.addKeywords s.heap.objs.size [] >>= _) _ _ _;exact a9 (aw (aw ⟨rfl,P _ _ _ s.toks S I' r⟩))
 ·split at e
  ·rename_i l hl;exists ak (guard_some e),e1,e2;unfold u9 at e2;split at e2
   ·rename_i out ho
    (clear e;injections e2)
    exists dE (gj I ra hl),d,vs,m,zK,g,rs;subst zK;have hle:=dJ e1;refine callType_codes (Q₁:=fun obj s₁=>obj = .ref s.heap.objs.size/\s₁={ s with heap:=s.heap.push { cls:=.type "dict",data:=.dict #[] } }) F.kt_called_dict (F.kt_typeCall_dict_1 _) F.entry_dict_init (kt_code_dict_new _ ⟨rfl,rfl⟩) ?_;rintro obj s₁ ⟨rfl,rfl⟩;have oG:(({ s with heap:=s.heap.push { cls:=.type "dict",data:=.dict #[] } }:Shared)).TypeIs (.ref d) "list":=⟨_,kp _ _ g,rfl⟩;refine⟨q8,F.args_dict_init_2 _ _,?_⟩;unfold Builtin.«dict.__init__»;refine a9 ?_;unfold Builtin.Dict.selfAndRest;refine a9 (wpAny_notOrdered_dict q8 ?_);show wpAny _ _ (pure (s.heap.objs.size,[Value.ref d])) _ _ _;refine aw ?_;show wpAny _ _ (Builtin.Dict.updateFrom "dict.__init__" s.heap.objs.size (.ref d) [] .none) _ _ _;unfold Builtin.Dict.updateFrom;refine a9 (wpAny_typeOf oG ?_);refine g6 dq ?_;refine a9 (LU (kp _ _ g) R.handled fun h1 D9 k1=>?_);refine g6 (by rfl) ?_;have v8:∀b ob,s.heap.get? b=some ob->h1.get? b=some ob:=fun b ob e=>k1 _ _ (kp _ _ e);have mQ:=k1 _ _ gd;have dz:s.heap.objs.size<h1.objs.size:=Heap.lt_size mQ;have Dz:h1.IsList d vs.toArray:=⟨_,v8 _ _ g,rfl,m,rfl⟩;refine a9 (wpAny_rule (a9 (wpAny_pyIter_list (s:={ s with heap:=h1,toks:=D9 }) Dz ?_)));have CB:=cV h1 { cls:=.type "list_iterator",data:=.fields #[.ref d,.int 0 0] };have Je:s.heap.get? h1.objs.size=none:=OY v8 (cA _);refine a9 (aw (aw ⟨Code.quiet_builtin _ (by decide +kernel),?_⟩));refine ML (C:=C) (φ:=φ) (H:=H) (A:=A.in1) (s:={ s with heap:=h1,toks:=D9 }) (h0:=s.heap) (items:=vs) (mm:=m) (cA _) Je (eR dz) R.handled (by first|exact R.u1|(have:=R.units;show A.units+1+1<cLine;lia)|(have:=R.units;show A.units+1+1+1<cLine;lia)) g (out:=out) (fun s' xs k kk px nd gg cg=>?_)
     l vs [] [] [] 0 _ rfl rs ho .nil (by simp) (by simp;exact dJ e1) (fun b o e=>CB _ _ (v8 _ _ e)) (CB _ _ mQ) ⟨_,Heap.get?_push_size _ rfl,rfl,rfl⟩ ⟨_,_,rfl⟩
    exists de cg,h',lu,tq
    try clear cg
    clear Je CB Dz dz mQ v8 k1 oG hle rs g ho e1 q8 kp gd R;subst tq;exists dK (C.fresh I kk (cA _) (o:=.dict out) ⟨_,_,gg,px.es,nd⟩),I',S,r;exact⟨rfl,P _ _ _ _ S I' r⟩
   ·exact nq e2
  ·exact nq e
end
end
section
open PySem PySem.Calls PyProof.Rows PySem.W
theorem Im{α β:Type}(f:α->β)(l:List α):∀(i:Nat),(l.map f).eraseIdx i=(l.eraseIdx i).map f:=by
 induction l with
 |nil=>intro i;induction i using bL <;> rfl
 |cons x l ih=>
  intro i
  induction i using bL with
  |zero=>rfl
  |succ i=>exact congrArg (f x :: ·) (ih i)
section
variable {prog:Program} {w:World} {K:Type} [DecidableEq K] {knd:HeapKind prog w K} {A:Around} {E:Value->Shared->Prop} {s:Shared}
theorem Ek(hu:knd.room A)(rB:knd.is s.heap k a)(hm:s.heap.DictOfH knd d xs)
  (dH:(∀(j:Nat) (p:Addr×Value),xs[j]?≠some (k,p))->Q none { s with toks:=s.toks+knd.draws k })
  (Gk:∀(j:Nat) (p:Addr×Value),xs[j]?=some (k,p)->∀h',h'.DictOfH knd d (xs.eraseIdx j)->Heap.SameBut d s.heap h'->Q (some (entryOfKey knd (k,p))) { s with heap:=h',toks:=s.toks+knd.draws k })
  (d9:xs.length<=sizeLine:=by size_fits) :
  wpAny (model prog w) A (Builtin.Dict.takeOut d (.ref a)) Q E s:=by
 exists X8 hm,o,es,ep,ho,hc,hd,he,z4,hn
 try clear hm
 unfold Builtin.Dict.takeOut
 try with_reducible refine dM ?_
 refine a9 (knd.pyHash hu rB ?_);refine a9 (wpAny_dictFind_heap (s:={ s with toks:=s.toks+knd.draws k }) hu rB ho hd he z4 hn ?_ ?_)
 ·intro g4;exact aw (dH g4)
 ·intro j p hj;refine a9 (wpAny_dictEntries (s:={ s with toks:=s.toks+knd.draws k }) ho hd ?_);rw[entry_at he j,hj];refine a9 (wpAny_updateDictKeys (hz:=by have e:=size_of_entries he;lia) (s:={ s with toks:=s.toks+knd.draws k }) ho hd (aw (Gk j p hj _ ⟨_,_,ep+1,Heap.get?_update_self _ ho (Obj.isFreed_of_dict (Obj.data_mapDictKeys hd _)),
   hc.mapDictKeys _,Obj.data_mapDictKeys hd _,?_,?_,?_⟩ (Heap.SameBut.update ..))))
  ·clear hn z4 hd hc ho d9 Gk dH rB hu;obtain⟨l⟩:=es;simp only at he;subst he;have hK:j<xs.length:=(fj.mp hj).1;simp [Array.eraseIdxIfInBounds,hK,Im]
  ·intro x hx;exact knd.keeps (z4 x (List.mem_of_mem_eraseIdx hx)) ho hd (Heap.SameBut.update ..)
  ·rw[<- Im];exact hn.sublist (List.eraseIdx_sublist ..)
end
section
variable {C:Cf} {φ:Ph} {H:Hp} {h h':Heap} {A:Around} {n:Nat} {E:Value->Shared->Prop} {s:Shared}
theorem kQ(I:C.I φ H h)(m:(⟨k,false,.list l⟩:Ent)∈H.es)(ha:φ.f k=some a):∃vs n,h.get? a=some (fe vs n)/\C.Rs φ H h l vs:=by
 exists b7 (I.objs _ m),b,e1,e2,e3;rw[ha]at e1;exists e1;exact e3
theorem uG(I:C.I φ H h)(m:(⟨k,false,.dict l⟩:Ent)∈H.es)(ha:φ.f k=some a):∃es n,h.get? a=some (cS es n)/\C.Es φ H h l es/\(l.map (·.1)).Nodup/\a≠sysModules:=by
 exists b7 (I.objs _ m),b,e1,e2,e3;rw[ha]at e1;exists e1;exists cx e3,es,n,g,r,d
 try clear e3
 exact⟨es,n,g,r,d,zY I e2⟩
theorem Cm(r:C.R φ H h (.ref k) x):∃a,x = .ref a/\φ.f k=some a:=by cases r;exact⟨_,rfl,by assumption⟩
theorem rO(I:C.I φ H h)(m:(⟨k,false,.list l⟩:Ent)∈H.es)(ha:φ.f k=some a)(g:h.get? a=some (fe vs c))(f:Array Value->Array Value)(hf:f vs.toArray=vs'.toArray)(rs:C.Rs φ H h l' vs') :
  C.I φ (setObj H k (.list l')) (h.update a (Obj.mapSeq f))/\St φ H h φ (setObj H k (.list l')) (h.update a (Obj.mapSeq f)):=
 C.upd I m ha (fun b ob hb e=>by rw[Heap.get?_update_ne _ _ _ _ hb];exact e) (o':=.list l') ⟨vs',_,by have:=get?_update_seq g f;rw[hf]at this;exact this,rs⟩
theorem Cu(I:C.I φ H h)(m:(⟨k,false,.list l⟩:Ent)∈H.es)(ha:φ.f k=some a)(g:h'.get? a=some (fe vs' c))(kp:∀b ob,b≠a->h.get? b=some ob->h'.get? b=some ob)(rs:C.Rs φ H h l' vs') :
  C.I φ (setObj H k (.list l')) h'/\St φ H h φ (setObj H k (.list l')) h':=C.upd I m ha kp (o':=.list l') ⟨vs',c,g,rs⟩
theorem tM(rs:C.Rs φ H h l vs)(e:lenOk l=true):vs.toArray.size<=sizeLine:=by rw[dY,<- rs.length];exact jN (dJ e)
theorem Jt(I:C.I φ H s.heap)(m:(⟨k,false,.list l⟩:Ent)∈H.es)(ha:φ.f k=some a)(r:C.R φ H s.heap x y)(e:CE k l x H=some (v,H'))
  (P:C.Po φ H s H' (fun a8 h' z=>C.R a8 H' h' v z) Q):C.wp A (call (.builtin "list.append") [.ref a,y]) Q E s:=by
 exists ak (guard_some e),e1,e2
 (clear e;injections e2)
 exists aU (kQ I m ha),vs,c,g,rs;refine wpAny_list_append_plain (items:=vs.toArray) ⟨c,g⟩ (fun h' hp hs=>?_) (tM rs e1);exists aD hp,c',g'
 try clear hp
 have g':h'.get? a=some (fe (vs++[y]) c'):=by rw[g'];simp [fe]
 clear g e1;obtain⟨I',S⟩:=Cu I m ha g' (fun b ob hb e=>by rw[hs.2 b hb];exact e) (rs.append (.cons r .nil));exact P _ φ h' s.toks S I' .none
theorem Og(I:C.I φ H s.heap)(m:(⟨k,false,.list l⟩:Ent)∈H.es)(ha:φ.f k=some a)(r:C.R φ H s.heap x y)(e:Iw k l x H=some (v,H'))
  (P:C.Po φ H s H' (fun a8 h' z=>C.R a8 H' h' v z) Q):C.wp A (call (.builtin "list.extend") [.ref a,y]) Q E s:=by
 exists fY e,l2,hl2,e
 ·exists ak (guard_some e),e1,e2;rw[cX,cX]at e1
  (clear e;injections e2)
  exists aU (kQ I m ha),vs,c,g,rs;exists dE (gj I r hl2),b,us,c2,zo,g2,qs;clear e hl2 r;subst zo;have b1:=dJ e1.2.1;have b2:=dJ e1.2.2;have l1:=rs.length;have l2:=qs.length;have QH:¬ (!vs.toArray.isEmpty && Builtin.List.listTooLong (vs.toArray.size+us.toArray.size))=true:=by
   have:Builtin.List.listTooLong (vs.toArray.size+us.toArray.size)=false:=by
    unfold Builtin.List.listTooLong;simp only[dY];rw[decide_eq_false_iff_not];have:=sizeLine_eq
    lia
   rw[this];simp
  refine call_meets PySem.F.slot_list_extend ⟨_,g,rfl⟩ PySem.F.entry_list_extend (PySem.F.args_list_extend_2 _ _) (PySem.AutoSeq1.list_extend_list_list_0 a vs.toArray c b us.toArray c2 QH (tM rs e1.2.1) (by rw[dY,dY,sizeLine_eq];lia)) ⟨g,g2,?_⟩;exists ak (rO I m ha g (fun x=>x++us.toArray) (vs':=vs++us) (by simp) (rs.append qs)),I',S;exact P _ φ _ s.toks S I' .none
theorem YM(I:C.I φ H s.heap)(m:(⟨k,false,.list l⟩:Ent)∈H.es)(ha:φ.f k=some a)(e:CZ k l H=some (v,H'))
  (P:C.Po φ H s H' (fun a8 h' z=>C.R a8 H' h' v z) Q):C.wp A (call (.builtin "list.reverse") [.ref a]) Q E s:=by
 exists ak (guard_some e),e1,e2
 (clear e;injections e2)
 exists aU (kQ I m ha),vs,c,g,rs;refine call_meets PySem.F.slot_list_reverse ⟨_,g,rfl⟩ PySem.F.entry_list_reverse (PySem.F.args_list_reverse_1 _) (PySem.AutoSeq1.list_reverse_list_0 a vs.toArray c (tM rs e1)) ⟨g,?_⟩;exists ak (rO I m ha g (fun x=>x.reverse) (vs':=vs.reverse) (by simp) rs.reverse),I',S;exact P _ φ _ s.toks S I' .none
set_option tactic.hygienic true in
theorem SG(I:C.I φ H s.heap)(m:(⟨k,false,.list l⟩:Ent)∈H.es)(ha:φ.f k=some a)(r:C.R φ H s.heap x y)(e:Bf k l x H=some (v,H'))
  (P:C.Po φ H s H' (fun a8 h' z=>C.R a8 H' h' v z) Q):C.wp A (call (.builtin "list.pop") [.ref a,y]) Q E s:=by
 unfold Bf at e;split at e
 ·exact nq e
 ·rename_i v0 l0;exists ak (guard_some e),e1,e2;rw[cX]at e1
  (clear e;injections e2)
  induction x using Internal.V.casesOn with
  |int i=>
   have e0:ieq i 0=true:=e1.1;rw[ieq_iff]at e0;subst e0;exists aD (int_at r),u,Aa;clear r;subst Aa;exists aU (kQ I m ha),vs,c,g,rs;cases rs with
   |@cons _ y0 _ vs r1 r2=>
    have hz:(y0::vs).toArray.size<=sizeLine:=by
     have:=dJ e1.2;have:=r2.length;rw[dY,sizeLine_eq];simp;lia
    refine call_meets PySem.F.slot_list_pop ⟨_,g,rfl⟩ PySem.F.entry_list_pop (PySem.F.args_list_pop_2 _ _) (PySem.MeetsSeq.list_pop_at a (y0::vs).toArray c 0 u 0 y0 dq (by unfold seqIndex?;simp) (by simp) hz) ⟨g,?_⟩;exists ak (rO I m ha g (fun xs=>xs.eraseIdxIfInBounds 0) (vs':=vs) (by simp [Array.eraseIdxIfInBounds]) r2),I',S;exact P _ φ _ s.toks S I' (S.vr I r1)
  |_=>clear r P m ha I;cases e1.1
theorem Qh(I:C.I φ H s.heap)(m:(⟨k,false,.list l⟩:Ent)∈H.es)(ha:φ.f k=some a)(e:EP k l H=some (v,H'))
  (P:C.Po φ H s H' (fun a8 h' z=>C.R a8 H' h' v z) Q):C.wp A (call (.builtin "list.pop") [.ref a]) Q E s:=by
 exists k9 e,v0,h0,e
 ·exists ak (guard_some e),e1,e2
  (clear e;injections e2)
  exists aU (kQ I m ha),vs,c,g,rs;have hl:=rs.length;rw[List.getLast?_eq_getElem?]at h0;exists ae (rs.get h0),y,hy,ry;have mh:vs.toArray[vs.toArray.size - 1]?=some y:=by rw[dY,<- hl];simpa using hy
  have gp:l.length - 1<l.length:=(fj.mp h0).1;refine call_meets PySem.F.slot_list_pop ⟨_,g,rfl⟩ PySem.F.entry_list_pop (PySem.F.args_list_pop_1 _) (PySem.MeetsSeq.list_pop_last a vs.toArray c y mh (tM rs e1)) ⟨g,?_⟩;have hd:C.Rs φ H s.heap l.dropLast vs.dropLast:=by rw[List.dropLast_eq_take,List.dropLast_eq_take,<- hl];exact rs.take _
  have dz:vs.length - 1<vs.length:=by lia
  exists ak (rO I m ha g (fun xs=>xs.eraseIdxIfInBounds (vs.toArray.size - 1)) (vs':=vs.dropLast) (by simp [Array.eraseIdxIfInBounds,dz,List.eraseIdx_eq_take_drop_succ,List.dropLast_eq_take,(show vs.length - 1+1=vs.length by lia)]) hd),I',S;exact P _ φ _ s.toks S I' (S.vr I ry)
theorem Zr(I:C.I φ H s.heap)(R:Rm A n)(m:(⟨k,false,.list l⟩:Ent)∈H.es)(ha:φ.f k=some a)(e:EL k l H=some (v,H'))
  (P:C.Po φ H s H' (fun a8 h' z=>C.R a8 H' h' v z) Q):C.wp A (call (.builtin "list.sort") [.ref a]) Q E s:=by
 exists fY e,l',hs,e
 ·injections e;exists aU (kQ I m ha),vs,c,g,rs;have el:=rs.length;exists ak (Ep hs),VQ,hv;refine wpAny_call_entry slot_list_sort ⟨_,g,rfl⟩ entry_list_sort ?_ (args_list_sort _);have fin:∀p,C.Rs φ H s.heap l' (kP vs p)->∀h' n',h'.get? a=some (seqObj "list" (kP vs p).toArray n')->(∀b ob,b≠a->s.heap.get? b=some ob->h'.get? b=some ob)->Q .none { s with heap:=h' }:=by
   intro p ro h' n' g' kp;exists ak (Cu I m ha g' kp ro),I',S;exact P _ φ h' s.toks S I' .none
  clear P hs;clear e;rcases hv with⟨h2,rfl⟩|⟨h2,kk,q,hk,hq,rfl⟩
  ·exact Ca (f:=fun _ _=>none) (p:=none) g (by lia) (.inl ⟨by exact lt_of_eq_of_lt (id (Eq.symm el)) h2,rfl⟩) (fun h1 e1 _ _ z=>by lia) fun h' n' g' kp=>⟨_,rfl,fin none rs h' n' g' kp⟩
  ·refine Ca (f:=iM l) (p:=some q) g (by lia) (.inr ⟨by exact le_of_le_of_eq h2 el,q,rfl,by rw[<- el];exact hq⟩) (fun h1 e1 kp g1 _=>?_) fun h' n' g' kp=>⟨_,rfl,fin (some q) (wZ rs q.toList) h' n' g' kp⟩;exists ak (Cu I m ha (l':=[]) (vs':=[]) g1 kp .nil),I1,S1;have hu:A.in1.units+100<cLine:=by have:=R.units;show A.units+1+100<cLine;lia
   exact EO (s:={ s with heap:=h1 }) I1 (S1.hU I rs) hk (Nat.zero_lt_of_lt h2) hu
theorem EX.PC(px:EX C φ H h l xs)(hd:dget l k=none):∀(j:Nat) (p:Addr×Value),xs[j]?≠some (k,p):=by
 intro j p e;have:=(px.get k).2 hd;have m:k∈xs.map (·.1):=cE.mpr ⟨_,ee e,rfl⟩;rw[<- z8,this]at m;exact bf m
set_option tactic.hygienic true in
theorem EB(I:C.I φ H s.heap)(R:Rm A n)(m:(⟨k,false,.dict l⟩:Ent)∈H.es)(ha:φ.f k=some a)(r:C.R φ H s.heap x y)
  (tu:(dv=none/\dx=[])\/∃w z,dv=some w/\dx=[z]/\C.R φ H s.heap w z) {v:V} {H':Hp} (e:oM dv k l x H=some (v,H'))
  (P:C.Po φ H s H' (fun a8 h' z=>C.R a8 H' h' v z) Q):C.wp A (call (.builtin "dict.pop") (.ref a::y::dx)) Q E s:=by
 unfold oM at e;split at e
 ·rename_i ky hk;have:=tC hk;clear hk;subst this;exists aD (pg r),ka,AS;subst AS;exists jQ (uG I m ha),es,c,g,re,nd,ns;exists ae (EX.dict g re nd),xs,px,D;have hT:s.TypeIs (.ref a) "dict":=⟨_,g,rfl⟩;have hx:=px.length;exists ak (guard_some e),jT,e;have hlen:es.length=l.length:=by clear e jT hx hT D px ns nd g r P tu ha m R I;clear e;obtain⟨ys,py,rfl⟩:=EX.of re;rw[aJ];exact py.length
  have room:C.knd.room A.in1:=uH R;have body:∀dflt:Option Value,(dv=none/\dflt=none\/∃w z,dv=some w/\dflt=some z/\C.R φ H s.heap w z)->
    C.wp A.in1 (do
     let empty <- if (keyPart (.ref ka)).isSome then pure false else do pure (<- dictEntries a).isEmpty
     let old <- if empty then (do rule "dict.pop.empty";pure none)else Builtin.Dict.takeOut a (.ref ka)
     if old.isNone then Builtin.Dict.missedRemoval a (.ref ka)
     match old,dflt with
     |some e,_=>letGo [e.key] [e.val];ret e.val
     |none,some x=>rule "dict.pop.default";ret x
     |none,none=>rule "dict.pop.keyerror";raiseNew (<- newExc (.type "KeyError") [.ref ka])) (fun fin s'=>∃r,fin = .done (.ret r)/\Q r s') E s:=by
   intro dflt yk;refine eF (by simp [keyPart]) ?_;refine a9 (wpAny_dictEntries g rfl (a9 (aw ?_)));have miss:∀tk,dget l ky=none->C.wp A.in1 (Builtin.Dict.missedRemoval a (.ref ka) >>= fun _=>match (none:Option DictEntry),dflt with
     |some e,_=>(do letGo [e.key] [e.val];ret e.val)
     |none,some x=>(do rule "dict.pop.default";ret x)
     |none,none=>(do rule "dict.pop.keyerror";raiseNew (<- newExc (.type "KeyError") [.ref ka]))) (fun fin s'=>∃r,fin = .done (.ret r)/\Q r s') E { s with toks:=tk }:=by
    intro tk hd;rw[hd]at e;refine a9 (wpAny_missedRemoval_other (s6 ns) ?_);clear hd room hlen jT hx hT D px ns nd re g r tu ha m R;rcases yk with⟨rfl,rfl⟩|⟨w,z,rfl,rfl,rw⟩
    ·exact nq e
    ·injections e;exact a9 (wpAny_rule (aw ⟨z,rfl,P.here I rw tk⟩))
   by_cases Ct:es=[]
   ·clear yk room e jT hx hT D px ns nd re g r P tu ha m R I;clear e;subst Ct;have hl:l=[]:=List.length_eq_zero_iff.mp (by simpa using hlen.symm);clear hlen;subst hl;dsimp only;refine g6 (by simp) ?_;refine a9 (a9 (wpAny_rule (aw ?_)));simp only[Option.isNone_none,if_true];exact miss s.toks rfl
   ·dsimp only;refine eF (by simpa using Ct) ?_;clear Ct yk hlen hT ns re g tu R;induction hd:dget l ky using aL with
    |none=>
     refine a9 (Ek room (kF r) D (fun _=>?_) (fun j p hj=>absurd hj (px.PC hd j p)) (by rw[hx];exact jN (dJ jT)));simp only[Option.isNone_none,if_true];exact miss _ hd
    |some v0=>
     rw[hd]at e;injections e;exists aU ((px.get ky).1 _ hd),a0,x0,h0,r0;refine a9 (Ek room (kF r) D (fun g4=>?_) (fun j p hj h' D' cg=>?_) (by rw[hx];exact jN (dJ jT)))
     ·exfalso;rw[atKey_none_of_get g4]at h0;exact nq h0
     ·have hp:=atKey_of_get (by rw[px.keys];exact nd) hj;rw[h0]at hp
      (clear h0 e hd miss room jT hx D r;injections hp)
      refine eF (by simp) ?_;exists aD (vP D'),c',g';have MA:EX C φ H s.heap (ddel l ky) (xs.eraseIdx j):=px.del (by rw[px.keys];exact nd) hj;obtain⟨I',S⟩:=C.upd I m ha (fun b ob hb e=>by rw[cg.2 b hb];exact e) (o':=.dict (ddel l ky)) ⟨_,c',g',MA.es,nd.sublist aaW⟩;exact a9 (wpAny_letGo (aw ⟨_,rfl,P _ φ h' _ S I' (S.vr I r0)⟩))
  clear room hlen e jT hx D px ns nd re g r P ha m R I;clear e;rcases tu with⟨rfl,rfl⟩|⟨w,z,rfl,rfl,rw⟩
  ·refine wpAny_call_entry PySem.F.slot_dict_pop hT PySem.F.entry_dict_pop ?_ (PySem.F.args_dict_pop_2 _ _);unfold Builtin.«dict.pop»;refine a9 ?_;unfold Builtin.Dict.keyAndDefault;refine a9 (wpAny_notOrdered_dict hT ?_);refine aw ?_;exact body none (.inl ⟨rfl,rfl⟩)
  ·refine wpAny_call_entry PySem.F.slot_dict_pop hT PySem.F.entry_dict_pop ?_ (PySem.F.args_dict_pop_3 _ _ _);unfold Builtin.«dict.pop»;refine a9 ?_;unfold Builtin.Dict.keyAndDefault;refine a9 (wpAny_notOrdered_dict hT ?_);refine aw ?_;exact body (some z) (.inr ⟨w,z,rfl,rfl,rw⟩)
 ·exact nq e
end
end
section
open PySem PySem.Calls PyProof.Rows PySem.W
noncomputable def gW:BI->Value
 |.len=>.builtin "len"
 |.sum=>.builtin "sum"
 |.max2=>.builtin "max"
 |.maxl=>.builtin "max"
 |.min2=>.builtin "min"
 |.abs=>.builtin "abs"
 |.any=>.builtin "any"
 |.sorted=>.builtin "sorted"
 |.tuple=>.type "tuple"
 |.dict=>.type "dict"
 |.int=>.type "int"
noncomputable def tU:eZ->String
 |.append=>"list.append"
 |.extend=>"list.extend"
 |.pop0=>"list.pop"
 |.jZ=>"list.pop"
 |.dpop1=>"dict.pop"
 |.dpopN=>"dict.pop"
 |.reverse=>"list.reverse"
 |.sort=>"list.sort"
noncomputable def oU:eZ->String
 |.dpop1=>"dict"
 |.dpopN=>"dict"
 |_=>"list"
section
variable {C:Cf} {φ:Ph} {H:Hp} {h h':Heap} {A:Around} {n:Nat} {E:Value->Shared->Prop} {s:Shared}
theorem Cf.bi(b:BI)(I:C.I φ H s.heap)(R:Rm A n)(rs:C.Rs φ H s.heap l vs)(e:cz b l H=some (v,H'))(P:C.Po φ H s H' (fun a8 h' z=>C.R a8 H' h' v z) Q) :
  C.wp A (call (gW b) vs) Q E s:=by
 induction b using Internal.BI.casesOn with
 |len=>obtain⟨a,rfl,e⟩:=iC e;obtain⟨x,rfl,r⟩:=fA rs;exact Sg I r e P
 |sum=>obtain⟨a,rfl,e⟩:=iC e;obtain⟨x,rfl,r⟩:=fA rs;exact YE I R r e P
 |maxl=>obtain⟨a,rfl,e⟩:=iC e;obtain⟨x,rfl,r⟩:=fA rs;exact Xd I R r e P
 |abs=>obtain⟨a,rfl,e⟩:=iC e;obtain⟨x,rfl,r⟩:=fA rs;exact V6 I r e P
 |any=>obtain⟨a,rfl,e⟩:=iC e;obtain⟨x,rfl,r⟩:=fA rs;exact KV I R r e P
 |sorted=>obtain⟨a,rfl,e⟩:=iC e;obtain⟨x,rfl,r⟩:=fA rs;exact OU I R r e P
 |tuple=>obtain⟨a,rfl,e⟩:=iC e;obtain⟨x,rfl,r⟩:=fA rs;exact Wl I r e P
 |dict=>obtain⟨a,rfl,e⟩:=iC e;obtain⟨x,rfl,r⟩:=fA rs;exact Ry I R r e P
 |int=>obtain⟨a,rfl,e⟩:=iC e;obtain⟨x,rfl,r⟩:=fA rs;exact ZU I r e P
 |max2=>obtain⟨a,b,rfl,e⟩:=y6 e;obtain⟨x,y,rfl,r,q⟩:=oL rs;exact Y2 I R r q e P
 |min2=>obtain⟨a,b,rfl,e⟩:=y6 e;obtain⟨x,y,rfl,r,q⟩:=oL rs;exact Y9 I R r q e P
theorem zW(e:qO f k o l H=some (v,H')):∃t,o = .list t/\l=[]/\f k t H=some (v,H'):=by
 unfold qO at e;split at e
 ·split at e
  ·exact⟨_,rfl,rfl,e⟩
  ·exact nq e
 ·exact nq e
theorem yX(e:t7 f k o l H=some (v,H')):∃t a,o = .list t/\l=[a]/\f k t a H=some (v,H'):=by
 unfold t7 at e;split at e
 ·exists ae (iC e),a,xm,e;clear e;subst xm;exact⟨_,a,rfl,rfl,e⟩
 ·exact nq e
theorem Yw(e:BA k o l H=some (v,H')):∃t a,o = .dict t/\l=[a]/\oM none k t a H=some (v,H'):=by
 unfold BA at e;split at e
 ·exists ae (iC e),a,Mh,e;clear e;subst Mh;exact⟨_,a,rfl,rfl,e⟩
 ·exact nq e
theorem OJ(e:yF k o l H=some (v,H')):∃t a d,o = .dict t/\l=[a,d]/\oM (some d) k t a H=some (v,H'):=by
 unfold yF at e;split at e
 ·exists aU (y6 e),a,d,qP,e;clear e;subst qP;exact⟨_,a,d,rfl,rfl,e⟩
 ·exact nq e
set_option tactic.hygienic true in
theorem YI(e:eC m o l H=some (v,H')):∃k ob,o = .ref k/\(⟨k,false,ob⟩:Ent)∈H.es/\Dx m k ob l H=some (v,H'):=by
 unfold eC at e;split at e
 ·exact nq e
 ·rename_i k ob ho;exists ak (rA ho),U4,m;clear ho;subst U4;exact⟨k,ob,rfl,m,e⟩
theorem Cf.cP(m:eZ)(I:C.I φ H s.heap)(R:Rm A n)(ro:C.R φ H s.heap o ov)(rs:C.Rs φ H s.heap l vs)(e:eC m o l H=some (v,H'))
  (P:C.Po φ H s H' (fun a8 h' z=>C.R a8 H' h' v z) Q):C.wp A (call (.builtin (tU m)) (ov::vs)) Q E s:=by
 obtain⟨k,ob,rfl,mm,e⟩:=YI e;obtain⟨a,rfl,ha⟩:=Cm ro;clear ro;induction m using Internal.eZ.casesOn with
 |append=>obtain⟨t,x,rfl,rfl,e⟩:=yX e;obtain⟨y,rfl,r⟩:=fA rs;exact Jt I mm ha r e P
 |extend=>obtain⟨t,x,rfl,rfl,e⟩:=yX e;obtain⟨y,rfl,r⟩:=fA rs;exact Og I mm ha r e P
 |pop0=>obtain⟨t,x,rfl,rfl,e⟩:=yX e;obtain⟨y,rfl,r⟩:=fA rs;exact SG I mm ha r e P
 |jZ=>obtain⟨t,rfl,rfl,e⟩:=zW e;cases rs;exact Qh I mm ha e P
 |reverse=>obtain⟨t,rfl,rfl,e⟩:=zW e;cases rs;exact YM I mm ha e P
 |sort=>obtain⟨t,rfl,rfl,e⟩:=zW e;cases rs;exact Zr I R mm ha e P
 |dpop1=>obtain⟨t,x,rfl,rfl,e⟩:=Yw e;obtain⟨y,rfl,r⟩:=fA rs;exact EB I R mm ha r (.inl ⟨rfl,rfl⟩) e P
 |dpopN=>obtain⟨t,x,d,rfl,rfl,e⟩:=OJ e;obtain⟨y,z,rfl,r,q⟩:=oL rs;exact EB I R mm ha r (.inr ⟨d,z,rfl,rfl,q⟩) e P
set_option tactic.hygienic true in
theorem Cf.TH(m:eZ)(I:C.I φ H s.heap)(ro:C.R φ H s.heap o ov)(e:fZ m (own H o)=true) :
  s.TypeIs ov (oU m)/\∀a,ov = .ref a->∃ob,s.heap.get? a=some ob/\ob.dict=none:=by
 unfold fZ at e;split at e
 ·rename_i p hp;obtain⟨k,ob⟩:=p;exists ak (rA hp),RG,mm;clear hp;subst RG;exists ae (Cm ro),a,zX,ha;clear ro;subst zX;dsimp only at e
  induction ob using Internal.bq.casesOn with
  |list l=>
   exists aU (kQ I mm ha),vs,c,g,Z0;have hm:oU m = "list":=by clear g mm ha I;induction m using Internal.eZ.casesOn <;> first|rfl|exact bf e
   rw[hm];exact⟨⟨_,g,rfl⟩,fun b hb=>by clear hm mm e ha I;cases hb;exact⟨_,g,rfl⟩⟩
  |dict l=>
   exists aU (uG I mm ha),vs,c,g,Z0;have hm:oU m = "dict":=by clear g mm ha I;induction m using Internal.eZ.casesOn <;> first|rfl|exact bf e
   rw[hm];exact⟨⟨_,g,rfl⟩,fun b hb=>by clear hm mm e ha I;cases hb;exact⟨_,g,rfl⟩⟩
 ·exact bf e
theorem set_list{l:Addr}{items:Array Value}{c:Nat}{t:Tok}{v:Value}{Q:Unit->Shared->Prop}{o:Obj}(ho:s.heap.get? l=some o)(hc:o.cls = .type "list")(hd:o.data = .seq items c){k:Int}(h0:0<=k)(hj:k<items.size)(g7:k<2 ^ 63)
  (hQ:Q () { s with heap:=s.heap.update l (Obj.mapSeq (·.setIfInBounds k.toNat v)) }):C.wp A (setItem (.ref l) (.int k t) v) Q E s:=by
 have hl:s.heap.IsList l items:=⟨o,ho,hc,c,hd⟩;unfold setItem
 try with_reducible refine dM ?_
 first|refine a9 (aw ?_)|skip
 refine a9 (wpAny_sequenceKey hl.typeIs dq ?_);refine a9 (wpAny_callSpecial?_slot (name:=Str.ofString "__setitem__") hl.typeIs PySem.slot_list_setitem
  (wpAny_call_entry PySem.slot_list_setitem hl.typeIs PySem.entry_list_setitem ?_ (PySem.args_list_setitem _ _ _)))
 show wpAny _ _ (Builtin.List.listSubscript? (.int k t) >>= _) _ _ s;refine a9 (wpAny_listSubscript_int (fitsIndex_of h0 g7) ?_);clear g7;exists aD (Int.eq_ofNat_of_zero_le h0),j,xH;clear hl h0 hc;subst xH;have hj:j<items.size:=by exact(fun{n m}=>Int.ofNat_lt.mp) hj
 have XN:items[j]?=some items[j]:=Array.getElem?_eq_getElem hj;show wpAny _ _ ((seqItemAt l j >>= fun r=>pure (r.map (j,·))) >>= _) _ _ s;refine a9 (a9 (wpAny_seqItemAt ho hd (aw ?_)));rw[XN];show wpAny _ _ (setSeqItemAt l j v >>= _) _ _ s;refine a9 (wpAny_setSeqItemAt ho hd ?_)
 first
  |exact a9 (aw (aw ⟨.none,rfl,aw hQ⟩))
  |exact aw ⟨.none,rfl,aw hQ⟩
theorem Sk(e:vY k l i v H=some H'):∃j:Nat,i = .int (Int.ofNat j)/\j<l.length/\lenOk l=true/\H'=setObj H k (.list (l.set j v)):=by
 unfold vY at e;split at e
 ·split at e
  ·exists ak (guard_some e),e1,e2;rw[cX]at e1
   (clear e;exists e2)
   exact⟨_,rfl,bC e1.1,e1.2,rfl⟩
  ·exact nq e
 ·exact nq e
set_option tactic.hygienic true in
theorem N5(e:iI H o i v=some H'):∃k ob,o = .ref k/\(⟨k,false,ob⟩:Ent)∈H.es/\storeO k ob i v H=some H':=by
 unfold iI at e;split at e
 ·exact nq e
 ·rename_i p hp;obtain⟨k,ob⟩:=p;exists ak (rA hp),M7,m;clear hp;subst M7;exact⟨k,ob,rfl,m,e⟩
theorem Cf.store(I:C.I φ H s.heap)(R:Rm A n){Q:Unit->Shared->Prop}{o i v:V}{x y z:Value}(ro:C.R φ H s.heap o x)(ri:C.R φ H s.heap i y)(rv:C.R φ H s.heap v z){H':Hp}(e:iI H o i v=some H')
  (P:C.Po φ H s H' (fun _ _ _=>True) Q):C.wp A (setItem x y z) Q E s:=by
 exists cx (N5 e),k,ob,A6,mm,e;subst A6;exists ae (Cm ro),a,xZ,ha;clear e ro;subst xZ
 induction ob using Internal.bq.casesOn with
 |list l=>
  exists dX (Sk (show vY k l i v H=some H' from e)),j,xv,hj,hlen,KW;clear e R;subst xv;subst KW;have hl:=dJ hlen;exists aU (kQ I mm ha),vs,c,g,rs;have el:=rs.length;exists aD (int_at ri),t,AD;clear ri hlen;subst AD;refine set_list (items:=vs.toArray) (c:=c) g rfl rfl (k:=(j:Int)) (Int.natCast_nonneg j) (by rw[dY];lia) (by lia) ?_;exists ak (rO I mm ha g (fun xs=>xs.setIfInBounds j z) (vs':=vs.set j z) (by simp) (rs.set j rv)),I',S;exact P _ φ _ s.toks S I' trivial
 |dict l=>
  have e:JI k l i v H=some H':=e;exists EH e,ky,hk,e
  ·exists ak (guard_some e),e1,e2
   (clear e;exists e2)
   have:=tC hk;clear e hk;subst this;exists aD (pg ri),ka,Br;subst Br;exists jQ (uG I mm ha),es,c,g,re,nd,ns;exists ae (EX.dict g re nd),xs,px,D;refine wpAny_setItem_heap (uH R) (kF ri) D (fun h' D' hs=>?_) (by rw[px.length];exact jN (dJ e1));exists aD (vP D'),c',g';clear D' D ns re g e1 R;obtain⟨I',S⟩:=C.upd I mm ha (fun b ob hb e=>by rw[hs.2 b hb];exact e) (o':=.dict (dset l ky v)) ⟨_,c',g',(px.set nd ri rv).es,z6 nd _ _⟩;exact P _ φ h' _ S I' trivial
end
end
section
open PySem PySem.Calls PyProof.Rows PySem.W
noncomputable abbrev DE:=ai->Hp->Option (V×Hp)
noncomputable def Cf.SL(C:Cf)(n:Nat)(c:Cx)(es:List PySem.Expr)(f:ai->Hp->Option (List V×Hp)):Prop:=∀A env ρ φ H s vs H' Q E,Rm A n->C.I φ H s.heap->ER C c ρ env φ H s.heap->f ρ H=some (vs,H')->
 C.Po φ H s H' (fun a8 h' x=>C.Rs a8 H' h' vs x) Q->∀pos,C.wp A (spliced (backTo pos (starEach es env))) Q E s
noncomputable def notStar:PySem.Expr->Bool
 |.Starred _ _=>false
 |_=>true
theorem yV(h:notStar e=true)(rest:List PySem.Expr)(env:Env):starEach (e::rest) env=(false,eval e env)::starEach rest env:=by induction e using Expr.casesOn <;> first|rfl|exact bf h
section
variable {C:Cf} {c:Cx} {n:Nat}
theorem Cf.I.To(I:C.I φ H h)(r:VR C.kh (fun _=>none) (fun _=>False) C.h₀ v x):C.R φ H h v x:=
 r.mono (fun _ _ e=>by exact nq e) (fun b o e _=>I.base b o e) fun b o q e=>by
  clear r;rcases q with⟨en,m,q⟩|q
  ·exists b7 (I.objs en m),a,h1,h2,Z0;rw[q]at h1;exists h1;rw[e]at h2;exact ns h2
  ·rw[(I.cC b q).1]at e;exact nq e
theorem se_none{k p}:C.SE n c (.Constant .none k p) (fun _ H=>some (.none,H)):=fun A env ρ φ H s v H' Q E R I X e P=>by
 (clear X R;injections e)
 exact wpAny_Constant_none (P.dT I .none)
theorem se_bool{b k p}:C.SE n c (.Constant (.bool b) k p) (fun _ H=>some (.bool b,H)):=fun A env ρ φ H s v H' Q E R I X e P=>by
 (clear X R;injections e)
 exact wpAny_Constant_bool (P.dT I (.bool b))
theorem se_int{i k p}:C.SE n c (.Constant (.int i) k p) (fun _ H=>some (.int i,H)):=fun A env ρ φ H s v H' Q E R I X e P=>by
 (clear X R;injections e)
 show C.wp A (mkInt i) Q E s;exact wpAny_mkInt (P.here I (.int i _) _)
theorem se_str{k p}:C.SE n c (.Constant (.str x) k p) (fun _ H=>some (.str x.cps.toList,H)):=fun A env ρ φ H s v H' Q E R I X e P=>by
 (clear X R;injections e)
 exact wpAny_Constant_str (P.here I (.str x _) _)
theorem aaL{c:Cx}(h:c.slot x=some i):(c.names.lookup x=some .local\/c.names.lookup x=some .cell\/c.names.lookup x=some .free)/\c.vm.lookup x=some i:=by
 unfold cG.slot at h;generalize c.names.lookup x=o at h ⊢
 induction o using aL with
 |none=>exact nq h
 |some k=>induction k using PySem.NameKind.casesOn with
  |«local»=>exact⟨.inl rfl,h⟩
  |cell=>exact⟨.inr (.inl rfl),h⟩
  |free=>exact⟨.inr (.inr rfl),h⟩
  |_=>exact nq h
theorem Fs(X:ER C c ρ env φ H s.heap)(hs:c.slot x=some i)(hv:cF ρ i=some v)(hq:∀y,C.R φ H s.heap v y->Q y s) :
  C.wp A (loadName env x) Q E s:=by
 exists ak (aaL hs),hk,hs;rcases hk with hk|hk|hk
 ·exists ae X.loc,m,hn,hm;exists ae (hm x i v hk hs hv),val,e1,r;exact wpAny_loadName_local X.kind (X.kinds x _ hk) hn e1 (hq _ r)
 ·exists gK (X.cell x i (.inl hk) hs),a,ov,e1,e2,Z0,Z0,e5;exists ae (e5 v hv),val,AV,r;clear e5 hs hv;subst AV;exact wpAny_loadName_cell X.kind (X.kinds x _ hk) e1 e2 (hq _ r)
 ·exists gK (X.cell x i (.inr hk) hs),a,ov,e1,e2,Z0,Z0,e5;exists ae (e5 v hv),val,CO,r;clear e5 hv;subst CO;have hx:(x == ("__classdict__" : Str))=false:=X.ok.plain x _ hs;clear hs;rcases X.kinds x _ hk with z|z
  ·exact wpAny_loadName_free X.kind z e1 e2 (hq _ r) hx
  ·exact wpAny_loadName_cell X.kind z e1 e2 (hq _ r)
theorem P7(hs:c.slot x=some i)(hd:(x == ("__debug__" : Str))=false):C.SE n c (.Name x p) (fun ρ H=>match cF ρ i with
 |some v=>some (v,H)
 |none=>none):=fun A env ρ φ H s v H' Q E R I X e P=>by
 dsimp only at e;exists k9 e,v',hv,e
 ·(clear R;injections e)
  exact wpAny_Name (Fs X hs hv fun y r=>P.dT I r) hd
theorem Tj(ha:C.SE n c a da)(hb:C.SE n c b db):C.SE n c (.BinOp a op b p) (fun ρ H=>ob (da ρ H) fun x H=>ob (db ρ H) fun y H=>binOp op x y H):=fun A env ρ φ H s v H' Q E R I X e P=>by
 exists aU (bV e),x,H₁,e1,e;exists aU (bV e),y,aE,e2,e;refine wpAny_BinOp (ha A env ρ φ H s x H₁ _ E R I X e1 fun vx ax ao b6 aA ah aR=>?_);exists hb A env ρ ax H₁ _ y aE _ E R ah (X.step aA I) e2,vy,bp,aV,dU,aP,aC,dq;exact C.binOp aC (aP.vr ah aR) dq e ((P.step aA I ah).step aP ah aC)
theorem se_neg(ha:C.SE n c a da):C.SE n c (.UnaryOp .USub a p) (fun ρ H=>ob (da ρ H) uD):=fun A env ρ φ H s v H' Q E R I X e P=>by
 exists aU (bV e),x,H₁,e1,e;refine wpAny_UnaryOp (ha A env ρ φ H s x H₁ _ E R I X e1 fun vx ax ao b6 aA ah aR=>?_);unfold uD at e;split at e
 ·injections e;exists aD (int_at aR),t,th;clear e aR e1 X R ha;subst th;exact neg_int ((P.step aA I ah).here ah (.int _ _) _)
 ·exact nq e
theorem Wq(ha:C.SE n c a da)(hb:C.SE n c b db)(hm:behindInMarks op b=false) :
  C.SE n c (.Compare a [op] [b] p) (fun ρ H=>ob (da ρ H) fun x H=>ob (db ρ H) fun y H=>retB (bu op x y H) H):=fun A env ρ φ H s v H' Q E R I X e P=>by
 exists aU (bV e),x,H₁,e1,e;exists aU (bV e),y,aE,e2,e;refine wpAny_Compare1 (ha A env ρ φ H s x H₁ _ E R I X e1 fun vx ax ao b6 aA ah aR=>?_) hm;exists hb A env ρ ax H₁ _ y aE _ E R ah (X.step aA I) e2,vy,bp,aV,dU,aP,aC,dq;exists sj e,b,dD,e
 ·(clear e2 e1 X hm hb ha;exists sp2 e,TM,Yb;clear e;clear e;subst TM;clear e;subst Yb)
  exact C.cmp op aC R (aP.vr ah aR) dq dD fun tk=>((P.step aA I ah).step aP ah aC).here aC (.bool b) tk
theorem aaV(ha:C.SE n c a da)(hb:C.SE n c b db)(hm:behindInMarks op b=false) :
  C.SB n c (.Compare a [op] [b] p) (fun ρ H=>ob (da ρ H) fun x H=>ob (db ρ H) fun y H=>retB (bu op x y H) H):=fun A env ρ φ H s v H' Q E R I X e P=>by
 exists aU (bV e),x,H₁,e1,e;exists aU (bV e),y,aE,e2,e;refine wpAny_isTrue_Compare1 (ha A env ρ φ H s x H₁ _ E R I X e1 fun vx ax ao b6 aA ah aR=>?_) hm;exists hb A env ρ ax H₁ _ y aE _ E R ah (X.step aA I) e2,vy,bp,aV,dU,aP,aC,dq;exists sj e,b,dD,e
 ·clear e2 e1 X hm hb ha;cases e;exact C.cmp op aC R (aP.vr ah aR) dq dD fun tk=>wpAny_truthy_bool (((P.step aA I ah).step aP ah aC).here aC rfl tk)
theorem F1(e:oA v H=some (v',H')):∃b,v = .bool b/\v' = .bool (!b)/\H'=H:=by
 induction v using V.casesOn with
 |bool b=>injections e;exact⟨_,rfl,rfl,rfl⟩
 |_=>exact nq e
theorem se_not(ha:C.SE n c a da):C.SE n c (.UnaryOp .Not a p) (fun ρ H=>ob (da ρ H) oA):=fun A env ρ φ H s v H' Q E R I X e P=>by
 exists aU (bV e),x,H₁,e1,e;exists b7 (F1 e),b,YO,LV,Yn;clear e;subst YO;subst LV;subst Yn;refine wpAny_UnaryOp (ha A env ρ φ H s _ _ _ E R I X e1 fun vx ax ao b6 aA ah aR=>?_);have:=tB aR;clear aR e1 X R ha;subst this;exact not_value (wpAny_truthy_bool ((P.step aA I ah).dT ah (.bool _)))
theorem sb_not(ha:C.SB n c a da):C.SB n c (.UnaryOp .Not a p) (fun ρ H=>ob (da ρ H) oA):=fun A env ρ φ H s v H' Q E R I X e P=>by
 exists aU (bV e),x,H₁,e1,e;exists b7 (F1 e),b,rp,hb,zq;clear e;subst rp;subst zq;cases hb;refine wpAny_isTrue_Not (ha A env ρ φ H s b _ _ E R I X e1 fun vx ax ao b6 aA ah aR=>?_);clear e1 X R ha;subst aR;exact(P.step aA I ah).dT ah rfl
theorem Hg{t a b:DE}{ρ:ai}{H:Hp}{v:V}{H':Hp}(e:(ob (t ρ H) fun v H=>match v with
 |.bool c=>match c with
  |true=>a ρ H
  |false=>b ρ H
 |_=>none)=some (v,H')):∃c H₁,t ρ H=some (.bool c,H₁)/\(if c then a ρ H₁ else b ρ H₁)=some (v,H'):=by
 exists aU (bV e),x,H₁,e1,e
 induction x using Internal.V.casesOn with
 |bool c=>induction c using aB <;> exact⟨_,H₁,e1,e⟩
 |_=>exact nq e
theorem RC{t a b:PySem.Expr}{p:Pos}{dt da db:DE}(ht:C.SB n c t dt)(ha:C.SE n c a da)(hb:C.SE n c b db):C.SE n c (.IfExp t a b p) (fun ρ H=>ob (dt ρ H) fun v H=>match v with
 |.bool c=>match c with
  |true=>da ρ H
  |false=>db ρ H
 |_=>none):=fun A env ρ φ H s v H' Q E R I X e P=>by
 exists aU (Hg e),d,H₁,e1,e;refine wpAny_IfExp (ht A env ρ φ H s d H₁ _ E R I X e1 fun vx ax ao b6 aA ah aR=>?_);clear e1 ht;subst aR
 induction vx using aB with
 |true=>exact ha A env ρ ax H₁ _ v H' Q E R ah (X.step aA I) e (P.step aA I ah)
 |false=>exact hb A env ρ ax H₁ _ v H' Q E R ah (X.step aA I) e (P.step aA I ah)
theorem Nr{t a b:PySem.Expr}{p:Pos}{dt da db:DE}(ht:C.SB n c t dt)(ha:C.SB n c a da)(hb:C.SB n c b db):C.SB n c (.IfExp t a b p) (fun ρ H=>ob (dt ρ H) fun v H=>match v with
 |.bool c=>match c with
  |true=>da ρ H
  |false=>db ρ H
 |_=>none):=fun A env ρ φ H s v H' Q E R I X e P=>by
 exists aU (Hg e),d,H₁,e1,e;rw[arm_isTrue_IfExp];refine a9 (ht A env ρ φ H s d H₁ _ E R I X e1 fun vx ax ao b6 aA ah aR=>?_);clear e1 ht;subst aR
 induction vx using aB with
 |true=>exact ha A env ρ ax H₁ _ v H' Q E R ah (X.step aA I) e (P.step aA I ah)
 |false=>exact hb A env ρ ax H₁ _ v H' Q E R ah (X.step aA I) e (P.step aA I ah)
noncomputable def wi:PySem.Expr->Bool
 |.UnaryOp .Not _ _=>false
 |.BoolOp _ _ _=>false
 |.IfExp _ _ _ _=>false
 |.Compare _ _ _ _=>false
 |_=>true
theorem plainB_eq(h:wi e=true)(env:Env)(whole:Sem Value):isTrue e env whole=(do let v <- whole;standAt e.pos;holding [v] (truthy v)):=by
 induction e using Expr.casesOn with
 |UnaryOp op x p=>induction op using PySem.UnaryOp.casesOn <;> first|rfl|exact bf h
 |BoolOp=>exact bf h
 |IfExp=>exact bf h
 |Compare=>exact bf h
 |_=>rfl
theorem ZD(h:wi e=true)(he:C.SE n c e d):C.SB n c e d:=fun A env ρ φ H s v H' Q E R I X e' P=>by
 refine wpAny_isTrue_value (he A env ρ φ H s _ _ _ E R I X e' fun vx ax ao b6 aA ah aR=>?_) (plainB_eq h env _);have:=tB aR;clear aR e' X R he h;subst this;exact wpAny_truthy_bool ((P.step aA I ah).dT ah rfl)
end
end
section
set_option backward.match.sparseCases true
open PySem PySem.Calls PyProof.Rows PySem.W
inductive bY {α β:Type} (R:α->β->Prop):List α->List β->Prop
 |nil:bY R [] []
 |cons {a:α} {b:β} {l:List α} {m:List β}:R a b->bY R l m->bY R (a::l) (b::m)
theorem bY.length_eq{α β:Type}{R:α->β->Prop}{l:List α}{m:List β}(h:bY R l m):l.length=m.length:=by
 induction h with
 |nil=>rfl
 |cons _ _ ih=>simp [ih]
section
variable {C:Cf} {c:Cx} {n:Nat}
theorem se_and(p:Pos)(es:List PySem.Expr)(ms:List ME)(h:bY (fun e m=>C.SE n c e (dn m)) es ms):C.SE n c (.BoolOp .And es p) (fun ρ H=>iT dn ρ ms H):=by
 induction h with
 |nil=>exact fun A env ρ φ H s v H' Q E R I X e P=>nq e
 |@cons e m es ms h1 h2 ih=>
   intro A env ρ φ H s v H' Q E R I X e' P;have e':cK (dn m ρ H) (fun b H=>match ms with
    |[]=>some (V.bool b,H)
    |_::_=>match b with
     |true=>iT dn ρ ms H
     |false=>some (V.bool false,H))=some (v,H'):=e'
   exists aU (nC e'),b,H₁,e1,e2;clear e';cases h2 with
   |nil=>
    (clear e';injections e2)
    exact h1 A env ρ φ H s _ _ Q E R I X e1 P
   |@cons yx m₂ es ms h3 h4=>
    show C.wp A (do
     let v <- eval e env
     standAt p
     let t <- holding [v] (truthy v)
     match BoolOp.And,t with
     |.And,false|.Or,true=>pure v
     |_,_=>boolOp p .And (evalEach (yx::es) env)) Q E s
    refine a9 (h1 A env ρ φ H s _ _ _ E R I X e1 fun vx ax ao b6 aA ah aR=>a9 (fR ?_));have:=tB aR;clear aR e' h4 h3 e1 h1;subst this;refine a9 (dM (wpAny_truthy_bool ?_))
    induction b using aB with
    |false=>
     injections e2;exact aw ((P.step aA I ah).dT ah (.bool false))
    |true=>exact ih A env ρ ax H₁ _ v H' Q E R ah (X.step aA I) e2 (P.step aA I ah)
theorem se_or(p:Pos)(es:List PySem.Expr)(ms:List ME)(h:bY (fun e m=>C.SE n c e (dn m)) es ms):C.SE n c (.BoolOp .Or es p) (fun ρ H=>iS dn ρ ms H):=by
 induction h with
 |nil=>exact fun A env ρ φ H s v H' Q E R I X e P=>nq e
 |@cons e m es ms h1 h2 ih=>
   intro A env ρ φ H s v H' Q E R I X e' P;have e':cK (dn m ρ H) (fun b H=>match ms with
    |[]=>some (V.bool b,H)
    |_::_=>match b with
     |false=>iS dn ρ ms H
     |true=>some (V.bool true,H))=some (v,H'):=e'
   exists aU (nC e'),b,H₁,e1,e2;clear e';cases h2 with
   |nil=>
    (clear e';injections e2)
    exact h1 A env ρ φ H s _ _ Q E R I X e1 P
   |@cons yx m₂ es ms h3 h4=>
    show C.wp A (do
     let v <- eval e env
     standAt p
     let t <- holding [v] (truthy v)
     match BoolOp.Or,t with
     |.And,false|.Or,true=>pure v
     |_,_=>boolOp p .Or (evalEach (yx::es) env)) Q E s
    refine a9 (h1 A env ρ φ H s _ _ _ E R I X e1 fun vx ax ao b6 aA ah aR=>a9 (fR ?_));have:=tB aR;clear aR e' h4 h3 e1 h1;subst this;refine a9 (dM (wpAny_truthy_bool ?_))
    induction b using aB with
    |true=>
     injections e2;exact aw ((P.step aA I ah).dT ah (.bool true))
    |false=>exact ih A env ρ ax H₁ _ v H' Q E R ah (X.step aA I) e2 (P.step aA I ah)
theorem ZY(es:List PySem.Expr)(ms:List ME)(h:bY (fun e m=>C.SB n c e (dn m)) es ms):∀A env ρ φ H s b H' Q E,Rm A n->C.I φ H s.heap->ER C c ρ env φ H s.heap->(es≠[])->iT dn ρ ms H=some (.bool b,H')->
 C.Po φ H s H' (fun _ _ x=>x=b) Q->C.wp A (allTrue .And es env) Q E s:=by
 induction h with
 |nil=>exact fun _ _ _ _ _ _ _ _ _ _ _ _ _ h0 _ _=>absurd rfl h0
 |@cons e m es ms h1 h2 ih=>
   intro A env ρ φ H s b H' Q E R I X _ e' P;have e':cK (dn m ρ H) (fun b H=>match ms with
    |[]=>some (V.bool b,H)
    |_::_=>match b with
     |true=>iT dn ρ ms H
     |false=>some (V.bool false,H))=some (V.bool b,H'):=e'
   exists aU (nC e'),d,H₁,e1,e2;refine wpAny_allTrue_And_cons (h1 A env ρ φ H s _ _ _ E R I X e1 fun vx ax ao b6 aA ah aR=>?_);clear e1 e' h1;clear e';subst aR;have dk:=P.step (tk₁:=b6) aA I ah;clear P;cases h2 with
   |nil=>
    cases e2
    induction b using aB with
    |true=>exact wpAny_allTrue_And_nil (dk.dT ah rfl)
    |false=>exact dk.dT ah rfl
   |cons h3 h4=>
    induction vx using aB with
    |true=>exact ih A env ρ ax H₁ _ b H' Q E R ah (X.step aA I) (by simp) e2 dk
    |false=>cases e2;exact dk.dT ah rfl
theorem Mi(es:List PySem.Expr)(ms:List ME)(h:bY (fun e m=>C.SB n c e (dn m)) es ms):∀A env ρ φ H s b H' Q E,Rm A n->C.I φ H s.heap->ER C c ρ env φ H s.heap->(es≠[])->iS dn ρ ms H=some (.bool b,H')->
 C.Po φ H s H' (fun _ _ x=>x=b) Q->C.wp A (allTrue .Or es env) Q E s:=by
 induction h with
 |nil=>exact fun _ _ _ _ _ _ _ _ _ _ _ _ _ h0 _ _=>absurd rfl h0
 |@cons e m es ms h1 h2 ih=>
   intro A env ρ φ H s b H' Q E R I X _ e' P;have e':cK (dn m ρ H) (fun b H=>match ms with
    |[]=>some (V.bool b,H)
    |_::_=>match b with
     |false=>iS dn ρ ms H
     |true=>some (V.bool true,H))=some (V.bool b,H'):=e'
   exists aU (nC e'),d,H₁,e1,e2;refine wpAny_allTrue_Or_cons (h1 A env ρ φ H s _ _ _ E R I X e1 fun vx ax ao b6 aA ah aR=>?_);clear e1 e' h1;clear e';subst aR;have dk:=P.step (tk₁:=b6) aA I ah;clear P;cases h2 with
   |nil=>
    cases e2
    induction b using aB with
    |false=>exact wpAny_allTrue_Or_nil (dk.dT ah rfl)
    |true=>exact dk.dT ah rfl
   |cons h3 h4=>
    induction vx using aB with
    |false=>exact ih A env ρ ax H₁ _ b H' Q E R ah (X.step aA I) (by simp) e2 dk
    |true=>cases e2;exact dk.dT ah rfl
theorem sb_and(p:Pos)(h:bY (fun e m=>C.SB n c e (dn m)) es ms):C.SB n c (.BoolOp .And es p) (fun ρ H=>iT dn ρ ms H):=fun A env ρ φ H s b H' Q E R I X e P=>by
 refine wpAny_isTrue_BoolOp (ZY es ms h A env ρ φ H s b H' Q E R I X (fun z=>?_) e P);clear P X I R;subst z;cases h;exact nq e
theorem sb_or(p:Pos)(h:bY (fun e m=>C.SB n c e (dn m)) es ms):C.SB n c (.BoolOp .Or es p) (fun ρ H=>iS dn ρ ms H):=fun A env ρ φ H s b H' Q E R I X e P=>by
 refine wpAny_isTrue_BoolOp (Mi es ms h A env ρ φ H s b H' Q E R I X (fun z=>?_) e P);clear P X I R;subst z;cases h;exact nq e
theorem q6(es:List PySem.Expr)(ms:List ME)(h:bY (fun e m=>notStar e=true/\C.SE n c e (dn m)) es ms):C.SL n c es (fun ρ H=>denL dn ρ ms H):=by
 induction h with
 |nil=>
  intro A env ρ φ H s vs H' Q E R I X e P pos;clear X R;cases e;exact wpAny_items_nil (P.dT I .nil)
 |@cons e m es ms h1 h2 ih=>
   intro A env ρ φ H s vs H' Q E R I X e' P pos;have e':(ob (dn m ρ H) fun v H=>ob (denL dn ρ ms H) fun vs H=>some (v::vs,H))=some (vs,H'):=e';exists aU (bV e'),v,H₁,e1,e2;exists aU (bV e2),vs',aE,e2,e3;clear e';clear e' h2;cases e3;refine wpAny_items_cons (h1.2 A env ρ φ H s v H₁ _ E R I X e1 fun vx ax ao b6 aA ah aR=>?_) (yV h1.1 es env);refine ih A env ρ ax H₁ _ vs' H' _ E R ah (X.step aA I) e2 (fun xs bp aV dU aP aC dq=>?_) pos;exact((P.step aA I ah).step aP ah aC).dT aC (.cons (aP.vr ah aR) dq)
theorem yr{dn:DN}{pos:Pos}{env:Env}{es:List PySem.Expr}{ms:List ME}(h:bY (fun e m=>notStar e=true/\C.SE n c e (dn m)) es ms):(backTo pos (starEach es env)).any (·.1)=false/\(backTo pos (starEach es env)).length=es.length:=by
 induction h with
 |nil=>exact⟨rfl,rfl⟩
 |@cons e m es ms h1 h2 ih=>
  rw[yV h1.1 es env];refine⟨?_,?_⟩
  ·show(false ||(backTo pos (starEach es env)).any (·.1))=false
   rw[ih.1];rfl
  ·show((backTo pos (starEach es env)).length+1)=es.length+1;rw[ih.2]
theorem qu{M:Model}{A:Around}{f:Value}{env:Env}{pos:Pos}{dn:DN}{es:List PySem.Expr}{ms:List ME}{Q:Args->Shared->Prop}{E:Value->Shared->Prop}{s:Shared}(h:bY (fun e m=>notStar e=true/\C.SE n c e (dn m)) es ms)
  (hw:wpAny M A (spliced (backTo pos (starEach es env))) (fun vs s'=>Q ⟨vs,[]⟩ s') E s):wpAny M A (evalArgs f true (backTo pos (starEach es env)) []) Q E s:=by
 cases h with
 |nil=>
  unfold evalArgs;show wpAny M A (spliced [] >>= _) Q E s;refine a9 (cq hw (fun vs s₁ hq=>?_) fun _ _ x=>x);refine a9 (aw ?_);refine dM ?_;exact a9 (aw (a9 (aw (aw hq))))
 |@cons e m es ms h1 h2=>
  rw[yV h1.1 es env]at hw ⊢;exact Calls.evalArgs_plain hw
theorem zE:∀{H:Hp} {vs:List V} {H':Hp},denL dn ρ ms H=some (vs,H')->vs.length=ms.length:=by
 induction ms with
 |nil=>
  intro _ _ _ e;cases e;rfl
 |cons m ms ih=>
  intro H vs H' e;have e:(ob (dn m ρ H) fun v H=>ob (denL dn ρ ms H) fun vs H=>some (v::vs,H))=some (vs,H'):=e;exists aU (bV e),v,H₁,e1,e2;exists aU (bV e2),vs',aE,e2,e3;clear e1 e;clear e;cases e3;simp [ih e2]
theorem Q9(hl:es.length<=100)(h:bY (fun e m=>notStar e=true/\C.SE n c e (dn m)) es ms):C.SE n c (.Tuple es k p) (fun ρ H=>ob (denL dn ρ ms H) fun vs H=>some (.tup vs,H)):=fun A env ρ φ H s v H' Q E R I X e P=>by
 exists aU (bV e),vs,H₁,e1,e2;clear e;cases e2;refine wpAny_Tuple (q6 es ms h A env ρ φ H s vs H' _ E R I X e1 (fun xs ax ao b6 aA ah aR=>⟨?_,?_⟩) p)
 ·have:=zE e1;have:=aR.length;have:=h.length_eq;rw[sizeLine_eq];lia
 ·clear e1 X R h hl;obtain⟨I',S,r⟩:=C.pQ ah (cV ao _) (cA _) (Heap.get?_push_size _ rfl) aR;exact(P.step aA I ah) _ ax _ _ S I' r
theorem LY(hl:es.length<=100)(h:bY (fun e m=>notStar e=true/\C.SE n c e (dn m)) es ms):C.SE n c (.List es p) (fun ρ H=>ob (denL dn ρ ms H) fun vs H=>some (newObj H (.list vs))):=fun A env ρ φ H s v H' Q E R I X e P=>by
 exists aU (bV e),vs,H₁,e1,e2
 (clear e;injections e2)
 refine wpAny_List (q6 es ms h A env ρ φ H s vs H₁ _ E R I X e1 (fun xs ax ao b6 aA ah aR=>⟨?_,?_⟩) p)
 ·have:=zE e1;have:=aR.length;have:=h.length_eq;rw[sizeLine_eq];lia
 ·clear e1 X R h hl;obtain⟨I',S,r⟩:=C.fresh ah (cV ao _) (cA _) (o:=.list vs) ⟨_,_,Heap.get?_push_size _ rfl,aR⟩;exact(P.step aA I ah) _ _ _ _ S I' r
theorem VL:C.SE n c (.Dict [] [] p) (fun _ H=>some (newObj H (.dict []))):=fun A env ρ φ H s v H' Q E R I X e P=>by
 (clear X R;injections e)
 refine wpAny_Dict_empty ?_;refine dK (C.fresh I (cV s.heap _) (cA _) (o:=.dict []) ⟨[],0,Heap.get?_push_size _ rfl,.nil,by simp⟩) fun I' S r=>?_;exact P _ _ _ s.toks S I' r
theorem Vu(hi:∀a b c p,i ≠ .Slice a b c p)(x y:Value):subscripted i false x y=operate [x,y] (getItem x y):=by
 induction i using Expr.casesOn with
 |Slice a b c p=>exact absurd rfl (hi a b c p)
 |_=>rfl
theorem NI(ha:C.SE n c a da)(hi:C.SE n c i di)(hs:∀a b c p,i ≠ .Slice a b c p):C.SE n c (.Subscript a i p) (fun ρ H=>ob (da ρ H) fun x H=>ob (di ρ H) fun y H=>tw (subs H x y) H):=fun A env ρ φ H s v H' Q E R I X e P=>by
 exists aU (bV e),x,H₁,e1,e;exists aU (bV e),y,aE,e2,e;refine Subscript_ (ha A env ρ φ H s x H₁ _ E R I X e1 fun vx ax ao b6 aA ah aR=>?_);exists hi A env ρ ax H₁ _ y aE _ E R ah (X.step aA I) e2,vy,bp,aV,dU,aP,aC,dq;exists k9 e,z,hz,e
 ·(clear e2 e1 X hi ha;exists sp2 e,Rg,O0;clear e;clear e;subst Rg;clear e;subst O0)
  exact C.sub aC R (aP.vr ah aR) dq hz (Vu hs _ _) fun w tk rw=>((P.step aA I ah).step aP ah aC).here aC rw tk
theorem xx(I:C.I φ H s.heap)(r:C.R φ H s.heap x y)(hx:(∃l,x = .tup l)\/∃l,listView H x=some l)(hg:C.wp A (getItem y z) Q E s)(hs:subscripted sl false y z=operate ops (getItem y z)) :
  C.wp A (subscriptTail va sl y z) Q E s:=by
 rcases hx with⟨l,rfl⟩|⟨l,hl⟩
 ·exists dE (gq r),a,vs,m,zq,g,Z0;clear r I;subst zq;exact tail_any (T:="tuple") ⟨_,g,rfl⟩ PyProof.Rows.slot_tuple_getitem.lookup hg hs
 ·exists dE (gj I r hl),a,vs,m,sR,g,Z0;clear hl r I;subst sR;exact tail_any (T:="list") ⟨_,g,rfl⟩ PySem.slot_list_getitem.lookup hg hs
theorem Kw(e:gN up x k H=some (v,H')):(∃l,x = .tup l)\/∃l,listView H x=some l:=by
 induction x using Internal.V.casesOn with
 |tup l=>exact .inl ⟨l,rfl⟩
 |lst l=>exact .inr ⟨l,rfl⟩
 |ref m=>
  unfold gN at e;dsimp only at e
  induction hl:listView H (.ref m)using aL with
  |none=>rw[hl]at e;exact nq e
  |some l=>exact .inr ⟨l,rfl⟩
 |_=>exact nq e
theorem G8(e:j6 up x (nat? y) H=some (v,H')):∃k:Nat,y = .int (k:Int)/\gN up x k H=some (v,H'):=by
 exists XZ e,k,hk,e
 ·induction y using V.casesOn with
  |int j=>induction j using kC with
   |ofNat j=>
    exists cm hk,Z0,hk
    ·(clear e;exists hk);exact⟨_,rfl,e⟩
   |negSucc=>exact nq hk
  |_=>exact nq hk
theorem Va(ha:C.SE n c a da)(hb:C.SE n c b db):C.SE n c (.Subscript a (.Slice none (some b) none p') p) (fun ρ H=>ob (da ρ H) fun x H=>ob (db ρ H) fun y H=>j6 true x (nat? y) H):=fun A env ρ φ H s v H' Q E R I X e P=>by
 exists aU (bV e),x,H₁,e1,e;exists aU (bV e),y,aE,e2,e;exists ae (G8 e),k,RV,e3;clear e;clear e;subst RV;refine Subscript_ (ha A env ρ φ H s x H₁ _ E R I X e1 fun vx ax ao b6 aA ah aR=>?_);refine wpAny_Slice ?_;rw[evalPart_none,evalPart_some];refine aw (hb A env ρ ax H₁ _ _ aE _ E R ah (X.step aA I) e2 fun vy bp aV dU aP aC dq=>?_);refine aw ?_;exists aD (int_at dq),u,Mc;clear dq e2 e1 X R hb ha;clear e;subst Mc;refine ak (C.grow aC (cV aV { cls:=.type "slice",data:=.fields #[.none,.int k u,.none] })) fun cL d7=>?_;have gY:=d7.vr aC (aP.vr ah aR);refine xx cL gY (Kw e3) ?_ rfl;exact C.gN cL gY (Heap.IsSliceOf.new ..) e3 (((P.step aA I ah).step aP ah aC).step d7 aC cL)
theorem Rh(ha:C.SE n c a da)(hb:C.SE n c b db):C.SE n c (.Subscript a (.Slice (some b) none none p') p) (fun ρ H=>ob (da ρ H) fun x H=>ob (db ρ H) fun y H=>j6 false x (nat? y) H):=fun A env ρ φ H s v H' Q E R I X e P=>by
 exists aU (bV e),x,H₁,e1,e;exists aU (bV e),y,aE,e2,e;exists ae (G8 e),k,TU,e3;clear e;clear e;subst TU;refine Subscript_ (ha A env ρ φ H s x H₁ _ E R I X e1 fun vx ax ao b6 aA ah aR=>?_);refine wpAny_Slice ?_;rw[evalPart_none,evalPart_some];exists hb A env ρ ax H₁ _ _ aE _ E R ah (X.step aA I) e2,vy,bp,aV,dU,aP,aC,dq;refine aw (aw ?_);exists aD (int_at dq),u,aax;clear dq e2 e1 X R hb ha;clear e;subst aax;refine ak (C.grow aC (cV aV { cls:=.type "slice",data:=.fields #[.int k u,.none,.none] })) fun cL d7=>?_;have gY:=d7.vr aC (aP.vr ah aR);refine xx cL gY (Kw e3) ?_ rfl;exact C.gN cL gY (Heap.IsSliceOf.new ..) e3 (((P.step aA I ah).step aP ah aC).step d7 aC cL)
theorem XM(ha:C.SE n c a da):C.SE n c (.Subscript a (.Slice none none (some (.UnaryOp .USub (.Constant (.int 1) k p1) p2)) p') p) (fun ρ H=>ob (da ρ H) sW):=fun A env ρ φ H s v H' Q E R I X e P=>by
 exists aU (bV e),x,H₁,e1,e;exists dX (aai e),l,WN,BG,Zp,hl;clear e;clear e;subst WN;subst BG;subst Zp;refine Subscript_ (ha A env ρ φ H s _ _ _ E R I X e1 fun vx ax ao b6 aA ah aR=>?_);refine wpAny_Slice ?_;rw[evalPart_none,evalPart_some];refine aw (aw (wpAny_UnaryOp ?_));show C.wp A (mkInt 1) _ E _;refine wpAny_mkInt (neg_int ?_);refine ak (C.grow ah (cV ao { cls:=.type "slice",data:=.fields #[.none,.none,.int (-1) (b6+1)] })) fun cL d7=>?_;have gY:=d7.vr ah aR;refine xx cL gY (.inl ⟨l,rfl⟩) ?_ rfl;exact Xq cL gY (Heap.IsSliceOf.new ..) hl ((P.step aA I ah).step d7 ah cL)
end
end
section
open PySem PySem.Calls PyProof.Rows PySem.W
noncomputable def sz:IK->Value
 |.enum=>.type "enumerate"
 |.zip=>.type "zip"
 |_=>.type "range"
structure Gl (C:Cf) (gl:List (Str×GI)) (K:Nat):Prop where
 env:∃mg mb,C.h₀.Ns mainGlobals mg/\C.h₀.Ns builtinsNs mb/\
  (∀x v,gl.lookup x=some (.val v)->∃y,mg x=some y/\VR C.kh (fun _=>none) (fun _=>False) C.h₀ v y)/\
  (∀x g,gl.lookup x=some (.fn g)->∃a o fd,mg x=some (.ref a)/\C.h₀.get? a=some o/\o.data = .func fd/\C.fz K g a)/\
  (∀x b,gl.lookup x=some (.bi b)->mg x=none/\mb x=some (gW b))/\
  (∀x k,gl.lookup x=some (.it k)->mg x=none/\mb x=some (sz k))
 plain:∀x g,gl.lookup x=some g->(x == ("__debug__" : Str))=false
theorem type_list_append:typeOf (.builtin "list.append")=pure (.type "method_descriptor"):=PySem.F.type_list_append
structure vD (name:Str) (k:eZ):Prop where
 pa:PlainAttrs (oU k)
 slot:Slot (oU k) name (tU k)
 ty:typeOf (.builtin (tU k))=pure (.type "method_descriptor")
theorem t8{A:Type}{b:Bool}{x y:Option A}{z:A}{P:Prop}(h:q0 b x y=some z)(k1:b=true->x=some z->P)(k2:y=some z->P):P:=by
 induction b using aB with
 |true=>exact k1 rfl h
 |false=>exact k2 h
theorem Lj(h:Gj as=some k):vD (Str.ofString "pop") k:=by
 induction as using aN with
 |nil=>cases aI h;exact⟨PySem.F.plainAttrs_list,PySem.F.slot_list_pop,PySem.F.type_list_pop⟩
 |cons a r=>
  induction r using aN with
  |nil=>
   have h:some (pickM (isZ0 a) .pop0 .dpop1)=some k:=h;cases aI h
   induction isZ0 a using aB with
   |true=>exact⟨PySem.F.plainAttrs_list,PySem.F.slot_list_pop,PySem.F.type_list_pop⟩
   |false=>exact⟨PySem.F.plainAttrs_dict,PySem.F.slot_dict_pop,PySem.F.type_dict_pop⟩
  |cons b r=>cases aI (guard_some h).2;exact⟨PySem.F.plainAttrs_dict,PySem.F.slot_dict_pop,PySem.F.type_dict_pop⟩
theorem mf(e:decide (name=n')=true)(h:guard' b (some k')=some k)(F:vD n' k'):vD name k:=of_decide_eq_true e▸aI (guard_some h).2▸F
theorem Vl(h:yy name m as=some k):vD name k:=
 t8 h (fun e h=>mf e h ⟨PySem.F.plainAttrs_list,PySem.F.slot_list_append,PySem.F.type_list_append⟩) fun h=>
 t8 h (fun e h=>mf e h ⟨PySem.F.plainAttrs_list,PySem.F.slot_list_extend,PySem.F.type_list_extend⟩) fun h=>
 t8 h (fun e h=>of_decide_eq_true e▸Lj h) fun h=>
 t8 h (fun e h=>mf e h ⟨PySem.F.plainAttrs_list,PySem.F.slot_list_reverse,PySem.F.type_list_reverse⟩) fun h=>
 t8 h (fun e h=>mf e h ⟨PySem.F.plainAttrs_list,PySem.F.slot_list_sort,PySem.F.type_list_sort⟩) fun h=>nq h
section
variable {C:Cf} {c:Cx} {n K:Nat}
theorem jS(h:c.glob x=some g):c.names.lookup x=some .globalImplicit/\c.gl.lookup x=some g:=by
 unfold cG.glob at h;generalize c.names.lookup x=o at h ⊢
 induction o using aL with
 |none=>exact nq h
 |some k=>induction k using PySem.NameKind.casesOn with
  |globalImplicit=>exact⟨rfl,h⟩
  |_=>exact nq h
theorem vj(X:ER C c ρ env φ H s.heap)(hg:c.glob x=some g)(hd:(x == ("__debug__" : Str))=false)
  (h:C.wp A (loadGlobal env x) Q E s):C.wp A (eval (.Name x p) env) Q E s:=
 Name_function_global X.kind (X.kinds x _ (jS hg).1) h hd
theorem NK(G:Gl C c.gl K)(hg:c.glob x=some (.val v)):C.SE n c (.Name x p) (fun _ H=>some (v,H)):=fun A env ρ φ H s v' H' Q E R I X e P=>by
 (clear R;injections e)
 exists sI G.env,mg,mb,h1,h2,h3,h4,h5,h6;exists ae (h3 x v (jS hg).2),y,hy,r;refine vj X hg (G.plain x _ (jS hg).2) (loadGlobal_global (mg:=mg) ?_ hy (P.dT I (Cf.I.To I r)));rw[X.glob];exact ip h1 fun o e=>I.base _ _ e
theorem Qu(G:Gl C c.gl K)(hg:c.glob f=some (.fn g))(hn:K<=n)(h:bY (fun e m=>notStar e=true/\C.SE n c e (dn m)) es ms) :
  C.SE n c (.Call (.Name f p) es [] pos) (fun ρ H=>ob (denL dn ρ ms H) g):=fun A env ρ φ H s v H' Q E R I X e P=>by
 exists aU (bV e),vs,H₁,e1,e2;exists sI G.env,mg,mb,h1,h2,h3,h4,h5,h6;exists fH (h4 f g (jS hg).2),a,o,fd,hy,ho,hd,hc;refine Call_Name rfl (vj X hg (G.plain f _ (jS hg).2) (loadGlobal_global (mg:=mg) ?_ hy ?_))
 ·rw[X.glob];exact ip h1 fun o e=>I.base _ _ e
 ·refine callWith_function (o:=o) (fd:=fd) (qu h ?_);refine q6 es ms h A env ρ φ H s vs H₁ _ E R I X e1 (fun xs ax ao b6 aA ah aR=>⟨⟨ah.base _ _ ho,hd⟩,?_⟩) pos;exact hc A ax H₁ _ vs xs v H' Q E (R.le hn) ah aR e2 (P.step aA I ah)
theorem PF(h:qp b m=some b'):gW b'=gW b:=by
 induction b using Internal.BI.casesOn with
 |max2=>
  induction q:aF m 2 using aB with
  |true=>
   unfold qp at h;rw[q]at h;exact congrArg gW (aI h).symm
  |false=>
   unfold qp at h;rw[q]at h;exact(congrArg gW (show b' = .maxl from(aI (guard_some h).2).symm)).trans rfl
 |min2=>exact congrArg gW (aI (guard_some h).2).symm
 |_=>exact congrArg gW (aI (guard_some h).2).symm
theorem SD(b:BI):(∃x,gW b = .builtin x)\/∃x,gW b = .type x:=by induction b using Internal.BI.casesOn <;> first|exact .inl ⟨_,rfl⟩|exact .inr ⟨_,rfl⟩
theorem LH(G:Gl C c.gl K)(hg:c.glob f=some (.bi b))(hb:qp b m=some b')(h:bY (fun e m=>notStar e=true/\C.SE n c e (dn m)) es ms) :
  C.SE n c (.Call (.Name f p) es [] pos) (fun ρ H=>ob (denL dn ρ ms H) (cz b')):=fun A env ρ φ H s v H' Q E R I X e P=>by
 exists aU (bV e),vs,H₁,e1,e2;exists sI G.env,mg,mb,h1,h2,h3,h4,h5,h6;exists ak (h5 f b (jS hg).2),hm,hy;refine Call_Name rfl (vj X hg (G.plain f _ (jS hg).2) (loadGlobal_builtin (mg:=mg) (mb:=mb) ?_ hm ?_ hy ?_))
 ·rw[X.glob];exact ip h1 fun o e=>I.base _ _ e
 ·rw[X.blt];exact ip h2 fun o e=>I.base _ _ e
 ·have key:∀pos,C.wp A (spliced (backTo pos (starEach es env))) (fun vs s'=>C.wp A (call (gW b) vs) Q E s') E s:=fun pos=>
   q6 es ms h A env ρ φ H s vs H₁ _ E R I X e1 (fun xs ax ao b6 aA ah aR=>by
    have:=C.bi b' (s:={ s with heap:=ao,toks:=b6 }) ah R aR e2 (Q:=Q) (E:=E) (A:=A) (P.step aA I ah);rw[PF hb]at this;exact this) pos
  have tp:=(yr (pos:=pos) (env:=env) h).1;clear hy hm h6 h5 h4 h3 h2 h1 e2 e1 P e X I R hb hg G;rcases SD b with⟨x,e⟩|⟨x,e⟩
  ·rw[e]at key ⊢;exact Calls.callWith_builtin tp (qu h (key pos))
  ·rw[e]at key ⊢;exact PyProof.Rows.callWith_type tp (qu h (key pos))
theorem aas(h:isRec o=true)(name:Str)(env:Env):attributeBase o name env (eval o env)=eval o env:=by
 induction o using Expr.casesOn <;> first|rfl|exact bf h
theorem Wy(hr:isRec o=true)(hl:aF apos.endLine pos.line=true)(hle:es.length<=4)(hk:yy name m as=some k)
  (ho:C.SE n c o mo) (h:bY (fun e m=>notStar e=true/\C.SE n c e (dn m)) es ms) :
  C.SE n c (.Call (.Attribute o name apos) es [] pos) (fun ρ H=>ob (mo ρ H) fun ov H=>guard' (fZ k (own H ov)) (ob (denL dn ρ ms H) fun vs H=>eC k ov vs H)):=fun A env ρ φ H s v H' Q E R I X e P=>by
 exists aU (bV e),ov,H₁,e1,e2;exists ak (guard_some e2),e2,e3;exists aU (bV e3),vs,aE,e3,e4;have F:=Vl hk;exists ak (yr (pos:=pos) (env:=env) h),Il,tp2;refine wpAny_Call_method_late (trees:=backTo pos (starEach es env)) (aas hr name env) ?_ (by rw[cU hl];simp) rfl (ho A env ρ φ H s ov H₁ _ E R I X e1 fun vx ax ao b6 aA ah aR=>?_)
 ·have:(backTo pos (starEach es env)).all (fun x=>!x.1)=true:=by
   rw[List.all_eq_true];intro x hx;have:=(List.any_eq_false.mp Il) x hx;simpa using this
  rw[this];rw[show backToKw pos (keywordEach [] env)=[]from rfl];simp
  lia
 ·exists ak (C.TH (s:={ s with heap:=ao,toks:=b6 }) k ah aR e2),hT,hd;refine⟨oU k,tU k,F.pa,F.slot,F.ty,hT,hd,?_⟩;refine Calls.callWith_builtin Il (qu h ?_);refine q6 es ms h A env ρ ax H₁ _ vs aE _ E R ah (X.step aA I) e3 (fun xs bp aV dU aP aC dq=>?_) pos;exact C.cP k aC R (aP.vr ah aR) dq e4 ((P.step aA I ah).step aP ah aC)
end
end
section
open PySem PySem.Calls PyProof.Rows PySem.W
section
variable {C:Cf} {φ:Ph} {H:Hp} {h h':Heap}
noncomputable def Ph.more(φ:Ph)(F:Addr->Prop):Ph:=⟨φ.f,fun a=>φ.fr a\/F a⟩
theorem Cf.qj(I:C.I φ H h)(k:∀b o,h.get? b=some o->h'.get? b=some o)(hF:∀a,F a->h.get? a=none/\∃o,h'.get? a=some o):C.I (φ.more F) H h'/\St φ H h (φ.more F) H h':=by
 have hM:∀b o',aT (φ.more F) H b->h.get? b=some o'->aT φ H b:=by
  rintro b o' (q|q|q) g
  ·exact .inl q
  ·exact .inr q
  ·rw[(hF b q).1]at g;exact nq g
 refine⟨⟨fun b o e=>k _ _ (I.base b o e),fun e m=>?_,I.nodup,I.inj,I.lt,I.fresh,fun a f=>?_,I.sys⟩,⟨fun b o e _=>k b o e,fun _ _ e=>e,cw _,fun e m=>⟨e,m,rfl,rfl,fun _=>rfl⟩,fun e m=>.inl ⟨e,m,rfl⟩,fun b o e=>⟨o,k b o e⟩,fun _ e=>.inl e,fun a e=>e.imp id fun z=>(hF a z).1⟩⟩
 ·exists b7 (I.objs e m),a,e1,e2,e3;refine⟨a,e1,e2,?_⟩;revert e3;clear e2 e1 m hF I;induction e.obj using Internal.bq.casesOn with
  |list l=>rintro ⟨vs,n,g,r⟩;exact⟨vs,n,k _ _ g,r.mono (fun _ _ e=>e) (fun b o e _=>k b o e) hM⟩
  |dict l=>rintro ⟨vs,n,g,r,d⟩;exact⟨vs,n,k _ _ g,r.mono (fun _ _ e=>e) (fun b o e _=>k b o e) hM,d⟩
 ·clear hM;rcases f with f|f
  ·clear hF;obtain⟨p,q,o,g⟩:=I.cC a f;exact⟨p,q,o,k _ _ g⟩
  ·clear k;obtain⟨g,o,g'⟩:=hF a f;refine⟨?_,fun e m z=>?_,o,g'⟩
   ·clear g' f hF;induction q:C.h₀.get? a using aL with
    |none=>rfl
    |some o'=>rw[I.base _ _ q]at g;exact ns g
   ·exists b7 (I.objs e m),b,e1,e2,e3;rw[show φ.f e.id=some a from z]at e1;exists e1;revert e3;clear e2 z m g' f hF I;induction e.obj using Internal.bq.casesOn with
    |list l=>rintro ⟨_,_,g1,_⟩;rw[g]at g1;exact nq g1
    |dict l=>rintro ⟨_,_,g1,_⟩;rw[g]at g1;exact nq g1
theorem Cf.qq(I:C.I φ H h)(k:∀b o,h.get? b=some o->¬ φ.fr b->h'.get? b=some o)(al:∀a,φ.fr a->∃o,h'.get? a=some o):C.I φ H h':=by
 refine⟨fun b o e=>k _ _ (I.base b o e) (fun f=>by rw[(I.cC b f).1]at e;exact nq e),fun e m=>?_,I.nodup,I.inj,I.lt,I.fresh,fun a f=>⟨(I.cC a f).1,(I.cC a f).2.1,al a f⟩,I.sys⟩;exists b7 (I.objs e m),a,e1,e2,e3;have na:¬ φ.fr a:=fun f=>(I.cC a f).2.1 e m e1;refine⟨a,e1,e2,?_⟩;revert e3;clear e2 e1 m al I;induction e.obj using Internal.bq.casesOn with
 |list l=>rintro ⟨vs,n,g,r⟩;exact⟨vs,n,k _ _ g na,r.mono (fun _ _ e=>e) (fun b o e q=>k b o e fun f=>q (.inr f)) fun _ _ e _=>e⟩
 |dict l=>rintro ⟨vs,n,g,r,d⟩;exact⟨vs,n,k _ _ g na,r.mono (fun _ _ e=>e) (fun b o e q=>k b o e fun f=>q (.inr f)) (fun _ _ e _=>e),d⟩
theorem fT(k:∀b o,h.get? b=some o->¬ φ.fr b->h'.get? b=some o)(r:C.R φ H h v x):C.R φ H h' v x:=r.mono (fun _ _ e=>e) (fun b o e q=>k b o e fun f=>q (.inr f)) fun _ _ e _=>e
structure SZ (Z:Addr->Prop) (φ:Ph) (H:Hp) (h:Heap) (a8:Ph) (H':Hp) (h':Heap):Prop where
 keep:∀b o,h.get? b=some o->¬ gS φ H b->¬ Z b->h'.get? b=some o
 ext:∀n a,φ.f n=some a->a8.f n=some a
 nxt:H.nxt<=H'.nxt
 ids:∀e∈H.es,∃e'∈H'.es,e'.id=e.id/\e'.lock=e.lock/\(e.lock=true->e'.obj=e.obj)
 new:∀e'∈H'.es,(∃e∈H.es,e.id=e'.id)\/(∀a,a8.f e'.id=some a->h.get? a=none)
 alive:∀b o,h.get? b=some o->∃o',h'.get? b=some o'
 du:∀a,φ.fr a->a8.fr a
 gE:∀a,a8.fr a->φ.fr a\/h.get? a=none
section
variable {Z:Addr->Prop} {a8 rP:Ph} {H' eo:Hp} {h'':Heap}
theorem St.eS(S:St φ H h a8 H' h'):SZ Z φ H h a8 H' h':=⟨fun b o e u _=>S.keep b o e u,S.ext,S.nxt,S.ids,S.new,S.alive,S.du,S.gE⟩
theorem SZ.Jq(S:SZ Z φ H h a8 H' h')(hz:∀a,Z a->h.get? a=none):St φ H h a8 H' h':=⟨fun b o e u=>S.keep b o e u (fun z=>by rw[hz b z]at e;exact nq e),S.ext,S.nxt,S.ids,S.new,S.alive,S.du,S.gE⟩
theorem SZ.own(S:SZ Z φ H h a8 H' h')(I:C.I φ H h):∀b o,Own a8 H' b->h.get? b=some o->Own φ H b:=by
 rintro b o ⟨e',m,q⟩ g;rcases S.new e' m with⟨e,me,q'⟩|q'
 ·exists ae (I.objs e me),a,ha,Z0;have:=S.ext _ _ ha;rw[q',q]at this;exact⟨e,me,by rw[ha];exact this.symm⟩
 ·rw[q' b q]at g;exact nq g
theorem SZ.mut(S:SZ Z φ H h a8 H' h')(I:C.I φ H h):∀b o,aT a8 H' b->h.get? b=some o->aT φ H b:=by
 rintro b o (q|q) g
 ·exact .inl (S.own I b o q g)
 ·clear I;rcases S.gE b q with q|q
  ·exact .inr q
  ·rw[q]at g;exact nq g
theorem SZ.kW(S:SZ Z φ H h a8 H' h')(I:C.I φ H h)(N:(H'.es.map (·.id)).Nodup):∀b o,gS a8 H' b->h.get? b=some o->gS φ H b:=by
 rintro b o ⟨e',m,lk,q⟩ g;rcases S.new e' m with⟨e,me,q'⟩|q'
 ·exists ae (I.objs e me),a,ha,Z0;have ea:=S.ext _ _ ha;rw[q',q]at ea
  (clear g q I;exists ea)
  exists dX (S.ids e me),e2,m2,i2,l2,Z0;have:e2=e':=hY N m2 m (i2.trans q');subst this;exact⟨e,me,by rw[<- l2];exact lk,ha⟩
 ·rw[q' b q]at g;exact nq g
theorem SZ.vr(S:SZ Z φ H h a8 H' h')(I:C.I φ H h)(hz:∀b,Z b->φ.fr b)(r:C.R φ H h v x):C.R a8 H' h' v x:=
 r.mono S.ext (fun b o e m=>S.keep b o e (fun u=>m u.mut) fun z=>m (.inr (hz b z))) (S.mut I)
theorem SZ.hU(S:SZ Z φ H h a8 H' h')(I:C.I φ H h)(hz:∀b,Z b->φ.fr b)(r:C.Rs φ H h v x):C.Rs a8 H' h' v x:=
 r.mono S.ext (fun b o e m=>S.keep b o e (fun u=>m u.mut) fun z=>m (.inr (hz b z))) (S.mut I)
theorem SZ.refl(Z:Addr->Prop)(φ:Ph)(H:Hp)(h:Heap):SZ Z φ H h φ H h:=(St.refl φ H h).eS
theorem SZ.trans(S:SZ Z φ H h a8 H' h')(T:SZ Z a8 H' h' rP eo h'')(I:C.I φ H h)(I':C.I a8 H' h'):SZ Z φ H h rP eo h'':=by
 refine⟨fun b o e u z=>T.keep b o (S.keep b o e u z) (fun q=>u (S.kW I I'.nodup b o q e)) z,fun n a e=>T.ext _ _ (S.ext _ _ e),bx S.nxt T.nxt,fun e m=>?_,fun Ap m=>?_,fun b o e=>?_,fun a e=>T.du a (S.du a e),fun a e=>?_⟩
 ·exists dX (S.ids e m),e1,m1,a1,b1,c1;exists dX (T.ids e1 m1),e2,m2,a2,b2,c2;exact⟨e2,m2,a2.trans a1,b2.trans b1,fun q=>(c2 (b1.trans q)).trans (c1 q)⟩
 ·clear I;rcases T.new Ap m with⟨e',m',q⟩|q
  ·clear m;rcases S.new e' m' with⟨e,me,q'⟩|q'
   ·exact .inl ⟨e,me,q'.trans q⟩
   ·exists ae (I'.objs e' m'),a',fE,Z0;exists .inr,a,ha;have:=T.ext _ _ fE;rw[q,ha]at this
    (clear ha q m' I' T S;exists this)
    exact q' _ fE
  ·exists .inr,a,ha;clear m I' T;induction g:h.get? a using aL with
   |none=>rfl
   |some o=>
    exists aD (S.alive a o g),o',g';rw[q a ha]at g';exact nq g'
 ·exists aD (S.alive b o e),o',e';exact T.alive b o' e'
 ·clear I' I;rcases T.gE a e with e|e
  ·exact S.gE a e
  ·refine .inr ?_;clear T;induction g:h.get? a using aL with
   |none=>rfl
   |some o=>
    exists aD (S.alive a o g),o',g';rw[e]at g';exact nq g'
theorem SZ.frames(k:∀b o,h.get? b=some o->¬ Z b->h'.get? b=some o)(al:∀b o,h.get? b=some o->∃o',h'.get? b=some o'):SZ Z φ H h φ H h':=
 ⟨fun b o e _ z=>k b o e z,fun _ _ e=>e,cw _,fun e m=>⟨e,m,rfl,rfl,fun _=>rfl⟩,fun e m=>.inl ⟨e,m,rfl⟩,al,fun _ e=>e,fun _ e=>.inl e⟩
end
noncomputable def Zf(c:Cx)(env:Env)(b:Addr):Prop:=b=env.locals\/∃z,c.names.lookup z=some .cell/\env.cells.lookup z=some b
theorem KX(ρ:ai):∀(i j:Nat) {v:V},cF (slotS ρ i none) j=some v->i≠j/\cF ρ j=some v:=by
 induction ρ with
 |nil=>intro i j v e;exact nq e
 |cons x ρ ih=>
  intro i j v e
  induction i using bL with
  |zero=>induction j using bL with
   |zero=>exact nq e
   |succ j=>exact⟨(kc _).symm,e⟩
  |succ i=>induction j using bL with
   |zero=>exact⟨kc _,e⟩
   |succ j=>exact⟨fun z=>(ih i j e).1 (gG z),(ih i j e).2⟩
theorem rJ(ρ:ai):∀(i j:Nat) {w v:V},cF (slotS ρ i (some w)) j=some v->(i=j/\v=w)\/(i≠j/\cF ρ j=some v):=by
 induction ρ with
 |nil=>intro i j w v e;exact nq e
 |cons x ρ ih=>
  intro i j w v e
  induction i using bL with
  |zero=>induction j using bL with
   |zero=>exact .inl ⟨rfl,(aI e).symm⟩
   |succ j=>exact .inr ⟨(kc _).symm,e⟩
  |succ i=>induction j using bL with
   |zero=>exact .inr ⟨kc _,e⟩
   |succ j=>exact(ih i j e).imp (fun h=>⟨congrArg Nat.succ h.1,h.2⟩) fun h=>⟨fun z=>h.1 (gG z),h.2⟩
theorem tF(ρ:ai)(is:List Nat):∀(j:Nat) {v:V},cF (slotC ρ is) j=some v->j ∉ is/\cF ρ j=some v:=by
 induction is generalizing ρ with
 |nil=>intro j v e;exact⟨List.not_mem_nil,e⟩
 |cons i is ih=>
  intro j v e;exists ak (ih (slotS ρ i none) j e),a,b;exists ak (KX ρ i j b),c,d;exact⟨fun m=>(aH.mp m).elim (fun z=>c z.symm) a,d⟩
noncomputable def Le(ρ ρ':ai):Prop:=∀i v,cF ρ i=some v->cF ρ' i=some v
theorem ER.weak(X:ER C c ρ' env φ H h)(l:Le ρ ρ'):ER C c ρ env φ H h:=by
 refine⟨X.kind,X.glob,X.blt,X.kinds,?_,fun x i hx hi=>?_,X.ib,X.kz,X.inj,X.ok⟩
 ·exists ae X.loc,m,hn,hm;exact⟨m,hn,fun x i v h1 h2 h3=>hm x i v h1 h2 (l _ _ h3)⟩
 ·exists gK (X.cell x i hx hi),a,ov,e1,e2,e3,e4,e5;exact⟨a,ov,e1,e2,e3,e4,fun v hv=>e5 v (l _ _ hv)⟩
theorem DD{c:Cx}{x:Str}{i:Nat}(e:c.tgt x=some i):(c.names.lookup x=some .local\/c.names.lookup x=some .cell)/\c.vm.lookup x=some i:=by
 unfold cG.tgt at e;generalize c.names.lookup x=o at e ⊢
 induction o using aL with
 |none=>exact nq e
 |some k=>induction k using PySem.NameKind.casesOn with
  |«local»=>exact⟨.inl rfl,e⟩
  |cell=>exact⟨.inr rfl,e⟩
  |_=>exact nq e
theorem ER.store{c:Cx}{ρ:ai}{env:Env}{A:Around}{s:Shared}{E:Value->Shared->Prop}{Q:Unit->Shared->Prop}{x:Str}{i:Nat}{v:V}{y:Value}(X:ER C c ρ env φ H s.heap)(I:C.I φ H s.heap)
  (ht:c.tgt x=some i) (r:C.R φ H s.heap v y) (hQ:∀h' tk,C.I φ H h'->SZ (Zf c env) φ H s.heap φ H h'->ER C c (slotS ρ i (some v)) env φ H h'->Q () { s with heap:=h',toks:=tk }):C.wp A (storeName env x y) Q E s:=by
 exists ak (DD ht),hk,hv;clear ht;rcases hk with hk|hk
 ·exists ae X.loc,m,hn,hm;refine wpAny_storeName_local (X.kinds x _ hk) hn (fun h' ux cg=>?_) (by rw[X.kind];rfl);have kl:∀b o,s.heap.get? b=some o->b≠env.locals->h'.get? b=some o:=fun b o e z=>by rw[cg.2 b z];exact e
  have kf:∀b o,s.heap.get? b=some o->¬ φ.fr b->h'.get? b=some o:=fun b o e f=>kl b o e fun z=>f (z▸X.ib);have gR:∀b o,s.heap.get? b=some o->∃o',h'.get? b=some o':=fun b o e=>by
   by_cases z:b=env.locals
   ·rw[z];exact mB ux
   ·exact⟨o,kl b o e z⟩
  have I':=C.qq I kf fun a f=>let ⟨_,_,o,g⟩:=I.cC a f;gR a o g
  refine hQ h' _ I' (SZ.frames (fun b o e z=>kl b o e fun q=>z (.inl q)) gR) ⟨X.kind,X.glob,X.blt,X.kinds,⟨_,ux,fun z j w h1 h2 h3=>?_⟩,fun z j h1 h2=>?_,X.ib,X.kz,X.inj,X.ok⟩
  ·clear I' gR kl cg ux hn hk hQ I;rcases rJ ρ i j h3 with⟨rfl,rfl⟩|⟨k8,hw⟩
   ·have:=X.ok.inj z x i h2 hv;clear h3 h2 h1 hm hv X;subst this;exact⟨y,by simp,fT kf r⟩
   ·exists ae (hm z j w h1 h2 hw),val,e1,e2;have qo:z≠x:=fun q=>by
     clear e2 e1 hw h3 h1 kf hm r X;subst q;rw[hv]at h2;exists h2;exact k8 rfl
    exact⟨val,by simp [qo,e1],fT kf e2⟩
  ·exists gK (X.cell z j h1 h2),a,ov,e1,e2,e3,e4,e5;refine⟨a,ov,e1,oI e2 fun o e=>kl a o e e4,e3,e4,fun w hw=>?_⟩;clear e4 e3 e2 e1 I' gR kl cg ux hm hn hQ r I;rcases rJ ρ i j hw with⟨rfl,rfl⟩|⟨k8,hw⟩
   ·have:=X.ok.inj z x i h2 hv;clear hw e5 h2 kf hv X;subst this;rw[hk]at h1;clear hk;rcases h1 with h1|h1 <;> cases h1
   ·exists ae (e5 w hw),val,q1,q2;exact⟨val,q1,fT kf q2⟩
 ·exists gK (X.cell x i (.inl hk) hv),ca,ov,e1,e2,e3,e4,e5;exists wpAny_storeName_cell X.kind (X.kinds x _ hk) e1 e2,h',j7,cg;have kl:∀b o,s.heap.get? b=some o->b≠ca->h'.get? b=some o:=fun b o e z=>by rw[cg.2 b z];exact e
  have kf:∀b o,s.heap.get? b=some o->¬ φ.fr b->h'.get? b=some o:=fun b o e f=>kl b o e fun z=>f (z▸e3);have gR:∀b o,s.heap.get? b=some o->∃o',h'.get? b=some o':=fun b o e=>by
   by_cases z:b=ca
   ·rw[z];exact sq j7
   ·exact⟨o,kl b o e z⟩
  have I':=C.qq I kf fun a f=>let ⟨_,_,o,g⟩:=I.cC a f;gR a o g
  refine hQ h' s.toks I' (SZ.frames (fun b o e z=>kl b o e fun q=>z (.inr ⟨x,hk,by rw[q];exact e1⟩)) gR) ⟨X.kind,X.glob,X.blt,X.kinds,?_,fun z j h1 h2=>?_,X.ib,X.kz,X.inj,X.ok⟩
  ·exists ae X.loc,m,hn,hm;refine⟨m,ip hn fun o e=>kl _ o e (Ne.symm e4),fun z j w h1 h2 h3=>?_⟩;clear hn I' gR kl cg j7 e5 e4 e3 e2 e1 hQ r I;rcases rJ ρ i j h3 with⟨rfl,rfl⟩|⟨k8,hw⟩
   ·have:=X.ok.inj z x i h2 hv;clear h3 h2 hm kf hv X;subst this;rw[hk]at h1;clear hk;cases h1
   ·exists ae (hm z j w h1 h2 hw),val,q1,q2;exact⟨val,q1,fT kf q2⟩
  ·by_cases qo:z=x
   ·clear h1 I' gR kl cg e5 e2 hk hQ I X;subst qo;rw[hv]at h2;exists h2;refine⟨ca,some y,e1,j7,e3,e4,fun w hw=>?_⟩;clear e1 hv j7 e4 e3;rcases rJ ρ i i hw with⟨_,rfl⟩|⟨k8,_⟩
    ·exact⟨y,rfl,fT kf r⟩
    ·exact absurd rfl k8
   ·exists gK (X.cell z j h1 h2),a,W0,q1,q2,q3,q4,q5;have bN:a≠ca:=fun q=>qo (X.inj z x a q1 (by rw[q];exact e1));refine⟨a,W0,q1,oI q2 fun o e=>kl a o e bN,q3,q4,fun w hw=>?_⟩;clear bN q4 q3 q2 q1 h1 I' gR kl cg j7 e5 e4 e3 e2 e1 hk hQ r I;rcases rJ ρ i j hw with⟨rfl,rfl⟩|⟨k8,hw⟩
    ·exact absurd (X.ok.inj z x i h2 hv) qo
    ·exists ae (q5 w hw),val,p1,p2;exact⟨val,p1,fT kf p2⟩
theorem ER.zf(X:ER C c ρ env φ H h):∀b,Zf c env b->φ.fr b:=by
 rintro b (rfl|⟨z,h1,h2⟩)
 ·exact X.ib
 ·exists aD (X.ok.cells z h1),i,hi;exists jQ (X.cell z i (.inl h1) hi),a,Z0,e1,Z0,e3,Z0;rw[h2]at e1;exists e1;exact e3
end
end
section
open PySem PySem.Calls PyProof.Rows PySem.W
section
variable {C:Cf} {φ:Ph} {H:Hp} {h h':Heap} {c:Cx} {env:Env} {A:Around} {s:Shared} {E:Value->Shared->Prop} {n:Nat}
noncomputable def Cf.nE(C:Cf)(c:Cx)(env:Env)(φ:Ph)(H:Hp)(s:Shared)(H':Hp)(ρ':ai)(Q:Unit->Shared->Prop):Prop:=
 ∀a8 h' tk,SZ (Zf c env) φ H s.heap a8 H' h'->C.I a8 H' h'->ER C c ρ' env a8 H' h'->Q () { s with heap:=h',toks:=tk }
theorem Cf.nE.step(P:C.nE c env φ H s H' ρ' Q)(S:SZ (Zf c env) φ H s.heap ax H₁ ao)(I:C.I φ H s.heap)(ah:C.I ax H₁ ao):C.nE c env ax H₁ { s with heap:=ao,toks:=tk₁ } H' ρ' Q:=
 fun a8 h' tk S' I' X=>P a8 h' tk (S.trans S' I ah) I' X
theorem wu(X:ER C c ρ env φ H s.heap)(I:C.I φ H s.heap)(ht:c.tgt x=some i)(r:C.R φ H s.heap v y)(P:C.nE c env φ H s H (slotS ρ i (some v)) Q) :
  C.wp A (assign (.Name x p) env y) Q E s:=by
 rw[arm_assign_Name];unfold bindName;refine a9 (fR (a9 (dM (wpAny_point (a9 (X.store I ht r fun h' tk I' S X'=>wpAny_point ?_))))));exact P φ h' tk S I' X'
theorem ot(h:nameOf e=some x):∃p,e = .Name x p:=by
 induction e using Expr.casesOn with
 |Name y p=>exact⟨p,congrArg (fun x=>PySem.Expr.Name x p) (aI h)⟩
 |_=>exact nq h
theorem xE(h:qw e=some l):∃k p,e = .Tuple l k p:=by
 induction e using Expr.casesOn with
 |Tuple y k p=>exact⟨k,p,congrArg (fun x=>PySem.Expr.Tuple x k p) (aI h)⟩
 |_=>exact nq h
theorem Kd(h:jM c e=some i):∃x p,e = .Name x p/\c.tgt x=some i:=
 ae (aQ h) fun x hx h=>aD (ot hx) fun p e=>⟨x,p,e,h⟩
set_option tactic.hygienic true in
theorem kU{α β:Type}{f:α->Option β}{a:α}{r:List α}{l:List β}(h:optL f (a::r)=some l):∃b bs,l=b::bs/\f a=some b/\optL f r=some bs:=by
 have h:(match f a with
  |some b=>match optL f r with
   |some bs=>some (b::bs)
   |none=>none
  |none=>none)=some l:=h
 split at h
 ·rename_i b hb;split at h
  ·rename_i bs eI;exists h;exact⟨b,bs,rfl,hb,eI⟩
  ·exact nq h
 ·exact nq h
theorem OZ:∀{is:List Nat} (env:Env),optL (jM c) es=some is->(assignEach es env).length=es.length/\is.length=es.length/\(assignEach es env).findIdx? (·.1)=none/\(assignEach es env).map (·.2)=es.map fun e=>assign e env:=by
 induction es with
 |nil=>
  intro is env h;exists h;exact⟨rfl,rfl,rfl,rfl⟩
 |cons e es ih=>
  intro is env h;exists cx (kU h),i,is,UI,h1,h2;clear h;subst UI;exists aU (Kd h1),x,p,qP,Z0;clear h1;subst qP;exists ft (ih env h2),a1,a2,a3,a4;have e0:assignEach (.Name x p::es) env=(false,assign (.Name x p) env)::assignEach es env:=rfl;rw[e0];refine⟨by simp [a1],by simp [a2],?_,by simp [a4]⟩;rw[List.findIdx?_cons];simp [a3]
theorem RM(es:List PySem.Expr):∀(is:List Nat) (ρ ρ':ai) (l:List V) (vs:List Value) (φ:Ph) (s:Shared) (Q:Unit->Shared->Prop),optL (jM c) es=some is->bindTs ρ is l=some ρ'->C.Rs φ H s.heap l vs->ER C c ρ env φ H s.heap->C.I φ H s.heap->
  C.nE c env φ H s H ρ' Q->C.wp A (assignInOrder (es.map fun e=>assign e env) vs) Q E s:=by
 induction es with
 |nil=>
  intro is ρ ρ' l vs φ s Q h hb rs X I P;exists h
  induction l using aN with
  |nil=>
   exists hb;cases rs;exact assignInOrder_nil (P φ s.heap s.toks (SZ.refl ..) I X)
  |cons=>exact nq hb
 |cons e es ih=>
  intro is ρ ρ' l vs φ s Q h hb rs X I P;exists cx (kU h),i,is,ke,h1,h2;clear h;subst ke;exists aU (Kd h1),x,p,V2,ht;clear h1;subst V2
  induction l using aN with
  |nil=>exact nq hb
  |cons v l=>
   cases rs with
   |cons r1 r2=>
    show C.wp A (assignInOrder (assign (.Name x p) env::es.map fun e=>assign e env) (_::_)) Q E s;refine assignInOrder_cons ?_;exists wu X I ht r1,ax,ao,b6,aA,ah,gI;exact ih is _ ρ' l _ ax _ Q h2 hb (aA.hU I X.zf r2) gI ah (P.step aA I ah)
theorem YW(h:bindTs ρ tg [v]=some ρ'):∃i,tg=[i]/\ρ'=slotS ρ i (some v):=by
 induction tg using aN with
 |nil=>exact nq h
 |cons i is=>
  induction is using aN with
  |nil=>exists h;exact⟨i,rfl,rfl⟩
  |cons=>exact nq h
theorem Gx(h:compT c t=some (tg,many)):(∃x p i,t = .Name x p/\many=false/\tg=[i]/\c.tgt x=some i)\/∃es k p,t = .Tuple es k p/\many=true/\optL (jM c) es=some tg:=by
 rcases l7 h with⟨x,hx,h⟩|⟨_,h⟩
 ·exists ae (aQ h),i,hi,h;exists aD (ot hx),p,e;exact .inl ⟨x,p,i,e,(congrArg (fun x=>x.2) (aI h)).symm,(congrArg (fun x=>x.1) (aI h)).symm,hi⟩
 ·exists ae (aQ h),es,he,h;exists ae (aQ h),is,hi,h;exists de (xE he),k,p,e;exact .inr ⟨es,k,p,e,(congrArg (fun x=>x.2) (aI h)).symm,hi.trans (congrArg (fun x=>some x.1) (aI h))⟩
set_option tactic.hygienic true in
theorem Kr(R:Rm A n)(X:ER C c ρ env φ H s.heap)(I:C.I φ H s.heap)(ht:compT c t=some (tg,many))(hb:eB ρ tg many v=some ρ')(r:C.R φ H s.heap v y)
  (P:C.nE c env φ H s H ρ' Q):C.wp A (assign t env y) Q E s:=by
 rcases Gx ht with⟨x,p,i,rfl,rfl,rfl,hx⟩|⟨es,k,p,rfl,rfl,eA⟩
 ·exists ae (YW hb),j,h1,qA;clear ht hb R;subst qA;cases h1;exact wu X I hx r P
 ·unfold eB at hb;dsimp only at hb;split at hb
  ·rename_i l;exists fH (gq r),a,vs,m,zK,g,Z0,rs;clear r ht;subst zK;exists ft (OZ env eA),a1,a2,a3,a4;have hlen:∀(is:List Nat) (l:List V) (ρ:ai),bindTs ρ is l=some ρ'->is.length=l.length:=by
    intro is;clear a4 a3 a2 a1 rs g hb eA P I X R;induction is with
    |nil=>intro l ρ h;induction l using aN with|nil=>rfl|cons=>exact nq h
    |cons i is ih=>intro l ρ h;induction l using aN with|nil=>cases h|cons v l=>simp [ih l _ h]
   have hl:=hlen _ _ _ hb;have:=rs.length;exists assign_Tuple_tuple (items:=vs.toArray) R.handled ⟨_,g,rfl,m,rfl⟩ (by rw[dY];lia) a3,h',hx;rw[a4];have k:∀b o,s.heap.get? b=some o->h'.get? b=some o:=fun b o e=>hx b o (fun z=>by rw[z,cA]at e;exact nq e) e;exists ak (C.grow I k),I',S;exact RM es tg ρ ρ' l _ φ _ Q eA hb (by simpa using S.hU I rs) (X.step S I) I' (P.step S.eS I I')
  ·exact nq hb
end
end
section
set_option backward.match.sparseCases true
open PySem PySem.Calls PyProof.Rows PySem.W
structure Wh (prog:Program) (w:World) (A:Around) (t:PySem.Expr) (I:Addr) (wr dR:List Addr) (n:Nat) (It:Nat->Heap->Value->Heap->Prop) (J:Nat->Heap->Prop) (Mid:Nat->Value->Heap->Prop):Prop where
 frame:∀i h h',J i h->(∀b o,(b∈wr\/b∈dR)->h.get? b=some o->h'.get? b=some o)->J i h'
 item:∀i (s:Shared) (Q:Option Value->Shared->Prop) (E:Value->Shared->Prop),i<n->J i s.heap->
  (∀v h' tk,It i s.heap v h'->Mid i v h'->(∀b o,b ∉ wr->s.heap.get? b=some o->h'.get? b=some o)->(∀b∈wr,∃o,h'.get? b=some o)->Q (some v) { s with heap:=h',toks:=tk })->wpAny (model prog w) A (pyNext (.ref I)) Q E s
 go:∀i v (s:Shared) (Q:Unit->Shared->Prop) (E:Value->Shared->Prop),Mid i v s.heap->
  (∀h',J (i+1) h'->(∀b o,b ∉ wr->s.heap.get? b=some o->h'.get? b=some o)->(∀b∈wr,∃o,h'.get? b=some o)->Q () { s with heap:=h' })->wpAny (model prog w) A (letOwnedTupleGo t (.ref I) v) Q E s
 done:∀(s:Shared) (Q:Option Value->Shared->Prop) (E:Value->Shared->Prop),J n s.heap->
  (∀h' tk,(∀b o,b ∉ wr->s.heap.get? b=some o->h'.get? b=some o)->Q none { s with heap:=h',toks:=tk })->wpAny (model prog w) A (pyNext (.ref I)) Q E s
 self:∀i (s:Shared) (Q:Value->Shared->Prop) (E:Value->Shared->Prop),J i s.heap->Q (.ref I) s->wpAny (model prog w) A (pyIter (.ref I)) Q E s
noncomputable def owners:List String:=["enumerate","zip","dict_itemiterator","dict_reverseitemiterator","odict_iterator","itertools.zip_longest","itertools.pairwise"]
theorem HZ(ho:s.heap.get? I=some o)(hc:o.cls = .type k)(hk:owners.contains k=false)(h:Q () s) :
  wpAny M A (letOwnedTupleGo t (.ref I) v) Q E s:=by
 have key:∀a,wpAny M A (do
   let o <- load I
   match o.cls,o.data with
   |.type n,.fields vs=>
    if owners.contains n && vs[0]? == some (rawInt a)then
     rule "for.unpacks-the-owned-tuple"
     updateField I 0 .none
   |_,_=>pure ()) Q E s:=fun a=>by
  refine a9 (wpAny_load ho ?_);rw[hc];clear hc ho;induction o.data using PySem.Data.casesOn with
  |fields vs=>
   dsimp only;rw[hk];exact aw h
  |_=>exact aw h
 unfold letOwnedTupleGo;clear hk hc ho;induction t using Expr.casesOn <;> first|exact aw h|skip
 all_goals (induction v using PySem.Value.casesOn <;> first|exact key _|exact aw h)
section
variable {prog:Program} {w:World} {A:Around}
noncomputable def Plain(P:Nat->Value->Prop):Nat->Heap->Value->Heap->Prop:=fun i _ v _=>P i v
theorem Wh.plain{t:PySem.Expr}{I:Addr}{fp dR:List Addr}{n:Nat}{P:Nat->Value->Prop}{St:Nat->Heap->Prop}(W:Walks prog w A I fp [I] n P St)(k:String)(hk:owners.contains k=false)(hc:∀i h,St i h->∃o,h.get? I=some o/\o.cls = .type k)(hd:∀b∈fp,b=I\/b∈dR) :
  Wh prog w A t I [I] dR n (Plain P) St (fun i _ h=>St (i+1) h) where
 frame:=fun i h h' st kp=>W.frame i h h' st fun b hb o e=>kp b o (by clear e kp st hc hk W;rcases hd b hb with rfl|z;exact .inl (.head _);exact .inr z) e
 item:=fun i s Q E hi st hQ=>W.item i s Q E hi st fun v h' tk hP m5 kp=>hQ v h' tk hP m5 kp fun b hb=>by
  rw[c9.mp hb];exists ae (hc _ _ m5),o,ho,Z0;exact⟨o,ho⟩
 go:=fun i v s Q E st hQ=>by
  exists ae (hc _ _ st),o,ho,dc;exact HZ ho dc hk (hQ s.heap st (fun _ _ _ e=>e) fun b hb=>by rw[c9.mp hb];exact⟨o,ho⟩)
 done:=fun s Q E st hQ=>W.done s Q E st hQ
 self:=fun i s Q E st hQ=>W.self i s Q E st hQ
theorem Wh.list(hh:A.handled=none)(t:PySem.Expr)(I l:Addr)(bN:l≠I)(items:Array Value):Wh prog w A t I [I] [l] items.size (Plain fun i v=>items[i]?=some v) (fun i h=>h.IsListIter I l i/\h.IsList l items) (fun i _ h=>h.IsListIter I l (i+1)/\h.IsList l items):=
 Wh.plain (Walks.list hh I l bN items) "list_iterator" dq (fun i h st=>let ⟨o,ho,hc,_⟩:=st.1;⟨o,ho,hc⟩) fun b hb=>by
  clear bN hh;rcases aH.mp hb with rfl|hb
  ·exact .inl rfl
  ·exact .inr hb
theorem Wh.tuple(hh:A.handled=none)(t:PySem.Expr)(I l:Addr)(bN:l≠I)(items:Array Value):Wh prog w A t I [I] [l] items.size (Plain fun i v=>items[i]?=some v) (fun i h=>h.IsTupleIter I l i/\h.IsTuple l items) (fun i _ h=>h.IsTupleIter I l (i+1)/\h.IsTuple l items):=
 Wh.plain (Walks.tuple hh I l bN items) "tuple_iterator" dq (fun i h st=>let ⟨o,ho,hc,_⟩:=st.1;⟨o,ho,hc⟩) fun b hb=>by
  clear bN hh;rcases aH.mp hb with rfl|hb
  ·exact .inl rfl
  ·exact .inr hb
theorem Wh.range(hh:A.handled=none)(t:PySem.Expr)(I:Addr)(a:Int)(n:Nat):Wh prog w A t I [I] [] n (Plain fun i v=>∃u,v = .int (a+i * 1) u) (fun i h=>IsRangeIter h I (a+(i:Nat) * 1) ((n:Int) - (i:Nat)) 1) (fun i _ h=>IsRangeIter h I (a+((i+1:Nat):Nat) * 1) ((n:Int) - ((i+1:Nat):Nat)) 1):=
 Wh.plain (Walks.range hh I a 1 n) "range_iterator" dq (fun i h st=>⟨_,st,rfl⟩) fun b hb=>.inl (c9.mp hb)
variable {E:Value->Shared->Prop} {s:Shared}
theorem VG(hit:s.heap.IsKeyIter it d i es.length ep)(qE:s.heap.get? d=some (cS es ep))(hx:es[i]?=some e)
  (hQ:∀h',h'.IsKeyIter it d (i+1) es.length ep->Heap.SameBut it s.heap h'->Q (some e.key) { s with heap:=h' }) :
  wpAny (model prog w) A (pyNext (.ref it)) Q E s:=by
 exists b7 (id hit),o,ho,hc,hd;have sD:(cS es ep).data = .dict es.toArray ep:=rfl;unfold pyNext;refine a9 (wpAny_attempt (wpAny_callSpecial?_slot (name:=Str.ofString "__next__") hit.typeIs PySem.F.slot_dict_keyiterator_next
  (wpAny_call_entry PySem.F.slot_dict_keyiterator_next hit.typeIs PySem.F.entry_dict_keyiterator_next ?_ (PySem.F.args_dict_keyiterator_next_1 _))))
 refine a9 (aw ?_);refine a9 ?_;refine a9 ?_
 first|refine a9 (wpAny_typeNameOfWhole_keyiter hit.typeIs (aw ?_))|refine a9 (wpAny_typeNameOf_keyiter hit.typeIs (aw ?_))
 refine a9 (wpAny_fieldsOf ho hd ?_);have oC:Builtin.Dict_items.ownsTuple "dict_keyiterator" = false:=by decide
 rw[if_neg (show ¬ (Builtin.Dict_items.ownsTuple "dict_keyiterator" = true)from by rw[oC];exact Bool.false_ne_true)];show wpAny _ _ (if (Value.ref d == Value.none)=true then _ else _) _ _ s;rw[if_neg (show ¬ ((Value.ref d == Value.none)=true)from Bool.false_ne_true)];refine a9 (aw ?_);refine a9 (wpAny_dictEntries qE sD ?_);have d9:es.toArray.size=es.length:=by simp
 rw[if_neg (by rw[d9];simp)];refine a9 (aw ?_);refine a9 (wpAny_dictEpoch qE sD ?_);rw[if_neg (by simp)];refine aw ?_;have dz:i<es.length:=(fj.mp hx).1;have Nx:i<es.toArray.size:=by rw[d9];exact dz
 have rB:es.toArray[i].key=e.key:=by
  have:=(fj.mp hx).2;simp [this]
 simp only[show ¬ ((i:Int)<0)from by exact Int.not_ofNat_neg i,if_false,Int.toNat_natCast,Array.getElem?_eq_getElem Nx];refine a9 ?_
 first|refine a9 (wpAny_typeNameOfWhole_keyiter hit.typeIs (aw ?_))|refine a9 (wpAny_typeNameOf_keyiter hit.typeIs (aw ?_))
 refine a9 (wpAny_isOneOf_keyiter hit.typeIs ?_);show wpAny _ _ (setField (.ref it) 1 (rawInt ((i:Int)+1)) >>= _) _ _ s;refine a9 (wpAny_setField ho hd (by simp) ?_);have lC:(s.heap.update it (Obj.mapFields (·.setIfInBounds 1 (rawInt ((i:Int)+1))))).IsKeyIter it d (i+1) es.length ep:=
  ⟨_,Heap.get?_update_self _ ho (Obj.isFreed_of_fields (Obj.data_mapFields hd _)),(Obj.cls_mapFields ..).trans hc,by rw[Obj.data_mapFields hd];simp [rawInt]⟩
 refine a9 (dM ?_);refine a9 (wpAny_isOneOf_keyiter (s:={ s with heap:=s.heap.update it (Obj.mapFields (·.setIfInBounds 1 (rawInt ((i:Int)+1)))) }) lC.typeIs ?_);show wpAny _ _ (pure es.toArray[i].key) _ _ _;rw[rB];exact aw (aw ⟨_,rfl,aw (hQ _ lC (Heap.SameBut.update ..))⟩)
theorem Sl(hh:A.handled=none)(hit:s.heap.IsKeyIter it d i es.length ep)(qE:s.heap.get? d=some (cS es ep))(hx:es[i]?=none)
  (hQ:∀h',Heap.ExtBut it s.heap h'->Q none { s with heap:=h' }):wpAny (model prog w) A (pyNext (.ref it)) Q E s:=by
 exists b7 (id hit),o,ho,hc,hd;have sD:(cS es ep).data = .dict es.toArray ep:=rfl;unfold pyNext;refine a9 (wpAny_attempt (wpAny_callSpecial?_slot (name:=Str.ofString "__next__") hit.typeIs PySem.F.slot_dict_keyiterator_next
  (wpAny_call_entry PySem.F.slot_dict_keyiterator_next hit.typeIs PySem.F.entry_dict_keyiterator_next ?_ (PySem.F.args_dict_keyiterator_next_1 _))))
 refine a9 (aw ?_);refine a9 ?_;refine a9 ?_
 first|refine a9 (wpAny_typeNameOfWhole_keyiter hit.typeIs (aw ?_))|refine a9 (wpAny_typeNameOf_keyiter hit.typeIs (aw ?_))
 refine a9 (wpAny_fieldsOf ho hd ?_);have oC:Builtin.Dict_items.ownsTuple "dict_keyiterator" = false:=by decide
 rw[if_neg (show ¬ (Builtin.Dict_items.ownsTuple "dict_keyiterator" = true)from by rw[oC];exact Bool.false_ne_true)];show wpAny _ _ (if (Value.ref d == Value.none)=true then _ else _) _ _ s;rw[if_neg (show ¬ ((Value.ref d == Value.none)=true)from Bool.false_ne_true)];refine a9 (aw ?_);refine a9 (wpAny_dictEntries qE sD ?_);have d9:es.toArray.size=es.length:=by simp
 rw[if_neg (by rw[d9];simp)];refine a9 (aw ?_);refine a9 (wpAny_dictEpoch qE sD ?_);rw[if_neg (by simp)];refine aw ?_;have XC:es.toArray.size<=i:=by rw[d9];simpa using hx
 simp only[show ¬ ((i:Int)<0)from by exact Int.not_ofNat_neg i,if_false,Int.toNat_natCast,Array.getElem?_eq_none XC];refine a9 ?_
 first|refine a9 (wpAny_typeNameOfWhole_keyiter hit.typeIs (aw ?_))|refine a9 (wpAny_typeNameOf_keyiter hit.typeIs (aw ?_))
 show wpAny _ _ (setField (.ref it) 0 .none >>= _) _ _ s;refine a9 (wpAny_setField ho hd (by simp) ?_);show wpAny _ _ (newExc (.type "StopIteration") [] >>= _) _ _ _;refine a9 ?_;simp only[newExc,newTuple];refine a9 (wpAny_newObj_type ?_ (by size_fits));refine a9 (m:=firstArgMember _ _) (wpAny_of_eq (a:=Value.none) (by first|rfl|(simp only[firstArgMember];rfl)) ?_)
 refine wpAny_newObj_type ?_ (by size_fits);unfold raiseNew;refine a9 (wpAny_handled ?_);rw[show A.in1.handled=none from hh];refine a9 (aw (wpAny_throw ?_));refine a9 (wpAny_isInstance (T:="StopIteration") (b:=true) ⟨_,Heap.get?_push_size _ rfl,rfl⟩ isSubtype_stop ?_);exact aw (hQ _ (((Heap.SameBut.update ..).extBut.push _).push _))
theorem TP(hd:(d == sysModules)=false)(g:s.heap.get? d=some (cS es ep))
  (hQ:Q (.ref s.heap.objs.size) { s with heap:=s.heap.push { cls:=.type "dict_keyiterator",data:=.fields #[.ref d,.int 0 0,.int es.length 0,.int ep 0] } }) :
  wpAny (model prog w) A (pyIter (.ref d)) Q E s:=by
 have hT:s.TypeIs (.ref d) "dict":=⟨_,g,rfl⟩;refine wpAny_pyIter_slot hT PySem.F.slot_dict_iter (wpAny_call_entry PySem.F.slot_dict_iter hT PySem.F.entry_dict_iter ?_ (PySem.F.args_dict_iter_1 _));unfold Builtin.«dict.__iter__»;refine a9 ?_;unfold Builtin.Dict.dictSlotNone;refine a9 (wpAny_notOrdered_dict hT ?_);show wpAny _ _ (pure (Value.ref d)) _ _ s;refine aw ?_;show wpAny _ _ (Builtin.Dict.showsAll d >>= _) _ _ s;unfold Builtin.Dict.showsAll;rw[if_neg (by rw[hd];exact Bool.false_ne_true)];refine a9 (aw ?_);refine a9 (wpAny_dictEntries g rfl ?_);refine a9 (wpAny_dictEpoch g rfl ?_);refine a9 (wpAny_newObj_type (aw ⟨_,rfl,"dict_keyiterator",_,⟨_,Heap.get?_push_size _ rfl,rfl⟩,PySem.F.slot_dict_keyiterator_next.lookup,?_⟩));simpa [rawInt]using hQ
theorem Wh.keys(hh:A.handled=none)(t:PySem.Expr)(I d:Addr)(bN:d≠I)(es:List DictEntry)(ep:Nat):Wh prog w A t I [I] [d] es.length (Plain fun i v=>∃e,es[i]?=some e/\v=e.key) (fun i h=>h.IsKeyIter I d i es.length ep/\h.get? d=some (cS es ep)) (fun i _ h=>h.IsKeyIter I d (i+1) es.length ep/\h.get? d=some (cS es ep)) where
 frame:=fun i h h' st kp=>⟨st.1.at fun o e=>kp I o (.inl (.head _)) e,kp d _ (.inr (.head _)) st.2⟩
 item:=fun i s Q E hi st hQ=>by
  have hx:es[i]?=some es[i]:=by simp [hi]
  exists VG st.1 st.2 hx,h',lC,cg;refine hQ _ h' s.toks ⟨_,hx,rfl⟩ ⟨lC,by rw[cg.2 d bN];exact st.2⟩ (fun b o hb e=>by rw[cg.2 b fun z=>hb (by simp [z])];exact e) fun b hb=>by
   rw[c9.mp hb];exists ae lC,o,ho,Z0
   try clear lC
   exact⟨o,ho⟩
 go:=fun i v s Q E st hQ=>by
  exists b7 (id st.1),o,ho,dc,Z0;exact HZ ho dc dq (hQ s.heap st (fun _ _ _ e=>e) fun b hb=>by rw[c9.mp hb];exact⟨o,ho⟩)
 done:=fun s Q E st hQ=>Sl hh st.1 st.2 (by simp) fun h' hx=>hQ h' s.toks fun b o hb e=>hx b o (fun z=>hb (by simp [z])) e
 self:=fun i s Q E st hQ=>wpAny_pyIter_keyiter st.1 hQ
theorem V7{items}(hit:s.heap.IsTupleIter it l i)
  (hl:s.heap.IsTuple l items) (hx:items[i]?=some x)
  (hQ:∀h',h'.IsTupleIter it l (i+1)->Heap.SameBut it s.heap h'->Q x { s with heap:=h' }) :
  wpAny (model prog w) A (Builtin.SmallTypes.nextOf (.ref it)) Q E s:=by
 exists b7 (id hit),o,ho,hc,hd;obtain⟨ol,qS,_,nl,fu⟩:=hl;unfold Builtin.SmallTypes.nextOf;refine a9 (wpAny_callSpecial?_slot (name:=Str.ofString "__next__") hit.typeIs PySem.F.slot_tuple_iterator_next
  (wpAny_call_entry PySem.F.slot_tuple_iterator_next hit.typeIs PySem.F.entry_tuple_iterator_next ?_ (PySem.F.args_tuple_iterator_next_1 _)))
 show wpAny _ _ (field (.ref it) 0 >>= _) _ _ s;refine a9 (wpAny_field ho hd (x:=.ref l) rfl ?_);refine eF (show ¬ ((Value.ref l == Value.none)=true)from Bool.false_ne_true) ?_;show wpAny _ _ (field (.ref it) 1 >>= _) _ _ s;refine a9 (wpAny_field ho hd (x:=.int i 0) rfl ?_);refine a9 (wpAny_seqItems qS fu ?_);simp only[Int.toNat_natCast,hx];refine a9 (wpAny_setField ho hd (by simp) (aw ⟨x,rfl,aw (hQ _ ?_ (Heap.SameBut.update ..))⟩));exact⟨_,Heap.get?_update_self _ ho (Obj.isFreed_of_fields (Obj.data_mapFields hd _)),(Obj.cls_mapFields ..).trans hc,by
  rw[Obj.data_mapFields hd];simp [rawInt]⟩
theorem Oy{items}(hh:A.handled=none)
  (hit:s.heap.IsTupleIter it l i) (hl:s.heap.IsTuple l items) (hx:items[i]?=none)
  (hE:∀h' e,Heap.ExtBut it s.heap h'->(∃o,h'.get? e=some o/\o.cls = .type "StopIteration")->E (.ref e) { s with heap:=h' }) :
  wpAny (model prog w) A (Builtin.SmallTypes.nextOf (.ref it)) Q E s:=by
 exists b7 (id hit),o,ho,hc,hd;clear hc;obtain⟨ol,qS,_,nl,fu⟩:=hl;unfold Builtin.SmallTypes.nextOf;refine a9 (wpAny_callSpecial?_slot (name:=Str.ofString "__next__") hit.typeIs PySem.F.slot_tuple_iterator_next
  (wpAny_call_entry PySem.F.slot_tuple_iterator_next hit.typeIs PySem.F.entry_tuple_iterator_next ?_ (PySem.F.args_tuple_iterator_next_1 _)))
 show wpAny _ _ (field (.ref it) 0 >>= _) _ _ s;refine a9 (wpAny_field ho hd (x:=.ref l) rfl ?_);refine eF (show ¬ ((Value.ref l == Value.none)=true)from Bool.false_ne_true) ?_;show wpAny _ _ (field (.ref it) 1 >>= _) _ _ s;refine a9 (wpAny_field ho hd (x:=.int i 0) rfl ?_);refine a9 (wpAny_seqItems qS fu ?_);simp only[Int.toNat_natCast,hx];refine a9 (wpAny_rule (a9 (wpAny_setField ho hd (by simp) ?_)));refine a9 ?_;simp only[newExc,newTuple];refine a9 (wpAny_newObj_type ?_ (by size_fits));refine a9 (m:=firstArgMember _ _) (wpAny_of_eq (a:=Value.none) (by first|rfl|(simp only[firstArgMember];rfl)) ?_)
 refine wpAny_newObj_type ?_ (by size_fits);unfold raiseNew;refine a9 (wpAny_handled ?_)
 first|rw[show A.in1.handled=none from hh]|rw[hh]
 refine a9 (aw (wpAny_throw ?_));exact hE _ _ (((Heap.SameBut.update ..).extBut.push _).push _) ⟨_,Heap.get?_push_size _ rfl,rfl⟩
theorem L4(hh:A.handled=none)(it l:Addr)(bN:l≠it)(items:Array Value) :
  Draws prog w A it [it,l] items.size (fun i v=>items[i]?=some v) (fun i h=>h.IsTupleIter it l i/\h.IsTuple l items) where
 live:=fun _ _ st=>let ⟨o,ho,_⟩:=st.1;⟨o,ho⟩
 frame:=fun _ _ _ st hk=>⟨st.1.at fun o e=>hk it (by simp) o e,st.2.at fun o e=>hk l (by simp) o e⟩
 item:=fun i s Q E hi st hQ=>by
  exists V7 st.1 st.2 (x:=items[i]) (by simp [hi]),h',lC,cg;exact hQ _ h' s.toks (by simp [hi]) ⟨lC,st.2.extBut cg.extBut bN⟩ cg
 done:=fun s Q E st hE=>Oy hh st.1 st.2 (by simp) hE
noncomputable def K0(P:Nat->Value->Prop):Nat->Heap->Value->Heap->Prop:=fun i h v h'=>∃T u x,v = .ref T/\h.get? T=none/\h'.get? T=some (d6 [.int (i:Int) u,x] 0)/\P i x
theorem Wh.enum{it l:Addr}{n:Nat}{P:Nat->Value->Prop}{St:Nat->Heap->Prop}(D:Draws prog w A.in1 it [it,l] n P St)(e:Addr)(kH:e≠it)(je:e≠l)(es:List PySem.Expr)(k:Nat)(p:Pos) :
  Wh prog w A (.Tuple es k p) e [e,it] [l] n (K0 P) (fun i h=>(∃old,IsEnum h e it i old)/\St i h) (fun i v h=>∃T x,v = .ref T/\IsEnumOut h e it ((i:Int)+1) x T/\St (i+1) h) where
 frame:=fun i h h' st kp=>by
  clear je kH;obtain⟨⟨old,he⟩,hs⟩:=st;refine⟨⟨old,kp e _ (.inl (.head _)) he⟩,D.frame _ _ _ hs fun b hb o x=>kp b o ?_ x⟩;clear x he hs kp D;rcases aH.mp hb with rfl|hb
  ·exact .inl (by simp)
  ·exact .inr hb
 item:=fun i s Q E hi st hQ=>by
  obtain⟨⟨old,he⟩,hs⟩:=st;exists wpAny_pyNext_enum_itemD D he hs hi kH (by simp [kH,je]),x,h',tk,hP,ho,cg,hT,d9,hk;exists hQ _ h' (tk+1) ⟨_,tk,x,rfl,cA _,hT,hP⟩ ⟨_,x,rfl,ho,cg⟩ (fun b o hb y=>hk b o (fun e'=>hb (by simp [e'])) (fun e'=>hb (by simp [e'])) y),b,hb;clear hk d9 hT hP he hs hQ hi je kH;rcases aH.mp hb with rfl|hb
  ·exact⟨_,ho⟩
  ·rw[c9.mp hb];exact D.live _ _ cg
 go:=fun i v s Q E st hQ=>by
  exists cx st,T,x,qn,ho,hs
  try clear st
  subst qn;exists wpAny_letOwnedTupleGo_enum ho,h',Cq,cg;have fF:St (i+1) h':=D.frame _ _ _ hs fun b hb o y=>(cg.2 b fun q=>by clear y cg Cq hs ho hQ D;subst q;simp [kH,je]at hb).trans y;exists hQ h' ⟨⟨x,by simpa using Cq⟩,fF⟩ (fun b o hb y=>(cg.2 b fun e'=>hb (by simp [e'])).trans y),b,hb;clear cg hs ho hQ je kH;rcases aH.mp hb with rfl|hb
  ·exact⟨_,Cq⟩
  ·rw[c9.mp hb];exact D.live _ _ fF
 done:=fun s Q E st hQ=>by
  clear je kH;obtain⟨⟨old,he⟩,hs⟩:=st;exact wpAny_pyNext_enum_endD D he hs fun h' hx=>hQ h' s.toks fun b o hb y=>hx b o (fun e'=>hb (by simp [e'])) y
 self:=fun i s Q E st hQ=>by
  clear je kH D;obtain⟨⟨old,he⟩,_⟩:=st;exact wpAny_pyIter_enum he hQ
theorem yg{A:Type}{p:A->Prop}{a b c d e:A}(h1:p a)(h2:p b)(h3:p c)(h4:p d)(h5:p e):∀x∈[a,b,c,d,e],p x:=fun x m=>by
 rcases aH.mp m with q|m
 ·exact q▸h1
 rcases aH.mp m with q|m
 ·exact q▸h2
 rcases aH.mp m with q|m
 ·exact q▸h3
 rcases aH.mp m with q|m
 ·exact q▸h4
 ·exact c9.mp m▸h5
theorem xW{A:Type}{a b c d e x:A}(h:x ∉ [a,b,c,d,e]):x≠a/\x≠b/\x≠c/\x≠d/\x≠e:=
 ⟨fun q=>h (q▸.head _),fun q=>h (q▸.tail _ (.head _)),fun q=>h (q▸.tail _ (.tail _ (.head _))),fun q=>h (q▸.tail _ (.tail _ (.tail _ (.head _)))),fun q=>h (q▸.tail _ (.tail _ (.tail _ (.tail _ (.head _)))))⟩
structure ZI (TI TO i1 i2 l1 l2:Addr) (xs ys:Array Value) (z:Addr) (m:Value) (j:Nat) (h:Heap):Prop where
 z:IsZip h z TI TO m
 t:IsPair h TI (.ref i1) (.ref i2)
 o:∃a b,IsPair h TO a b
 a:h.IsListIter i1 l1 j
 b:h.IsListIter i2 l2 j
 c:h.IsList l1 xs
 d:h.IsList l2 ys
theorem Wh.zip(hh:A.handled=none){z TI TO i1 i2 l1 l2:Addr}(D:ZipApart z TI TO i1 i2 l1 l2)(xs ys:Array Value)(es:List PySem.Expr)(k:Nat)(p:Pos) :
  Wh prog w A (.Tuple es k p) z [z,TI,TO,i1,i2] [l1,l2] (min xs.size ys.size) (fun i h v h'=>∃T x y,v = .ref T/\h.get? T=none/\h'.get? T=some (d6 [x,y] 0)/\xs[i]?=some x/\ys[i]?=some y)
   (fun i h=>ZI TI TO i1 i2 l1 l2 xs ys z .none i h) (fun i v h=>∃T,v = .ref T/\ZI TI TO i1 i2 l1 l2 xs ys z (rawInt T) (i+1) h) where
 frame:=fun i h h' S hk=>by
  exists de S.o,a,b,gX;exact⟨hk z _ (.inl (.head _)) S.z,hk TI _ (.inl (.tail _ (.head _))) S.t,⟨a,b,hk TO _ (.inl (.tail _ (.tail _ (.head _)))) gX⟩,S.a.at fun o e=>hk i1 o (.inl (.tail _ (.tail _ (.tail _ (.head _))))) e,
   S.b.at fun o e=>hk i2 o (.inl (.tail _ (.tail _ (.tail _ (.tail _ (.head _)))))) e,S.c.at fun o e=>hk l1 o (.inr (.head _)) e,S.d.at fun o e=>hk l2 o (.inr (.tail _ (.head _))) e⟩
 item:=fun i s Q E hi S hQ=>by
  exists de S.o,a,b,gX;have hx:=Array.getElem?_eq_getElem (Nat.lt_of_lt_of_le hi (Nat.min_le_left ..));have hy:=Array.getElem?_eq_getElem (Nat.lt_of_lt_of_le hi (Nat.min_le_right ..));exists wpAny_pyNext_zip_item D S.z S.t gX S.a S.b S.c S.d hx hy,h',a1,a2,a3,a4,a5,a6,hk;have rH:=hk _ _ D.TIz D.TITO D.TIi1 D.TIi2 S.t;exact hQ _ h' s.toks ⟨_,_,_,rfl,cA _,a5,hx,hy⟩
   ⟨_,rfl,a1,rH,⟨_,_,a2⟩,a3,a4,S.c.at fun o e=>hk _ o D.l1z D.l1TO D.l1i1 D.l1i2 e,S.d.at fun o e=>hk _ o D.l2z D.l2TO D.l2i1 D.l2i2 e⟩
   (fun c o hc e=>FX (xW hc) fun q1 _ q3 q4 q5=>hk c o q1 q3 q4 q5 e) (yg ⟨_,a1⟩ ⟨_,rH⟩ ⟨_,a2⟩ (a3.imp fun _ q=>q.1) (a4.imp fun _ q=>q.1))
 go:=fun i v s Q E hm hQ=>by
  exists ae hm,T,e,S;subst e;exists de S.o,a,b,gX;exists wpAny_letOwnedTupleGo_zip S.z,h',JM,cg;have rH:=cg.extBut _ _ D.TIz S.t;have E5:=cg.extBut _ _ D.TOz gX;have K8:=S.a.extBut cg.extBut D.i1z;have Fn:=S.b.extBut cg.extBut D.i2z;exact hQ h' ⟨JM,rH,⟨a,b,E5⟩,K8,Fn,S.c.extBut cg.extBut D.l1z,S.d.extBut cg.extBut D.l2z⟩ (fun c o hc e=>cg.extBut _ _ (xW hc).1 e) (yg ⟨_,JM⟩ ⟨_,rH⟩ ⟨_,E5⟩ (K8.imp fun _ q=>q.1) (Fn.imp fun _ q=>q.1))
 done:=fun s Q E S hQ=>by
  exists de S.o,a,b,gX;have Tx:xs[min xs.size ys.size]?=none\/ys[min xs.size ys.size]?=none:=by
   rcases Nat.le_total xs.size ys.size with h|h
   ·exact .inl (by rw[Nat.min_eq_left h];exact Array.getElem?_eq_none (cw _))
   ·exact .inr (by rw[Nat.min_eq_right h];exact Array.getElem?_eq_none (cw _))
  exact wpAny_pyNext_zip_end hh D S.z S.t gX S.a S.b S.c S.d Tx fun h' hk=>hQ h' s.toks fun c o hc e=>FX (xW hc) fun q1 _ q3 q4 q5=>hk c o q1 q3 q4 q5 e
 self:=fun i s Q E S hQ=>wpAny_pyIter_zip S.z hQ
end
end
section
open PySem PySem.Calls PyProof.Rows PySem.W
open AutoSeq1 (wpAny_loadPart')
theorem Wx(l:Addr)(items:Array Value)(n:Nat) :
  Meets (Builtin.«enumerate.__new__» ⟨[.type "enumerate",.ref l],[]⟩) (fun _ R s=>s.heap.get? l=some { cls:=.type "tuple",dict:=none,data:=.seq items n,slots:=#[] }/\
   R (.ok (.ret (.ref (s.heap.push { cls:=.type "tuple_iterator",data:=.fields #[.ref l,.int 0 0] }).objs.size)))
    { s with heap:=(s.heap.push { cls:=.type "tuple_iterator",data:=.fields #[.ref l,.int 0 0] }).push { cls:=.type "enumerate",data:=.fields #[.none,.bool false,.ref s.heap.objs.size,rawInt 0,.none,.none] } }):=
 .of_wp fun prog w A R s h=>by
  obtain⟨hp,g,d,tk,os⟩:=s;obtain⟨hl,h⟩:=h;have fO:=sub_enumerate;have hL:Heap.IsTuple (Shared.heap ⟨hp,g,d,tk,os⟩) l items:=⟨_,hl,rfl,n,rfl⟩
  wp_walk using wpAny_loadPart' hl
  refine wpAny_stack_any fun st=>aw ?_;generalize PySem.Builtin.SmallTypes.calledThroughType.match_1 (fun _=>Bool) (st.drop 1) (fun c _ _ _ _=>c == Value.type "enumerate") (fun _=>false)=b;clear fO hl;induction b using aB
  ·wp_walk using wpAny_loadPart' hl,wpAny_pyIter_tuple hL
   exact⟨_,rfl,h⟩
  ·wp_walk using wpAny_loadPart' hl,wpAny_pyIter_tuple hL
   exact⟨_,rfl,h⟩
section
variable {prog:Program} {w:World} {A:Around} {E:Value->Shared->Prop} {s:Shared}
theorem XS(hl:s.heap.get? l=some (d6 vs n))
  (h:∀h',IsEnum h' (s.heap.objs.size+1) s.heap.objs.size 0 .none->h'.IsTupleIter s.heap.objs.size l 0->(∀b o,s.heap.get? b=some o->h'.get? b=some o)->Q (.ref (s.heap.objs.size+1)) { s with heap:=h' }) :
  wpAny (model prog w) A (call (.type "enumerate") [.ref l]) Q E s:=by
 refine callType_new F.called_enumerate dq (F.typeCall_enumerate_1 _) (F.newCall_enumerate_1 _) (fun obj=>F.args_object_init_2 obj _) F.entry_enumerate_new
  (Wx l vs.toArray n) ⟨hl,?_⟩
 have hz:(s.heap.push { cls:=.type "tuple_iterator",data:=.fields #[.ref l,.int 0 0] }).objs.size=s.heap.objs.size+1:=Heap.size_push ..;rw[hz];have he:IsEnum ((s.heap.push { cls:=.type "tuple_iterator",data:=.fields #[.ref l,.int 0 0] }).push
   { cls:=.type "enumerate",data:=.fields #[.none,.bool false,.ref s.heap.objs.size,rawInt 0,.none,.none] }) (s.heap.objs.size+1) s.heap.objs.size 0 .none:=by
  have:=Heap.get?_push_size (s.heap.push { cls:=.type "tuple_iterator",data:=.fields #[.ref l,.int 0 0] })
   (o:={ cls:=.type "enumerate",data:=.fields #[.none,.bool false,.ref s.heap.objs.size,rawInt 0,.none,.none] }) rfl
  rw[hz]at this;exact this
 exact⟨⟨_,he,rfl⟩,h _ he ⟨_,Heap.get?_push_of_some _ (Heap.get?_push_size _ rfl),rfl,rfl⟩ fun b o x=>Heap.get?_push_of_some _ (Heap.get?_push_of_some _ x)⟩
end
structure Wk (C:Cf) (t:PySem.Expr) (I:Addr) (wr dR:List Addr) (ax:Ph) (H₁:Hp) (ao:Heap) (items:List V) (It:Nat->Heap->Value->Heap->Prop) (J:Nat->Heap->Prop) (Mid:Nat->Value->Heap->Prop):Prop where
 w:∀A,A.handled=none->Wh C.prog C.w A t I wr dR items.length It J Mid
 fr:∀b∈wr,ax.fr b
 dep:∀b∈dR,(∃o,ao.get? b=some o)/\¬ gS ax H₁ b/\¬ ax.fr b
 rel:∀i v y h h' φ H,items[i]?=some v->It i h y h'->C.I φ H h->(∀v x,C.R ax H₁ ao v x->C.R φ H h v x)->(∀b o,h.get? b=some o->¬ φ.fr b->h'.get? b=some o)->C.R φ H h' v y
section
variable {C:Cf} {φ:Ph} {H:Hp} {h h':Heap} {c:Cx} {n K:Nat}
noncomputable def Cf.fX(C:Cf)(t:PySem.Expr)(φ:Ph)(H:Hp)(s:Shared)(H₁:Hp)(vs items:List V)(Q:Value->Shared->Prop):Prop:=
 ∀I wr dR ax ao tk It J Mid,St φ H s.heap ax H₁ ao->C.I ax H₁ ao->Wk C t I wr dR ax (lockH H₁ vs) ao items It J Mid->J 0 ao->(∀b∈wr,s.heap.get? b=none)->Q (.ref I) { s with heap:=ao,toks:=tk }
theorem Cf.fX.step(P:C.fX t φ H s aE vs items Q)(S:St φ H s.heap ax H₁ ao)(I:C.I φ H s.heap)(ah:C.I ax H₁ ao):C.fX t ax H₁ { s with heap:=ao,toks:=tk₁ } aE vs items Q:=
 fun I' wr dR bp aV tk It J Mid aP aC W j f=>P I' wr dR bp aV tk It J Mid (S.trans aP I ah) aC W j fun b hb=>by
  clear j W aC aP ah I P;induction g:s.heap.get? b using aL with
  |none=>rfl
  |some o=>
   exists aD (S.alive b o g),o',g';rw[f b hb]at g';exact nq g'
noncomputable def Seen(H:Hp)(v:V):Prop:=∀k,v = .ref k->∃e∈H.es,e.id=k
theorem Bc(e:listView H v=some l):Seen H v:=fun k z=>by
 subst z;unfold listView at e;dsimp only at e;exists ml e,en,hl,e
 ·exists ak (fN hl),m,i;exact⟨en,m,i⟩
theorem UC(e:dictView H v=some l):Seen H v:=fun k z=>by
 subst z;unfold dictView at e;dsimp only at e;exists ml e,en,hl,e
 ·exists ak (fN hl),m,i;exact⟨en,m,i⟩
theorem F9(e:seqView H v=some l):Seen H v:=by
 induction v using Internal.V.casesOn with
 |tup=>intro k z;clear e;cases z
 |_=>exact Bc e
theorem rN(I:C.I φ H h)(r:C.R φ H h v (.ref a))(sn:Seen H v)(hv:v∈vs):(∃o,h.get? a=some o)/\¬ gS φ (lockH H vs) a/\¬ φ.fr a:=by
 have rn:∀{o},h.get? a=some o->¬ aT φ H a->(∃o,h.get? a=some o)/\¬ gS φ (lockH H vs) a/\¬ φ.fr a:=fun g m=>
  ⟨⟨_,g⟩,fun u=>m ((zP vs a).mp u.mut),fun f=>m (.inr f)⟩
 cases r with
 |tup g m _=>exact rn g m
 |lst g m _=>exact rn g m
 |dct g _ m _ _=>exact rn g m
 |@ref k _ hk=>
  exists ae (sn k rfl),e,m,i;exists b7 (I.objs e m),a',h1,Z0,h3;rw[i,hk]at h1;exists h1;refine⟨?_,?_,fun f=>(I.cC a f).2.1 e m (by rw[i];exact hk)⟩
  ·revert h3;clear i m hk hv sn rn I;induction e.obj using Internal.bq.casesOn with
   |list l=>rintro ⟨_,_,g,_⟩;exact⟨_,g⟩
   |dict l=>rintro ⟨_,_,g,_⟩;exact⟨_,g⟩
  ·rintro ⟨e',m',lk,q⟩;exists ae (gZ (ku vs H.es) m'),e2,m2,i2;have:e2=e:=hY I.nodup m2 m (I.inj e2 m2 e m (by rw[i2,q,i,hk]));clear m2 q h3 hk sn rn;subst this;exists pn (qZ vs H.es I.nodup e2 m),e1,m1,a1,Z0,Z0,d1,Z0;have hl:=d1 (by rw[i];exact hv);have N':((nk H.es vs).map (·.id)).Nodup:=by rw[ku];exact I.nodup
   have:e1=e':=hY N' m1 m' (a1.trans i2);clear N' d1 a1 m1 i m i2 m' hv I;subst this;rw[lk]at hl;exact bf hl
theorem C3(I:C.I φ H h)(k:∀b o,h.get? b=some o->h'.get? b=some o)(hJ:h.get? J=none)(Ux:∃o,h'.get? J=some o):C.I (φ.more (· = J)) H h'/\St φ H h (φ.more (· = J)) H h'/\(φ.more (· = J)).fr J:=
 let ⟨a,b⟩:=C.qj I k (F:=(· = J)) fun a e=>by clear k I;subst e;exact⟨hJ,Ux⟩
 ⟨a,b,.inr rfl⟩
set_option tactic.hygienic true in
theorem KR(he:C.SE n c e d)(t:PySem.Expr)(R:Rm A n)(I:C.I φ H s.heap)(X:ER C c ρ env φ H s.heap)
  (hd:d ρ H=some (v,H₁)) (hi:ze H₁ v=some items) (P:C.fX t φ H s H₁ [v] items Q):C.wp A (eval e env) (fun x s'=>C.wp A (pyIter x) Q E s') E s:=by
 exists he A env ρ φ H s v H₁ _ E R I X hd,x,ax,ao,b6,aA,ah,aR;have dk:=P.step (tk₁:=b6) aA I ah;clear P;unfold ze at hi;split at hi
 ·rename_i l hl;clear aA hd X I R he;cases hi;have sn:=F9 hl;exists dE (nN ah aR hl),a,vs,m,zo,hg,rs;clear hl;subst zo;have el:=rs.length;have ez:vs.toArray.size=items.length:=by rw[el];simp
  clear el;obtain⟨⟨o,ho⟩,hu,hf⟩:=rN ah aR sn (vs:=[v]) (.head _);have bN:a≠ao.objs.size:=fun z=>by rw[z,cA]at ho;exact nq ho
  have fin:∀(ob:Obj) {It:Nat->Heap->Value->Heap->Prop} {J:Nat->Heap->Prop} {Mid:Nat->Value->Heap->Prop},ob.isFreed=false->J 0 (ao.push ob)->(∀A:Around,A.handled=none->Wh C.prog C.w A t ao.objs.size [ao.objs.size] [a] items.length (Plain fun i v=>vs.toArray[i]?=some v) J Mid)->
    Q (.ref ao.objs.size) { s with heap:=ao.push ob,toks:=b6 }:=by
   intro ob It J Mid Af j W;refine dK (C3 ah (cV ao ob) (cA ao) ⟨_,Heap.get?_push_size _ Af⟩) fun aC aP jE=>?_;refine dk _ [ao.objs.size] [a] _ _ b6 (Plain fun i v=>vs.toArray[i]?=some v) J Mid aP aC ⟨W,fun b hb=>by rw[c9.mp hb];exact jE,fun b hb=>?_,fun i v' y h h' φ H hv hy I' tr kp=>?_⟩ j fun b hb=>by rw[c9.mp hb];exact cA _
   ·rw[c9.mp hb];refine⟨⟨o,cV ao ob _ _ ho⟩,fun u=>hu u,fun f=>?_⟩;clear hb jE aP aC W j Af hu ho ez aR rs hg sn dk ah;rcases f with f|f
    ·exact hf f
    ·exact bN f
   ·exists ae (rs.get hv),y',mh,r';have hy:vs.toArray[i]?=some y:=hy;rw[List.getElem?_toArray,mh]at hy;clear mh I' hv jE aC W j Af bN hf hu ho ez aR rs hg sn dk;cases hy;exact fT kp (tr _ _ (lQ [v] (aP.vr ah r')))
  clear hf hu ho aR rs sn dk ah;rcases hg with hg|hg
  ·have hT:ao.IsTuple a vs.toArray:=⟨_,hg,rfl,m,rfl⟩;refine wpAny_pyIter_tuple (s:={ s with heap:=ao,toks:=b6 }) hT ?_;exact fin { cls:=.type "tuple_iterator",data:=.fields #[.ref a,.int 0 0] } (It:=Plain fun i v=>vs.toArray[i]?=some v) (J:=fun i h=>h.IsTupleIter ao.objs.size a i/\h.IsTuple a vs.toArray) (Mid:=fun i _ h=>h.IsTupleIter ao.objs.size a (i+1)/\h.IsTuple a vs.toArray) rfl ⟨⟨_,Heap.get?_push_size _ rfl,rfl,rfl⟩,hT.push _⟩ fun A' hA=>by
    have:=Wh.tuple (prog:=C.prog) (w:=C.w) hA t ao.objs.size a bN vs.toArray;rw[ez]at this;exact this
  ·have hL:ao.IsList a vs.toArray:=⟨_,hg,rfl,m,rfl⟩;refine wpAny_pyIter_list (s:={ s with heap:=ao,toks:=b6 }) hL ?_;exact fin { cls:=.type "list_iterator",data:=.fields #[.ref a,.int 0 0] } (It:=Plain fun i v=>vs.toArray[i]?=some v) (J:=fun i h=>h.IsListIter ao.objs.size a i/\h.IsList a vs.toArray) (Mid:=fun i _ h=>h.IsListIter ao.objs.size a (i+1)/\h.IsList a vs.toArray) rfl ⟨⟨_,Heap.get?_push_size _ rfl,rfl,rfl⟩,hL.push _⟩ fun A' hA=>by
    have:=Wh.list (prog:=C.prog) (w:=C.w) hA t ao.objs.size a bN vs.toArray;rw[ez]at this;exact this
 ·exists xl hi,l,hl,hi
  ·clear aA hd X I R he;cases hi;have sn:=UC hl;exists jV (sa ah aR hl),a,es,m,Sf,hg,re,nd,ns;clear nd hl;subst Sf;obtain⟨⟨o,ho⟩,hu,hf⟩:=rN ah aR sn (vs:=[v]) (.head _);have bN:a≠ao.objs.size:=fun z=>by rw[z,cA]at ho;exact nq ho
   have zS:es.length=l.length:=by clear bN hf hu ho aR ns hg sn dk ah;obtain⟨xs,px,rfl⟩:=EX.of re;rw[aJ];exact px.length
   refine TP (s:={ s with heap:=ao,toks:=b6 }) (s6 ns) hg ?_;refine dK (C3 ah (cV ao { cls:=.type "dict_keyiterator",data:=.fields #[.ref a,.int 0 0,.int es.length 0,.int m 0] }) (cA ao) ⟨_,Heap.get?_push_size _ rfl⟩) fun aC aP jE=>?_;refine dk _ [ao.objs.size] [a] _ _ b6 (Plain fun i v=>∃e,es[i]?=some e/\v=e.key) (fun i h=>h.IsKeyIter ao.objs.size a i es.length m/\h.get? a=some (cS es m)) (fun i _ h=>h.IsKeyIter ao.objs.size a (i+1) es.length m/\h.get? a=some (cS es m)) aP aC
    ⟨fun A' hA=>?_,fun b hb=>by rw[c9.mp hb];exact jE,fun b hb=>?_,fun i v' y h h' φ H hv hy I' tr kp=>?_⟩ ⟨⟨_,Heap.get?_push_size _ rfl,rfl,rfl⟩,cV ao _ _ _ hg⟩ fun b hb=>by rw[c9.mp hb];exact cA _
   ·have:=Wh.keys (prog:=C.prog) (w:=C.w) hA t ao.objs.size a bN es m;rw[aJ,<- zS];exact this
   ·rw[c9.mp hb];refine⟨⟨o,cV ao _ _ _ ho⟩,fun u=>hu u,fun f=>?_⟩;clear hb jE aP aC zS hu ho aR ns re hg sn dk ah;rcases f with f|f
    ·exact hf f
    ·exact bN f
   ·exists ae hy,en,he,qA
    try clear hy
    clear I' jE aC zS bN hf hu ho aR ns hg sn dk;subst qA;have key:∀{l:List (List Int×V)} {es:List DictEntry},C.Es ax H₁ ao l es->∀{i:Nat} {v':V} {en:DictEntry},(l.map fun e=>ofKey e.1)[i]?=some v'->es[i]?=some en->C.R ax H₁ ao v' en.key:=by
     intro l es re;clear kp tr hv aP ah;induction l generalizing es with
     |nil=>intro i v' en hv;simp at hv
     |cons x l ih=>
      intro i v' en hv tQ;obtain⟨k',w'⟩:=x;cases re with
      |cons q1 q2 q3 q4 q5=>
       induction i using bL with
       |zero=>
        simp at hv tQ;subst hv tQ;rw[q1];exact q3
       |succ i=>simp at hv tQ;exact ih q5 (by simpa using hv) tQ
    exact fT kp (tr _ _ (lQ [v] (aP.vr ah (key re hv he))))
end
end
section
open PySem PySem.Calls PyProof.Rows PySem.W
section
variable {C:Cf} {φ:Ph} {H:Hp} {h h':Heap} {c:Cx} {n K:Nat}
theorem uB{lo hi x:Int}(e:inB lo hi x=true):lo<=x/\x<=hi:=by
 unfold inB at e;rw[ilt_eq,ilt_eq]at e;by_cases a:x<lo
 ·rw[decide_eq_true a]at e;exact bf e
 ·rw[decide_eq_false a]at e;by_cases b:hi<x
  ·rw[decide_eq_true b]at e;exact bf e
  ·lia
theorem W5(n:Nat):∀(a:Int) (i:Nat) {v:V},(rangeL a n)[i]?=some v->v = .int (a+i):=by
 induction n with
 |zero=>intro a i v e;exact nq e
 |succ n ih=>
  intro a i v e
  induction i using bL with
  |zero=>rw[<- aI e];simp
  |succ i=>
   rw[ih (a+1) i e];congr 1;push_cast;lia
theorem Zl(n:Nat):∀(a:Int),(rangeL a n).length=n:=by
 induction n with
 |zero=>
  intro _;exact rfl
 |succ n ih=>
  intro a;simp [rangeL,ih]
theorem Ql(l:List V):∀(j:Int) (i:Nat) {v:V},(enumL j l)[i]?=some v->∃x,l[i]?=some x/\v = .tup [.int (j+i),x]:=by
 induction l with
 |nil=>intro j i v e;exact nq e
 |cons x l ih=>
  intro j i v e
  induction i using bL with
  |zero=>exact⟨x,rfl,by rw[<- aI e];simp⟩
  |succ i=>
   exists ae (ih (j+1) i e),y,h1,h2;refine⟨y,h1,?_⟩;rw[h2];congr 3;push_cast;lia
theorem Li(l:List V):∀(j:Int),(enumL j l).length=l.length:=by
 induction l with
 |nil=>
  intro _;exact rfl
 |cons x l ih=>
  intro j;simp [enumL,ih]
theorem zip_get(l:List V):∀(m:List V) (i:Nat) {v:V},(zipL l m)[i]?=some v->∃x y,l[i]?=some x/\m[i]?=some y/\v = .tup [x,y]:=by
 induction l with
 |nil=>intro m i v e;exact nq e
 |cons x l ih=>
  intro m i v e
  induction m using aN with
  |nil=>exact nq e
  |cons y m=>induction i using bL with
   |zero=>exact⟨x,y,rfl,rfl,(aI e).symm⟩
   |succ i=>exact ih m i e
theorem Ub(l:List V):∀(m:List V),(zipL l m).length=min l.length m.length:=by
 induction l with
 |nil=>intro m;exact(Nat.zero_min _).symm
 |cons x l ih=>
  intro m
  induction m using aN with
  |nil=>exact(Nat.min_zero _).symm
  |cons y m=>exact(congrArg Nat.succ (ih m)).trans (Nat.succ_min_succ ..).symm
theorem G9(I:C.I φ H s.heap)(ha : -100000<=a/\a<=100000)(hb : -100000<=b/\b<=100000)
  (hr:IsRange s.heap r a b 1 u v w) (P:C.fX t φ H s H vs (rangeL a (b - a).toNat) Q):C.wp A (pyIter (.ref r)) Q E s:=by
 have d9:Builtin.Range.rangeSize a b 1=((b - a).toNat:Int):=by
  unfold Builtin.Range.rangeSize;simp
  lia
 have g7:∀x:Int,-300000<=x->x<=300000->Builtin.Range.rangeFitsLong x=true:=fun x h1 h2=>by
  unfold Builtin.Range.rangeFitsLong;simp;lia
 have Dg:Builtin.Range.small a b 1=true:=by
  unfold Builtin.Range.small;rw[d9,g7 a (by lia) (by lia),g7 b (by lia) (by lia),g7 1 (Int.neg_ofNat_le_ofNat 300000 1) dq,g7 ((b - a).toNat:Int) (Int.neg_ofNat_le_natCast 300000 (b - a).toNat) (by lia)];simp;exact .inr (g7 b (by lia) (by lia))
 refine wpAny_pyIter_range hr Dg ?_;rw[d9];refine dK (C3 I (cV s.heap { cls:=.type "range_iterator",data:=.fields #[rawInt a,rawInt ((b - a).toNat:Int),rawInt 1] }) (cA s.heap) ⟨_,Heap.get?_push_size _ rfl⟩) fun aC aP jE=>?_;refine P _ [s.heap.objs.size] [] _ _ s.toks (Plain fun i v=>∃u,v = .int (a+i * 1) u) (fun i h=>IsRangeIter h s.heap.objs.size (a+(i:Nat) * 1) (((b - a).toNat:Int) - (i:Nat)) 1)
  (fun i _ h=>IsRangeIter h s.heap.objs.size (a+((i+1:Nat):Nat) * 1) (((b - a).toNat:Int) - ((i+1:Nat):Nat)) 1) aP aC
  ⟨fun A' hA=>?_,fun b hb=>by rw[c9.mp hb];exact jE,fun b hb=>(nomatch hb),fun i v' y h h' φ H hv hy I' tr kp=>?_⟩ ?_ fun b hb=>by rw[c9.mp hb];exact cA _
 ·have:=Wh.range (prog:=C.prog) (w:=C.w) hA t s.heap.objs.size a (b - a).toNat;rw[Zl];exact this
 ·exists aD hy,u,RX
  try clear hy
  clear kp tr I' jE aP aC Dg g7 d9 P hr hb ha I;subst RX;rw[W5 _ _ _ hv,Int.mul_one];exact .int _ _
 ·have:=Heap.get?_push_size s.heap (o:={ cls:=.type "range_iterator",data:=.fields #[rawInt a,rawInt ((b - a).toNat:Int),rawInt 1] }) rfl;show _=some _;rw[this];simp
theorem WW(I:C.I φ H s.heap)(r:C.R φ H s.heap v x)(hl:seqView H v=some l)
  (P:C.fX (.Tuple es k p) φ H s H [v] (enumL 0 l) Q):C.wp A (call (.type "enumerate") [x]) (fun y s'=>C.wp A (pyIter y) Q E s') E s:=by
 exists dE (nN I r hl),a,vs,m,Me,hg,rs;subst Me;have el:=rs.length;have ez:vs.toArray.size=l.length:=by rw[el];simp
 clear el;obtain⟨⟨o,ho⟩,hu,hf⟩:=rN I r (F9 hl) (vs:=[v]) (.head _);have halt:a<s.heap.objs.size:=Heap.lt_size ho;have fin:∀(h':Heap) (St:Nat->Heap->Prop),IsEnum h' (s.heap.objs.size+1) s.heap.objs.size 0 .none->St 0 h'->(∀b o,s.heap.get? b=some o->h'.get? b=some o)->
   (∀A:Around,A.handled=none->Draws C.prog C.w A.in1 s.heap.objs.size [s.heap.objs.size,a] l.length (fun i v=>vs.toArray[i]?=some v) St)->C.wp A (pyIter (.ref (s.heap.objs.size+1))) Q E { s with heap:=h' }:=by
  intro h' St he h0 kp D;refine wpAny_pyIter_enum (s:={ s with heap:=h' }) he ?_;have D0:=D ⟨none,0,none,none,0⟩ rfl;have dH:s.heap.get? (s.heap.objs.size+1)=none:=by
   clear D0 D kp h0 he halt hf hu ho ez rs hg r P hl I;induction q:s.heap.get? (s.heap.objs.size+1)using aL with
   |none=>rfl
   |some o=>exact absurd (Heap.lt_size q) (Nat.not_lt.mpr (eU _))
  clear ez hg r hl;obtain⟨aC,aP⟩:=C.qj I kp (F:=fun b=>b=s.heap.objs.size\/b=s.heap.objs.size+1) fun b hb=>by
   clear D kp halt hf hu ho rs P I;rcases hb with rfl|rfl
   ·exact⟨cA _,D0.live _ _ h0⟩
   ·exact⟨dH,_,he⟩
  refine P (s.heap.objs.size+1) [s.heap.objs.size+1,s.heap.objs.size] [a] _ h' s.toks (K0 fun i v=>vs.toArray[i]?=some v) (fun i h=>(∃old,IsEnum h (s.heap.objs.size+1) s.heap.objs.size i old)/\St i h)
   (fun i v h=>∃T x,v = .ref T/\IsEnumOut h (s.heap.objs.size+1) s.heap.objs.size ((i:Int)+1) x T/\St (i+1) h) aP aC ⟨fun A' hA=>?_,fun b hb=>?_,fun b hb=>?_,fun i v' y h h' φ H hv hy I' tr kp=>?_⟩ ⟨⟨_,he⟩,h0⟩ fun b hb=>?_
  ·rw[Li];exact Wh.enum (D A' hA) (s.heap.objs.size+1) (by simp) (by have:a<s.heap.objs.size+1:=Nat.lt_succ_of_lt halt;exact Nat.ne_of_gt this) es k p
  ·clear aP aC dH D0 D kp h0 he halt hf hu ho rs P I;rcases aH.mp hb with rfl|hb
   ·exact .inr (.inr rfl)
   ·rw[c9.mp hb];exact .inr (.inl rfl)
  ·rw[c9.mp hb];refine⟨⟨o,kp _ _ ho⟩,fun u=>hu u,fun f=>?_⟩;clear hb aP aC dH D0 D kp h0 he hu ho rs P I;rcases f with f|f|f
   ·exact hf f
   ·exact kT _ (f▸halt)
   ·exact kT _ (Nat.lt_trans (Nat.lt_succ_self _) (f▸halt))
  ·clear aC dH D0 D h0 he halt hf hu ho P;obtain⟨T,u,x,rfl,g1,g2,hx⟩:=hy;exists ae (Ql _ _ _ hv),w,hw,xI;subst xI;clear hv;obtain⟨y',mh,r'⟩:=rs.get hw;rw[List.getElem?_toArray,mh]at hx;clear mh hw rs;exists hx;refine .tup g2 (vl I' g1) (.cons (by rw[Int.zero_add];exact .int _ _) (.cons (fT kp (tr _ _ (lQ [v] (aP.vr I r')))) .nil))
  ·clear aP aC D0 D kp h0 he halt hf hu ho rs P I;rcases aH.mp hb with rfl|hb
   ·exact dH
   ·rw[c9.mp hb];exact cA _
 have bN:a≠s.heap.objs.size:=eR halt;clear halt hf hu ho rs r P hl I;rcases hg with hg|hg
 ·exists XS hg,h',he,hi,kp;exact fin h' (fun i h=>h.IsTupleIter s.heap.objs.size a i/\h.IsTuple a vs.toArray) he ⟨hi,⟨_,kp _ _ hg,rfl,m,rfl⟩⟩ kp fun A' hA=>by
   have:=L4 (prog:=C.prog) (w:=C.w) (A:=A'.in1) hA s.heap.objs.size a bN vs.toArray;rw[ez]at this;exact this
 ·have hL:s.heap.IsList a vs.toArray:=⟨_,hg,rfl,m,rfl⟩;exists call_enumerate_list hL,h',he,hi,Z0,kp;exact fin h' (fun i h=>h.IsListIter s.heap.objs.size a i/\h.IsList a vs.toArray) he ⟨hi,⟨_,kp _ _ hg,rfl,m,rfl⟩⟩ kp fun A' hA=>by
   have:=Draws.list (prog:=C.prog) (w:=C.w) (A:=A'.in1) hA s.heap.objs.size a bN vs.toArray;rw[ez]at this;exact this
theorem aaM(N a b:Nat)(la:a<N)(lb:b<N):ZipApart (N+4) (N+2) (N+3) N (N+1) a b:=by
 constructor <;> (show(_:Nat)≠(_:Nat)) <;> lia
theorem YF(I:C.I φ H s.heap)(r:C.R φ H s.heap v x)(r2:C.R φ H s.heap v2 x2)(hl:listView H v=some l)(hl2:listView H v2=some l2)
  (P:C.fX (.Tuple es k p) φ H s H [v,v2] (zipL l l2) Q):C.wp A (call (.type "zip") [x,x2]) (fun y s'=>C.wp A (pyIter y) Q E s') E s:=by
 exists dE (gj I r hl),a,vs,m,Uj,hg,rs;subst Uj;exists dE (gj I r2 hl2),b,us,m2,Ra,pG,qs;subst Ra;have e1:=rs.length;have e2:=qs.length;obtain⟨⟨o,ho⟩,hu,hf⟩:=rN I r (Bc hl) (vs:=[v,v2]) (.head _);clear r hl;obtain⟨⟨o2,sA⟩,ud,uT⟩:=rN I r2 (Bc hl2) (vs:=[v,v2]) (.tail _ (.head _));have la:a<s.heap.objs.size:=Heap.lt_size ho;have lb:b<s.heap.objs.size:=Heap.lt_size sA;have hL:s.heap.IsList a vs.toArray:=⟨_,hg,rfl,m,rfl⟩;have xN:s.heap.IsList b us.toArray:=⟨_,pG,rfl,m2,rfl⟩;generalize hN:s.heap.objs.size=N at la lb;have dH:∀j,s.heap.get? (N+j)=none:=fun j=>by
  clear lb la xN hL uT ud sA hf hu ho e2 e1 qs pG r2 rs hg P hl2 I;induction q:s.heap.get? (N+j)using aL with
  |none=>rfl
  |some o=>have:=Heap.lt_size q;rw[hN]at this;exact absurd this (by have:=Nat.le_add_right N j;exact Nat.not_lt.mpr this)
 have D:=aaM N a b la lb;exists call_zip_2 hL xN,h',hz,qU,gX,h1,h2,Z0,kp;rw[hN]at hz qU gX h1 h2 ⊢;refine wpAny_pyIter_zip (s:={ s with heap:=h' }) hz ?_;clear xN hL r2 hl2;obtain⟨aC,aP⟩:=C.qj I kp (F:=fun b=>b=N+4\/b=N+2\/b=N+3\/b=N\/b=N+1) fun b hb=>by
  clear kp D lb la hN uT ud sA hf hu ho e2 e1 qs pG rs hg P I;rcases hb with rfl|rfl|rfl|rfl|rfl
  ·exact⟨dH 4,_,hz⟩
  ·exact⟨dH 2,_,qU⟩
  ·exact⟨dH 3,_,gX⟩
  ·exact⟨dH 0,let ⟨o,e,_⟩:=h1;⟨o,e⟩⟩
  ·exact⟨dH 1,let ⟨o,e,_⟩:=h2;⟨o,e⟩⟩
 refine P (N+4) [N+4,N+2,N+3,N,N+1] [a,b] _ h' s.toks (fun i h v h'=>∃T x y,v = .ref T/\h.get? T=none/\h'.get? T=some (d6 [x,y] 0)/\vs.toArray[i]?=some x/\us.toArray[i]?=some y)
  (fun i h=>ZI (N+2) (N+3) N (N+1) a b vs.toArray us.toArray (N+4) .none i h)
  (fun i v h=>∃T,v = .ref T/\ZI (N+2) (N+3) N (N+1) a b vs.toArray us.toArray (N+4) (rawInt T) (i+1) h) aP aC
  ⟨fun A' hA=>?_,fun b hb=>?_,fun b' hb=>?_,fun i v' y h h' φ H hv hy I' tr kp=>?_⟩ ⟨hz,qU,⟨_,_,gX⟩,h1,h2,⟨_,kp _ _ hg,rfl,m,rfl⟩,⟨_,kp _ _ pG,rfl,m2,rfl⟩⟩ fun b hb=>?_
 ·have:=Wh.zip (prog:=C.prog) (w:=C.w) hA D vs.toArray us.toArray es k p;have ez:min vs.toArray.size us.toArray.size=(zipL l l2).length:=by rw[Ub,e1,e2];simp
  rw[ez]at this;exact this
 ·simp at hb;exact .inr hb
 ·have hb:b'=a\/b'=b:=by simpa using hb
  have apart:∀{x:Nat},x<N->¬ (x=N+4\/x=N+2\/x=N+3\/x=N\/x=N+1):=fun h=>by lia
  clear aP aC h2 h1 gX qU hz D dH hN e2 e1 qs pG rs hg P I;rcases hb with rfl|rfl
  ·exact⟨⟨o,kp _ _ ho⟩,fun u=>hu u,fun f=>f.elim hf (apart la)⟩
  ·exact⟨⟨o2,kp _ _ sA⟩,fun u=>ud u,fun f=>f.elim uT (apart lb)⟩
 ·clear aC h2 h1 gX qU hz D dH lb la hN uT ud sA hf hu ho e2 e1 pG hg P;obtain⟨T,x,y,rfl,g1,g2,hx,hy⟩:=hy;exists cx (zip_get _ _ _ hv),w1,w2,q1,q2,M9;subst M9;clear hv;obtain⟨y1,Kl,r1⟩:=rs.get q1;clear q1 rs;obtain⟨y2,Ka,r2⟩:=qs.get q2;rw[List.getElem?_toArray,Kl]at hx;rw[List.getElem?_toArray,Ka]at hy;clear Ka Kl q2 qs;exists hx;exists hy;exact .tup g2 (vl I' g1) (.cons (fT kp (tr _ _ (lQ _ (aP.vr I r1)))) (.cons (fT kp (tr _ _ (lQ _ (aP.vr I r2)))) .nil))
 ·exact yg (p:=fun b=>s.heap.get? b=none) (dH 4) (dH 2) (dH 3) (dH 0) (dH 1) b hb
section
variable {A:Around} {s:Shared} {items:List V} {Q:Value->Shared->Prop} {E:Value->Shared->Prop} {t:PySem.Expr} {xs:List Value}
theorem ZO(I:C.I φ H s.heap)(rs:C.Rs φ H s.heap [v] xs)(hi:iterOf H .enum [v]=some items)(P:C.fX (.Tuple es k p) φ H s H [v] items Q) :
  C.wp A (PySem.call (.type "enumerate") xs) (fun x s'=>C.wp A (pyIter x) Q E s') E s:=by
 exists ae (fA rs),x,z,r;subst z;exists fY (show(match seqView H v with|some l=>some (enumL 0 l)|none=>none)=some items from hi),l,hl,e
 cases aI e;exact WW I r hl P
theorem Rx(I:C.I φ H s.heap)(rs:C.Rs φ H s.heap [v] xs)(hi:iterOf H .range1 [v]=some items)(P:C.fX t φ H s H [v] items Q) :
  C.wp A (PySem.call (.type "range") xs) (fun x s'=>C.wp A (pyIter x) Q E s') E s:=by
 exists ae (fA rs),x,z,r;subst z
 induction v using Internal.V.casesOn with
 |int b=>
  exists aD (int_at r),u,z;subst z;exists cm (show(match inB (-100000) 100000 b with|true=>some (rangeL 0 b.toNat)|false=>none)=some items from hi),hb,e
  cases aI e;refine call_range_1 ?_;refine ak (C.grow I (cV s.heap { cls:=.type "range",data:=.fields #[.int 0 s.toks,.int b u,.int 1 (s.toks+1)] })) fun aC aP=>?_;refine G9 (t:=t) (vs:=[.int b]) (s:={ s with heap:=s.heap.push { cls:=.type "range",data:=.fields #[.int 0 s.toks,.int b u,.int 1 (s.toks+1)] },toks:=s.toks+1+1 }) aC (uB rfl) (uB hb) (IsRange.new ..) ?_;rw[Int.sub_zero];exact P.step aP I aC
 |_=>exact nq hi
theorem Oz(I:C.I φ H s.heap)(rs:C.Rs φ H s.heap [v,v2] xs)(hi:iterOf H .range2 [v,v2]=some items)(P:C.fX t φ H s H [v,v2] items Q) :
  C.wp A (PySem.call (.type "range") xs) (fun x s'=>C.wp A (pyIter x) Q E s') E s:=by
 exists cx (oL rs),x,x2,z,r,r2;subst z
 induction v using Internal.V.casesOn with
 |int a=>
  induction v2 using Internal.V.casesOn with
  |int b=>
   exists aD (int_at r),u,z;subst z;exists aD (int_at r2),u2,z;subst z;exists cm (show(match inB (-100000) 100000 a with|true=>(match inB (-100000) 100000 b with|true=>some (rangeL a (b - a).toNat)|false=>none)|false=>none)=some items from hi),ha,e
   exists cm e,hb,e;cases aI e;refine call_range_2 ?_;refine ak (C.grow I (cV s.heap { cls:=.type "range",data:=.fields #[.int a u,.int b u2,.int 1 s.toks] })) fun aC aP=>?_;refine G9 (t:=t) (vs:=[.int a,.int b]) (s:={ s with heap:=s.heap.push { cls:=.type "range",data:=.fields #[.int a u,.int b u2,.int 1 s.toks] },toks:=s.toks+1 }) aC (uB ha) (uB hb) (IsRange.new ..) ?_;exact P.step aP I aC
  |_=>exact nq hi
 |_=>exact nq hi
theorem Ky(I:C.I φ H s.heap)(rs:C.Rs φ H s.heap [v,v2] xs)(hi:iterOf H .zip [v,v2]=some items)(P:C.fX (.Tuple es k p) φ H s H [v,v2] items Q) :
  C.wp A (PySem.call (.type "zip") xs) (fun x s'=>C.wp A (pyIter x) Q E s') E s:=by
 exists cx (oL rs),x,x2,z,r,r2;subst z;have hi:(match listView H v,listView H v2 with|some x,some y=>some (zipL x y)|_,_=>none)=some items:=hi
 induction hl1:listView H v using aL with
 |none=>rw[hl1]at hi;exact nq hi
 |some l=>induction hl2:listView H v2 using aL with
  |none=>rw[hl1,hl2]at hi;exact nq hi
  |some l2=>
   rw[hl1,hl2]at hi;cases aI hi;exact YF I r r2 hl1 hl2 P
end
theorem Pz(G:Gl C c.gl K)(hg:c.glob f=some (.it k))(h:bY (fun e m=>notStar e=true/\C.SE n c e (dn m)) es ms)
  (hk:(k = .enum/\ms.length=1/\ik = .enum)\/(k = .range1/\ms.length=1/\ik = .range1)\/(k = .range1/\ms.length=2/\ik = .range2)\/(k = .zip/\ms.length=2/\ik = .zip))
  {t:PySem.Expr} (ht:k = .enum\/k = .zip->∃es k p,t = .Tuple es k p) {A:Around} {env:Env} {ρ:ai} {s:Shared} {vs:List V} {H₁:Hp} {items:List V} {Q:Value->Shared->Prop} {E:Value->Shared->Prop} (R:Rm A n) (I:C.I φ H s.heap) (X:ER C c ρ env φ H s.heap)
  (hd:denL dn ρ ms H=some (vs,H₁)) (hi:iterOf H₁ ik vs=some items) (P:C.fX t φ H s H₁ vs items Q):C.wp A (eval (.Call (.Name f p) es [] pos) env) (fun x s'=>C.wp A (pyIter x) Q E s') E s:=by
 exists sI G.env,mg,mb,h1,h2,h3,h4,h5,h6;exists ak (h6 f k (jS hg).2),hm,hy;have hlen:=zE hd;refine Call_Name rfl (vj X hg (G.plain f _ (jS hg).2) (loadGlobal_builtin (mg:=mg) (mb:=mb) ?_ hm ?_ hy ?_))
 ·rw[X.glob];exact ip h1 fun o e=>I.base _ _ e
 ·rw[X.blt];exact ip h2 fun o e=>I.base _ _ e
 ·have tp:=(yr (pos:=pos) (env:=env) h).1;have call:∀T,sz k = .type T->(∀ax ao b6 xs,St φ H s.heap ax H₁ ao->C.I ax H₁ ao->C.Rs ax H₁ ao vs xs->C.fX t ax H₁ { s with heap:=ao,toks:=b6 } H₁ vs items Q->C.wp A (PySem.call (.type T) xs) (fun x s'=>C.wp A (pyIter x) Q E s') E { s with heap:=ao,toks:=b6 })->
    C.wp A (callWith pos (sz k) [] (backTo pos (starEach es env)) []) (fun x s'=>C.wp A (pyIter x) Q E s') E s:=by
   intro T hT hc;rw[hT];refine PyProof.Rows.callWith_type tp (qu h ?_);exact q6 es ms h A env ρ φ H s vs H₁ _ E R I X hd (fun xs ax ao b6 aA ah aR=>hc ax ao b6 xs aA ah aR (P.step aA I ah)) pos
  clear tp hy hm h6 h5 h4 h3 h2 h1 X I R h hg G;rcases hk with⟨ek,hl,ei⟩|⟨ek,hl,ei⟩|⟨ek,hl,ei⟩|⟨ek,hl,ei⟩
  ·refine call "enumerate" (by rw[ek];rfl) fun ax ao b6 xs aA ah rs dk=>?_;exact aD (Bm (hlen.trans hl)) fun v z=>lh (ht (.inl ek)) fun MX k' p' z2=>ZO (s:={ s with heap:=ao,toks:=b6 }) ah (z▸rs) (z▸ei▸hi) (z2▸z▸dk)
  ·refine call "range" (by rw[ek];rfl) fun ax ao b6 xs aA ah rs dk=>?_;exact aD (Bm (hlen.trans hl)) fun v z=>Rx (s:={ s with heap:=ao,toks:=b6 }) ah (z▸rs) (z▸ei▸hi) (z▸dk)
  ·refine call "range" (by rw[ek];rfl) fun ax ao b6 xs aA ah rs dk=>?_;exact de (q7 (hlen.trans hl)) fun v v2 z=>Oz (s:={ s with heap:=ao,toks:=b6 }) ah (z▸rs) (z▸ei▸hi) (z▸dk)
  ·refine call "zip" (by rw[ek];rfl) fun ax ao b6 xs aA ah rs dk=>?_;exact de (q7 (hlen.trans hl)) fun v v2 z=>lh (ht (.inr ek)) fun MX k' p' z2=>Ky (s:={ s with heap:=ao,toks:=b6 }) ah (z▸rs) (z▸ei▸hi) (z2▸z▸dk)
end
end
section
open PySem PySem.Calls PyProof.Rows PySem.W
theorem zF:pD l=true->l.Nodup:=by
 induction l with
 |nil=>
  intro _;exact .nil
 |cons a r ih=>
  intro h;dsimp only[pD]at h;rw[cX]at h;refine eu.mpr ⟨fun m=>?_,ih h.2⟩;have:r.any (aF a)=false:=by simpa using h.1
  rw[List.any_eq_false]at this;exact this a m (ew a)
theorem VP:pM l=true->l.Nodup:=by
 induction l with
 |nil=>
  intro _;exact .nil
 |cons a r ih=>
  intro h;dsimp only[pM]at h;rw[cX]at h;refine eu.mpr ⟨fun m=>?_,ih h.2⟩;have:r.contains a=false:=by simpa using h.1
  rw[List.contains_eq_mem]at this;simp [m]at this
theorem hC{α:Type}:∀{l:List (Str×α)} {x:Str} {a:α},l.lookup x=some a->(x,a)∈l:=fun h=>mem_of_lookup h
theorem T9{α:Type}{l:List (Str×α)}:∀{x:Str},x ∉ l.map (·.1)->l.lookup x=none:=by
 induction l with
 |nil=>
  intro _ _;exact rfl
 |cons e0 l ih=>
  obtain⟨k,a⟩:=e0;intro x h;rw[lD];have h1:(x == k)=false:=beq_eq_false_iff_ne.mpr fun e=>h (by simp [e]);rw[h1];exact ih fun m=>h (by simp at m ⊢;exact .inr m)
theorem mO{α:Type}{l:List (Str×α)}:∀{x:Str} {a:α},(l.map (·.1)).Nodup->(x,a)∈l->l.lookup x=some a:=by
 induction l with
 |nil=>
  intro x a N m;cases m
 |cons e0 l ih=>
  obtain⟨k,b⟩:=e0;intro x a N m;rw[aO,eu]at N;rw[lD];rcases aH.mp m with e|m
  ·clear m N;cases e;simp
  ·have h1:(x == k)=false:=beq_eq_false_iff_ne.mpr fun e=>N.1 (by rw[<- e];exact cE.mpr ⟨_,m,rfl⟩);rw[h1];exact ih N.2 m
theorem Lh:cellHas vm l=true->∀z,(z,NameKind.cell)∈l->∃i,vm.lookup z=some i:=by
 induction l with
 |nil=>
  intro _ z m;cases m
 |cons e0 r ih=>
  obtain⟨y,k⟩:=e0;intro h z m;dsimp only[cellHas]at h;rcases aH.mp m with e|m2
  ·clear m;cases e;rw[cX]at h;exact Option.isSome_iff_exists.mp h.1
  ·split at h
   ·rw[cX]at h;exact ih h.2 z m2
   ·exact ih h z m2
theorem XT:noDict l=true->∀x i,(x,i)∈l->(x == ("__classdict__" : Str))=false:=by
 induction l with
 |nil=>
  intro _ x i m;cases m
 |cons e0 r ih=>
  obtain⟨y,k⟩:=e0;intro h x i m;dsimp only[noDict]at h;rw[cX]at h;rcases aH.mp m with e|m
  ·clear m;cases e;simpa using h.1
  ·exact ih h.2 x i m
theorem val_inj{l:List (Str×Nat)}:(l.map (·.2)).Nodup->∀{x y:Str} {i:Nat},(x,i)∈l->(y,i)∈l->x=y:=by
 induction l with
 |nil=>
  intro N x y i m m';cases m
 |cons e0 l ih=>
  obtain⟨k,j⟩:=e0;intro N x y i m m';rw[aO,eu]at N;rcases aH.mp m with e|m
  ·clear m;cases e;rcases aH.mp m' with e|m'
   ·clear m' N;cases e;rfl
   ·exact absurd (cE.mpr ⟨_,m',rfl⟩) N.1
  ·rcases aH.mp m' with e|m'
   ·clear m';cases e;exact absurd (cE.mpr ⟨_,m,rfl⟩) N.1
   ·exact ih N.2 m m'
theorem Bt{c:Cx}(h:cxOk c=true):HY c/\(c.names.map (·.1)).Nodup:=by
 unfold cxOk at h;rw[cX,cX,cX]at h;exists ft h,h1,h2,h3,h4
 try clear h
 exact⟨⟨fun z hz=>Lh h4 z (hC hz),fun x i hx=>XT h3 x i (hC hx),fun x y i hx hy=>val_inj (zF h1) (hC hx) (hC hy)⟩,VP h2⟩
noncomputable def kK(cells:List (Str×Addr)):List (Str×NameKind)->List (Str×Addr)->List (Str×Addr)
 |[],acc=>acc
 |(name,kind)::r,acc=>kK cells r (if kind == .free then (match cells.lookup name with|some a=>(name,a)::acc|none=>acc)else acc)
theorem PH(f:Str×NameKind->List (Str×Addr)->Sem (ForInStep (List (Str×Addr))))
  (hf:∀name kind cs,f (name,kind) cs=if kind == .free then (do let a <- cellOf env name;pure (.yield ((name,a)::cs)))else pure (.yield cs)) :
  ∀(names:List (Str×NameKind)) (acc:List (Str×Addr)) (s:Shared) (Q:List (Str×Addr)->Shared->Prop),(∀x,(x,NameKind.free)∈names->∃a,env.cells.lookup x=some a)->Q (kK env.cells names acc) s->wpAny M A (forIn names acc f) Q E s:=by
 intro names
 induction names with
 |nil=>intro acc s Q _ h;rw[List.forIn_nil];exact aw h
 |cons e r ih=>
  obtain⟨name,kind⟩:=e;intro acc s Q hc h;rw[List.forIn_cons,hf];dsimp only[kK]at h;have hr:∀x,(x,NameKind.free)∈r->∃a,env.cells.lookup x=some a:=fun x m=>hc x (.tail _ m);by_cases hk:(kind == NameKind.free)=true
  ·rw[if_pos hk]at h ⊢;have:kind = .free:=by simpa using hk
   clear hk;subst this;exists aD (hc name (.head _)),a,ha;rw[ha]at h;exact a9 (a9 (wpAny_cellOf ha (aw (ih _ s Q hr h))))
  ·rw[if_neg hk]at h ⊢;exact a9 (aw (ih _ s Q hr h))
theorem FA(cells:List (Str×Addr))(names:List (Str×NameKind)):∀(acc:List (Str×Addr)) (x:Str),(x,NameKind.free) ∉ names->(kK cells names acc).lookup x=acc.lookup x:=by
 induction names with
 |nil=>exact fun _ _ _=>rfl
 |cons e r ih=>
  obtain⟨n,k⟩:=e;intro acc x h;dsimp only[kK];rw[ih _ x fun m=>h (.tail _ m)];split
  ·rename_i hk;have:k = .free:=by simpa using hk
   clear hk;subst this;have hx:(x == n)=false:=beq_eq_false_iff_ne.mpr fun e=>h (by rw[e];exact .head _);split
   ·rw[lD,hx]
   ·rfl
  ·rfl
theorem O7(cells:List (Str×Addr))(names:List (Str×NameKind)):∀(acc:List (Str×Addr)) (x:Str),(names.map (·.1)).Nodup->(x,NameKind.free)∈names->(∃a,cells.lookup x=some a)->(kK cells names acc).lookup x=cells.lookup x:=by
 induction names with
 |nil=>intro _ _ _ m;exact absurd m List.not_mem_nil
 |cons e0 r ih=>
  obtain⟨n,k⟩:=e0;intro acc x N m hx;rw[aO,eu]at N;dsimp only[kK];rcases aH.mp m with e|m
  ·clear m ih;cases e;exists aD hx,a,ha;rw[FA cells r _ n fun q=>N.1 (cE.mpr ⟨_,q,rfl⟩),ha];simp
  ·exact ih _ x N.2 m hx
theorem vA(names:List (Str×NameKind)):∀(n:Nat) (acc:List (Str×Addr)) (x:Str),(x,NameKind.cell) ∉ names->(cellsFrom n names acc).lookup x=acc.lookup x:=by
 induction names with
 |nil=>
  intro _ _ _ _;exact rfl
 |cons e0 r ih=>
  obtain⟨y,k⟩:=e0;intro n acc x h;unfold cellsFrom;split
  ·rename_i hk;have:k = .cell:=by simpa using hk
   clear hk;subst this;rw[ih _ _ x fun m=>h (.tail _ m),lD];have hx:(x == y)=false:=beq_eq_false_iff_ne.mpr fun e=>h (by rw[e];exact .head _);rw[hx]
  ·exact ih _ _ x fun m=>h (.tail _ m)
theorem wm(names:List (Str×NameKind)):∀(h:Heap) (acc:List (Str×Addr)) (x:Str),(names.map (·.1)).Nodup->(x,NameKind.cell)∈names->∃a,(cellsFrom h.objs.size names acc).lookup x=some a/\h.objs.size<=a/\(pushCells h names).IsCell a none:=by
 induction names with
 |nil=>intros;contradiction
 |cons p r ih=>
  obtain⟨y,k⟩:=p;intro h acc x N m;rw[aO,eu]at N;unfold cellsFrom pushCells;rcases aH.mp m with e|m
  ·clear m ih;cases e;rw[if_pos (by rfl),if_pos (by rfl)];rw[vA r _ _ y fun q=>N.1 (cE.mpr ⟨_,q,rfl⟩)];exact⟨h.objs.size,by simp,cw _,_,pushCells_keeps _ _ _ _ (Heap.get?_push_size _ rfl),rfl⟩
  ·split
   ·refine b7 (ih (h.push { cls:=.type "cell",data:=.cell none }) ((y,h.objs.size)::acc) x N.2 m) fun a h1 h2 h3=>?_;rw[Heap.size_push]at h1 h2;exact⟨a,h1,fo h2,h3⟩
   ·exact ih h acc x N.2 m
theorem Vc(names:List (Str×NameKind)):∀(h:Heap) (acc:List (Str×Addr)) (x y:Str) (a:Addr),(names.map (·.1)).Nodup->(x,NameKind.cell)∈names->(y,NameKind.cell)∈names->(cellsFrom h.objs.size names acc).lookup x=some a->(cellsFrom h.objs.size names acc).lookup y=some a->x=y:=by
 induction names with
 |nil=>intros;contradiction
 |cons p r ih=>
  obtain⟨z,k⟩:=p;intro h acc x y a N mx my ex ey;rw[aO,eu]at N;unfold cellsFrom at ex ey;have head:∀{x y:Str},(x,NameKind.cell)=(z,k)->(y,NameKind.cell)∈r->(if (k == NameKind.cell)=true then cellsFrom (h.objs.size+1) r ((z,h.objs.size)::acc)else cellsFrom h.objs.size r acc).lookup x=some a->
    (if (k == NameKind.cell)=true then cellsFrom (h.objs.size+1) r ((z,h.objs.size)::acc)else cellsFrom h.objs.size r acc).lookup y=some a->False:=by
   intro x y e m ex ey;clear my mx ih;cases e;rw[if_pos (by rfl)]at ex ey;rw[vA r _ _ z fun q=>N.1 (cE.mpr ⟨_,q,rfl⟩)]at ex;have ex:h.objs.size=a:=by simpa using ex
   refine b7 (wm r (h.push { cls:=.type "cell",data:=.cell none }) ((z,h.objs.size)::acc) y N.2 m) fun b h1 h2 _=>?_;rw[Heap.size_push]at h1 h2;rw[h1]at ey
   (clear h1 N m;exists ey)
   rw[ex]at h2;exact kT _ h2
  rcases aH.mp mx with e|mx
  ·clear mx N ih;rcases aH.mp my with e'|my
   ·clear head ey ex my;cases e;cases e';rfl
   ·exact(head e my ex ey).elim
  ·rcases aH.mp my with e'|my
   ·exact(head e' mx ey ex).elim
   ·split at ex
    ·rename_i hk;rw[if_pos hk]at ey;have:=ih (h.push { cls:=.type "cell",data:=.cell none }) ((z,h.objs.size)::acc) x y a N.2 mx my;rw[Heap.size_push]at this;exact this ex ey
    ·rename_i hk;rw[if_neg hk]at ey;exact ih h acc x y a N.2 mx my ex ey
end
section
open PySem PySem.Calls PyProof.Rows PySem.W
set_option tactic.hygienic true in
theorem yz(h:c.inner sc=some (c',clr)):sc.kind = .function/\∃fr,freeSlots c sc.names=some fr/\cxOk (innerCx c sc.names fr)=true/\c'=innerCx c sc.names fr/\clr=(ownSlots sc.names c.nx).map (·.2):=by
 unfold cG.inner at h;split at h
 ·rename_i hk;split at h
  ·rename_i fr hf;exists cm h,ho,h
   ·injections h;exact⟨by revert hk;clear ho hf;clear h;induction sc.kind using PySem.ScopeKind.casesOn <;> first|(intro _;rfl)|(intro z;exact bf z),fr,hf,ho,rfl,rfl⟩
  ·exact nq h
 ·exact nq h
theorem PT(names:List (Str×NameKind)):∀(n:Nat) (x:Str),((x,NameKind.local)∈names\/(x,NameKind.cell)∈names)->∃i,(ownSlots names n).lookup x=some i:=by
 induction names with
 |nil=>
  intro _ _ h;rcases h with h|h <;> cases h
 |cons e0 r ih=>
  obtain⟨y,k⟩:=e0;intro n x h;have step:∀j,((x,NameKind.local)∈r\/(x,NameKind.cell)∈r)->∃i,(((y,j)::ownSlots r (n+1)).lookup x)=some i:=fun j h'=>by
   rw[lD];split
   ·exact⟨j,rfl⟩
   ·exact ih (n+1) x h'
  have tl:(x,NameKind.local)∈(y,k)::r\/(x,NameKind.cell)∈(y,k)::r->(x=y/\(k = .local\/k = .cell))\/((x,NameKind.local)∈r\/(x,NameKind.cell)∈r):=by
   rintro (m|m)
   ·clear step h;rcases aH.mp m with e|m
    ·clear m;cases e;exact .inl ⟨rfl,.inl rfl⟩
    ·exact .inr (.inl m)
   ·clear step h;rcases aH.mp m with e|m
    ·clear m;cases e;exact .inl ⟨rfl,.inr rfl⟩
    ·exact .inr (.inr m)
  dsimp only[ownSlots];rcases tl h with⟨rfl,rfl|rfl⟩|h'
  ·exact⟨n,by simp⟩
  ·exact⟨n,by simp⟩
  ·clear tl h;induction k using PySem.NameKind.casesOn with
   |«local»=>exact step n h'
   |cell=>exact step n h'
   |_=>exact ih n x h'
theorem UQ(names:List (Str×NameKind)):∀(n:Nat) (x:Str) (i:Nat),(x,i)∈ownSlots names n->(x,NameKind.local)∈names\/(x,NameKind.cell)∈names:=by
 induction names with
 |nil=>
  intro n x i m;cases m
 |cons e0 r ih=>
  obtain⟨y,k⟩:=e0;intro n x i m;have lift:(x,NameKind.local)∈r\/(x,NameKind.cell)∈r->(x,NameKind.local)∈(y,k)::r\/(x,NameKind.cell)∈(y,k)::r:=fun h=>h.imp (.tail _) (.tail _)
  induction k using PySem.NameKind.casesOn with
  |«local»=>
   rcases aH.mp m with e|m
   ·clear m lift;cases e;exact .inl (.head _)
   ·exact lift (ih _ x i m)
  |cell=>
   rcases aH.mp m with e|m
   ·clear m lift;cases e;exact .inr (.head _)
   ·exact lift (ih _ x i m)
  |_=>exact lift (ih _ x i m)
set_option tactic.hygienic true in
theorem Lr:∀{fr:List (Str×Nat)},freeSlots c names=some fr->(∀x i,(x,i)∈fr->c.freeOk x=some i)/\∀x,(x,NameKind.free)∈names->∃i,c.freeOk x=some i:=by
 induction names with
 |nil=>
  intro fr h;exists h;exact⟨fun x i m=>(nomatch m),fun x m=>(nomatch m)⟩
 |cons e0 r ih=>
  obtain⟨y,k⟩:=e0;intro fr h;have other:freeSlots c r=some fr->k ≠ .free->(∀x i,(x,i)∈fr->c.freeOk x=some i)/\∀x,(x,NameKind.free)∈(y,k)::r->∃i,c.freeOk x=some i:=fun h hk=>by
   exists ak (ih h),a,b;refine⟨a,fun x m=>?_⟩;clear a h;clear h;rcases aH.mp m with e|m
   ·clear m b;cases e;exact absurd rfl hk
   ·exact b x m
  dsimp only[freeSlots]at h;split at h
  ·split at h
   ·rename_i i hi;exists SY h,l,hl,h
    ·(clear other;exists h)
     exists ak (ih hl),a,b;refine⟨fun x j m=>?_,fun x m=>?_⟩
     ·rcases aH.mp m with e|m
      ·clear m a;cases e;exact hi
      ·exact a x j m
     ·rcases aH.mp m with e|m
      ·clear m b;cases e;exact⟨i,hi⟩
      ·exact b x m
   ·exact nq h
  ·rename_i hk;exact other h fun z=>hk z
theorem Mk{c:Cx}{x:Str}{i:Nat}(h:c.freeOk x=some i):(c.names.lookup x=some .cell\/c.names.lookup x=some .free)/\c.vm.lookup x=some i:=by
 unfold cG.freeOk at h;generalize c.names.lookup x=o at h ⊢
 induction o using aL with
 |none=>exact nq h
 |some k=>induction k using PySem.NameKind.casesOn with
  |cell=>exact⟨.inl rfl,h⟩
  |free=>exact⟨.inr rfl,h⟩
  |_=>exact nq h
noncomputable def mapN(env:Env)(names:List (Str×NameKind)):List (Str×NameKind):=names.map fun x=>match x with
 |(n,k)=>if (k == .free && env.scope.kind == .function && env.kindOf n == some .cell)=true then (n,NameKind.cell)else (n,k)
theorem MU(env:Env)(names:List (Str×NameKind))(x:Str):(mapN env names).lookup x=(names.lookup x).map fun k=>if (k == .free && env.scope.kind == .function && env.kindOf x == some .cell)=true then NameKind.cell else k:=by
 induction names with
 |nil=>rfl
 |cons e0 r ih=>
  obtain⟨n,k⟩:=e0;have e0:mapN env ((n,k)::r)=(n,if (k == .free && env.scope.kind == .function && env.kindOf n == some .cell)=true then NameKind.cell else k)::mapN env r:=congrArg (· :: _) (apply_ite (Prod.mk n) _ _ _).symm;rw[e0,lD,lD];by_cases hx:x=n
  ·clear e0 ih;subst hx;rw[beq_self_eq_true];rfl
  ·rw[beq_eq_false_iff_ne.mpr hx];exact ih
section
variable {C:Cf} {φ:Ph} {H:Hp} {A:Around} {s:Shared} {E:Value->Shared->Prop}
theorem V9{c c':Cx}{clr:List Nat}{sc:Scope}{env:Env}{ρ:ai}{Q:Env->Shared->Prop}(X:ER C c ρ env φ H s.heap)(I:C.I φ H s.heap)(hc:c.inner sc=some (c',clr))
  (h:∀(cenv ce:Env) h' a8,ce={ cenv with scope:={ sc with names:=mapN env sc.names } }->(∀b o,s.heap.get? b=some o->h'.get? b=some o)->h'.Ns cenv.locals (fun _=>none)->C.I a8 H h'->St φ H s.heap a8 H h'->ER C c' (slotC ρ clr) ce a8 H h'->
   (∀b,Zf c' ce b->s.heap.get? b=none)->(∀x a,ce.cells.lookup x=some a->s.heap.get? a=none\/env.cells.lookup x=some a)->Q cenv { s with heap:=h' }) :
  C.wp A (closureFor sc env) (fun cl s₁=>C.wp A (newFunctionEnv sc env.globals cl [] env.qual none .none (some env)) Q E s₁) E s:=by
 obtain⟨fc,fr,ij,dj,rfl,rfl⟩:=yz hc;exists ak (Bt dj),eM,b9;have b9:(sc.names.map (·.1)).Nodup:=b9;exists ak (Lr ij),f1,f2;have outer:∀x,(x,NameKind.free)∈sc.names->∃i a ov,c.freeOk x=some i/\env.cells.lookup x=some a/\s.heap.IsCell a ov/\φ.fr a/\∀v,cF ρ i=some v->∃val,ov=some val/\C.R φ H s.heap v val:=fun x m=>by
  exists aD (f2 x m),i,hi;exists ak (Mk hi),h1,h2;exists gK (X.cell x i h1 h2),a,ov,e1,e2,e3,Z0,e5;exact⟨i,a,ov,hi,e1,e2,e3,e5⟩
 unfold closureFor;refine a9 (PH _ (fun name kind cs=>by clear outer f2 f1 b9 eM h hc dj ij fc I X;clear b9;cases hk:kind == NameKind.free <;> simp [hk]) _ _ _ _ (fun x m=>let ⟨_,a,_,_,e,_⟩:=outer x m;⟨a,e⟩) (aw ?_));simp only[newFunctionEnv,Option.isSome_some,if_true];refine a9 (wpAny_alloc ?_);refine a9 (wpAny_layCells _ (fun name kind cells=>by clear outer f2 f1 b9 eM h hc dj ij fc I X;clear b9;cases OB:kind == NameKind.cell <;> simp [OB]) _ _ _ _ ?_);rw[show({ s with heap:=s.heap.push { cls:=.type "dict",data:=.dict #[] } }:Shared).heap.objs.size=(s.heap.push { cls:=.type "dict",data:=.dict #[] }).objs.size from rfl];rw[List.forIn_nil];refine a9 (aw (aw ?_));generalize nY:s.heap.push { cls:=.type "dict",data:=.dict #[] }=h1;have gw:h1.objs.size=s.heap.objs.size+1:=by rw[<- nY];exact Heap.size_push ..
 have k1:∀b o,s.heap.get? b=some o->h1.get? b=some o:=by rw[<- nY];exact cV _ _
 have n1:h1.Ns s.heap.objs.size (fun _=>none):=by rw[<- nY];exact Heap.Ns.new s.heap _
 have k2:=pushCells_keeps sc.names h1;have kp:∀b o,s.heap.get? b=some o->(pushCells h1 sc.names).get? b=some o:=fun b o e=>k2 b o (k1 b o e);have n2:(pushCells h1 sc.names).Ns s.heap.objs.size (fun _=>none):=ip n1 fun o e=>k2 _ o e;generalize f9:cellsFrom h1.objs.size sc.names (kK env.cells sc.names [])=cs;have fi:∀x,(x,NameKind.cell)∈sc.names->∃a,cs.lookup x=some a/\h1.objs.size<=a/\(pushCells h1 sc.names).IsCell a none:=fun x m=>by
  rw[<- f9];exact wm sc.names h1 _ x b9 m
 have gm:∀x,(x,NameKind.free)∈sc.names->cs.lookup x=env.cells.lookup x:=fun x m=>by
  rw[<- f9,vA _ _ _ x fun q=>by
   have a1:=mO b9 m;have a2:=mO b9 q;rw[a1]at a2;clear a1 q m fi f9 n2 kp k2 n1 k1 gw nY outer f2 f1 b9 eM h hc dj ij fc I X;clear b9;cases a2]
  exists dE (outer x m),Z0,a,Z0,Z0,e,Z0;exact O7 env.cells sc.names [] x b9 m ⟨a,e⟩
 have gF:∀x,(x,NameKind.cell) ∉ sc.names->(x,NameKind.free) ∉ sc.names->cs.lookup x=none:=fun x m1 m2=>by
  rw[<- f9,vA _ _ _ x m1,FA _ _ _ x m2];rfl
 have young:∀a,s.heap.objs.size<=a->s.heap.get? a=none:=fun a ha=>by
  clear gF gm fi f9 n2 kp k2 n1 k1 gw nY outer f2 f1 b9 eM h hc dj ij fc I X;clear b9;cases q:s.heap.get? a with
  |none=>rfl
  |some o=>exact absurd (Heap.lt_size q) (Nat.not_lt.mpr ha)
 clear k2 n1 k1 nY f2 hc dj ij;obtain⟨I',S'⟩:=C.qj I kp (F:=fun b=>b=s.heap.objs.size\/∃z,(z,NameKind.cell)∈sc.names/\cs.lookup z=some b) fun b hb=>by
  clear gF gm f9 kp outer f1 b9 eM h fc I X;clear b9;rcases hb with rfl|⟨z,hz,hl⟩
  ·exact⟨young _ (cw _),mB n2⟩
  ·exists b7 (fi z hz),a,e1,e2,e3;rw[hl]at e1;clear hl hz fi n2;cases e1;exact⟨young _ (bx (by rw[gw];exact eU _) e2),sq e3⟩
 have jj:∀x i,(x,NameKind.local)∈sc.names\/(x,NameKind.cell)∈sc.names->(ownSlots sc.names c.nx++fr).lookup x=some i->i∈(ownSlots sc.names c.nx).map (·.2):=fun x i m hl=>by
  exists aD (PT sc.names c.nx x m),j,hj;have:(ownSlots sc.names c.nx++fr).lookup x=some j:=by rw[List.lookup_append,hj];rfl
  rw[this]at hl;clear this m S' I' young gF gm fi f9 n2 kp gw outer f1 b9 eM h fc I X;clear b9;cases hl;exact cE.mpr ⟨_,hC hj,rfl⟩
 refine h _ _ _ _ rfl kp n2 I' S' ⟨fc,X.glob,X.blt,fun x k hk=>?_,⟨_,n2,fun x i v hx hi hv=>?_⟩,fun x i hx hi=>?_,.inr (.inl rfl),fun x a hx=>?_,fun x y a hx hy=>?_,eM⟩ (fun b hb=>?_) fun x a hx=>?_
 ·have hk:sc.names.lookup x=some k:=hk;have e:(mapN env sc.names).lookup x=some (if (k == .free && env.scope.kind == .function && env.kindOf x == some .cell)=true then NameKind.cell else k):=by rw[MU,hk];rfl
  clear hk jj S' I' young gF gm fi f9 n2 kp gw outer f1 b9 eM h fc I X;clear hk b9;cases k with
  |free=>
   show(mapN env sc.names).lookup x=some .free\/(mapN env sc.names).lookup x=some .cell;rw[e];split <;> simp
  |«local»=>show(mapN env sc.names).lookup x=some .local;rw[e];rfl
  |cell=>show(mapN env sc.names).lookup x=some .cell;rw[e];rfl
  |globalImplicit=>show(mapN env sc.names).lookup x=some .globalImplicit;rw[e];rfl
  |globalExplicit=>trivial
 ·exact absurd (jj x i (.inl (hC hx)) hi) (tF ρ _ i hv).1
 ·clear I' young gF f9 n2 eM h fc X;rcases hx with hx|hx
  ·have mx:=hC hx;exists b7 (fi x mx),a,e1,e2,e3;refine⟨a,none,e1,e3,.inr (.inr ⟨x,mx,e1⟩),fun z=>?_,fun v hv=>absurd (jj x i (.inr mx) hi) (tF ρ _ i hv).1⟩;have z:a=s.heap.objs.size:=z;rw[z,gw]at e2;exact kT _ e2
  ·have mx:=hC hx;exists jV (outer x mx),j,a,ov,p1,p2,p3,p4,p5;exists aD (sq p3),o,ho;have g4:(ownSlots sc.names c.nx).lookup x=none:=T9 fun m=>by
    clear ho p5 p4 p3 p2 p1 hx hi jj S' gm fi kp gw outer f1 I;obtain⟨⟨x',i'⟩,m2,e2⟩:=cE.mp m;have e2:x'=x:=e2;clear m;subst e2;clear e2;rcases UQ _ _ _ _ m2 with q|q
    ·have a1:=mO b9 mx;have a2:=mO b9 q;rw[a1]at a2;clear a1 q mx m2 b9;clear b9;cases a2
    ·have a1:=mO b9 mx;have a2:=mO b9 q;rw[a1]at a2;clear a1 q mx m2 b9;clear b9;cases a2
   have hi:(ownSlots sc.names c.nx++fr).lookup x=some i:=hi;rw[List.lookup_append,g4]at hi;have hi:fr.lookup x=some i:=hi;have q1:=f1 x i (hC hi);rw[p1]at q1;clear hi g4 p1 hx jj fi gw outer f1 b9;clear hi b9;cases q1;refine⟨a,ov,by rw[gm x mx];exact p2,oI p3 fun o e=>kp _ o e,.inl p4,fun z=>?_,fun v hv=>?_⟩
   ·have z:a=s.heap.objs.size:=z;rw[z,cA]at ho;exact nq ho
   ·exists ae (p5 v (tF ρ _ _ hv).2),val,e1,r;exact⟨val,e1,S'.vr I r⟩
 ·have hx:cs.lookup x=some a:=hx;by_cases m1:(x,NameKind.cell)∈sc.names
  ·exact .inr (.inr ⟨x,m1,hx⟩)
  ·by_cases m2:(x,NameKind.free)∈sc.names
   ·exists jV (outer x m2),Z0,b,Z0,Z0,p2,Z0,p4,Z0;rw[gm x m2,p2]at hx;clear p2 m2 m1 jj S' I' young gF gm fi f9 n2 kp gw outer f1 b9 eM h fc I X;clear b9;cases hx;exact .inl p4
   ·rw[gF x m1 m2]at hx;exact nq hx
 ·have hx:cs.lookup x=some a:=hx;have hy:cs.lookup y=some a:=hy;have kind:∀x,cs.lookup x=some a->(x,NameKind.cell)∈sc.names\/(x,NameKind.free)∈sc.names:=fun x hx=>by
   by_cases m1:(x,NameKind.cell)∈sc.names
   ·exact .inl m1
   ·by_cases m2:(x,NameKind.free)∈sc.names
    ·exact .inr m2
    ·rw[gF x m1 m2]at hx;exact nq hx
  have mixed:∀x y,(x,NameKind.cell)∈sc.names->(y,NameKind.free)∈sc.names->cs.lookup x=some a->cs.lookup y=some a->False:=fun x y mx my hx hy=>by
   exists b7 (fi x mx),b,e1,e2,Z0;rw[hx]at e1;clear hx mx kind jj S' I' gF fi f9 n2 kp f1 b9 eM h fc I X;clear hx b9;cases e1;exists fH (outer y my),Z0,b,Z0,Z0,p2,p3,Z0;rw[gm y my,p2]at hy;cases hy;exists aD (sq p3),o,ho;rw[young a (bx (by rw[gw];exact eU _) e2)]at ho;clear p3 e2 hy young gw;clear hy;cases ho
  clear jj S' I' young gF fi n2 kp gw outer f1 eM h fc I;rcases kind x hx with mx|mx <;> rcases kind y hy with my|my
  ·rw[<- f9]at hx hy;exact Vc sc.names h1 _ x y a b9 mx my hx hy
  ·exact(mixed x y mx my hx hy).elim
  ·exact(mixed y x my mx hy hx).elim
  ·rw[gm x mx]at hx;rw[gm y my]at hy;exact X.inj x y a hx hy
 ·clear jj S' I' gF gm f9 n2 kp outer f1 b9 eM h fc I X;clear b9;rcases hb with rfl|⟨z,hz,hl⟩
  ·exact young _ (cw _)
  ·exists b7 (fi z (hC hz)),a,e1,e2,e3;have hl:cs.lookup z=some b:=hl;rw[hl]at e1;clear hl e3 hz fi;cases e1;exact young _ (bx (by rw[gw];exact eU _) e2)
 ·have hx:cs.lookup x=some a:=hx;by_cases m1:(x,NameKind.cell)∈sc.names
  ·exists b7 (fi x m1),b,e1,e2,Z0;rw[hx]at e1;clear m1 hx jj S' I' gF gm fi f9 n2 kp outer f1 b9 eM h fc I X;clear hx b9;cases e1;exact .inl (young _ (bx (by rw[gw];exact eU _) e2))
  ·by_cases m2:(x,NameKind.free)∈sc.names
   ·exact .inr ((gm x m2).symm.trans hx)
   ·rw[gF x m1 m2]at hx;exact nq hx
end
end
section
open PySem PySem.Calls PyProof.Rows PySem.W
section
variable {C:Cf} {φ a8:Ph} {H H':Hp} {h h':Heap} {Z Z':Addr->Prop}
theorem SZ.mono(S:SZ Z φ H h a8 H' h')(hz:∀b,Z b->Z' b):SZ Z' φ H h a8 H' h':=⟨fun b o e u z=>S.keep b o e u fun q=>z (hz b q),S.ext,S.nxt,S.ids,S.new,S.alive,S.du,S.gE⟩
theorem SZ.drop(S:SZ Z' φ H h a8 H' h')(hz:∀b,Z' b->Z b\/h.get? b=none):SZ Z φ H h a8 H' h':=
 ⟨fun b o e u z=>S.keep b o e u (fun q=>(hz b q).elim z fun n=>by rw[n]at e;exact nq e),S.ext,S.nxt,S.ids,S.new,S.alive,S.du,S.gE⟩
theorem Cf.Qi(I:C.I φ H h)(S:SZ Z φ (lockH H vs) h a8 H' h')(ah:C.I a8 H' h') :
  C.I a8 ⟨H'.nxt,eD H.es H'.es vs⟩ h'/\SZ Z φ H h a8 ⟨H'.nxt,eD H.es H'.es vs⟩ h':=by
 have hi:=zA H.es vs H'.es;have N':((eD H.es H'.es vs).map (·.id)).Nodup:=by rw[hi];exact ah.nodup
 have back:∀e'∈eD H.es H'.es vs,∃e∈H'.es,e.id=e'.id/\e.obj=e'.obj:=fun e' m'=>by
  exists ae (gZ hi m'),e,m,i;exists dX (Dp H.es I.nodup vs H'.es ah.nodup e m),e2,m2,h1,h2,Z0;have:e2=e':=hY N' m2 m' (h1.trans i);subst this;exact⟨e,m,i,h2.symm⟩
 refine⟨C.flags ah rfl hi back,⟨fun b o e u z=>S.keep b o e (fun q=>u ?_) z,S.ext,S.nxt,fun e m=>?_,fun e' m'=>?_,S.alive,S.du,S.gE⟩⟩
 ·exists b7 q,e',m',l,p
  try clear q
  exists dX (A0 I.nodup vs e' m'),e,m,i,Z0,hl;exact⟨e,m,hl l,i▸p⟩
 ·exists pn (qZ vs H.es I.nodup e m),e1,m1,a1,b1,c1,d1,f1;exists dX (S.ids e1 m1),e2,m2,a2,b2,c2;exists dX (Dp H.es I.nodup vs H'.es ah.nodup e2 m2),e3,m3,a3,b3,c3;refine⟨e3,m3,a3.trans (a2.trans a1),c3 e m (a1.symm.trans a2.symm) ?_,fun z=>b3.trans ((c2 (c1 z)).trans b1)⟩;by_cases q:(.ref e2.id:V)∈vs
  ·exact .inl q
  ·refine .inr (b2.trans (f1 ?_));rw[<- a1,<- a2];exact q
 ·exists ae (gZ hi m'),e,m,i;rcases S.new e m with⟨x,mx,q⟩|q
  ·exists ae (gZ (ku vs H.es) mx),y,my,j;exact .inl ⟨y,my,j.trans (q.trans i)⟩
  ·exact .inr fun a ha=>q a (by rw[i];exact ha)
theorem zC(vs:List V)(X:ER C c ρ env φ H h):ER C c ρ env φ (lockH H vs) h:=by
 refine⟨X.kind,X.glob,X.blt,X.kinds,?_,fun x i hx hi=>?_,X.ib,X.kz,X.inj,X.ok⟩
 ·exists ae X.loc,m,hn,hm;exact⟨m,hn,fun x i v h1 h2 h3=>let ⟨val,e,r⟩:=hm x i v h1 h2 h3;⟨val,e,lQ vs r⟩⟩
 ·exists gK (X.cell x i hx hi),a,ov,e1,e2,e3,e4,e5;exact⟨a,ov,e1,e2,e3,e4,fun v hv=>let ⟨val,e,r⟩:=e5 v hv;⟨val,e,lQ vs r⟩⟩
theorem ER.same{c:Cx}{ρ:ai}{env:Env}{K:Hp}(X:ER C c ρ env φ H h)(hm:∀b,aT φ K b->aT φ H b):ER C c ρ env φ K h:=by
 have tr:∀{v x},C.R φ H h v x->C.R φ K h v x:=fun r=>r.mono (fun _ _ e=>e) (fun _ _ e _=>e) fun b _ q _=>hm b q;refine⟨X.kind,X.glob,X.blt,X.kinds,?_,fun x i hx hi=>?_,X.ib,X.kz,X.inj,X.ok⟩
 ·exists ae X.loc,m,hn,hm;exact⟨m,hn,fun x i v h1 h2 h3=>let ⟨val,e,r⟩:=hm x i v h1 h2 h3;⟨val,e,tr r⟩⟩
 ·exists gK (X.cell x i hx hi),a,ov,e1,e2,e3,e4,e5;exact⟨a,ov,e1,e2,e3,e4,fun v hv=>let ⟨val,e,r⟩:=e5 v hv;⟨val,e,tr r⟩⟩
noncomputable def Apart(env:Env)(wr:List Addr):Prop:=∀b∈wr,b≠env.locals/\∀x,env.cells.lookup x≠some b
theorem ER.frames(X:ER C c ρ env φ H h)(ap:Apart env wr)(hf:∀b∈wr,φ.fr b)(k:∀b o,b ∉ wr->h.get? b=some o->h'.get? b=some o):ER C c ρ env φ H h':=by
 have kf:∀b o,h.get? b=some o->¬ φ.fr b->h'.get? b=some o:=fun b o e f=>k b o (fun m=>f (hf b m)) e;refine⟨X.kind,X.glob,X.blt,X.kinds,?_,fun x i hx hi=>?_,X.ib,X.kz,X.inj,X.ok⟩
 ·exists ae X.loc,m,hn,hm;exact⟨m,ip hn fun o e=>k _ o (fun q=>(ap _ q).1 rfl) e,fun x i v h1 h2 h3=>let ⟨val,e,r⟩:=hm x i v h1 h2 h3;⟨val,e,fT kf r⟩⟩
 ·exists gK (X.cell x i hx hi),a,ov,e1,e2,e3,e4,e5;exact⟨a,ov,e1,oI e2 fun o e=>k _ o (fun q=>(ap _ q).2 x e1) e,e3,e4,fun v hv=>let ⟨val,e,r⟩:=e5 v hv;⟨val,e,fT kf r⟩⟩
theorem L6(ap:Apart env wr):∀b∈wr,¬ Zf c env b:=fun b m z=>by
 rcases z with rfl|⟨x,_,hx⟩
 ·exact(ap _ m).1 rfl
 ·exact(ap _ m).2 x hx
theorem rC(X:ER C c ρ env φ H h)(I:C.I φ H h)(hw:∀b∈wr,h.get? b=none):Apart env wr:=fun b m=>by
 refine⟨fun z=>?_,fun x hx=>?_⟩
 ·exists ae X.loc,Z0,hn,Z0;exists aD (mB hn),o,ho;rw[<- z,hw b m]at ho;exact nq ho
 ·obtain⟨_,_,o,ho⟩:=I.cC b (X.kz x b hx);rw[hw b m]at ho;exact nq ho
section
variable {t:PySem.Expr} {J0:Addr} {wr dR:List Addr} {ax:Ph} {H₁:Hp} {ao:Heap} {items:List V} {It:Nat->Heap->Value->Heap->Prop} {J:Nat->Heap->Prop} {Mid:Nat->Value->Heap->Prop}
theorem Wk.body(W:Wk C t J0 wr dR ax H₁ ao items It J Mid)(ah:C.I ax H₁ ao)(gI:ER C c ρ' env ax H₁ ao)(ap:Apart env wr)(S:SZ (fun b=>Zf c env b\/b∈wr) ax H₁ ao φ H h)(I:C.I φ H h)(T:SZ (Zf c env) φ H h a8 H' h')(j:J i h):J i h':=by
 exists(W.w ⟨none,0,none,none,0⟩ rfl).frame i h h' j,b,o,hb,e;rcases hb with hb|hb
 ·refine T.keep b o e (fun u=>?_) (L6 ap b hb);exists b7 u,en,m,Z0,q
  try clear u
  exact(I.cC b (S.du b (W.fr b hb))).2.1 en m q
 ·obtain⟨⟨o1,h1⟩,h2,h3⟩:=W.dep b hb;exact T.keep b o e (fun u=>h2 (S.kW ah I.nodup b o1 u h1)) fun z=>h3 (gI.zf b z)
theorem Wk.tr(W:Wk C t J0 wr dR ax H₁ ao items It J Mid)(ah:C.I ax H₁ ao)(gI:ER C c ρ' env ax H₁ ao)(S:SZ (fun b=>Zf c env b\/b∈wr) ax H₁ ao φ H h):∀v x,C.R ax H₁ ao v x->C.R φ H h v x:=
 fun _ _ r=>S.vr ah (fun b z=>z.elim (gI.zf b) (W.fr b)) r
end
end
end
section
set_option backward.match.sparseCases true
open PySem PySem.Calls PyProof.Rows PySem.W
noncomputable def ifsW(ifs:List PySem.Expr)(env:Env):Sem Bool:=forIn ifs true fun c ok=>if ok=true then do
  let b <- PySem.isTrue c env (eval c env)
  pure (ForInStep.yield b)
 else pure (ForInStep.yield ok)
noncomputable def ow(elt:PySem.Expr)(acc:Value)(env:Env):Sem Unit:=do
 let x <- eval elt env
 let _ <- call (.builtin "list.append") [acc,x]
 pure ()
noncomputable def pe(k v:PySem.Expr)(acc:Value)(env:Env):Sem Unit:=do
 let kv <- eval k env
 let vv <- holding [kv] (eval v env)
 match acc with
 |.ref d=>do
  standAt { k.pos with endLine:=v.pos.endLine,endCol:=v.pos.endCol }
  holding [kv,vv] (dictSet d kv vv)
 |_=>unsupported "internal:dictcomp"
noncomputable def kX(M:Model)(A:Around)(e:PySem.Expr)(gens:List PySem.Comprehension)(acc:Value)(env:Env)(emit:Sem Unit)(d:Nat)(K:Shared->Prop)(E:Value->Shared->Prop)(s:Shared):Prop:=match gens[d+1]? with
 |some g'=>g'.is_async=0/\wpAny M A (eval g'.iter env) (fun x s₁=>wpAny M A (foldedSetIterable g'.iter env x) (fun x s₂=>wpAny M A (pyIter x) (fun it s₃=>wpAny M A (runOwn (.compStart e (d+1) it acc env) env) (fun _ s₄=>K s₄) E s₃) E s₂) E s₁) E s
 |none=>wpAny M A emit (fun _ s₁=>K s₁) E s
noncomputable def Aq(M:Model)(e:PySem.Expr)(gens:List PySem.Comprehension)(acc:Value)(env:Env)(emit:Sem Unit):Prop:=∀(A:Around) (d:Nat) (it:Value) (g:PySem.Comprehension) (R:Fin->Shared->Prop) (E:Value->Shared->Prop) (s:Shared),gens[d]?=some g->g.is_async=0->
 wpAny M A (pyNext it) (fun r s₁=>match r with
  |none=>R (.done .next) s₁
  |some v=>wpAny M A (letOwnedTupleGo g.target it v) (fun _ s₂=>wpAny M A (assign g.target env v) (fun _ s₃=>wpAny M A (ifsW g.ifs env) (fun ok s₄=>match ok with
   |true=>kX M A e gens acc env emit d (R (.again (.compLoop e d it acc env))) E s₄
   |false=>R (.again (.compLoop e d it acc env)) s₄) E s₃) E s₂) E s₁) E s->wpAny M A (compTurn e d it acc env) R E s
theorem RZ(M:Model)(elt:PySem.Expr)(gens:List PySem.Comprehension)(sc:Scope)(p:Pos)(acc:Value)(env:Env):Aq M (.ListComp elt gens sc p) gens acc env (ow elt acc env):=by
 intro A d it g R E s hg ha h;unfold compTurn;dsimp only;rw[hg];dsimp only;rw[ha];refine a9 (fR ?_);show wpAny M A (pyNext it >>= _) R E s;refine a9 (cq h (fun r s₁ ao=>?_) fun _ _ x=>x)
 induction r using aL with
 |none=>exact aw ao
 |some v=>
  refine a9 (cq ao (fun _ s₂ aV=>?_) fun _ _ x=>x);refine a9 (cq aV (fun _ s₃ cQ=>?_) fun _ _ x=>x);refine a9 (m:=ifsW g.ifs env) (cq cQ (fun ok s₄ h₄=>?_) fun _ _ x=>x)
  induction ok using aB with
  |false=>exact aw h₄
  |true=>
   have h₄:kX M A (.ListComp elt gens sc p) gens acc env (ow elt acc env) d (R (.again (.compLoop (.ListComp elt gens sc p) d it acc env))) E s₄:=h₄;refine g6 rfl ?_;unfold kX at h₄;split at h₄
   ·rename_i g' sG;exists ak h₄,fE,h₄;rw[sG];dsimp only;rw[fE];refine a9 (cq h₄ (fun x pk iN=>?_) fun _ _ x=>x);refine a9 (fR ?_);refine eF dq ?_;refine a9 (cq iN (fun x TR zO=>?_) fun _ _ x=>x);refine a9 (dM ?_);refine eF dq ?_;refine cq zO (fun kg Yx wU=>?_) fun _ _ x=>x;exact a9 (cq wU (fun _ YZ wY=>aw wY) fun _ _ x=>x)
   ·rename_i hn;rw[hn];exact a9 (m:=ow elt acc env) (cq h₄ (fun _ pk iN=>aw iN) fun _ _ x=>x)
theorem Zx(M:Model)(k v:PySem.Expr)(gens:List PySem.Comprehension)(sc:Scope)(p:Pos)(acc:Value)(env:Env):Aq M (.DictComp k v gens sc p) gens acc env (pe k v acc env):=by
 intro A d it g R E s hg ha h;unfold compTurn;dsimp only;rw[hg];dsimp only;rw[ha];refine a9 (fR ?_);show wpAny M A (pyNext it >>= _) R E s;refine a9 (cq h (fun r s₁ ao=>?_) fun _ _ x=>x)
 induction r using aL with
 |none=>exact aw ao
 |some x₀=>
  refine a9 (cq ao (fun _ s₂ aV=>?_) fun _ _ x=>x);refine a9 (cq aV (fun _ s₃ cQ=>?_) fun _ _ x=>x);refine a9 (m:=ifsW g.ifs env) (cq cQ (fun ok s₄ h₄=>?_) fun _ _ x=>x)
  induction ok using aB with
  |false=>exact aw h₄
  |true=>
   have h₄:kX M A (.DictComp k v gens sc p) gens acc env (pe k v acc env) d (R (.again (.compLoop (.DictComp k v gens sc p) d it acc env))) E s₄:=h₄;refine g6 rfl ?_;unfold kX at h₄;split at h₄
   ·rename_i g' sG;exists ak h₄,fE,h₄;rw[sG];dsimp only;rw[fE];refine a9 (cq h₄ (fun x pk iN=>?_) fun _ _ x=>x);refine a9 (fR ?_);refine eF dq ?_;refine a9 (cq iN (fun x TR zO=>?_) fun _ _ x=>x);refine a9 (dM ?_);refine eF dq ?_;refine cq zO (fun kg Yx wU=>?_) fun _ _ x=>x;exact a9 (cq wU (fun _ YZ wY=>aw wY) fun _ _ x=>x)
   ·rename_i hn;rw[hn];exact a9 (m:=pe k v acc env) (cq h₄ (fun _ pk iN=>aw iN) fun _ _ x=>x)
theorem VU(elt:PySem.Expr)(gens:List PySem.Comprehension)(sc:Scope)(p:Pos)(d:Nat)(it acc:Value)(env:Env)(hM:∀c,M.den c=denote table c)(hg:gens[d]?=some g)(ha:g.is_async=0)
  (h0:codeAny M A (.compLoop (.ListComp elt gens sc p) d it acc env) R s) (h:wpAny M A (pyIter it) (fun kg s'=>codeAny M A (.compLoop (.ListComp elt gens sc p) d kg acc env) R s') (notedBy M A env fun x s'=>R (.error x) s') s) :
  codeAny M A (.compStart (.ListComp elt gens sc p) d it acc env) R s:=by
 refine codeAny_of_tree ?_;rw[hM];show wpAny _ _ ((compStart (.ListComp elt gens sc p) d it acc env).onRaise (fun x=>do noteFrame x env;standAt theWindowsPlace)) _ _ s;refine wpAny_notedAt ?_;unfold compStart;have je:(((clausesOf (.ListComp elt gens sc p))[d]?).elim false fun x=>x.is_async != 0)=false:=by
  show((gens[d]?).elim false fun x=>x.is_async != 0)=false;rw[hg];show(g.is_async != 0)=false;rw[ha];rfl
 refine eF (by rw[je];simp) ?_;show wpAny _ _ (ask >>= _) _ _ s;refine a9 (wpAny_askSetting (wpAny_ite ?_));split
 ·first
   |exact a9 (aw (aw (And.intro rfl h0)))
   |exact aw (And.intro rfl h0)
 ·refine a9 (wpAny_rule ?_);have dc:(clausesOf (.ListComp elt gens sc p))[d]?=some g:=hg;rw[dc];exact a9 (fR (a9 (cq h (fun kg s' h'=>aw (And.intro rfl h')) fun _ _ x=>x)))
theorem MV(elt:PySem.Expr)(gens:List PySem.Comprehension)(sc:Scope)(p:Pos)(d:Nat)(it acc:Value)(env:Env)(hM:∀c,M.den c=denote table c)(I:Nat->Shared->Prop)
  (turn:∀n s,I n s->wpAny M A (compTurn (.ListComp elt gens sc p) d it acc env) (fun fin s'=>match fin with|.done f=>R (.ok f) s'|.again c'=>c' = .compLoop (.ListComp elt gens sc p) d it acc env/\∃m,m<n/\I m s') (fun _ _=>False) s) (n:Nat) (h:I n s) :
  codeAny M A (.compLoop (.ListComp elt gens sc p) d it acc env) R s:=by
 refine codeAny_loop rfl I (fun n s hI=>?_) n h;rw[hM];show wpAny _ _ ((compTurn (.ListComp elt gens sc p) d it acc env).onRaise (fun x=>do noteFrame x env;theTreesLotGoes x)) _ _ s;refine wpAny_noted ?_;exact cq (turn n s hI) (fun fin s' hf=>hf) fun _ _ x=>x.elim
theorem Vd(k v:PySem.Expr)(gens:List PySem.Comprehension)(sc:Scope)(p:Pos)(d:Nat)(it acc:Value)(env:Env)(hM:∀c,M.den c=denote table c)(hg:gens[d]?=some g)(ha:g.is_async=0)
  (h0:codeAny M A (.compLoop (.DictComp k v gens sc p) d it acc env) R s) (h:wpAny M A (pyIter it) (fun kg s'=>codeAny M A (.compLoop (.DictComp k v gens sc p) d kg acc env) R s') (notedBy M A env fun x s'=>R (.error x) s') s) :
  codeAny M A (.compStart (.DictComp k v gens sc p) d it acc env) R s:=by
 refine codeAny_of_tree ?_;rw[hM];show wpAny _ _ ((compStart (.DictComp k v gens sc p) d it acc env).onRaise (fun x=>do noteFrame x env;standAt theWindowsPlace)) _ _ s;refine wpAny_notedAt ?_;unfold compStart;have je:(((clausesOf (.DictComp k v gens sc p))[d]?).elim false fun x=>x.is_async != 0)=false:=by
  show((gens[d]?).elim false fun x=>x.is_async != 0)=false;rw[hg];show(g.is_async != 0)=false;rw[ha];rfl
 refine eF (by rw[je];simp) ?_;show wpAny _ _ (ask >>= _) _ _ s;refine a9 (wpAny_askSetting (wpAny_ite ?_));split
 ·first
   |exact a9 (aw (aw (And.intro rfl h0)))
   |exact aw (And.intro rfl h0)
 ·refine a9 (wpAny_rule ?_);have dc:(clausesOf (.DictComp k v gens sc p))[d]?=some g:=hg;rw[dc];exact a9 (fR (a9 (cq h (fun kg s' h'=>aw (And.intro rfl h')) fun _ _ x=>x)))
theorem Wi(k v:PySem.Expr)(gens:List PySem.Comprehension)(sc:Scope)(p:Pos)(d:Nat)(it acc:Value)(env:Env)(hM:∀c,M.den c=denote table c)(I:Nat->Shared->Prop)
  (turn:∀n s,I n s->wpAny M A (compTurn (.DictComp k v gens sc p) d it acc env) (fun fin s'=>match fin with|.done f=>R (.ok f) s'|.again c'=>c' = .compLoop (.DictComp k v gens sc p) d it acc env/\∃m,m<n/\I m s') (fun _ _=>False) s) (n:Nat) (h:I n s) :
  codeAny M A (.compLoop (.DictComp k v gens sc p) d it acc env) R s:=by
 refine codeAny_loop rfl I (fun n s hI=>?_) n h;rw[hM];show wpAny _ _ ((compTurn (.DictComp k v gens sc p) d it acc env).onRaise (fun x=>do noteFrame x env;theTreesLotGoes x)) _ _ s;refine wpAny_noted ?_;exact cq (turn n s hI) (fun fin s' hf=>hf) fun _ _ x=>x.elim
end
section
open PySem PySem.Calls PyProof.Rows PySem.W
section
variable {C:Cf} {φ a8 ax:Ph} {H H' H₁:Hp} {h h' h'' ao:Heap} {c:Cx} {env:Env} {ρ:ai}
noncomputable def Ph.less(φ:Ph)(wr:List Addr):Ph:=⟨φ.f,fun a=>φ.fr a/\a ∉ wr⟩
theorem less_mut(b:Addr)(q:aT (φ.less wr) H b):aT φ H b:=q.imp id And.left
theorem less_keep{wr:List Addr}(hf:∀b∈wr,φ.fr b)(k:∀b o,b ∉ wr->h.get? b=some o->h'.get? b=some o):∀b o,h.get? b=some o->¬ aT φ H b->h'.get? b=some o:=
 fun b o e m=>k b o (fun w=>m (.inr (hf b w))) e
theorem HQ{wr:List Addr}(hf:∀b∈wr,φ.fr b)(k:∀b o,b ∉ wr->h.get? b=some o->h'.get? b=some o){v:V}{x:Value}(r:C.R φ H h v x):C.R (φ.less wr) H h' v x:=
 r.mono (fun _ _ e=>e) (less_keep hf k) fun b _ q _=>less_mut b q
theorem Cf.Rt{wr:List Addr}(I:C.I φ H h)(hf:∀b∈wr,φ.fr b)(k:∀b o,b ∉ wr->h.get? b=some o->h'.get? b=some o):C.I (φ.less wr) H h':=by
 refine⟨fun b o e=>k _ _ (fun w=>?_) (I.base b o e),fun e m=>?_,I.nodup,I.inj,I.lt,I.fresh,fun a f=>?_,I.sys⟩
 ·rw[(I.cC b (hf b w)).1]at e;exact nq e
 ·exists b7 (I.objs e m),a,e1,e2,e3;have na:a ∉ wr:=fun w=>(I.cC a (hf a w)).2.1 e m e1;refine⟨a,e1,e2,?_⟩;revert e3
  induction e.obj using Internal.bq.casesOn with
  |list l=>rintro ⟨vs,n,g,r⟩;exact⟨vs,n,k _ _ na g,r.mono (fun _ _ e=>e) (less_keep hf k) fun b _ q _=>less_mut b q⟩
  |dict l=>rintro ⟨vs,n,g,r,d⟩;exact⟨vs,n,k _ _ na g,r.mono (fun _ _ e=>e) (less_keep hf k) (fun b _ q _=>less_mut b q),d⟩
 ·obtain⟨p,q,o,g⟩:=I.cC a f.1;exact⟨p,q,o,k _ _ f.2 g⟩
theorem ER.less(X:ER C c ρ env φ H h)(ap:Apart env wr)(hf:∀b∈wr,φ.fr b)(k:∀b o,b ∉ wr->h.get? b=some o->h'.get? b=some o):ER C c ρ env (φ.less wr) H h':=by
 refine⟨X.kind,X.glob,X.blt,X.kinds,?_,fun x i hx hi=>?_,⟨X.ib,fun w=>(ap _ w).1 rfl⟩,fun x a e=>⟨X.kz x a e,fun w=>(ap _ w).2 x e⟩,X.inj,X.ok⟩
 ·exists ae X.loc,m,hn,hm;exact⟨m,ip hn fun o e=>k _ o (fun w=>(ap _ w).1 rfl) e,fun x i v h1 h2 h3=>let ⟨val,e,r⟩:=hm x i v h1 h2 h3;⟨val,e,HQ hf k r⟩⟩
 ·exists gK (X.cell x i hx hi),a,ov,e1,e2,e3,e4,e5;have na:a ∉ wr:=fun w=>(ap _ w).2 x e1;exact⟨a,ov,e1,oI e2 fun o e=>k _ o na e,⟨e3,na⟩,e4,fun v hv=>let ⟨val,e,r⟩:=e5 v hv;⟨val,e,HQ hf k r⟩⟩
theorem Cf.finish(I:C.I φ H h)(S:St φ H h ax H₁ ao)(ah:C.I ax H₁ ao)(fw:∀b∈wr,h.get? b=none)(hf:∀b∈wr,ax.fr b)
  (S':SZ (fun b=>Z b\/b∈wr) ax (lockH H₁ vs) ao a8 H' h') (I':C.I a8 H' h') (k:∀b o,b ∉ wr->h'.get? b=some o->h''.get? b=some o) :
  C.I (a8.less wr) ⟨H'.nxt,eD H₁.es H'.es vs⟩ h''/\SZ Z φ H h (a8.less wr) ⟨H'.nxt,eD H₁.es H'.es vs⟩ h''/\
   ∀c ρ env,Apart env wr->ER C c ρ env a8 H' h'->ER C c ρ env (a8.less wr) ⟨H'.nxt,eD H₁.es H'.es vs⟩ h'':=by
 exists ak (C.Qi ah S' I'),aC,aP;have H8:∀b∈wr,a8.fr b:=fun b m=>S'.du b (hf b m);have T:SZ (fun b=>Z b\/b∈wr) φ H h a8 ⟨H'.nxt,eD H₁.es H'.es vs⟩ h':=S.eS.trans aP I ah;have nw:∀b o,h.get? b=some o->b ∉ wr:=fun b o e w=>by rw[fw b w]at e;exact nq e
 have nf:∀a,φ.fr a->a ∉ wr:=fun a f=>let ⟨_,_,o,g⟩:=I.cC a f;nw a o g
 refine⟨C.Rt aC H8 k,⟨fun b o e u z=>k b o (nw b o e) (T.keep b o e u fun q=>q.elim z (nw b o e)),T.ext,T.nxt,T.ids,T.new,fun b o e=>?_,fun a f=>⟨T.du a f,nf a f⟩,fun a f=>T.gE a f.1⟩,fun c ρ env ap X=>?_⟩
 ·exists aD (T.alive b o e),o',g;exact⟨o',k b o' (nw b o e) g⟩
 ·refine(X.same fun b q=>?_).less ap H8 k;refine q.imp (fun q=>?_) id;exists ae q,e,m,p
  try clear q
  exists ae (gZ (zA H₁.es vs H'.es) m),e',m',i;exact⟨e',m',by rw[i];exact p⟩
section
variable {t:PySem.Expr} {I0:Addr} {wr dR:List Addr} {items:List V} {It:Nat->Heap->Value->Heap->Prop} {J:Nat->Heap->Prop} {Mid:Nat->Value->Heap->Prop} {n:Nat} {A:Around} {s:Shared} {E:Value->Shared->Prop}
theorem Wk.turn{ρ₁ ρ':ai}{tg:List Nat}{many:Bool}{v:V}{i:Nat}{K:Shared->Prop}{Q:Unit->Shared->Prop}(W:Wk C t I0 wr dR ax H₁ ao items It J Mid)(ah:C.I ax H₁ ao)(gI:ER C c ρ₁ env ax H₁ ao)(ap:Apart env wr)(R:Rm A n)
  (S:SZ (fun b=>Zf c env b\/b∈wr) ax H₁ ao φ H s.heap) (I:C.I φ H s.heap) (X:ER C c ρ env φ H s.heap) (j:J i s.heap) (hv:items[i]?=some v) (ht:compT c t=some (tg,many)) (hb:eB ρ tg many v=some ρ')
  (P:∀a8 h' tk,SZ (fun b=>Zf c env b\/b∈wr) ax H₁ ao a8 H h'->C.I a8 H h'->ER C c ρ' env a8 H h'->J (i+1) h'->Q () { s with heap:=h',toks:=tk }) :
  C.wp A (pyNext (.ref I0)) (fun r s₁=>match r with
   |none=>K s₁
   |some y=>C.wp A (letOwnedTupleGo t (.ref I0) y) (fun _ s₂=>C.wp A (assign t env y) Q E s₂) E s₁) E s:=by
 have hf:∀b∈wr,φ.fr b:=fun b hb=>S.du b (W.fr b hb);have W':=W.w A R.handled;have step:∀{h h':Heap},C.I φ H h->ER C c ρ env φ H h->(∀b o,b ∉ wr->h.get? b=some o->h'.get? b=some o)->(∀b∈wr,∃o,h'.get? b=some o)->
   C.I φ H h'/\ER C c ρ env φ H h'/\SZ (fun b=>Zf c env b\/b∈wr) φ H h φ H h'/\∀b o,h.get? b=some o->¬ φ.fr b->h'.get? b=some o:=fun{h h'} I X k al=>by
  have kf:∀b o,h.get? b=some o->¬ φ.fr b->h'.get? b=some o:=fun b o e f=>k b o (fun m=>f (hf b m)) e;have gR:∀b o,h.get? b=some o->∃o',h'.get? b=some o':=fun b o e=>by
   by_cases m:b∈wr
   ·exact al b m
   ·exact⟨o,k b o m e⟩
  exact⟨C.qq I kf fun a f=>let ⟨_,_,o,g⟩:=I.cC a f;gR a o g,X.frames ap hf k,SZ.frames (fun b o e z=>k b o (fun m=>z (.inr m)) e) gR,kf⟩
 exists W'.item i s _ E (fj.mp hv).1 j,y,h2,tk,TQ,Mw,k,al;exists ft (step I X k al),I2,X2,S2,LF;have r:=W.rel i v y s.heap h2 φ H hv TQ I (W.tr ah gI S) LF;have T2:=S.trans S2 ah I;dsimp only;exists W'.go i y { s with heap:=h2,toks:=tk } _ E Mw,h3,j3,k3,KJ;exists ft (step I2 X2 k3 KJ),I3,X3,S3,Nb;have T3:=T2.trans S3 ah I2;exists Kr (s:={ s with heap:=h3,toks:=tk }) R X3 I3 ht hb (fT Nb r),rK,h4,t4,S4,I4,X4;exact P rK h4 t4 (T3.trans (S4.mono fun b z=>.inl z) ah I3) I4 X4 (W.body ah gI ap T3 I3 S4 j3)
end
end
end
section
open PySem PySem.Calls PyProof.Rows PySem.W
section
variable {C:Cf} {φ a8 ax:Ph} {H H' H₁:Hp} {h h' h'' ao:Heap} {c:Cx} {env:Env} {ρ:ai} {n:Nat} {A:Around} {s:Shared} {E:Value->Shared->Prop}
theorem P4(ifs:List PySem.Expr)(h:Q false s):wpAny M A (forIn ifs false fun c ok=>if ok=true then do
  let b <- PySem.isTrue c env (eval c env)
  pure (ForInStep.yield b)
 else pure (ForInStep.yield ok)) Q E s:=by
 induction ifs with
 |nil=>rw[List.forIn_nil];exact aw h
 |cons e es ih=>
  rw[List.forIn_cons];rw[if_neg dq];exact a9 (aw ih)
theorem Mj(es:List PySem.Expr)(ms:List ME)(h:bY (fun e m=>C.SB n c e (dn m)) es ms):∀(φ:Ph) (H:Hp) (s:Shared) (b:Bool) (H':Hp) (Q:Bool->Shared->Prop),Rm A n->C.I φ H s.heap->ER C c ρ env φ H s.heap->denIfs dn ρ ms H=some (b,H')->
  C.Po φ H s H' (fun _ _ x=>x=b) Q->C.wp A (ifsW es env) Q E s:=by
 induction h with
 |nil=>
  intro φ H s b H' Q R I X e P
  (clear X R;injections e)
  unfold ifsW;rw[List.forIn_nil];exact aw (P.dT I rfl)
 |@cons e m es ms h1 h2 ih=>
   intro φ H s b H' Q R I X e' P;have e':cK (dn m ρ H) (fun b H=>match b with
    |true=>denIfs dn ρ ms H
    |false=>some (false,H))=some (b,H'):=e'
   exists aU (nC e'),b1,H₁,e1,e2;unfold ifsW;rw[List.forIn_cons];rw[if_pos rfl];refine a9 (a9 (h1 A env ρ φ H s b1 H₁ _ E R I X e1 fun x ax ao b6 aA ah aR=>?_));clear e1 e' h1;clear e' h2;subst aR;refine aw ?_;dsimp only
   induction x using aB with
   |true=>exact ih ax H₁ _ b H' Q R ah (X.step aA I) e2 (P.step aA I ah)
   |false=>
    injections e2;exact P4 es ((P.step aA I ah).dT ah rfl)
structure ly (M:Model) (e:PySem.Expr) (gens:List PySem.Comprehension) (eQ:Value->Env->Sem Unit):Prop where
 turn:∀acc env,Aq M e gens acc env (eQ acc env)
 start:∀{A:Around} {R:Result->Shared->Prop} {s:Shared} (d:Nat) (it acc:Value) (env:Env) {g:PySem.Comprehension},gens[d]?=some g->g.is_async=0->codeAny M A (.compLoop e d it acc env) R s->
  wpAny M A (pyIter it) (fun kg s'=>codeAny M A (.compLoop e d kg acc env) R s') (notedBy M A env fun x s'=>R (.error x) s') s->codeAny M A (.compStart e d it acc env) R s
 loop:∀{A:Around} {R:Result->Shared->Prop} {s:Shared} (d:Nat) (it acc:Value) (env:Env) (I:Nat->Shared->Prop),
  (∀n s,I n s->wpAny M A (compTurn e d it acc env) (fun fin s'=>match fin with|.done f=>R (.ok f) s'|.again c'=>c' = .compLoop e d it acc env/\∃m,m<n/\I m s') (fun _ _=>False) s)->
  ∀n,I n s->codeAny M A (.compLoop e d it acc env) R s
theorem GL(hM:∀c,M.den c=denote table c)(elt:PySem.Expr)(gens:List PySem.Comprehension)(sc:Scope)(p:Pos):ly M (.ListComp elt gens sc p) gens (ow elt) where
 turn:=fun acc env=>RZ M elt gens sc p acc env
 start:=fun d it acc env _ hg ha h0 h=>VU elt gens sc p d it acc env hM hg ha h0 h
 loop:=fun d it acc env I t n h=>MV elt gens sc p d it acc env hM I t n h
theorem Ea(hM:∀c,M.den c=denote table c)(k v:PySem.Expr)(gens:List PySem.Comprehension)(sc:Scope)(p:Pos):ly M (.DictComp k v gens sc p) gens (pe k v) where
 turn:=fun acc env=>Zx M k v gens sc p acc env
 start:=fun d it acc env _ hg ha h0 h=>Vd k v gens sc p d it acc env hM hg ha h0 h
 loop:=fun d it acc env I t n h=>Wi k v gens sc p d it acc env hM I t n h
noncomputable def Cf.SI(C:Cf)(n:Nat)(c:Cx)(t e:PySem.Expr)(d:ai->Hp->Option (List V×Hp))(ik:IK):Prop:=∀A env ρ φ H s vs H₁ items Q E,Rm A n->C.I φ H s.heap->ER C c ρ env φ H s.heap->d ρ H=some (vs,H₁)->iterOf H₁ ik vs=some items->
 C.fX t φ H s H₁ vs items Q->C.wp A (eval e env) (fun x s'=>C.wp A (pyIter x) Q E s') E s
structure eG (C:Cf) (n:Nat) (c out:Cx) (dn:DN) (g:PySem.Comprehension) (m:Gen):Prop where
 async:g.is_async=0
 tgt:compT c g.target=some (m.1,m.2.1)
 set:∀env x,foldedSetIterable g.iter env x=pure x
 it:C.SI n out g.target g.iter (fun ρ H=>denL dn ρ m.2.2.2.1 H) m.2.2.1
 ifs:bY (fun e m=>C.SB n c e (dn m)) g.ifs m.2.2.2.2
noncomputable def Cf.DK(C:Cf)(n:Nat)(c:Cx)(e:PySem.Expr)(gens:List PySem.Comprehension)(eQ:Value->Env->Sem Unit)(d na:Nat)(f:ai->Hp->Option Hp)(ts:List Nat):Prop:=
 ∀A env ρ φ H s aa H' K E,Rm A n->C.I φ H s.heap->ER C c ρ env φ H s.heap->φ.f na=some aa->(∀i∈ts,cF ρ i=none)->f ρ H=some H'->
  (∀a8 h' tk,SZ (Zf c env) φ H s.heap a8 H' h'->C.I a8 H' h'->ER C c ρ env a8 H' h'->K { s with heap:=h',toks:=tk })->
  kX (model C.prog C.w) A e gens (.ref aa) env (eQ (.ref aa) env) d K E s
theorem slotS_other(ρ:ai):∀(i j:Nat) (x:Option V),i≠j->cF (slotS ρ i x) j=cF ρ j:=by
 induction ρ with
 |nil=>intros;rfl
 |cons y ρ ih=>
  intro i j x k8
  induction i using bL with
  |zero=>induction j using bL with
   |zero=>exact absurd rfl k8
   |succ j=>rfl
  |succ i=>induction j using bL with
   |zero=>rfl
   |succ j=>exact ih i j x fun z=>k8 (by rw[z])
theorem aay(tg:List Nat):∀(l:List V) (ρ ρ':ai),bindTs ρ tg l=some ρ'->(∀i∈tg,cF ρ i=none)->tg.Nodup->Le ρ ρ':=by
 induction tg with
 |nil=>
  intro l ρ ρ' e _ _
  induction l using aN with
  |nil=>rw[<- aI e];exact fun _ _ h=>h
  |cons=>exact nq e
 |cons i is ih=>
  intro l ρ ρ' e g4 b9 j w hj
  induction l using aN with
  |nil=>exact nq e
  |cons v l=>
   rw[eu]at b9;have bN:i≠j:=fun z=>by rw[<- z,g4 i (.head _)]at hj;exact nq hj
   refine ih l (slotS ρ i (some v)) ρ' e (fun k hk=>?_) b9.2 j w ?_
   ·rw[slotS_other ρ i k _ fun z=>b9.1 (z▸hk)];exact g4 k (.tail _ hk)
   ·rw[slotS_other ρ i j _ bN];exact hj
theorem UB(tg:List Nat):∀(l:List V) (ρ ρ':ai),bindTs ρ tg l=some ρ'->∀j,j ∉ tg->cF ρ' j=cF ρ j:=by
 induction tg with
 |nil=>
  intro l ρ ρ' e j _
  induction l using aN with
  |nil=>rw[<- aI e]
  |cons=>exact nq e
 |cons i is ih=>
  intro l ρ ρ' e j hj
  induction l using aN with
  |nil=>exact nq e
  |cons v l=>rw[ih l _ ρ' e j fun m=>hj (.tail _ m),slotS_other ρ i j _ fun z=>hj (by rw[z];exact .head _)]
theorem QA(h:eB ρ tg many v=some ρ'):∃l,bindTs ρ tg l=some ρ':=by
 unfold eB at h;split at h
 ·exact⟨_,h⟩
 ·split at h
  ·exact⟨_,h⟩
  ·exact nq h
set_option tactic.hygienic true in
theorem aaK(h:Internal.turn dn tg many ifs go ρ v H=some H'):∃ρ' b H₁,eB ρ tg many v=some ρ'/\denIfs dn ρ' ifs H=some (b,H₁)/\(match b with
  |true=>go ρ' H₁=some H'
  |false=>H'=H₁):=by
 unfold Internal.turn at h;split at h
 ·rename_i ρ' hb
  induction hd:denIfs dn ρ' ifs H using aL with
  |none=>rw[hd]at h;exact nq h
  |some p=>
   obtain⟨b,H₁⟩:=p;rw[hd]at h;refine⟨ρ',b,H₁,hb,hd,?_⟩;clear hd hb;induction b using aB with
   |true=>exact h
   |false=>exact(aI h).symm
 ·exact nq h
structure FI (C:Cf) (c:Cx) (env:Env) (Z:Addr->Prop) (ax:Ph) (L:Hp) (ao:Heap) (go:Nat->ai->Hp->Heap->Prop) (i:Nat) (a8:Ph) (h':Heap) (ρ₁:ai) (H':Hp):Prop where
 S:SZ Z ax L ao a8 H' h'
 I:C.I a8 H' h'
 X:ER C c ρ₁ env a8 H' h'
 f:go i ρ₁ H' h'
noncomputable def CX(C:Cf)(c:Cx)(env:Env)(Z:Addr->Prop)(s:Shared)(ax:Ph)(L:Hp)(ao:Heap)(go:Nat->ai->Hp->Heap->Prop)(k:Nat)(s':Shared):Prop:=∃a8 h' tk ρ₁ H',s'={ s with heap:=h',toks:=tk }/\FI C c env Z ax L ao go k a8 h' ρ₁ H'
noncomputable def Jl(C:Cf)(c:Cx)(env:Env)(Z:Addr->Prop)(s:Shared)(ax:Ph)(L:Hp)(ao:Heap)(ρ:ai)(go:Nat->ai->Hp->Heap->Prop)(k:Nat)(s':Shared):Prop:=∃a8 h' tk H',s'={ s with heap:=h',toks:=tk }/\FI C c env Z ax L ao go k a8 h' ρ H'
noncomputable def CG(f:V->Hp->Option Hp)(items:List V)(J:Nat->Heap->Prop)(r:Hp)(k:Nat)(_:ai)(H:Hp)(h:Heap):Prop:=∃i,k+i=items.length/\J i h/\forItems f (items.drop i) H=some r
set_option tactic.hygienic true in
theorem IY(hM:M=model C.prog C.w)
  {I0 aa:Addr} {wr dR:List Addr} {items:List V} {It:Nat->Heap->Value->Heap->Prop} {J:Nat->Heap->Prop} {Mid:Nat->Value->Heap->Prop} {Rr:Result->Shared->Prop} {aE:Hp}
  (CR:ly M e gens eQ) (hg:gens[d]?=some g) (ha:g.is_async=0) (ht:compT c g.target=some (tg,many)) (kM:bY (fun e m=>C.SB n c e (dn m)) g.ifs ifs) (hn:C.DK n c e gens eQ d na go ts)
  (Hr:(tg++ts).Nodup) (g4:∀i∈tg++ts,cF ρ i=none) (W:Wk C g.target I0 wr dR ax H₁ s.heap items It J Mid) (R:Rm A n) (ah:C.I ax H₁ s.heap) (X:ER C c ρ env ax H₁ s.heap) (ap:Apart env wr) (fK:ax.f na=some aa) (j:J 0 s.heap)
  (hf:forItems (Internal.turn dn tg many ifs go ρ) items H₁=some aE)
  (P:∀a8 h' h'' tk,SZ (fun b=>Zf c env b\/b∈wr) ax H₁ s.heap a8 aE h'->C.I a8 aE h'->ER C c ρ env a8 aE h'->(∀b o,b ∉ wr->h'.get? b=some o->h''.get? b=some o)->Rr (.ok .next) { s with heap:=h'',toks:=tk }) :
  codeAny M A (.compLoop e d (.ref I0) (.ref aa) env) Rr s:=by
 refine CR.loop d (.ref I0) (.ref aa) env (Jl C c env (fun b=>Zf c env b\/b∈wr) s ax H₁ s.heap ρ (CG (Internal.turn dn tg many ifs go ρ) items J aE)) (fun k s' hk=>?_) items.length ⟨ax,s.heap,s.toks,H₁,rfl,SZ.refl ..,ah,X,0,rfl,j,hf⟩;exists EM hk,a8,h',tk,H',z,F;clear hk j;subst z;exists cps,P0,k0;obtain⟨S,I,X',f0⟩:=F;exists b7 f0,i,hk,j',hf;clear f0
 induction hv:items[i]? using aL with
 |none=>
  have hi:i=items.length:=by
   have:=List.getElem?_eq_none_iff.mp hv
   lia
  subst hi;rw[List.drop_length]at hf;exists hf;refine k0 (CR.turn _ _ A d (.ref I0) g _ _ _ hg ha ?_);subst hM;exact(W.w A R.handled).done { s with heap:=h',toks:=tk } _ _ j' fun h'' wB k=>P a8 h' h'' wB S I X' k
 |some v=>
  exists aD (fj.mp hv),hi,si;rw[List.drop_eq_getElem_cons hi,si]at hf;have hf:(match Internal.turn dn tg many ifs go ρ v H' with
   |some H=>forItems (Internal.turn dn tg many ifs go ρ) (items.drop (i+1)) H
   |none=>none)=some aE:=hf
  split at hf
  ·rename_i H3 Xs;exists dE (aaK Xs),ρ',b,H4,hb,hd,jo;exists aD (QA hb),l,cB;have hle:=aay tg l ρ ρ' cB (fun i m=>g4 i (List.mem_append_left _ m)) (List.nodup_append.mp Hr).1;have fin:∀iO h5 t5,SZ (fun b=>Zf c env b\/b∈wr) ax H₁ s.heap iO H3 h5->C.I iO H3 h5->ER C c ρ' env iO H3 h5->J (i+1) h5->Code.compLoop e d (.ref I0) (.ref aa) env = .compLoop e d (.ref I0) (.ref aa) env/\
     ∃m,m<k/\Jl C c env (fun b=>Zf c env b\/b∈wr) s ax H₁ s.heap ρ (CG (Internal.turn dn tg many ifs go ρ) items J aE) m { s with heap:=h5,toks:=t5 }:=
    fun iO h5 t5 S5 I5 X5 j5=>⟨rfl,k - 1,by lia,iO,h5,t5,H3,rfl,S5,I5,X5.weak hle,i+1,by lia,j5,hf⟩
   refine k0 (CR.turn _ _ A d (.ref I0) g _ _ _ hg ha ?_);subst hM;clear k0;exists W.turn (s:={ s with heap:=h',toks:=tk }) ah X ap R S I X' j' hv ht hb,rK,h4,t4,S4,I4,X4,j4;exists Mj g.ifs ifs kM rK H' { s with heap:=h4,toks:=t4 } b H4 _ R I4 X4 hd,b',iO,h5,t5,S5,I5,dD;subst dD;have T5:=S4.trans S5.eS ah I4;have X5:=X4.step S5 I4;have j5:=W.body ah X ap S4 I4 (S5.eS (Z:=Zf c env)) j4;clear S5 j4 X4 I4 S4;induction b' using aB with
   |false=>
    have jo:H3=H4:=jo;subst jo;exact fin iO h5 t5 T5 I5 X5 j5
   |true=>
    refine hn A env ρ' iO H4 { s with heap:=h5,toks:=t5 } aa H3 _ _ R I5 X5 (T5.ext _ _ fK) (fun i hi=>?_) jo fun Ve h6 t6 S6 I6 X6=>?_
    ·rw[UB tg l ρ ρ' cB i fun m=>(List.nodup_append.mp Hr).2.2 i m i hi rfl];exact g4 i (List.mem_append_right _ hi)
    ·exact fin Ve h6 t6 (T5.trans (S6.mono fun b z=>.inl z) ah I5) I6 X6 (W.body ah X ap T5 I5 S6 j5)
  ·exact nq hf
end
end
section
open PySem PySem.Calls PyProof.Rows PySem.W
section
variable {C:Cf} {φ a8 ax bp:Ph} {H H' H₁ aE:Hp} {h h' h'' ao aV:Heap} {c:Cx} {env:Env} {ρ:ai} {n:Nat} {A:Around} {s:Shared} {E:Value->Shared->Prop}
theorem Wk.later(W:Wk C t I0 wr dR ax (lockH H₁ vs) ao items It J Mid)(ah:C.I ax H₁ ao)(S:St ax H₁ ao bp aE aV)(aC:C.I bp aE aV)
  (k:∀b o,ao.get? b=some o->aV.get? b=some o):Wk C t I0 wr dR bp (lockH aE vs) aV items It J Mid:=by
 refine⟨W.w,fun b hb=>S.du b (W.fr b hb),fun b hb=>?_,fun i v y h h' φ H hv hi I tr kp=>W.rel i v y h h' φ H hv hi I (fun v x r=>tr v x (lQ vs (S.vr ah (r.mono (fun _ _ e=>e) (fun _ _ e _=>e) fun _ _ q _=>(zP vs _).mpr q)))) kp⟩;obtain⟨⟨o,ho⟩,nu,nf⟩:=W.dep b hb;refine⟨⟨o,k b o ho⟩,?_,fun f=>?_⟩
 ·rintro ⟨e',m',lk,q⟩;exists dX (A0 aC.nodup vs e' m'),e0,m0,i0,Z0,l0;exists pn (qZ vs aE.es aC.nodup e0 m0),e1,m1,a1,b1,c1,d1,f1;have N':((nk aE.es vs).map (·.id)).Nodup:=by rw[ku];exact aC.nodup
  have:e1=e':=hY N' m1 m' (a1.trans i0);clear N' f1 c1 b1 m1 i0 m' nf hb k W;subst this;have Pa:(.ref e0.id:V) ∉ vs:=fun z=>by rw[d1 z]at lk;exact bt lk
  clear d1;rcases S.new e0 m0 with⟨x,mx,ix⟩|z
  ·exists ae (ah.objs x mx),a,ha,Z0;have fE:=S.ext _ _ ha;rw[ix,<- a1,q]at fE
   (clear q a1 ho;exists fE)
   exists dX (S.ids x mx),x2,Uq,j1,j2,Z0;have:x2=e0:=hY aC.nodup Uq m0 (j1.trans ix);subst this;exists pn (qZ vs H₁.es ah.nodup x mx),y,my,p1,Z0,Z0,Z0,p6;refine nu ⟨y,my,?_,by rw[p1];exact ha⟩;rw[p6 (by rw[ix];exact Pa),<- j2];exact l0 lk
  ·rw[<- a1]at z;rw[z b q]at ho;exact nq ho
 ·clear nu hb k aC ah W;rcases S.gE b f with f|f
  ·exact nf f
  ·rw[f]at ho;exact nq ho
noncomputable def Cf.nv(C:Cf)(n:Nat)(c:Cx)(eQ:Value->Env->Sem Unit)(na:Nat)(emit:ai->Hp->Option Hp):Prop:=∀A env ρ φ H s aa H' Q E,Rm A n->C.I φ H s.heap->ER C c ρ env φ H s.heap->φ.f na=some aa->emit ρ H=some H'->
 (∀a8 h' tk,St φ H s.heap a8 H' h'->C.I a8 H' h'->Q () { s with heap:=h',toks:=tk })->C.wp A (eQ (.ref aa) env) Q E s
set_option tactic.hygienic true in
theorem NS(CR:ly (model C.prog C.w) e gens eQ)(leaf:C.nv n c eQ na emit) :
  ∀(gs:List PySem.Comprehension) (ms:List Gen) (d:Nat),gens.drop (d+1)=gs->bY (eG C n c c dn) gs ms->(lN ms).Nodup->C.DK n c e gens eQ d na (runGens dn emit ms) (lN ms):=by
 intro gs ms d hd cY
 induction cY generalizing d with
 |nil=>
  intro _ A env ρ φ H s aa H' K E R I X fK g4 e' P;have hn:gens[d+1]?=none:=by
   rw[List.getElem?_eq_none_iff];exact List.drop_eq_nil_iff.mp hd
  unfold kX;rw[hn];exact leaf A env ρ φ H s aa H' _ E R I X fK e' fun a8 h' tk S' I'=>P a8 h' tk S'.eS I' (X.step S' I)
 |@cons g m gs ms G Gs eK=>
   intro b9 A env ρ φ H s aa H' K E R I X fK g4 e' P;have hg:gens[d+1]?=some g:=by
    rw[<- List.head?_drop,hd];rfl
   have km:gens.drop (d+1+1)=gs:=by
    rw[<- List.drop_drop,hd];rfl
   clear hd;obtain⟨tg,many,ik,es,ifs⟩:=m;have b9:(tg++lN ms).Nodup:=b9;have ih:=eK (d+1) km (List.nodup_append.mp b9).2.1;unfold kX;rw[hg];refine⟨G.async,?_⟩;have e':(ob (denL dn ρ es H) fun vs H=>match iterOf H ik vs with
    |some items=>unlH H.es vs (forItems (Internal.turn dn tg many ifs (runGens dn emit ms) ρ) items (lockH H vs))
    |none=>none)=some H':=e'
   clear km Gs leaf;induction fu:denL dn ρ es H using aL with
   |none=>rw[fu]at e';exact nq e'
   |some p=>
    obtain⟨vs,H₁⟩:=p;rw[fu]at e';have e':(match iterOf H₁ ik vs with
     |some items=>unlH H₁.es vs (forItems (Internal.turn dn tg many ifs (runGens dn emit ms) ρ) items (lockH H₁ vs))
     |none=>none)=some H':=e'
    split at e'
    ·rename_i items hit;exists ae (JQ e'),aE,hf,ke;clear e';subst ke;refine cq (G.it A env ρ φ H s vs H₁ items (fun it s₃=>C.wp A (runOwn (.compStart e (d+1) it (.ref aa) env) env) (fun _ s₄=>K s₄) E s₃) E R I X fu hit fun I0 wr dR ax ao tk It J Mid aA ah W j fw=>?_) (fun x s' hx=>by rw[G.set env x];exact aw hx) fun _ _ x=>x;refine wpAny_runOwn (env:=env) ?_ (by intro x;exact nq x);have L:=IY (s:={ s with heap:=ao,toks:=tk }) (Rr:=fun r s'=>match r with
       |.ok f=>K s'
       |.error e=>cameBackBy (model C.prog C.w) A env E e s') (wr:=wr) (ρ:=ρ) (c:=c) (A:=A) rfl CR hg G.async G.tgt G.ifs ih b9 g4 W R (C.Am ah vs) (zC vs (X.step aA I)) (rC X I fw) (aA.ext _ _ fK) j hf fun a8 h' h'' lu S' I' X' k=>by
      exists dK (C.finish I aA ah fw W.fr S' I' k),I3,S3,X3;exact P _ h'' lu S3 I3 (X3 c ρ env (rC X I fw) X')
     exact CR.start (d+1) (.ref I0) (.ref aa) env hg G.async L ((W.w A R.handled).self 0 _ _ _ j L)
    ·exact nq e'
end
end
section
open PySem PySem.Calls PyProof.Rows PySem.W
noncomputable def CompEnd(M:Model)(A:Around)(E:Value->Shared->Prop)(use:Option (Value->Sem Unit))(Q:Value->Shared->Prop)(acc:Value)(L:Addr)(s':Shared):Prop:=match use with
 |none=>∃m,s'.heap.Ns L m/\∀h',Heap.SameBut L s'.heap h'->(∃m',h'.Ns L m')->Q acc { s' with heap:=h' }
 |some u=>wpAny M A (u acc) (fun _ sf=>∃m,sf.heap.Ns L m/\∀h',Heap.SameBut L sf.heap h'->(∃m',h'.Ns L m')->Q .none { sf with heap:=h' }) E s'
theorem PI
  {Q:Value->Shared->Prop}
  (dc:clausesOf e=g::gs) (hs:∀x,foldedSetIterable g.iter env x=pure x)
  (B8:scope.kind = .function) (xu:∀x∈scope.names,x.2 = .local->scope.names.lookup x.1=some .local)
  (h:wpAny M A first (fun x s₁=>wpAny M A (pyIter x) (fun it s₂=>wpAny M A iq (fun acc s₃=>wpAny M A (closureFor scope env) (fun cl s₄=>
   wpAny M A (newFunctionEnv scope env.globals cl [] env.qual none .none (some env)) (fun cenv pk=>
    codeAny M A (.compStart e 0 it acc { cenv with scope:=relabel scope env }) (fun r s'=>match r with
     |.ok _=>CompEnd M A E use Q acc cenv.locals s'
     |.error _=>False) pk) E s₄) E s₃) E s₂) E s₁) E s) :
  wpAny M A (comprehension e scope env pos iq false first use) Q E s:=by
 unfold comprehension;rw[dc];refine a9 (cq h (fun x s₁ ao=>a9 (fR (a9 (wpAny_of_eq (hs x) (a9 (dM (cq ao (fun it s₂ aV=>
  wpAny_standIf (a9 (cq aV (fun acc s₃ cQ=>a9 (cq cQ (fun cl s₄ h₄=>a9 (cq h₄ (fun cenv pk iN=>?_) fun _ _ h'=>h')) fun _ _ h'=>h')) fun _ _ h'=>h')))
   fun _ _ h'=>h'))))))) fun _ _ h'=>h')
 dsimp only;have hv:∀x∈(scope.names.filter fun x=>(x.2 == .local ||x.2 == .cell) && x.1 != (".0" : Str)).reverse,x.2 = .local->
   Env.kindOf { cenv with scope:=relabel scope env } x.1=some .local:=fun x hx hl=>lookup_relabel_local (xu x (List.mem_filter.mp (List.mem_reverse.mp hx)).1 hl)
 have si:∀x∈(scope.names.filter fun x=>(x.2 == .local ||x.2 == .cell) && x.1 != (".0" : Str)).reverse.drop 1++(scope.names.filter fun x=>(x.2 == .local ||x.2 == .cell) && x.1 != (".0" : Str)).reverse.take 1,
   x.2 = .local->Env.kindOf { cenv with scope:=relabel scope env } x.1=some .local:=fun x hx hl=>by
  clear iN h₄ cQ aV ao h xu B8 hs dc;rcases lO.mp hx with h1|h1
  ·exact hv x (List.mem_of_mem_drop h1) hl
  ·exact hv x (List.mem_of_mem_take h1) hl
 refine dM (a9 (wpAny_attempt (dM (wpAny_run (codeAny_mono iN fun r s' hr=>?_)))));clear iN h₄ cQ aV ao h xu hs dc;induction r using Except.casesOn with
 |ok f=>
  induction use using aL with
  |none=>
   exists ae hr,m,hn,hr;exact a9 (dM (wpAny_comp_letGo (cenv:={ cenv with scope:=relabel scope env }) B8 _ s' m hv hn fun h' m' iG cg=>aw (hr h' cg ⟨m',iG⟩)))
  |some u=>
   refine a9 (wpAny_rule (a9 (dM (cq hr (fun _ sf yU=>?_) fun _ _ h'=>h'))));exists ae yU,m,hn,yU;exact a9 (wpAny_comp_letGo (cenv:={ cenv with scope:=relabel scope env }) B8 _ sf m si hn fun h' m' iG cg=>aw (yU h' cg ⟨m',iG⟩))
 |error x=>exact hr.elim
section
variable {C:Cf} {φ a8 ax bp:Ph} {H H' H₁ aE:Hp} {h h' h'' ao aV:Heap} {c c':Cx} {env:Env} {ρ:ai} {n:Nat} {A:Around} {s:Shared} {E:Value->Shared->Prop}
noncomputable def Cf.pA(C:Cf)(iq:Sem Value)(o:bq):Prop:=∀(A:Around) φ H (s:Shared) (Q:Value->Shared->Prop) E,C.I φ H s.heap->
 (∀a8 h' aa tk,St φ H s.heap a8 (Internal.newObj H o).2 h'->C.I a8 (Internal.newObj H o).2 h'->(∀b x,s.heap.get? b=some x->h'.get? b=some x)->a8.f H.nxt=some aa->Q (.ref aa) { s with heap:=h',toks:=tk })->C.wp A iq Q E s
theorem Ia:C.pA (PySem.newList []) (.list []):=fun A φ H s Q E I P=>by
 refine wpAny_newObj_type ?_;obtain⟨I',S,r⟩:=C.fresh I (cV s.heap _) (cA _) (o:=.list []) ⟨[],_,Heap.get?_push_size _ rfl,.nil⟩;cases r with
 |ref hr=>exact P _ _ _ s.toks S I' (cV s.heap _) hr
theorem Dy:C.pA PySem.newDict (.dict []):=fun A φ H s Q E I P=>by
 refine wpAny_newObj_type ?_;refine dK (C.fresh I (cV s.heap _) (cA _) (o:=.dict []) ⟨[],0,Heap.get?_push_size _ rfl,.nil,by simp⟩) fun I' S r=>?_;clear I;cases r with
 |ref hr=>exact P _ _ _ s.toks S I' (cV s.heap _) hr
theorem S8:∀(is:List Nat) (ρ:ai) (i:Nat),i∈is->cF (slotC ρ is) i=none:=fun is ρ i m=>by
 induction h:cF (slotC ρ is) i using aL with
 |none=>rfl
 |some v=>exact absurd m (tF ρ is i h).1
theorem NC(h:iK clr gs=true):(lN gs).Nodup/\∀i∈lN gs,i∈clr:=by
 exists ak ((cX _ _).mp h),h1,h2;refine⟨zF h1,fun i m=>?_⟩;have:=List.all_eq_true.mp h2 i m;exists ae (List.any_eq_true.mp this),j,hj,e;rw[cU e];exact hj
theorem LD{e:PySem.Expr}{eQ:Value->Env->Sem Unit}{emit:Nat->ai->Hp->Option Hp}{iq:Sem Value}{o:bq}{clr:List Nat}{sc:Scope}{pos:Pos}{use:Option (Value->Sem Unit)}{g:PySem.Comprehension}{gs:List PySem.Comprehension}{tg:List Nat}{many:Bool}{ik:IK}{es ifs:List ME}{vs items:List V}{ms:List Gen}{dn:DN}
  {Q:Value->Shared->Prop} {v:V}
  (dc:clausesOf e=g::gs) (CR:ly (model C.prog C.w) e (g::gs) eQ) (leaf:∀na,C.nv n c' eQ na (emit na)) (dO:C.pA iq o) (bX:c.inner sc=some (c',clr))
  (pZ:∀x,foldedSetIterable g.iter env x=pure x) (ha:g.is_async=0) (pB:compT c' g.target=some (tg,many)) (kM:bY (fun e m=>C.SB n c' e (dn m)) g.ifs ifs)
  (hit:∀Q,C.fX g.target φ H s H₁ vs items Q->C.wp A (eval g.iter env) (fun x s'=>C.wp A (pyIter x) Q E s') E s)
  (Gs:bY (eG C n c' c' dn) gs ms) (fI:iK clr ((tg,many,ik,es,ifs)::ms)=true) (R:Rm A n) (I:C.I φ H s.heap) (X:ER C c ρ env φ H s.heap)
  (hd:compGo H₁.nxt (Internal.turn dn tg many ifs (runGens dn (emit H₁.nxt) ms) (slotC ρ clr)) items vs (Internal.newObj H₁ o).2=some (v,H'))
  (P:∀a8 h' tk aa L,St φ H s.heap a8 H' h'->C.I a8 H' h'->C.R a8 H' h' v (.ref aa)->s.heap.get? L=none->a8.fr L->(∃m,h'.Ns L m)->CompEnd (model C.prog C.w) A E use Q (.ref aa) L { s with heap:=h',toks:=tk }) :
  C.wp A (comprehension e sc env pos iq false (eval g.iter env) use) Q E s:=by
 obtain⟨fc,fr,ij,dj,j7,DO⟩:=yz bX;exists ak (Bt dj),Z0,v7;have v7:(sc.names.map (·.1)).Nodup:=v7;exists ak (NC fI),lU,oi;refine PI dc pZ fc (fun x hx hl=>?_) ?_
 ·clear oi lU DO j7 dj ij fc P hd X I R fI Gs hit kM pB ha pZ bX dO leaf CR dc;obtain⟨x,k⟩:=x;have hl:k = .local:=hl;subst hl;exact mO v7 hx
 have hd:dw H₁.nxt (unlH (Internal.newObj H₁ o).2.es vs (forItems (Internal.turn dn tg many ifs (runGens dn (emit H₁.nxt) ms) (slotC ρ clr)) items (lockH (Internal.newObj H₁ o).2 vs)))=some (v,H'):=hd;clear v7 DO j7 dj ij fc fI pZ dc;induction hu:unlH (Internal.newObj H₁ o).2.es vs (forItems (Internal.turn dn tg many ifs (runGens dn (emit H₁.nxt) ms) (slotC ρ clr)) items (lockH (Internal.newObj H₁ o).2 vs))using aL with
 |none=>rw[hu]at hd;exact nq hd
 |some Hu=>
  rw[hu]at hd;injections hd;exists ae (JQ hu),aE,hf,ke;subst ke;exists hit _,I0,wr,dR,ax,ao,tk,It,J,Mid,aA,ah,W,j,fw;exists dO A ax H₁ { s with heap:=ao,toks:=tk } _ E ah,bp,aV,aa,Eb,aP,aC,k₂,fK;have fG:=aA.trans aP I ah;exists V9 (s:={ s with heap:=aV,toks:=Eb }) (X.step fG I) aC bX,cenv,ce,cQ,sM,df,nV,fk,cL,d7,iY,fresh,cells;have nD:=fG.trans d7 I aC;have nT:=(W.later ah aP aC k₂).later aC d7 cL nV;have nP:J 0 cQ:=(W.w A R.handled).frame 0 ao cQ j fun b x _ e=>nV b x (k₂ b x e);have uA:∀b∈wr,∃x,aV.get? b=some x:=fun b hb=>by
   clear nP nT nD cells fresh iY d7 cL fk nV df fG fK aC aP fw j aA P hf oi lU X I R Gs hit kM pB ha bX dO leaf CR;obtain⟨_,_,x,hx⟩:=ah.cC b (W.fr b hb);exact⟨x,k₂ b x hx⟩
  have A4:=rC X I fw;have ap:Apart ce wr:=fun b hb=>by
   exists aD (uA b hb),x,hx;refine⟨fun z=>?_,fun y hy=>?_⟩
   ·have:aV.get? b=none:=fresh b (.inl z);rw[this]at hx;exact nq hx
   ·clear uA nP nT nD fresh iY d7 cL fk nV df fG fK k₂ aC aP fw j W ah aA P hf oi lU X I R Gs hit kM pB ha bX dO leaf CR;rcases cells y b hy with q|q
    ·have q:aV.get? b=none:=q;rw[q]at hx;exact nq hx
    ·exact(A4 b hb).2 y q
  have AQ:ce={ cenv with scope:=relabel sc env }:=df;rw[<- AQ];have eL:cenv.locals=ce.locals:=by rw[df]
  have NX:=NS (na:=H₁.nxt) CR (leaf H₁.nxt) gs ms 0 rfl Gs (List.nodup_append.mp lU).2.1;have L:=IY (s:={ s with heap:=cQ,toks:=Eb }) (Rr:=fun r s'=>match r with
    |.ok _=>CompEnd (model C.prog C.w) A E use Q (.ref aa) cenv.locals s'
    |.error _=>False) (wr:=wr) (ρ:=slotC ρ clr) (c:=c') (A:=A) (env:=ce) rfl CR (d:=0) rfl ha pB kM NX lU (fun i hi=>S8 clr ρ i (oi i hi)) nT R (C.Am cL vs) (zC vs iY) ap (d7.ext _ _ fK) nP hf fun a8 h' h'' lu S' I' X' k=>by
   exists dK (C.finish (I) nD cL fw nT.fr S' I' k),I4,S4,X4;have X4:=X4 c' (slotC ρ clr) ce ap X';exists ae X4.loc,mm,jz,Z0;have S5:St φ H s.heap (a8.less wr) _ h'':=S4.Jq fun b hb=>by
    have hb:aV.get? b=none:=fresh b hb;clear jz X4 S4 I4 k X' I' S' NX eL AQ ap A4 uA nP nT nD cells fresh iY d7 cL fk nV df fK k₂ aC aP fw j W ah aA P hf oi lU X I R Gs hit kM pB ha bX dO leaf CR;induction q:s.heap.get? b using aL with
    |none=>rfl
    |some x=>
     exists aD (fG.alive b x q),x',q';rw[hb]at q';exact nq q'
   refine P _ h'' lu aa cenv.locals S5 I4 ?_ ?_ ?_ ⟨mm,by rw[eL];exact jz⟩
   ·exact .ref (S'.ext _ _ (d7.ext _ _ fK))
   ·have hb:aV.get? ce.locals=none:=fresh _ (.inl rfl);rw[eL];clear S5 jz X4 S4 I4 k X' I' S' NX eL AQ ap A4 uA nP nT nD cells fresh iY d7 cL fk nV df fK k₂ aC aP fw j W ah aA P hf oi lU X I R Gs hit kM pB ha bX dO leaf CR;induction q:s.heap.get? ce.locals using aL with
    |none=>rfl
    |some x=>
     exists aD (fG.alive _ x q),x',q';rw[hb]at q';exact nq q'
   ·rw[eL];exact X4.ib
  exact CR.start 0 (.ref I0) (.ref aa) ce rfl ha L ((W.w A R.handled).self 0 _ _ _ nP L)
theorem J4
  {Q:Value->Shared->Prop} {v:V}
  (dc:clausesOf e=g::gs) (CR:ly (model C.prog C.w) e (g::gs) eQ) (leaf:∀na,C.nv n c' eQ na (emit na)) (dO:C.pA iq o) (bX:c.inner sc=some (c',clr))
  (G0:eG C n c' c dn g m) (Gs:bY (eG C n c' c' dn) gs ms) (fI:iK clr (m::ms)=true) (R:Rm A n) (I:C.I φ H s.heap) (X:ER C c ρ env φ H s.heap) (hd:rX emit o clr (m::ms) dn ρ H=some (v,H'))
  (P:∀a8 h' tk aa L,St φ H s.heap a8 H' h'->C.I a8 H' h'->C.R a8 H' h' v (.ref aa)->s.heap.get? L=none->a8.fr L->(∃m,h'.Ns L m)->CompEnd (model C.prog C.w) A E use Q (.ref aa) L { s with heap:=h',toks:=tk }) :
  C.wp A (comprehension e sc env pos iq false (eval g.iter env) use) Q E s:=by
 obtain⟨tg,many,ik,es,ifs⟩:=m;have hd:(ob (denL dn ρ es H) fun vs H=>match iterOf H ik vs with
  |some items=>compGo H.nxt (Internal.turn dn tg many ifs (runGens dn (emit H.nxt) ms) (slotC ρ clr)) items vs (Internal.newObj H o).2
  |none=>none)=some (v,H'):=hd
 exists aU (bV hd),vs,H₁,fu,hd;exists fY hd,items,hit,hd
 ·exact LD dc CR leaf dO bX (G0.set env) G0.async G0.tgt G0.ifs (fun Q P=>G0.it A env ρ φ H s vs H₁ items Q E R I X fu hit P) Gs fI R I X hd P
end
end
section
open PySem PySem.Calls PyProof.Rows PySem.W
section
variable {C:Cf} {φ a8 ax bp:Ph} {H H' H₁ aE:Hp} {h h' h'' ao aV:Heap} {c c':Cx} {env:Env} {ρ:ai} {n:Nat} {A:Around} {s:Shared} {E:Value->Shared->Prop}
set_option tactic.hygienic true in
theorem Kf(he:C.SE n c elt (dn e))(na:Nat):C.nv n c (ow elt) na (cp na e dn):=fun A env ρ φ H s aa H' Q E R I X fK hd P=>by
 obtain⟨v,H₁,e1,e2⟩:=bV (show ob (dn e ρ H) (fun v H=>match own H (.ref na)with
  |some p=>match p with
   |(_,o)=>match o with
    |.list l=>guard' (lenOk l) (some (setObj H na (.list (l++[v]))))
    |.dict _=>none
  |none=>none)=some H' from hd)
 split at e2
 ·rename_i p hp;clear hd;obtain⟨k,o⟩:=p;exists ak (rA hp),hk,m;clear hp;cases hk
  induction o using Internal.bq.casesOn with
  |dict=>exact nq e2
  |list l=>
   exists ak (guard_some e2),g1,g2;exists g2;unfold ow;refine a9 (he A env ρ φ H s v H₁ _ E R I X e1 fun y ax ao b6 aA ah aR=>?_);refine a9 (Jt (s:={ s with heap:=ao,toks:=b6 }) ah m (aA.ext _ _ fK) aR (v:=.none) (H':=setObj H₁ na (.list (l++[v]))) (by unfold CE;rw[g1];rfl) fun z bp aV dU aP aC _=>?_);exact aw (P bp aV dU (aA.trans aP I ah) aC)
 ·exact nq e2
theorem dict_set(I:C.I φ H s.heap)(R:Rm A n)(m:(⟨k,false,.dict l⟩:Ent)∈H.es)(ha:φ.f k=some a)(ri:C.R φ H s.heap (.tup (ky.map .int)) y)(rv:C.R φ H s.heap v z)(hl:lenOk l=true)
  (P:∀h' tk,St φ H s.heap φ (setObj H k (.dict (dset l ky v))) h'->C.I φ (setObj H k (.dict (dset l ky v))) h'->Q () { s with heap:=h',toks:=tk }):C.wp A (dictSet a y z) Q E s:=by
 exists aD (pg ri),ka,Lq;subst Lq;exists jQ (uG I m ha),es,c,g,re,nd,ns;exists ae (EX.dict g re nd),xs,px,D;refine wpAny_dictSet_heap (knd:=C.knd) (R.u) (kF ri) D (fun h' D' hs=>?_) (by rw[px.length];exact jN (dJ hl));exists aD (vP D'),c',g';clear D' D ns re g hl R;obtain⟨I',S⟩:=C.upd I m ha (fun b ob hb e=>by rw[hs.2 b hb];exact e) (o':=.dict (dset l ky v)) ⟨_,c',g',(px.set nd ri rv).es,z6 nd _ _⟩;exact P h' _ S I'
set_option tactic.hygienic true in
theorem Dd(hd:iZ na k v dn ρ H=some H'):∃kv H₁ vv aE ky l,dn k ρ H=some (kv,H₁)/\dn v ρ H₁=some (vv,aE)/\kv = .tup (ky.map .int)/\(⟨na,false,.dict l⟩:Ent)∈aE.es/\lenOk l=true/\H'=setObj aE na (.dict (dset l ky vv)):=by
 obtain⟨kv,H₁,e1,e2⟩:=bV (show ob (dn k ρ H) (fun kv H=>ob (dn v ρ H) fun v H=>match kA kv with
 |some k=>match own H (.ref na)with
  |some p=>match p with
   |(_,o)=>match o with
    |.dict l=>guard' (lenOk l) (some (setObj H na (.dict (dset l k v))))
    |.list _=>none
  |none=>none
 |none=>none)=some H' from hd)
 clear hd;obtain⟨vv,aE,e3,e4⟩:=bV e2;split at e4
 ·rename_i ky Ic;split at e4
  ·rename_i p hp;clear e2;obtain⟨k',o⟩:=p;obtain⟨hk,m⟩:=rA hp;clear hp;cases hk
   induction o using Internal.bq.casesOn with
   |list=>cases e4
   |dict l=>
    obtain⟨g1,g2⟩:=guard_some e4;clear e4;cases g2;exact⟨kv,H₁,vv,aE,ky,l,e1,e3,tC Ic,m,g1,rfl⟩
  ·clear Ic e3 e2 e1;cases e4
 ·clear e3 e2 e1;cases e4
theorem CV(hk:C.SE n c kx (dn k))(hv:C.SE n c vx (dn v))(na:Nat):C.nv n c (pe kx vx) na (iZ na k v dn):=fun A env ρ φ H s aa H' Q E R I X fK hd P=>by
 exists HH (Dd hd),kv,H₁,vv,aE,ky,l,e1,e2,P5,m,g1,Mx;clear hd;subst P5;subst Mx;unfold pe;refine a9 (hk A env ρ φ H s _ H₁ _ E R I X e1 fun y ax ao b6 aA ah aR=>?_);refine a9 (dM (hv A env ρ ax H₁ { s with heap:=ao,toks:=b6 } vv aE _ E R ah (X.step aA I) e2 fun z bp aV dU aP aC dq=>?_));have fG:=aA.trans aP I ah;refine a9 (fR (dM ?_));exact dict_set (s:={ s with heap:=aV,toks:=dU }) aC R m (fG.ext _ _ fK) (aP.vr ah aR) dq g1 fun cQ k7 d7 cL=>P bp cQ k7 (fG.trans d7 I aC) cL
theorem RJ(hk:C.SE n c kx (dn k))(hv:C.SE n c vx (dn v)):C.SE n c (.Dict [some kx] [vx] p) (fun ρ H=>dw H.nxt (iZ H.nxt k v dn ρ (Internal.newObj H (.dict [])).2)):=fun A env ρ φ H s w H' Q E R I X hd P=>by
 have hd:dw H.nxt (iZ H.nxt k v dn ρ (Internal.newObj H (.dict [])).2)=some (w,H'):=hd
 induction hu:iZ H.nxt k v dn ρ (Internal.newObj H (.dict [])).2 using aL with
 |none=>rw[hu]at hd;exact nq hd
 |some Hu=>
  rw[hu]at hd;injections hd;exists HH (Dd hu),kv,H₁,vv,aE,ky,l,e1,e2,Qa,m,g1,Q1;clear hd hu;subst Qa;subst Q1;rw[arm_eval_Dict];rw[show(evalEachOpt [some kx] env).zip ((evalEach [vx] env).map fun v=>do let x <- v;standAt p;pure x)=[(eval kx env,(do let x <- eval vx env;standAt p;pure x:Sem Value))].map fun p=>(some p.1,p.2)from rfl];rw[dictDisplay_pairs _ (by simp) (by simp)];refine a9 (fR (a9 ?_));unfold subDict;refine a9 (wpAny_alloc ?_);refine dK (C.fresh I (cV s.heap { cls:=.type "dict",data:=.dict #[] }) (cA _) (o:=.dict []) ⟨[],0,Heap.get?_push_size _ rfl,.nil,by simp⟩) fun I0 S0 r0=>?_;refine a9 (dM ?_);refine g6 (by simp) ?_;refine a9 (evalPairs_cons ?_);refine hk A env ρ _ _ { s with heap:=s.heap.push { cls:=.type "dict",data:=.dict #[] } } _ H₁ _ E R I0 (X.step S0 I) e1 fun y ax ao b6 aA ah aR=>?_;refine a9 (hv A env ρ ax H₁ { s with heap:=ao,toks:=b6 } vv aE _ E R ah ((X.step S0 I).step aA I0) e2 fun z bp aV dU aP aC dq=>?_);refine a9 (fR (aw ?_));refine evalPairs_nil ?_;have fG:=aA.trans aP I0 ah;refine dM ?_;rw[List.forIn_cons];clear aA e1 e2 X hv hk;cases r0 with
  |ref hr=>
   refine a9 (a9 (a9 (dict_set (s:={ s with heap:=aV,toks:=dU }) aC R m (fG.ext _ _ hr) (aP.vr ah aR) dq g1 fun cQ k7 d7 cL=>?_)));refine aw ?_;dsimp only;rw[List.forIn_nil];refine aw (aw (aw ?_));refine aw ?_;exact P _ bp cQ k7 ((S0.trans fG I I0).trans d7 I aC) cL (.ref (fG.ext _ _ hr))
theorem Dn
  {Q:Value->Shared->Prop} {v:V}
  (dc:clausesOf e=g::gs) (CR:ly (model C.prog C.w) e (g::gs) eQ) (leaf:∀na,C.nv n c' eQ na (emit na)) (dO:C.pA iq o) (bX:c.inner sc=some (c',clr))
  (G0:eG C n c' c dn g m) (Gs:bY (eG C n c' c' dn) gs ms) (fI:iK clr (m::ms)=true) (R:Rm A n) (I:C.I φ H s.heap) (X:ER C c ρ env φ H s.heap) (hd:rX emit o clr (m::ms) dn ρ H=some (v,H'))
  (P:C.Po φ H s H' (fun a8 h' x=>C.R a8 H' h' v x) Q) :
  C.wp A (comprehension e sc env pos iq false (eval g.iter env) none) Q E s:=by
 exists J4 dc CR leaf dO bX G0 Gs fI R I X hd,a8,h',tk,aa,L,S,I',r,hL,fL,hm;exists aD hm,mm,jz
 try clear hm
 refine⟨mm,jz,fun h'' hs iG=>?_⟩;have kf:∀b o,h'.get? b=some o->¬ a8.fr b->h''.get? b=some o:=fun b o e f=>by rw[hs.2 b fun z=>f (z▸fL)];exact e
 have al:∀b o,h'.get? b=some o->∃o',h''.get? b=some o':=fun b o e=>by
  by_cases z:b=L
  ·rw[z];clear z e kf hs jz fL hL r I' S P hd X I R fI Gs G0 bX dO leaf CR dc;obtain⟨m',iG⟩:=iG;exact mB iG
  ·exact⟨o,by rw[hs.2 b z];exact e⟩
 have PQ:=C.qq I' kf fun a f=>let ⟨_,_,o,g⟩:=I'.cC a f;al a o g
 have T:SZ (· = L) a8 H' h' a8 H' h'':=SZ.frames (fun b o e z=>by rw[hs.2 b z];exact e) al;have T2:=((S.eS (Z:=(· = L))).trans T I I').Jq fun a z=>by rw[z];exact hL
 exact P (.ref aa) a8 h'' tk T2 PQ (fT kf r)
theorem KH(hM:∀c,(model C.prog C.w).den c=denote table c)(he:C.SE n c' elt (dn e))(bX:c.inner sc=some (c',clr))
  (G0:eG C n c' c dn g m) (Gs:bY (eG C n c' c' dn) gs ms) (fI:iK clr (m::ms)=true):C.SE n c (.ListComp elt (g::gs) sc p) (DU clr e (m::ms) dn):=fun A env ρ φ H s v H' Q E R I X hd P=>by
 rw[arm_eval_ListComp];obtain⟨t,it,ifs,a⟩:=g;have ha:a=0:=G0.async;subst ha;exact Dn (e:=.ListComp elt (⟨t,it,ifs,0⟩::gs) sc p) rfl (GL hM elt _ sc p) (Kf he) Ia bX G0 Gs fI R I X hd P
theorem Np(hM:∀c,(model C.prog C.w).den c=denote table c)(hk:C.SE n c' kx (dn k))(hv:C.SE n c' vx (dn w))(bX:c.inner sc=some (c',clr))
  (G0:eG C n c' c dn g m) (Gs:bY (eG C n c' c' dn) gs ms) (fI:iK clr (m::ms)=true):C.SE n c (.DictComp kx vx (g::gs) sc p) (Jj clr k w (m::ms) dn):=fun A env ρ φ H s v H' Q E R I X hd P=>by
 rw[arm_eval_DictComp];obtain⟨t,it,ifs,a⟩:=g;have ha:a=0:=G0.async;subst ha;exact Dn (e:=.DictComp kx vx (⟨t,it,ifs,0⟩::gs) sc p) rfl (Ea hM kx vx _ sc p) (CV hk hv) Dy bX G0 Gs fI R I X hd P
end
end
section
open PySem PySem.Calls PyProof.Rows PySem.W
section
variable {C:Cf} {n K:Nat}
structure eH (C:Cf) (n:Nat) (c:Cx) (e:PySem.Expr) (m:ME):Prop where
 star:notStar e=true
 i5:∀env x,foldedSetIterable e env x=pure x
 se:∀f,C.SE n c e (den f m)
 sb:∀f,C.SB n c e (den f m)
theorem eH.of(star:notStar e=true)(i5:∀env x,foldedSetIterable e env x=pure x)(se:∀f,C.SE n c e (n8 m (den f)))(sb:∀f,C.SB n c e (n8 m (den f))):eH C n c e m where
 star:=star
 i5:=i5
 se:=fun f=>by
  clear sb i5 star;induction f using bL with
  |zero=>exact fun A env ρ φ H s v H' Q E R I X e=>by exact nq e
  |succ f=>exact se f
 sb:=fun f=>by
  clear se i5 star;induction f using bL with
  |zero=>exact fun A env ρ φ H s v H' Q E R I X e=>by exact nq e
  |succ f=>exact sb f
theorem eH.plain(star:notStar e=true)(i5:∀env x,foldedSetIterable e env x=pure x)(hb:wi e=true)(se:∀f,C.SE n c e (n8 m (den f))):eH C n c e m:=
 .of star i5 se fun f=>ZD hb (se f)
theorem qX{α β:Type}{f:α->Option β}{P:α->β->Prop}(h:∀a b,f a=some b->P a b){as:List α}:∀{bs:List β},optL f as=some bs->bY P as bs:=by
 induction as with
 |nil=>intro bs e;clear h;cases aI e;exact .nil
 |cons a as ih=>
  intro bs e;exists cx (kU e),b,bs,mS,e1,e2;clear e;subst mS;exact .cons (h a b e1) (ih e2)
theorem bY.imp{α β:Type}{P Q:α->β->Prop}(h:∀a b,P a b->Q a b){as:List α}{bs:List β}(x:bY P as bs):bY Q as bs:=by
 induction x with
 |nil=>exact .nil
 |cons a _ ih=>exact .cons (h _ _ a) ih
theorem Fg(h:callE e=some q):∃p,e = .Call q.1 q.2.1 q.2.2 p:=by
 induction e using Expr.casesOn with
 |Call f as kws p=>exact⟨p,congrArg (fun q:PySem.Expr×List PySem.Expr×List PySem.Keyword=>PySem.Expr.Call q.1 q.2.1 q.2.2 p) (aI h)⟩
 |_=>exact nq h
theorem XK(h:IZ e=some q):∃p pos,e = .Call (.Name q.1 p) q.2 [] pos:=by
 exists ae (aQ h),r,hr,h;exists ak (guard_some h),h1,h;exists ae (aQ h),x,hx,h;exists aD (Fg hr),pos,e;exists aD (ot hx),p,e2;exact⟨p,pos,by rw[e,nW h1,e2,<- aI h]⟩
theorem WB(h:EG g=some k):g = .it k:=by
 induction g using Internal.iU.casesOn with
 |it k'=>exact congrArg _ (aI h)
 |_=>exact nn h
theorem T8(h:ve k n=some ik):(k = .enum/\n=1/\ik = .enum)\/(k = .range1/\n=1/\ik = .range1)\/(k = .range1/\n=2/\ik = .range2)\/(k = .zip/\n=2/\ik = .zip):=by
 induction k using Internal.IK.casesOn with
 |enum=>
  exists ak (guard_some h),h1,h2;exact .inl ⟨rfl,cU h1,(aI h2).symm⟩
 |range1=>
  induction q:aF n 1 using aB with
  |true=>
   unfold ve at h;rw[q]at h;exact .inr (.inl ⟨rfl,cU q,(aI h).symm⟩)
  |false=>
   unfold ve at h;rw[q]at h;exists ak (guard_some h),h1,h2;exact .inr (.inr (.inl ⟨rfl,cU h1,(aI h2).symm⟩))
 |zip=>
  exists ak (guard_some h),h1,h2;exact .inr (.inr (.inr ⟨rfl,cU h1,(aI h2).symm⟩))
 |_=>exact nn h
theorem Zm(h:compIt c ce e=some (ik,ms)) :
  (∃m,ce e=some m/\ik = .seq/\ms=[m])\/∃f p es pos k,e = .Call (.Name f p) es [] pos/\c.glob f=some (.it k)/\optL ce es=some ms/\
   ((k = .enum/\ms.length=1/\ik = .enum)\/(k = .range1/\ms.length=1/\ik = .range1)\/(k = .range1/\ms.length=2/\ik = .range2)\/(k = .zip/\ms.length=2/\ik = .zip)):=by
 rcases l7 h with⟨q,h1,h2⟩|⟨_,h2⟩
 ·exists ae (aQ h1),a,ha,h1;exists ae (aQ h1),g,hg,h1;exists ae (aQ h1),k,hk,h1;clear h;cases aI h1;exists ae (aQ h2),l,hl,h2;exists ae (aQ h2),i,hi,h2;clear h1;cases aI h2;exists de (XK ha),p,pos,ke;clear h2 ha;subst ke;exact .inr ⟨a.1,p,a.2,pos,k,rfl,WB hk▸hg,hl,T8 hi⟩
 ·exists ae (aQ h2),m,hm,h2;clear h;cases aI h2;exact .inl ⟨m,hm,rfl,rfl⟩
theorem wD{c:Cx}{ce:PySem.Expr->Option ME}(G:Gl C c.gl K)(df:∀e m,ce e=some m->eH C n c e m){e t:PySem.Expr}{tg:List Nat}{ct:Cx}{many:Bool}{ik:IK}{ms:List ME}(f:Nat)(h:compIt c ce e=some (ik,ms))(ht:compT ct t=some (tg,many))(dj:okIt ik many=true) :
  C.SI n c t e (fun ρ H=>denL (den f) ρ ms H) ik/\∀env x,foldedSetIterable e env x=pure x:=by
 rcases Zm h with⟨m,hm,rfl,rfl⟩|⟨g,p,es,pos,k,rfl,hg,eA,hk⟩
 ·have O:=df e m hm;refine⟨fun A env ρ φ H s vs H₁ items Q E R I X hd hi P=>?_,O.i5⟩;exists aU (bV (show ob (den f m ρ H) (fun v H=>ob (some ([],H)) fun vs H=>some (v::vs,H))=some (vs,H₁)from hd)),v,H2,e1,e2
  (clear hd h dj hm ht df G;injections e2)
  exact KR (O.se f) t R I X e1 hi P
 ·refine⟨fun A env ρ φ H s vs H₁ items Q E R I X hd hi P=>?_,fun _ _=>rfl⟩;refine Pz G hg ((qX df eA).imp fun e m O=>⟨O.star,O.se f⟩) hk (fun z=>?_) R I X hd hi P;have hm:many=true:=by
   clear P hi hd X I R eA hg h ht df G;rcases hk with⟨rfl,_,rfl⟩|⟨rfl,_,rfl⟩|⟨rfl,_,rfl⟩|⟨rfl,_,rfl⟩
   ·exact dj
   ·clear dj;rcases z with z|z <;> cases z
   ·clear dj;rcases z with z|z <;> cases z
   ·exact dj
  clear z P hi hd X I R hk eA hg h dj df G;rcases Gx ht with⟨x,p,i,rfl,q,_⟩|⟨es,k,p,rfl,_⟩
  ·rw[hm]at q;exact bt q
  ·exact⟨es,k,p,rfl⟩
theorem Aj(df:∀c' e m,c'.gl=c.gl->ce c' e=some m->eH C n c' e m)(f:Nat)(G:Gl C c.gl K)(ho:out.gl=c.gl)(h:compGens ce c out (g::r)=some ms) :
  ∃m gs,ms=m::gs/\eG C n c out (den f) g m/\compGens ce c c r=some gs:=by
 exists ak (guard_some h),h1,h;exists ae (aQ h),t,h2,h;exists ae (aQ h),k,h3,h;exists ae (aQ h),fs,h4,h;exists ak (guard_some h),dj,h;exists ae (aQ h),gs,iu,h;exists ak (wD (C:=C) (n:=n) (ho▸G) (fun e m he=>df out e m ho he) f h3 h2 dj),s1,s2;exact⟨_,gs,(aI h).symm,⟨of_decide_eq_true h1,h2,s2,s1,(qX (fun e m he=>df c e m rfl he) h4).imp fun e m O=>O.sb f⟩,iu⟩
theorem Wd(df:∀c' e m,c'.gl=c.gl->ce c' e=some m->eH C n c' e m)(f:Nat)(G:Gl C c.gl K):∀{ms:List Gen},compGens ce c c gs=some ms->bY (eG C n c c (den f)) gs ms:=by
 induction gs with
 |nil=>intro ms h;clear G df;cases aI h;exact .nil
 |cons g r ih=>
  intro ms h;exists cx (Aj df f G rfl h),m,gs,tq,h1,h2;clear h G df;subst tq;exact .cons h1 (ih h2)
end
end
section
open PySem PySem.Calls PyProof.Rows PySem.W
section
variable {C:Cf} {n K:Nat}
theorem PZ(h:decide (x=Str.ofString "__debug__")=false):(x == ("__debug__" : Str))=false:=by
 have:=of_decide_eq_false h;exact beq_eq_false_iff_ne.mpr this
theorem oz{c c':Cx}{sc:Scope}{clr:List Nat}(h:c.inner sc=some (c',clr)):c'.gl=c.gl:=by
 obtain⟨_,fr,_,_,rfl,_⟩:=yz h;rfl
noncomputable def Sound(C:Cf)(n K k:Nat):Prop:=∀(c:Cx) (e:PySem.Expr) (m:ME),Gl C c.gl K->compE k c e=some m->eH C n c e m
theorem Iz{k:Nat}{c c':Cx}{sc:Scope}{clr:List Nat}{gens:List PySem.Comprehension}{ms:List Gen}(ih:Sound C n K k)(G:Gl C c.gl K)(bX:c.inner sc=some (c',clr))(iu:compGens (compE k) c' c gens=some ms)(hg:gsOk clr ms=true) :
  ∃g gs g' eO,ms=g::gs/\gens=g'::eO/\iK clr (g::gs)=true/\∀f,eG C n c' c (den f) g' g/\bY (eG C n c' c' (den f)) eO gs:=by
 have G':Gl C c'.gl K:=oz bX▸G;have df:∀(sr:Cx) e m,sr.gl=c'.gl->compE k sr e=some m->eH C n sr e m:=fun sr e m hc he=>ih sr e m (hc▸G') he;clear G ih;induction gens using aN with
 |nil=>clear df G' bX;cases aI iu;exact nomatch hg
 |cons g' eO=>
  exists cx (Aj df 0 G' (oz bX).symm iu),g,gs,xI,Z0,h2;subst xI;refine⟨g,gs,g',eO,rfl,rfl,hg,fun f=>?_⟩;exists cx (Aj df f G' (oz bX).symm iu),g2,gs2,e2,h1,Z0;clear iu hg bX;cases e2;exact⟨h1,Wd df f G' h2⟩
theorem Dc{k:Nat}{c:Cx}(ih:Sound C n K k)(G:Gl C c.gl K){elt:PySem.Expr}{gens:List PySem.Comprehension}{sc:Scope}{p:Pos}{m:ME}(h:compE (k+1) c (.ListComp elt gens sc p)=some m) :
  ∃c' clr me g gs g' eO,m = .lcomp clr me (g::gs)/\gens=g'::eO/\c.inner sc=some (c',clr)/\iK clr (g::gs)=true/\(∀f,C.SE n c' elt (den f me))/\∀f,eG C n c' c (den f) g' g/\bY (eG C n c' c' (den f)) eO gs:=by
 exists ae (aQ h),q,bX,h;exists ae (aQ h),me,he,h;exists ae (aQ h),ms,iu,h;exists ak (guard_some h),hg,hm;exists Ip (Iz ih G bX iu hg),g,gs,g',eO,yi,Xf,h1,h2;clear hg h iu;clear h;subst yi;clear h;subst Xf;exact⟨q.1,q.2,me,g,gs,g',eO,(aI hm).symm,rfl,bX,h1,(ih _ _ _ (oz bX▸G) he).se,h2⟩
theorem JV{k:Nat}{c:Cx}(ih:Sound C n K k)(G:Gl C c.gl K){kx vx:PySem.Expr}{gens:List PySem.Comprehension}{sc:Scope}{p:Pos}{m:ME}(h:compE (k+1) c (.DictComp kx vx gens sc p)=some m) :
  ∃c' clr mk mv g gs g' eO,m = .dcomp clr mk mv (g::gs)/\gens=g'::eO/\c.inner sc=some (c',clr)/\iK clr (g::gs)=true/\(∀f,C.SE n c' kx (den f mk))/\(∀f,C.SE n c' vx (den f mv))/\∀f,eG C n c' c (den f) g' g/\bY (eG C n c' c' (den f)) eO gs:=by
 exists ae (aQ h),q,bX,h;exists ae (aQ h),mk,hk,h;exists ae (aQ h),mv,hv,h;exists ae (aQ h),ms,iu,h;exists ak (guard_some h),hg,hm;exists Ip (Iz ih G bX iu hg),g,gs,g',eO,Vx,P9,h1,h2;clear hg h iu;clear h;subst Vx;clear h;subst P9;exact⟨q.1,q.2,mk,mv,g,gs,g',eO,(aI hm).symm,rfl,bX,h1,(ih _ _ _ (oz bX▸G) hk).se,(ih _ _ _ (oz bX▸G) hv).se,h2⟩
theorem PJ(h:valOf g=some v):g = .val v:=by
 induction g using Internal.iU.casesOn with
 |val v'=>exact congrArg _ (aI h)
 |_=>exact nn h
theorem MJ(h:JG e=some q):∃p,e = .Subscript q.1 q.2 p:=by
 induction e using Expr.casesOn with
 |Subscript a i p=>exact⟨p,congrArg (fun q:PySem.Expr×PySem.Expr=>PySem.Expr.Subscript q.1 q.2 p) (aI h)⟩
 |_=>exact nq h
theorem We(h:EA e=some q):e = .Attribute q.1 q.2.1 q.2.2:=by
 induction e using Expr.casesOn with
 |Attribute a x p=>cases aI h;rfl
 |_=>exact nn h
theorem Y6(h:sliceOf e=some q):∃p,e = .Slice q.1 q.2.1 q.2.2 p:=by
 induction e using Expr.casesOn with
 |Slice a b d p=>cases aI h;exact⟨p,rfl⟩
 |_=>exact nn h
theorem KG(h:sliceOf e=none)(a b d:Option PySem.Expr)(p:Pos):e ≠ .Slice a b d p:=fun z=>by rw[z]at h;exact nomatch h
theorem Vp(h:Gd e=some q):∃p,e = .UnaryOp q.1 q.2 p:=by
 induction e using Expr.casesOn with
 |UnaryOp op a p=>cases aI h;exact⟨p,rfl⟩
 |_=>exact nn h
theorem SV(h:intOf e=some i):∃u p,e = .Constant (.int i) u p:=by
 induction e using Expr.casesOn with
 |Constant k u p=>induction k using PySem.Const.casesOn with
  |int j=>cases aI h;exact⟨u,p,rfl⟩
  |_=>exact nn h
 |_=>exact nn h
theorem SO(h:Hk e=some x):∃u p q,e = .UnaryOp .USub (.Constant (.int 1) u p) q:=by
 obtain⟨⟨op,a⟩,h1,h⟩:=aQ h;exists ak (guard_some h),h2,h;exists ae (aQ h),i,h3,h;cases of_decide_eq_true (guard_some h).1;exists aD (Vp h1),q,zX;clear h h1;clear h;subst zX;exists de (SV h3),u,p,e3;clear h3;clear h;induction op using PySem.UnaryOp.casesOn with
 |USub=>exact⟨u,p,q,congrArg (fun a=>PySem.Expr.UnaryOp .USub a q) e3⟩
 |_=>exact nomatch h2
theorem pl(h:some m0=some m)(star:notStar e=true)(i5:∀env x,foldedSetIterable e env x=pure x)(hb:wi e=true)(se:∀f,C.SE n c e (n8 m0 (den f))):eH C n c e m:=aI h▸eH.plain star i5 hb se
theorem pb(h:some m0=some m)(star:notStar e=true)(i5:∀env x,foldedSetIterable e env x=pure x)(se:∀f,C.SE n c e (n8 m0 (den f)))(sb:∀f,C.SB n c e (n8 m0 (den f))):eH C n c e m:=aI h▸eH.of star i5 se sb
theorem not_of(h:(!b)=true):b=false:=by induction b using aB with|false=>rfl|true=>exact nomatch h
theorem SF{c:Cx}{ce:PySem.Expr->Option ME}(ih:∀{e m},ce e=some m->eH C n c e m){a:PySem.Expr}{x m:ME}(hx:eH C n c a x){lo hi st:Option PySem.Expr}{q p:Pos}(h:cSlice ce x lo hi st=some m):eH C n c (.Subscript a (.Slice lo hi st q) p) m:=by
 induction st using aL with
 |some st=>
  exists ae (aQ h),Z0,h1,h;clear ih;induction lo using aL with
  |some _=>exact nn h
  |none=>induction hi using aL with
   |some _=>exact nn h
   |none=>
    exists lh (SO h1),u,p2,q2,z;subst z;exact pl h rfl (fun _ _=>rfl) rfl fun f=>XM (hx.se f)
 |none=>induction lo using aL with
  |none=>
   exists ae (aQ h),b,z,h;clear h;subst z;exists ae (aQ h),y,hy,h;exact pl h rfl (fun _ _=>rfl) rfl fun f=>Va (hx.se f) ((ih hy).se f)
  |some b=>induction hi using aL with
   |some _=>exact nn h
   |none=>
    exists ae (aQ h),y,hy,h;exact pl h rfl (fun _ _=>rfl) rfl fun f=>Rh (hx.se f) ((ih hy).se f)
theorem tR(hM:∀c,(model C.prog C.w).den c=denote table c)(dp:K<=n)(k:Nat):Sound C n K k:=by
 induction k with
 |zero=>exact fun c e m G h=>nn h
 |succ k eK=>
 intro c e m G h;have ih:∀{e m},compE k c e=some m->eH C n c e m:=fun h=>eK c _ _ G h;have ihL:∀{es ms},optL (compE k c) es=some ms->bY (eH C n c) es ms:=fun h=>qX (P:=eH C n c) (fun _ _ h=>ih h) h;have args:∀{es ms},optL (compE k c) es=some ms->∀f,bY (fun e m=>notStar e=true/\C.SE n c e (den f m)) es ms:=fun h f=>(ihL h).imp fun e m O=>⟨O.star,O.se f⟩
 induction e using Expr.casesOn with
 |Constant kk u p=>
  clear args ihL ih G eK dp hM;induction kk using PySem.Const.casesOn with
  |none=>exact pl h rfl (fun _ _=>rfl) rfl fun f=>se_none
  |bool b=>exact pl h rfl (fun _ _=>rfl) rfl fun f=>se_bool
  |int i=>exact pl h rfl (fun _ _=>rfl) rfl fun f=>se_int
  |str s=>exact pl h rfl (fun _ _=>rfl) rfl fun f=>se_str
  |_=>exact nn h
 |Name x p=>
  exists ak (guard_some h),h1,h;have hd:=PZ (not_of h1);clear h1 args ihL ih eK dp hM;rcases l7 h with⟨i,hi,h⟩|⟨_,h⟩
  ·exact pl h rfl (fun _ _=>rfl) rfl fun f=>P7 hi hd
  ·exists ae (aQ h),g,hg,h;exists ae (aQ h),v,hv,h;exact pl h rfl (fun _ _=>rfl) rfl fun f=>NK G (PJ hv▸hg)
 |BinOp a op b p=>
  exists ae (aQ h),x,hx,h;exists ae (aQ h),y,hy,h;exact pl h rfl (fun _ _=>rfl) rfl fun f=>Tj ((ih hx).se f) ((ih hy).se f)
 |UnaryOp op a p=>
  exists ae (aQ h),x,hx,h;clear args ihL G eK dp hM;induction op using PySem.UnaryOp.casesOn with
  |USub=>exact pl h rfl (fun _ _=>rfl) rfl fun f=>se_neg ((ih hx).se f)
  |Not=>exact pb h rfl (fun _ _=>rfl) (fun f=>se_not ((ih hx).se f)) fun f=>sb_not ((ih hx).sb f)
  |_=>exact nn h
 |BoolOp op l p=>
  exists ae (aQ h),ms,hms,h;clear args ih G eK dp hM;induction op using PySem.BoolOp.casesOn with
  |And=>exact pb h rfl (fun _ _=>rfl) (fun f=>se_and p l ms ((ihL hms).imp fun e m O=>O.se f)) fun f=>sb_and p ((ihL hms).imp fun e m O=>O.sb f)
  |Or=>exact pb h rfl (fun _ _=>rfl) (fun f=>se_or p l ms ((ihL hms).imp fun e m O=>O.se f)) fun f=>sb_or p ((ihL hms).imp fun e m O=>O.sb f)
 |Compare a ops bs p=>
  exists ae (aQ h),op,h1,h;exists ae (aQ h),b,h2,h;clear h args ihL G eK dp hM;clear h;cases wj h1;clear h1;cases wj h2;exists ae (aQ h),x,hx,h;exists ae (aQ h),y,hy,h;exists ak (guard_some h),hm,h;exact pb h rfl (fun _ _=>rfl) (fun f=>Wq ((ih hx).se f) ((ih hy).se f) (not_of hm)) fun f=>aaV ((ih hx).se f) ((ih hy).se f) (not_of hm)
 |IfExp t a b p=>
  exists ae (aQ h),x,ht,h;exists ae (aQ h),y,ha,h;exists ae (aQ h),z,hb,h;exact pb h rfl (fun _ _=>rfl) (fun f=>RC ((ih ht).sb f) ((ih ha).se f) ((ih hb).se f)) fun f=>Nr ((ih ht).sb f) ((ih ha).sb f) ((ih hb).sb f)
 |Tuple l u p=>
  exists ak (guard_some h),hl,h;exists ae (aQ h),ms,hms,h;exact pl h rfl (fun _ _=>rfl) rfl fun f=>Q9 (bC hl) (args hms f)
 |List l p=>
  exists ak (guard_some h),hl,h;exists ae (aQ h),ms,hms,h;exact pl h rfl (fun _ _=>rfl) rfl fun f=>LY (bC hl) (args hms f)
 |ListComp elt gens sc p=>
  exists FU (Dc eK G h),c',clr,me,g,gs,g',eO,Ts,NW,bX,h1,he,hg;clear h args ihL ih G eK dp;subst Ts;subst NW;exact .plain rfl (fun _ _=>rfl) rfl fun f=>KH hM (he f) bX (hg f).1 (hg f).2 h1
 |DictComp kx vx gens sc p=>
  exists JR (JV eK G h),c',clr,mk,mv,g,gs,g',eO,Pp,aac,bX,h1,hk,hv,hg;clear h args ihL ih G eK dp;subst Pp;subst aac;exact .plain rfl (fun _ _=>rfl) rfl fun f=>Np hM (hk f) (hv f) bX (hg f).1 (hg f).2 h1
 |Dict ks vs p=>
  clear args ihL G eK dp hM;induction ks using aN with
  |nil=>
   exists ak (guard_some h),h1,h9;clear h;clear ih;cases nW h1;have h:=h9;exact pl h rfl (fun _ _=>rfl) rfl fun f=>VL
  |cons o r=>
   exists ak (guard_some h),h1,h9;clear h;cases nW h1;have h:=h9;exists ae (aQ h),kx,h0,h;exists ae (aQ h),vx,h2,h;exists ae (aQ h),mk,hk,h;exists ae (aQ h),mv,hv,h5;clear h h1 h9;clear h;subst h0;clear h;cases wj h2;exact pl h5 rfl (fun _ _=>rfl) rfl fun f=>RJ ((ih hk).se f) ((ih hv).se f)
 |Call fn es kws p=>
  exists ak (guard_some h),h1,h9;exists ak ((cX _ _).mp h1),h1,hl;clear h;clear ihL eK hM;cases nW h1;exists ae (aQ h9),ms,hms,h;clear h1 h9;clear h1;rcases l7 h with⟨x,hx,h⟩|⟨_,h⟩
  ·exists aD (ot hx),q,Rf;clear h hx hl ih;subst Rf;exists ae (aQ h),g,hg,h
   induction g using Internal.iU.casesOn with
   |fn g=>exact pl h rfl (fun _ _=>rfl) rfl fun f=>Qu G hg dp (args hms f)
   |bi b=>
    exists ae (aQ h),b',hb,h;exact pl h rfl (fun _ _=>rfl) rfl fun f=>LH G hg hb (args hms f)
   |_=>exact nn h
  ·clear G dp;obtain⟨⟨o,x,q⟩,hq,h⟩:=aQ h;clear h;cases We hq;exists ak (guard_some h),h1,h;exists ak ((cX _ _).mp h1),h2,h3;exists ae (aQ h),mo,ho,h;exists ae (aQ h),kk,hk,h;exact pl h rfl (fun _ _=>rfl) rfl fun f=>Wy h2 h3 (bC hl) hk ((ih ho).se f) (args hms f)
 |Subscript a i p=>
  exists ae (aQ h),x,hx,h;clear args ihL G eK dp hM;rcases l7 h with⟨s,hq,h⟩|⟨hq,h⟩
  ·exact aD (Y6 hq) fun q z=>z▸SF ih (ih hx) h
  ·exists ae (aQ h),y,hy,h;exact pl h rfl (fun _ _=>rfl) rfl fun f=>NI ((ih hx).se f) ((ih hy).se f) (KG hq)
 |_=>exact nn h
end
end
section
open PySem PySem.Calls PyProof.Rows PySem.W
inductive n9 (C:Cf) (φ:Ph) (H:Hp) (h:Heap):Fl->Flow->Prop
 |next:n9 C φ H h .next .next
 |cont:n9 C φ H h .cont .cont
 |ret {v:V} {x:Value}:C.R φ H h v x->n9 C φ H h (.ret v) (.ret x)
noncomputable def Cf.oE(C:Cf)(c:Cx)(env:Env)(φ:Ph)(H:Hp)(s:Shared)(fl:Fl)(ρ':ai)(H':Hp)(Q:Flow->Shared->Prop):Prop:=
 ∀a8 h' tk x,SZ (Zf c env) φ H s.heap a8 H' h'->C.I a8 H' h'->ER C c ρ' env a8 H' h'->n9 C a8 H' h' fl x->Q x { s with heap:=h',toks:=tk }
noncomputable def Cf.SS(C:Cf)(n:Nat)(c:Cx)(st:PySem.Stmt)(f:ai->Hp->Option (Fl×ai×Hp)):Prop:=∀A env ρ φ H s fl ρ' H' Q E,Rm A n->C.I φ H s.heap->ER C c ρ env φ H s.heap->f ρ H=some (fl,ρ',H')->
 C.oE c env φ H s fl ρ' H' Q->C.wp A (exec st env) Q E s
noncomputable def Cf.jl(C:Cf)(n:Nat)(c:Cx)(st:List PySem.Stmt)(f:ai->Hp->Option (Fl×ai×Hp)):Prop:=∀A env ρ φ H s fl ρ' H' Q E,Rm A n->C.I φ H s.heap->ER C c ρ env φ H s.heap->f ρ H=some (fl,ρ',H')->
 C.oE c env φ H s fl ρ' H' Q->C.wp A (execs st env) Q E s
section
variable {C:Cf} {n:Nat} {c:Cx} {φ ax:Ph} {H H₁:Hp} {s:Shared} {env:Env} {ρ:ai}
theorem Cf.oE.step(P:C.oE c env φ H s fl ρ' H' Q)(S:SZ (Zf c env) φ H s.heap ax H₁ ao)(I:C.I φ H s.heap)(ah:C.I ax H₁ ao):C.oE c env ax H₁ { s with heap:=ao,toks:=tk₁ } fl ρ' H' Q:=
 fun a8 h' tk x S' I' X' r=>P a8 h' tk x (S.trans S' I ah) I' X' r
theorem vT(e:Internal.sb x f=some r):∃a ρ H,x=some (a,ρ,H)/\f a ρ H=some r:=by
 induction x using aL with
 |none=>exact nq e
 |some p=>obtain⟨a,ρ,H⟩:=p;exact⟨a,ρ,H,rfl,e⟩
theorem Qd(he:C.SE n c e d):C.SS n c (.Return (some e) p) (fun ρ H=>ob (d ρ H) fun v H=>some (.ret v,ρ,H)):=fun A env ρ φ H s fl ρ' H' Q E R I X hd P=>by
 exists aU (bV hd),v,H₁,e1,e2;clear hd;cases e2;exact wpAny_Return_some (he A env ρ φ H s v H' _ E R I X e1 fun x a8 h' tk S' I' r=>P a8 h' tk _ S'.eS I' (X.step S' I) (.ret r))
theorem VO:C.SS n c (.Continue p) (fun ρ H=>some (.cont,ρ,H)):=fun A env ρ φ H s fl ρ' H' Q E R I X hd P=>by
 (clear R;exists jC hd,Aw,yA,wX;clear hd;subst Aw;subst yA;subst wX)
 exact wpAny_Continue (P φ s.heap s.toks _ (SZ.refl ..) I X .cont)
theorem Q7(he:C.SE n c (.Call f es kws q) d):C.SS n c (.Expr (.Call f es kws q) p) (fun ρ H=>ob (d ρ H) fun _ H=>some (.next,ρ,H)):=fun A env ρ φ H s fl ρ' H' Q E R I X hd P=>by
 exists aU (bV hd),v,H₁,e1,e2;clear hd;cases e2;exact wpAny_Expr_any (he A env ρ φ H s v H' _ E R I X e1 fun x a8 h' tk S' I' r=>P a8 h' tk _ S'.eS I' (X.step S' I) .next) (by unfold interactive;rw[X.kind];rfl) rfl
theorem Sv:C.jl n c [] (fun ρ H=>some (.next,ρ,H)):=fun A env ρ φ H s fl ρ' H' Q E R I X hd P=>by
 (clear R;exists jC hd,Px,KL,KZ;clear hd;subst Px;subst KL;subst KZ)
 exact wpAny_execs_nil (P φ s.heap s.toks _ (SZ.refl ..) I X .next)
theorem Nj{st:PySem.Stmt}{r:List PySem.Stmt}{d ds:ai->Hp->Option (Fl×ai×Hp)}(h1:C.SS n c st d)(h2:C.jl n c r ds):C.jl n c (st::r) (fun ρ H=>Internal.sb (d ρ H) fun f ρ H=>match f with
  |.next=>ds ρ H
  |.cont=>some (.cont,ρ,H)
  |.ret v=>some (.ret v,ρ,H)):=fun A env ρ φ H s fl ρ' H' Q E R I X hd P=>by
 exists pT (vT hd),f,ρ₁,H₁,e1,e2;rw[arm_execs_cons];refine a9 (h1 A env ρ φ H s f ρ₁ H₁ _ E R I X e1 fun a8 h' tk x S' I' X' r'=>?_);clear e1 hd X h1;cases r' with
 |next=>exact h2 A env ρ₁ a8 H₁ { s with heap:=h',toks:=tk } fl ρ' H' Q E R I' X' e2 (P.step S' I I')
 |cont=>(exists jC e2,Ud,Tc,Xv;clear e2;subst Ud;subst Tc;subst Xv);exact aw (P a8 h' tk _ S' I' X' .cont)
 |ret r=>(exists jC e2,Wr,zb5,OL;clear e2;subst Wr;subst zb5;subst OL);exact aw (P a8 h' tk _ S' I' X' (.ret r))
theorem HA:∀{l:List PySem.Stmt} {ms:List MS},bY (fun st m=>C.SS n c st (ds m)) l ms->C.jl n c l (denSs ds ms):=fun h=>by
 induction h with
 |nil=>exact Sv
 |cons a _ ih=>exact Nj a ih
theorem Xg(ht:C.SB n c t dt)(ha:C.jl n c a da)(hb:C.jl n c b db):C.SS n c (.If t a b p) (fun ρ H=>cK (dt ρ H) fun c H=>match c with
  |true=>da ρ H
  |false=>db ρ H):=fun A env ρ φ H s fl ρ' H' Q E R I X hd P=>by
 exists aU (nC hd),bb,H₁,e1,e2;refine wpAny_If (ht A env ρ φ H s bb H₁ _ E R I X e1 fun x a8 h' tk S' I' hx=>?_);clear e1 hd ht;subst hx
 induction x using aB with
 |true=>exact ha A env ρ a8 H₁ { s with heap:=h',toks:=tk } fl ρ' H' Q E R I' (X.step S' I) e2 (P.step S'.eS I I')
 |false=>exact hb A env ρ a8 H₁ { s with heap:=h',toks:=tk } fl ρ' H' Q E R I' (X.step S' I) e2 (P.step S'.eS I I')
theorem U7(he:C.SE n c e d1)(ho:C.SE n c o d2)(hi:C.SE n c i d3):C.SS n c (.Assign [.Subscript o i q] e p) (fun ρ H=>ob (d1 ρ H) fun v H=>ob (d2 ρ H) fun ov H=>ob (d3 ρ H) fun iv H=>tE ρ (iI H ov iv v)):=fun A env ρ φ H s fl ρ' H' Q E R I X hd P=>by
 exists aU (bV hd),v,H₁,e1,hd;exists aU (bV hd),ov,aE,e2,hd;exists aU (bV hd),iv,pz,e3,hd
 induction hs:iI pz ov iv v using aL with
 |none=>rw[hs]at hd;exact nq hd
 |some H4=>
  rw[hs]at hd
  (exists jC hd,TN,UT,Sz;clear hd;clear hd;subst TN;clear hd;subst UT;clear hd;subst Sz)
  refine wpAny_Assign_Subscript (he A env ρ φ H s v H₁ _ E R I X e1 fun x ax ao b6 aA ah aR=>?_) ?_
  ·exists ho A env ρ ax H₁ { s with heap:=ao,toks:=b6 } ov aE _ E R ah (X.step aA I) e2,y,bp,aV,dU,aP,aC,dq;have fG:=aA.trans aP I ah;exists hi A env ρ bp aE { s with heap:=aV,toks:=dU } iv pz _ E R aC (X.step fG I) e3,z,sM,cQ,k7,d7,cL,gY;have nD:=fG.trans d7 I aC;exists C.store (s:={ s with heap:=cQ,toks:=k7 }) cL R (d7.vr aC dq) gY ((aP.trans d7 ah aC).vr ah aR) hs,Z0,Yp,h₄,Z5,R9,WS,Z0;have En:=nD.trans R9 I cL;exact P Yp h₄ Z5 _ En.eS WS (X.step En I) .next
  ·induction e using Expr.casesOn <;> rfl
set_option tactic.hygienic true in
theorem OQ(ht:c.tgt x=some i)(he:C.SE n c e d):C.SS n c (.AugAssign (.Name x q) .Add e p) (fun ρ H=>match cF ρ i with
  |some x=>ob (d ρ H) fun y H=>ob (augV .Add x y H) fun r H=>some (.next,slotS ρ i (some r),H)
  |none=>none):=fun A env ρ φ H s fl ρ' H' Q E R I X hd P=>by
 dsimp only at hd;exists k9 hd,v,hv,hd
 ·exists aU (bV hd),y,H₁,e1,hd;exists aU (bV hd),r,aE,e2,hd
  (exists jC hd,RB,UR,zc7;clear hd;subst RB;subst UR;subst zc7)
  have hs:c.slot x=some i:=by
   exists ak (DD ht),h1,h2;unfold cG.slot;clear hd P e2 e1 hv X I R he ht;rcases h1 with h1|h1 <;> rw[h1] <;> exact h2
  unfold augV at e2;split at e2
  ·split at e2
   ·rename_i a b
    (clear hd;injections e2)
    refine wpAny_AugAssign_Name (Fs X hs hv fun z rz=>?_);exists aD (int_at rz),t,yj;clear rz hd hv hs;subst yj;exists he A env ρ φ H s _ _ _ E R I X e1,z,ax,ao,b6,aA,ah,aR;exists aD (int_at aR),u,Pb;clear aR e1 R he;subst Pb;refine iadd_int (s:={ s with heap:=ao,toks:=b6 }) ?_;exists(X.step aA I).store (s:={ s with heap:=ao,toks:=b6+1 }) ah ht (.int _ _),h',tk,I',S',X';exact P ax h' tk _ ((aA.eS).trans S' I ah) I' X' .next
   ·exact nq e2
  ·exact nq e2
end
end
section
open PySem PySem.Calls PyProof.Rows PySem.W
section
variable {C:Cf} {n:Nat} {c:Cx} {φ ax:Ph} {H H₁:Hp} {s:Shared} {env:Env} {ρ:ai} {A:Around} {E:Value->Shared->Prop}
noncomputable def Ij(e:PySem.Expr):Bool:=match e with
 |.ListComp _ _ _ _=>true
 |.SetComp _ _ _ _=>true
 |.DictComp _ _ _ _ _=>true
 |_=>false
def DP(e:PySem.Expr):Prop:=(∃a gs sc p,e = .ListComp a gs sc p)\/(∃a gs sc p,e = .SetComp a gs sc p)\/∃k v gs sc p,e = .DictComp k v gs sc p
theorem VM(h:Ij e=true):DP e:=by
 induction e using Expr.casesOn with
 |ListComp=>exact .inl ⟨_,_,_,_,rfl⟩
 |SetComp=>exact .inr (.inl ⟨_,_,_,_,rfl⟩)
 |DictComp=>exact .inr (.inr ⟨_,_,_,_,_,rfl⟩)
 |_=>exact bf h
theorem Sr(e:PySem.Expr)(x:Str)(q:Pos)(line:Nat)(env:Env):∃b,swapsWith e (some (.Name x q)) line env=pure (bB (Ij e) b):=by
 induction e using Expr.casesOn with
 |ListComp=>exact⟨_,rfl⟩
 |SetComp=>exact⟨_,rfl⟩
 |DictComp=>exact⟨_,rfl⟩
 |_=>exact⟨true,rfl⟩
theorem Vh(e:PySem.Expr)(x:Str)(q:Pos)(line:Nat)(env:Env):∃b,swapsWith e (some (.Name x q)) line env=pure b/\(b=true->DP e):=
 aD (Sr e x q line env) fun b h=>⟨_,h,fun z=>VM (mW z).1⟩
theorem Vg(ht:c.tgt x=some i)(he:C.SE n c e d)(R:Rm A n)(I:C.I φ H s.heap)(X:ER C c ρ env φ H s.heap)
  (hd:ob (d ρ H) (fun v H=>some (Fl.next,slotS ρ i (some v),H))=some (fl,ρ',H')) (P:C.oE c env φ H s fl ρ' H' Q) (hs:swapsWith e (some (.Name x q)) p.line env=pure false):C.wp A (exec (.Assign [.Name x q] e p) env) Q E s:=by
 exists aU (bV hd),v,H₁,e1,e2;clear hd;cases e2;refine wpAny_Assign_Name (he A env ρ φ H s v H' _ E R I X e1 fun y ax ao b6 aA ah aR=>?_) hs;exists(X.step aA I).store (s:={ s with heap:=ao,toks:=b6 }) ah ht aR,h',tk,I',S',X';exact P ax h' tk _ (aA.eS.trans S' I ah) I' X' .next
theorem D6
  {Q:Value->Shared->Prop} {x:Str} {i:Nat} {v:V} {H':Hp}
  (dc:clausesOf e=g::gs) (CR:ly (model C.prog C.w) e (g::gs) eQ) (leaf:∀na,C.nv n c' eQ na (emit na)) (dO:C.pA iq o) (bX:c.inner sc=some (c',clr))
  (G0:eG C n c' c dn g m) (Gs:bY (eG C n c' c' dn) gs ms) (fI:iK clr (m::ms)=true) (R:Rm A n) (I:C.I φ H s.heap) (X:ER C c ρ env φ H s.heap) (hd:rX emit o clr (m::ms) dn ρ H=some (v,H')) (ht:c.tgt x=some i)
  (P:∀a8 h' tk,SZ (Zf c env) φ H s.heap a8 H' h'->C.I a8 H' h'->ER C c (slotS ρ i (some v)) env a8 H' h'->Q .none { s with heap:=h',toks:=tk }) :
  C.wp A (comprehension e sc env pos iq false (eval g.iter env) (some fun v=>assignAll v ((assignEach [.Name x q] env).map (·.2)))) Q E s:=by
 exists J4 dc CR leaf dO bX G0 Gs fI R I X hd,a8,h',tk,aa,L,S,I',r,hL,fL,hm;exists aD hm,mm,jz
 try clear hm
 have X':=X.step S I;have nL:¬ Zf c env L:=fun z=>by
  clear X' jz fL r I' S P ht hd R fI Gs G0 bX dO leaf CR dc;obtain⟨_,_,o,g⟩:=I.cC L (X.zf L z);rw[hL]at g;exact nq g
 show C.wp A (assign (.Name x q) env (.ref aa)) _ E { s with heap:=h',toks:=tk };exists wu (s:={ s with heap:=h',toks:=tk }) X' I' ht r,bp,aV,dU,aP,aC,wx;have kL:∀o,h'.get? L=some o->aV.get? L=some o:=fun o e=>aP.keep L o e (fun u=>by
  exists b7 u,en,m,Z0,q
  try clear u
  exact(I'.cC L fL).2.1 en m q) nL
 refine⟨mm,ip jz kL,fun cQ hs iG=>?_⟩;have BV:=aP.du L fL;have kf:∀b o,aV.get? b=some o->¬ bp.fr b->cQ.get? b=some o:=fun b o e f=>by rw[hs.2 b fun z=>f (z▸BV)];exact e
 have al:∀b o,aV.get? b=some o->∃o',cQ.get? b=some o':=fun b o e=>by
  by_cases z:b=L
  ·rw[z];clear z e kf BV hs kL wx aC aP nL X' jz fL hL r I' S P ht hd X I R fI Gs G0 bX dO leaf CR dc;obtain⟨m',iG⟩:=iG;exact mB iG
  ·exact⟨o,by rw[hs.2 b z];exact e⟩
 have cL:=C.qq aC kf fun a f=>let ⟨_,_,o,g⟩:=aC.cC a f;al a o g
 have ap:Apart env [L]:=rC X I fun b hb=>by rw[c9.mp hb];exact hL
 have iY:=wx.frames ap (h':=cQ) (fun b hb=>by rw[c9.mp hb];exact BV) fun b o nb e=>by rw[hs.2 b fun z=>nb (by rw[z];exact .head _)];exact e
 have T:SZ (fun b=>Zf c env b\/b=L) bp H' aV bp H' cQ:=SZ.frames (fun b o e z=>by rw[hs.2 b fun q=>z (.inr q)];exact e) al;have T2:=((S.eS (Z:=fun b=>Zf c env b\/b=L)).trans (aP.mono fun b z=>.inl z) I I').trans T I aC;exact P bp cQ dU (T2.drop fun b z=>z.imp id fun z=>by rw[z];exact hL) cL iY
theorem W3(ρ:ai):∀(i j:Nat) (v w:Option V),i≠j->slotS (slotS ρ i v) j w=slotS (slotS ρ j w) i v:=by
 induction ρ with
 |nil=>intros;rfl
 |cons x ρ ih=>
  intro i j v w h
  induction i using bL with
  |zero=>induction j using bL with
   |zero=>exact absurd rfl h
   |succ j=>rfl
  |succ i=>induction j using bL with
   |zero=>rfl
   |succ j=>exact congrArg (x :: ·) (ih i j v w fun z=>h (by rw[z]))
theorem aah(is:List Nat):∀(l:List V) (ρ ρ':ai) (i:Nat) (v:V),i ∉ is->bindTs (slotS ρ i (some v)) is l=some ρ'->∃ρ₁,bindTs ρ is l=some ρ₁/\ρ'=slotS ρ₁ i (some v):=by
 induction is with
 |nil=>
  intro l ρ ρ' i v _ e
  induction l using aN with
  |nil=>exact⟨ρ,rfl,(aI e).symm⟩
  |cons=>exact nq e
 |cons j is ih=>
  intro l ρ ρ' i v h e
  induction l using aN with
  |nil=>exact nq e
  |cons w l=>
   have e:bindTs (slotS (slotS ρ i (some v)) j (some w)) is l=some ρ':=e;rw[W3 ρ i j _ _ fun z=>h (by rw[z];exact .head _)]at e;exact ih l _ ρ' i v (fun m=>h (.tail _ m)) e
theorem aaq(is:List Nat):∀(l:List V) (ρ ρ₁:ai) (i:Nat) (v:V),bindTs ρ is l=some ρ₁->bindTs ρ (is++[i]) (l++[v])=some (slotS ρ₁ i (some v)):=by
 induction is with
 |nil=>
  intro l ρ ρ₁ i v e
  induction l using aN with
  |nil=>rw[<- aI e];rfl
  |cons=>exact nq e
 |cons j is ih=>
  intro l ρ ρ₁ i v e
  induction l using aN with
  |nil=>exact nq e
  |cons w l=>exact ih l _ ρ₁ i v e
theorem Zo(is:List Nat):∀(l:List V) (ρ ρ':ai),is.Nodup->bindTs ρ is l=some ρ'->bindTs ρ is.reverse l.reverse=some ρ':=by
 induction is with
 |nil=>
  intro l ρ ρ' _ e
  induction l using aN with
  |nil=>exact e
  |cons=>exact nq e
 |cons i is ih=>
  intro l ρ ρ' nd e
  induction l using aN with
  |nil=>exact nq e
  |cons v l=>
   rw[eu]at nd;exists ae (aah is l ρ ρ' i v nd.1 e),ρ₁,e1,CJ;clear e;subst CJ;rw[List.reverse_cons,List.reverse_cons];exact aaq _ _ _ _ _ _ (ih l ρ ρ₁ nd.2 e1)
theorem W7(ns:List Str):∀(is:List Nat) (ρ ρ':ai) (l:List V) (vs:List Value) (φ:Ph) (s:Shared) (Q:Unit->Shared->Prop),optL c.tgt ns=some is->bindTs ρ is l=some ρ'->C.Rs φ H s.heap l vs->ER C c ρ env φ H s.heap->C.I φ H s.heap->
  C.nE c env φ H s H ρ' Q->C.wp A (assignInOrder (ns.map fun n=>bindName env n) vs) Q E s:=by
 induction ns with
 |nil=>
  intro is ρ ρ' l vs φ s Q h hb rs X I P;exists h
  induction l using aN with
  |nil=>
   exists hb;cases rs;exact assignInOrder_nil (P φ s.heap s.toks (SZ.refl ..) I X)
  |cons=>exact nq hb
 |cons x ns ih=>
  intro is ρ ρ' l vs φ s Q h hb rs X I P;exists cx (kU h),i,is,QE,ht,h2;clear h;subst QE
  induction l using aN with
  |nil=>exact nq hb
  |cons v l=>
   cases rs with
   |cons r1 r2=>
    show C.wp A (assignInOrder (bindName env x::ns.map fun n=>bindName env n) (_::_)) Q E s;refine assignInOrder_cons (bindName_ (X.store I ht r1 fun ao b6 ah aA gI=>?_));exact ih is _ ρ' l _ φ _ Q h2 hb (aA.hU I X.zf r2) gI ah (P.step aA I ah)
theorem QI{α β:Type}{f:α->Option β}{as:List α}:∀{bs:List α} {xs ys:List β},optL f as=some xs->optL f bs=some ys->optL f (as++bs)=some (xs++ys):=by
 induction as with
 |nil=>
  intro bs xs ys e1 e2;exists e1;exact e2
 |cons a as eK=>
  intro bs xs ys e1 e2;exists cx (kU e1),b,xs,qA,h1,h2;clear e1;subst qA;have ih:=eK h2 e2;show(match f a with
   |some b=>match optL f (as++bs)with
    |some bs=>some (b::bs)
    |none=>none
   |none=>none)=_
  rw[h1,ih];rfl
theorem Wm{α β:Type}{f:α->Option β}{as:List α}:∀{xs:List β},optL f as=some xs->optL f as.reverse=some xs.reverse:=by
 induction as with
 |nil=>
  intro xs e;exists e;rfl
 |cons a as ih=>
  intro xs e;exists cx (kU e),b,xs,Bg,h1,h2;clear e;subst Bg;rw[List.reverse_cons,List.reverse_cons];refine QI (ih h2) ?_;show(match f a with
   |some b=>some [b]
   |none=>none)=_
  rw[h1]
theorem W2(f:PySem.Expr->Option Str)(hf:∀e y,f e=some y->∃p,e = .Name y p)(es:List PySem.Expr):∀(is:List Nat),optL (jM c) es=some is->(es.filterMap f).length=es.length->optL c.tgt (es.filterMap f)=some is:=by
 induction es with
 |nil=>intro is h _;exact h
 |cons e es ih=>
  intro is h hl;exists cx (kU h),i,is,aaA,h1,h2;clear h;subst aaA
  induction sX:f e using aL with
  |none=>
   rw[List.filterMap_cons_none sX]at hl;have:=List.length_filterMap_le f es;rw[hl]at this;exact absurd this (Nat.not_succ_le_self _)
  |some y=>
   rw[List.filterMap_cons_some sX]at hl ⊢;exists aD (hf e y sX),p,wO;subst wO;have ih:=ih is h2 (gG hl);have h1:c.tgt y=some i:=h1;dsimp only[optL];rw[h1,ih]
theorem Mu(h:qw e=none):swappedStores [.Tuple es k q] e env=pure none:=by
 induction e using Expr.casesOn with
 |Tuple=>exact ns h
 |_=>rfl
noncomputable def MC(c:Cx)(is:List Nat)(z:PySem.Sem (Option (List Str))):Prop:=z=pure none\/∃ns,z=pure (some ns)/\optL c.tgt ns=some is
theorem vE{A:Type}{c:Prop}[Decidable c]{a b:A}{P:A->Prop}(h1:P a)(h2:¬c->P b):P (if c then a else b):=if h:c then if_pos h▸h1 else if_neg h▸h2 h
theorem ite_sm{A:Type}{c:Prop}[Decidable c]{a b:A}(h:(if c then some a else none)=some b):a=b:=if k:c then aI ((if_pos k).symm.trans h)else nq ((if_neg k).symm.trans h)
theorem WD(es:List PySem.Expr)(is:List Nat)(k:Nat)(q:Pos)(e:PySem.Expr)(env:Env)(he:optL (jM c) es=some is)(hs:yK e=true) :
  swappedStores [.Tuple es k q] e env=pure none\/∃ns,swappedStores [.Tuple es k q] e env=pure (some ns)/\optL c.tgt ns=some is:=by
 induction ht:qw e using aL with
 |none=>exact .inl (Mu ht)
 |some vs=>
 exists de (xE ht),k',p',z;clear ht;subst z;have hs:(match vs.all (PySem.constantsAlone 8)with
  |true=>vs.all (PySem.foldedForSure 8)
  |false=>true)=true:=hs
 refine vE (P:=MC c is) (.inl rfl) fun _=>vE (.inl rfl) fun _=>vE (.inl rfl) fun h3=>vE (.inl rfl) fun h4=>?_
 induction h5:vs.all (PySem.constantsAlone 8)using aB with
 |true=>
  rw[h5]at hs;exact absurd hs h4
 |false=>
  refine .inr ⟨_,rfl,?_⟩;refine W2 _ (fun e y h=>?_) es is he (Decidable.byContradiction fun z=>h3 (by rw[Bool.or_eq_true];exact .inl (bne_iff_ne.mpr z)))
  induction e using Expr.casesOn with
  |Name a p=>exact⟨p,congrArg (PySem.Expr.Name · p) (ite_sm h)⟩
  |_=>exact nq h
end
end
section
open PySem PySem.Calls PyProof.Rows PySem.W
section
variable {C:Cf} {n K:Nat} {c:Cx}
theorem NF{α β:Type}{f:α->Option β}{as:List α}:∀{bs:List β},optL f as=some bs->bs.length=as.length:=by
 induction as with
 |nil=>intro bs e;cases aI e;rfl
 |cons a as ih=>
  intro bs e;exists cx (kU e),b,bs,xG,Z0,h2;clear e;subst xG;rw[fS,fS,ih h2]
theorem Sm(h:compE k c (.SetComp elt gens sc p)=some m):False:=by
 induction k using bL with
 |zero=>exact nq h
 |succ k=>have h:(none:Option ME)=some m:=h;exact nq h
theorem aaQ(hM:∀c,(model C.prog C.w).den c=denote table c)(dp:K<=n)(G:Gl C c.gl K)(h:compE k c e=some m)(ht:c.tgt x=some i)(q p:Pos)(f:Nat) :
  C.SS n c (.Assign [.Name x q] e p) (fun ρ H=>ob (den f m ρ H) fun v H=>some (.next,slotS ρ i (some v),H)):=fun A env ρ φ H s fl ρ' H' Q E R I X hd P=>by
 exists ae (Vh e x q p.line env),b,hs,hb
 induction b using aB with
 |false=>exact Vg ht ((tR hM dp k c e m G h).se f) R I X hd P hs
 |true=>
  exists aU (bV hd),v,H₁,e1,e2
  (clear hd;exists jC e2,zB,BL,B3;clear e2;subst zB;subst BL;subst B3)
  induction f using bL with
  |zero=>exact nq e1
  |succ f=>
  have fin:C.wp A (evalThenUse e env (fun v=>assignAll v ((assignEach [.Name x q] env).map (·.2)))) (fun _ s'=>Q .next s') E s->C.wp A (exec (.Assign [.Name x q] e p) env) Q E s:=fun hm=>by
   rw[arm_exec_Assign];refine a9 (fR ?_);rw[show swapsWithSole [.Name x q] e p.line env=pure true from hs];refine a9 (aw ?_);refine g6 rfl ?_;exact a9 (cq hm (fun _ s' h'=>aw h') fun _ _ x=>x)
  refine fin ?_
  induction k using bL with
  |zero=>exact nn h
  |succ k=>
  rcases hb rfl with⟨elt,gens,sc,pc,rfl⟩|⟨elt,gens,sc,pc,rfl⟩|⟨kx,vx,gens,sc,pc,rfl⟩
  ·exists FU (Dc (tR hM dp k) G h),c',clr,me,g,gs,g',eO,Ll,Oh,bX,h1,he,hg;clear h hb G dp;subst Ll;subst Oh;exists ak (hg f),G0,Gs;clear hg;obtain⟨t,it,ifs,a⟩:=g';have ha:a=0:=G0.async;subst ha;rw[arm_evalThenUse_ListComp];refine a9 ?_;exact D6 (e:=.ListComp elt (⟨t,it,ifs,0⟩::eO) sc pc) rfl (GL hM elt _ sc pc) (Kf (he f)) Ia bX G0 Gs h1 R I X e1 ht fun a8 h' tk S' I' X'=>aw (P a8 h' tk _ S' I' X' .next)
  ·exact(Sm h).elim
  ·exists JR (JV (tR hM dp k) G h),c',clr,mk,mv,g,gs,g',eO,QZ,Na,bX,h1,hk,hv,hg;clear h hb G dp;subst QZ;subst Na;exists ak (hg f),G0,Gs;clear hg;obtain⟨t,it,ifs,a⟩:=g';have ha:a=0:=G0.async;subst ha;rw[arm_evalThenUse_DictComp];refine a9 ?_;exact D6 (e:=.DictComp kx vx (⟨t,it,ifs,0⟩::eO) sc pc) rfl (Ea hM kx vx _ sc pc) (CV (hk f) (hv f)) Dy bX G0 Gs h1 R I X e1 ht fun a8 h' tk S' I' X'=>aw (P a8 h' tk _ S' I' X' .next)
set_option tactic.hygienic true in
theorem YH(ht:optL (jM c) es=some is)(b9:is.Nodup)(hs:yK e=true)(he:C.SE n c e d) :
  C.SS n c (.Assign [.Tuple es u q] e p) (fun ρ H=>ob (d ρ H) fun v H=>uL (eB ρ is true v) H):=fun A env ρ φ H s fl ρ' H' Q E R I X hd P=>by
 exists aU (bV hd),v,H₁,e1,e2;clear hd;induction hb:eB ρ is true v using aL with
 |none=>rw[hb]at e2;exact nq e2
 |some ρ₁=>
  rw[hb]at e2;cases e2;have yP:swapsWithSole [.Tuple es u q] e p.line env=pure false:=by clear e1 hb P X I R he hs b9 ht;cases e <;> rfl
  have Jg:compT c (.Tuple es u q)=some (is,true):=by
   show oo (optL (jM c) es) _=_;rw[ht];rfl
  rcases WD (c:=c) es is u q e env ht hs with hw|⟨ns,hw,fk⟩
  ·refine Assign_Tuple (he A env ρ φ H s v H' _ E R I X e1 fun y ax ao b6 aA ah aR=>?_) yP hw;exists Kr (s:={ s with heap:=ao,toks:=b6 }) R (X.step aA I) ah Jg hb aR,a8,h',tk,S',I',X';exact P a8 h' tk _ (aA.eS.trans S' I ah) I' X' .next
  ·refine Assign_Tuple_swapped (names:=ns) (he A env ρ φ H s v H' _ E R I X e1 fun y ax ao b6 aA ah aR=>?_) yP hw;unfold eB at hb;dsimp only at hb;split at hb
   ·rename_i l;exists fH (gq aR),a,vs,m,Un,g,Z0,rs;clear aR e1 hw Jg yP he hs ht;subst Un;have hlen:∀(is:List Nat) (l:List V) (ρ:ai),bindTs ρ is l=some ρ'->is.length=l.length:=by
     intro is;clear rs g hb ah aA fk P X I R b9;induction is with
     |nil=>intro l ρ h;cases l with|nil=>rfl|cons=>exact nq h
     |cons i is ih=>intro l ρ h;cases l with|nil=>cases h|cons v l=>simp [ih l _ h]
    have hl:=hlen _ _ _ hb;have hl2:=rs.length;have Fp:ns.length=is.length:=(NF fk).symm;have d9:vs.toArray.size=ns.length:=by rw[dY];lia
    have U:=unpackItems_tuple (A:=A) (E:=E) (prog:=C.prog) (w:=C.w) (s:={ s with heap:=ao,toks:=b6 }) (t:=a) (items:=vs.toArray) (Q:=fun items s₂=>C.wp A (assignInOrder (ns.reverse.map fun n=>bindName env n) items.reverse) (fun _=>Q .next) E s₂) R.handled ⟨_,g,rfl,m,rfl⟩ fun aV hx=>?_
    ·rw[d9]at U;exact U
    ·have k:∀b o,ao.get? b=some o->aV.get? b=some o:=fun b o e=>hx b o (fun z=>by
      have z:b=ao.objs.size:=z;rw[z,cA]at e;clear z hx d9 Fp hl2 hl hlen rs g hb ah aA fk P X I R b9;cases e) e
     clear hx d9 Fp hl2 hl hlen g R;obtain⟨aC,aP⟩:=C.grow ah k;exists W7 (s:={ s with heap:=aV,toks:=b6 }) ns.reverse is.reverse ρ ρ' l.reverse _ ax _ (Wm fk) (Zo is l ρ ρ' b9 hb) (by simpa using(aP.hU ah rs).reverse) ((X.step aA I).step aP ah) aC,a8,h',tk,S',I',X';exact P a8 h' tk _ ((aA.trans aP I ah).eS.trans S' I aC) I' X' .next
   ·exact nq hb
end
end
section
open PySem PySem.Calls PyProof.Rows PySem.W
section
variable {prog:Program} {w:World} {A:Around} {s:Shared}
theorem WJ(I:Nat->Shared->Prop)
  (turn:∀n s,I n s->wpAny (model prog w) A (pyNext it) (fun r s₁=>match r with
   |none=>R (.ok .next) s₁
   |some v=>wpAny (model prog w) A (letOwnedTupleGo target it v) (fun _ s₂=>wpAny (model prog w) A (assign target env v) (fun _ s₃=>wpAny (model prog w) A (execs body env) (fun f s₄=>match f with
     |.next=>∃m,m<n/\I m s₄
     |.cont=>∃m,m<n/\I m s₄
     |.brk=>False
     |.ret v=>R (.ok (.ret v)) s₄) (fun _ _=>False) s₃) (fun _ _=>False) s₂) (fun _ _=>False) s₁) (fun _ _=>False) s)
  (n:Nat) (h:I n s):codeAny (model prog w) A (.forLoop target it body [] env) R s:=by
 refine codeAny_loop' rfl I (fun n s hI=>?_) n h;show wpAny _ _ ((forTurn target it body [] env).onRaise (fun x=>do noteFrame x env;theTreesLotGoes x)) _ _ s;refine wpAny_noted ?_;unfold forTurn;refine a9 (fR (a9 (wpAny_onRaise (cq (turn n s hI) (fun r s₁ ao=>?_) fun _ _ h'=>h'.elim))));clear hI h turn;induction r using aL with
 |none=>exact aw (.inr ⟨rfl,codeAny_block (wpAny_execs_nil ao)⟩)
 |some v=>
  refine a9 (cq ao (fun _ s₂ aV=>?_) fun _ _ h'=>h'.elim);refine a9 (cq aV (fun _ s₃ cQ=>a9 (cq cQ (fun f s₄ h₄=>?_) fun _ _ h'=>h'.elim)) fun _ _ h'=>h'.elim);clear cQ aV ao;induction f using PySem.Flow.casesOn with
  |next=>exact aw (.inl ⟨rfl,h₄⟩)
  |cont=>exact aw (.inl ⟨rfl,h₄⟩)
  |brk=>exact h₄.elim
  |ret v=>exact aw h₄
end
section
variable {C:Cf} {n K:Nat} {c:Cx}
noncomputable def WG(dt:DE)(db:ai->Hp->Option (Fl×ai×Hp))(r:Fl×ai×Hp)(k:Nat)(ρ:ai)(H:Hp)(_:Heap):Prop:=fm dt db k ρ H=some r
noncomputable def FG(tg:List Nat)(many:Bool)(db:ai->Hp->Option (Fl×ai×Hp))(items:List V)(J:Nat->Heap->Prop)(r:Fl×ai×Hp)(k:Nat)(ρ:ai)(H:Hp)(h:Heap):Prop:=∃i,k+i=items.length/\J i h/\loopF tg many db (items.drop i) ρ H=some r
theorem Tu(ht:C.SB n c t dt)(hb:C.jl n c b db):C.SS n c (.While t b [] p) (fun ρ H=>fm dt db 1000 ρ H):=fun A env ρ φ H s fl ρ' H' Q E R I X hd P=>by
 refine wpAny_While ?_;show codeAny (model C.prog C.w) A _ _ s;refine codeAny_whileLoop (CX C c env (Zf c env) s φ H s.heap (WG dt db (fl,ρ',H'))) (fun k s' hk=>?_) 1000 ⟨φ,s.heap,s.toks,ρ,H,rfl,SZ.refl ..,I,X,hd⟩;exists Ih hk,a8,h',tk,ρ₁,H₁,z,F;clear hk hd X;subst z;exists cps,P0,k0;obtain⟨S,I',X',hl⟩:=F
 induction k using bL with
 |zero=>exact nq hl
 |succ k=>
  have hl:cK (dt ρ₁ H₁) (fun c H=>match c with
   |true=>Internal.sb (db ρ₁ H) fun f ρ H=>match f with
    |.next=>fm dt db k ρ H
    |.cont=>fm dt db k ρ H
    |.ret v=>some (.ret v,ρ,H)
   |false=>some (.next,ρ₁,H))=some (fl,ρ',H'):=hl
  exists aU (nC hl),bb,aE,e1,e2;refine k0 ?_;clear k0;exists ht A env ρ₁ a8 H₁ { s with heap:=h',toks:=tk } bb aE _ _ R I' X' e1,x,bp,aV,dU,aP,aC,hx;clear e1 hl ht;subst hx;have S2:=S.trans aP.eS I I';clear S;induction x using aB with
  |false=>
   (exists jC e2,zB,BL,B3;clear e2;subst zB;subst BL;subst B3)
   rw[if_neg dq];exact wpAny_execs_nil (P bp aV dU _ S2 aC (X'.step aP I') .next)
  |true=>
   rw[if_pos rfl];exists pT (vT e2),f,nO,pz,e3,e4;exists hb A env ρ₁ bp aE { s with heap:=aV,toks:=dU } f nO pz _ _ R aC (X'.step aP I') e3,sM,cQ,k7,y,d7,cL,iY,gY;have S3:=S2.trans d7 I aC;cases gY with
   |next=>exact⟨k,Nat.lt_succ_self k,sM,cQ,k7,nO,pz,rfl,S3,cL,iY,e4⟩
   |cont=>exact⟨k,Nat.lt_succ_self k,sM,cQ,k7,nO,pz,rfl,S3,cL,iY,e4⟩
   |ret r=>(exists jC e4,Aw,yA,wX;clear e4;subst Aw;subst yA;subst wX);exact P sM cQ k7 _ S3 cL iY (.ret r)
theorem ret_same(r:C.R φ H h v x)(hf:a8.f=φ.f)(hk:∀b o,h.get? b=some o->¬ aT φ H b->h'.get? b=some o)(hm:∀b,aT a8 H' b->aT φ H b):C.R a8 H' h' v x:=
 r.mono (fun n a e=>by rw[hf];exact e) hk fun b _ q _=>hm b q
set_option tactic.hygienic true in
theorem RQ(hit:C.SI n c t it (fun ρ H=>denL dn ρ es H) ik)(pZ:∀env x,foldedSetIterable it env x=pure x)(ht:compT c t=some (tg,many))(hb:C.jl n c b db) :
  C.SS n c (.For t it b [] p) (fun ρ H=>ob (denL dn ρ es H) fun vs H=>match iterOf H ik vs with
   |some items=>sunl H.es vs (loopF tg many db items ρ (lockH H vs))
   |none=>none):=fun A env ρ φ H s fl ρ' H' Q E R I X hd P=>by
 exists aU (bV hd),vs,H₁,fu,hd;exists fY hd,items,FJ,hd
 ·exists pT (vT (show Internal.sb (loopF tg many db items ρ (lockH H₁ vs)) (fun f ρ H=>some (f,ρ,⟨H.nxt,eD H₁.es H.es vs⟩))=some (fl,ρ',H')from hd)),fl',nO,aE,GB,e2;clear hd;clear hd;cases e2;refine wpAny_For ?_ (pZ env);exists hit A env ρ φ H s vs H₁ items _ E R I X fu FJ,I0,wr,dR,ax,ao,tk,It,J,Mid,aA,ah,W,j,fw;show codeAny (model C.prog C.w) A _ _ _;have gI:=X.step aA I;have ap:=rC X I fw;have IL:=C.Am ah vs;have XL:=zC vs gI;refine WJ (CX C c env (fun b=>Zf c env b\/b∈wr) s ax (lockH H₁ vs) ao (FG tg many db items J (fl,ρ',aE))) (fun k s' hk=>?_) items.length ⟨ax,ao,tk,ρ,lockH H₁ vs,rfl,SZ.refl ..,IL,XL,0,rfl,j,GB⟩;exists Ih hk,a8,h',lu,ρ₁,H',z,F;clear hk;clear gI j hd GB FJ fu X pZ hit;subst z;exists cps,P0,k0;obtain⟨S,I',X',f0⟩:=F;exists b7 f0,i,hki,j',hf;clear f0
  induction hv:items[i]? using aL with
  |none=>
   have hi:i=items.length:=by
    have:=List.getElem?_eq_none_iff.mp hv
    lia
   subst hi;rw[List.drop_length]at hf;cases hf;refine k0 ?_;exists(W.w A R.handled).done { s with heap:=h',toks:=lu } _ _ j',h'',wB,k;clear j' R;clear k0;obtain⟨I3,S3,X3⟩:=C.finish I aA ah fw W.fr S I' k;exact P _ h'' wB _ S3 I3 (X3 c _ env ap X') .next
  |some v=>
   exists aD (fj.mp hv),hi,si;rw[List.drop_eq_getElem_cons hi,si]at hf;have hf:(match eB ρ₁ tg many v with
    |some ρ=>Internal.sb (db ρ H') fun f ρ H=>match f with
     |.next=>loopF tg many db (items.drop (i+1)) ρ H
     |.cont=>loopF tg many db (items.drop (i+1)) ρ H
     |.ret v=>some (.ret v,ρ,H)
    |none=>none)=some (fl,ρ',aE):=hf
   split at hf
   ·rename_i QB ni;exists pT (vT hf),f,xq,H4,e3,e4;refine k0 ?_;exists W.turn (s:={ s with heap:=h',toks:=lu }) IL XL ap R S I' X' j' hv ht ni,rK,h4,t4,S4,I4,X4,j4;exists hb A env QB rK H' { s with heap:=h4,toks:=t4 } f xq H4 _ _ R I4 X4 e3,iO,h5,t5,y,S5,I5,X5,r5;have T5:=S4.trans (S5.mono fun b z=>.inl z) IL I4;have j5:=W.body IL XL ap S4 I4 S5 j4;cases r5 with
    |next=>exact⟨k - 1,by lia,iO,h5,t5,xq,H4,rfl,T5,I5,X5,i+1,by lia,j5,e4⟩
    |cont=>exact⟨k - 1,by lia,iO,h5,t5,xq,H4,rfl,T5,I5,X5,i+1,by lia,j5,e4⟩
    |@ret v' x' r=>
     cases e4;obtain⟨I3,S3,X3⟩:=C.finish I aA ah fw W.fr T5 I5 (h'':=h5) fun b o _ e=>e;refine P _ h5 t5 _ S3 I3 (X3 c _ env ap X5) (.ret (ret_same r rfl (fun _ _ e _=>e) fun b q=>?_));refine(less_mut b q).imp (fun q=>?_) id;clear X3 S3 I3 X5 r T5 I5 P ap fw W ah aA I;obtain⟨e,m,p⟩:=q;clear q;obtain⟨e',m',i⟩:=gZ (zA H₁.es vs aE.es) m;exact⟨e',m',by rw[i];exact p⟩
   ·exact nq hf
end
end
section
open PySem PySem.Calls PyProof.Rows PySem.W
section
variable {C:Cf} {n K:Nat}
theorem iD{c:Cx}{st:PySem.Stmt}{m0 m:MS}(e:some m0=some m)(h:∀f,C.SS n c st (De m0 (den f) (denS f)))(f:Nat):C.SS n c st (denS f m):=by
 cases aI e;clear e;induction f using bL with
 |zero=>exact fun A env ρ φ H s fl ρ' H' Q E R I X e=>nn e
 |succ f=>exact h f
theorem Oa(hM:∀c,(model C.prog C.w).den c=denote table c)(dp:K<=n)(k:Nat):∀(c:Cx) (st:PySem.Stmt) (m:MS),Gl C c.gl K->compS k c st=some m->∀f,C.SS n c st (denS f m):=by
 induction k with
 |zero=>exact fun c st m G h=>nn h
 |succ k eK=>
 intro c st m G h;have iE:∀{e m},compE k c e=some m->eH C n c e m:=fun h=>tR hM dp k c _ _ G h;have ihL:∀{b ms},optL (compS k c) b=some ms->∀f,C.jl n c b (denSs (denS f) ms):=fun h f=>HA (qX (P:=fun st m=>C.SS n c st (denS f m)) (fun st m h=>eK c st m G h f) h);clear eK;induction st using Stmt.casesOn with
 |Assign ts e p=>
  exists ae (aQ h),t,h1,h;clear h ihL;cases wj h1;exists ae (aQ h),me,he,h;clear h1;rcases l7 h with⟨x,hx,h⟩|⟨_,h⟩
  ·exists ae (aQ h),i,hi,h;exact aD (ot hx) fun q z=>z▸iD h fun f=>aaQ hM dp G he hi q p f
  ·clear G dp hM;rcases l7 h with⟨es,hx,h⟩|⟨_,h⟩
   ·exists ae (aQ h),is,eA,h;exists ak (guard_some h),h1,h;exists ak ((cX _ _).mp h1),h3,h4;exact de (xE hx) fun u q z=>z▸iD h fun f=>YH eA (zF h3) h4 ((iE he).se f)
   ·exists ae (aQ h),r,hr,h;rcases l7 h with⟨_,_,h⟩|⟨hs,h⟩
    ·exact nn h
    ·exists ae (aQ h),mo,h2,h;exists ae (aQ h),mi,h3,h;exact aD (MJ hr) fun q z=>z▸iD h fun f=>U7 ((iE he).se f) ((iE h2).se f) ((iE h3).se f)
 |AugAssign t op e p=>
  exists ae (aQ h),x,hx,h;exists aD (ot hx),q,YS;clear h hx ihL G dp hM;subst YS;exists ae (aQ h),i,hi,h;exists ae (aQ h),me,he,h;exists ak (guard_some h),h1,h;have z:=Az h1;clear h1;subst z;exact iD h fun f=>OQ hi ((iE he).se f)
 |Expr e p=>
  exists ae (aQ h),r,hr,h;exists ae (aQ h),me,he,h5;exists aD (Fg hr),q,z;clear h hr;clear h ihL G dp hM;subst z;exact iD h5 fun f=>Q7 ((iE he).se f)
 |If t a b p=>
  exists ae (aQ h),mt,h1,h;exists ae (aQ h),ma,h2,h;exists ae (aQ h),mb,h3,h;exact iD h fun f=>Xg ((iE h1).sb f) (ihL h2 f) (ihL h3 f)
 |While t b o p=>
  exists ak (guard_some h),h0,h9;clear h;clear G dp hM;cases nW h0;have h:=h9;exists ae (aQ h),mt,h1,h;exists ae (aQ h),mb,h2,h;exact iD h fun f=>Tu ((iE h1).sb f) (ihL h2 f)
 |For t it b o p=>
  exists ak (guard_some h),h0,h9;clear h;clear dp hM;cases nW h0;have h:=h9;clear h0 h9;obtain⟨⟨tg,many⟩,h1,h⟩:=aQ h;obtain⟨⟨ik,es⟩,h2,h⟩:=aQ h;exists ae (aQ h),mb,h3,h;exists ak (guard_some h),dj,h;exact iD h fun f=>RQ (wD (C:=C) (n:=n) G (fun _ _ he=>iE he) f h2 h1 dj).1 (wD (C:=C) (n:=n) G (fun _ _ he=>iE he) f h2 h1 dj).2 h1 (ihL h3 f)
 |Return e p=>
  exists ae (aQ h),e',h1,h;exists ae (aQ h),me,he,h5;clear h ihL G dp hM;subst h1;exact iD h5 fun f=>Qd ((iE he).se f)
 |Continue p=>exact iD h fun f=>VO
 |Raise a b p=>exact iD h fun f A env ρ φ H s fl ρ' H' Q E R I X e=>nn e
 |_=>exact nn h
end
end
section
open PySem PySem.Calls PyProof.Rows PySem.W
theorem jR:∀{e:Ent},e∈dropNew n₀ l->e∈l/\e.id<n₀:=by
 induction l with
 |nil=>
  intro e m;cases m
 |cons x l ih=>
  intro e m;dsimp only[dropNew]at m;split at m
  ·exists ak (ih m),a,b;exact⟨.tail _ a,b⟩
  ·rename_i h;rcases aH.mp m with rfl|m
   ·refine⟨.head _,Nat.lt_of_not_le fun z=>?_⟩;rw[fq z]at h;exact bt h
   ·exists ak (ih m),a,b;exact⟨.tail _ a,b⟩
theorem BK:∀{e:Ent},e∈l->e.id<n₀->e∈dropNew n₀ l:=by
 induction l with
 |nil=>
  intro e m _;cases m
 |cons x l ih=>
  intro e m h;dsimp only[dropNew];split
  ·rename_i hb;rcases aH.mp m with rfl|m
   ·exact absurd (bC hb) (Nat.not_le.mpr h)
   ·exact ih m h
  ·rcases aH.mp m with rfl|m
   ·exact .head _
   ·exact .tail _ (ih m h)
theorem Ao(n₀:Nat)(l:List Ent):(dropNew n₀ l).Sublist l:=by
 induction l with
 |nil=>exact .slnil
 |cons x l ih=>
  show List.Sublist (match b8 n₀ x.id with
   |true=>dropNew n₀ l
   |false=>x::dropNew n₀ l) _
  induction b8 n₀ x.id using aB with
  |true=>exact .cons _ ih
  |false=>exact List.Sublist.cons_cons _ ih
section
variable {C:Cf} {φ bp:Ph} {H aE:Hp} {h aV:Heap}
theorem Cf.leaveI(I:C.I φ H h)(S:SZ Z φ H h bp aE aV)(aC:C.I bp aE aV)(hz:∀b,Z b->h.get? b=none)(es:List Ent)(eA:∀e∈es,e∈aE.es)(hold:∀e∈aE.es,e.id<H.nxt->e∈es)(nd:(es.map (·.id)).Nodup) :
  C.I ⟨bp.f,φ.fr⟩ ⟨aE.nxt,es⟩ aV/\St φ H h ⟨bp.f,φ.fr⟩ ⟨aE.nxt,es⟩ aV/\∀b,aT ⟨bp.f,φ.fr⟩ ⟨aE.nxt,es⟩ b->aT bp aE b:=by
 have hm:∀b,aT ⟨bp.f,φ.fr⟩ ⟨aE.nxt,es⟩ b->aT bp aE b:=by
  rintro b (⟨e,m,q⟩|f)
  ·exact .inl ⟨e,eA e m,q⟩
  ·exact .inr (S.du b f)
 refine⟨⟨aC.base,fun e m=>?_,nd,fun e m e' m' q=>aC.inj e (eA e m) e' (eA e' m') q,fun e m=>aC.lt e (eA e m),aC.fresh,fun a f=>?_,aC.sys⟩,
  ⟨fun b o e u=>S.keep b o e u fun z=>(by rw[hz b z]at e;exact nq e),S.ext,S.nxt,fun e m=>?_,fun e' m'=>S.new e' (eA e' m'),S.alive,fun _ f=>f,fun _ f=>.inl f⟩,hm⟩
 ·exists b7 (aC.objs e (eA e m)),a,e1,e2,e3;refine⟨a,e1,e2,?_⟩;revert e3;clear e2 e1 m nd hold eA hz aC S I;induction e.obj using Internal.bq.casesOn with
  |list l=>rintro ⟨vs,n,g,r⟩;exact⟨vs,n,g,r.mono (fun _ _ e=>e) (fun _ _ e _=>e) fun b _ q _=>hm b q⟩
  |dict l=>rintro ⟨vs,n,g,r,d⟩;exact⟨vs,n,g,r.mono (fun _ _ e=>e) (fun _ _ e _=>e) (fun b _ q _=>hm b q),d⟩
 ·clear hm nd hold hz I;obtain⟨p,q,o,g⟩:=aC.cC a (S.du a f);exact⟨p,fun e m=>q e (eA e m),o,g⟩
 ·exists dX (S.ids e m),e',m',a,b,c;exact⟨e',hold e' m' (by rw[a];exact I.lt e m),a,b,c⟩
set_option tactic.hygienic true in
theorem T4(aC:C.I bp aE aV)(eA:∀e∈es,e∈aE.es/\e.id<n₀)(hm:∀b,aT ⟨bp.f,fr⟩ ⟨aE.nxt,es⟩ b->aT bp aE b)(ij:∀b,fr b->bp.fr b) :
  ∀(k:Nat) (v:V) (x:Value),C.R bp aE aV v x->C.R ⟨bp.f,fr⟩ ⟨aE.nxt,es⟩ aV (freezeV aE.es n₀ k v) x:=by
 have base:∀{v x},C.R bp aE aV v x->C.R ⟨bp.f,fr⟩ ⟨aE.nxt,es⟩ aV v x:=fun r=>r.mono (fun _ _ e=>e) (fun _ _ e _=>e) fun b _ q _=>hm b q;intro k
 induction k with
 |zero=>intro v x r;exact base r
 |succ k ih=>
  have ihL:∀(l:List V) (vs:List Value),C.Rs bp aE aV l vs->C.Rs ⟨bp.f,fr⟩ ⟨aE.nxt,es⟩ aV (l.map (freezeV aE.es n₀ k)) vs:=by
   intro l;clear base ij hm eA aC;induction l with
   |nil=>intro vs r;cases r;exact .nil
   |cons a l oV=>intro vs r;cases r with|cons r1 r2=>exact .cons (ih _ _ r1) (oV _ r2)
  intro v x r;clear ih;induction v using Internal.V.casesOn with
  |ref n=>
   show C.R _ _ _ (match b8 n₀ n with
    |true=>match look aE.es n with
     |some e=>match e.obj with
      |.list l=>.lst (l.map (freezeV aE.es n₀ k))
      |.dict l=>.dct l
     |none=>.ref n
    |false=>.ref n) x
   split
   ·rename_i hb;split
    ·rename_i e hl;exists ak (fN hl),m,Uc;subst Uc;cases r with
     |@ref _ a hr=>
     exists b7 (aC.objs e m),a',e1,e2,e3;rw[hr]at e1;exists e1;have nm:¬ aT ⟨bp.f,fr⟩ ⟨aE.nxt,es⟩ a:=by
      rintro (⟨e',m',q⟩|f)
      ·exists ak (eA e' m'),m2,lt;have:=aC.inj e' m2 e m (by rw[hr];exact q);have:=bC hb
       lia
      ·exact(aC.cC a (ij a f)).2.1 e m hr
     revert e3
     induction e.obj using Internal.bq.casesOn with
     |list l=>rintro ⟨vs,c,g,rs⟩;exact .lst g nm (ihL l vs rs)
     |dict l=>
      rintro ⟨ds,c,g,rs,nd⟩;refine .dct g (fun z=>?_) nm (rs.mono (fun _ _ e=>e) (fun _ _ e _=>e) fun b _ q _=>hm b q) nd;exists aD aC.sys,o,ho;rw[<- z,e2]at ho;exact nq ho
    ·exact base r
   ·exact base r
  |tup l=>
   cases r with
   |tup g m rs=>exact .tup g (fun q=>m (hm _ q)) (ihL l _ rs)
  |none=>exact base r
  |bool b=>exact base r
  |int i=>exact base r
  |str q=>exact base r
  |lst l=>exact base r
  |dct l=>exact base r
set_option tactic.hygienic true in
theorem Cf.leave(I:C.I φ H h)(S:SZ Z φ H h bp aE aV)(aC:C.I bp aE aV)(hz:∀b,Z b->h.get? b=none)(keep:Bool)(r:C.R bp aE aV v x)(e:Internal.leave keep H aE v=(v',H')) :
  C.I ⟨bp.f,φ.fr⟩ H' aV/\St φ H h ⟨bp.f,φ.fr⟩ H' aV/\C.R ⟨bp.f,φ.fr⟩ H' aV v' x:=by
 have frozen:leaveF H aE v=(v',H')->C.I ⟨bp.f,φ.fr⟩ H' aV/\St φ H h ⟨bp.f,φ.fr⟩ H' aV/\C.R ⟨bp.f,φ.fr⟩ H' aV v' x:=fun e=>by
  cases e;exists dK (C.leaveI I S aC hz (dropNew H.nxt aE.es) (fun e m=>(jR m).1) (fun e m l=>BK m l) (((Ao H.nxt aE.es).map _).nodup aC.nodup)),a,b,c;exact⟨a,b,T4 aC (fun e m=>jR m) c (fun b f=>S.du b f) 3 v x r⟩
 unfold Internal.leave at e;split at e
 ·exact frozen e
 ·split at e
  ·rename_i n;split at e
   ·rename_i hb;unfold F6 at e;split at e
    ·rename_i en hl;clear frozen;cases e;exists ak (fN hl),m,XB;have hn:(en::dropNew H.nxt aE.es).map (·.id) |>.Nodup:=by
      rw[aO,eu];refine⟨fun z=>?_,((Ao H.nxt aE.es).map _).nodup aC.nodup⟩;exists ae (cE.mp z),e',m',q;have:=(jR m').2;have:=bC hb
      lia
     clear XB hl hb;obtain⟨a,b,c⟩:=C.leaveI I S aC hz (en::dropNew H.nxt aE.es) (fun e m'=>by
      clear hn r hz aC S I;rcases aH.mp m' with rfl|m'
      ·exact m
      ·exact(jR m').1) (fun e m l=>.tail _ (BK m l)) hn
     exact⟨a,b,r.mono (fun _ _ e=>e) (fun _ _ e _=>e) fun b _ q _=>c b q⟩
    ·clear hb frozen;cases e;exists dK (C.leaveI I S aC hz (dropNew H.nxt aE.es) (fun e m=>(jR m).1) (fun e m l=>BK m l) (((Ao H.nxt aE.es).map _).nodup aC.nodup)),a,b,c;exact⟨a,b,r.mono (fun _ _ e=>e) (fun _ _ e _=>e) fun b _ q _=>c b q⟩
   ·exact frozen e
  ·exact frozen e
end
end
section
open PySem PySem.Calls PyProof.Rows PySem.W
theorem V5(kd:Str->Option NameKind)(x:Str)(ps:List Str):∀(vals:List Value) (m:Str->Option Value),x ∉ ps->bindL kd (ps.zip vals) m x=m x:=by
 induction ps with
 |nil=>intro vals m _;induction vals using aN <;> rfl
 |cons p ps ih=>
  intro vals m h
  induction vals using aN with
  |nil=>rfl
  |cons v vals=>
   show bindL kd (ps.zip vals) (if kd p=some .local then fun y=>if y=p then some v else m y else m) x=m x;rw[ih vals _ fun q=>h (.tail _ q)];split
   ·exact if_neg fun z=>h (by rw[z];exact .head _)
   ·rfl
theorem QC(kd:Str->Option NameKind)(x:Str)(ps:List Str):∀(vals:List Value) (m:Str->Option Value),x ∉ ps->bindC kd (ps.zip vals) m x=m x:=by
 induction ps with
 |nil=>intro vals m _;induction vals using aN <;> rfl
 |cons p ps ih=>
  intro vals m h
  induction vals using aN with
  |nil=>rfl
  |cons v vals=>
   show bindC kd (ps.zip vals) (if kd p=some .local then m else fun y=>if y=p then some v else m y) x=m x;rw[ih vals _ fun q=>h (.tail _ q)];split
   ·rfl
   ·exact if_neg fun z=>h (by rw[z];exact .head _)
theorem Wa(kd:Str->Option NameKind)(x:Str)(hk:kd x=some .local)(ps:List Str):∀(vals:List Value) (m:Str->Option Value) (i:Nat) (v:Value),ps.Nodup->ps[i]?=some x->vals[i]?=some v->bindL kd (ps.zip vals) m x=some v:=by
 induction ps with
 |nil=>exact fun _ _ _ _ _ h=>nq h
 |cons p ps ih=>
  intro vals m i v nd h1 h2
  induction vals using aN with
  |nil=>exact nq h2
  |cons w vals=>
  rw[eu]at nd;show bindL kd (ps.zip vals) (if kd p=some .local then fun y=>if y=p then some w else m y else m) x=some v
  induction i using bL with
  |zero=>
   simp at h1 h2;subst h1 h2;rw[V5 kd _ ps vals _ nd.1,if_pos hk];simp
  |succ i=>
   simp at h1 h2;exact ih vals _ i v nd.2 h1 h2
theorem QR(kd:Str->Option NameKind)(x:Str)(hk:kd x≠some .local)(ps:List Str):∀(vals:List Value) (m:Str->Option Value) (i:Nat) (v:Value),ps.Nodup->ps[i]?=some x->vals[i]?=some v->bindC kd (ps.zip vals) m x=some v:=by
 induction ps with
 |nil=>intro vals m i v _ h _;exact nq h
 |cons p ps ih=>
  intro vals m i v nd h1 h2
  induction vals using aN with
  |nil=>exact nq h2
  |cons w vals=>
   rw[eu]at nd;show bindC kd (ps.zip vals) (if kd p=some .local then m else fun y=>if y=p then some w else m y) x=some v
   induction i using bL with
   |zero=>
    have h1:=aI h1;have h2:=aI h2;subst h1 h2;rw[QC kd _ ps vals _ nd.1,if_neg hk,if_pos rfl]
   |succ i=>exact ih vals _ i v nd.2 h1 h2
set_option tactic.hygienic true in
theorem Nm(l:List V):∀(k n:Nat) (ρ:ai),rE l k n=some ρ->l.length=k/\∀i v,cF ρ i=some v->l[i]?=some v:=by
 induction l with
 |nil=>
  intro k n ρ e
  induction k using bL with
  |succ=>exact nq e
  |zero=>
  exists e;refine⟨rfl,fun i v h=>?_⟩;exfalso
  induction n generalizing i with
  |zero=>exact nq h
  |succ n ih=>induction i using bL with
   |zero=>exact nq h
   |succ i=>exact ih i h
 |cons a l ih=>
  intro k n ρ e
  induction k using bL with
  |zero=>exact nq e
  |succ k=>
  have e:(match rE l k n with
   |some ρ=>some (some a::ρ)
   |none=>none)=some ρ:=e
  split at e
  ·rename_i ρ' h';exists e;exists ak (ih k n ρ' h'),a1,a2;refine⟨by rw[fS,a1],fun i v h=>?_⟩
   induction i using bL with
   |zero=>exists h;rfl
   |succ i=>exact a2 i v h
  ·exact nq e
theorem Xx(l:List Str):∀(k:Nat) (x:Str) (i:Nat),(l.zipIdx k).lookup x=some i->k<=i/\l[i - k]?=some x:=by
 induction l with
 |nil=>
  intro k x i e;exact nq e
 |cons y l ih=>
  intro k x i e;rw[List.zipIdx_cons,lD]at e;split at e
  ·rename_i h;exists e;have:=eq_of_beq h;subst this;exact⟨cw _,by simp⟩
  ·exists ak (ih (k+1) x i e),a,b;refine⟨by exact fo a,?_⟩;have:i - k=(i - (k+1))+1:=by lia
   rw[this];simpa using b
structure E7 (C:Cf) (a:Addr) (o:Obj) (fd:FuncData) (params:List Str) (body:List PySem.Stmt):Prop where
 ho:C.h₀.get? a=some o
 data:o.data = .func fd
 code:C.h₀.CodeRec fd.code fd.qualname
 lim:C.h₀.NoLimit
 body:fd.body = .stmts body
 OD:fd.closure=[]
 binds:∀(s:Shared) (vals:List Value),(∀b o,C.h₀.get? b=some o->s.heap.get? b=some o)->vals.length=params.length->BindsTo s fd ⟨vals,[]⟩ (params.zip vals)
 glob:fd.globals=mainGlobals
 blt:fd.builtins=builtinsNs
 co:fd.scope.isCoroutine=false
 gen:fd.scope.isGenerator=false
 kind:fd.scope.kind = .function
 nd:params.Nodup
 par:∀p∈params,fd.scope.names.lookup p=some .local\/fd.scope.names.lookup p=some .cell
 GG:∀x,fd.scope.names.lookup x≠some .free
section
variable {C:Cf} {n K:Nat}
theorem n9.inv(r:n9 C φ H h fl x):Fl.rec (motive:=fun _=>Prop) (x = .next) (x = .cont) (fun w=>∃y,x = .ret y/\C.R φ H h w y) fl:=n9.rec rfl rfl (fun r=>⟨_,rfl,r⟩) r
theorem Rj(e:mkEnd keep H x=some (v,H')):∃fl ρ aE,x=some (fl,ρ,aE)/\((∃w,fl = .ret w/\Internal.leave keep H aE w=(v,H'))\/(fl = .next/\Internal.leave keep H aE .none=(v,H'))):=by
 induction x using aL with
 |none=>exact nq e
 |some p=>
  obtain⟨fl,ρ,aE⟩:=p;refine⟨fl,ρ,aE,rfl,?_⟩
  induction fl using Internal.Fl.casesOn with
  |next=>exact .inr ⟨rfl,aI e⟩
  |cont=>exact nq e
  |ret w=>exact .inl ⟨w,rfl,aI e⟩
theorem RO(F:E7 C a o fd params body)(eM:cxOk (iW gl params fd.scope.names)=true)(hb:C.jl n (iW gl params fd.scope.names) body (denSs (denS 20) ms)) :
  C.fz (n+1) (bA params.length slots ms keep) a:=fun A φ H s args vals v H' Q E R I rs e P=>by
 have e:(match rE args params.length slots with
  |some ρ=>mkEnd keep H (denSs (denS 20) ms ρ H)
  |none=>none)=some (v,H'):=e
 split at e
 ·rename_i ρ CS;exists ak (Nm args params.length slots ρ CS),al,ag;exists pT (Rj e),fl,nO,aE,e1,e2;have PK:vals.length=params.length:=by rw[<- rs.length,al]
  exists ak (Bt eM),dj,b9;have b9:(fd.scope.names.map (·.1)).Nodup:=b9;refine wpAny_call ?_;have jT:s.heap.NoLimit:=F.lim.at fun o e=>I.base _ _ e;have FT:s.heap.CodeRec fd.code fd.qualname:=let ⟨c,o,vs,t,h1,h2,h3⟩:=F.code;⟨c,o,vs,t,h1,I.base _ _ h2,h3⟩
  refine codeAny_call_function (by have:=R.depth;exact Nat.lt_of_add_right_lt this) (I.base _ _ F.ho) F.data F.co F.gen F.body FT (F.binds s vals (fun b o e=>I.base b o e) PK _ _ _ _ ?_);rw[F.OD];refine wpAny_newFunctionEnv_cells F.kind (fun x hx=>?_) fun env he s₁ x=>?_
  ·have hp:x.1∈params:=(List.of_mem_zip hx).1;rcases F.par x.1 hp with h|h
   ·exact .inl h
   ·refine .inr ⟨h,?_⟩;refine ae (wm fd.scope.names (s.heap.push { cls:=.type "frame",data:=.dict #[] }) [] x.1 b9 (hC h)) fun b dD _=>?_;rw[Heap.size_push]at dD;rw[dD];rfl
  ·have df:env.cells=cellsFrom (s.heap.objs.size+1) fd.scope.names []:=by rw[he];rfl
   have hsc:env.scope=fd.scope:=by rw[he];rfl
   have sL:env.globals=fd.globals:=by rw[he];rfl
   have cB:env.builtins=fd.builtins:=by rw[he];rfl
   have iA:∀y,env.kindOf y=fd.scope.names.lookup y:=fun y=>by rw[he];rfl
   have young:∀b,s.heap.objs.size<=b->s.heap.get? b=none:=fun b dD=>by
    induction q:s.heap.get? b using aL with
    |none=>rfl
    |some o=>exact absurd (Heap.lt_size q) (Nat.not_lt.mpr dD)
   have fL:s.heap.get? env.locals=none:=young _ x.toInCall.fresh;have fC:∀z b,env.cells.lookup z=some b->env.locals<b/\s.heap.get? b=none:=fun z b hz=>by
    have:=x.above z b (mem_of_lookup hz);exact⟨this,young _ (Nat.le_of_lt (Nat.lt_of_le_of_lt x.toInCall.fresh this))⟩
   have fk:=x.toInCall.ns;have dc:=x.cell;have Yq:=x.apart;have Ht:=x.toInCall.keep;exists de x.toInCall.same,ao,b6,xY;subst xY;refine⟨jT.keeps Ht,codeAny_func ?_⟩;obtain⟨ah,aA⟩:=C.qj I Ht (F:=fun b=>b=env.locals\/∃z,env.cells.lookup z=some b) fun b dD=>by
    rcases dD with rfl|⟨z,hz⟩
    ·exact⟨fL,mB fk⟩
    ·exact⟨(fC z b hz).2,sq (dc z b hz)⟩
   have slot:∀y i w,(iW gl params fd.scope.names).vm.lookup y=some i->cF ρ i=some w->params[i]?=some y/\∃val,vals[i]?=some val/\C.R (φ.more fun b=>b=env.locals\/∃z,env.cells.lookup z=some b) H ao w val:=fun y i w hy hw=>by
    exists ak (Xx _ 0 y i hy),Z0,h2;have h3:=ag i w hw;exists ae (rs.get h3),val,h4,r;have hi:i<params.length:=by rw[<- al];exact(fj.mp h3).1
    rw[Nat.sub_zero,List.getElem?_append_left hi]at h2;exact⟨h2,val,h4,aA.vr I r⟩
   have X:ER C (iW gl params fd.scope.names) ρ env (φ.more fun b=>b=env.locals\/∃z,env.cells.lookup z=some b) H ao:=by
    refine⟨by rw[hsc];exact F.kind,by rw[sL];exact F.glob,by rw[cB];exact F.blt,fun y k hy=>?_,⟨_,fk,fun y i w h1 h2 h3=>?_⟩,fun y i h1 h2=>?_,.inr (.inl rfl),fun y b hy=>.inr (.inr ⟨y,hy⟩),fun y z b hy hz=>name_of_addr Yq (mem_of_lookup hy) (mem_of_lookup hz),dj⟩
    ·have hy:fd.scope.names.lookup y=some k:=hy
     induction k using PySem.NameKind.casesOn with
     |«local»=>show env.kindOf y=_;rw[iA];exact hy
     |cell=>show env.kindOf y=_;rw[iA];exact hy
     |free=>exact(F.GG y hy).elim
     |globalImplicit=>show env.kindOf y=_;rw[iA];exact hy
     |globalExplicit=>trivial
    ·obtain⟨hp,val,hv,r⟩:=slot y i w h2 h3;exact⟨val,Wa _ y (by rw[iA];exact h1) params vals _ i val F.nd hp hv,r⟩
    ·have h1:fd.scope.names.lookup y=some .cell:=h1.elim id fun z=>(F.GG y z).elim;refine ae (wm fd.scope.names (s.heap.push { cls:=.type "frame",data:=.dict #[] }) [] y b9 (hC h1)) fun b dD _=>?_;rw[Heap.size_push,<- df]at dD;refine⟨b,_,dD,dc y b dD,.inr (.inr ⟨y,dD⟩),fun z=>?_,fun w hw=>?_⟩
     ·have:=(fC y b dD).1;rw[z]at this;exact kT _ this
     ·obtain⟨hp,val,hv,r⟩:=slot y i w h2 hw;exact⟨val,QR _ y (by rw[iA,h1];decide) params vals _ i val F.nd hp hv,r⟩
   have R':Rm (A.deeper env) n:=⟨R.handled,by have:=R.depth;show A.depth+1+n<_;lia,by have:=R.units;show A.units+3+12 * n+200<_;lia⟩;exists hb (A.deeper env) env ρ _ H { s with heap:=ao,toks:=b6 } fl nO aE _ _ R' ah X e1,bp,aV,dU,y,aP,aC,wx,dq;have T:=(aA.eS (Z:=Zf (iW gl params fd.scope.names) env)).trans aP I ah;have hz:∀b,Zf (iW gl params fd.scope.names) env b->s.heap.get? b=none:=fun b dD=>by
    rcases dD with rfl|⟨z,_,hz⟩
    ·exact fL
    ·exact(fC z b hz).2
   rcases e2 with⟨w,rfl,e2⟩|⟨rfl,e2⟩
   ·exists ae dq.inv,q,r3,r;subst r3;exists dK (C.leave I T aC hz keep r e2),a1,a2,a3;exact P _ _ aV dU a2 a1 a3
   ·have r3:=dq.inv;subst r3;exists dK (C.leave I T aC hz keep (.none:C.R bp aE aV .none .none) e2),a1,a2,a3;exact P _ _ aV dU a2 a1 a3
 ·exact nq e
end
end
section
open PySem PySem.Calls PyProof.Rows PySem.W
section
variable {C:Cf}
theorem N2(T:Top p loose mean mg mb C.h₀)(hd:d∈recsOf p)(params:List Str)
  (t9:∀pm code doc vals,vals.length=params.length->bindArgs (docDef d.name d.params d.body d.scope pm code doc) ⟨vals,[]⟩=pure (params.zip vals))
  (y9:d.scope.isCoroutine=false) (xi:d.scope.isGenerator=false) (hk:d.scope.kind = .function) (b9:params.Nodup) (yb:∀p∈params,d.scope.names.lookup p=some .local\/d.scope.names.lookup p=some .cell) (wM:∀x,d.scope.names.lookup x≠some .free) :
  ∃a o fd,mg d.name=some (.ref a)/\C.h₀.get? a=some o/\o.data = .func fd/\fd.scope=d.scope/\E7 C a o fd params d.body:=by
 exists WI (T.fn d hd),a,o,pm,code,doc,h1,h2,h3,h4;exact⟨a,o,_,h1,h2,h3,rfl,⟨h2,h3,h4,T.nolimit,rfl,rfl,fun s vals _ hl=>.of_eq (t9 pm code doc vals hl),rfl,rfl,y9,xi,hk,b9,yb,wM⟩⟩
end
end
section
open PySem PySem.Calls PyProof.Rows PySem.W
section
variable {C:Cf}
theorem Cf.fz.more(c:C.fz n g a)(h:n<=m):C.fz m g a:=fun A φ H s args vals v H' Q E R I rs e P=>c A φ H s args vals v H' Q E (R.le h) I rs e P
end
end
section
open PySem PySem.Calls PyProof.Rows PySem.W
section
variable {C:Cf} {mg mb:Str->Option Value} {K:Nat}
noncomputable def ay(C:Cf)(mg mb:Str->Option Value)(K:Nat)(x:Str)(g:GI):Prop:=(x == ("__debug__" : Str))=false/\match g with
 |.val v=>∃y,mg x=some y/\VR C.kh (fun _=>none) (fun _=>False) C.h₀ v y
 |.fn g=>∃a o fd,mg x=some (.ref a)/\C.h₀.get? a=some o/\o.data = .func fd/\C.fz K g a
 |.bi b=>mg x=none/\mb x=some (gW b)
 |.it k=>mg x=none/\mb x=some (sz k)
theorem ay.more(e:ay C mg mb K x g)(h:K<=K'):ay C mg mb K' x g:=by
 refine⟨e.1,?_⟩;have e:=e.2
 induction g using Internal.iU.casesOn with
 |val v=>exact e
 |fn g=>obtain⟨a,o,fd,h1,h2,h3,h4⟩:=e;exact⟨a,o,fd,h1,h2,h3,h4.more h⟩
 |bi b=>exact e
 |it k=>exact e
theorem PS(hg:C.h₀.Ns mainGlobals mg)(hb:C.h₀.Ns builtinsNs mb)(h:∀e∈l,ay C mg mb K e.1 e.2):Gl C l K:=
 ⟨⟨mg,mb,hg,hb,fun _ _ e=>(h _ (mem_of_lookup e)).2,fun _ _ e=>(h _ (mem_of_lookup e)).2,fun _ _ e=>(h _ (mem_of_lookup e)).2,fun _ _ e=>(h _ (mem_of_lookup e)).2⟩,fun _ _ e=>(h _ (mem_of_lookup e)).1⟩
theorem Mr(hM:∀c,(model C.prog C.w).den c=denote table c)(T:Top p loose mean mg mb C.h₀)(sL:∀e∈gl,ay C mg mb K e.1 e.2)(hd:d∈recsOf p)(params:List Str)
  (t9:∀pm code doc vals,vals.length=params.length->bindArgs (docDef d.name d.params d.body d.scope pm code doc) ⟨vals,[]⟩=pure (params.zip vals))
  (y9:d.scope.isCoroutine=false) (xi:d.scope.isGenerator=false) (hk:d.scope.kind = .function) (b9:params.Nodup) (yb:∀p∈params,d.scope.names.lookup p=some .local\/d.scope.names.lookup p=some .cell) (wM:∀x,d.scope.names.lookup x≠some .free)
  {ms:List MS} {slots:Nat} {keep:Bool} (eM:cxOk (iW gl params d.scope.names)=true) (hc:optL (compS 20 (iW gl params d.scope.names)) d.body=some ms) (hn:(d.name == ("__debug__" : Str))=false) :
  ay C mg mb (K+1) d.name (.fn (bA params.length slots ms keep)):=by
 exists jV (N2 T hd params t9 y9 xi hk b9 yb wM),a,o,fd,h1,h2,h3,h4,F;refine⟨hn,a,o,fd,h1,h2,h3,RO F (gl:=gl) (by rw[h4];exact eM) ?_⟩;rw[h4];exact HA (qX (fun st m h=>Oa hM (cw K) 20 _ st m (show Gl C (iW gl params d.scope.names).gl K from PS T.g T.b sL) h 20) hc)
theorem ay.bT(e:ay C mg mb K x (.fn g))(h:∀a,C.fz K g a->C.fz K g' a):ay C mg mb K x (.fn g'):=by
 obtain⟨h0,a,o,fd,h1,h2,h3,h4⟩:=e;exact⟨h0,a,o,fd,h1,h2,h3,h a h4⟩
end
end
section
open PySem PySem.Calls PyProof.Rows PySem.W
structure Bs (C:Cf) (mg mb:Str->Option Value):Prop where
 hM:∀c,(model C.prog C.w).den c=denote table c
 T:∃mean,Top vw (looseW vw []) mean mg mb C.h₀
 X:Says C.h₀
section
variable {C:Cf} {mg mb:Str->Option Value}
theorem Bs.g(B:Bs C mg mb):C.h₀.Ns mainGlobals mg:=let ⟨_,T⟩:=B.T;T.g
theorem Bs.b(B:Bs C mg mb):C.h₀.Ns builtinsNs mb:=let ⟨_,T⟩:=B.T;T.b
theorem U0(h:vInt v=some i):∃t,v = .int i t:=by
 induction v using PySem.Value.casesOn with
 |int j t=>cases aI h;exact⟨t,rfl⟩
 |_=>exact nq h
theorem Yj(h:vRef v=some a):v = .ref a:=by
 induction v using PySem.Value.casesOn with
 |ref b=>exact congrArg _ (aI h)
 |_=>exact nq h
theorem JK{A:Type}{l:List A}(h:lNil l=true):l=[]:=by
 induction l using aN with
 |nil=>rfl
 |cons=>exact bf h
theorem Dq{A:Type}{x:Option A}(h:Cr x=true):x=none:=by
 induction x using aL with
 |none=>rfl
 |some=>exact bf h
theorem NH(h:isTup o=true):o.cls = .type "tuple":=by
 unfold isTup at h;generalize o.cls=c at h ⊢
 induction c using PySem.Value.casesOn with
 |type t=>rw[eq_of_beq h]
 |_=>exact bf h
theorem LK(h:seq0 o=some l):o.data = .seq l.toArray 0:=by
 unfold seq0 at h;generalize o.data=d at h ⊢
 induction d using PySem.Data.casesOn with
 |seq a n=>induction n using bL with
  |zero=>rw[<- aI h]
  |succ=>exact nq h
 |_=>exact nq h
theorem yZ(h:isI v i=true):∃t,v = .int i t:=by
 exists ae (jK h),p,h1,h2;cases eq_of_beq h2;exact U0 h1
theorem So(h1:o.cls = .type "tuple")(h2:o.dict=none)(h3:o.slots.toList=[])(h4:o.data = .seq l.toArray 0):o=d6 l 0:=by
 induction o using PySem.Obj.casesOn with
 |mk c d da sl=>
  subst h1;subst h2;subst h4;cases Array.toList_eq_nil_iff.mp h3;rfl
theorem aal(h:twoL l i j=true):∃t u,l=[.int i t,.int j u]:=by
 induction l using aN with
 |nil=>exact bf h
 |cons x l=>
  induction l using aN with
  |nil=>exact bf h
  |cons y l=>
   exists ak (mW h),h1,h;exists ak (mW h),h2,h3;cases JK h1;exists aD (yZ h2),t,e1;exists aD (yZ h3),u,e2;exact⟨t,u,by rw[e1,e2]⟩
theorem Bs.no(B:Bs C mg mb)(m:x∈vz):mg x=none:=by
 exists ae B.X,K,i,c;have c:=List.all_eq_true.mp (mq.mp (mq.mp c).1).1 x m;exists ae (jK c),r,q,h;rw[Dq h]at q;exact mg_none_of i B.g q
theorem Bs.int(B:Bs C mg mb)(m:(x,i)∈Ce):∃t,mg x=some (.int i t):=by
 exists ae B.X,K,k,c;have c:=List.all_eq_true.mp (mq.mp (mq.mp c).1).2 _ m;exists ae (jK c),r,q,h;exists ae (jK h),v,q2,h;exists aD (yZ h),t,e;rw[q2,e]at q;exact⟨t,mg_of k B.g q⟩
theorem Bs.two(B:Bs C mg mb)(m:(x,i,j)∈A5):∃a t u,mg x=some (.ref a)/\C.h₀.get? a=some (d6 [.int i t,.int j u] 0):=by
 exists ae B.X,K,k,c;have c:=List.all_eq_true.mp (mq.mp c).2 _ m;exists ae (jK c),r,q,h;exists ae (jK h),v,q2,h;exists ae (jK h),a,q3,h;exists ae (jK h),o,q4,h;exists ak (mW h),h1,h;exists ae (jK h),l,h2,h;exists ak (mW h1),h3,h1;exists ak (mW h1),h4,h5;exists de (aal h),t,u,e;rw[q2,Yj q3]at q;have g:=So (NH h3) (Dq h4) (JK h5) (LK h2);rw[e]at g;exact⟨a,t,u,mg_of k B.g q,k _ _ (g▸q4)⟩
theorem jw(B:Bs C mg mb)(x:Str)(b:BI)(m:x∈vz)(h2:bootBuiltins x=some (gW b))(h3:x ≠ "__name__")(h4:(x == ("__debug__" : Str))=false):ay C mg mb 0 x (.bi b):=
 let ⟨_,T⟩:=B.T
 ⟨h4,B.no m,(T.builtins x h3).trans h2⟩
theorem yI(B:Bs C mg mb)(x:Str)(k:IK)(m:x∈vz)(h2:bootBuiltins x=some (sz k))(h3:x ≠ "__name__")(h4:(x == ("__debug__" : Str))=false):ay C mg mb 0 x (.it k):=
 let ⟨_,T⟩:=B.T
 ⟨h4,B.no m,(T.builtins x h3).trans h2⟩
theorem AJ(B:Bs C mg mb)(x:Str)(i:Int)(m:(x,i)∈Ce)(h4:(x == ("__debug__" : Str))=false):ay C mg mb 0 x (.val (.int i)):=
 let ⟨t,e⟩:=B.int m
 ⟨h4,_,e,.int i t⟩
theorem DT(B:Bs C mg mb)(x:Str)(i j:Int)(m:(x,i,j)∈A5)(h4:(x == ("__debug__" : Str))=false):ay C mg mb 0 x (.val (.tup [.int i,.int j])):=
 let ⟨_,t,u,e,g⟩:=B.two m
 ⟨h4,_,e,.tup g (fun h=>h) (.cons (.int i t) (.cons (.int j u) .nil))⟩
theorem jF(B:Bs C mg mb):ay C mg mb 0 "len" (.bi .len):=jw B _ _ (by decide +kernel) (by decide +kernel) (by decide +kernel) (by decide +kernel)
theorem xd(B:Bs C mg mb):ay C mg mb 0 "sum" (.bi .sum):=jw B _ _ (by decide +kernel) (by decide +kernel) (by decide +kernel) (by decide +kernel)
theorem uC(B:Bs C mg mb):ay C mg mb 0 "max" (.bi .max2):=jw B _ _ (by decide +kernel) (by decide +kernel) (by decide +kernel) (by decide +kernel)
theorem IH(B:Bs C mg mb):ay C mg mb 0 "min" (.bi .min2):=jw B _ _ (by decide +kernel) (by decide +kernel) (by decide +kernel) (by decide +kernel)
theorem FO(B:Bs C mg mb):ay C mg mb 0 "abs" (.bi .abs):=jw B _ _ (by decide +kernel) (by decide +kernel) (by decide +kernel) (by decide +kernel)
theorem Wn(B:Bs C mg mb):ay C mg mb 0 "any" (.bi .any):=jw B _ _ (by decide +kernel) (by decide +kernel) (by decide +kernel) (by decide +kernel)
theorem Y7(B:Bs C mg mb):ay C mg mb 0 "sorted" (.bi .sorted):=jw B _ _ (by decide +kernel) (by decide +kernel) (by decide +kernel) (by decide +kernel)
theorem sH(B:Bs C mg mb):ay C mg mb 0 "tuple" (.bi .tuple):=jw B _ _ (by decide +kernel) (by decide +kernel) (by decide +kernel) (by decide +kernel)
theorem AE(B:Bs C mg mb):ay C mg mb 0 "dict" (.bi .dict):=jw B _ _ (by decide +kernel) (by decide +kernel) (by decide +kernel) (by decide +kernel)
theorem Ld(B:Bs C mg mb):ay C mg mb 0 "int" (.bi .int):=jw B _ _ (by decide +kernel) (by decide +kernel) (by decide +kernel) (by decide +kernel)
theorem gU(B:Bs C mg mb):ay C mg mb 0 "enumerate" (.it .enum):=yI B _ _ (by decide +kernel) (by decide +kernel) (by decide +kernel) (by decide +kernel)
theorem mG(B:Bs C mg mb):ay C mg mb 0 "range" (.it .range1):=yI B _ _ (by decide +kernel) (by decide +kernel) (by decide +kernel) (by decide +kernel)
theorem WO(B:Bs C mg mb):ay C mg mb 0 "zip" (.it .zip):=yI B _ _ (by decide +kernel) (by decide +kernel) (by decide +kernel) (by decide +kernel)
theorem nQ(B:Bs C mg mb):ay C mg mb 0 "R0" (.val (.tup [.int 0,.int 1])):=DT B _ 0 1 (by decide +kernel) (by decide +kernel)
theorem yL(B:Bs C mg mb):ay C mg mb 0 "R1" (.val (.tup [.int 1,.int 1])):=DT B _ 1 1 (by decide +kernel) (by decide +kernel)
theorem YX(B:Bs C mg mb):ay C mg mb 0 "MOST_BITS" (.val (.int 200000)):=AJ B _ _ (by decide +kernel) (by decide +kernel)
theorem VT(B:Bs C mg mb):ay C mg mb 0 "MOST_FAR" (.val (.int 20000)):=AJ B _ _ (by decide +kernel) (by decide +kernel)
theorem QV(B:Bs C mg mb):ay C mg mb 0 "MOST_WORK" (.val (.int 3000000)):=AJ B _ _ (by decide +kernel) (by decide +kernel)
end
theorem Vn:(recsOf vw).length=53:=by decide +kernel
end
section
open PySem PySem.Calls PyProof.Rows PySem.W
def dd(i:Nat)(h:i<53):DefRec:=(recsOf vw)[i]'(by rw[Vn];exact h)
theorem bG(i:Nat)(h:i<53):dd i h∈recsOf vw:=List.getElem_mem _
noncomputable def isFree:NameKind->Bool
 |.free=>true
 |_=>false
noncomputable def isLoc:Option NameKind->Bool
 |some .local=>true
 |some .cell=>true
 |_=>false
def Kt(sc:Scope)(params:List Str):Bool:=
 band (!sc.isCoroutine) (band (!sc.isGenerator) (band (isFn sc.kind) (band (pM params) (band (params.all fun p=>isLoc (sc.names.lookup p)) (sc.names.all fun e=>!isFree e.2)))))
theorem oR(h:band a b=true):a=true/\b=true:=by induction a using aB <;> induction b using aB <;> simp_all [band]
theorem PG:pM l=true->l.Nodup:=by
 induction l with
 |nil=>
  intro _;exact List.nodup_nil
 |cons a r ih=>
  intro h;exists ak (oR h),h1,h2;refine eu.mpr ⟨fun m=>?_,ih h2⟩;rw[List.contains_iff_mem.mpr m]at h1;exact bf h1
theorem Se(h:Kt sc params=true):sc.isCoroutine=false/\sc.isGenerator=false/\sc.kind = .function/\params.Nodup/\(∀p∈params,sc.names.lookup p=some .local\/sc.names.lookup p=some .cell)/\∀x,sc.names.lookup x≠some .free:=by
 exists ak (oR h),h1,h;exists ak (oR h),h2,h;exists ak (oR h),h3,h;exists ak (oR h),h4,h;exists ak (oR h),h5,h6;refine⟨by simpa using h1,by simpa using h2,?_,PG h4,fun p m=>?_,fun x e=>?_⟩
 ·revert h3;induction sc.kind using PySem.ScopeKind.casesOn <;> simp [isFn]
 ·have:=List.all_eq_true.mp h5 p m;revert this
  induction sc.names.lookup p using aL with
  |none=>simp [isLoc]
  |some k=>induction k using PySem.NameKind.casesOn <;> simp [isLoc]
 ·have:=List.all_eq_true.mp h6 _ (mem_of_lookup e);simp [isFree]at this
section
variable {C:Cf} {mg mb:Str->Option Value} {K:Nat}
theorem bI(B:Bs C mg mb)(sL:∀e∈gl,ay C mg mb K e.1 e.2)(hd:d∈recsOf vw)(x:Str)(hx:d.name=x)(params:List Str)
  (t9:∀pm code doc vals,vals.length=params.length->bindArgs (docDef d.name d.params d.body d.scope pm code doc) ⟨vals,[]⟩=pure (params.zip vals))
  (hs:Kt d.scope params=true)
  (n:Nat) (Xw:params.length=n) {ms:List MS} {slots:Nat} {keep:Bool} (eM:cxOk (iW gl params d.scope.names)=true) (hc:optL (compS 20 (iW gl params d.scope.names)) d.body=some ms) (hn:(x == ("__debug__" : Str))=false) :
  ay C mg mb (K+1) x (.fn (bA n slots ms keep)):=by
 exists aD B.T,Z0,T;exists Kz (Se hs),h1,h2,h3,h4,h5,h6;subst hx Xw;exact Mr B.hM T sL hd params t9 h1 h2 h3 h4 h5 h6 eM hc hn
theorem b1{P:List Value->Prop}(h:∀a,P [a]):∀vals,vals.length=1->P vals:=fun vals=>vals.casesOn (fun e=>nomatch e) fun a r=>r.casesOn (fun _=>h a) fun _ _ e=>nomatch e
theorem tH{P:List Value->Prop}{n:Nat}(h:∀a vals,vals.length=n->P (a::vals)):∀vals,vals.length=n+1->P vals:=fun vals=>vals.casesOn (fun e=>nomatch e) fun a r e=>h a r (gG e)
theorem b2{P:List Value->Prop}(h:∀a b,P [a,b]):∀vals,vals.length=2->P vals:=tH fun a=>b1 (h a)
theorem b3{P:List Value->Prop}(h:∀a b c,P [a,b,c]):∀vals,vals.length=3->P vals:=tH fun a=>b2 (h a)
theorem b4{P:List Value->Prop}(h:∀a b c d,P [a,b,c,d]):∀vals,vals.length=4->P vals:=tH fun a=>b3 (h a)
theorem b5{P:List Value->Prop}(h:∀a b c d e,P [a,b,c,d,e]):∀vals,vals.length=5->P vals:=tH fun a=>b4 (h a)
theorem bH:∀e∈([]:List (Str×GI)),ay C mg mb K e.1 e.2:=fun _ h=>nomatch h
theorem au(a:ay C mg mb k x g)(h:∀e∈l,ay C mg mb K e.1 e.2)(hk:k<=K):∀e∈(x,g)::l,ay C mg mb K e.1 e.2:=
 jn.mpr ⟨a.more hk,h⟩
end
end
section
open PySem PySem.Calls PyProof.Rows PySem.W
mutual
inductive NR:V->Prop
 |none:NR .none
 |bool (b:Bool):NR (.bool b)
 |int (i:Int):NR (.int i)
 |str (s:List Nat):NR (.str s)
 |tup {l:List V}:NRs l->NR (.tup l)
 |lst {l:List V}:NRs l->NR (.lst l)
 |dct {l:List (List Int×V)}:iJ l->NR (.dct l)
inductive NRs:List V->Prop
 |nil:NRs []
 |cons {v:V} {l:List V}:NR v->NRs l->NRs (v::l)
inductive iJ:List (List Int×V)->Prop
 |nil:iJ []
 |cons {k:List Int} {v:V} {l:List (List Int×V)}:NR v->iJ l->iJ ((k,v)::l)
end
mutual
inductive FL:V->Prop
 |none:FL .none
 |bool (b:Bool):FL (.bool b)
 |int (i:Int):FL (.int i)
 |str (s:List Nat):FL (.str s)
 |tup {l:List V}:iw l->FL (.tup l)
inductive iw:List V->Prop
 |nil:iw []
 |cons {v:V} {l:List V}:FL v->iw l->iw (v::l)
end
section
variable {kh:List Int->Int} {φ a8:Nat->Option Addr} {M M':Addr->Prop} {h h':Heap}
theorem FL.vh(f:FL (.tup l)):iw l:=by cases f;assumption
theorem iw.cons_inv(f:iw (v::l)):FL v/\iw l:=by cases f;exact⟨‹_›,‹_›⟩
theorem NR.vh(f:NR (.tup l)):NRs l:=by cases f;assumption
theorem NR.lst_inv(f:NR (.lst l)):NRs l:=by cases f;assumption
theorem NR.IX(f:NR (.dct l)):iJ l:=by cases f;assumption
theorem NR.IB{n:Nat}{P:Prop}(f:NR (.ref n)):P:=nomatch f
theorem NRs.cons_inv(f:NRs (v::l)):NR v/\NRs l:=by cases f;exact⟨‹_›,‹_›⟩
theorem iJ.cons_inv(f:iJ ((k,v)::l)):NR v/\iJ l:=by cases f;exact⟨‹_›,‹_›⟩
theorem FL.nr(f:FL v):NR v:=FL.rec (motive_1:=fun v _=>NR v) (motive_2:=fun l _=>NRs l) .none .bool .int .str (fun _ h=>.tup h) .nil (fun _ _ a b=>.cons a b) f
theorem iw.nr(f:iw l):NRs l:=(NR.vh (FL.nr (.tup f)))
theorem fls_key(k:List Int):iw (k.map .int):=by
 induction k with
 |nil=>exact .nil
 |cons i r ih=>exact .cons (.int i) ih
theorem MG(hc:∀b vs n,h.get? b=some (d6 vs n)->¬ M b->h'.get? b=some (d6 vs n)/\¬ M' b):Go φ a8 M M' h h' FL iw (fun _=>False):=
 ⟨fun _ f=>f.vh,fun _ f=>(nomatch f),fun _ f=>(nomatch f),fun _ _ f=>f.cons_inv,fun _ _ _ f=>f.elim,fun _ _ f=>(nomatch f),fun _ b vs n _=>hc b vs n,fun _ _ _ _ f=>(nomatch f),fun _ _ _ _ f=>(nomatch f)⟩
theorem vr_fl(hc:∀b vs n,h.get? b=some (d6 vs n)->¬ M b->h'.get? b=some (d6 vs n)/\¬ M' b)(r:VR kh φ M h v x):FL v->VR kh a8 M' h' v x:=C9 (MG hc) r
theorem Ai(hc:∀b o,h.get? b=some o->¬ M b->h'.get? b=some o/\¬ M' b):Go φ a8 M M' h h' NR NRs iJ:=
 ⟨fun _ f=>f.vh,fun _ f=>f.lst_inv,fun _ f=>f.IX,fun _ _ f=>f.cons_inv,fun k _ _ f=>⟨.tup (fls_key k).nr,f.cons_inv⟩,fun _ _ f=>f.IB,fun _ b _ _ _=>hc b _,fun _ b _ _ _=>hc b _,fun _ b _ _ _=>hc b _⟩
theorem lK(hc:∀b o,h.get? b=some o->¬ M b->h'.get? b=some o/\¬ M' b)(r:VR kh φ M h v x):NR v->VR kh a8 M' h' v x:=C9 (Ai hc) r
theorem BS(hc:∀b o,h.get? b=some o->¬ M b->h'.get? b=some o/\¬ M' b)(r:bD kh φ M h l vs):NRs l->bD kh a8 M' h' l vs:=E3 (Ai hc) r
theorem Zq(hc:∀b o,h.get? b=some o->¬ M b->h'.get? b=some o/\¬ M' b)(r:d4 kh φ M h l es):iJ l->d4 kh a8 M' h' l es:=EW (Ai hc) r
end
theorem no_ref{k:Nat}{l:List V}:NRs l->V.ref k∈l->False:=by
 induction l with
 |nil=>exact fun _ m=>nomatch m
 |cons v l ih=>
  intro f m;rcases aH.mp m with e|m
  ·exact(show NR (.ref k)from e▸f.cons_inv.1).IB
  ·exact ih f.cons_inv.2 m
def frz(H:Hp):V->V
 |.ref n=>match look H.es n with
  |some e=>match e.obj with
   |.list l=>.lst l
   |.dict l=>.dct l
  |none=>.ref n
 |v=>v
theorem ua(h:NR v):frz H v=v:=by cases h <;> rfl
theorem TJ:NRs l->l.map (frz H)=l:=by
 induction l with
 |nil=>exact fun _=>rfl
 |cons v l ih=>exact fun h=>by rw[aO,ua h.cons_inv.1,ih h.cons_inv.2]
section
variable {C:Cf} {n:Nat}
theorem Dw:fe vs n≠d6 ws m:=fun h=>by
 have:("list" : String) = "tuple":=by injection h with h;injection h
 exact absurd this dq
theorem JX:cS vs n≠d6 ws m:=fun h=>by
 have:("dict" : String) = "tuple":=by injection h with h;injection h
 exact absurd this dq
noncomputable def Fz(φ:Ph)(args:List V)(a:Addr):Prop:=∃k,V.ref k∈args/\φ.f k=some a
set_option tactic.hygienic true in
theorem Qs(I:C.I φ H h)(r:C.R φ H h v x)(hM:∀b,oJ b->aT φ H b)(hr:∀k a,v = .ref k->φ.f k=some a->¬ oJ a)(nr:NR (frz H v)) :
  VR C.kh (fun _=>none) oJ h (frz H v) x:=by
 have hc:∀b o,h.get? b=some o->¬ aT φ H b->h.get? b=some o/\¬ oJ b:=fun b o e m=>⟨e,fun q=>m (hM b q)⟩;clear hM;cases r with
 |@ref k a hk=>
  unfold frz at nr ⊢;dsimp only at nr ⊢;split at nr
  ·rename_i e hl;exists ak (fN hl),me,xm;subst xm;exists b7 (I.objs e me),a',h1,h2,h3;rw[hk]at h1;exists h1;revert h3 nr;clear me;induction e.obj using Internal.bq.casesOn with
   |list l=>
    rintro nr ⟨vs,c,g,rs⟩;exact .lst g (hr _ _ rfl hk) (BS hc rs nr.lst_inv)
   |dict l=>
    rintro nr ⟨ds,c,g,rs,nd⟩;exact .dct g (zY I h2) (hr _ _ rfl hk) (Zq hc rs nr.IX) nd
  ·cases nr
 |none=>exact .none
 |bool b=>exact .bool b
 |int i t=>exact .int i t
 |str y t=>exact .str y t
 |tup e m r=>exact lK hc (.tup e m r) nr
 |lst e m r=>exact lK hc (.lst e m r) nr
 |dct e z m r d=>exact lK hc (.dct e z m r d) nr
theorem Jy(I:C.I φ H h)(hM:∀b,oJ b->aT φ H b):∀{xs:List Value},C.Rs φ H h l xs->(∀k a,V.ref k∈l->φ.f k=some a->¬ oJ a)->NRs (l.map (frz H))->bD C.kh (fun _=>none) oJ h (l.map (frz H)) xs:=by
 induction l with
 |nil=>intro xs r _ _;cases r;exact .nil
 |cons v l ih=>
  intro xs r hr f;cases r with
  |cons a r=>
  exact .cons (Qs I a hM (fun k b e q=>hr k b (e▸.head _) q) f.cons_inv.1) (ih r (fun k b m q=>hr k b (.tail _ m) q) f.cons_inv.2)
theorem B6(I:C.I φ H h)(P:Addr->Prop)(hP:∀a,P a->aT φ H a):C.I ⟨fun _=>none,P⟩ ⟨0,[]⟩ h where
 base:=I.base
 objs:=fun _ m=>by clear hP I;cases m
 nodup:=List.nodup_nil
 inj:=fun _ m=>by clear hP I;cases m
 lt:=fun _ m=>by clear hP I;cases m
 fresh:=fun _ _=>rfl
 cC:=fun a f=>by
  refine⟨?_,(fun _ m=>by clear f hP I;cases m),?_⟩
  ·rcases hP a f with⟨e,m,q⟩|f
   ·exists b7 (I.objs e m),a',h1,h2,h3;rw[q]at h1;exists h1;exact h2
   ·exact(I.cC a f).1
  ·rcases hP a f with⟨e,m,q⟩|f
   ·exists b7 (I.objs e m),a',h1,h2,h3;rw[q]at h1;exists h1;revert h3;clear h2 q m f hP I;cases e.obj with
    |list l=>rintro ⟨vs,c,g,_⟩;exact⟨_,g⟩
    |dict l=>rintro ⟨vs,c,g,_⟩;exact⟨_,g⟩
   ·exact(I.cC a f).2.2
 sys:=I.sys
set_option tactic.hygienic true in
theorem Ki(I:C.I φ H h)(nr:NRs (args.map (frz H)))(f:Fz φ args a):(∃vs n,h.get? a=some (fe vs n))\/(∃vs n,h.get? a=some (cS vs n)):=by
 exists ae f,k,m,hk
 try clear f
 induction args with
 |nil=>clear nr hk I;cases m
 |cons v l ih=>
  cases nr with
  |cons n1 n2=>
  rcases aH.mp m with rfl|m
  ·unfold frz at n1;dsimp only at n1;split at n1
   ·rename_i e hl;exists ak (fN hl),me,sV;clear n1 hl m n2 ih;subst sV;exists b7 (I.objs e me),a',h1,h2,h3;rw[hk]at h1;exists h1;revert h3;clear h2 hk me I;induction e.obj using Internal.bq.casesOn with
    |list l=>rintro ⟨vs,c,g,_⟩;exact .inl ⟨_,_,g⟩
    |dict l=>rintro ⟨vs,c,g,_⟩;exact .inr ⟨_,_,g⟩
   ·clear m n2 ih hk I;cases n1
  ·exact ih n2 m
open Classical in
def bM(c:CF):CF:=fun args H=>match c (args.map (frz H)) ⟨0,[]⟩with
 |some (v,_)=>if NRs (args.map (frz H))/\(FL v\/(args.map (frz H)=args/\NR v))then some (v,H)else none
 |none=>none
theorem dZ(e:c (args.map (frz H)) ⟨0,[]⟩=some (v,H'))(n1:NRs (args.map (frz H)))(n2:FL v):bM c args H=some (v,H):=by
 unfold bM;rw[e];exact if_pos ⟨n1,.inl n2⟩
theorem eV(e:c args ⟨0,[]⟩=some (v,H'))(n1:NRs args)(n2:NR v):bM c args H=some (v,H):=by
 unfold bM;rw[TJ n1,e];exact if_pos ⟨n1,.inr ⟨rfl,n2⟩⟩
set_option tactic.hygienic true in
theorem Vi(e:bM c args H=some (v,H₁)):H₁=H/\(∃H',c (args.map (frz H)) ⟨0,[]⟩=some (v,H'))/\NRs (args.map (frz H))/\(FL v\/(args.map (frz H)=args/\NR v)):=by
 unfold bM at e;split at e
 ·rename_i v' H' q;split at e
  ·rename_i z;injections e;exact⟨rfl,⟨H',q⟩,z.1,z.2⟩
  ·exact nq e
 ·exact nq e
theorem bZ(hc:C.fz n g a):C.fz n (bM g) a:=fun A φ H s args vals v H₁ Q E R I rs e P=>by
 obtain⟨rfl,⟨H',e⟩,nr,hv⟩:=Vi e;have I0:=B6 I (fun b=>aT φ H₁ b/\¬ Fz φ args b) fun _ m=>m.1;have mP:∀b,aT ⟨fun _=>none,fun b=>aT φ H₁ b/\¬ Fz φ args b⟩ ⟨0,[]⟩ b↔aT φ H₁ b/\¬ Fz φ args b:=fun b=>⟨fun m=>m.elim (fun⟨_,m,_⟩=>nomatch m) id,.inr⟩;refine hc A ⟨fun _=>none,fun b=>aT φ H₁ b/\¬ Fz φ args b⟩ ⟨0,[]⟩ s (args.map (frz H₁)) vals v H' Q E R I0 ?_ e ?_
 ·exact Jy I (fun b m=>((mP b).mp m).1) rs (fun k b m q z=>((mP b).mp z).2 ⟨k,m,q⟩) nr
 ·intro x a8 h' tk S I' r;have keep:∀b o,s.heap.get? b=some o->h'.get? b=some o:=fun b o e=>S.keep b o e fun⟨_,m,_⟩=>nomatch m
  exists ak (Cf.grow I keep),J,T;refine P x φ h' tk T J ?_;have big:∀b,aT φ H₁ b->¬ Fz φ args b->aT a8 H' b:=fun b m f=>.inr (S.du b ⟨m,f⟩);clear T J I' S mP I0 e P rs R hc;rcases hv with fl|⟨hz,hn⟩
  ·refine vr_fl (fun b vs c g m=>⟨g,fun q=>?_⟩) r fl;by_cases f:Fz φ args b
   ·clear q m fl big r;rcases Ki I nr f with⟨ws,d,g'⟩|⟨ws,d,g'⟩
    ·have:=keep _ _ g';rw[g]at this;exact Dw (aI this).symm
    ·have:=keep _ _ g';rw[g]at this;exact JX (aI this).symm
   ·exact m (big b q f)
  ·refine lK (fun b o g m=>⟨g,fun q=>m (big b q ?_)⟩) r hn;rintro ⟨k,mk,_⟩;rw[hz]at nr;exact no_ref nr mk
end
end
section
open PySem PySem.Calls PyProof.Rows PySem.W
section
variable {C:Cf} {n:Nat} {φ:Ph} {H:Hp} {h h':Heap}
inductive FLe:List (List Int×V)->Prop
 |nil:FLe []
 |cons {k:List Int} {v:V} {l:List (List Int×V)}:FL v->FLe l->FLe ((k,v)::l)
theorem FLe.cons_inv(f:FLe ((k,v)::l)):FL v/\FLe l:=by cases f;exact⟨‹_›,‹_›⟩
theorem HL{kh:List Int->Int}{φ a8:Nat->Option Addr}{M M':Addr->Prop}(hc:∀b vs n,h.get? b=some (d6 vs n)->¬ M b->h'.get? b=some (d6 vs n)/\¬ M' b){l:List (List Int×V)}:∀{es:List DictEntry},d4 kh φ M h l es->FLe l->d4 kh a8 M' h' l es:=by
 induction l with
 |nil=>intro es r _;clear hc;cases r;exact .nil
 |cons e l ih=>
  intro es r f;cases r with
  |cons e1 e2 k v r=>exact .cons e1 e2 (vr_fl hc k (.tup (fls_key _))) (vr_fl hc v f.cons_inv.1) (ih r f.cons_inv.2)
def dictAt(v:V)(H:Hp):Option (List (List Int×V)):=match v with
 |.ref k=>match look H.es k with
  |some e=>match e.obj with
   |.dict l=>some l
   |.list _=>none
  |none=>none
 |_=>none
set_option tactic.hygienic true in
theorem Io(e:dictAt v H=some l):∃k e,v = .ref k/\e∈H.es/\e.id=k/\e.obj = .dict l:=by
 unfold dictAt at e;split at e
 ·rename_i k;exists ml e,en,hl,e
  ·exists ak (fN hl),m,q;split at e
   ·rename_i l' ho
    (clear hl;exists e)
    exact⟨k,en,rfl,m,q,ho⟩
   ·exact nq e
 ·exact nq e
open Classical in
def mw(c:CF):CF:=fun args H=>match c (args.map (frz H)) ⟨0,[]⟩with
 |some (v,H')=>match dictAt v H' with
  |some l=>if NRs (args.map (frz H))/\FLe l then some (newObj H (.dict l))else none
  |none=>none
 |none=>none
theorem FN(e:c (args.map (frz H)) ⟨0,[]⟩=some (v,H'))(e2:dictAt v H'=some l)(n1:NRs (args.map (frz H)))(n2:FLe l):mw c args H=some (newObj H (.dict l)):=by
 unfold mw;rw[e];dsimp only;rw[e2];exact if_pos ⟨n1,n2⟩
set_option tactic.hygienic true in
theorem TK(e:mw c args H=some (v,H₁)):∃w H' l,c (args.map (frz H)) ⟨0,[]⟩=some (w,H')/\dictAt w H'=some l/\NRs (args.map (frz H))/\FLe l/\newObj H (.dict l)=(v,H₁):=by
 unfold mw at e;split at e
 ·rename_i w H' q;exists xl e,l,q2,e
  ·split at e
   ·rename_i z;exact⟨w,H',l,q,q2,z.1,z.2,aI e⟩
   ·exact nq e
 ·exact nq e
theorem EF{g:CF}{a:Addr}(hc:C.fz n g a):C.fz n (mw g) a:=fun A φ H s args vals v H₁ Q E R I rs e P=>by
 exists jV (TK e),w,H',l,e,e2,nr,fl,e3;have I0:=B6 I (fun b=>aT φ H b/\¬ Fz φ args b) fun _ m=>m.1;have mP:∀b,aT ⟨fun _=>none,fun b=>aT φ H b/\¬ Fz φ args b⟩ ⟨0,[]⟩ b↔aT φ H b/\¬ Fz φ args b:=fun b=>⟨fun m=>m.elim (fun⟨_,m,_⟩=>nomatch m) id,.inr⟩;refine hc A ⟨fun _=>none,fun b=>aT φ H b/\¬ Fz φ args b⟩ ⟨0,[]⟩ s (args.map (frz H)) vals w H' Q E R I0 ?_ e ?_
 ·exact Jy I (fun b m=>((mP b).mp m).1) rs (fun k b m q z=>((mP b).mp z).2 ⟨k,m,q⟩) nr
 ·intro x a8 h' tk S I' r;have keep:∀b o,s.heap.get? b=some o->h'.get? b=some o:=fun b o e=>S.keep b o e fun⟨_,m,_⟩=>nomatch m
  exists jQ (Io e2),k,en,tq,m,Wj,ho;clear mP I0 e2 e rs R hc;clear e;subst tq;subst Wj;cases r with
  |@ref _ D hD=>
  exists b7 (I'.objs en m),a',h1,h2,h3;rw[hD]at h1;exists h1;rw[ho]at h3;exists cx h3,es,c,gD,er,nd
  try clear h3
  have nX:s.heap.get? D=none:=by
   rcases S.new en m with⟨e',m',_⟩|q
   ·clear hD m S;cases m'
   ·exact q D hD
  have oC:aT a8 H' D:=.inl ⟨en,m,hD⟩;have big:∀b,aT φ H b->¬ Fz φ args b->aT a8 H' b:=fun b m f=>.inr (S.du b ⟨m,f⟩);have hr:OR C.kh (ed φ H.nxt D).f (aT (ed φ H.nxt D) (newObj H (.dict l)).2) h' (.dict l) D:=by
   refine⟨es,c,gD,HL (fun b vs d g mb=>⟨g,fun q=>?_⟩) er fl,nd⟩;have hb:b=D\/aT φ H b:=by
    rcases q with⟨e',m',q⟩|q
    ·rcases aH.mp m' with rfl|m'
     ·left;unfold ed at q;dsimp only at q;rw[if_pos rfl]at q;exact(aI q).symm
     ·right;unfold ed at q;dsimp only at q;rw[if_neg (eR (I.lt e' m'))]at q;exact .inl ⟨e',m',q⟩
    ·exact .inr (.inr q)
   rcases hb with rfl|hb
   ·exact mb oC
   ·by_cases f:Fz φ args b
    ·clear hb mb big oC;rcases Ki I nr f with⟨ws,d,g'⟩|⟨ws,d,g'⟩
     ·have:=keep _ _ g';rw[g]at this;exact Dw (aI this).symm
     ·have:=keep _ _ g';rw[g]at this;exact JX (aI this).symm
    ·exact mb (big b hb f)
  exists dK (Cf.JA I keep nX h2 hr),J,T,r;have q1:v=(newObj H (.dict l)).1:=by rw[e3]
  have q2:H₁=(newObj H (.dict l)).2:=by rw[e3]
  subst q1 q2;exact P _ _ h' tk T J r
noncomputable def refOf(v:V):Option Nat:=match v with
 |.ref n=>some n
 |_=>none
theorem Ff(h:refOf v=some n):v = .ref n:=by
 induction v using Internal.V.casesOn with
 |ref k=>exact congrArg _ (aI h)
 |_=>exact nq h
def El(l:List V):Option (V×Nat×V):=match l with
 |[]=>none
 |x::r=>match r with
  |[]=>none
  |y::r=>match r with
   |[]=>none
   |z::r=>match r with
    |[]=>oo (refOf y) fun n=>some (x,n,z)
    |_::_=>none
theorem U1(e:El args=some (x,k,o)):args=[x,.ref k,o]:=by
 induction args using aN with
 |nil=>exact nq e
 |cons a r=>induction r using aN with
  |nil=>exact nq e
  |cons b r=>induction r using aN with
   |nil=>exact nq e
   |cons c r=>induction r using aN with
    |cons=>exact nq e
    |nil=>
     exists ae (aQ e),n,h,e;rw[Ff h];exact jC e fun a b c=>by rw[a,b,c]
def lj(H:Hp)(k:Nat):Option (List V):=match look H.es k with
 |some e=>match e.obj with
  |.list l=>some l
  |.dict _=>none
 |none=>none
set_option tactic.hygienic true in
theorem TV(e:lj H k=some l):∃e∈H.es,e.id=k/\e.obj = .list l:=by
 exists ml e,en,hl,e
 ·exists ak (fN hl),m,q;split at e
  ·rename_i l' ho
   (clear hl;exists e)
   exact⟨en,m,q,ho⟩
  ·exact nq e
noncomputable def F0(D:Addr):Nat->Option Addr
 |0=>some D
 |_+1=>none
open Classical in
def nK(c:CF):CF:=fun args H=>match El args with
 |some (x,k,o)=>match lj H k with
  |some l=>match c [x,.ref 0,o] ⟨1,[⟨0,true,.list l⟩]⟩with
   |some (v,_)=>if NR x/\NR o/\NRs l/\NR v then some (v,H)else none
   |none=>none
  |none=>none
 |none=>bM c args H
open Classical in
theorem Hi(hl:lj H k=some l)(e:c [x,.ref 0,o] ⟨1,[⟨0,true,.list l⟩]⟩=some (v,H'))(n1:NR x)(n2:NR o)(n3:NRs l)(n4:NR v):nK c [x,.ref k,o] H=some (v,H):=by
 show(match lj H k with
  |some l=>match c [x,.ref 0,o] ⟨1,[⟨0,true,.list l⟩]⟩with
   |some (v,_)=>if NR x/\NR o/\NRs l/\NR v then some (v,H)else none
   |none=>none
  |none=>none)=_
 rw[hl];dsimp only;rw[e];exact if_pos ⟨n1,n2,n3,n4⟩
set_option tactic.hygienic true in
theorem Lm(e:nK c args H=some (v,H₁)):(bM c args H=some (v,H₁))\/∃x k o l H',args=[x,.ref k,o]/\lj H k=some l/\c [x,.ref 0,o] ⟨1,[⟨0,true,.list l⟩]⟩=some (v,H')/\NR x/\NR o/\NRs l/\NR v/\H₁=H:=by
 unfold nK at e;split at e
 ·rename_i x k o q;exists fY e,l,q2,e
  ·split at e
   ·rename_i w H' q3;split at e
    ·rename_i z;injections e;exact .inr ⟨x,k,o,l,H',U1 q,q2,q3,z.1,z.2.1,z.2.2.1,z.2.2.2,rfl⟩
    ·exact nq e
   ·exact nq e
 ·exact .inl e
def pF(φ:Ph)(H:Hp)(D:Addr):Ph:=⟨F0 D,fun b=>aT φ H b/\b≠D⟩
noncomputable def nH(o:bq):Hp:=⟨1,[⟨0,true,o⟩]⟩
theorem lY(m:e∈(nH o).es):e=⟨0,true,o⟩:=c9.mp m
theorem Dm(hD:aT φ H D):aT (pF φ H D) (nH o) b↔aT φ H b:=by
 constructor
 ·intro z;rcases z with z|z
  ·exists ae z,e,m,q;rw[lY m]at q;exact aI (show some D=some b from q)▸hD
  ·exact z.1
 ·intro m;by_cases hb:b=D
  ·exact .inl ⟨_,.head _,by rw[hb];rfl⟩
  ·exact .inr ⟨m,hb⟩
theorem K1(I:C.I φ H h)(hb:C.h₀.get? D=none)(r:OR C.kh (F0 D) (aT (pF φ H D) (nH o)) h o D):C.I (pF φ H D) (nH o) h:=by
 have J0:=B6 I (fun b=>aT φ H b/\b≠D) fun _ m=>m.1;refine⟨I.base,fun e m=>?_,eu.mpr ⟨(fun m=>nomatch m),List.nodup_nil⟩,fun e m e' m' _=>congrArg (fun e:Ent=>e.id) ((lY m).trans (lY m').symm),fun e m=>?_,fun i hi=>?_,fun b f=>?_,I.sys⟩
 ·rw[lY m];exact⟨D,rfl,hb,r⟩
 ·rw[lY m];exact Nat.zero_lt_one
 ·have hi:1<=i:=hi
  induction i using bL with
  |zero=>exact absurd hi dq
  |succ i=>rfl
 ·refine dK (J0.cC b f) fun p _ q=>⟨p,fun e m z=>?_,q⟩;rw[lY m]at z;exact f.2 (aI (show some D=some b from z)).symm
theorem Jc(h1:φ.f k=some D)(r:C.R φ H h (.ref k) x):x = .ref D:=by
 cases r with
 |ref hD'=>exact congrArg _ (aI (hD'.symm.trans h1))
theorem Eo{s:Shared}{D:Addr}{o:bq}{a8:Ph}{H':Hp}{h':Heap}(S:St (pF φ H D) (nH o) s.heap a8 H' h'):(∀b o,s.heap.get? b=some o->h'.get? b=some o)/\∀b,aT φ H b->aT a8 H' b:=by
 refine⟨fun b o' e=>S.keep b o' e fun z=>?_,fun b q=>?_⟩
 ·exists b7 z,e',m,lk,Z0;rw[lY m]at lk;exact bt lk
 ·by_cases hb:b=D
  ·exists dX (S.ids _ (.head _)),e',m',i',Z0,Z0;have i':e'.id=0:=i';exact .inl ⟨e',m',by rw[i',hb];exact S.ext _ _ rfl⟩
  ·exact .inr (S.du b ⟨q,hb⟩)
theorem Oi(hc:C.fz n g a):C.fz n (nK g) a:=fun A φ H s args vals v H₁ Q E R I rs e P=>by
 rcases Lm e with e|⟨x,k,o,l,H',rfl,hl,ec,n1,n2,n3,n4,rfl⟩
 ·exact bZ hc A φ H s args vals v H₁ Q E R I rs e P
 clear e;exists b7 (TV hl),en,me,z,ho;subst z;exists b7 (I.objs en me),D,h1,h2,h3;rw[ho]at h3;have y8:aT φ H₁ D:=.inl ⟨en,me,h1⟩;have kS:∀b o,s.heap.get? b=some o->¬ aT φ H₁ b->s.heap.get? b=some o/\¬ aT (pF φ H₁ D) (nH (.list l)) b:=fun b o e m=>⟨e,fun q=>m ((Dm y8).mp q)⟩;have I0:=K1 I h2 (o:=.list l) (aU h3 fun ws cn gD m6=>⟨ws,cn,gD,BS kS m6 n3⟩);clear hl h3 ho h2 me;refine hc A _ _ s [x,.ref 0,o] vals v H' Q E R I0 ?_ ec fun y a8 h' tk S I' r=>?_
 ·cases rs with
  |cons r1 rs=>
  cases rs with
  |cons r2 rs=>
  cases rs with
  |cons r3 rs=>
  cases rs;rw[Jc h1 r2];exact .cons (lK kS r1 n1) (.cons (.ref rfl) (.cons (lK kS r3 n2) .nil))
 ·exists ak (Eo S),keep,back;exists ak (Cf.grow I keep),J,T;exact P y φ h' tk T J (lK (fun b o g m=>⟨g,fun q=>m (back b q)⟩) r n4)
def Ee(l:List V):Option (Nat×List V):=match l with
 |[]=>none
 |x::r=>oo (refOf x) fun n=>some (n,r)
theorem ZH(e:Ee args=some (k,r)):args = .ref k::r:=by
 induction args using aN with
 |nil=>exact nq e
 |cons a l=>
  exists ae (aQ e),n,h,e;rw[Ff h];exact sp2 e fun a b=>by rw[a,b]
open Classical in
def pU(c:CF):CF:=fun args H=>match Ee args with
 |some (k,r)=>match dictAt (.ref k) H with
  |some l=>match c (.ref 0::r) ⟨1,[⟨0,true,.dict l⟩]⟩with
   |some (v,_)=>if NRs r/\FLe l/\NR v then some (v,H)else none
   |none=>none
  |none=>none
 |none=>nK c args H
open Classical in
theorem Jf(hl:dictAt (.ref k) H=some l)(e:c (.ref 0::r) ⟨1,[⟨0,true,.dict l⟩]⟩=some (v,H'))(n1:NRs r)(n3:FLe l)(n4:NR v):pU c (.ref k::r) H=some (v,H):=by
 show(match dictAt (.ref k) H with
  |some l=>match c (.ref 0::r) ⟨1,[⟨0,true,.dict l⟩]⟩with
   |some (v,_)=>if NRs r/\FLe l/\NR v then some (v,H)else none
   |none=>none
  |none=>none)=_
 rw[hl];dsimp only;rw[e];exact if_pos ⟨n1,n3,n4⟩
set_option tactic.hygienic true in
theorem SK(e:pU c args H=some (v,H₁)):(nK c args H=some (v,H₁))\/∃k r l H',args = .ref k::r/\dictAt (.ref k) H=some l/\c (.ref 0::r) ⟨1,[⟨0,true,.dict l⟩]⟩=some (v,H')/\NRs r/\FLe l/\NR v/\H₁=H:=by
 unfold pU at e;split at e
 ·rename_i k r q;exists xl e,l,q2,e
  ·split at e
   ·rename_i w H' q3;split at e
    ·rename_i z;injections e;exact .inr ⟨k,r,l,H',ZH q,q2,q3,z.1,z.2.1,z.2.2,rfl⟩
    ·exact nq e
   ·exact nq e
 ·exact .inl e
theorem DX(hc:C.fz n g a):C.fz n (pU g) a:=fun A φ H s args vals v H₁ Q E R I rs e P=>by
 rcases SK e with e|⟨k,r,l,H',rfl,hl,ec,n1,n3,n4,rfl⟩
 ·exact Oi hc A φ H s args vals v H₁ Q E R I rs e P
 clear e;exists jQ (Io hl),k',en,hk,me,z,ho;subst z;cases hk;exists b7 (I.objs en me),D,h1,h2,h3;rw[ho]at h3;have y8:aT φ H₁ D:=.inl ⟨en,me,h1⟩;have kS:∀b o,s.heap.get? b=some o->¬ aT φ H₁ b->s.heap.get? b=some o/\¬ aT (pF φ H₁ D) (nH (.dict l)) b:=fun b o e m=>⟨e,fun q=>m ((Dm y8).mp q)⟩;have I0:=K1 I h2 (o:=.dict l) (cx h3 fun ws cn gD m6 nd=>⟨ws,cn,gD,HL (fun b vs d g m=>kS b _ g m) m6 n3,nd⟩);clear hl h3 ho h2 me;refine hc A _ _ s (.ref 0::r) vals v H' Q E R I0 ?_ ec fun y a8 h' tk S I' r=>?_
 ·cases rs with
  |cons r1 rs=>
  rw[Jc h1 r1];exact .cons (.ref rfl) (BS kS rs n1)
 ·exists ak (Eo S),keep,back;exists ak (Cf.grow I keep),J,T;exact P y φ h' tk T J (lK (fun b o g m=>⟨g,fun q=>m (back b q)⟩) r n4)
end
end
section
open PySem PySem.Calls PyProof.Rows PySem.W
noncomputable def DB:List MS:=[(.if_ (.cmp .Eq (.var 0) (.const (.str [108,101,120]))) [(.ret (.var 1))] []),(.if_ (.cmp .Eq (.var 0) (.const (.str [103,114,108,101,120]))) [(.ret (.bin .Add (.tup [(.bi .sum [(.var 1)])]) (.var 1)))] []),(.if_ (.cmp .Eq (.var 0) (.const (.str [103,114,101,118,108,101,120]))) [(.ret (.bin .Add (.tup [(.bi .sum [(.var 1)])]) (.bi .tuple [(.lcomp [2,3] (.neg (.var 3)) [([3],false,.seq,[(.rev (.var 1))],[])])])))] []),.stuck]
def Bu:CF:=bA 2 14 DB false
def kB:CF:=bM Bu
noncomputable def O2:List MS:=[(.ret (.bi .tuple [(.lcomp [2,3,4] (.bin .Add (.var 4) (.sub (.var 1) (.var 3))) [([3,4],true,.enum,[(.var 0)],[])])]))]
def MD:CF:=bA 2 14 O2 false
def wN:CF:=bM MD
noncomputable def DF:List MS:=[(.for_ [2,3] true .enum [(.var 0)] [(.if_ (.cmp .Gt (.var 3) (.sub (.var 1) (.var 2))) [(.ret (.const (.bool false)))] [])]),(.ret (.const (.bool true)))]
def yY:CF:=bA 2 16 DF false
def oO:CF:=bM yY
noncomputable def SW:List MS:=[(.ret (.bi .tuple [(.lcomp [2,3,4] (.bin .Sub (.var 4) (.sub (.var 1) (.var 3))) [([3,4],true,.enum,[(.var 0)],[])])]))]
def HR:CF:=bA 2 14 SW false
def nR:CF:=bM HR
noncomputable def Ma:List MS:=[(.ret (.bi .tuple [(.lcomp [2,3,4] (.bi .max2 [(.var 4),(.sub (.var 1) (.var 3))]) [([3,4],true,.enum,[(.var 0)],[])])]))]
def Dl:CF:=bA 2 14 Ma false
def sS:CF:=bM Dl
noncomputable def Qq:List MS:=[(.ret (.bi .tuple [(.lcomp [2,3,4] (.bi .min2 [(.var 4),(.sub (.var 1) (.var 3))]) [([3,4],true,.enum,[(.var 0)],[])])]))]
def DC:CF:=bA 2 14 Qq false
def zg:CF:=bM DC
def JJ:List MS:=[(.ret (.cmp .Eq (.bi .sum [(.call zg [(.var 0),(.var 1)])]) (.const (.int 0))))]
def Cw:CF:=bA 2 14 JJ false
def yJ:CF:=bM Cw
noncomputable def IE:List MS:=[(.unpack [0,1] (.tup [(.bi .abs [(.var 0)]),(.bi .abs [(.var 1)])])),(.while_ (.cmp .NotEq (.var 1) (.const (.int 0))) [(.unpack [0,1] (.tup [(.var 1),(.bin .Mod (.var 0) (.var 1))]))]),(.ret (.var 0))]
def zI:CF:=bA 2 14 IE false
def tG:CF:=bM zI
noncomputable def ZV:List MS:=[(.assign 1 (.const (.int 0))),(.for_ [2] false .seq [(.tup [(.const (.int 4096)),(.const (.int 64)),(.const (.int 1))])] [(.assign 3 (.bin .Pow (.const (.int 2)) (.var 2))),(.while_ (.cmp .GtE (.var 0) (.var 3)) [(.unpack [0,1] (.tup [(.bin .FloorDiv (.var 0) (.var 3)),(.bin .Add (.var 1) (.var 2))]))])]),(.ret (.bin .Add (.var 1) (.var 0)))]
def O9:CF:=bA 1 16 ZV false
def GO:CF:=bM O9
def EK:List MS:=[(.if_ (.cmp .Eq (.var 1) (.const (.int 0))) [.stuck] []),(.assign 2 (.ite (.cmp .Gt (.var 1) (.const (.int 0))) (.call tG [(.var 0),(.var 1)]) (.bin .Sub (.const (.int 0)) (.call tG [(.var 0),(.var 1)])))),(.ret (.tup [(.bin .FloorDiv (.var 0) (.var 2)),(.bin .FloorDiv (.var 1) (.var 2))]))]
def Cn:CF:=bA 2 15 EK false
def pW:CF:=bM Cn
def Jw:List MS:=[(.ret (.call pW [(.bin .Add (.bin .Mult (.sub (.var 0) (.const (.int 0))) (.sub (.var 1) (.const (.int 1)))) (.bin .Mult (.sub (.var 1) (.const (.int 0))) (.sub (.var 0) (.const (.int 1))))),(.bin .Mult (.sub (.var 0) (.const (.int 1))) (.sub (.var 1) (.const (.int 1))))]))]
def yd:CF:=bA 2 14 Jw false
def ig:CF:=bM yd
def IP:List MS:=[(.ret (.call pW [(.bin .Mult (.sub (.var 0) (.const (.int 0))) (.sub (.var 1) (.const (.int 0)))),(.bin .Mult (.sub (.var 0) (.const (.int 1))) (.sub (.var 1) (.const (.int 1))))]))]
def wy:CF:=bA 2 14 IP false
def jd:CF:=bM wy
def Gi:List MS:=[(.ret (.call pW [(.bin .Mult (.sub (.var 0) (.const (.int 0))) (.sub (.var 1) (.const (.int 1)))),(.bin .Mult (.sub (.var 0) (.const (.int 1))) (.sub (.var 1) (.const (.int 0))))]))]
def zc:CF:=bA 2 14 Gi false
def oY:CF:=bM zc
noncomputable def DW:List MS:=[(.ret (.tup [(.bin .Sub (.const (.int 0)) (.sub (.var 0) (.const (.int 0)))),(.sub (.var 0) (.const (.int 1)))]))]
def xh:CF:=bA 1 13 DW false
def oZ:CF:=bM xh
def Ie:List MS:=[(.ret (.call pW [(.sub (.var 0) (.const (.int 1))),(.sub (.var 0) (.const (.int 0)))]))]
def zT:CF:=bA 1 13 Ie false
def qt:CF:=bM zT
def Gb:List MS:=[(.assign 1 (.bi .max2 [(.bi .abs [(.sub (.var 0) (.const (.int 0)))]),(.sub (.var 0) (.const (.int 1)))])),(.ret (.lz [(.cmp .GtE (.var 1) (.bin .Pow (.const (.int 2)) (.const (.int 64)))),(.cmp .Gt (.call GO [(.var 1)]) (.const (.int 200000)))]))]
def wt:CF:=bA 1 14 Gb false
def qC:CF:=bM wt
def GA:List MS:=[(.assign 3 (.ite (.cmp .In (.var 1) (.var 0)) (.call ig [(.sub (.var 0) (.var 1)),(.var 2)]) (.var 2))),(.if_ (.cmp .Eq (.var 3) (.const (.tup [(.int 0),(.int 1)]))) [(.expr (.cP .dpopN (.var 0) [(.var 1),(.const .none)]))] [(.store (.var 0) (.var 1) (.var 3))])]
def Ir:CF:=bA 3 16 GA false
def mK:CF:=Ir
def HM:List MS:=[(.assign 2 (.bi .dict [(.var 0)])),(.for_ [3] false .seq [(.var 1)] [(.expr (.call mK [(.var 2),(.var 3),(.sub (.var 1) (.var 3))]))]),(.ret (.var 2))]
def yG:CF:=bA 2 16 HM true
def Bh:CF:=mw yG
def HP:List MS:=[(.ret (.dcomp [1,2] (.var 2) (.call oZ [(.sub (.var 0) (.var 2))]) [([2],false,.seq,[(.var 0)],[])]))]
def Ej:CF:=bA 1 13 HP false
def AR:CF:=bM Ej
def ID:List MS:=[(.ret (.call Bh [(.var 0),(.call AR [(.var 1)])]))]
def xt:CF:=bA 2 14 ID true
def rh:CF:=mw xt
def J8:List MS:=[(.if_ (.cmp .Eq (.var 1) (.const (.tup [(.int 0),(.int 1)]))) [(.ret .ji)] []),(.ret (.dcomp [2,3] (.var 3) (.call jd [(.sub (.var 0) (.var 3)),(.var 1)]) [([3],false,.seq,[(.var 0)],[])]))]
def DY:CF:=bA 2 14 J8 false
def AU:CF:=bM DY
def IF:List MS:=[(.if_ (.cmp .Eq (.var 2) (.const (.tup [(.int 0),(.int 1)]))) [(.ret .ji)] []),(.ret (.dcomp [3,4] (.call wN [(.var 4),(.var 1)]) (.call jd [(.sub (.var 0) (.var 4)),(.var 2)]) [([4],false,.seq,[(.var 0)],[])]))]
def Fc:CF:=bA 3 15 IF false
def om:CF:=bM Fc
def D5:List MS:=[(.unpack [2,3] (.tup [(.const .none),(.const .none)])),(.for_ [4] false .seq [(.var 0)] [(.assign 5 (.call kB [(.var 1),(.var 4)])),(.if_ (.eT [(.cmp .Is (.var 2) (.const .none)),(.cmp .Gt (.var 5) (.var 3))]) [(.unpack [2,3] (.tup [(.var 4),(.var 5)]))] [])]),(.ret (.ite (.cmp .Is (.var 2) (.const .none)) (.const .none) (.tup [(.var 2),(.sub (.var 0) (.var 2))])))]
def Bl:CF:=bA 2 18 D5 false
def cW:CF:=bM Bl
def IQ:List MS:=[(.assign 2 (.call cW [(.var 0),(.var 1)])),(.ret (.ite (.cmp .Is (.var 2) (.const .none)) .ji (.call AU [(.var 0),(.call qt [(.sub (.var 2) (.const (.int 1)))])])))]
def xF:CF:=bA 2 15 IQ false
def jg:CF:=bM xF
def IW:List MS:=[(.for_ [2,3] true .enum [(.var 1)] [(.if_ (.lz [(.cmp .IsNot (.var 3) (.const .none)),(.call oO [(.sub (.var 3) (.const (.int 0))),(.var 0)])]) [(.ret (.var 2))] [])]),(.ret (.neg (.const (.int 1))))]
def xA:CF:=bA 2 16 IW false
def ou:CF:=bM xA
def GY:List MS:=[(.assign 3 (.lcomp [14,15] (.call cW [(.var 15),(.var 2)]) [([15],false,.seq,[(.var 1)],[])])),(.assign 4 (.lcomp [14,15] .ji [([15],false,.seq,[(.var 1)],[])])),(.unpack [5,6,7] (.tup [.ji,(.bi .dict [(.var 0)]),(.const (.int 0))])),(.assign 9 (.bi .maxl [(.bin .Add (.list [(.const (.int 20000))]) (.lcomp [14,15,16] (.var 16) [([15],false,.seq,[(.var 0)],[]),([16],false,.seq,[(.var 15)],[])]))])),(.while_ (.cmp .Gt (.bi .len [(.var 6)]) (.const (.int 0))) [(.unpack [8,10] (.call cW [(.var 6),(.var 2)])),(.aug 7 .Add (.bi .len [(.var 6)])),(.if_ (.eT [(.cmp .Gt (.var 7) (.const (.int 3000000))),(.call qC [(.var 10)]),(.bi .any [(.lcomp [14,15] (.cmp .Gt (.var 15) (.var 9)) [([15],false,.seq,[(.var 8)],[])])])]) [.stuck] []),(.assign 11 (.call ou [(.var 8),(.var 3)])),(.if_ (.cmp .Lt (.var 11) (.const (.int 0))) [(.store (.var 5) (.var 8) (.var 10)),(.expr (.cP .dpop1 (.var 6) [(.var 8)])),.cont] []),(.unpack [12,13] (.tup [(.call nR [(.var 8),(.sub (.sub (.var 3) (.var 11)) (.const (.int 0)))]),(.call oY [(.var 10),(.sub (.sub (.var 3) (.var 11)) (.const (.int 1)))])])),(.expr (.call mK [(.sub (.var 4) (.var 11)),(.var 12),(.var 13)])),(.assign 6 (.call rh [(.var 6),(.call om [(.sub (.var 1) (.var 11)),(.var 12),(.var 13)])]))]),(.ret (.tup [(.var 4),(.var 5)]))]
def xJ:CF:=bA 3 26 GY false
def vZ:CF:=pU xJ
def A3:List MS:=[(.ret (.sub (.call vZ [(.var 0),(.var 1),(.var 2)]) (.const (.int 1))))]
def zt:CF:=bA 3 15 A3 false
def jW:CF:=pU zt
def JS:List MS:=[(.unpack [3,4] (.tup [(.call cW [(.var 0),(.var 2)]),(.call cW [(.var 1),(.var 2)])])),(.assign 5 (.call sS [(.sub (.var 3) (.const (.int 0))),(.sub (.var 4) (.const (.int 0)))])),(.assign 6 (.call om [(.var 0),(.call nR [(.var 5),(.sub (.var 3) (.const (.int 0)))]),(.call qt [(.sub (.var 3) (.const (.int 1)))])])),(.ret (.call rh [(.var 6),(.call om [(.var 1),(.call nR [(.var 5),(.sub (.var 4) (.const (.int 0)))]),(.call qt [(.sub (.var 4) (.const (.int 1)))])])]))]
def J7:CF:=bA 3 19 JS false
def uY:CF:=bM J7
def JF:List MS:=[(.ret (.cmp .GtE (.call ou [(.var 0),(.lcomp [2,3] (.tup [(.var 3),(.const (.tup [(.int 1),(.int 1)]))]) [([3],false,.seq,[(.var 1)],[])])]) (.const (.int 0))))]
def C8:CF:=bA 2 14 JF false
def pP:CF:=bM C8
def Gf:List MS:=[(.assign 3 (.lcomp [9,10] (.sub (.call cW [(.var 10),(.var 1)]) (.const (.int 0))) [([10],false,.seq,[(.var 0)],[])])),(.unpack [4,5,6] (.tup [(.list []),(.list [(.bin .Mult (.tup [(.const (.int 0))]) (.var 2))]),.ji])),(.while_ (.cmp .Gt (.bi .len [(.var 5)]) (.const (.int 0))) [(.assign 7 (.cP .jZ (.var 5) [])),(.if_ (.eT [(.cmp .In (.var 7) (.var 6)),(.call pP [(.var 7),(.var 3)])]) [.cont] []),(.store (.var 6) (.var 7) (.const (.bool true))),(.expr (.cP .append (.var 4) [(.var 7)])),(.for_ [8] false .range1 [(.var 2)] [(.expr (.cP .append (.var 5) [(.bin .Add (.bin .Add (.slice true (.var 7) (.var 8)) (.tup [(.bin .Add (.sub (.var 7) (.var 8)) (.const (.int 1)))])) (.slice false (.var 7) (.bin .Add (.var 8) (.const (.int 1)))))]))])]),(.ret (.bi .sorted [(.var 4)]))]
def xr:CF:=bA 3 21 Gf false
def u7:CF:=bM xr
noncomputable def An:List MS:=[(.ret (.tup [(.bi .len [(.var 0)]),(.ite (.cmp .Gt (.bi .len [(.var 0)]) (.const (.int 0))) (.bi .len [(.sub (.var 0) (.const (.int 0)))]) (.const (.int 0)))]))]
def yv:CF:=bA 1 13 An false
def j0:CF:=yv
noncomputable def Z1:List MS:=[(.if_ (.lE (.var 0)) [.stuck] [])]
def TB:CF:=bA 2 14 Z1 false
def pV:CF:=bM TB
noncomputable def Mb:List MS:=[(.ret (.lcomp [1,2] (.lcomp [3,4] (.ite (.cmp .Eq (.var 2) (.var 4)) (.const (.tup [(.int 1),(.int 1)])) (.const (.tup [(.int 0),(.int 1)]))) [([4],false,.range1,[(.var 0)],[])]) [([2],false,.range1,[(.var 0)],[])]))]
def CL:CF:=bA 1 13 Mb false
def ta:CF:=bM CL
def N9:List MS:=[(.ret (.lcomp [1,2] (.lcomp [3,4] (.sub (.var 4) (.var 2)) [([4],false,.seq,[(.var 0)],[])]) [([2],false,.range1,[(.sub (.call j0 [(.var 0)]) (.const (.int 1)))],[])]))]
def Cb:CF:=bA 1 13 N9 false
def tL:CF:=bM Cb
def Jk:List MS:=[(.assign 2 (.const (.tup [(.int 0),(.int 1)]))),(.for_ [3,4] true .enum [(.var 0)] [(.assign 2 (.call ig [(.var 2),(.call jd [(.var 4),(.sub (.var 1) (.var 3))])]))]),(.ret (.var 2))]
def BY:CF:=bA 2 17 Jk false
def nZ:CF:=bM BY
def JB:List MS:=[(.expr (.call pV [(.cmp .Eq (.call j0 [(.var 0)]) (.call j0 [(.var 1)])),(.const (.str [97,32,115,117,109,32,111,102,32,117,110,108,105,107,101,32,115,104,97,112,101,115]))])),(.ret (.lcomp [2,3,4] (.lcomp [5,6,7] (.call ig [(.var 7),(.sub (.sub (.var 1) (.var 3)) (.var 6))]) [([6,7],true,.enum,[(.var 4)],[])]) [([3,4],true,.enum,[(.var 0)],[])]))]
def CY:CF:=bA 2 14 JB false
def vK:CF:=bM CY
def Jz:List MS:=[(.ret (.lcomp [2,3] (.lcomp [4,5] (.call jd [(.var 5),(.var 1)]) [([5],false,.seq,[(.var 3)],[])]) [([3],false,.seq,[(.var 0)],[])]))]
def E8:CF:=bA 2 14 Jz false
def uV:CF:=bM E8
def FW:List MS:=[(.expr (.call pV [(.cmp .Eq (.sub (.call j0 [(.var 0)]) (.const (.int 1))) (.bi .len [(.var 1)])),(.const (.str [97,32,112,114,111,100,117,99,116,32,111,102,32,117,110,108,105,107,101,32,115,104,97,112,101,115]))])),(.assign 2 (.call tL [(.var 1)])),(.ret (.lcomp [3,4] (.lcomp [5,6] (.call nZ [(.var 4),(.var 6)]) [([6],false,.seq,[(.var 2)],[])]) [([4],false,.seq,[(.var 0)],[])]))]
def Gg:CF:=bA 2 15 FW false
def qQ:CF:=Gg
def Ib:List MS:=[(.expr (.call pV [(.cmp .Eq (.bi .len [(.var 0)]) (.sub (.call j0 [(.var 0)]) (.const (.int 1)))),(.const (.str [97,32,116,114,97,99,101,32,111,102,32,110,111,32,115,113,117,97,114,101]))])),(.assign 1 (.const (.tup [(.int 0),(.int 1)]))),(.for_ [2] false .range1 [(.bi .len [(.var 0)])] [(.assign 1 (.call ig [(.var 1),(.sub (.sub (.var 0) (.var 2)) (.var 2))]))]),(.ret (.var 1))]
def IJ:CF:=bA 1 15 Ib false
def wh:CF:=bM IJ
def Fy:List MS:=[(.assign 1 (.bi .len [(.var 0)])),(.expr (.call pV [(.cmp .Eq (.var 1) (.sub (.call j0 [(.var 0)]) (.const (.int 1)))),(.const (.str [97,32,112,111,108,121,110,111,109,105,97,108,32,111,102,32,110,111,32,115,113,117,97,114,101]))])),(.unpack [2,3] (.tup [(.list [(.const (.tup [(.int 1),(.int 1)]))]),(.call ta [(.var 1)])])),(.for_ [4] false .range2 [(.const (.int 1)),(.bin .Add (.var 1) (.const (.int 1)))] [(.assign 3 (.call qQ [(.var 0),(.var 3)])),(.assign 5 (.call oZ [(.call oY [(.call wh [(.var 3)]),(.tup [(.var 4),(.const (.int 1))])])])),(.expr (.cP .append (.var 2) [(.var 5)])),(.assign 3 (.call vK [(.var 3),(.call uV [(.call ta [(.var 1)]),(.var 5)])]))]),(.expr (.cP .reverse (.var 2) [])),(.ret (.var 2))]
def Ii:CF:=bA 1 18 Fy false
def rY:CF:=Ii
def I8:List MS:=[(.assign 3 (.call sS [(.sub (.var 1) (.sub (.var 0) (.const (.int 0)))),(.sub (.var 1) (.sub (.var 0) (.const (.int 1))))])),(.ret (.tup [(.call kB [(.var 2),(.var 3)]),(.var 0)]))]
def zZ:CF:=bA 3 16 I8 false
def uR:CF:=bM zZ
def HO:List MS:=[(.unpack [3,4] (.var 0)),(.if_ (.call yJ [(.sub (.var 2) (.var 3)),(.sub (.var 2) (.var 4))]) [(.ret (.const (.bool true)))] []),(.assign 5 (.call sS [(.sub (.var 2) (.var 3)),(.sub (.var 2) (.var 4))])),(.for_ [6,7] true .enum [(.var 2)] [(.if_ (.eT [(.cmp .In (.var 6) (.var 0)),(.lE (.call oO [(.var 7),(.var 5)]))]) [.cont] []),(.if_ (.lz [(.cmp .NotIn (.tup [(.bi .min2 [(.var 3),(.var 6)]),(.bi .max2 [(.var 3),(.var 6)])]) (.var 1)),(.cmp .NotIn (.tup [(.bi .min2 [(.var 4),(.var 6)]),(.bi .max2 [(.var 4),(.var 6)])]) (.var 1))]) [(.ret (.const (.bool true)))] [])]),(.ret (.const (.bool false)))]
def By:CF:=bA 3 20 HO false
def u5:CF:=bM By
def F2:List MS:=[(.unpack [3,4] (.tup [(.const .none),(.const .none)])),(.for_ [5] false .seq [(.var 0)] [(.assign 6 (.call uR [(.var 5),(.var 1),(.var 2)])),(.if_ (.eT [(.cmp .Is (.var 3) (.const .none)),(.cmp .Lt (.var 6) (.var 4))]) [(.unpack [3,4] (.tup [(.var 5),(.var 6)]))] [])]),(.ret (.var 3))]
def CA:CF:=bA 3 19 F2 false
def tX:CF:=bM CA
def JH:List MS:=[(.assign 3 (.lcomp [9,10] (.call jg [(.var 10),(.var 1)]) [([10],false,.seq,[(.var 0)],[(.cmp .Gt (.bi .len [(.var 10)]) (.const (.int 0)))])])),(.assign 4 (.lcomp [9,10] (.sub (.call cW [(.var 10),(.var 1)]) (.const (.int 0))) [([10],false,.seq,[(.var 3)],[])])),(.assign 5 (.lcomp [9,10,11] (.tup [(.var 11),(.var 10)]) [([10],false,.range1,[(.bi .len [(.var 3)])],[]),([11],false,.range1,[(.var 10)],[])])),(.assign 6 (.const (.int 0))),(.while_ (.cmp .Gt (.bi .len [(.var 5)]) (.const (.int 0))) [(.assign 7 (.call tX [(.var 5),(.var 4),(.var 1)])),(.assign 5 (.lcomp [9,10] (.var 10) [([10],false,.seq,[(.var 5)],[(.cmp .NotEq (.var 10) (.var 7))])])),(.if_ (.call u5 [(.var 7),(.var 5),(.var 4)]) [.cont] []),(.aug 6 .Add (.const (.int 1))),(.if_ (.cmp .Gt (.var 6) (.var 2)) [.stuck] []),(.assign 8 (.call jW [(.call uY [(.sub (.var 3) (.sub (.var 7) (.const (.int 0)))),(.sub (.var 3) (.sub (.var 7) (.const (.int 1)))),(.var 1)]),(.var 3),(.var 1)])),(.if_ (.cmp .Gt (.bi .len [(.var 8)]) (.const (.int 0))) [(.expr (.cP .extend (.var 5) [(.lcomp [9,10] (.tup [(.var 10),(.bi .len [(.var 3)])]) [([10],false,.range1,[(.bi .len [(.var 3)])],[])])])),(.expr (.cP .append (.var 3) [(.call jg [(.var 8),(.var 1)])])),(.expr (.cP .append (.var 4) [(.sub (.call cW [(.var 8),(.var 1)]) (.const (.int 0)))]))] [])]),(.ret (.var 3))]
def Bb:CF:=bA 3 21 JH false
def xX:CF:=bM Bb
def GR:List MS:=[(.assign 2 (.lcomp [8,9] (.var 9) [([9],false,.seq,[(.var 0)],[(.cmp .Gt (.bi .len [(.var 9)]) (.const (.int 0)))])])),(.assign 3 (.lcomp [8,9] (.sub (.call cW [(.var 9),(.var 1)]) (.const (.int 0))) [([9],false,.seq,[(.var 2)],[])])),(.assign 4 (.list [])),(.for_ [5,6] true .enum [(.var 3)] [(.assign 7 (.bin .Add (.slice true (.var 3) (.var 5)) (.lcomp [8,9] (.var 9) [([9],false,.seq,[(.slice false (.var 3) (.bin .Add (.var 5) (.const (.int 1))))],[(.cmp .NotEq (.var 9) (.var 6))])]))),(.if_ (.lE (.call pP [(.var 6),(.var 7)])) [(.expr (.cP .append (.var 4) [(.sub (.var 2) (.var 5))]))] [])]),(.ret (.var 4))]
def yT:CF:=bA 2 20 GR false
def yQ:CF:=bM yT
def Er:List MS:=[(.assign 2 (.call yQ [(.var 0),(.var 1)])),(.assign 4 (.lcomp [7,8,9] (.tup [(.call kB [(.var 1),(.sub (.call cW [(.var 9),(.var 1)]) (.const (.int 0)))]),(.var 8)]) [([8,9],true,.enum,[(.var 2)],[])])),(.expr (.cP .sort (.var 4) [])),(.assign 5 (.list [])),(.for_ [6,3] true .seq [(.var 4)] [(.expr (.cP .append (.var 5) [(.call jg [(.call jW [(.sub (.var 2) (.var 3)),(.var 5),(.var 1)]),(.var 1)])]))]),(.ret (.var 5))]
def z5:CF:=bA 2 19 Er false
def yW:CF:=bM z5
def FV:List MS:=[(.ret (.call yW [(.call xX [(.var 0),(.var 1),(.var 2)]),(.var 1)]))]
def Ga:CF:=bA 3 15 FV false
def vM:CF:=bM Ga
noncomputable def xT:List MS:=[(.store (.var 0) (.const (.int 1)) (.bin .Add (.sub (.var 0) (.const (.int 1))) (.const (.int 1)))),(.if_ (.cmp .NotEq (.sub (.var 0) (.const (.int 0))) (.list [])) [(.ret (.bin .Mod (.cP .pop0 (.sub (.var 0) (.const (.int 0))) [(.const (.int 0))]) (.var 1)))] []),(.ret (.bin .Mod (.bin .Add (.bin .Mult (.const (.int 5)) (.sub (.var 0) (.const (.int 1)))) (.bin .FloorDiv (.sub (.var 0) (.const (.int 1))) (.const (.int 3)))) (.var 1)))]
def AO:CF:=bA 2 14 xT false
def dB:CF:=AO
noncomputable def Hn:List MS:=[(.ret (.bi .dict [(.lcomp [1,2,3] (.tup [(.var 2),(.tup [(.var 3),(.const (.int 1))])]) [([2,3],true,.seq,[(.var 0)],[(.cmp .NotEq (.var 3) (.const (.int 0)))])])]))]
def DA:CF:=bA 1 13 Hn false
def jI:CF:=DA
def xe:List MS:=[(.unpack [1,2,3] (.tup [(.bin .Sub (.const (.int 1)) (.call dB [(.var 0),(.const (.int 2))])),(.bin .Sub (.call dB [(.var 0),(.const (.int 5))]) (.const (.int 2))),(.bin .Sub (.call dB [(.var 0),(.const (.int 5))]) (.const (.int 2)))])),(.if_ (.cmp .Eq (.var 1) (.const (.int 1))) [(.assign 4 (.list [(.tup [(.tup [(.const (.int 2)),(.const (.int 0))]),(.const (.int 1)),(.tup [(.const (.int 1)),(.const (.int 0))]),(.bin .Sub (.const (.int 0)) (.var 2))]),(.tup [(.tup [(.const (.int 1)),(.const (.int 1))]),(.const (.int 1)),(.tup [(.const (.int 0)),(.const (.int 0))]),(.const (.int 0))]),(.tup [(.tup [(.const (.int 0)),(.const (.int 2))]),(.const (.int 1)),(.tup [(.const (.int 0)),(.const (.int 1))]),(.bin .Sub (.const (.int 0)) (.var 3))])])),(.assign 5 (.lcomp [9,10,11,12,13] (.call jI [(.list [(.tup [(.var 10),(.var 11)]),(.tup [(.var 12),(.var 13)])])]) [([10,11,12,13],true,.seq,[(.var 4)],[])])),(.ret (.tup [(.var 5),(.list [(.tup [(.const (.int 0)),(.const (.int 0))]),(.tup [(.var 2),(.const (.int 0))]),(.tup [(.const (.int 0)),(.var 3)])])]))] []),(.unpack [6,7] (.tup [(.bin .Sub (.call dB [(.var 0),(.const (.int 3))]) (.const (.int 1))),(.bin .Sub (.call dB [(.var 0),(.const (.int 3))]) (.const (.int 1)))])),(.assign 8 (.call jI [(.list [(.tup [(.tup [(.const (.int 2)),(.const (.int 0))]),(.const (.int 1))]),(.tup [(.tup [(.const (.int 1)),(.const (.int 0))]),(.bin .Sub (.bin .Sub (.const (.int 0)) (.var 2)) (.var 3))]),(.tup [(.tup [(.const (.int 0)),(.const (.int 0))]),(.bin .Mult (.var 2) (.var 3))])])])),(.ret (.tup [(.list [(.var 8),(.call jI [(.list [(.tup [(.tup [(.const (.int 0)),(.const (.int 1))]),(.const (.int 1))]),(.tup [(.tup [(.const (.int 1)),(.const (.int 0))]),(.bin .Sub (.const (.int 0)) (.var 7))]),(.tup [(.tup [(.const (.int 0)),(.const (.int 0))]),(.bin .Sub (.const (.int 0)) (.var 6))])])])]),(.list [(.tup [(.var 2),(.bin .Add (.var 6) (.bin .Mult (.var 7) (.var 2)))]),(.tup [(.var 3),(.bin .Add (.var 6) (.bin .Mult (.var 7) (.var 3)))])])]))]
def zy:CF:=bA 1 21 xe false
def nA:CF:=zy
def JZ:List MS:=[(.assign 4 (.list [])),(.for_ [5] false .seq [(.var 1)] [(.assign 6 (.call jW [(.nj (.tup [(.bin .Sub (.bin .Add (.sub (.var 5) (.const (.int 0))) (.const (.int 1))) (.var 0)),(.bin .Add (.sub (.var 5) (.const (.int 1))) (.var 0))]) (.tup [(.const (.int 1)),(.const (.int 1))])),(.var 2),(.var 3)])),(.if_ (.cmp .NotEq (.lcomp [7,8] (.var 8) [([8],false,.seq,[(.var 6)],[(.eT [(.cmp .NotIn (.var 8) (.var 1)),(.cmp .NotEq (.sub (.sub (.var 6) (.var 8)) (.const (.int 1))) (.const (.int 1)))])])]) (.list [])) [(.ret (.list []))] []),(.expr (.cP .append (.var 4) [(.lcomp [7,8] (.ite (.cmp .In (.var 8) (.var 6)) (.sub (.sub (.var 6) (.var 8)) (.const (.int 0))) (.const (.int 0))) [([8],false,.seq,[(.var 1)],[])])]))]),(.ret (.var 4))]
def Cp:CF:=bA 4 19 JZ false
def kN:CF:=bM Cp
noncomputable def Gw:List MS:=[(.ret (.lcomp [2,3] (.lcomp [4,5] (.bi .sum [(.lcomp [6,7,8] (.bin .Mult (.var 8) (.sub (.sub (.var 1) (.var 7)) (.var 5))) [([7,8],true,.enum,[(.var 3)],[])])]) [([5],false,.range1,[(.bi .len [(.var 1)])],[])]) [([3],false,.seq,[(.var 0)],[])]))]
def K5:CF:=bA 2 14 Gw false
def pj:CF:=bM K5
def JW:List MS:=[(.assign 1 (.list [(.lcomp [15,16] (.bi .int [(.var 16)]) [([16],false,.seq,[(.slice true (.var 0) (.const (.int 9)))],[])]),(.const (.int 0))])),(.unpack [2,3] (.call nA [(.var 1)])),(.unpack [4,5,6] (.tup [(.sub (.tup [(.const (.str [108,101,120])),(.const (.str [103,114,108,101,120])),(.const (.str [103,114,101,118,108,101,120]))]) (.call dB [(.var 1),(.const (.int 3))])),(.bin .Add (.const (.int 1)) (.call dB [(.var 1),(.const (.int 2))])),(.bin .Sub (.call dB [(.var 1),(.const (.int 3))]) (.const (.int 1)))])),(.assign 7 (.call vM [(.var 2),(.var 4),(.const (.int 40))])),(.assign 8 (.call u7 [(.var 7),(.var 4),(.const (.int 2))])),(.if_ (.cmp .NotEq (.bi .len [(.var 8)]) (.bi .len [(.var 3)])) [(.ret (.const (.bool false)))] []),(.unpack [9,10] (.tup [(.call kN [(.const (.int 0)),(.var 8),(.var 7),(.var 4)]),(.call kN [(.const (.int 1)),(.var 8),(.var 7),(.var 4)])])),(.if_ (.eT [(.cmp .Eq (.var 9) (.list [])),(.cmp .Eq (.var 10) (.list [])),(.cmp .NotEq (.call pj [(.var 9),(.var 10)]) (.call pj [(.var 10),(.var 9)]))]) [(.ret (.const (.bool false)))] []),(.assign 11 (.lcomp [15,16,17] (.lcomp [18,19,20] (.tup [(.bin .Add (.bin .Mult (.var 5) (.var 20)) (.bin .Mult (.var 6) (.sub (.sub (.var 10) (.var 16)) (.var 19)))),(.const (.int 1))]) [([19,20],true,.enum,[(.var 17)],[])]) [([16,17],true,.enum,[(.var 9)],[])])),(.assign 12 (.list [(.const (.int 1))])),(.for_ [13,14] true .seq [(.var 3)] [(.assign 12 (.lcomp [15,16,17] (.bin .Sub (.var 16) (.bin .Mult (.bin .Add (.bin .Mult (.var 5) (.var 13)) (.bin .Mult (.var 6) (.var 14))) (.var 17))) [([16,17],true,.zip,[(.bin .Add (.list [(.const (.int 0))]) (.var 12)),(.bin .Add (.var 12) (.list [(.const (.int 0))]))],[])]))]),(.ret (.cmp .Eq (.call rY [(.var 11)]) (.lcomp [15,16] (.tup [(.var 16),(.const (.int 1))]) [([16],false,.seq,[(.var 12)],[])])))]
def uk:CF:=bA 1 27 JW false
def FD:CF:=uk
end
section
open PySem
section
variable {n:Nat} {ρ:ai} {H:Hp}
theorem aG{A B:Type}{a:A}{f:A->Hp->Option B}:ob (some (a,H)) f=f a H:=rfl
theorem fD{B:Type}{b:Bool}{f:Bool->Hp->Option B}:cK (some (.bool b,H)) f=f b H:=rfl
theorem aS:sb (some (a,ρ,H)) f=f a ρ H:=rfl
theorem bj:tw (some v) H=some (v,H):=rfl
theorem fJ:retB (some v) H=some (.bool v,H):=rfl
theorem zH:retI (some v) H=some (.int v,H):=rfl
theorem cD:den (n+1) (.const v) ρ H=some (v,H):=rfl
theorem bo:den (n+1) (.var i) ρ H=tw (cF ρ i) H:=rfl
theorem gh:den (n+1) (.bin op a b) ρ H=ob (den n a ρ H) fun x H=>ob (den n b ρ H) fun y H=>binOp op x y H:=rfl
theorem yt:den (n+1) (.neg a) ρ H=ob (den n a ρ H) uD:=rfl
theorem BX:den (n+1) (.lE a) ρ H=ob (den n a ρ H) oA:=rfl
noncomputable def AZ(f:Hp->Option (V×Hp))(b:Bool)(H:Hp):Option (V×Hp):=match b with
 |true=>f H
 |false=>some (.bool false,H)
noncomputable def zi(f:Hp->Option (V×Hp))(b:Bool)(H:Hp):Option (V×Hp):=match b with
 |false=>f H
 |true=>some (.bool true,H)
noncomputable def BN(b:Bool)(H:Hp):Option (V×Hp):=some (.bool b,H)
noncomputable def xg(f g:Hp->Option (V×Hp))(v:V)(H:Hp):Option (V×Hp):=match v with
 |.bool c=>match c with
  |true=>f H
  |false=>g H
 |_=>none
theorem AM:AZ f true H=f H:=rfl
theorem xQ:AZ f false H=some (.bool false,H):=rfl
theorem CP:zi f true H=some (.bool true,H):=rfl
theorem pH:zi f false H=f H:=rfl
theorem pI:BN b H=some (.bool b,H):=rfl
theorem zD:xg f g (.bool true) H=f H:=rfl
theorem wq:xg f g (.bool false) H=g H:=rfl
theorem AI:den (n+1) (.lz l) ρ H=iT (den n) ρ l H:=rfl
theorem pL:den (n+1) (.eT l) ρ H=iS (den n) ρ l H:=rfl
theorem BH:iT dn ρ [e] H=cK (dn e ρ H) BN:=rfl
theorem Au:iT dn ρ (e::e'::r) H=cK (dn e ρ H) (AZ (iT dn ρ (e'::r))):=by
 show cK _ _=cK _ _;congr 1
theorem o8:iS dn ρ [e] H=cK (dn e ρ H) BN:=rfl
theorem pf:iS dn ρ (e::e'::r) H=cK (dn e ρ H) (zi (iS dn ρ (e'::r))):=by
 show cK _ _=cK _ _;congr 1
theorem fv:den (n+1) (.cmp op a b) ρ H=ob (den n a ρ H) fun x H=>ob (den n b ρ H) fun y H=>retB (bu op x y H) H:=rfl
theorem wW:den (n+1) (.ite t a b) ρ H=ob (den n t ρ H) (xg (den n a ρ) (den n b ρ)):=by
 have e:den (n+1) (.ite t a b) ρ H=ob (den n t ρ H) fun v H=>match v with
  |.bool c=>match c with
   |true=>den n a ρ H
   |false=>den n b ρ H
  |_=>none:=rfl
 exact e.trans (congrArg (ob (den n t ρ H)) (by funext v H;induction v using Internal.V.casesOn <;> rfl))
theorem cH:den (n+1) (.call g as) ρ H=ob (denL (den n) ρ as H) g:=rfl
theorem jH:den (n+1) (.bi b as) ρ H=ob (denL (den n) ρ as H) (cz b):=rfl
theorem kI:den (n+1) (.cP m o as) ρ H=ob (den n o ρ H) fun ov H=>guard' (fZ m (own H ov)) (ob (denL (den n) ρ as H) fun vs H=>eC m ov vs H):=rfl
theorem mY:den (n+1) (.sub a i) ρ H=ob (den n a ρ H) fun x H=>ob (den n i ρ H) fun y H=>tw (subs H x y) H:=rfl
theorem rV:den (n+1) (.slice up a b) ρ H=ob (den n a ρ H) fun x H=>ob (den n b ρ H) fun y H=>j6 up x (nat? y) H:=rfl
theorem BQ:den (n+1) (.rev a) ρ H=ob (den n a ρ H) sW:=rfl
theorem fh:den (n+1) (.tup l) ρ H=ob (denL (den n) ρ l H) fun vs H=>some (.tup vs,H):=rfl
theorem f7:den (n+1) (.list l) ρ H=ob (denL (den n) ρ l H) fun vs H=>some (newObj H (.list vs)):=rfl
theorem qN:den (n+1) .ji ρ H=some (newObj H (.dict [])):=rfl
theorem gf:den (n+1) (.lcomp clr e ((tg,many,ik,es,ifs)::gs)) ρ H =
  ob (denL (den n) ρ es H) fun vs H=>match iterOf H ik vs with
   |some items=>compGo H.nxt (turn (den n) tg many ifs (runGens (den n) (cp H.nxt e (den n)) gs) (slotC ρ clr)) items vs (newObj H (.list [])).2
   |none=>none:=rfl
theorem xM:den (n+1) (.dcomp clr k e ((tg,many,ik,es,ifs)::gs)) ρ H =
  ob (denL (den n) ρ es H) fun vs H=>match iterOf H ik vs with
   |some items=>compGo H.nxt (turn (den n) tg many ifs (runGens (den n) (iZ H.nxt k e (den n)) gs) (slotC ρ clr)) items vs (newObj H (.dict [])).2
   |none=>none:=rfl
theorem bk:denL dn ρ [] H=some ([],H):=rfl
theorem bz:denL dn ρ (e::r) H=ob (dn e ρ H) fun v H=>ob (denL dn ρ r H) fun vs H=>some (v::vs,H):=rfl
noncomputable def nextK(f:ai->Hp->Option (Fl×ai×Hp))(fl:Fl)(ρ:ai)(H:Hp):Option (Fl×ai×Hp):=match fl with
 |.next=>f ρ H
 |.cont=>some (.cont,ρ,H)
 |.ret v=>some (.ret v,ρ,H)
theorem bc:nextK f .next ρ H=f ρ H:=rfl
theorem AY:nextK f .cont ρ H=some (.cont,ρ,H):=rfl
theorem l9:nextK f (.ret v) ρ H=some (.ret v,ρ,H):=rfl
theorem gx:denSs ds [] ρ H=some (.next,ρ,H):=rfl
theorem aM:denSs ds (s::r) ρ H=sb (ds s ρ H) (nextK (denSs ds r)):=by
 have e:denSs ds (s::r) ρ H=sb (ds s ρ H) fun f ρ H=>match f with
  |.next=>denSs ds r ρ H
  |.cont=>some (.cont,ρ,H)
  |.ret v=>some (.ret v,ρ,H):=rfl
 exact e.trans (congrArg (sb (ds s ρ H)) (by funext f ρ H;induction f using Internal.Fl.casesOn <;> rfl))
theorem cf:denS (n+1) (.assign i e) ρ H=ob (den n e ρ H) fun v H=>some (.next,slotS ρ i (some v),H):=rfl
theorem gO:denS (n+1) (.unpack is e) ρ H=ob (den n e ρ H) fun v H=>uL (eB ρ is true v) H:=rfl
theorem gL:uL (some ρ') H=some (.next,ρ',H):=rfl
theorem tD:denS (n+1) (.store o i e) ρ H=ob (den n e ρ H) fun v H=>ob (den n o ρ H) fun ov H=>ob (den n i ρ H) fun iv H=>tE ρ (iI H ov iv v):=rfl
theorem vq:tE ρ (some H')=some (.next,ρ,H'):=rfl
def GC(i:Nat)(op:Operator)(e:Option (V×Hp))(x:Option V)(ρ:ai):Option (Fl×ai×Hp):=match x with
 |some x=>ob e fun y H=>ob (augV op x y H) fun r H=>some (.next,slotS ρ i (some r),H)
 |none=>none
theorem qK:denS (n+1) (.aug i op e) ρ H=GC i op (den n e ρ H) (cF ρ i) ρ:=rfl
theorem sN:GC i op e (some x) ρ=ob e fun y H=>ob (augV op x y H) fun r H=>some (.next,slotS ρ i (some r),H):=rfl
theorem jr:denS (n+1) (.expr e) ρ H=ob (den n e ρ H) fun _ H=>some (.next,ρ,H):=rfl
noncomputable def Al(a b:ai->Hp->Option (Fl×ai×Hp))(ρ:ai)(c:Bool)(H:Hp):Option (Fl×ai×Hp):=match c with
 |true=>a ρ H
 |false=>b ρ H
theorem ui:Al a b ρ true H=a ρ H:=rfl
theorem iR:Al a b ρ false H=b ρ H:=rfl
theorem hO:denS (n+1) (.if_ t a b) ρ H=cK (den n t ρ H) (Al (denSs (denS n) a) (denSs (denS n) b) ρ):=by
 have e:denS (n+1) (.if_ t a b) ρ H=cK (den n t ρ H) fun c H=>match c with
  |true=>denSs (denS n) a ρ H
  |false=>denSs (denS n) b ρ H:=rfl
 exact e.trans (congrArg (cK (den n t ρ H)) (by funext c H;induction c using aB <;> rfl))
theorem oW:denS (n+1) (.while_ t b) ρ H=fm (den n t) (denSs (denS n) b) 1000 ρ H:=rfl
theorem lB:denS (n+1) (.for_ tg many ik es b) ρ H=ob (denL (den n) ρ es H) fun vs H=>match iterOf H ik vs with
  |some items=>sunl H.es vs (loopF tg many (denSs (denS n) b) items ρ (lockH H vs))
  |none=>none:=rfl
theorem j8:denS (n+1) (.ret e) ρ H=ob (den n e ρ H) fun v H=>some (.ret v,ρ,H):=rfl
theorem xD:denS (n+1) .cont ρ H=some (.cont,ρ,H):=rfl
def vk(f:ai->Hp->Option (Fl×ai×Hp))(g:ai->Hp->Option (Fl×ai×Hp))(ρ:ai)(c:Bool)(H:Hp):Option (Fl×ai×Hp):=match c with
 |true=>sb (f ρ H) fun fl ρ H=>match fl with
  |.next=>g ρ H
  |.cont=>g ρ H
  |.ret v=>some (.ret v,ρ,H)
 |false=>some (.next,ρ,H)
theorem rQ:fm t b (n+1) ρ H=cK (t ρ H) (vk b (fm t b n) ρ):=by
 show cK _ _=cK _ _;congr 1
noncomputable def nU(g:ai->Hp->Option (Fl×ai×Hp))(fl:Fl)(ρ:ai)(H:Hp):Option (Fl×ai×Hp):=match fl with
 |.next=>g ρ H
 |.cont=>g ρ H
 |.ret v=>some (.ret v,ρ,H)
theorem jL:nU f .next ρ H=f ρ H:=rfl
theorem mC:nU f .cont ρ H=f ρ H:=rfl
theorem Co:nU f (.ret v) ρ H=some (.ret v,ρ,H):=rfl
theorem pX:vk f g ρ true H=sb (f ρ H) (nU g):=by
 have e:vk f g ρ true H=sb (f ρ H) fun fl ρ H=>match fl with
  |.next=>g ρ H
  |.cont=>g ρ H
  |.ret v=>some (.ret v,ρ,H):=rfl
 exact e.trans (congrArg (sb (f ρ H)) (by funext c ρ H;induction c using Internal.Fl.casesOn <;> rfl))
theorem r4:vk f g ρ false H=some (.next,ρ,H):=rfl
theorem AB:loopF tg many b [] ρ H=some (.next,ρ,H):=rfl
def Jo(b g:ai->Hp->Option (Fl×ai×Hp))(H:Hp)(x:Option ai):Option (Fl×ai×Hp):=match x with
 |some ρ=>sb (b ρ H) (nU g)
 |none=>none
theorem lS:Jo b g H (some ρ')=sb (b ρ' H) (nU g):=rfl
theorem fx:loopF tg many b (v::r) ρ H=Jo b (loopF tg many b r) H (eB ρ tg many v):=by
 show(match eB ρ tg many v with
  |some ρ=>sb (b ρ H) fun f ρ H=>match f with
   |.next=>loopF tg many b r ρ H
   |.cont=>loopF tg many b r ρ H
   |.ret v=>some (.ret v,ρ,H)
  |none=>none)=_
 induction eB ρ tg many v using aL with
 |none=>rfl
 |some ρ'=>
  show sb _ _=sb _ _;congr 1
theorem sF:eB ρ [i] false v=some (slotS ρ i (some v)):=rfl
theorem jP:eB ρ [i,j] true (.tup [v,w])=some (slotS (slotS ρ i (some v)) j (some w)):=rfl
theorem lP:eB ρ [i,j,k] true (.tup [v,w,x])=some (slotS (slotS (slotS ρ i (some v)) j (some w)) k (some x)):=rfl
theorem bh:cF (x::r) 0=x:=rfl
theorem bg:cF (x::r) (n+1)=cF r n:=rfl
theorem aY:slotS (x::r) 0 v=v::r:=rfl
theorem aZ:slotS (x::r) (n+1) v=x::slotS r n v:=rfl
theorem gn:slotC ρ []=ρ:=rfl
theorem gv:slotC ρ (i::is)=slotC (slotS ρ i none) is:=rfl
theorem lp{B:Type}{x:Option B}:guard' true x=x:=rfl
theorem iB:bA 1 b body keep [x] H=mkEnd keep H (denSs (denS 20) body (some x::cu b none) H):=rfl
theorem dC:bA 2 b body keep [x,y] H=mkEnd keep H (denSs (denS 20) body (some x::some y::cu b none) H):=rfl
theorem i9:bA 3 b body keep [x,y,z] H=mkEnd keep H (denSs (denS 20) body (some x::some y::some z::cu b none) H):=rfl
theorem aat:bA 4 b body keep [x,y,z,w] H=mkEnd keep H (denSs (denS 20) body (some x::some y::some z::some w::cu b none) H):=rfl
theorem oT:mkEnd keep H (some (.ret v,ρ,H'))=some (leave keep H H' v):=rfl
theorem xj:mkEnd keep H (some (.next,ρ,H'))=some (leave keep H H' .none):=rfl
theorem mD:turn dn [i] false [] go ρ v H=go (slotS ρ i (some v)) H:=rfl
theorem qk:turn dn [i,j] true [] go ρ (.tup [v,w]) H=go (slotS (slotS ρ i (some v)) j (some w)) H:=rfl
theorem Bo:turn dn [i] false [c] go ρ v H=cK (dn c (slotS ρ i (some v)) H) (qL (go (slotS ρ i (some v)))):=by
 show ob (cK (dn c (slotS ρ i (some v)) H) _) _=_
 induction dn c (slotS ρ i (some v)) H using aL with
 |none=>rfl
 |some p=>
  obtain⟨v,H⟩:=p
  induction v using Internal.V.casesOn with
  |bool b=>induction b using aB <;> rfl
  |_=>rfl
theorem uh:turn dn [i,j] true [c] go ρ (.tup [v,w]) H=cK (dn c (slotS (slotS ρ i (some v)) j (some w)) H) (qL (go (slotS (slotS ρ i (some v)) j (some w)))):=by
 show ob (cK (dn c (slotS (slotS ρ i (some v)) j (some w)) H) _) _=_
 induction dn c (slotS (slotS ρ i (some v)) j (some w)) H using aL with
 |none=>rfl
 |some p=>
  obtain⟨v,H⟩:=p
  induction v using Internal.V.casesOn with
  |bool b=>induction b using aB <;> rfl
  |_=>rfl
theorem vU:qL go true H=go H:=rfl
theorem ifGo_f:qL go false H=some H:=rfl
theorem dI:runGens dn emit []=emit:=rfl
def II(k:Nat)(kv v:V)(H:Hp):Option Hp:=match kA kv with
 |some q=>match own H (.ref k)with
  |some p=>match p with
   |(_,o)=>match o with
    |.dict l=>guard' (lenOk l) (some (setObj H k (.dict (dset l q v))))
    |.list _=>none
  |none=>none
 |none=>none
def jU(k:Nat)(v:V)(H:Hp):Option Hp:=match own H (.ref k)with
 |some p=>match p with
  |(_,o)=>match o with
   |.list l=>guard' (lenOk l) (some (setObj H k (.list (l++[v]))))
   |.dict _=>none
 |none=>none
theorem C6:iZ k a b dn ρ H=ob (dn a ρ H) fun kv H=>ob (dn b ρ H) (II k kv):=by
 unfold iZ;congr 1
theorem jD:cp k a dn ρ H=ob (dn a ρ H) (jU k):=by
 unfold cp;congr 1
theorem vW:(newObj ⟨n,es⟩ o).2=⟨n+1,⟨n,false,o⟩::es⟩:=rfl
theorem BE:(newObj ⟨n,es⟩ o).1 = .ref n:=rfl
theorem jG:newObj ⟨n,es⟩ o=(.ref n,⟨n+1,⟨n,false,o⟩::es⟩):=rfl
theorem rep0:cu 0 (none:Option V)=[]:=rfl
theorem rep1:cu (n+1) (none:Option V)=none::cu n none:=rfl
end
end
local macro_rules
  |`(tactic|simp! only[$ls,*]) => do
    let r := ("aG fD aS bj fJ zH cD bo gh yt BX AM xQ CP pH pI zD wq AI pL BH Au o8 pf fv wW cH jH kI mY rV BQ fh f7 qN gf xM bk bz bc AY l9 gx aM cf gO gL tD vq qK sN jr ui iR hO oW lB j8 xD jL mC Co pX r4 AB fx lS sF jP lP bh bg aY aZ gn gv lp oT xj mD qk Bo uh vU ifGo_f dI C6 jD vW BE jG Nat.zero_add Nat.reduceAdd rep0 rep1".splitOn " ").toArray.map fun s => Lean.mkIdent (s.toName)
    `(tactic|simp only[$[$r:ident],*, $ls,*])
section
open PySem
noncomputable def isZ'(n:Int):Bool:=match n with
 |.ofNat a=>aF a 0
 |.negSucc _=>false
noncomputable def ff(n:Int)(g:Nat):Int:=match n with
 |.ofNat a=>.ofNat (Nat.div a g)
 |.negSucc a=>Int.negOfNat (Nat.div (Nat.succ a) g)
def Q0(n:Int)(d g:Nat):Int×Nat:=(ff n g,Nat.div d g)
def fV(n:Int)(d:Nat):Int×Nat:=match aF d 1 with
 |true=>(n,1)
 |false=>Q0 n d (cc n.natAbs d)
def rT(n d:Int):Int×Nat:=match d with
 |.ofNat b=>fV n b
 |.negSucc b=>fV (-n) (Nat.succ b)
noncomputable def aX(n:Int)(d:Nat):V:=.tup [.int n,.int (.ofNat d)]
def i8(q:Int×Nat):V:=aX q.1 q.2
theorem qM(n:Int):isZ' n=decide (n=0):=by
 induction n using kC with
 |ofNat a=>
  show aF a 0=decide (Int.ofNat a=0);rw[g8,Nat.beq_eq];simp
 |negSucc a=>simp [isZ']
theorem fits_of(h:x.natAbs<=18446744073709551616):fits x=true:=by
 unfold fits;rw[fq h]
theorem uw(hg:0<g)(h:n.natAbs=g * k):(ff n g) * g=n:=by
 induction n using kC with
 |ofNat a=>
  have h:a=g * k:=h;subst h;show(Int.ofNat (g * k / g)) * _=_;rw[Nat.mul_div_cancel_left k hg];simp [Int.mul_comm]
 |negSucc a=>
  have h:a+1=g * k:=h;show(Int.negOfNat ((a+1) / g)) * _=_;rw[h,Nat.mul_div_cancel_left k hg,Int.negOfNat_eq];have:Int.negSucc a = -((a+1:Nat):Int):=rfl;rw[this,h];simp [Int.mul_comm,Int.mul_neg]
theorem CW{n q d:Int}(hd:d≠0)(h:q * d=n):n.fdiv d=q:=by
 rw[<- h];exact Int.mul_fdiv_cancel q hd
theorem natAbs_dvd{n:Int}{g:Nat}(h:g∣n.natAbs):∃k,n.natAbs=g * k:=h
theorem Dh{n:Int}{d:Nat}(hd:0<d):n.fdiv (Int.ofNat (cc n.natAbs d))=(fV n d).1/\(Int.ofNat d).fdiv (Int.ofNat (cc n.natAbs d))=Int.ofNat (fV n d).2:=by
 have hg:0<cc n.natAbs d:=Nat.gcd_pos_of_pos_right _ hd;have hz:(Int.ofNat (cc n.natAbs d))≠0:=by simp;exact fun a=>Nat.ne_zero_of_lt hd
 exists aD (natAbs_dvd (Nat.gcd_dvd_left n.natAbs d)),k,hk;exists aD (Nat.gcd_dvd_right n.natAbs d),j,hj;have h1:n.fdiv (Int.ofNat (cc n.natAbs d))=ff n (cc n.natAbs d):=CW hz (uw hg hk);have h2:(Int.ofNat d).fdiv (Int.ofNat (cc n.natAbs d))=Int.ofNat (d / (cc n.natAbs d)):=by
  refine CW hz ?_;have:d / (cc n.natAbs d) * (cc n.natAbs d)=d:=Nat.div_mul_cancel (Nat.gcd_dvd_right n.natAbs d);have:=congrArg Int.ofNat this;simpa using this
 unfold fV;split
 ·rename_i h;have:d=1:=cU h;clear h hj hk hz hg;subst this;rw[h1,h2];have:=uw (n:=n) (g:=1) (k:=n.natAbs) Nat.one_pos (Eq.symm (Nat.one_mul n.natAbs));rw[Nat.gcd_one_right];exact⟨by simpa using this,rfl⟩
 ·exact⟨h1,h2⟩
theorem aaE(hr:0<x % y)(hy:0<y):2 * (y % (x % y))<y:=by
 have h1:x % y<y:=Nat.mod_lt _ hy;have h2:y % (x % y)<x % y:=Nat.mod_lt _ hr;by_cases h:2 * (x % y)<=y
 ·lia
 ·have h3:y % (x % y)=y - x % y:=by
   rw[Nat.mod_eq_sub_mod (fo h1),Nat.mod_eq_of_lt (by lia)]
  lia
section
variable {H:Hp}
theorem DL:bu .NotEq (V.int (.ofNat y)) (V.int 0) H=some (!(aF y 0)):=rfl
theorem O4(hy:0<y):binOp .Mod (.int (.ofNat x)) (.int (.ofNat y)) H=some (V.int (.ofNat (x % y)),H):=by
 show guard' (!ieq (.ofNat y) 0) (some (V.int ((Int.ofNat x).fmod (.ofNat y)),H))=_;have h1:ieq (Int.ofNat y) 0=false:=by
  rw[ieq_eq];simp;exact Nat.ne_zero_of_lt hy
 rw[h1];show some (V.int _,H)=_;have e:(Int.ofNat x).fmod (Int.ofNat y)=Int.ofNat (x % y):=by
  rw[Int.fmod_eq_emod_of_nonneg _ (by simp)];rfl
 rw[e]
theorem Fx(hy:0<y):fm (den (dn+8) (.cmp .NotEq (.var 1) (.const (V.int 0)))) (denSs (denS (dn+8)) [(.unpack [0,1] (.tup [(.var 1),(.bin .Mod (.var 0) (.var 1))]))]) (n+1) (some (V.int (.ofNat x))::some (V.int (.ofNat y))::r) H =
  fm (den (dn+8) (.cmp .NotEq (.var 1) (.const (V.int 0)))) (denSs (denS (dn+8)) [(.unpack [0,1] (.tup [(.var 1),(.bin .Mod (.var 0) (.var 1))]))]) n (some (V.int (.ofNat y))::some (V.int (.ofNat (x % y)))::r) H:=by
 have h:aF y 0=false:=by induction y using bL with
  |zero=>lia
  |succ y=>rfl
 rw[rQ];simp! only[DL,h,Bool.not_false,O4 hy]
theorem Ck:fm (den (dn+8) (.cmp .NotEq (.var 1) (.const (V.int 0)))) (denSs (denS (dn+8)) [(.unpack [0,1] (.tup [(.var 1),(.bin .Mod (.var 0) (.var 1))]))]) (n+1) (some (V.int (.ofNat x))::some (V.int (.ofNat 0))::r) H =
  some (.next,some (V.int (.ofNat x))::some (V.int (.ofNat 0))::r,H):=by
 rw[rQ];simp! only[DL,ew,Bool.not_true]
theorem LN:∀(j x y n:Nat),y<2 ^ j->2 * j+1<=n->fm (den (dn+8) (.cmp .NotEq (.var 1) (.const (V.int 0)))) (denSs (denS (dn+8)) [(.unpack [0,1] (.tup [(.var 1),(.bin .Mod (.var 0) (.var 1))]))]) n (some (V.int (.ofNat x))::some (V.int (.ofNat y))::r) H =
  some (.next,some (V.int (.ofNat (cc x y)))::some (V.int (.ofNat 0))::r,H):=by
 intro j
 induction j with
 |zero=>
  intro x y n h1 h2;have:y=0:=by simpa using h1
  clear h1;subst this;obtain⟨n,rfl⟩:∃m,n=m+1:=⟨n - 1,by exact(fun{b a c} h=>(Nat.sub_eq_iff_eq_add h).mp) h2 rfl⟩;rw[Ck,Nat.gcd_zero_right]
 |succ j ih=>
  intro x y n h1 h2;obtain⟨n,rfl⟩:∃m,n=m+1:=⟨n - 1,by lia⟩;rcases Nat.eq_zero_or_pos y with rfl|hy
  ·rw[Ck,Nat.gcd_zero_right]
  rw[Fx hy];obtain⟨n,rfl⟩:∃m,n=m+1:=⟨n - 1,by lia⟩;have hg:cc x y=cc y (x % y):=by rw[Nat.gcd_comm x y,Nat.gcd_rec y x,Nat.gcd_comm]
  rw[hg];clear hg;rcases Nat.eq_zero_or_pos (x % y)with h0|hr
  ·rw[h0,Ck,Nat.gcd_zero_right]
  rw[Fx hr];have hh:=aaE hr hy;have hg:cc y (x % y)=cc (x % y) (y % (x % y)):=by rw[Nat.gcd_comm y (x % y),Nat.gcd_rec (x % y) y,Nat.gcd_comm]
  rw[hg];refine ih _ _ _ ?_ (by lia);rw[Nat.pow_succ]at h1
  lia
theorem K7:cz .abs [.int x] H=some (V.int (.ofNat x.natAbs),H):=by
 induction x using kC with
 |ofNat a=>
  show some (V.int (match c8 a 0 with|true=>-(Int.ofNat a)|false=>Int.ofNat a),H)=_
  have:c8 a 0=false:=by induction a using bL <;> rfl
  rw[this];rfl
 |negSucc a=>rfl
theorem Ut(hb:b.natAbs<2 ^ 200):zI [.int a,.int b] ⟨0,[]⟩=some (V.int (.ofNat (cc a.natAbs b.natAbs)),⟨0,[]⟩):=by
 unfold zI IE;rw[dC];simp! only[K7];rw[LN 200 _ _ 1000 hb dq];simp! only[];rfl
theorem I7(hb:b.natAbs<2 ^ 200):tG [.int a,.int b] H=some (V.int (.ofNat (cc a.natAbs b.natAbs)),H):=
 dZ (args:=[.int a,.int b]) (Ut hb) (.cons (.int _) (.cons (.int _) .nil)) (.int _)
theorem fg(hx:x.natAbs<=18446744073709551616)(hy:y.natAbs<=18446744073709551616):binOp .Mult (V.int x) (V.int y) H=some (V.int (x * y),H):=by
 show guard' (band (fits x) (fits y)) (some (V.int (x * y),H))=_;rw[fits_of hx,fits_of hy];rfl
theorem rZ(h:y≠0)(hx:x.natAbs<=18446744073709551616)(hy:y.natAbs<=18446744073709551616):binOp .FloorDiv (V.int x) (V.int y) H=some (V.int (x.fdiv y),H):=by
 show guard' (band (!ieq y 0) (band (fits x) (fits y))) (some (V.int (x.fdiv y),H))=_;have:ieq y 0=false:=by rw[ieq_eq];simpa using h
 rw[fits_of hx,fits_of hy,this];rfl
theorem s7:binOp .Add (V.int x) (V.int y) H=some (V.int (x+y),H):=rfl
theorem oK:binOp .Sub (V.int x) (V.int y) H=some (V.int (x - y),H):=rfl
theorem Mm(h:x≠0):bu .Eq (V.int x) (V.int 0) H=some false:=by
 show some (ieq x 0)=_;rw[ieq_eq];simpa using h
theorem NO(h:0<x):bu .Gt (V.int x) (V.int 0) H=some true:=by
 show some (ilt 0 x)=_;rw[ilt_eq];simpa using h
theorem Zi(h:x<0):bu .Gt (V.int x) (V.int 0) H=some false:=by
 show some (ilt 0 x)=_;rw[ilt_eq];simp;exact Int.le_of_lt h
theorem Vv(hb:0<b):cc a b<=b:=Nat.le_of_dvd hb (Nat.gcd_dvd_right _ _)
theorem Xr(hd:d≠0)(hn:n.natAbs<=18446744073709551616)(hd2:d.natAbs<=18446744073709551616):Cn [.int n,.int d] ⟨0,[]⟩=some (i8 (rT n d),⟨0,[]⟩):=by
 have dz:d.natAbs<2 ^ 200:=Nat.lt_of_le_of_lt hd2 dq;have gp:0<d.natAbs:=Int.natAbs_pos.mpr hd;have Bn:cc n.natAbs d.natAbs<=d.natAbs:=Vv gp;have Gz:0<cc n.natAbs d.natAbs:=Nat.gcd_pos_of_pos_right _ gp;unfold Cn EK;rw[dC];simp! only[Mm hd];clear hd;induction d using kC with
 |ofNat b=>
  have hb:0<b:=gp;have z3:0<Int.ofNat b:=by simpa using hb
  have hz:Int.ofNat (cc n.natAbs b)≠0:=by
   have:0<cc n.natAbs b:=Gz;simp;exact fun a=>Nat.ne_zero_of_lt gp
  have sv:(Int.ofNat (cc n.natAbs b)).natAbs<=18446744073709551616:=bx Bn hd2;exists ak (Dh (n:=n) hb),e1,e2;simp! only[NO z3,I7 dz,show(Int.ofNat b).natAbs=b from rfl,rZ hz hn sv,rZ hz hd2 sv,e1,e2];rfl
 |negSucc b=>
  have z3:Int.negSucc b<0:=Int.negSucc_lt_zero b;have gJ:(Int.negSucc b).natAbs=b+1:=rfl;rw[gJ]at Bn Gz;have hz:(0:Int) - Int.ofNat (cc n.natAbs (b+1))≠0:=by
   have:(Int.ofNat (cc n.natAbs (b+1)))=((cc n.natAbs (b+1):Nat):Int):=rfl
   lia
  have sv:((0:Int) - Int.ofNat (cc n.natAbs (b+1))).natAbs<=18446744073709551616:=by
   have:((0:Int) - Int.ofNat (cc n.natAbs (b+1))).natAbs=cc n.natAbs (b+1):=by simp
   rw[this];exact bx Bn hd2
  exists ak (Dh (n:=-n) (d:=b+1) (Nat.succ_pos b)),e1,e2;rw[Int.natAbs_neg]at e1 e2;have f1:n.fdiv ((0:Int) - Int.ofNat (cc n.natAbs (b+1)))=(fV (-n) (b+1)).1:=by
   rw[<- e1];have:(0:Int) - Int.ofNat (cc n.natAbs (b+1)) = -Int.ofNat (cc n.natAbs (b+1)):=by simp
   rw[this,<- Int.neg_fdiv_neg,Int.neg_neg]
  have f2:(Int.negSucc b).fdiv ((0:Int) - Int.ofNat (cc n.natAbs (b+1)))=Int.ofNat (fV (-n) (b+1)).2:=by
   rw[<- e2];have:(0:Int) - Int.ofNat (cc n.natAbs (b+1)) = -Int.ofNat (cc n.natAbs (b+1)):=by simp
   rw[this,<- Int.neg_fdiv_neg,Int.neg_neg];rfl
  simp! only[Zi z3,I7 dz,gJ,oK,rZ hz hn sv,rZ hz hd2 sv,f1,f2];rfl
theorem w8(hd:d≠0)(hn:n.natAbs<=18446744073709551616)(hd2:d.natAbs<=18446744073709551616):pW [.int n,.int d] H=some (i8 (rT n d),H):=
 dZ (args:=[.int n,.int d]) (Xr hd hn hd2) (.cons (.int _) (.cons (.int _) .nil)) (.tup (.cons (.int _) (.cons (.int _) .nil)))
end
end
section
open PySem
noncomputable def cM(n:Int)(d:Nat):Prop:=n.natAbs<=1000000000/\0<d/\d<=1000
def addQ(n:Int)(d:Nat)(n':Int)(d':Nat):Int×Nat:=match aF (Nat.mul d d') 1 with
 |true=>(n+n',1)
 |false=>fV (n * Int.ofNat d'+n' * Int.ofNat d) (Nat.mul d d')
def mulQ(n:Int)(d:Nat)(n':Int)(d':Nat):Int×Nat:=fV (n * n') (Nat.mul d d')
def divQ(n:Int)(d:Nat)(n':Int)(d':Nat):Int×Nat:=rT (n * Int.ofNat d') (Int.ofNat d * n')
def invQ(n:Int)(d:Nat):Int×Nat:=rT (Int.ofNat d) n
theorem addQ_eq:addQ n d n' d'=rT (n * Int.ofNat d'+n' * Int.ofNat d) (Int.ofNat d * Int.ofNat d'):=by
 have h:Int.ofNat d * Int.ofNat d'=Int.ofNat (Nat.mul d d'):=rfl;rw[h];show addQ n d n' d'=fV _ _;unfold addQ;split
 ·rename_i e;have e:d * d'=1:=cU e;obtain⟨rfl,rfl⟩:d=1/\d'=1:=⟨Nat.eq_one_of_mul_eq_one_right e,Nat.eq_one_of_mul_eq_one_left e⟩;show(n+n',1)=(n * 1+n' * 1,1);rw[Int.mul_one,Int.mul_one]
 ·rfl
theorem nG{x y:Int}{a b:Nat}(hx:x.natAbs<=a)(hy:y.natAbs<=b):(x * y).natAbs<=a * b:=by
 rw[Int.natAbs_mul];exact Nat.mul_le_mul hx hy
theorem Ln{x y:Int}{a b:Nat}(hx:x.natAbs<=a)(hy:y.natAbs<=b):(x+y).natAbs<=a+b:=bx (Int.natAbs_add_le x y) (Nat.add_le_add hx hy)
section
variable {H:Hp} {n n':Int} {d d':Nat}
theorem fU:NR (aX n d):=.tup (.cons (.int _) (.cons (.int _) .nil))
theorem lH:FL (aX n d):=.tup (.cons (.int _) (.cons (.int _) .nil))
theorem ng:subs H (aX n d) (V.int 0)=some (V.int n):=rfl
theorem pR:subs H (aX n d) (V.int 1)=some (V.int (.ofNat d)):=rfl
theorem mE(h:cM n d):n.natAbs<=18446744073709551616:=bx h.1 dq
theorem kq(h:cM n d):(Int.ofNat d).natAbs<=18446744073709551616:=bx h.2.2 dq
theorem AX(h:cM n d):Int.ofNat d≠0:=by
 have:=h.2.1;simp;lia
theorem Ex(h:cM n d)(h':cM n' d'):Int.ofNat d * Int.ofNat d'≠0:=Int.mul_ne_zero (AX h) (AX h')
theorem Hw(h:cM n d)(h':cM n' d'):ig [aX n d,aX n' d'] H=some (i8 (addQ n d n' d'),H):=by
 refine dZ (args:=[aX n d,aX n' d']) (H':=⟨0,[]⟩) ?_ (.cons fU (.cons fU .nil)) lH;show yd [aX n d,aX n' d'] ⟨0,[]⟩=_;unfold yd Jw;rw[dC];have b1:(n * Int.ofNat d'+n' * Int.ofNat d).natAbs<=18446744073709551616:=bx (Ln (nG h.1 h'.2.2) (nG h'.1 h.2.2)) dq;have b2:(Int.ofNat d * Int.ofNat d').natAbs<=18446744073709551616:=bx (nG h.2.2 h'.2.2) dq;simp! only[ng,pR,fg (mE h) (kq h'),fg (mE h') (kq h),fg (kq h) (kq h'),s7,w8 (Ex h h') b1 b2,addQ_eq];rfl
theorem CK(h:cM n d)(h':cM n' d'):jd [aX n d,aX n' d'] H=some (i8 (mulQ n d n' d'),H):=by
 refine dZ (args:=[aX n d,aX n' d']) (H':=⟨0,[]⟩) ?_ (.cons fU (.cons fU .nil)) lH;show wy [aX n d,aX n' d'] ⟨0,[]⟩=_;unfold wy IP;rw[dC];have b1:(n * n').natAbs<=18446744073709551616:=bx (nG h.1 h'.1) dq;have b2:(Int.ofNat d * Int.ofNat d').natAbs<=18446744073709551616:=bx (nG h.2.2 h'.2.2) dq;simp! only[ng,pR,fg (mE h) (mE h'),fg (kq h) (kq h'),w8 (Ex h h') b1 b2];rfl
theorem Ho(h:cM n d)(h':cM n' d')(hz:n'≠0):oY [aX n d,aX n' d'] H=some (i8 (divQ n d n' d'),H):=by
 refine dZ (args:=[aX n d,aX n' d']) (H':=⟨0,[]⟩) ?_ (.cons fU (.cons fU .nil)) lH;show zc [aX n d,aX n' d'] ⟨0,[]⟩=_;unfold zc Gi;rw[dC];have b1:(n * Int.ofNat d').natAbs<=18446744073709551616:=bx (nG h.1 h'.2.2) dq;have b2:(Int.ofNat d * n').natAbs<=18446744073709551616:=bx (nG h.2.2 h'.1) dq;simp! only[ng,pR,fg (mE h) (kq h'),fg (kq h) (mE h'),w8 (Int.mul_ne_zero (AX h) hz) b1 b2];rfl
theorem Hq:oZ [aX n d] H=some (aX (-n) d,H):=by
 refine dZ (args:=[aX n d]) (H':=⟨0,[]⟩) ?_ (.cons fU .nil) lH;show xh [aX n d] ⟨0,[]⟩=_;unfold xh DW;rw[iB];simp! only[ng,pR,oK,Int.zero_sub];rfl
theorem BU(h:cM n d)(hz:n≠0):qt [aX n d] H=some (i8 (invQ n d),H):=by
 refine dZ (args:=[aX n d]) (H':=⟨0,[]⟩) ?_ (.cons fU .nil) lH;show zT [aX n d] ⟨0,[]⟩=_;unfold zT Ie;rw[iB];simp! only[ng,pR,w8 hz (kq h) (mE h)];rfl
theorem Xj:cz .max2 [V.int x,V.int y] H=some (V.int (imax x y),H):=rfl
theorem ZK:binOp .Pow (V.int 2) (V.int 64) H=some (V.int 18446744073709551616,H):=rfl
theorem Y8(h:x<y):bu .GtE (V.int x) (V.int y) H=some false:=by
 show some (!ilt x y)=_;rw[ilt_eq];simpa using h
theorem Ta(h:cM n d):qC [aX n d] H=some (.bool false,H):=by
 refine dZ (args:=[aX n d]) (H':=⟨0,[]⟩) ?_ (.cons fU .nil) (.bool _);show wt [aX n d] ⟨0,[]⟩=_;unfold wt Gb;rw[iB];have b:imax (Int.ofNat n.natAbs) (Int.ofNat d)<18446744073709551616:=by
  have h1:=h.1;have h2:=h.2.2;unfold imax;split
  ·have:(Int.ofNat d)=(d:Int):=rfl
   lia
  ·have:(Int.ofNat n.natAbs)=((n.natAbs:Nat):Int):=rfl
   lia
 simp! only[ng,pR,K7,Xj,ZK,Y8 b];rfl
end
end
section
open PySem
noncomputable def encM(x y:Nat):V:=.tup [.int (.ofNat x),.int (.ofNat y)]
noncomputable def bU(x y:Nat):List Int:=[.ofNat x,.ofNat y]
set_option genCtorIdx true in
inductive Od where
 |lex|iH|grevlex
noncomputable def gr:Od->Bool
 |.lex=>false
 |_=>true
noncomputable def aK:Od->V
 |.lex=>.str [108,101,120]
 |.iH=>.str [103,114,108,101,120]
 |.grevlex=>.str [103,114,101,118,108,101,120]
def keyV:Od->Nat->Nat->V
 |.lex,x,y=>encM x y
 |.iH,x,y=>.tup [.int (.ofNat (x+y)),.int (.ofNat x),.int (.ofNat y)]
 |.grevlex,x,y=>.tup [.int (.ofNat (x+y)),.int (-.ofNat y),.int (-.ofNat x)]
noncomputable def gtM(o:Bool)(x y x' y':Nat):Bool:=match o with
 |false=>match aF x x' with
  |true=>c8 y' y
  |false=>c8 x' x
 |true=>match aF (Nat.add x y) (Nat.add x' y')with
  |true=>c8 x' x
  |false=>c8 (Nat.add x' y') (Nat.add x y)
noncomputable def dvd'(x y x' y':Nat):Bool:=match b8 x x' with
 |true=>b8 y y'
 |false=>false
section
variable {H:Hp} {x y x' y':Nat}
theorem eX:NR (encM x y):=.tup (.cons (.int _) (.cons (.int _) .nil))
theorem kO:FL (encM x y):=.tup (.cons (.int _) (.cons (.int _) .nil))
theorem fb:∀{o:Od},NR (aK o)
 |.lex=>.str _
 |.iH=>.str _
 |.grevlex=>.str _
theorem IT:∀{o:Od},FL (keyV o x y)
 |.lex=>kO
 |.iH=>.tup (.cons (.int _) (.cons (.int _) (.cons (.int _) .nil)))
 |.grevlex=>.tup (.cons (.int _) (.cons (.int _) (.cons (.int _) .nil)))
theorem B5(hx:x<=1000)(hy:y<=1000):cz .sum [encM x y] H=some (V.int (.ofNat (x+y)),H):=by
 show guard' true (retI (sumI [.int (.ofNat x),.int (.ofNat y)]) H)=_;have h:∀{z:Nat},z<=1000->inB (-1000000000) 1000000000 (.ofNat z)=true:=fun{z} hz=>by
  unfold inB;have h1:ilt (.ofNat z) (-1000000000)=false:=rfl;have h2:ilt 1000000000 (.ofNat z)=false:=by
   rw[ilt_eq];simp;lia
  rw[h1,h2]
 simp only[sumI,h hx,h hy];rfl
theorem rF:lockH H [.lst l]=H:=rfl
theorem DZ:lockH H [.dct l]=H:=rfl
theorem mN:sunl es [.lst l] (some (f,ρ,H))=some (f,ρ,H):=rfl
theorem AH:sunl es [.dct l] (some (f,ρ,H))=some (f,ρ,H):=rfl
theorem Q4(o:Od)(hx:x<=1000)(hy:y<=1000):∃H',Bu [aK o,encM x y] ⟨0,[]⟩=some (keyV o x y,H'):=by
 unfold Bu DB;rw[dC]
 induction o using Internal.Od.casesOn with
 |lex=>
  refine⟨⟨0,[]⟩,?_⟩;have e:∀H,bu .Eq (aK .lex) (V.str [108,101,120]) H=some true:=fun _=>rfl;simp! only[e];rfl
 |iH=>
  refine⟨⟨0,[]⟩,?_⟩;have e:∀H,bu .Eq (aK .iH) (V.str [108,101,120]) H=some false:=fun _=>rfl;have e2:∀H,bu .Eq (aK .iH) (V.str [103,114,108,101,120]) H=some true:=fun _=>rfl;simp! only[e,e2,B5 hx hy];rfl
 |grevlex=>
  refine⟨⟨1,[]⟩,?_⟩;have e:∀H,bu .Eq (aK .grevlex) (V.str [108,101,120]) H=some false:=fun _=>rfl;have e2:∀H,bu .Eq (aK .grevlex) (V.str [103,114,108,101,120]) H=some false:=fun _=>rfl;have e3:∀H,bu .Eq (aK .grevlex) (V.str [103,114,101,118,108,101,120]) H=some true:=fun _=>rfl;simp! only[e,e2,e3,B5 hx hy];rfl
theorem uq(hx:x<=1000)(hy:y<=1000):kB [aK o,encM x y] H=some (keyV o x y,H):=by
 exists aD (Q4 o hx hy),H',e;refine dZ (args:=[aK o,encM x y]) (H':=H') ?_ ?_ IT
 ·induction o using Internal.Od.casesOn <;> exact e
 ·induction o using Internal.Od.casesOn <;> exact .cons (.str _) (.cons eX .nil)
theorem Uh:wN [encM x y,encM x' y'] H=some (encM (x+x') (y+y'),H):=
 dZ (args:=[encM x y,encM x' y']) (H':=⟨1,[]⟩) rfl (.cons eX (.cons eX .nil)) kO
theorem CQ(hx:x'<=x)(hy:y'<=y):nR [encM x y,encM x' y'] H=some (encM (x - x') (y - y'),H):=by
 have e:HR [encM x y,encM x' y'] ⟨0,[]⟩=some (.tup [.int (Int.ofNat x - Int.ofNat x'),.int (Int.ofNat y - Int.ofNat y')],⟨1,[]⟩):=rfl;have e1:Int.ofNat x - Int.ofNat x'=Int.ofNat (x - x'):=by
  have:(Int.ofNat (x - x'))=((x - x':Nat):Int):=rfl;rw[this];simp;exact Eq.symm (Int.ofNat_sub hx)
 have e2:Int.ofNat y - Int.ofNat y'=Int.ofNat (y - y'):=by
  have:(Int.ofNat (y - y'))=((y - y':Nat):Int):=rfl;rw[this];simp;exact Eq.symm (Int.ofNat_sub hy)
 rw[e1,e2]at e;exact dZ (args:=[encM x y,encM x' y']) e (.cons eX (.cons eX .nil)) kO
theorem xb:imax (.ofNat x) (.ofNat y) = .ofNat (max x y):=by
 unfold imax;rw[ilt_eq];split
 ·rename_i h;have h:(x:Int)<y:=by simpa using h
  rw[Nat.max_eq_right (by lia)]
 ·rename_i h;have h:¬ (x:Int)<y:=by simpa using h
  rw[Nat.max_eq_left (by lia)]
theorem wK:lT (.ofNat x) (.ofNat y) = .ofNat (min x y):=by
 unfold lT;rw[ilt_eq];split
 ·rename_i h;have h:(y:Int)<x:=by simpa using h
  rw[Nat.min_eq_right (by lia)]
 ·rename_i h;have h:¬ (y:Int)<x:=by simpa using h
  rw[Nat.min_eq_left (by lia)]
theorem zu:sS [encM x y,encM x' y'] H=some (encM (max x x') (max y y'),H):=by
 have e:Dl [encM x y,encM x' y'] ⟨0,[]⟩=some (.tup [.int (imax (.ofNat x) (.ofNat x')),.int (imax (.ofNat y) (.ofNat y'))],⟨1,[]⟩):=rfl;rw[xb,xb]at e;exact dZ (args:=[encM x y,encM x' y']) e (.cons eX (.cons eX .nil)) kO
theorem X0:zg [encM x y,encM x' y'] H=some (encM (min x x') (min y y'),H):=by
 have e:DC [encM x y,encM x' y'] ⟨0,[]⟩=some (.tup [.int (lT (.ofNat x) (.ofNat x')),.int (lT (.ofNat y) (.ofNat y'))],⟨1,[]⟩):=rfl;rw[wK,wK]at e;exact dZ (args:=[encM x y,encM x' y']) e (.cons eX (.cons eX .nil)) kO
theorem UN(a b:Nat):c8 a b = !b8 b a:=by
 induction h:b8 b a using aB with
 |true=>
  have:b<=a:=bC h;exact gP.mpr fun q=>by
   have:a+1<=b:=bC q
   lia
 |false=>
  have:¬ b<=a:=fun q=>by rw[fq q]at h;exact bt h
  exact fq (W.X.blt_false h)
theorem FC:oO [encM x y,encM x' y'] H=some (.bool (dvd' x y x' y'),H):=by
 refine dZ (args:=[encM x y,encM x' y']) (H':=⟨0,[]⟩) ?_ (.cons eX (.cons eX .nil)) (.bool _);show yY [encM x y,encM x' y'] ⟨0,[]⟩=_;unfold yY DF;rw[dC];have it:∀H,iterOf H .enum [encM x y]=some [.tup [.int 0,.int (.ofNat x)],.tup [.int 1,.int (.ofNat y)]]:=fun _=>rfl;have l1:∀H,lockH H [encM x y]=H:=fun _=>rfl;have sl:∀es f ρ H,sunl es [encM x y] (some (f,ρ,H))=some (f,ρ,H):=fun _ _ _ _=>rfl;have s0:∀H,subs H (encM x' y') (V.int 0)=some (V.int (.ofNat x')):=fun _=>rfl;have s1:∀H,subs H (encM x' y') (V.int 1)=some (V.int (.ofNat y')):=fun _=>rfl;have c:∀a b H,bu .Gt (V.int (.ofNat a)) (V.int (.ofNat b)) H=some (!b8 a b):=fun a b H=>by
  rw[<- UN];rfl
 simp! only[it,l1,s0,s1,c];unfold dvd'
 induction h1:b8 x x' using aB with
 |false=>simp! only[Bool.not_false,sl];rfl
 |true=>
  induction h2:b8 y y' using aB with
  |false=>simp! only[Bool.not_true,Bool.not_false,it,l1,s0,s1,c,h2,sl];rfl
  |true=>simp! only[Bool.not_true,it,l1,s0,s1,c,h2,sl];rfl
theorem Za(hx:x<=1000)(hy:y<=1000):yJ [encM x y,encM x' y'] H=some (.bool (aF (min x x'+min y y') 0),H):=by
 refine dZ (args:=[encM x y,encM x' y']) (H':=⟨0,[]⟩) ?_ (.cons eX (.cons eX .nil)) (.bool _);show Cw [encM x y,encM x' y'] ⟨0,[]⟩=_;unfold Cw JJ;rw[dC];have h1:min x x'<=1000:=bx (Nat.min_le_left _ _) hx;have h2:min y y'<=1000:=bx (Nat.min_le_left _ _) hy;simp! only[X0,B5 h1 h2];rfl
theorem MH:bu .Gt (V.tup [.int a,.int b]) (V.tup [.int c,.int d]) H=some (if a=c then (if b=d then false else decide (d<b))else decide (c<a)):=by
 show fM true (tcmp true 7) [.int a,.int b] [.int c,.int d]=_;show(match ieq a c with
  |true=>(match ieq b d with
   |true=>some false
   |false=>some (ilt d b))
  |false=>some (ilt c a))=_
 rw[ieq_eq,ieq_eq,ilt_eq,ilt_eq];by_cases h:a=c
 ·rw[if_pos h,decide_eq_true h];dsimp only;by_cases h:b=d
  ·rw[if_pos h,decide_eq_true h]
  ·rw[if_neg h,decide_eq_false h]
 ·rw[if_neg h,decide_eq_false h]
theorem EE:bu .Gt (V.tup [.int a,.int b,.int c]) (V.tup [.int a',.int b',.int c']) H=some (if a=a' then (if b=b' then (if c=c' then false else decide (c'<c))else decide (b'<b))else decide (a'<a)):=by
 show(match ieq a a' with
  |true=>(match ieq b b' with
   |true=>(match ieq c c' with
    |true=>some false
    |false=>some (ilt c' c))
   |false=>some (ilt b' b))
  |false=>some (ilt a' a))=_
 rw[ieq_eq,ieq_eq,ieq_eq,ilt_eq,ilt_eq,ilt_eq];by_cases h:a=a'
 ·rw[if_pos h,decide_eq_true h];dsimp only;by_cases h:b=b'
  ·rw[if_pos h,decide_eq_true h];dsimp only;by_cases h:c=c'
   ·rw[if_pos h,decide_eq_true h]
   ·rw[if_neg h,decide_eq_false h]
  ·rw[if_neg h,decide_eq_false h]
 ·rw[if_neg h,decide_eq_false h]
theorem v5(o:Bool):gtM o x y x' y'=true↔(match o with
  |false=>x'<x\/(x=x'/\y'<y)
  |true=>x'+y'<x+y\/(x+y=x'+y'/\x'<x)):=by
 induction o using aB with
 |false=>
  unfold gtM;dsimp only
  induction h:aF x x' using aB with
  |true=>
   rw[Nat.beq_eq]at h;simp [c8];lia
  |false=>
   have:x≠x':=fun q=>by rw[q,ew]at h;exact bt h
   simp [c8];lia
 |true=>
  unfold gtM;dsimp only
  induction h:aF (Nat.add x y) (Nat.add x' y')using aB with
  |true=>
   rw[Nat.beq_eq]at h;have h:x+y=x'+y':=h;simp [c8];lia
  |false=>
   have:x+y≠x'+y':=fun q=>by
    have q:Nat.add x y=Nat.add x' y':=q;rw[q,ew]at h;exact bt h
   simp only[c8,Nat.add_eq,Nat.ble_eq]
   lia
theorem Ez(o:Od):bu .Gt (keyV o x y) (keyV o x' y') H=some (gtM (gr o) x y x' y'):=by
 induction o using Internal.Od.casesOn with
 |lex=>
  refine MH.trans (congrArg some ?_);rw[g8];refine Iff.trans ?_ (v5 false).symm;dsimp only;split
  ·split <;> simp at * <;> lia
  ·simp at *;lia
 |iH=>
  refine EE.trans (congrArg some ?_);rw[g8];refine Iff.trans ?_ (v5 true).symm;dsimp only;split
  ·split
   ·split <;> simp at * <;> lia
   ·simp at *;lia
  ·simp at *;lia
 |grevlex=>
  refine EE.trans (congrArg some ?_);rw[g8];refine Iff.trans ?_ (v5 true).symm;dsimp only;split
  ·split
   ·split <;> simp at * <;> lia
   ·simp at *;lia
  ·simp at *;lia
end
end
section
open PySem
structure T where
 x:Nat
 y:Nat
 n:Int
 d:Nat
noncomputable abbrev Po:=List T
theorem jY{B:Type}{x:Option Po}{f:Po->Option B}{b:B}{P:Prop}(h:(match x with|none=>none|some a=>f a)=some b)(k:∀a,x=some a->f a=some b->P):P:=by induction x using aL with|none=>exact nq h|some a=>exact k a rfl h
theorem OC{B:Type}{x:Option T}{f:T->Option B}{b:B}{P:Prop}(h:(match x with|some a=>f a|none=>none)=some b)(k:∀a,x=some a->f a=some b->P):P:=by induction x using aL with|none=>exact nq h|some a=>exact k a rfl h
theorem Iq{B:Type}{x:Option T}{f:T->Option B}{b:B}{P:Prop}(h:(match x with|none=>none|some a=>f a)=some b)(k:∀a,x=some a->f a=some b->P):P:=by induction x using aL with|none=>exact nq h|some a=>exact k a rfl h
theorem Nc{B:Type}{x:Option (List Po)}{f:List Po->Option B}{b:B}{P:Prop}(h:(match x with|none=>none|some a=>f a)=some b)(k:∀a,x=some a->f a=some b->P):P:=by induction x using aL with|none=>exact nq h|some a=>exact k a rfl h
def encT(t:T):List Int×V:=(bU t.x t.y,aX t.n t.d)
def aj(p:Po):List (List Int×V):=p.map encT
noncomputable def bJ(x y x' y':Nat):Bool:=match aF x x' with
 |true=>aF y y'
 |false=>false
def getT:Po->Nat->Nat->Option T
 |[],_,_=>none
 |t::r,x,y=>match bJ t.x t.y x y with
  |true=>some t
  |false=>getT r x y
def setT:Po->T->Po
 |[],t=>[t]
 |h::r,t=>match bJ h.x h.y t.x t.y with
  |true=>⟨h.x,h.y,t.n,t.d⟩::r
  |false=>h::setT r t
def delT:Po->Nat->Nat->Po
 |[],_,_=>[]
 |h::r,x,y=>match bJ h.x h.y x y with
  |true=>r
  |false=>h::delT r x y
def addZ(h:T)(r:Po)(q:Int×Nat):Po:=match isZ' q.1 with
 |true=>r
 |false=>⟨h.x,h.y,q.1,q.2⟩::r
def addT:Po->T->Po
 |[],t=>[t]
 |h::r,t=>match bJ h.x h.y t.x t.y with
  |true=>addZ h r (addQ h.n h.d t.n t.d)
  |false=>h::addT r t
def addP(a:Po):Po->Po
 |[]=>a
 |t::r=>addP (addT a t) r
noncomputable def negT(t:T):T:=⟨t.x,t.y,-t.n,t.d⟩
def mulT(x y:Nat)(n:Int)(d:Nat)(t:T):T:=let q:=mulQ t.n t.d n d;⟨Nat.add t.x x,Nat.add t.y y,q.1,q.2⟩
noncomputable def Nd(p:Po):Prop:=p.Pairwise fun a b=>¬ (a.x=b.x/\a.y=b.y)
noncomputable def sE(t:T):Prop:=t.x<=8/\t.y<=8/\cM t.n t.d/\t.n≠0
noncomputable def aW(p:Po):Prop:=p.length<=1000/\(∀t∈p,sE t)/\Nd p
theorem i3(x y x' y':Nat):bJ x y x' y'=true↔x=x'/\y=y':=by
 unfold bJ
 induction h:aF x x' using aB with
 |true=>rw[Nat.beq_eq]at h;simp [h]
 |false=>
  have:x≠x':=fun q=>by rw[q,ew]at h;exact bt h
  simp [this]
theorem rm(x y x' y':Nat):keq (bU x y) (bU x' y')=bJ x y x' y':=by
 rw[g8,keq_iff,i3];unfold bU;simp
 lia
theorem nB(p:Po):∀(x y:Nat),dget (aj p) (bU x y)=(getT p x y).map fun t=>aX t.n t.d:=by
 induction p with
 |nil=>
  intro _ _;exact rfl
 |cons t r ih=>
  intro x y;show(match keq (bU t.x t.y) (bU x y)with
   |true=>some (aX t.n t.d)
   |false=>dget (aj r) (bU x y))=_
  rw[rm];dsimp only[getT]
  induction bJ t.x t.y x y using aB with
  |true=>rfl
  |false=>exact ih x y
theorem so(p:Po):∀(x y:Nat) (n:Int) (d:Nat),dset (aj p) (bU x y) (aX n d)=aj (setT p ⟨x,y,n,d⟩):=by
 induction p with
 |nil=>
  intro _ _ _ _;exact rfl
 |cons t r ih=>
  intro x y n d;show(match keq (bU t.x t.y) (bU x y)with
   |true=>(bU t.x t.y,aX n d)::aj r
   |false=>encT t::dset (aj r) (bU x y) (aX n d))=_
  rw[rm];dsimp only[setT]
  induction bJ t.x t.y x y using aB with
  |true=>rfl
  |false=>show encT t::_=_;rw[ih];rfl
theorem EU(p:Po):∀(x y:Nat),ddel (aj p) (bU x y)=aj (delT p x y):=by
 induction p with
 |nil=>
  intro _ _;exact rfl
 |cons t r ih=>
  intro x y;show(match keq (bU t.x t.y) (bU x y)with
   |true=>aj r
   |false=>encT t::ddel (aj r) (bU x y))=_
  rw[rm];dsimp only[delT]
  induction bJ t.x t.y x y using aB with
  |true=>rfl
  |false=>show encT t::_=_;rw[ih];rfl
theorem TX:∀{x y:Nat} {t:T},getT p x y=some t->t∈p/\t.x=x/\t.y=y:=by
 induction p with
 |nil=>
  intro _ _ _ e;exact nq e
 |cons h r ih=>
  intro x y t e;dsimp only[getT]at e;split at e
  ·rename_i q;exists e;exists ak ((i3 _ _ _ _).mp q),a,b;exact⟨.head _,a,b⟩
  ·exists ak (ih e),a,b;exact⟨.tail _ a,b⟩
theorem qG(e:bJ h.x h.y t.x t.y=false):setT (h::r) t=h::setT r t:=by
 show(match bJ h.x h.y t.x t.y with
  |true=>(⟨h.x,h.y,t.n,t.d⟩:T)::r
  |false=>h::setT r t)=_
 rw[e]
theorem MW(e:bJ h.x h.y x y=false):delT (h::r) x y=h::delT r x y:=by
 show(match bJ h.x h.y x y with
  |true=>r
  |false=>h::delT r x y)=_
 rw[e]
theorem addT_eq(p:Po):∀(t:T),addT p t=match getT p t.x t.y with
  |none=>setT p t
  |some h=>match isZ' (addQ h.n h.d t.n t.d).1 with
   |true=>delT p t.x t.y
   |false=>setT p ⟨t.x,t.y,(addQ h.n h.d t.n t.d).1,(addQ h.n h.d t.n t.d).2⟩:=by
 induction p with
 |nil=>
  intro t;exact rfl
 |cons h r ih=>
  intro t;dsimp only[addT,getT]
  induction e:bJ h.x h.y t.x t.y using aB with
  |true=>
   dsimp only;unfold addZ
   induction isZ' (addQ h.n h.d t.n t.d).1 using aB with
   |true=>dsimp only;dsimp only[delT];rw[e]
   |false=>dsimp only;unfold setT;dsimp only;rw[e]
  |false=>
   dsimp only;rw[ih t]
   induction getT r t.x t.y using aL with
   |none=>exact(qG e).symm
   |some g=>
    dsimp only
    induction isZ' (addQ g.n g.d t.n t.d).1 using aB with
    |true=>exact(MW e).symm
    |false=>
     dsimp only;exact(qG (t:=⟨t.x,t.y,(addQ g.n g.d t.n t.d).1,(addQ g.n g.d t.n t.d).2⟩) e).symm
theorem Tb(h:¬ (t.x=x/\t.y=y)):getT (addT p t) x y=getT p x y:=by
 induction p with
 |nil=>
  show(match bJ t.x t.y x y with
   |true=>some t
   |false=>getT [] x y)=_
  have:bJ t.x t.y x y=false:=gP.mpr fun q=>h ((i3 _ _ _ _).mp q);rw[this]
 |cons a r ih=>
  dsimp only[addT]
  induction e:bJ a.x a.y t.x t.y using aB with
  |true=>
   exists ak ((i3 _ _ _ _).mp e),e1,e2;have e3:bJ a.x a.y x y=false:=gP.mpr fun q=>h (by
    exists ak ((i3 _ _ _ _).mp q),q1,q2;exact⟨e1.symm.trans q1,e2.symm.trans q2⟩)
   dsimp only;unfold addZ;split
   ·rw[getT.eq_2,e3]
   ·rw[getT.eq_2,getT.eq_2];dsimp only;rw[e3]
  |false=>
   dsimp only;rw[getT.eq_2,getT.eq_2];clear e h;induction bJ a.x a.y x y using aB with
   |true=>rfl
   |false=>exact ih
theorem X7:(addZ h r q).length<=r.length+1:=by
 unfold addZ;split <;> simp
theorem Vf:(addT p t).length<=p.length+1:=by
 induction p with
 |nil=>exact cw _
 |cons a r ih=>
  dsimp only[addT];split
  ·exact bx X7 (by simp)
  ·simpa using ih
noncomputable def WF(H:Hp):Prop:=∀e∈H.es,e.id<H.nxt
theorem Cs:(∀e∈es,e.id<n)->dropNew n es=es:=by
 induction es with
 |nil=>
  intro _;exact rfl
 |cons e r ih=>
  intro h;dsimp only[dropNew];have h1:=h e (.head _);have:b8 n e.id=false:=gP.mpr fun q=>by
   have:=bC q
   lia
  rw[this];dsimp only;rw[ih fun e m=>h e (.tail _ m)]
theorem y5(h:∀e∈es,e.id<n):∀e∈put es k lk o,e.id<n:=fun e m=>by
 have:e.id∈(put es k lk o).map (·.id):=List.mem_map_of_mem m;rw[put_ids]at this;exists ae (cE.mp this),e',m',q;rw[<- q];exact h e' m'
theorem WF.set(h:WF H):WF (setObj H k o):=y5 h
theorem WF.new(h:WF H):WF (newObj H o).2:=fun e m=>by
 rcases aH.mp m with rfl|m
 ·exact Nat.lt_succ_self _
 ·exact Nat.lt_succ_of_lt (h e m)
theorem QK(hn:H'.nxt=H.nxt)(h:WF H'):leave false H H' .none=(.none,H'):=by
 show(V.none,(⟨H'.nxt,dropNew H.nxt H'.es⟩:Hp))=_;rw[Cs (by rw[<- hn];exact h)]
theorem Bj(h:WF H):leave false H (setObj H k o) .none=(.none,setObj H k o):=QK rfl h.set
section
variable {H:Hp} {k:Nat} {l:List (List Int×V)}
noncomputable def bS(H:Hp)(k:Nat)(l:List (List Int×V)):Prop:=look H.es k=some ⟨k,false,.dict l⟩
noncomputable def aq(H:Hp)(k:Nat)(l:List V):Prop:=look H.es k=some ⟨k,false,.list l⟩
theorem bS.view(h:bS H k l):dictView H (.ref k)=some l:=by
 show(match look H.es k with|some e=>(match e.obj with|.dict l=>some l|.list _=>none)|none=>none)=_
 rw[h]
theorem bS.own(h:bS H k l):own H (.ref k)=some (k,.dict l):=by
 show(match look H.es k with|some e=>(match e.lock with|true=>none|false=>some (k,e.obj))|none=>none)=_
 rw[h]
theorem aq.view{l:List V}(h:aq H k l):listView H (.ref k)=some l:=by
 show(match look H.es k with|some e=>(match e.obj with|.list l=>some l|.dict _=>none)|none=>none)=_
 rw[h]
theorem aq.own{l:List V}(h:aq H k l):own H (.ref k)=some (k,.list l):=by
 show(match look H.es k with|some e=>(match e.lock with|true=>none|false=>some (k,e.obj))|none=>none)=_
 rw[h]
theorem uj(h:dictView H v=some l):bu .In (encM x y) v H=some (dget l (bU x y)).isSome:=by
 show(match dictView H v with|some l=>inD l (encM x y)|none=>inS H (encM x y) v)=_
 rw[h];rfl
theorem wG(h:dictView H v=some l):subs H v (encM x y)=dget l (bU x y):=by
 show(match dictView H v with|some l=>subD l (encM x y)|none=>_)=_
 rw[h];rfl
theorem cT{A:Type}{l:List A}(h:l.length<=100000):lenOk l=true:=fq (bx h dq)
theorem VS(h:bS H k l)(hl:l.length<=100000)(hg:dget l (bU x y)=some v)(d:V):eC .dpopN (.ref k) [encM x y,d] H=some (v,setObj H k (.dict (ddel l (bU x y)))):=by
 unfold eC;rw[h.own];show guard' (lenOk l) (yH (some d) k l (bU x y) H (dget l (bU x y)))=_;rw[cT hl,hg];rfl
theorem R6(h:bS H k l)(hl:l.length<=100000)(hg:dget l (bU x y)=some v):eC .dpop1 (.ref k) [encM x y] H=some (v,setObj H k (.dict (ddel l (bU x y)))):=by
 unfold eC;rw[h.own];show guard' (lenOk l) (yH none k l (bU x y) H (dget l (bU x y)))=_;rw[cT hl,hg];rfl
theorem uN(h:bS H k l)(hl:l.length<=100000):iI H (.ref k) (encM x y) v=some (setObj H k (.dict (dset l (bU x y) v))):=by
 unfold iI;rw[h.own];show guard' (lenOk l) _=_;rw[cT hl];rfl
theorem U6(h:bS H k l):fZ .dpopN (own H (.ref k))=true:=by rw[h.own];rfl
theorem WU(h:bS H k l):fZ .dpop1 (own H (.ref k))=true:=by rw[h.own];rfl
theorem Cj(h:n=0->d=1):bu .Eq (aX n d) (V.tup [.int 0,.int 1]) H=some (isZ' n):=by
 show some (match ieq n 0 with
  |true=>(match aF d 1 with
   |true=>true
   |false=>false)
  |false=>false)=_
 rw[ieq_eq,qM];by_cases hn:n=0
 ·rw[h hn,decide_eq_true hn]
 ·rw[decide_eq_false hn]
theorem Mf(hd:0<d)(h:(fV n d).1=0):(fV n d).2=1:=by
 unfold fV at h ⊢;split
 ·rfl
 ·rename_i e;rw[e]at h;dsimp only at h;have hg:0<cc n.natAbs d:=Nat.gcd_pos_of_pos_right _ hd;exists aD (natAbs_dvd (Nat.gcd_dvd_left n.natAbs d)),j,hj;have h2:=uw hg hj;have h3:ff n (cc n.natAbs d)=0:=h;rw[h3]at h2;have hn:n=0:=by rw[<- h2,Int.zero_mul]
  clear h3 h2 hj hg e h;subst hn;show d / cc 0 d=1;rw[Nat.gcd_zero_left,Nat.div_self hd]
theorem Oc(h:cM n d)(h':cM n' d')(e:(addQ n d n' d').1=0):(addQ n d n' d').2=1:=by
 unfold addQ at e ⊢;split
 ·rfl
 ·rename_i q;rw[q]at e;exact Mf (Nat.mul_pos h.2.1 h'.2.1) e
theorem IM(h:bS H k (aj p))(w:WF H)(hl:p.length<=10000)(hp:∀g,getT p t.x t.y=some g->cM g.n g.d)(ht:cM t.n t.d)(hz:t.n≠0) :
  mK [.ref k,encM t.x t.y,aX t.n t.d] H=some (.none,setObj H k (.dict (aj (addT p t)))):=by
 have hlen:(aj p).length<=100000:=by unfold aj;rw[aJ];lia
 unfold mK Ir GA;rw[i9,addT_eq];have hi:bu .In (encM t.x t.y) (.ref k) H=some (getT p t.x t.y).isSome:=by
  rw[uj h.view,nB];clear hlen hz ht hp hl w h;induction getT p t.x t.y using aL <;> rfl
 clear hl;induction e:getT p t.x t.y using aL with
 |none=>
  rw[e]at hi;have hr:∀H,bu .Eq (aX t.n t.d) (V.tup [.int 0,.int 1]) H=some false:=fun H=>by
   rw[Cj fun q=>(hz q).elim,qM,decide_eq_false hz]
  simp! only[hi,Option.isSome_none,hr,uN h hlen,so];rw[Bj w]
 |some g=>
  rw[e]at hi;have hs:subs H (.ref k) (encM t.x t.y)=some (aX g.n g.d):=by
   rw[wG h.view,nB,e];rfl
  have hg:=hp g e;have hr:∀H,bu .Eq (i8 (addQ g.n g.d t.n t.d)) (V.tup [.int 0,.int 1]) H=some (isZ' (addQ g.n g.d t.n t.d).1):=fun H=>Cj (Oc hg ht);simp! only[hi,Option.isSome_some,hs,Hw hg ht,hr]
  induction isZ' (addQ g.n g.d t.n t.d).1 using aB with
  |true=>
   have hd:dget (aj p) (bU t.x t.y)=some (aX g.n g.d):=by rw[nB,e];rfl
   simp! only[U6 h,VS h hlen hd,EU];rw[Bj w]
  |false=>
   simp! only[uN h hlen,i8,so];rw[Bj w]
end
end
section
open PySem
section
variable {H:Hp}
theorem wb(p:Po):FLe (aj p):=by
 induction p with
 |nil=>
  exact .nil
 |cons t r ih=>
  exact .cons lH (ih)
theorem YG(p:Po):iJ (aj p):=by
 induction p with
 |nil=>
  exact .nil
 |cons t r ih=>
  exact .cons fU (ih)
theorem dG:NR (.dct (aj p)):=.dct (YG p)
theorem xO(h:Nd (t::r)):(∀u∈r,¬ (t.x=u.x/\t.y=u.y))/\Nd r:=List.pairwise_cons.mp h
theorem Xb:∀{x y:Nat},(∀u∈p,¬ (u.x=x/\u.y=y))->getT p x y=none:=by
 induction p with
 |nil=>
  intro _ _ _;exact rfl
 |cons t r ih=>
  intro x y h;have h1:bJ t.x t.y x y=false:=gP.mpr fun q=>h t (.head _) ((i3 _ _ _ _).mp q);rw[getT.eq_2,h1];exact ih fun u m=>h u (.tail _ m)
theorem GP:Nd p->∀{t:T},t∈p->getT p t.x t.y=some t:=by
 induction p with
 |nil=>
  intro _ _ m;cases m
 |cons a r ih=>
  intro h t m;exists ak (xO h),h1,h2;rcases aH.mp m with rfl|m
  ·rw[getT.eq_2,(i3 _ _ _ _).mpr ⟨rfl,rfl⟩]
  ·have h3:bJ a.x a.y t.x t.y=false:=gP.mpr fun q=>h1 t m ((i3 _ _ _ _).mp q);rw[getT.eq_2,h3];exact ih h2 m
theorem J6(h:∀t∈p,sE t):smallKeys (aj p)=true:=by
 induction p with
 |nil=>rfl
 |cons t r ih=>
  have ht:=h t (.head _);show(match band (b8 t.x 8) (b8 t.y 8)with
   |true=>smallKeys (aj r)
   |false=>false)=true
  rw[fq ht.1,fq ht.2.1];exact ih fun u m=>h u (.tail _ m)
theorem gV:(aj p).length=p.length:=aJ _
theorem Ab(h:p.length<=100000):lenOk (aj p)=true:=cT (by rw[gV];exact h)
theorem pK:iterOf H .seq [.dct (aj p)]=some (p.map fun t=>encM t.x t.y):=by
 show some ((aj p).map fun e=>ofKey e.1)=_;unfold aj;rw[d5];rfl
theorem pE(hp:Nd p)(m:t∈p):subs H (.dct (aj p)) (encM t.x t.y)=some (aX t.n t.d):=by
 rw[wG (l:=aj p) rfl,nB,GP hp m];rfl
theorem YB(hb:Nd b)(hq:∀t∈b,cM t.n t.d/\t.n≠0):∀(s:Po) (a:Po) (o:Option V),(∀t∈s,t∈b)->Nd s->a.length+s.length<=10000->(∀t∈s,∀g,getT a t.x t.y=some g->cM g.n g.d)->
  ∃o',loopF [3] false (denSs (denS 19) [.expr (.call mK [.var 2,.var 3,.sub (.var 1) (.var 3)])]) (s.map fun t=>encM t.x t.y) (x0::some (.dct (aj b))::some (.ref 0)::o::r) ⟨1,[⟨0,false,.dict (aj a)⟩]⟩ =
   some (.next,x0::some (.dct (aj b))::some (.ref 0)::o'::r,⟨1,[⟨0,false,.dict (aj (addP a s))⟩]⟩):=by
 intro s
 induction s with
 |nil=>intro a o _ _ _ _;exact⟨o,rfl⟩
 |cons t s ih=>
  intro a o hs hn hl hg;exists ak (xO hn),r8,gz;have hl:a.length+(s.length+1)<=10000:=hl;have fO:∀H,subs H (.dct (aj b)) (encM t.x t.y)=some (aX t.n t.d):=fun H=>pE hb (hs t (.head _));have Wo:=IM (H:=⟨1,[⟨0,false,.dict (aj a)⟩]⟩) (k:=0) (p:=a) (t:=t) rfl (fun e m=>by cases c9.mp m;exact Nat.zero_lt_one) (by lia) (hg t (.head _)) (hq t (hs t (.head _))).1 (hq t (hs t (.head _))).2;obtain⟨o',e⟩:=ih (addT a t) (some (encM t.x t.y)) (fun u m=>hs u (.tail _ m)) gz (by have:=Vf (p:=a) (t:=t);lia) (fun u m g e=>by
   rw[Tb (r8 u m)]at e;exact hg u (.tail _ m) g e)
  refine⟨o',?_⟩;rw[aO,fx];simp! only[fO,Wo];exact e
theorem NL(ha:aW a)(hb:aW b):yG [.dct (aj a),.dct (aj b)] ⟨0,[]⟩=some (.ref 0,⟨1,[⟨0,false,.dict (aj (addP a b))⟩]⟩):=by
 unfold yG HM;rw[dC];have h1:cz .dict [.dct (aj a)] ⟨0,[]⟩=some (.ref 0,⟨1,[⟨0,false,.dict (aj a)⟩]⟩):=by
  show guard' (band (lenOk (aj a)) (smallKeys (aj a))) _=_;rw[Ab (bx ha.1 dq),J6 ha.2.1];rfl
 obtain⟨o',e⟩:=YB hb.2.2 (fun t m=>⟨(hb.2.1 t m).2.2.1,(hb.2.1 t m).2.2.2⟩) (x0:=some (.dct (aj a))) (r:=cu 14 none) b a none (fun _ m=>m) hb.2.2 (by have:=ha.1;have:=hb.1;lia) (fun t m g e=>(ha.2.1 g (TX e).1).2.2.1);simp only[rep0,rep1]at e;simp! only[h1,pK,DZ];rw[e];simp! only[AH];rfl
theorem LZ(h:frz H av = .dct (aj a))(ha:aW a)(hb:aW b):Bh [av,.dct (aj b)] H=some (newObj H (.dict (aj (addP a b)))):=
 FN (args:=[av,.dct (aj b)]) (by rw[aO,h];exact NL ha hb) rfl (by rw[aO,h];exact .cons dG (.cons dG .nil)) (wb _)
theorem vo(h:bS H k l)(hl:lenOk l=true):II k (encM x y) v H=some (setObj H k (.dict (dset l (bU x y) v))):=by
 show(match own H (.ref k)with
  |some p=>match p with
   |(_,o)=>match o with
    |.dict l=>guard' (lenOk l) (some (setObj H k (.dict (dset l (bU x y) v))))
    |.list _=>none
  |none=>none)=_
 rw[h.own];dsimp only;rw[hl];rfl
theorem uz(h:aq H k l)(hl:lenOk l=true):jU k v H=some (setObj H k (.list (l++[v]))):=by
 unfold jU;rw[h.own];dsimp only;rw[hl];rfl
theorem Df(h:getT p t.x t.y=none):setT p t=p++[t]:=by
 induction p with
 |nil=>rfl
 |cons a r ih=>
  have h:(match bJ a.x a.y t.x t.y with
   |true=>some a
   |false=>getT r t.x t.y)=none:=h
  induction e:bJ a.x a.y t.x t.y using aB with
  |true=>rw[e]at h;exact ns h
  |false=>
   rw[e]at h;rw[qG e,ih h];rfl
theorem y7(F:T->T):∀(s acc:Po),(∀t∈s,∀acc:List (List Int×V),lenOk acc=true->f (encM t.x t.y) ⟨1,[⟨0,false,.dict acc⟩]⟩=some ⟨1,[⟨0,false,.dict (dset acc (bU (F t).x (F t).y) (aX (F t).n (F t).d))⟩]⟩)->
  Nd (s.map F)->(∀t∈s,getT acc (F t).x (F t).y=none)->acc.length+s.length<=100000->
  forItems f (s.map fun t=>encM t.x t.y) ⟨1,[⟨0,false,.dict (aj acc)⟩]⟩=some ⟨1,[⟨0,false,.dict (aj (acc++s.map F))⟩]⟩:=by
 intro s
 induction s with
 |nil=>intro acc _ _ _ _;rw[List.map_nil,List.map_nil,gc];rfl
 |cons t s ih=>
  intro acc hf hn hg hl;have hl:acc.length+(s.length+1)<=100000:=hl;exists ak (xO hn),r8,gz;rw[aO];show(match f (encM t.x t.y) ⟨1,[⟨0,false,.dict (aj acc)⟩]⟩with
   |some H=>forItems f (s.map fun t:T=>encM t.x t.y) H
   |none=>none)=_
  rw[hf t (.head _) _ (Ab (by lia)),so,Df (t:=⟨(F t).x,(F t).y,(F t).n,(F t).d⟩) (hg t (.head _))];dsimp only;rw[ih (acc++[F t]) (fun u m=>hf u (.tail _ m)) gz (fun u m=>?_) (by rw[d8];show acc.length+1+s.length<=_;lia)]
  ·rw[jA];rfl
  ·exists Xb,v,mv,q;rcases lO.mp mv with mv|mv
   ·have:=hg u (.tail _ m);have h3:∀(p:Po) x y,getT p x y=none->∀v∈p,¬ (v.x=x/\v.y=y):=by
     intro p x y
     induction p with
     |nil=>intro _ v m;cases m
     |cons a r ih=>
      intro h v m;have h:(match bJ a.x a.y x y with
       |true=>some a
       |false=>getT r x y)=none:=h
      induction e:bJ a.x a.y x y using aB with
      |true=>rw[e]at h;exact ns h
      |false=>
       rw[e]at h;rcases aH.mp m with rfl|m
       ·intro q;rw[(i3 _ _ _ _).mpr q]at e;exact bt e
       ·exact ih h v m
    exact h3 _ _ _ this v mv q
   ·cases c9.mp mv;exact r8 (F u) (List.mem_map_of_mem m) q
theorem Bz(h:forItems f items ⟨1,[⟨0,false,.dict []⟩]⟩=some ⟨1,[⟨0,false,.dict (aj p)⟩]⟩):compGo 0 f items [.dct c] ⟨1,[⟨0,false,.dict []⟩]⟩=some (.ref 0,⟨1,[⟨0,false,.dict (aj p)⟩]⟩):=by
 show dw 0 (unlH _ [.dct c] (forItems f items ⟨1,[⟨0,false,.dict []⟩]⟩))=_;rw[h];rfl
theorem uJ(F:T->T)(hF:∀t u,(F t).x=(F u).x/\(F t).y=(F u).y->t.x=u.x/\t.y=u.y)(h:Nd p):Nd (p.map F):=List.Pairwise.map F (fun a b q z=>q (hF a b z)) h
theorem Gv(h:Nd p):Nd (p.map negT):=uJ negT (fun _ _ q=>q) h
theorem wk(h:Nd p):Nd (p.map (mulT x y n d)):=uJ _ (fun t u q=>by
 have q1:t.x+x=u.x+x:=q.1;have q2:t.y+y=u.y+y:=q.2
 lia) h
theorem TG(hp:Nd p)(hl:p.length<=10000):AR [.dct (aj p)] H=some (.dct (aj (p.map negT)),H):=by
 refine eV (H':=⟨1,[]⟩) ?_ (.cons dG .nil) dG;unfold Ej HP;rw[iB];simp! only[pK];rw[Bz (p:=p.map negT) (y7 negT p [] (fun t m acc ha=>?_) (Gv hp) (fun _ _=>rfl) (by show 0+p.length<=_;lia))]
 ·simp! only[];rfl
 ·have fO:∀H,subs H (.dct (aj p)) (encM t.x t.y)=some (aX t.n t.d):=fun H=>pE hp m;simp! only[fO,Hq];exact vo rfl ha
end
end
section
open PySem
def tj(n:Int)(d:Nat)(t:T):T:=let q:=mulQ t.n t.d n d;⟨t.x,t.y,q.1,q.2⟩
def leadG(o:Bool)(b:T):Po->T
 |[]=>b
 |t::r=>match gtM o t.x t.y b.x b.y with
  |true=>leadG o t r
  |false=>leadG o b r
def lead(o:Bool)(p:Po):Option T:=match p with
 |[]=>none
 |t::r=>some (leadG o t r)
def bW(t:Option T):V:=match t with
 |none=>.none
 |some t=>.tup [encM t.x t.y,aX t.n t.d]
def l8(o:Bool)(p:Po):Po:=match lead o p with
 |none=>[]
 |some t=>p.map (tj (invQ t.n t.d).1 (invQ t.n t.d).2)
theorem Gr(o:Bool)(r:Po):∀(b:T),leadG o b r∈b::r:=by
 induction r with
 |nil=>intro b;exact .head _
 |cons t r ih=>
  intro b;show(match gtM o t.x t.y b.x b.y with
   |true=>leadG o t r
   |false=>leadG o b r)∈_
  induction gtM o t.x t.y b.x b.y using aB with
  |true=>exact .tail _ (ih t)
  |false=>
   rcases aH.mp (ih b)with h|h
   ·show leadG o b r∈_;rw[h];exact .head _
   ·exact .tail _ (.tail _ h)
theorem gy(h:lead o p=some t):t∈p:=by
 induction p using aN with
 |nil=>exact nq h
 |cons a r=>exists h;exact Gr o r a
section
variable {H:Hp}
theorem Y4(h:aW p):aW (p.map negT):=by
 refine⟨by rw[aJ];exact h.1,fun t m=>?_,Gv h.2.2⟩;exists ae (cE.mp m),u,mu,mS;subst mS;exists ft (h.2.1 u mu),a,b,c,d;refine⟨a,b,⟨?_,c.2⟩,fun q=>d ?_⟩
 ·show(-u.n).natAbs<=_;rw[Int.natAbs_neg];exact c.1
 ·have q : -u.n=0:=q
  lia
theorem Ef(h:frz H av = .dct (aj a))(ha:aW a)(hb:aW b):rh [av,.dct (aj b)] H=some (newObj H (.dict (aj (addP a (b.map negT))))):=by
 have e:xt [.dct (aj a),.dct (aj b)] ⟨0,[]⟩=some (.ref 0,⟨1,[⟨0,false,.dict (aj (addP a (b.map negT)))⟩]⟩):=by
  unfold xt ID;rw[dC];simp! only[TG hb.2.2 (bx hb.1 dq),LZ (av:=.dct (aj a)) rfl ha (Y4 hb)];rfl
 exact FN (args:=[av,.dct (aj b)]) (by rw[aO,h];exact e) rfl (by rw[aO,h];exact .cons dG (.cons dG .nil)) (wb _)
theorem GQ(h:n≠0):bu .Eq (aX n d) (V.tup [.int 0,.int 1]) H=some false:=by
 rw[Cj fun q=>(h q).elim,qM,decide_eq_false h]
theorem Pf(hp:aW p)(hq:cM n d)(hz:n≠0):AU [.dct (aj p),aX n d] H=some (.dct (aj (p.map (tj n d))),H):=by
 refine eV (H':=⟨1,[]⟩) ?_ (.cons dG (.cons fU .nil)) dG;unfold DY J8;rw[dC];simp! only[pK,GQ hz];rw[Bz (p:=p.map (tj n d)) (y7 (tj n d) p [] (fun t m acc ha=>?_) (uJ _ (fun _ _ q=>q) hp.2.2) (fun _ _=>rfl) (by show 0+p.length<=_;have:=hp.1;lia))]
 ·simp! only[];rfl
 ·have fO:∀H,subs H (.dct (aj p)) (encM t.x t.y)=some (aX t.n t.d):=fun H=>pE hp.2.2 m;simp! only[fO,CK (hp.2.1 t m).2.2.1 hq];exact vo rfl ha
theorem C5(hp:aW p)(hq:cM n d)(hz:n≠0):om [.dct (aj p),encM x y,aX n d] H=some (.dct (aj (p.map (mulT x y n d))),H):=by
 refine eV (H':=⟨1,[]⟩) ?_ (.cons dG (.cons eX (.cons fU .nil))) dG;unfold Fc IF;rw[i9];simp! only[pK,GQ hz];rw[Bz (p:=p.map (mulT x y n d)) (y7 (mulT x y n d) p [] (fun t m acc ha=>?_) (wk hp.2.2) (fun _ _=>rfl) (by show 0+p.length<=_;have:=hp.1;lia))]
 ·simp! only[];rfl
 ·have fO:∀H,subs H (.dct (aj p)) (encM t.x t.y)=some (aX t.n t.d):=fun H=>pE hp.2.2 m;simp! only[fO,CK (hp.2.1 t m).2.2.1 hq,Uh];exact vo rfl ha
theorem is_none:bu .Is v .none H=some (isNone v):=rfl
theorem Ax:isNone (encM x y)=false:=rfl
theorem PD:isNone (.tup l)=false:=rfl
def xB:List MS:=[.assign 5 (.call kB [.var 1,.var 4]),.if_ (.eT [.cmp .Is (.var 2) (.const .none),.cmp .Gt (.var 5) (.var 3)]) [.unpack [2,3] (.tup [.var 4,.var 5])] []]
theorem Wt(o:Od):∀(s:Po) (b:T) (o4 o5:Option V),(∀t∈s,t.x<=1000/\t.y<=1000)->
  ∃ki mJ,loopF [4] false (denSs (denS 19) xB) (s.map fun t=>encM t.x t.y) (x0::some (aK o)::some (encM b.x b.y)::some (keyV o b.x b.y)::o4::o5::r) H =
   some (.next,x0::some (aK o)::some (encM (leadG (gr o) b s).x (leadG (gr o) b s).y)::some (keyV o (leadG (gr o) b s).x (leadG (gr o) b s).y)::ki::mJ::r,H):=by
 intro s
 induction s with
 |nil=>intro b o4 o5 _;exact⟨o4,o5,rfl⟩
 |cons t s ih=>
  intro b o4 o5 hs;have ht:=hs t (.head _);rw[aO,fx];unfold xB;simp! only[uq ht.1 ht.2,is_none,Ax,Ez,leadG]
  induction gtM (gr o) t.x t.y b.x b.y using aB with
  |true=>
   simp! only[];exact ih t _ _ fun u m=>hs u (.tail _ m)
  |false=>
   simp! only[];exact ih b _ _ fun u m=>hs u (.tail _ m)
theorem V3(hp:Nd p)(hs:∀t∈p,t.x<=1000/\t.y<=1000):Bl [.dct (aj p),aK o] ⟨0,[]⟩=some (bW (lead (gr o) p),⟨0,[]⟩):=by
 unfold Bl D5;rw[dC];simp! only[pK,DZ]
 induction p using aN with
 |nil=>
  simp! only[List.map_nil,AH,is_none];rfl
 |cons t s=>
  have ht:=hs t (.head _);exists de (Wt (H:=⟨0,[]⟩) o (x0:=some (.dct (aj (t::s)))) (r:=cu 14 none) s t (some (encM t.x t.y)) (some (keyV o t.x t.y)) fun u m=>hs u (.tail _ m)),o4,o5,e;unfold xB at e;simp only[rep0,rep1]at e;have hm:leadG (gr o) t s∈t::s:=Gr _ _ _;have fO:∀H,subs H (.dct (aj (t::s))) (encM (leadG (gr o) t s).x (leadG (gr o) t s).y)=some (aX (leadG (gr o) t s).n (leadG (gr o) t s).d):=fun H=>pE hp hm;rw[aO];simp! only[uq ht.1 ht.2,is_none,show isNone V.none=true from rfl];rw[e];simp! only[AH,is_none,Ax,fO];rfl
theorem JC:∀{t:Option T},FL (bW t)
 |none=>.none
 |some _=>.tup (.cons kO (.cons lH .nil))
theorem jk(h:frz H av = .dct (aj p))(hp:Nd p)(hs:∀t∈p,t.x<=1000/\t.y<=1000):cW [av,aK o] H=some (bW (lead (gr o) p),H):=by
 have hz:frz H (aK o)=aK o:=ua fb;exact dZ (args:=[av,aK o]) (by rw[aO,aO,h,hz];exact V3 hp hs) (by rw[aO,aO,h,hz];exact .cons dG (.cons fb .nil)) JC
theorem jB(h:aW p):∀t∈p,t.x<=1000/\t.y<=1000:=fun t m=>⟨bx (h.2.1 t m).1 dq,bx (h.2.1 t m).2.1 dq⟩
theorem L5(hp:aW p)(hq:∀t,lead (gr o) p=some t->cM (invQ t.n t.d).1 (invQ t.n t.d).2/\(invQ t.n t.d).1≠0):jg [.dct (aj p),aK o] H=some (.dct (aj (l8 (gr o) p)),H):=by
 have e:∃H',xF [.dct (aj p),aK o] ⟨0,[]⟩=some (.dct (aj (l8 (gr o) p)),H'):=by
  unfold xF IQ;rw[dC];simp! only[jk (av:=.dct (aj p)) rfl hp.2.2 (jB hp)];unfold l8
  induction e:lead (gr o) p using aL with
  |none=>
   simp! only[bW,is_none,show isNone V.none=true from rfl];exact⟨_,rfl⟩
  |some t=>
   exists ak (hq t e),q1,q2;have ht:=(hp.2.1 t (gy e)).2.2;simp! only[bW,is_none,PD,show ∀H,subs H (V.tup [encM t.x t.y,aX t.n t.d]) (.int 1)=some (aX t.n t.d)from fun _=>rfl,BU ht.1 ht.2,i8,Pf hp q1 q2];exact⟨_,rfl⟩
 exists aD e,H',e;exact eV e (.cons dG (.cons fb .nil)) dG
end
end
section
open PySem
theorem xC(h:a≠b):aF a b=false:=gP.mpr fun q=>h (cU q)
theorem hV:look (⟨k,lk,o⟩::es) k=some ⟨k,lk,o⟩:=by
 show(match aF k k with
  |true=>some (⟨k,lk,o⟩:Ent)
  |false=>look es k)=_
 rw[ew]
theorem dg(h:k≠j):look (⟨k,lk,o⟩::es) j=look es j:=by
 show(match aF k j with
  |true=>some (⟨k,lk,o⟩:Ent)
  |false=>look es j)=_
 rw[xC h]
theorem j9:put (⟨k,lk,o⟩::es) k lk' o'=⟨k,lk',o'⟩::es:=by
 show(match aF k k with
  |true=>(⟨k,lk',o'⟩:Ent)::es
  |false=>_::put es k lk' o')=_
 rw[ew]
theorem eN(h:k≠j):put (⟨k,lk,o⟩::es) j lk' o'=⟨k,lk,o⟩::put es j lk' o':=by
 show(match aF k j with
  |true=>(⟨j,lk',o'⟩:Ent)::es
  |false=>_::put es j lk' o')=_
 rw[xC h]
theorem eP:j≠k->look (put es k lk o) j=look es j:=by
 induction es with
 |nil=>
  intro _;exact rfl
 |cons e0 r ih=>
  obtain⟨i,l,p⟩:=e0;intro h;by_cases e:i=k
  ·subst e;rw[j9,dg (fun q=>h q.symm),dg (fun q=>h q.symm)]
  ·rw[eN e];by_cases e2:i=j
   ·subst e2;rw[hV,hV]
   ·rw[dg e2,dg e2];exact ih h
theorem m8:look es k=some e->look (put es k lk o) k=some ⟨k,lk,o⟩:=by
 induction es with
 |nil=>
  intro h;exact nq h
 |cons e0 r ih=>
  obtain⟨i,l,p⟩:=e0;intro h;by_cases q:i=k
  ·subst q;rw[j9,hV]
  ·rw[eN q,dg q];rw[dg q]at h;exact ih h
theorem lX:look es k=some ⟨k,lk,o⟩->put es k lk o=es:=by
 induction es with
 |nil=>
  intro h;exact nq h
 |cons e0 r ih=>
  obtain⟨i,l,p⟩:=e0;intro h;by_cases q:i=k
  ·subst q;rw[hV]at h;cases h;exact j9
  ·rw[dg q]at h;rw[eN q,ih h]
section
variable {H:Hp} {k:Nat}
theorem cO(w:WF H)(h:look H.es k=some e):k<H.nxt:=by
 exists ak (fN h),m,q;rw[<- q];exact w e m
theorem fB(w:WF H)(h:look H.es k=some e):look (newObj H o).2.es k=some e:=by
 have:=cO w h;exact(dg (Ne.symm (eR this))).trans h
theorem bS.new(w:WF H)(h:bS H k l):bS (newObj H o).2 k l:=fB w h
theorem aq.new(w:WF H)(h:aq H k l):aq (newObj H o).2 k l:=fB w h
theorem bS.c7:bS (newObj H (.dict l)).2 H.nxt l:=hV
theorem aq.c7:aq (newObj H (.list l)).2 H.nxt l:=hV
theorem bS.set(h:bS H k l)(q:k≠j):bS (setObj H j o) k l:=(eP q).trans h
theorem aq.set(h:aq H k l)(q:k≠j):aq (setObj H j o) k l:=(eP q).trans h
theorem bS.g5(h:bS H k l):bS (setObj H k (.dict l')) k l':=m8 h
theorem aq.g5(h:aq H k l):aq (setObj H k (.list l')) k l':=m8 h
theorem bS.ne(h:bS H k l)(h':aq H j l'):j≠k:=fun q=>by
 subst q;have h:look H.es j=_:=h;have h':look H.es j=_:=h';exact bf (aI (congrArg (Option.map fun e:Ent=>e.obj.rec (motive:=fun _=>Bool) (fun _=>true) fun _=>false) (h.symm.trans h')))
theorem bS.frz(h:bS H k l):frz H (.ref k) = .dct l:=by
 show(match look H.es k with|some e=>(match e.obj with|.list l=>V.lst l|.dict l=>.dct l)|none=>.ref k)=_
 rw[h]
theorem aq.frz(h:aq H k l):frz H (.ref k) = .lst l:=by
 show(match look H.es k with|some e=>(match e.obj with|.list l=>V.lst l|.dict l=>.dct l)|none=>.ref k)=_
 rw[h]
theorem yh:setObj ⟨n,⟨k,lk,o⟩::es⟩ k o'=⟨n,⟨k,false,o'⟩::es⟩:=by
 show(⟨n,put _ k false o'⟩:Hp)=_;rw[j9]
theorem aq.hd:aq ⟨n,⟨k,false,.list l⟩::es⟩ k l:=hV
theorem bS.hd:bS ⟨n,⟨k,false,.dict l⟩::es⟩ k l:=hV
theorem dF{A:Type}{f:V->Hp->Option Hp}{enc:A->V}{n:Nat}{es:List Ent}(F:A->List V):∀(s:List A) (acc:List V),(∀a∈s,∀acc:List V,acc.length<=90000->f (enc a) ⟨n,⟨k,false,.list acc⟩::es⟩=some ⟨n,⟨k,false,.list (acc++F a)⟩::es⟩)->
  acc.length+(s.flatMap F).length<=90000->forItems f (s.map enc) ⟨n,⟨k,false,.list acc⟩::es⟩=some ⟨n,⟨k,false,.list (acc++s.flatMap F)⟩::es⟩:=by
 intro s
 induction s with
 |nil=>intro acc _ _;simp only[List.map_nil,List.flatMap_nil,gc];rfl
 |cons a s ih=>
  intro acc hf hl;rw[iQ,d8]at hl;rw[aO,iQ];show(match f (enc a) ⟨n,⟨k,false,.list acc⟩::es⟩with
   |some H=>forItems f (s.map enc) H
   |none=>none)=_
  rw[hf a (.head _) acc (Nat.le_of_add_right_le hl)];dsimp only;rw[ih (acc++F a) (fun b m=>hf b (.tail _ m)) (by rw[d8];lia),jA]
theorem dm(hl:l.length<=90000):jU k v ⟨n,⟨k,false,.list l⟩::es⟩=some ⟨n,⟨k,false,.list (l++[v])⟩::es⟩:=by
 rw[uz aq.hd (cT (by lia)),yh]
noncomputable def Bv(bv:V)(l:List V)(H:Hp):Prop:=bv = .lst l\/(bv = .ref 0/\look H.es 0=some ⟨0,true,.list l⟩)
theorem Bv.view(h:Bv bv l H):listView H bv=some l:=by
 rcases h with rfl|⟨rfl,h⟩
 ·rfl
 ·show(match look H.es 0 with|some e=>(match e.obj with|.list l=>some l|.dict _=>none)|none=>none)=_
  rw[h]
theorem Bv.seq(h:Bv bv l H):seqView H bv=some l:=by
 have:=h.view;rcases h with rfl|⟨rfl,h⟩ <;> exact this
theorem Bv.it(h:Bv bv l H):iterOf H .seq [bv]=some l:=by
 show(match seqView H bv with|some l=>some l|none=>_)=_;rw[h.seq]
theorem w9(h:look es n=some e):cN es (.ref n)=put es n true e.obj:=by
 unfold cN;dsimp only;rw[h]
theorem qz(h0:look dQ n=some e)(h:look es n=some f):gQ dQ es (.ref n)=put es n e.lock f.obj:=by
 show tP es n (look dQ n) (look es n)=_;rw[h0,h];rfl
theorem Bv.lock(h:Bv bv l H):lockH H [bv]=H:=by
 rcases h with rfl|⟨rfl,h⟩
 ·rfl
 ·show(⟨H.nxt,cN H.es (.ref 0)⟩:Hp)=_;unfold cN;dsimp only;rw[h];dsimp only;rw[lX h]
theorem Bv.kW(h:Bv bv l H)(h':Bv bv l H'):(⟨H'.nxt,eD H.es H'.es [bv]⟩:Hp)=H':=by
 rcases h with rfl|⟨rfl,h⟩
 ·rfl
 ·rcases h' with q|⟨_,h'⟩
  ·cases q
  show(⟨H'.nxt,tP H'.es 0 (look H.es 0) (look H'.es 0)⟩:Hp)=_;rw[h,h'];show(⟨H'.nxt,put H'.es 0 _ _⟩:Hp)=_;rw[lX h']
theorem Bv.new(h:Bv bv l H)(w:WF H):Bv bv l (newObj H o).2:=h.imp id fun q=>⟨q.1,fB w q.2⟩
theorem Bv.set(h:Bv bv l H)(q:j≠0):Bv bv l (setObj H j o):=h.imp id fun z=>⟨z.1,(eP fun e=>q e.symm).trans z.2⟩
theorem Bv.hd(h:Bv bv l ⟨n,es⟩)(q:e.id≠0):Bv bv l ⟨n+1,e::es⟩:=h.imp id fun z=>⟨z.1,(dg (k:=e.id) q).trans z.2⟩
def firstD(x y:Nat):Nat->List (Option T)->Option (Nat×T)
 |_,[]=>none
 |i,l::r=>match l with
  |none=>firstD x y (Nat.succ i) r
  |some t=>match dvd' t.x t.y x y with
   |true=>some (i,t)
   |false=>firstD x y (Nat.succ i) r
noncomputable def nJ:Option (Nat×T)->V
 |none=>.int (-1)
 |some q=>.int (.ofNat q.1)
def vR:List MS:=[.if_ (.lz [.cmp .IsNot (.var 3) (.const .none),.call oO [.sub (.var 3) (.const (.int 0)),.var 0]]) [.ret (.var 2)] []]
theorem Ew:bu .IsNot v .none H=some (!isNone v):=rfl
end
end
section
open PySem
section
variable {H:Hp}
theorem kJ:subs H (bW (some t)) (V.int 0)=some (encM t.x t.y):=rfl
theorem Ko:subs H (bW (some t)) (V.int 1)=some (aX t.n t.d):=rfl
theorem RK:isNone (bW (some t))=false:=rfl
noncomputable def B1(ρ:ai)(H:Hp):Option (Nat×T)->Option (Fl×ai×Hp)
 |none=>some (.next,ρ,H)
 |some q=>some (.ret (.int (.ofNat q.1)),ρ,H)
theorem OT:∀(ls:List (Option T)) (i:Nat) (o2 o3:Option V),
  ∃ρ,loopF [2,3] true (denSs (denS 19) vR) (enumL (Int.ofNat i) (ls.map bW)) (some (encM x y)::x1::o2::o3::r) H=B1 ρ H (firstD x y i ls):=by
 intro ls
 induction ls with
 |nil=>intro i o2 o3;exact⟨_,rfl⟩
 |cons l ls ih=>
  intro i o2 o3;exists aD (ih (i+1) (some (.int (.ofNat i))) (some (bW l))),ρ,e;rw[aO];show ∃ρ,loopF _ _ _ (V.tup [.int (.ofNat i),bW l]::enumL (Int.ofNat (i+1)) (ls.map bW)) _ _=_;rw[fx];dsimp only[vR,firstD];unfold vR at e
  induction l using aL with
  |none=>
   simp! only[Ew,show isNone (bW none)=true from rfl,Bool.not_true];exact⟨ρ,e⟩
  |some t=>
   simp! only[Ew,RK,Bool.not_false,kJ,FC]
   induction dvd' t.x t.y x y using aB with
   |true=>
    simp! only[];exact⟨_,rfl⟩
   |false=>
    simp! only[];exact⟨ρ,e⟩
theorem Qt:NR (bW t):=JC.nr
theorem aao{ls:List (Option T)}:NRs (ls.map bW):=by
 induction ls with
 |nil=>
  exact .nil
 |cons _ _ ih=>
  exact .cons Qt ih
theorem Mq:xA [encM x y,.lst (ls.map bW)] ⟨0,[]⟩=some (nJ (firstD x y 0 ls),⟨0,[]⟩):=by
 unfold xA IW;rw[dC];have it:∀H,iterOf H .enum [.lst (ls.map bW)]=some (enumL (Int.ofNat 0) (ls.map bW)):=fun _=>rfl;simp! only[it,rF];exists aD (OT (H:=⟨0,[]⟩) (x:=x) (y:=y) (x1:=some (.lst (ls.map bW))) (r:=cu 14 none) ls 0 none none),ρ,e;unfold vR at e;simp only[rep0,rep1]at e;rw[e]
 induction firstD x y 0 ls using aL with
 |none=>
  simp! only[B1,mN];rfl
 |some q=>
  simp! only[B1,mN];rfl
theorem ZL:FL (nJ q):=by induction q using aL <;> exact .int _
theorem F5(h:frz H lv = .lst (ls.map bW)):ou [encM x y,lv] H=some (nJ (firstD x y 0 ls),H):=
 dZ (args:=[encM x y,lv]) (by rw[aO,aO,h];exact Mq) (by rw[aO,aO,h];exact .cons eX (.cons (.lst aao) .nil)) ZL
noncomputable def oX(m:Nat×Nat):T:=⟨m.1,m.2,1,1⟩
def encN(m:Nat×Nat):V:=encM m.1 m.2
def anyD(x y:Nat):List (Nat×Nat)->Bool
 |[]=>false
 |l::r=>match dvd' l.1 l.2 x y with
  |true=>true
  |false=>anyD x y r
theorem Sq(ls:List (Nat×Nat)):∀(i:Nat),(firstD x y i (ls.map fun l=>some (oX l))).isSome=anyD x y ls:=by
 induction ls with
 |nil=>
  intro _;exact rfl
 |cons l r ih=>
  intro i;rw[aO];show(match dvd' l.1 l.2 x y with
   |true=>some (i,oX l)
   |false=>firstD x y (Nat.succ i) (r.map fun l=>some (oX l))).isSome=(match dvd' l.1 l.2 x y with
   |true=>true
   |false=>anyD x y r)
  induction dvd' l.1 l.2 x y using aB with
  |true=>rfl
  |false=>exact ih (Nat.succ i)
theorem HE{ls:List (Nat×Nat)}:NRs (ls.map encN):=by
 induction ls with
 |nil=>
  exact .nil
 |cons _ _ ih=>
  exact .cons eX ih
theorem iX(h:forItems f items ⟨n,⟨k,false,.list []⟩::es⟩=some ⟨n,⟨k,false,.list l⟩::es⟩):compGo k f items [.lst c] ⟨n,⟨k,false,.list []⟩::es⟩=some (.ref k,⟨n,⟨k,false,.list l⟩::es⟩):=by
 show dw k (unlH _ [.lst c] (forItems f items ⟨n,⟨k,false,.list []⟩::es⟩))=_;rw[h];rfl
theorem PU(h:forItems f items ⟨n,⟨k,false,.list []⟩::es⟩=some ⟨n,⟨k,false,.list l⟩::es⟩):compGo k f items [.tup c] ⟨n,⟨k,false,.list []⟩::es⟩=some (.ref k,⟨n,⟨k,false,.list l⟩::es⟩):=by
 show dw k (unlH _ [.tup c] (forItems f items ⟨n,⟨k,false,.list []⟩::es⟩))=_;rw[h];rfl
theorem MQ(h:forItems f items ⟨n,⟨k,false,.list []⟩::es⟩=some ⟨n,⟨k,false,.list l⟩::es⟩):compGo k f items [.dct c] ⟨n,⟨k,false,.list []⟩::es⟩=some (.ref k,⟨n,⟨k,false,.list l⟩::es⟩):=by
 show dw k (unlH _ [.dct c] (forItems f items ⟨n,⟨k,false,.list []⟩::es⟩))=_;rw[h];rfl
theorem eJ{A B:Type}(g:A->B)(s:List A):s.flatMap (fun a=>[g a])=s.map g:=by
 induction s with
 |nil=>rfl
 |cons a s ih=>rw[iQ,aO,ih];rfl
theorem eW{A B:Type}(g:A->B)(s:List A):(s.flatMap (fun a=>[g a])).length=s.length:=by rw[eJ,aJ]
theorem Zy(hl:ls.length<=1000):C8 [encM x y,.lst (ls.map encN)] ⟨0,[]⟩=some (.bool (anyD x y ls),⟨1,[]⟩):=by
 unfold C8 JF;rw[dC];have it:∀H,iterOf H .seq [.lst (ls.map encN)]=some (ls.map encN):=fun _=>rfl;simp! only[it];rw[iX (l:=(ls.map fun l=>some (oX l)).map bW) (by
  have:=dF (k:=0) (n:=1) (es:=[]) (enc:=encN) (f:=turn (den 16) [3] false [] (cp 0 (.tup [.var 3,.const (V.tup [.int 1,.int 1])]) (den 16)) (some (encM x y)::some (.lst (ls.map encN))::cu 14 none)) (fun l=>[bW (some (oX l))]) ls [] (fun a m acc ha=>by
   simp! only[rep0,rep1];exact dm ha) (by rw[eW];show 0+ls.length<=_;lia)
  rw[eJ,dh]at this;simp only[rep0,rep1]at this;rw[d5];exact this)]
 simp! only[F5 (aq.hd.frz)];rw[<- Sq ls 0]
 induction firstD x y 0 (ls.map fun l=>some (oX l))using aL with
 |none=>rfl
 |some q=>rfl
theorem yp(hl:ls.length<=1000)(h:frz H lv = .lst (ls.map encN)):pP [encM x y,lv] H=some (.bool (anyD x y ls),H):=
 dZ (args:=[encM x y,lv]) (by rw[aO,aO,h];exact Zy hl) (by rw[aO,aO,h];exact .cons eX (.cons (.lst HE) .nil)) (.bool _)
end
end
section
open PySem
def bndQ(n:Int)(d:Nat):Bool:=match b8 n.natAbs 1000000000 with
 |true=>match b8 1 d with
  |true=>match b8 d 1000 with
   |true=>match isZ' n with
    |true=>false
    |false=>true
   |false=>false
  |false=>false
 |false=>false
def tJ(t:T):Bool:=match b8 t.x 8 with
 |true=>match b8 t.y 8 with
  |true=>bndQ t.n t.d
  |false=>false
 |false=>false
def bndL:Po->Bool
 |[]=>true
 |t::r=>match tJ t with
  |true=>bndL r
  |false=>false
def ja(p:Po):Bool:=match bndL p with
 |true=>b8 p.length 1000
 |false=>false
theorem lW(h:bndQ n d=true):cM n d/\n≠0:=by
 unfold bndQ at h;split at h
 ·rename_i h1;split at h
  ·rename_i h2;split at h
   ·rename_i h3;split at h
    ·exact bf h
    ·rename_i h4;rw[qM]at h4;exact⟨⟨bC h1,bC h2,bC h3⟩,by simpa using h4⟩
   ·exact bf h
  ·exact bf h
 ·exact bf h
theorem Hm(h:tJ t=true):sE t:=by
 unfold tJ at h;split at h
 ·rename_i h1;exists kb2 h,h2,h
  ·exact⟨bC h1,bC h2,(lW h).1,(lW h).2⟩
 ·exact bf h
theorem MR:bndL p=true->∀t∈p,sE t:=by
 induction p with
 |nil=>
  intro _ _ m;cases m
 |cons a r ih=>
  intro h t m;exists kb2 h,h1,h
  ·rcases aH.mp m with rfl|m
   ·exact Hm h1
   ·exact ih h t m
theorem ko(h:ja p=true)(hn:Nd p):aW p:=by
 exists kb2 h,h1,h
 ·exact⟨bC h,MR h1,hn⟩
noncomputable def oQ(p:Po)(x y:Nat):Prop:=∃v∈p,v.x=x/\v.y=y
theorem rR:Nd (t::r)↔¬ oQ r t.x t.y/\Nd r:=by
 unfold Nd;rw[List.pairwise_cons];refine and_congr ⟨fun h ⟨v,m,a,b⟩=>h v m ⟨a.symm,b.symm⟩,fun h v m q=>h ⟨v,m,q.1.symm,q.2.symm⟩⟩ Iff.rfl
theorem nc:oQ (a::r) x y↔(a.x=x/\a.y=y)\/oQ r x y:=by
 unfold oQ;simp only[aH];constructor
 ·rintro ⟨v,rfl|m,q⟩
  ·exact .inl q
  ·exact .inr ⟨v,m,q⟩
 ·rintro (q|⟨v,m,q⟩)
  ·exact⟨a,.inl rfl,q⟩
  ·exact⟨v,.inr m,q⟩
theorem QJ(h:oQ (setT p t) x y):oQ p x y\/(t.x=x/\t.y=y):=by
 induction p with
 |nil=>
  rcases nc.mp h with q|⟨v,m,_⟩
  ·exact .inr q
  ·clear h;cases m
 |cons a r ih=>
  induction e:bJ a.x a.y t.x t.y using aB with
  |true=>
   have:setT (a::r) t=⟨a.x,a.y,t.n,t.d⟩::r:=by dsimp only[setT];rw[e]
   rw[this]at h;clear this e ih;rcases nc.mp h with q|q
   ·exact .inl (nc.mpr (.inl q))
   ·exact .inl (nc.mpr (.inr q))
  |false=>
   rw[qG e]at h;clear e;rcases nc.mp h with q|h
   ·exact .inl (nc.mpr (.inl q))
   ·exact(ih h).imp (fun q=>nc.mpr (.inr q)) id
theorem wo(h:Nd p):Nd (setT p t):=by
 induction p with
 |nil=>exact rR.mpr ⟨(fun⟨v,m,_⟩=>by clear h;cases m),List.Pairwise.nil⟩
 |cons a r ih=>
  exists ak (rR.mp h),h1,h2;clear h;cases e:bJ a.x a.y t.x t.y with
  |true=>
   have:setT (a::r) t=⟨a.x,a.y,t.n,t.d⟩::r:=by dsimp only[setT];rw[e]
   rw[this];exact rR.mpr ⟨h1,h2⟩
  |false=>
   rw[qG e];refine rR.mpr ⟨fun q=>?_,ih h2⟩;rcases QJ q with q|q
   ·exact h1 q
   ·rw[(i3 _ _ _ _).mpr ⟨q.1.symm,q.2.symm⟩]at e;exact bt e
theorem Cz(x y:Nat)(p:Po):(delT p x y).Sublist p:=by
 induction p with
 |nil=>exact .slnil
 |cons a r ih=>
  show List.Sublist (match bJ a.x a.y x y with
   |true=>r
   |false=>a::delT r x y) _
  induction bJ a.x a.y x y using aB with
  |true=>exact .cons _ (List.Sublist.refl r)
  |false=>exact List.Sublist.cons_cons _ ih
theorem Gq(h:Nd p):Nd (delT p x y):=List.Pairwise.sublist (Cz x y p) h
theorem PM(h:aW p):aW (delT p x y):=⟨bx (Cz x y p).length_le h.1,fun t m=>h.2.1 t ((Cz x y p).subset m),Gq h.2.2⟩
theorem Pl(h:Nd p):Nd (addT p t):=by
 rw[addT_eq]
 induction getT p t.x t.y using aL with
 |none=>exact wo h
 |some g=>
  dsimp only;split
  ·exact Gq h
  ·exact wo h
theorem wI:∀{b a:Po},Nd a->Nd (addP a b)
 |[],_,h=>h
 |t::r,a,h=>wI (b:=r) (Pl (t:=t) h)
theorem H9:(setT p t).length<=p.length+1:=by
 induction p with
 |nil=>exact cw _
 |cons a r ih=>
  dsimp only[setT];split
  ·simp
  ·simpa using ih
section
variable (bs:List Po) (ls:List (Option T)) (go:List Po->Po->Po->Option Po) (qs:List Po) (rest left:Po)
def BM(i:Nat)(q:Po)(sx sy:Nat)(f:Int×Nat)(i6:Po):Option Po:=match ja i6 with
 |true=>go (qs.set i (q++[⟨sx,sy,f.1,f.2⟩])) rest i6
 |false=>none
def wV(i:Nat)(q:Po)(sx sy:Nat)(f:Int×Nat)(s:Po):Option Po:=match ja s with
 |true=>BM go qs rest i q sx sy f (addP left (s.map negT))
 |false=>none
def B2(i:Nat)(g q:Po)(sx sy:Nat)(f:Int×Nat):Option Po:=match bndQ f.1 f.2 with
 |true=>wV go qs rest left i q sx sy f (g.map (mulT sx sy f.1 f.2))
 |false=>none
def divC(t:T)(i:Nat)(l:T):Option Po:=match bs[i]? with
 |none=>none
 |some g=>match qs[i]? with
  |none=>none
  |some q=>match getT q (Nat.sub t.x l.x) (Nat.sub t.y l.y)with
   |some _=>none
   |none=>B2 go qs rest left i g q (Nat.sub t.x l.x) (Nat.sub t.y l.y) (divQ t.n t.d l.n l.d)
def CM(t:T)(d:Option (Nat×T)):Option Po:=match d with
 |none=>go qs (setT rest t) (delT left t.x t.y)
 |some d=>divC bs go qs rest left t d.1 d.2
def wa(t:Option T):Option Po:=match t with
 |none=>some rest
 |some t=>CM bs go qs rest left t (firstD t.x t.y 0 ls)
end
def jX(o:Bool)(bs:List Po)(ls:List (Option T)):Nat->List Po->Po->Po->Option Po
 |0,_,_,_=>none
 |k+1,qs,rest,left=>wa bs ls (jX o bs ls k) qs rest left (lead o left)
def restOf(o:Bool)(f:Po)(bs:List Po):Option Po:=jX o bs (bs.map (lead o)) 100 (bs.map fun _=>[]) [] f
set_option tactic.hygienic true in
theorem J5:∀{i:Nat} {q:Nat×T},firstD x y i ls=some q->i<=q.1/\ls[q.1 - i]?=some (some q.2)/\q.2.x<=x/\q.2.y<=y:=by
 induction ls with
 |nil=>
  intro _ _ h;exact nq h
 |cons l r ih=>
  intro i q h;dsimp only[firstD]at h;have tail:firstD x y (Nat.succ i) r=some q->i<=q.1/\(l::r)[q.1 - i]?=some (some q.2)/\q.2.x<=x/\q.2.y<=y:=fun h=>by
   exists ft (ih h),a,b,c,d;have a:i+1<=q.1:=a;refine⟨by lia,?_,c,d⟩;have:q.1 - i=(q.1 - Nat.succ i)+1:=by lia
   rw[this];simpa using b
  split at h
  ·exact tail h
  ·rename_i t;split at h
   ·rename_i hd
    (clear tail;injections h)
    exists kb2 hd,h1,hd
    ·exact⟨cw _,by simp,bC h1,bC hd⟩
   ·exact tail h
end
section
open PySem
structure DI (n0:Nat) (bv:V) (bs:List Po) (ls:List (Option T)) (L QL R F:Nat) (qi:List Nat) (qs:List Po) (rest left:Po) (H:Hp):Prop where
 wf:WF H
 b:Bv bv (bs.map fun p=>.dct (aj p)) H
 l:aq H L (ls.map bW)
 ql:aq H QL (qi.map V.ref)
 q:∀(i j:Nat) (p:Po),qi[i]?=some j->qs[i]?=some p->bS H j (aj p)
 r:bS H R (aj rest)
 f:bS H F (aj left)
 nq:qi.Nodup
 len:qi.length=qs.length
 qr:R ∉ qi
 qf:F ∉ qi
 rf:R≠F
 lo:n0<=QL/\n0<=R/\∀j∈qi,n0<=j
section
variable {n0:Nat} {bv:V} {bs:List Po} {ls:List (Option T)} {L QL R F:Nat} {qi:List Nat} {qs:List Po} {rest left:Po} {H:Hp}
theorem Bv.yM(h:Bv bv l H)(hd:bS H j d):Bv bv l (setObj H j o):=by
 rcases h with rfl|⟨rfl,h⟩
 ·exact .inl rfl
 ·refine .inr ⟨rfl,(eP fun e=>?_).trans h⟩;subst e;have hd:look H.es 0=_:=hd;rw[h]at hd;cases hd
theorem DI.new(D:DI n0 bv bs ls L QL R F qi qs rest left H)(o:bq):DI n0 bv bs ls L QL R F qi qs rest left (newObj H o).2:=
 ⟨D.wf.new,D.b.new D.wf,D.l.new D.wf,D.ql.new D.wf,fun i j p a b=>(D.q i j p a b).new D.wf,D.r.new D.wf,D.f.new D.wf,D.nq,D.len,D.qr,D.qf,D.rf,D.lo⟩
theorem DI.Vs(D:DI n0 bv bs ls L QL R F qi qs rest left H)(HV:Po):DI n0 bv bs ls L QL R F qi qs HV left (setObj H R (.dict (aj HV))):=
 ⟨D.wf.set,D.b.yM D.r,D.l.set (D.r.ne D.l),D.ql.set (D.r.ne D.ql),fun i j p a b=>(D.q i j p a b).set fun e=>D.qr (e▸ee a),D.r.g5,D.f.set D.rf.symm,D.nq,D.len,D.qr,D.qf,D.rf,D.lo⟩
theorem DI.VA(D:DI n0 bv bs ls L QL R F qi qs rest left H)(i6:Po):DI n0 bv bs ls L QL R F qi qs rest i6 (setObj H F (.dict (aj i6))):=
 ⟨D.wf.set,D.b.yM D.f,D.l.set (D.f.ne D.l),D.ql.set (D.f.ne D.ql),fun i j p a b=>(D.q i j p a b).set fun e=>D.qf (e▸ee a),D.r.set D.rf,D.f.g5,D.nq,D.len,D.qr,D.qf,D.rf,D.lo⟩
theorem DI.Qm(D:DI n0 bv bs ls L QL R F qi qs rest left H)(i6:Po):DI n0 bv bs ls L QL R H.nxt qi qs rest i6 (newObj H (.dict (aj i6))).2:=by
 have D':=D.new (.dict (aj i6));refine⟨D'.wf,D'.b,D'.l,D'.ql,D'.q,D'.r,bS.c7,D.nq,D.len,D.qr,fun m=>?_,fun e=>?_,D.lo⟩
 ·exists aD (List.mem_iff_getElem?.mp m),i,hi;have qI:i<qs.length:=by rw[<- D.len];exact(fj.mp hi).1
  have:=cO D.wf (D.q i _ (qs[i]) hi (List.getElem?_eq_getElem qI))
  lia
 ·have:=cO D.wf D.r
  lia
theorem DI.Qf(D:DI n0 bv bs ls L QL R F qi qs rest left H)(hj:qi[i]?=some j)(hp:qs[i]?=some p):DI n0 bv bs ls L QL R F qi (qs.set i p') rest left (setObj H j (.dict (aj p'))):=by
 have hd:=D.q i j p hj hp;have mj:=ee hj;refine⟨D.wf.set,D.b.yM hd,D.l.set (hd.ne D.l),D.ql.set (hd.ne D.ql),fun i' j' p2 a b=>?_,D.r.set fun e=>D.qr (e▸mj),D.f.set fun e=>D.qf (e▸mj),D.nq,by rw[List.length_set];exact D.len,D.qr,D.qf,D.rf,D.lo⟩;by_cases e:i'=i
 ·subst e;rw[hj]at a;exists a;have qI:i'<qs.length:=(fj.mp hp).1;rw[List.getElem?_set_self qI]at b;exists b;exact hd.g5
 ·rw[List.getElem?_set_ne (fun q=>e q.symm)]at b;refine(D.q i' j' p2 a b).set fun q=>e ?_;subst q;exists aD (fj.mp a),h1,Z0;exact(List.getElem?_inj h1 D.nq).mp (a.trans hj.symm)
noncomputable def rW:ME:=.bi .any [.lcomp [14,15] (.cmp .Gt (.var 15) (.var 9)) [([15],false,.seq,[.var 8],[])]]
theorem Tz(hx:x<=8)(hy:y<=8) :
  den (n+8) rW (x0::x1::x2::x3::x4::x5::x6::x7::some (encM x y)::some (.int 20000)::x10::x11::x12::x13::x14::x15::r) H=some (.bool false,(newObj H (.list [.bool false,.bool false])).2):=by
 have it:∀H,iterOf H .seq [encM x y]=some [V.int (.ofNat x),V.int (.ofNat y)]:=fun _=>rfl;have c:∀z H,z<=8->bu .Gt (V.int (.ofNat z)) (V.int 20000) H=some false:=fun z H hz=>by
  show some (c8 20000 z)=_;have:c8 20000 z=false:=gP.mpr fun q=>by
   have:20001<=z:=bC q
   lia
  rw[this]
 unfold rW;simp! only[it];rw[show compGo H.nxt _ [V.int (.ofNat x),V.int (.ofNat y)] [encM x y] (newObj H (.list [])).2=some (.ref H.nxt,(newObj H (.list [.bool false,.bool false])).2)from PU (by
  show(match turn _ _ _ _ _ _ _ _ with
   |some H=>(match turn _ _ _ _ _ _ _ H with
    |some H=>some H
    |none=>none)
   |none=>none)=_
  simp! only[c _ _ hx,c _ _ hy];rw[dm dq];dsimp only;rw[dm dq];rfl)]
 simp! only[];show(match listView _ (V.ref H.nxt)with
  |some l=>retB (anyB l) _
  |none=>none)=_
 rw[aq.view aq.c7];rfl
end
end
section
open PySem
def kr:List MS:=[(.unpack [8,10] (.call cW [(.var 6),(.var 2)])),(.aug 7 .Add (.bi .len [(.var 6)])),(.if_ (.eT [(.cmp .Gt (.var 7) (.const (.int 3000000))),(.call qC [(.var 10)]),rW]) [.stuck] []),(.assign 11 (.call ou [(.var 8),(.var 3)])),(.if_ (.cmp .Lt (.var 11) (.const (.int 0))) [(.store (.var 5) (.var 8) (.var 10)),(.expr (.cP .dpop1 (.var 6) [(.var 8)])),.cont] []),(.unpack [12,13] (.tup [(.call nR [(.var 8),(.sub (.sub (.var 3) (.var 11)) (.const (.int 0)))]),(.call oY [(.var 10),(.sub (.sub (.var 3) (.var 11)) (.const (.int 1)))])])),(.expr (.call mK [(.sub (.var 4) (.var 11)),(.var 12),(.var 13)])),(.assign 6 (.call rh [(.var 6),(.call om [(.sub (.var 1) (.var 11)),(.var 12),(.var 13)])]))]
section
variable {n0:Nat} {bv:V} {bs:List Po} {ls:List (Option T)} {L QL R F:Nat} {qi:List Nat} {qs:List Po} {rest left:Po} {H:Hp}
theorem ED(h:bS H k l)(hl:l.length<=100000):cz .len [V.ref k] H=some (V.int (.ofNat l.length),H):=by
 have h1:seqView H (.ref k)=none:=by
  show(match look H.es k with|some e=>(match e.obj with|.list l=>some l|.dict _=>none)|none=>none)=_
  rw[h]
 show(match seqView H (.ref k)with
  |some l=>guard' (lenOk l) (some (V.int (.ofNat l.length),H))
  |none=>match dictView H (.ref k)with
   |some l=>guard' (lenOk l) (some (V.int (.ofNat l.length),H))
   |none=>none)=_
 rw[h1,h.view];dsimp only;rw[cT hl];rfl
theorem m9(h:aq H k l)(hl:l.length<=100000):cz .len [V.ref k] H=some (V.int (.ofNat l.length),H):=by
 have h1:seqView H (.ref k)=some l:=h.view;show(match seqView H (.ref k)with
  |some l=>guard' (lenOk l) (some (V.int (.ofNat l.length),H))
  |none=>_)=_
 rw[h1];dsimp only;rw[cT hl];rfl
theorem jt(h:aq H k l)(hl:l.length<=100000)(e:l[i]?=some v):subs H (V.ref k) (V.int (.ofNat i))=some v:=by
 have h1:dictView H (.ref k)=none:=by
  show(match look H.es k with|some e=>(match e.obj with|.dict l=>some l|.list _=>none)|none=>none)=_
  rw[h]
 show(match dictView H (.ref k)with
  |some l=>subD l _
  |none=>match seqView H (.ref k)with
   |some l=>subL l (V.int (.ofNat i))
   |none=>none)=_
 rw[h1,show seqView H (.ref k)=some l from h.view];show guard' (lenOk l) l[i]?=_;rw[cT hl,e];rfl
theorem VI(h:Bv bv l H)(hl:l.length<=100000)(e:l[i]?=some v):subs H bv (V.int (.ofNat i))=some v:=by
 rcases h with rfl|⟨rfl,h⟩
 ·show guard' (lenOk l) l[i]?=_;rw[cT hl,e];rfl
 ·show(match (match look H.es 0 with|some e=>(match e.obj with|.dict l=>some l|.list _=>none)|none=>none)with
   |some l=>subD l _
   |none=>match seqView H (.ref 0)with
    |some l=>subL l (V.int (.ofNat i))
    |none=>none)=_
  rw[h];show(match (match look H.es 0 with|some e=>(match e.obj with|.list l=>some l|.dict _=>none)|none=>none)with
    |some l=>subL l (V.int (.ofNat i))
    |none=>none)=_
  rw[h];show guard' (lenOk l) l[i]?=_;rw[cT hl,e];rfl
theorem Ss(h:w<=3000000):bu .Gt (V.int (.ofNat w)) (V.int 3000000) H=some false:=by
 show some (c8 3000000 w)=_;have:c8 3000000 w=false:=gP.mpr fun q=>by
  have:3000001<=w:=bC q
  lia
 rw[this]
theorem NY:augV .Add (V.int (.ofNat a)) (V.int (.ofNat b)) H=some (V.int (.ofNat (a+b)),H):=rfl
theorem ZT:bW (some t)=V.tup [encM t.x t.y,aX t.n t.d]:=rfl
theorem Qk:bu .Lt (V.int (-1)) (V.int 0) H=some true:=rfl
theorem VN:bu .Lt (V.int (.ofNat i)) (V.int 0) H=some false:=by
 show some (c8 i 0)=_;rfl
def gT(bv:V)(o:Od)(L QL R F w:Nat)(x0 x8 x10 x11 x12 x13:Option V)(r:ai):ai:=
 x0::some bv::some (aK o)::some (.ref L)::some (.ref QL)::some (.ref R)::some (.ref F)::some (.int (.ofNat w))::x8::some (.int 20000)::x10::x11::x12::x13::none::none::r
theorem Jr(D:DI n0 bv bs ls L QL R F qi qs rest left H)(hp:aW left)(ht:lead (gr o) left=some t)(hw:w+left.length<=3000000) :
  denSs (denS 19) kr (gT bv o L QL R F w x0 x8 x10 x11 x12 x13 r) H =
  denSs (denS 19) (kr.drop 4) (gT bv o L QL R F (w+left.length) x0 (some (encM t.x t.y)) (some (aX t.n t.d)) (some (nJ (firstD t.x t.y 0 ls))) x12 x13 r) (newObj H (.list [.bool false,.bool false])).2:=by
 have tm:=hp.2.1 t (gy ht);have h1:cW [V.ref F,aK o] H=some (bW (lead (gr o) left),H):=jk D.f.frz hp.2.2 (jB hp);have h2:=ED D.f (by rw[gV];have:=hp.1;lia);rw[gV]at h2;have h3:∀H,bu .Gt (V.int (.ofNat (w+left.length))) (V.int 3000000) H=some false:=fun H=>Ss hw;have h4:∀H,qC [aX t.n t.d] H=some (.bool false,H):=fun H=>Ta tm.2.2.1;have D1:=D.new (.list [.bool false,.bool false]);have h5:ou [encM t.x t.y,V.ref L] (newObj H (.list [.bool false,.bool false])).2=some (nJ (firstD t.x t.y 0 ls),(newObj H (.list [.bool false,.bool false])).2):=F5 D1.l.frz;have h6:∀{x6 x7 x11 x12 x13},den 17 rW (x0::some bv::some (aK o)::some (.ref L)::some (.ref QL)::some (.ref R)::x6::x7::some (encM t.x t.y)::some (.int 20000)::some (aX t.n t.d)::x11::x12::x13::none::none::r) H=some (.bool false,(newObj H (.list [.bool false,.bool false])).2):=fun{_ _ _ _ _}=>Tz (n:=9) tm.1 tm.2.1;unfold kr;show denSs (denS 19) [_,_,_,_,_,_,_,_] _ _=denSs (denS 19) [_,_,_,_] _ _;unfold gT;refine aM.trans ?_;simp only[gO,cH,bk,bz,bo,bh,bg,bj,aG,h1,ht,ZT,jP,aY,aZ,gL,aS,bc];refine aM.trans ?_;simp only[qK,sN,jH,bk,bz,bo,bh,bg,bj,aG,h2,NY,aY,aZ,aS,bc];refine aM.trans ?_;simp only[hO,pL,o8,pf,fv,cD,cH,bk,bz,bo,bh,bg,bj,fJ,aG,fD,pH,pI,iR,gx,h3,h4,h6,aY,aZ,aS,bc];refine aM.trans ?_;simp only[cf,cH,bk,bz,bo,bh,bg,bj,aG,h5,aY,aZ,aS,bc]
theorem Zw(D:DI n0 bv bs ls L QL R F qi qs rest left H)(hp:aW left)(hr:rest.length<=10000)(ht:lead (gr o) left=some t)(hw:w+left.length<=3000000)(hf:firstD t.x t.y 0 ls=none) :
  ∃mL tc s9 H',denSs (denS 19) kr (gT bv o L QL R F w x0 x8 x10 x11 x12 x13 r) H=some (.cont,gT bv o L QL R F (w+left.length) x0 mL tc s9 x12 x13 r,H')/\DI n0 bv bs ls L QL R F qi qs (setT rest t) (delT left t.x t.y) H':=by
 have hlen:(aj rest).length<=100000:=by rw[gV];lia
 have oN:(aj left).length<=100000:=by rw[gV];have:=hp.1;lia
 have D1:=D.new (.list [.bool false,.bool false]);have e1:=uN (x:=t.x) (y:=t.y) (v:=aX t.n t.d) D1.r hlen;rw[so]at e1;have D2:=D1.Vs (setT rest t);have hg:dget (aj left) (bU t.x t.y)=some (aX t.n t.d):=by rw[nB,GP hp.2.2 (gy ht)];rfl
 have e2:=R6 D2.f oN hg;rw[EU]at e2;have e3:=WU D2.f;have D3:=D2.VA (delT left t.x t.y);refine⟨some (encM t.x t.y),some (aX t.n t.d),some (.int (-1)),_,?_,D3⟩;rw[Jr D hp ht hw,hf];unfold kr;show denSs (denS 19) [_,_,_,_] _ _=_;unfold gT;refine aM.trans ?_;simp! only[nJ,Qk,e1,e2,e3]
end
end
section
open PySem
section
variable {n0:Nat} {bv:V} {bs:List Po} {ls:List (Option T)} {L QL R F:Nat} {qi:List Nat} {qs:List Po} {rest left:Po} {H:Hp}
theorem Uz{o:Od}{w:Nat}{x0 x8 x10 x11 x12 x13:Option V}{r:ai}{t l:T}{i j:Nat}{g q:Po}{f:Int×Nat}(D:DI n0 bv bs ls L QL R F qi qs rest left H)(hp:aW left)(ht:lead (gr o) left=some t)(hw:w+left.length<=3000000)(hf:firstD t.x t.y 0 ls=some (i,l))
  (hl:cM l.n l.d/\l.n≠0) (cB:bs.length<=1000) (oN:ls.length<=1000) (tY:qi.length<=1000) (hg:bs[i]?=some g) (jo:aW g) (hj:qi[i]?=some j) (hq:qs[i]?=some q) (oH:getT q (t.x - l.x) (t.y - l.y)=none) (aa0:q.length<=9000)
  (sX:f=divQ t.n t.d l.n l.d) (mX:cM f.1 f.2/\f.1≠0) (m7:aW (g.map (mulT (t.x - l.x) (t.y - l.y) f.1 f.2))) :
  ∃F' mL tc s9 K2 H7 H',denSs (denS 19) kr (gT bv o L QL R F w x0 x8 x10 x11 x12 x13 r) H=some (.next,gT bv o L QL R F' (w+left.length) x0 mL tc s9 K2 H7 r,H')/\
   DI n0 bv bs ls L QL R F' qi (qs.set i (q++[⟨t.x - l.x,t.y - l.y,f.1,f.2⟩])) rest (addP left ((g.map (mulT (t.x - l.x) (t.y - l.y) f.1 f.2)).map negT)) H':=by
 exists ft (J5 hf),Z0,lL,hx,hy;have lL:ls[i]?=some (some l):=lL;have hx:l.x<=t.x:=hx;have hy:l.y<=t.y:=hy;have tm:=hp.2.1 t (gy ht);have D1:=D.new (.list [.bool false,.bool false]);have e1:=jt (v:=bW (some l)) (i:=i) D1.l (by rw[aJ];lia) (by rw[dP,lL];rfl);have e2:=CQ (H:=(newObj H (.list [.bool false,.bool false])).2) hx hy;have e3:=Ho (H:=(newObj H (.list [.bool false,.bool false])).2) tm.2.2.1 hl.1 hl.2;rw[<- sX]at e3;have e4:=jt (v:=.ref j) (i:=i) D1.ql (by rw[aJ];lia) (by rw[dP,hj];rfl);have e5:=IM (t:=⟨t.x - l.x,t.y - l.y,f.1,f.2⟩) (D1.q i j q hj hq) D1.wf (by lia) (fun g' e=>by rw[oH]at e;exact nq e) mX.1 mX.2;have ea:addT q ⟨t.x - l.x,t.y - l.y,f.1,f.2⟩=q++[⟨t.x - l.x,t.y - l.y,f.1,f.2⟩]:=by
  rw[addT_eq];dsimp only;rw[oH];exact Df oH
 rw[ea]at e5;dsimp only at e5;have D2:=D1.Qf (p':=q++[⟨t.x - l.x,t.y - l.y,f.1,f.2⟩]) hj hq;have e6:=VI (v:=.dct (aj g)) (i:=i) D2.b (by rw[aJ];lia) (by rw[dP,hg];rfl);have e7:=C5 (H:=setObj (newObj H (.list [.bool false,.bool false])).2 j (.dict (aj (q++[⟨t.x - l.x,t.y - l.y,f.1,f.2⟩])))) (x:=t.x - l.x) (y:=t.y - l.y) jo mX.1 mX.2;have e8:=Ef (av:=.ref F) D2.f.frz hp m7;have D3:=D2.Qm (addP left ((g.map (mulT (t.x - l.x) (t.y - l.y) f.1 f.2)).map negT));refine⟨_,some (encM t.x t.y),some (aX t.n t.d),some (.int (.ofNat i)),some (encM (t.x - l.x) (t.y - l.y)),some (aX f.1 f.2),_,?_,D3⟩;rw[Jr D hp ht hw,hf];unfold kr;show denSs (denS 19) [_,_,_,_] _ _=_;unfold gT;refine aM.trans ?_;simp! only[nJ,VN];simp! only[e1,kJ,Ko,e2,e3,i8,e4,e5,e6,e7,e8];rfl
theorem Sn{o:Od}{w:Nat}{x0 x8 x10 x11 x12 x13:Option V}{r:ai}{n:Nat}(D:DI n0 bv bs ls L QL R F qi qs rest left H)(hp:aW left):den 19 (.cmp .Gt (.bi .len [.var 6]) (.const (V.int 0))) (gT bv o L QL R F w x0 x8 x10 x11 x12 x13 r) H=some (.bool (c8 0 left.length),H):=by
 have h2:=ED D.f (by rw[gV];have:=hp.1;lia);rw[gV]at h2;have h3:∀a H,bu .Gt (V.int (.ofNat a)) (V.int 0) H=some (c8 0 a):=fun _ _=>rfl;unfold gT;simp! only[h2,h3]
theorem DG{o:Bool}{p:Po}(h:lead o p=none):p=[]:=by
 induction p using aN with
 |nil=>rfl
 |cons a r=>exact ns h
theorem lg{n:Nat}(h:0<n):c8 0 n=true:=fq h
set_option tactic.hygienic true in
theorem Tr{o:Od}{x0:Option V}{r:ai}(tv:∀(i:Nat) (l:T),ls[i]?=some (some l)->cM l.n l.d/\l.n≠0)(eI:∀g∈bs,aW g)(cB:bs.length<=1000)(oN:ls.length<=1000)(tY:qi.length<=1000)(res:Po):∀(k:Nat) (qs:List Po) (rest left:Po) (F w n:Nat) (H:Hp) (x8 x10 x11 x12 x13:Option V),
  jX (gr o) bs ls k qs rest left=some res->DI n0 bv bs ls L QL R F qi qs rest left H->aW left->(∀q∈qs,q.length+k<=8000)->rest.length+k<=8000->w+1000 * k<=3000000->k<n->
  ∃F' ρ H' Gp i6,fm (den 19 (.cmp .Gt (.bi .len [.var 6]) (.const (V.int 0)))) (denSs (denS 19) kr) n (gT bv o L QL R F w x0 x8 x10 x11 x12 x13 r) H=some (.next,x0::some bv::some (aK o)::some (.ref L)::some (.ref QL)::some (.ref R)::ρ,H')/\DI n0 bv bs ls L QL R F' qi Gp res i6 H':=by
 intro k
 induction k with
 |zero=>intro _ _ _ _ _ _ _ _ _ _ _ _ e;exact nq e
 |succ k ih=>
  intro qs rest left F w n H x8 x10 x11 x12 x13 e D hp hq hr hw hn;obtain⟨n,rfl⟩:∃m,n=m+1:=⟨n - 1,by lia⟩;have hlen:=hp.1;rw[rQ,Sn (n:=0) D hp,fD];have e:wa bs ls (jX (gr o) bs ls k) qs rest left (lead (gr o) left)=some res:=e
  induction ht:lead (gr o) left using aL with
  |none=>
   rw[ht]at e;have e:some rest=some res:=e
   (clear hlen hn hw hr hq hp ih tY oN cB eI tv;exists e)
   rw[DG ht];rw[DG ht]at D;exact⟨F,_,H,qs,[],rfl,D⟩
  |some t=>
   rw[ht]at e;have gp:0<left.length:=List.length_pos_of_mem (gy ht);rw[lg gp,pX];have e:CM bs (jX (gr o) bs ls k) qs rest left t (firstD t.x t.y 0 ls)=some res:=e
   induction hf:firstD t.x t.y 0 ls using aL with
   |none=>
    rw[hf]at e;have e:jX (gr o) bs ls k qs (setT rest t) (delT left t.x t.y)=some res:=e;exists EM (Zw (x0:=x0) (x8:=x8) (x10:=x10) (x11:=x11) (x12:=x12) (x13:=x13) (r:=r) (o:=o) (w:=w) D hp (by lia) ht (by lia) hf),mL,tc,s9,H',e1,D';rw[e1,aS,mC];exact ih qs (setT rest t) (delT left t.x t.y) F (w+left.length) n H' _ _ _ _ _ e D' (PM hp) (fun q m=>by have:=hq q m;lia) (by have:=H9 (p:=rest) (t:=t);lia) (by lia) (by lia)
   |some d=>
    obtain⟨i,l⟩:=d;rw[hf]at e;have e:divC bs (jX (gr o) bs ls k) qs rest left t i l=some res:=e;unfold divC at e;split at e
    ·exact nq e
    ·rename_i g hg;split at e
     ·exact nq e
     ·rename_i q uU;split at e
      ·exact nq e
      ·rename_i oH;unfold B2 at e;exists cm e,lG,e
       ·unfold wV at e;exists cm e,kb,e
        ·unfold BM at e;exists cm e,ni,e
         ·have jo:=eI g (ee hg);have m7:=ko kb (wk jo.2.2);have mX:=lW lG;have pd:=tv i l (J5 hf).2.1;have hi:i<qi.length:=by rw[D.len];exact(fj.mp uU).1
          have hqm:=hq q (ee uU);refine uE (Uz (x0:=x0) (x8:=x8) (x10:=x10) (x11:=x11) (x12:=x12) (x13:=x13) (r:=r) (o:=o) (w:=w) D hp ht (by lia) hf pd cB oN tY hg jo (List.getElem?_eq_getElem hi) uU oH (by lia) rfl mX m7) fun F' mL tc s9 K2 H7 H' e1 D'=>?_;rw[e1,aS,jL];refine ih _ rest _ F' (w+left.length) n H' _ _ _ _ _ e D' (ko ni (wI hp.2.2)) (fun q' m=>?_) (by lia) (by lia) (by lia);clear D' e1 hi pd mX m7 jo e ni kb lG oH uU hg hf gp ht hlen hn hw hr hp D ih tY oN cB eI tv;clear e;rcases List.mem_or_eq_of_mem_set m with m|m
          ·have:=hq q' m;lia
          ·rw[m,d8];show q.length+1+k<=_
           lia
end
end
section
open PySem
section
variable {H:Hp}
theorem rS:dw k (some H)=some (V.ref k,H):=rfl
theorem E0(h:forItems f items H=some H')(b:Bv bv l H)(b':Bv bv l H'):compGo k f items [bv] H=some (.ref k,H'):=by
 show dw k (unlH H.es [bv] (forItems f items (lockH H [bv])))=_;rw[b.lock,h];show dw k (some ⟨H'.nxt,eD H.es H'.es [bv]⟩)=_;rw[b.kW b',rS]
theorem Ms(hf:∀v H,f v H=jU k (V.ref H.nxt) (newObj H (.dict [])).2):∀(s:List V) (acc:List Nat) (H:Hp),WF H->aq H k (acc.map V.ref)->(∀j∈acc,bS H j [])->acc.Nodup->acc.length+s.length<=50000->
  ∃qi H',forItems f s H=some H'/\WF H'/\aq H' k ((acc++qi).map V.ref)/\(∀j∈acc++qi,bS H' j [])/\(acc++qi).Nodup/\qi.length=s.length/\(∀j∈qi,H.nxt<=j)/\H.nxt<=H'.nxt/\(∀j e,look H.es j=some e->j≠k->look H'.es j=some e):=by
 intro s
 induction s with
 |nil=>
  intro acc H w hk hd hn _;refine⟨[],H,rfl,w,?_,?_,?_,rfl,(fun j m=>nomatch m),cw _,fun j e h _=>h⟩
  ·rw[gc];exact hk
  ·rw[gc];exact hd
  ·rw[gc];exact hn
 |cons v s ih=>
  intro acc H w hk hd hn hl;have hl:acc.length+(s.length+1)<=50000:=hl;have qe:=hk.new w (o:=.dict []);have vt:=uz (v:=.ref H.nxt) qe (cT (by rw[aJ];lia));have wd:H.nxt≠k:=fun e=>by have:=cO w hk;lia
  have lq:bS (setObj (newObj H (.dict [])).2 k (.list (acc.map V.ref++[.ref H.nxt]))) H.nxt []:=(bS.c7 (H:=H) (l:=[])).set wd;have kj:aq (setObj (newObj H (.dict [])).2 k (.list (acc.map V.ref++[.ref H.nxt]))) k ((acc++[H.nxt]).map V.ref):=by
   rw[gM];exact qe.g5
  have hd2:∀j∈acc++[H.nxt],bS (setObj (newObj H (.dict [])).2 k (.list (acc.map V.ref++[.ref H.nxt]))) j []:=fun j m=>by
   clear kj wd vt qe hl hn ih hf;rcases lO.mp m with m|m
   ·exact((hd j m).new w).set fun e=>(hd j m).ne hk e.symm
   ·clear hd hk w;cases c9.mp m;exact lq
  have gz:(acc++[H.nxt]).Nodup:=by
   rw[List.nodup_append];refine⟨hn,by simp,fun a ma b mb e=>?_⟩;clear hd2 kj lq wd vt qe hl hn hk ih hf;cases c9.mp mb;clear mb;subst e;have:=cO w (hd _ ma)
   lia
  clear lq wd qe hn hd hk;obtain⟨qi,H',e1,e2,e3,e4,e5,e6,e7,e8,e9⟩:=ih (acc++[H.nxt]) _ w.new.set kj hd2 gz (by rw[d8];show acc.length+1+s.length<=_;lia);refine⟨H.nxt::qi,H',?_,e2,?_,?_,?_,?_,fun j m=>?_,?_,fun j e hj bN=>?_⟩
  ·show(match f v H with
    |some H=>forItems f s H
    |none=>none)=_
   rw[hf,vt];exact e1
  ·rw[jA]at e3;exact e3
  ·rw[jA]at e4;exact e4
  ·rw[jA]at e5;exact e5
  ·rw[fS,e6];rfl
  ·clear e9 e8 e6 e5 e4 e3 e2 e1 gz hd2 kj vt hl w ih hf;rcases aH.mp m with rfl|m
   ·exact cw _
   ·have:H.nxt+1<=j:=e7 j m;exact fo (e7 j m)
  ·have:H.nxt+1<=H'.nxt:=e8;exact fo e8
  ·exact e9 j e ((eP bN).trans (fB w hj)) bN
theorem Ci(h:look es j=some ⟨j,false,.dict l⟩)(hn:n0<=j):freezeV es n0 (k+1) (.ref j) = .dct l:=by
 show(match b8 n0 j with
  |true=>match look es j with
   |some e=>match e.obj with
    |.list l=>V.lst (l.map (freezeV es n0 k))
    |.dict l=>.dct l
   |none=>.ref j
  |false=>.ref j)=_
 rw[fq hn,h]
theorem iV(h:look es j=some ⟨j,false,.list l⟩)(hn:n0<=j):freezeV es n0 (k+1) (.ref j) = .lst (l.map (freezeV es n0 k)):=by
 show(match b8 n0 j with
  |true=>match look es j with
   |some e=>match e.obj with
    |.list l=>V.lst (l.map (freezeV es n0 k))
    |.dict l=>.dct l
   |none=>.ref j
  |false=>.ref j)=_
 rw[fq hn,h]
theorem Nz(l:List V):(∀v∈l,∃z:Nat,z<=8/\v = .int (.ofNat z))->maxI 20000 l=some 20000:=by
 induction l with
 |nil=>
  intro _;exact rfl
 |cons v l ih=>
  intro h;exists ae (h v (.head _)),z,hz,xG;subst xG;show(match c8 20000 z with
   |true=>maxI (.ofNat z) l
   |false=>maxI 20000 l)=_
  have:c8 20000 z=false:=gP.mpr fun q=>by
   have:20001<=z:=bC q
   lia
  rw[this];exact ih fun v m=>h v (.tail _ m)
noncomputable def Dv(dv:V)(l:List (List Int×V))(H:Hp):Prop:=dv = .dct l\/(dv = .ref 0/\look H.es 0=some ⟨0,true,.dict l⟩)
theorem Dv.view(h:Dv dv l H):dictView H dv=some l:=by
 rcases h with rfl|⟨rfl,h⟩
 ·rfl
 ·show(match look H.es 0 with|some e=>(match e.obj with|.dict l=>some l|.list _=>none)|none=>none)=_
  rw[h]
theorem Dv.seq(h:Dv dv l H):seqView H dv=none:=by
 rcases h with rfl|⟨rfl,h⟩
 ·rfl
 ·show(match look H.es 0 with|some e=>(match e.obj with|.list l=>some l|.dict _=>none)|none=>none)=_
  rw[h]
theorem Dv.it(h:Dv dv (aj p) H):iterOf H .seq [dv]=some (p.map fun t=>encM t.x t.y):=by
 show(match seqView H dv with
  |some l=>some l
  |none=>match dictView H dv with
   |some l=>some (l.map fun e:List Int×V=>ofKey e.1)
   |none=>none)=_
 rw[h.seq,h.view];show some ((aj p).map fun e=>ofKey e.1)=_;unfold aj;rw[d5];rfl
theorem Dv.lock(h:Dv dv l H):lockH H [dv]=H:=by
 rcases h with rfl|⟨rfl,h⟩
 ·rfl
 ·show(⟨H.nxt,cN H.es (.ref 0)⟩:Hp)=_;unfold cN;dsimp only;rw[h];dsimp only;rw[lX h]
theorem Dv.kW(h:Dv dv l H)(h':Dv dv l H'):(⟨H'.nxt,eD H.es H'.es [dv]⟩:Hp)=H':=by
 rcases h with rfl|⟨rfl,h⟩
 ·rfl
 ·rcases h' with q|⟨_,h'⟩
  ·clear h;cases q
  show(⟨H'.nxt,tP H'.es 0 (look H.es 0) (look H'.es 0)⟩:Hp)=_;rw[h,h'];show(⟨H'.nxt,put H'.es 0 _ _⟩:Hp)=_;rw[lX h']
theorem Dv.new(h:Dv dv l H)(w:WF H):Dv dv l (newObj H o).2:=h.imp id fun q=>⟨q.1,fB w q.2⟩
theorem OX(h:forItems f items H=some H')(b:Dv dv l H)(b':Dv dv l H'):compGo k f items [dv] H=some (.ref k,H'):=by
 show dw k (unlH H.es [dv] (forItems f items (lockH H [dv])))=_;rw[b.lock,h];show dw k (some ⟨H'.nxt,eD H.es H'.es [dv]⟩)=_;rw[b.kW b',rS]
theorem aaP(h:Dv dv (aj f) H)(hf:aW f):cz .dict [dv] H=some (newObj H (.dict (aj f))):=by
 show(match dictView H dv with
  |some l=>guard' (band (lenOk l) (smallKeys l)) (some (newObj H (.dict l)))
  |none=>match listView H dv with
   |some l=>guard' (lenOk l) (u9 (pairsOf l []) H)
   |none=>none)=_
 rw[h.view];dsimp only;rw[Ab (bx hf.1 dq),J6 hf.2.1];rfl
noncomputable def gB(t:T):List V:=[.int (.ofNat t.x),.int (.ofNat t.y)]
noncomputable def As:ME:=.bi .maxl [.bin .Add (.list [.const (.int 20000)]) (.lcomp [14,15,16] (.var 16) [([15],false,.seq,[.var 0],[]),([16],false,.seq,[.var 15],[])])]
theorem Hs:runGens dn emit ((tg,many,ik,es,ifs)::gs) ρ H=ob (denL dn ρ es H) fun vs H=>match iterOf H ik vs with
  |some items=>unlH H.es vs (forItems (turn dn tg many ifs (runGens dn emit gs) ρ) items (lockH H vs))
  |none=>none:=rfl
theorem aae(hf:aW f)(hd:Dv dv (aj f) H)(wf:WF H) :
  den (n+9) As (some dv::x1::x2::x3::x4::x5::x6::x7::x8::x9::x10::x11::x12::x13::x14::x15::x16::r) H =
   some (.int 20000,(newObj (newObj (newObj H (.list [.int 20000])).2 (.list (f.flatMap gB))).2 (.list (.int 20000::f.flatMap gB))).2):=by
 have hlen:(f.flatMap gB).length<=2 * f.length:=by
  clear hf hd;clear wf;induction f with
  |nil=>exact cw _
  |cons a f ih=>
   rw[iQ,d8];show 2+_<=2 * (f.length+1)
   lia
 have Yi:=hf.1;unfold As;obtain⟨nx,es⟩:=H;have tT:Dv dv (aj f) ⟨nx+1,⟨nx,false,.list [.int 20000]⟩::es⟩:=hd.new wf;have xU:WF ⟨nx+1,⟨nx,false,.list [.int 20000]⟩::es⟩:=WF.new (H:=⟨nx,es⟩) wf;simp! only[tT.it];have this:=dF (k:=nx+1) (n:=nx+1+1) (es:=⟨nx,false,.list [.int 20000]⟩::es) (enc:=fun t:T=>encM t.x t.y) (f:=turn (den (n+6)) [15] false [] (runGens (den (n+6)) (cp (nx+1) (.var 16) (den (n+6))) [([16],false,.seq,[.var 15],[])]) (some dv::x1::x2::x3::x4::x5::x6::x7::x8::x9::x10::x11::x12::x13::none::none::none::r)) gB f [] (fun t m acc ha=>by
   have it:∀H,iterOf H .seq [encM t.x t.y]=some [V.int (.ofNat t.x),V.int (.ofNat t.y)]:=fun _=>rfl;have lk:∀H,lockH H [encM t.x t.y]=H:=fun _=>rfl;simp! only[Hs,it,lk];show unlH _ _ (match turn _ _ _ _ _ _ _ _ with
    |some H=>(match turn _ _ _ _ _ _ _ H with
     |some H=>some H
     |none=>none)
    |none=>none)=_
   simp! only[];rw[dm ha];dsimp only;rw[uz (l:=acc++[V.int (Int.ofNat t.x)]) aq.hd (cT (by rw[d8];show acc.length+1<=_;lia)),yh,jA];rfl) (by show 0+_<=_;lia)
 rw[dh]at this;rw[OX this (tT.new xU (o:=.list [])) (tT.new xU (o:=.list _))];simp! only[];have qh:listView ⟨nx+1+1,⟨nx+1,false,.list (f.flatMap gB)⟩::⟨nx,false,.list [.int 20000]⟩::es⟩ (.ref nx)=some [.int 20000]:=by
  show(match look _ nx with|some e=>(match e.obj with|.list l=>some l|.dict _=>none)|none=>none)=_
  rw[dg (Ne.symm (Nat.ne_add_one nx)),hV]
 have J1:listView ⟨nx+1+1,⟨nx+1,false,.list (f.flatMap gB)⟩::⟨nx,false,.list [.int 20000]⟩::es⟩ (.ref (nx+1))=some (f.flatMap gB):=aq.view aq.hd;have hb:binOp .Add (.ref nx) (.ref (nx+1)) ⟨nx+1+1,⟨nx+1,false,.list (f.flatMap gB)⟩::⟨nx,false,.list [.int 20000]⟩::es⟩=some (newObj ⟨nx+1+1,⟨nx+1,false,.list (f.flatMap gB)⟩::⟨nx,false,.list [.int 20000]⟩::es⟩ (.list ([.int 20000]++f.flatMap gB))):=by
  show(match listView _ (V.ref nx)with
   |some x=>match listView _ (V.ref (nx+1))with
    |some y=>guard' (band (lenOk x) (lenOk y)) (some (newObj _ (.list (x++y))))
    |none=>none
   |none=>none)=_
  rw[qh,J1];dsimp only;rw[cT (l:=f.flatMap gB) (by lia)];rfl
 simp! only[hb];show(match listView _ (V.ref (nx+1+1))with
  |some l=>retI (maxL l) _
  |none=>none)=_
 rw[aq.view aq.hd];show retI (maxI 20000 (f.flatMap gB)) _=_;rw[Nz _ fun v m=>?_]
 ·rfl
 ·exists ae (List.mem_flatMap.mp m),t,mt,mv;have ht:=hf.2.1 t mt;clear mt m hb J1 qh this xU tT wf hd Yi hlen hf;rcases aH.mp mv with rfl|mv
  ·exact⟨t.x,ht.1,rfl⟩
  ·cases c9.mp mv;exact⟨t.y,ht.2.1,rfl⟩
end
end
section
open PySem
section
variable {H:Hp}
theorem dA{B:Type}{o:bq}{f:V->Hp->Option B}:ob (some (newObj H o)) f=f (.ref H.nxt) (newObj H o).2:=rfl
theorem Vm{qi:List Nat}:∀{qs:List Po},qi.length=qs.length->(∀(i j:Nat) (p:Po),qi[i]?=some j->qs[i]?=some p->look es j=some ⟨j,false,.dict (aj p)⟩)->(∀j∈qi,n0<=j)->NRs ((qi.map V.ref).map (freezeV es n0 1)):=by
 induction qi with
 |nil=>intros;exact .nil
 |cons j qi ih=>
  intro qs h hq hn
  induction qs using aN with
  |nil=>exact absurd h (kc _)
  |cons p qs=>
   have h2:freezeV es n0 (0+1) (.ref j) = .dct (aj p):=Ci (hq 0 j p rfl rfl) (hn j (.head _));rw[aO,aO,h2];exact .cons dG (ih (gG h) (fun i j' p' a b=>hq (i+1) j' p' a b) fun j' m=>hn j' (.tail _ m))
def ar(bs:List Po):List V:=bs.map fun p=>.dct (aj p)
theorem gk:NRs (ar bs):=by
 induction bs with
 |nil=>
  exact .nil
 |cons _ _ ih=>
  exact .cons dG ih
theorem K4{o:Od}{f res:Po}{bs:List Po}{bv dv:V}{H₀:Hp}(hd:Dv dv (aj f) H₀)(hb:Bv bv (ar bs) H₀)(w:WF H₀)(hf:aW f)(eI:∀g∈bs,aW g)(cB:bs.length<=1000)(e:restOf (gr o) f bs=some res) :
  ∃qv H',NR qv/\xJ [dv,bv,aK o] H₀=some (.tup [qv,.dct (aj res)],H'):=by
 obtain⟨n0,i7⟩:=H₀;have h1:∀{x0 x3 x4 x5 x6 x7 x8 x9 x10 x11 x12 x13 x14 x15:Option V} {r:ai},den 19 (.lcomp [14,15] (.call cW [.var 15,.var 2]) [([15],false,.seq,[.var 1],[])]) (x0::some bv::some (aK o)::x3::x4::x5::x6::x7::x8::x9::x10::x11::x12::x13::x14::x15::r) ⟨n0,i7⟩=some (.ref n0,⟨n0+1,⟨n0,false,.list ((bs.map (lead (gr o))).map bW)⟩::i7⟩):=by
  intro x0 x3 x4 x5 x6 x7 x8 x9 x10 x11 x12 x13 x14 x15 r;simp! only[hb.it];refine E0 ?_ (hb.new w (o:=.list [])) (hb.new w (o:=.list _));have:=dF (k:=n0) (n:=n0+1) (es:=i7) (enc:=fun p:Po=>V.dct (aj p)) (f:=turn (den 18) [15] false [] (cp n0 (.call cW [.var 15,.var 2]) (den 18)) (x0::some bv::some (aK o)::x3::x4::x5::x6::x7::x8::x9::x10::x11::x12::x13::none::none::r)) (fun p=>[bW (lead (gr o) p)]) bs [] (fun p m acc ha=>by
   simp! only[jk (av:=.dct (aj p)) rfl (eI p m).2.2 (jB (eI p m))];exact dm ha) (by rw[eW];show 0+bs.length<=_;lia)
  rw[eJ,dh]at this;rw[d5];exact this
 have w1:WF ⟨n0+1,⟨n0,false,.list ((bs.map (lead (gr o))).map bW)⟩::i7⟩:=WF.new (H:=⟨n0,i7⟩) w;have lG:Bv bv (ar bs) ⟨n0+1,⟨n0,false,.list ((bs.map (lead (gr o))).map bW)⟩::i7⟩:=hb.new w;have l1:aq ⟨n0+1,⟨n0,false,.list ((bs.map (lead (gr o))).map bW)⟩::i7⟩ n0 ((bs.map (lead (gr o))).map bW):=aq.hd;have hq:∃(qi:List Nat) (H2:Hp),(∀{x0 x2 x3 x4 x5 x6 x7 x8 x9 x10 x11 x12 x13 x14 x15:Option V} {r:ai},den 19 (.lcomp [14,15] .ji [([15],false,.seq,[.var 1],[])]) (x0::some bv::x2::x3::x4::x5::x6::x7::x8::x9::x10::x11::x12::x13::x14::x15::r) ⟨n0+1,⟨n0,false,.list ((bs.map (lead (gr o))).map bW)⟩::i7⟩=some (.ref (n0+1),H2))/\
   WF H2/\Bv bv (ar bs) H2/\Dv dv (aj f) H2/\aq H2 n0 ((bs.map (lead (gr o))).map bW)/\aq H2 (n0+1) (qi.map V.ref)/\(∀j∈qi,bS H2 j [])/\qi.Nodup/\qi.length=bs.length/\(∀j∈qi,n0+2<=j)/\n0+2<=H2.nxt:=by
  obtain⟨qi,H2,e1,e2,e3,e4,e5,e6,e7,e8,e9⟩:=Ms (k:=n0+1) (f:=fun v H=>jU (n0+1) (V.ref H.nxt) (newObj H (.dict [])).2) (fun _ _=>rfl) (ar bs) [] ⟨n0+1+1,⟨n0+1,false,.list []⟩::⟨n0,false,.list ((bs.map (lead (gr o))).map bW)⟩::i7⟩ (WF.new (H:=⟨n0+1,_⟩) w1) aq.hd (fun j m=>nomatch m) List.nodup_nil (by unfold ar;rw[aJ];show 0+bs.length<=_;lia);have kb:Bv bv (ar bs) ⟨n0+1+1,⟨n0+1,false,.list []⟩::⟨n0,false,.list ((bs.map (lead (gr o))).map bW)⟩::i7⟩:=lG.new w1;have ni:Bv bv (ar bs) H2:=kb.imp id fun z=>⟨z.1,e9 _ _ z.2 (Nat.zero_ne_add_one n0)⟩;have hd2:Dv dv (aj f) ⟨n0+1+1,⟨n0+1,false,.list []⟩::⟨n0,false,.list ((bs.map (lead (gr o))).map bW)⟩::i7⟩:=(hd.new w (o:=.list _)).new w1;have RN:Dv dv (aj f) H2:=hd2.imp id fun z=>⟨z.1,e9 _ _ z.2 (Nat.zero_ne_add_one n0)⟩;have l2:aq ⟨n0+1+1,⟨n0+1,false,.list []⟩::⟨n0,false,.list ((bs.map (lead (gr o))).map bW)⟩::i7⟩ n0 ((bs.map (lead (gr o))).map bW):=l1.new w1;refine⟨qi,H2,?_,e2,ni,RN,e9 _ _ l2 (Nat.ne_add_one n0),e3,e4,e5,by rw[e6];unfold ar;rw[aJ],e7,e8⟩;intro x0 x2 x3 x4 x5 x6 x7 x8 x9 x10 x11 x12 x13 x14 x15 r;simp! only[lG.it];refine E0 ?_ kb ni;rw[<- e1];congr 1
 exists KS hq,qi,H2,h2,w2,kb,hd2,l2,Pq,q2,nq,Kj,Ft,NP
 try clear hq
 have h3:=aaP (hd2.new w2 (o:=.dict [])) hf;have w3:=w2.new (o:=.dict []);have D4:DI n0 bv bs (bs.map (lead (gr o))) n0 (n0+1) H2.nxt (H2.nxt+1) qi (bs.map fun _=>[]) [] f (newObj (newObj H2 (.dict [])).2 (.dict (aj f))).2:=by
  refine⟨w3.new,(kb.new w2).new w3,(l2.new w2).new w3,(Pq.new w2).new w3,fun i j p a b=>?_,(bS.c7 (H:=H2) (l:=[])).new w3,bS.c7 (H:=(newObj H2 (.dict [])).2),nq,by rw[Kj,aJ],fun m=>?_,fun m=>?_,by exact Nat.ne_add_one H2.nxt,by exact Nat.le_add_right n0 1,by exact Nat.le_of_add_right_le NP,fun j m=>by have:=Ft j m;exact Nat.le_of_add_right_le (Ft j m)⟩
  ·have hp:p=[]:=by
    rw[dP]at b
    induction q:bs[i]? using aL with
    |none=>rw[q]at b;cases b
    |some c=>rw[q]at b;exists b;rfl
   subst hp;exact((q2 j (ee a)).new w2).new w3
  ·have:=cO w2 (q2 _ m);lia
  ·have:=cO w2 (q2 _ m);lia
 have D7:=((D4.new (.list [.int 20000])).new (.list (f.flatMap gB))).new (.list (.int 20000::f.flatMap gB));have tv:∀(i:Nat) (l:T),(bs.map (lead (gr o)))[i]?=some (some l)->cM l.n l.d/\l.n≠0:=fun i l q=>by
  rw[dP]at q
  induction q':bs[i]? using aL with
  |none=>rw[q']at q;cases q
  |some g=>
   rw[q']at q;have q:some (lead (gr o) g)=some (some l):=q;have:=(eI g (ee q')).2.1 l (gy (aI q));exact this.2.2
 obtain⟨F',ρ,H',Gp,i6,e4,D⟩:=Tr (x0:=some dv) (r:=cu 13 none) tv eI cB (by rw[aJ];exact cB) (by rw[Kj];exact cB) res 100 (bs.map fun _=>[]) [] f (H2.nxt+1) 0 1000 _ none none none none none e D7 hf
  (fun q m=>by obtain⟨c,_,rfl⟩:=cE.mp m;decide) dq dq dq
 refine⟨.lst ((qi.map V.ref).map (freezeV H'.es n0 1)),⟨H'.nxt,dropNew n0 H'.es⟩,.lst (Vm D.len D.q D.lo.2.2),?_⟩;unfold xJ GY;rw[i9];unfold gT kr rW at e4;simp only[rep0,rep1]at e4;rw[aM];simp only[cf,h1,rep0,rep1,aG,aY,aZ,aS,bc];rw[aM];simp only[cf,h2,aG,aY,aZ,aS,bc];rw[aM];simp only[gO,fh,qN,jH,bk,bz,bo,cD,bh,bg,bj,aG,dA,h3,show ∀o,(newObj H2 o).2.nxt=H2.nxt+1 from fun _=>rfl,lP,gL,aY,aZ,aS,bc];rw[aM];have h5:=fun{x1 x2 x3 x4 x5 x6 x7 x8 x9 x10 x11 x12 x13 x14 x15 x16:Option V} {r:ai}=>aae (H:=(newObj (newObj H2 (.dict [])).2 (.dict (aj f))).2) hf ((hd2.new w2).new w3) w3.new (n:=10) (x1:=x1) (x2:=x2) (x3:=x3) (x4:=x4) (x5:=x5) (x6:=x6) (x7:=x7) (x8:=x8) (x9:=x9) (x10:=x10) (x11:=x11) (x12:=x12) (x13:=x13) (x14:=x14) (x15:=x15) (x16:=x16) (r:=r);unfold As at h5;simp only[Nat.reduceAdd]at h5;simp only[cf,h5,aG,aY,aZ,aS,bc];rw[aM];simp only[oW];rw[show(V.int 0)=V.int (Int.ofNat 0)from rfl]at *;rw[e4];simp! only[];show some (freezeV H'.es n0 3 (.tup [.ref (n0+1),.ref H2.nxt]),(⟨H'.nxt,dropNew n0 H'.es⟩:Hp))=_;show some (V.tup [freezeV H'.es n0 2 (.ref (n0+1)),freezeV H'.es n0 2 (.ref H2.nxt)],(⟨H'.nxt,dropNew n0 H'.es⟩:Hp))=_;rw[iV D.ql D.lo.1,Ci D.r D.lo.2.1]
end
end
section
open PySem
section
variable {H:Hp}
theorem VC{o:Od}{f res:Po}{bs:List Po}{k:Nat}(hk:lj H k=some (ar bs))(hf:aW f)(eI:∀g∈bs,aW g)(cB:bs.length<=1000)(e:restOf (gr o) f bs=some res) :
  ∃qv,NR qv/\vZ [.dct (aj f),.ref k,aK o] H=some (.tup [qv,.dct (aj res)],H):=by
 obtain⟨qv,H',h1,h2⟩:=K4 (H₀:=⟨1,[⟨0,true,.list (ar bs)⟩]⟩) (dv:=.dct (aj f)) (bv:=.ref 0) (.inl rfl) (.inr ⟨rfl,rfl⟩) (fun e m=>by clear cB eI hf hk;cases c9.mp m;exact Nat.zero_lt_one) hf eI cB e;exact⟨qv,h1,Hi hk h2 dG fb gk (.tup (.cons h1 (.cons dG .nil)))⟩
theorem HJ:subs H (.tup [a,b]) (V.int 1)=some b:=rfl
theorem FK{o:Od}{f res:Po}{bs:List Po}{k:Nat}(hk:lj H k=some (ar bs))(hf:aW f)(eI:∀g∈bs,aW g)(cB:bs.length<=1000)(e:restOf (gr o) f bs=some res) :
  jW [.dct (aj f),.ref k,aK o] H=some (.dct (aj res),H):=by
 exists ae (VC (H:=⟨1,[⟨0,true,.list (ar bs)⟩]⟩) (k:=0) rfl hf eI cB e),qv,h1,h2;refine Hi (H':=⟨1,[⟨0,true,.list (ar bs)⟩]⟩) hk ?_ dG fb gk dG;unfold zt A3;rw[i9];simp! only[h2,HJ];rfl
theorem Nu{o:Od}{f res:Po}{bs:List Po}{k:Nat}(hk:dictAt (.ref k) H=some (aj f))(hf:aW f)(eI:∀g∈bs,aW g)(cB:bs.length<=1000)(e:restOf (gr o) f bs=some res) :
  ∃qv,NR qv/\vZ [.ref k,.lst (ar bs),aK o] H=some (.tup [qv,.dct (aj res)],H):=by
 obtain⟨qv,H',h1,h2⟩:=K4 (H₀:=⟨1,[⟨0,true,.dict (aj f)⟩]⟩) (dv:=.ref 0) (bv:=.lst (ar bs)) (.inr ⟨rfl,rfl⟩) (.inl rfl) (fun e m=>by clear cB eI hf hk;cases c9.mp m;exact Nat.zero_lt_one) hf eI cB e;exact⟨qv,h1,Jf hk h2 (.cons (.lst gk) (.cons fb .nil)) (wb _) (.tup (.cons h1 (.cons dG .nil)))⟩
theorem Uy{o:Od}{f res:Po}{bs:List Po}{k:Nat}(hk:dictAt (.ref k) H=some (aj f))(hf:aW f)(eI:∀g∈bs,aW g)(cB:bs.length<=1000)(e:restOf (gr o) f bs=some res) :
  jW [.ref k,.lst (ar bs),aK o] H=some (.dct (aj res),H):=by
 exists ae (Nu (H:=⟨1,[⟨0,true,.dict (aj f)⟩]⟩) (k:=0) rfl hf eI cB e),qv,h1,h2;refine Jf (H':=⟨1,[⟨0,true,.dict (aj f)⟩]⟩) hk ?_ (.cons (.lst gk) (.cons fb .nil)) (wb _) dG;unfold zt A3;rw[i9];simp! only[h2,HJ];rfl
theorem aq.at(h:aq H k l):lj H k=some l:=by
 show(match look H.es k with|some e=>(match e.obj with|.list l=>some l|.dict _=>none)|none=>none)=_
 rw[h]
end
def sPolyD(r:Po):Option Po:=match ja r with
 |true=>some r
 |false=>none
def sPolyC(s1 s2:Po):Option Po:=match ja s1 with
 |true=>match ja s2 with
  |true=>sPolyD (addP s1 (s2.map negT))
  |false=>none
 |false=>none
def sPolyB(f g:Po)(a b:T)(jx jy:Nat)(p q:Int×Nat):Option Po:=match bndQ p.1 p.2 with
 |true=>match bndQ q.1 q.2 with
  |true=>sPolyC (f.map (mulT (Nat.sub jx a.x) (Nat.sub jy a.y) p.1 p.2)) (g.map (mulT (Nat.sub jx b.x) (Nat.sub jy b.y) q.1 q.2))
  |false=>none
 |false=>none
noncomputable def nmax(a b:Nat):Nat:=match b8 a b with
 |true=>b
 |false=>a
theorem nmax_eq(a b:Nat):nmax a b=max a b:=by
 unfold nmax
 induction h:b8 a b using aB with
 |true=>rw[Nat.max_eq_right (bC h)]
 |false=>
  have:¬ a<=b:=fun q=>by rw[fq q]at h;exact bt h
  rw[Nat.max_eq_left (Nat.le_of_not_ge this)]
noncomputable def pJ(a b:Nat):Nat:=match b8 a b with
 |true=>a
 |false=>b
theorem nmin_eq(a b:Nat):pJ a b=min a b:=by
 unfold pJ
 induction h:b8 a b using aB with
 |true=>rw[Nat.min_eq_left (bC h)]
 |false=>
  have:¬ a<=b:=fun q=>by rw[fq q]at h;exact bt h
  rw[Nat.min_eq_right (Nat.le_of_not_ge this)]
def E9(f g:Po)(a b:Option T):Option Po:=match a with
 |some a=>match b with
  |some b=>sPolyB f g a b (nmax a.x b.x) (nmax a.y b.y) (invQ a.n a.d) (invQ b.n b.d)
  |none=>none
 |none=>none
def sPoly(o:Bool)(f g:Po):Option Po:=E9 f g (lead o f) (lead o g)
section
variable {H:Hp}
set_option tactic.hygienic true in
theorem Nt(hf:aW f)(hg:aW g)(e:sPoly (gr o) f g=some s):aW s/\uY [.dct (aj f),.dct (aj g),aK o] H=some (.dct (aj s),H):=by
 unfold sPoly E9 at e;split at e
 ·rename_i a ha;exists OC e,b,hb,e
  ·unfold sPolyB at e;split at e
   ·rename_i hp;exists cm e,hq,e
    ·unfold sPolyC at e;split at e
     ·rename_i h1;exists cm e,h2,e
      ·unfold sPolyD at e;exists cm e,h3,e
       ·exists e;rw[nmax_eq,nmax_eq]at h1 h2 h3 ⊢;have k1:aW (f.map (mulT (max a.x b.x - a.x) (max a.y b.y - a.y) (invQ a.n a.d).1 (invQ a.n a.d).2)):=ko h1 (wk hf.2.2);have k2:aW (g.map (mulT (max a.x b.x - b.x) (max a.y b.y - b.y) (invQ b.n b.d).1 (invQ b.n b.d).2)):=ko h2 (wk hg.2.2);have k3:=ko h3 (wI k1.2.2);refine⟨k3,?_⟩;have a1:=(hf.2.1 a (gy ha)).2.2;have b1:=(hg.2.1 b (gy hb)).2.2;have p1:=lW hp;have q1:=lW hq;have m1:=jk (H:=⟨0,[]⟩) (o:=o) (av:=.dct (aj f)) rfl hf.2.2 (jB hf);have m2:=jk (H:=⟨0,[]⟩) (o:=o) (av:=.dct (aj g)) rfl hg.2.2 (jB hg);rw[ha]at m1;rw[hb]at m2;have l1:a.x<=max a.x b.x:=Nat.le_max_left _ _;have l2:a.y<=max a.y b.y:=Nat.le_max_left _ _;have l3:b.x<=max a.x b.x:=Nat.le_max_right _ _;have l4:b.y<=max a.y b.y:=Nat.le_max_right _ _;have e1:=C5 (H:=⟨0,[]⟩) (x:=max a.x b.x - a.x) (y:=max a.y b.y - a.y) hf p1.1 p1.2;have e2:=C5 (H:=⟨0,[]⟩) (x:=max a.x b.x - b.x) (y:=max a.y b.y - b.y) hg q1.1 q1.2;have e3:=Ef (H:=⟨0,[]⟩) (av:=.dct (aj (f.map (mulT (max a.x b.x - a.x) (max a.y b.y - a.y) (invQ a.n a.d).1 (invQ a.n a.d).2)))) rfl k1 k2;refine eV (H':=⟨1,[]⟩) ?_ (.cons dG (.cons dG (.cons fb .nil))) dG;unfold J7 JS;rw[i9];simp! only[m1,m2,kJ,Ko,zu,CQ l1 l2,CQ l3 l4,BU a1.1 a1.2,BU b1.1 b1.2,i8,e1,e2,e3];rfl
     ·exact nq e
   ·exact nq e
 ·exact nq e
end
end
section
open PySem
noncomputable abbrev Pr:=Nat×Nat
theorem ph{B:Type}{x:Option Pr}{f:Pr->Option B}{b:B}{P:Prop}(h:(match x with|some a=>f a|none=>none)=some b)(k:∀a,x=some a->f a=some b->P):P:=by induction x using aL with|none=>exact nq h|some a=>exact k a rfl h
theorem ZN{B:Type}{x:Option Pr}{f:Pr->Option B}{b:B}{P:Prop}(h:(match x with|none=>none|some a=>f a)=some b)(k:∀a,x=some a->f a=some b->P):P:=by induction x using aL with|none=>exact nq h|some a=>exact k a rfl h
theorem lI{B:Type}{x:Option (List Pr)}{f:List Pr->Option B}{b:B}{P:Prop}(h:(match x with|none=>none|some a=>f a)=some b)(k:∀a,x=some a->f a=some b->P):P:=by induction x using aL with|none=>exact nq h|some a=>exact k a rfl h
def z0(o:Bool)(x y i j x' y' i' j':Nat):Bool:=match bJ x y x' y' with
 |true=>gtM false i' j' i j
 |false=>gtM o x' y' x y
section
variable {H:Hp}
theorem fQ(hl:l.length<=100000)(e:l[i]?=some v):subs H (.lst l) (V.int (.ofNat i))=some v:=by
 show guard' (lenOk l) l[i]?=_;rw[cT hl,e];rfl
theorem M0:subs H (encM x y) (V.int 0)=some (V.int (.ofNat x)):=rfl
theorem M1:subs H (encM x y) (V.int 1)=some (V.int (.ofNat y)):=rfl
noncomputable def hX(l:List Pr):Prop:=∀m∈l,m.1<=1000/\m.2<=1000
theorem mR{ls:List Pr}:NR (.lst (ls.map encN)):=.lst HE
theorem UZ(hl:ls.length<=1000)(h:hX ls)(ha:ls[i]?=some a)(hb:ls[j]?=some b):∃H',zZ [encM i j,.lst (ls.map encN),aK o] ⟨0,[]⟩=some (.tup [keyV o (max a.1 b.1) (max a.2 b.2),encM i j],H'):=by
 have hlen:(ls.map encN).length<=100000:=by rw[aJ];lia
 have h1:(ls.map encN)[i]?=some (encN a):=by rw[dP,ha];rfl
 have h2:(ls.map encN)[j]?=some (encN b):=by rw[dP,hb];rfl
 have ba:=h a (ee ha);have bb:=h b (ee hb);refine⟨⟨0,[]⟩,?_⟩;unfold zZ I8;rw[i9];simp! only[M0,M1,fQ hlen h1,fQ hlen h2,encN,zu,uq (x:=max a.1 b.1) (y:=max a.2 b.2) (Nat.max_le.mpr ⟨ba.1,bb.1⟩) (Nat.max_le.mpr ⟨ba.2,bb.2⟩)];clear bb ba h2 h1 hlen hb ha h hl;induction o using Internal.Od.casesOn <;> rfl
theorem HD(hv:frz H lv = .lst (ls.map encN))(hl:ls.length<=1000)(h:hX ls)(ha:ls[i]?=some a)(hb:ls[j]?=some b) :
  uR [encM i j,lv,aK o] H=some (.tup [keyV o (max a.1 b.1) (max a.2 b.2),encM i j],H):=by
 exists aD (UZ (o:=o) hl h ha hb),H',e;have hz:frz H (aK o)=aK o:=ua fb;have he:[encM i j,lv,aK o].map (frz H)=[encM i j,.lst (ls.map encN),aK o]:=by
  rw[aO,aO,aO,hv,hz];rfl
 exact dZ (by rw[he];exact e) (by rw[he];exact .cons eX (.cons mR (.cons fb .nil))) (.tup (.cons IT (.cons kO .nil)))
theorem uo:teq (n+2) (keyV o x y) (keyV o x' y')=bJ x y x' y':=by
 have e1:∀a b:Nat,ieq (-Int.ofNat a) (-Int.ofNat b)=aF a b:=fun a b=>by
  rw[ieq_eq,g8,Nat.beq_eq];simp;exact Int.ofNat_inj
 unfold bJ
 induction o using Internal.Od.casesOn with
 |lex=>
  show(match aF x x' with
   |true=>(match aF y y' with|true=>true|false=>false)
   |false=>false)=_
  clear e1;induction aF x x' using aB with
  |true=>induction aF y y' using aB <;> rfl
  |false=>rfl
 |iH=>
  show(match aF (x+y) (x'+y')with
   |true=>(match aF x x' with
    |true=>(match aF y y' with|true=>true|false=>false)
    |false=>false)
   |false=>false)=_
  clear e1;induction hx:aF x x' using aB with
  |true=>
   induction hy:aF y y' using aB with
   |true=>rw[cU hx,cU hy,ew]
   |false=>clear hy hx;induction aF (x+y) (x'+y')using aB <;> rfl
  |false=>clear hx;induction aF (x+y) (x'+y')using aB <;> rfl
 |grevlex=>
  show(match aF (x+y) (x'+y')with
   |true=>(match ieq (-Int.ofNat y) (-Int.ofNat y')with
    |true=>(match ieq (-Int.ofNat x) (-Int.ofNat x')with|true=>true|false=>false)
    |false=>false)
   |false=>false)=_
  rw[e1,e1];clear e1;induction hx:aF x x' using aB with
  |true=>
   induction hy:aF y y' using aB with
   |true=>rw[cU hx,cU hy,ew]
   |false=>clear hy hx;induction aF (x+y) (x'+y')using aB <;> rfl
  |false=>clear hx;induction hy:aF y y' using aB <;> induction aF (x+y) (x'+y')using aB <;> rfl
theorem SA:∀(n:Nat) (l l':List Int) (f:V->V->Option Bool) (f':V->V->Option Bool),l.length=l'.length->(∀a b:Int,f (.int a) (.int b)=f' (.int b) (.int a))->fM false f (l.map .int) (l'.map .int)=fM true f' (l'.map .int) (l.map .int):=by
 intro n l
 induction l with
 |nil=>intro l' f f' h _;induction l' using aN with
  |nil=>rfl
  |cons=>cases h
 |cons a l ih=>
  intro l' f f' h hf
  induction l' using aN with
  |nil=>clear hf ih;cases h
  |cons b l'=>
   show(match ieq a b with
    |true=>fM false f (l.map .int) (l'.map .int)
    |false=>f (.int a) (.int b))=(match ieq b a with
    |true=>fM true f' (l'.map .int) (l.map .int)
    |false=>f' (.int b) (.int a))
   have hc:ieq b a=ieq a b:=by rw[ieq_eq,ieq_eq,g8];simp;exact eq_comm
   rw[hc,ih l' f f' (gG h) hf,hf a b]
noncomputable def sU:Od->Nat->Nat->List Int
 |.lex,x,y=>[.ofNat x,.ofNat y]
 |.iH,x,y=>[.ofNat (x+y),.ofNat x,.ofNat y]
 |.grevlex,x,y=>[Int.ofNat (x+y),-Int.ofNat y,-Int.ofNat x]
theorem Iv:keyV o x y = .tup ((sU o x y).map .int):=by induction o using Internal.Od.casesOn <;> rfl
theorem Z9:(sU o x y).length=(sU o x' y').length:=by induction o using Internal.Od.casesOn <;> rfl
theorem uc(n:Nat):tcmp false (n+2) (keyV o x y) (keyV o x' y')=some (gtM (gr o) x' y' x y):=by
 have h:=Ez (H:=e0) (x:=x') (y:=y') (x':=x) (y':=y) o;have h2:bu .Gt (keyV o x' y') (keyV o x y) e0=fM true (tcmp true 7) ((sU o x' y').map .int) ((sU o x y).map .int):=by clear h;induction o using Internal.Od.casesOn <;> rfl
 rw[h2]at h;rw[<- h,Iv,Iv];show fM false (tcmp false (n+1)) _ _=_;exact SA 0 _ _ _ _ Z9 fun _ _=>rfl
theorem Uv:bu .Lt (.tup [keyV o x y,encM i j]) (.tup [keyV o x' y',encM i' j']) H=some (z0 (gr o) x y i j x' y' i' j'):=by
 have h0:bu .Lt (.tup [keyV o x y,encM i j]) (.tup [keyV o x' y',encM i' j']) H=fM false (tcmp false 7) [keyV o x y,encM i j] [keyV o x' y',encM i' j']:=by induction o using Internal.Od.casesOn <;> rfl
 rw[h0];show(match teq 8 (keyV o x y) (keyV o x' y')with
  |true=>(match teq 8 (encM i j) (encM i' j')with
   |true=>some false
   |false=>tcmp false 7 (encM i j) (encM i' j'))
  |false=>tcmp false 7 (keyV o x y) (keyV o x' y'))=_
 rw[uo (n:=6),uc 5,show teq 8 (encM i j) (encM i' j')=bJ i j i' j' from uo (o:=.lex) (n:=6),show tcmp false 7 (encM i j) (encM i' j')=_ from uc (o:=.lex) 5];unfold z0;clear h0;induction bJ x y x' y' using aB with
 |false=>rfl
 |true=>
  dsimp only
  induction h:bJ i j i' j' using aB with
  |false=>rfl
  |true=>
   exists ak ((i3 _ _ _ _).mp h),Z4,Ae;clear h;subst Z4;subst Ae;dsimp only;have:gtM false i j i j=false:=gP.mpr fun q=>by
    have:=(v5 false).mp q;dsimp only at this
    lia
   rw[this]
def q9(leads:List Pr)(p:Pr):Option Pr:=match leads[p.1]? with
 |some a=>match leads[p.2]? with
  |some b=>some (nmax a.1 b.1,nmax a.2 b.2)
  |none=>none
 |none=>none
set_option tactic.hygienic true in
theorem J2(h:q9 leads p=some k):∃a b,leads[p.1]?=some a/\leads[p.2]?=some b/\k=(max a.1 b.1,max a.2 b.2):=by
 unfold q9 at h;split at h
 ·rename_i a ha;exists ph h,b,hb,h
  ·exists h;rw[nmax_eq,nmax_eq];exact⟨a,b,ha,hb,rfl⟩
 ·exact nq h
def Hd(go:Pr->Pr->Option Pr)(o:Bool)(b j p:Pr)(k:Option Pr):Option Pr:=match k with
 |some k=>match z0 o k.1 k.2 p.1 p.2 j.1 j.2 b.1 b.2 with
  |true=>go p k
  |false=>go b j
 |none=>none
def leastG(o:Bool)(leads:List Pr):List Pr->Pr->Pr->Option Pr
 |[],b,_=>some b
 |p::r,b,j=>Hd (leastG o leads r) o b j p (q9 leads p)
def least(o:Bool)(leads:List Pr)(w:List Pr):Option Pr:=match w with
 |[]=>none
 |p::r=>match q9 leads p with
  |some k=>leastG o leads r p k
  |none=>none
def uF:List MS:=[(.assign 6 (.call uR [(.var 5),(.var 1),(.var 2)])),(.if_ (.eT [(.cmp .Is (.var 3) (.const .none)),(.cmp .Lt (.var 6) (.var 4))]) [(.unpack [3,4] (.tup [(.var 5),(.var 6)]))] [])]
theorem WV(hl:ls.length<=1000)(h:hX ls):∀(w:List Pr) (b j res:Pr) (o5 o6:Option V),leastG (gr o) ls w b j=some res->
  ∃v mJ Lo,loopF [5] false (denSs (denS 19) uF) (w.map encN) (x0::some (.lst (ls.map encN))::some (aK o)::some (encN b)::some (.tup [keyV o j.1 j.2,encN b])::o5::o6::r) H =
   some (.next,x0::some (.lst (ls.map encN))::some (aK o)::some (encN res)::v::mJ::Lo::r,H):=by
 intro w
 induction w with
 |nil=>intro b j res o5 o6 e;exists e;exact⟨_,o5,o6,rfl⟩
 |cons p w ih=>
  intro b j res o5 o6 e;have e:Hd (leastG (gr o) ls w) (gr o) b j p (q9 ls p)=some res:=e;exists ph e,k,hk,e
  ·exists cx (J2 hk),a,c,ha,hc,yi;clear hk;subst yi;rw[aO,fx];unfold uF;have e1:=HD (H:=H) (o:=o) (lv:=.lst (ls.map encN)) rfl hl h ha hc;simp! only[encN,e1,is_none,Ax,Uv];unfold uF encN at ih;split at e
   ·rename_i q;simp! only[q];exact ih p _ res _ _ e
   ·rename_i q;simp! only[q];exact ih b _ res _ _ e
set_option tactic.hygienic true in
theorem UO{o:Od}{ls w:List Pr}{res:Pr}(hl:ls.length<=1000)(h:hX ls)(e:least (gr o) ls w=some res):CA [.lst (w.map encN),.lst (ls.map encN),aK o] ⟨0,[]⟩=some (encN res,⟨0,[]⟩):=by
 unfold least at e;split at e
 ·exact nq e
 ·rename_i p w;exists ph e,k,hk,e
  ·exists cx (J2 hk),a,c,ha,hc,OV;clear hk;subst OV;have e1:=HD (H:=⟨0,[]⟩) (o:=o) (lv:=.lst (ls.map encN)) rfl hl h ha hc;have it:∀H,iterOf H .seq [.lst ((p::w).map encN)]=some ((p::w).map encN):=fun _=>rfl;exists lh (WV (H:=⟨0,[]⟩) hl h (x0:=some (.lst ((p::w).map encN))) (r:=cu 15 none) w p _ res (some (encN p)) (some (.tup [keyV o (max a.1 c.1) (max a.2 c.2),encN p])) e),v,o5,o6,el;unfold CA F2;rw[i9];simp! only[it,rF];rw[aO,fx];unfold uF at el;simp only[rep0,rep1]at el;simp only[encN]at el e1;simp! only[encN,e1,is_none,show isNone V.none=true from rfl];rw[aO]at el;simp only[encN]at el;rw[el];simp! only[mN];rfl
theorem LJ{o:Od}{ls w:List Pr}{res:Pr}{wv lv:V}(hw:frz H wv = .lst (w.map encN))(hv:frz H lv = .lst (ls.map encN))(hl:ls.length<=1000)(h:hX ls)(e:least (gr o) ls w=some res):tX [wv,lv,aK o] H=some (encN res,H):=by
 have hz:frz H (aK o)=aK o:=ua fb;have he:[wv,lv,aK o].map (frz H)=[.lst (w.map encN),.lst (ls.map encN),aK o]:=by
  rw[aO,aO,aO,hw,hv,hz];rfl
 exact dZ (by rw[he];exact UO hl h e) (by rw[he];exact .cons mR (.cons mR (.cons fb .nil))) kO
end
end
section
open PySem
def memP(i j:Nat):List Pr->Bool
 |[]=>false
 |q::r=>match bJ q.1 q.2 i j with
  |true=>true
  |false=>memP i j r
section
variable {H:Hp}
theorem Ge:res H (k+2) (encM i j)=some (encM i j):=rfl
theorem Pd(w:List Pr):resL (res H (k+2)) (w.map encN)=some (w.map encN):=by
 induction w with
 |nil=>
  exact rfl
 |cons a w ih=>
  show(match res H (k+2) (encN a)with
   |some b=>match resL (res H (k+2)) (w.map encN)with
    |some s=>some (b::s)
    |none=>none
   |none=>none)=_
  rw[show res H (k+2) (encN a)=some (encN a)from Ge,ih];rfl
theorem EV:teq (n+2) (encM i j) (encM i' j')=bJ i j i' j':=uo (o:=.lex)
theorem Qb(w:List Pr):tmem (encM i j) (w.map encN)=memP i j w:=by
 induction w with
 |nil=>
  exact rfl
 |cons a w ih=>
  show(match teq deepN (encN a) (encM i j)with
   |true=>true
   |false=>tmem (encM i j) (w.map encN))=_
  rw[show teq deepN (encN a) (encM i j)=bJ a.1 a.2 i j from EV (n:=6),ih];rfl
theorem AL(h:w.length<=10000):bu .NotIn (encM i j) (.lst (w.map encN)) H=some (!memP i j w):=by
 show jm (guard' (lenOk (w.map encN)) (qd H (encM i j) (w.map encN)))=_;rw[cT (by rw[aJ];lia)];show jm (match res H 7 (encM i j)with
  |some x=>match resL (res H 7) (w.map encN)with
   |some l=>some (tmem x l)
   |none=>none
  |none=>none)=_
 rw[Ge (k:=5),Pd (k:=5)];show jm (some (tmem (encM i j) (w.map encN)))=_;rw[Qb];rfl
theorem Vr:bu .In (V.int (.ofNat k)) (encM i j) H=some (match aF i k with|true=>true|false=>aF j k):=by
 show some (match aF i k with
  |true=>true
  |false=>(match aF j k with
   |true=>true
   |false=>false))=_
 induction aF i k using aB with
 |true=>rfl
 |false=>induction aF j k using aB <;> rfl
theorem O5:eB ρ [a,b] true (encM i j)=some (slotS (slotS ρ a (some (.int (.ofNat i)))) b (some (.int (.ofNat j)))):=rfl
theorem IU:cz .min2 [V.int (.ofNat i),V.int (.ofNat j)] H=some (V.int (.ofNat (min i j)),H):=by rw[<- wK];rfl
theorem HS:cz .max2 [V.int (.ofNat i),V.int (.ofNat j)] H=some (V.int (.ofNat (max i j)),H):=by rw[<- xb];rfl
theorem JN:oA (.bool b) H=some (.bool (!b),H):=rfl
theorem encM_eq:V.tup [V.int (Int.ofNat i),V.int (Int.ofNat j)]=encM i j:=rfl
def EY(go:Bool)(i j k:Nat)(w:List Pr):Bool:=match memP (pJ i k) (nmax i k) w with
 |true=>go
 |false=>match memP (pJ j k) (nmax j k) w with
  |true=>go
  |false=>true
def Ey(go:Bool)(i j k:Nat)(w:List Pr)(d:Bool):Bool:=match aF i k with
 |true=>go
 |false=>match aF j k with
  |true=>go
  |false=>match d with
   |false=>go
   |true=>EY go i j k w
def qa(i j jx jy:Nat)(w:List Pr):Nat->List Pr->Bool
 |_,[]=>false
 |k,l::r=>Ey (qa i j jx jy w (Nat.succ k) r) i j k w (dvd' l.1 l.2 jx jy)
def uy:List MS:=[(.if_ (.eT [(.cmp .In (.var 6) (.var 0)),(.lE (.call oO [(.var 7),(.var 5)]))]) [.cont] []),(.if_ (.lz [(.cmp .NotIn (.tup [(.bi .min2 [(.var 3),(.var 6)]),(.bi .max2 [(.var 3),(.var 6)])]) (.var 1)),(.cmp .NotIn (.tup [(.bi .min2 [(.var 4),(.var 6)]),(.bi .max2 [(.var 4),(.var 6)])]) (.var 1))]) [(.ret (.const (.bool true)))] [])]
noncomputable def zm(ρ:ai)(H:Hp)(b:Bool):Option (Fl×ai×Hp):=match b with
 |false=>some (.next,ρ,H)
 |true=>some (.ret (.bool true),ρ,H)
theorem Rv(hw:w.length<=10000):∀(ls:List Pr) (k:Nat) (o6 o7:Option V),
  ∃ρ,loopF [6,7] true (denSs (denS 19) uy) (enumL (Int.ofNat k) (ls.map encN)) (some (encM i j)::some (.lst (w.map encN))::x2::some (.int (.ofNat i))::some (.int (.ofNat j))::some (encM jx jy)::o6::o7::r) H=zm ρ H (qa i j jx jy w k ls):=by
 intro ls
 induction ls with
 |nil=>intro k o6 o7;exact⟨_,rfl⟩
 |cons l ls ih=>
  intro k o6 o7;exists aD (ih (k+1) (some (.int (.ofNat k))) (some (encN l))),ρ,e;rw[aO];show ∃ρ,loopF _ _ _ (V.tup [.int (.ofNat k),encN l]::enumL (Int.ofNat (k+1)) (ls.map encN)) _ _=_;rw[fx];unfold uy;unfold uy encN at e;dsimp only[qa,Ey];simp! only[encN,Vr]
  induction aF i k using aB with
  |true=>
   simp! only[];exact⟨ρ,e⟩
  |false=>
   induction aF j k using aB with
   |true=>
    simp! only[];exact⟨ρ,e⟩
   |false=>
    simp! only[FC,JN]
    induction dvd' l.1 l.2 jx jy using aB with
    |false=>
     simp! only[Bool.not_false];exact⟨ρ,e⟩
    |true=>
     unfold EY;rw[nmin_eq,nmax_eq,nmin_eq,nmax_eq];simp! only[Bool.not_true,IU,HS,encM_eq,AL hw]
     induction memP (min i k) (max i k) w using aB with
     |true=>
      simp! only[Bool.not_true];exact⟨ρ,e⟩
     |false=>
      simp! only[Bool.not_false,IU,HS,encM_eq,AL hw]
      induction memP (min j k) (max j k) w using aB with
      |true=>
       simp! only[Bool.not_true];exact⟨ρ,e⟩
      |false=>
       simp! only[Bool.not_false];exact⟨_,rfl⟩
def needlessA(p:Pr)(w ls:List Pr)(a b:Pr):Bool:=match aF (Nat.add (pJ a.1 b.1) (pJ a.2 b.2)) 0 with
 |true=>true
 |false=>qa p.1 p.2 (nmax a.1 b.1) (nmax a.2 b.2) w 0 ls
def oh(p:Pr)(w ls:List Pr):Option Bool:=match ls[p.1]? with
 |some a=>match ls[p.2]? with
  |some b=>some (needlessA p w ls a b)
  |none=>none
 |none=>none
set_option tactic.hygienic true in
theorem Nl(hw:w.length<=10000)(hl:ls.length<=1000)(h:hX ls)(e:oh p w ls=some r):∃H',By [encN p,.lst (w.map encN),.lst (ls.map encN)] ⟨0,[]⟩=some (.bool r,H'):=by
 refine⟨⟨0,[]⟩,?_⟩;unfold oh at e;split at e
 ·rename_i a ha;exists ph e,b,hb,e
  ·exists e;have hlen:(ls.map encN).length<=100000:=by rw[aJ];lia
   have h1:(ls.map encN)[p.1]?=some (encN a):=by rw[dP,ha];rfl
   have h2:(ls.map encN)[p.2]?=some (encN b):=by rw[dP,hb];rfl
   have ba:=h a (ee ha);unfold needlessA;rw[nmin_eq,nmin_eq,nmax_eq,nmax_eq];have e3:=Za (H:=⟨0,[]⟩) (x:=a.1) (y:=a.2) (x':=b.1) (y':=b.2) ba.1 ba.2;have it:∀H,iterOf H .enum [.lst (ls.map encN)]=some (enumL (Int.ofNat 0) (ls.map encN)):=fun _=>rfl;exists aD (Rv (H:=⟨0,[]⟩) (i:=p.1) (j:=p.2) (jx:=max a.1 b.1) (jy:=max a.2 b.2) hw (x2:=some (.lst (ls.map encN))) (r:=cu 15 none) ls 0 none none),ρ,el;unfold By HO;rw[i9];unfold uy at el;simp only[rep0,rep1,encN]at el;simp only[encN]at h1 h2 hlen it;simp! only[encN,O5,fQ hlen h1,fQ hlen h2,e3];show _=some (V.bool (match aF (min a.1 b.1+min a.2 b.2) 0 with|true=>true|false=>_),_)
   induction aF (min a.1 b.1+min a.2 b.2) 0 using aB with
   |true=>
    simp! only[];rfl
   |false=>
    simp! only[fQ hlen h1,fQ hlen h2,zu,it,rF];rw[el]
    induction qa p.1 p.2 (max a.1 b.1) (max a.2 b.2) w 0 ls using aB with
    |true=>
     simp! only[zm,mN];rfl
    |false=>
     simp! only[zm,mN];rfl
 ·exact nq e
theorem Ji(M8:frz H wv = .lst (w.map encN))(hv:frz H lv = .lst (ls.map encN))(hw:w.length<=10000)(hl:ls.length<=1000)(h:hX ls)(e:oh p w ls=some r):u5 [encN p,wv,lv] H=some (.bool r,H):=by
 exists aD (Nl hw hl h e),H',e;have he:[encN p,wv,lv].map (frz H)=[encN p,.lst (w.map encN),.lst (ls.map encN)]:=by
  rw[aO,aO,aO,M8,hv];rfl
 exact dZ (by rw[he];exact e) (by rw[he];exact .cons eX (.cons mR (.cons mR .nil))) (.bool _)
end
end
section
open PySem
section
variable {H:Hp}
theorem yC:put (put es k a o) k b p=put es k b p:=by
 induction es with
 |nil=>
  exact rfl
 |cons e0 r ih=>
  obtain⟨i,l,q⟩:=e0;by_cases e:i=k
  ·subst e;rw[j9,j9,j9]
  ·rw[eN e,eN e,eN e,ih]
theorem mT(hc:look es c=some ⟨c,false,o⟩)(hk:k≠c)(h:forItems f items ⟨n,⟨k,false,.list []⟩::put es c true o⟩=some ⟨n,⟨k,false,.list l⟩::put es c true o⟩) :
  compGo k f items [.ref c] ⟨n,⟨k,false,.list []⟩::es⟩=some (.ref k,⟨n,⟨k,false,.list l⟩::es⟩):=by
 have hl:lockH ⟨n,⟨k,false,.list []⟩::es⟩ [.ref c]=⟨n,⟨k,false,.list []⟩::put es c true o⟩:=by
  show(⟨n,cN (⟨k,false,.list []⟩::es) (.ref c)⟩:Hp)=_;rw[w9 ((dg hk).trans hc),eN hk]
 show dw k (unlH (⟨k,false,.list []⟩::es) [.ref c] (forItems f items (lockH ⟨n,⟨k,false,.list []⟩::es⟩ [.ref c])))=_;rw[hl,h];show dw k (some ⟨n,gQ (⟨k,false,.list []⟩::es) (⟨k,false,.list l⟩::put es c true o) (.ref c)⟩)=_;rw[qz ((dg hk).trans hc) ((dg hk).trans (m8 hc)),eN hk,yC,lX hc,rS]
theorem Hb(h:forItems f items ⟨n,⟨k,false,.list []⟩::es⟩=some ⟨n,⟨k,false,.list l⟩::es⟩):compGo k f items [.int i] ⟨n,⟨k,false,.list []⟩::es⟩=some (.ref k,⟨n,⟨k,false,.list l⟩::es⟩):=by
 show dw k (unlH _ [.int i] (forItems f items ⟨n,⟨k,false,.list []⟩::es⟩))=_;rw[h];rfl
noncomputable def az(i:Nat):V:=.int (.ofNat i)
theorem range_eq(n:Nat):∀(a:Nat),rangeL (Int.ofNat a) n=(eE a n).map az:=by
 induction n with
 |zero=>
  intro _;exact rfl
 |succ n ih=>
  intro a;show V.int (.ofNat a)::rangeL (Int.ofNat (a+1)) n=_;rw[ih (a+1)];rfl
theorem rI(h:n<=1000):iterOf H .range1 [V.int (.ofNat n)]=some ((eE 0 n).map az):=by
 show(match inB (-100000) 100000 (.ofNat n)with
  |true=>some (rangeL 0 n)
  |false=>none)=_
 have:inB (-100000) 100000 (.ofNat n)=true:=by
  unfold inB;have h1:ilt (.ofNat n) (-100000)=false:=rfl;have h2:ilt 100000 (.ofNat n)=false:=by
   rw[ilt_eq];simp;lia
  rw[h1,h2]
 rw[this];exact congrArg some (range_eq n 0)
theorem Cv(hl:l.length<=100000):cz .len [V.dct l] H=some (V.int (.ofNat l.length),H):=by
 show guard' (lenOk l) (some (V.int (.ofNat l.length),H))=_;rw[cT hl];rfl
theorem mA(hl:l.length<=100000):cz .len [V.lst l] H=some (V.int (.ofNat l.length),H):=by
 show guard' (lenOk l) (some (V.int (.ofNat l.length),H))=_;rw[cT hl];rfl
theorem lM:bu .Gt (V.int (.ofNat n)) (V.int 0) H=some (c8 0 n):=rfl
theorem Fw:bu .NotEq (encM i j) (encM i' j') H=some (!bJ i j i' j'):=by
 show some (!teq 8 (encM i j) (encM i' j'))=_;rw[EV (n:=6)]
theorem vH(bs:List Po):(ar bs).map (freezeV es n0 k)=ar bs:=by
 induction bs with
 |nil=>
  exact rfl
 |cons p r ih=>
  show freezeV es n0 k (.dct (aj p))::(ar r).map (freezeV es n0 k)=_;rw[ih,show freezeV es n0 k (.dct (aj p)) = .dct (aj p) by clear ih;induction k using bL <;> rfl];rfl
end
def Cg(r:Po):Option Po:=match ja r with
 |true=>some r
 |false=>none
def zr(p:Po)(q:Int×Nat):Option Po:=match bndQ q.1 q.2 with
 |true=>Cg (p.map (tj q.1 q.2))
 |false=>none
def Ba(p:Po)(t:Option T):Option Po:=match t with
 |none=>none
 |some t=>zr p (invQ t.n t.d)
def mon(o:Bool)(p:Po):Option Po:=Ba p (lead o p)
theorem vJ(hp:aW p)(e:mon o p=some r):∃t,lead o p=some t/\cM (invQ t.n t.d).1 (invQ t.n t.d).2/\(invQ t.n t.d).1≠0/\l8 o p=r/\aW r:=by
 unfold mon Ba at e;exists Iq e,t,ht,e
 ·unfold zr at e;exists cm e,hq,e
  ·unfold Cg at e;exists cm e,hr,e
   ·exists e;refine⟨t,ht,(lW hq).1,(lW hq).2,?_,ko hr (uJ _ (fun _ _ q=>q) hp.2.2)⟩;unfold l8;rw[ht]
theorem AF(hp:aW p)(e:mon (gr o) p=some r):aW r/\jg [.dct (aj p),aK o] H=some (.dct (aj r),H):=by
 exists nF (vJ hp e),t,ht,h1,h2,Qv,h4;clear e;subst Qv;exact⟨h4,L5 hp fun t' e'=>by rw[ht]at e';exists e';exact⟨h1,h2⟩⟩
def mons(o:Bool):List Po->Option (List Po)
 |[]=>some []
 |p::r=>match mon o p with
  |none=>none
  |some q=>match mons o r with
   |none=>none
   |some s=>some (q::s)
set_option tactic.hygienic true in
theorem F7:∀{b:List Po},mons o s=some b->s.length=b.length/\(∀p∈s,∃q,mon o p=some q)/\b=s.map (l8 o)/\((∀p∈s,aW p)->∀q∈b,aW q):=by
 induction s with
 |nil=>
  intro b e;exists e;exact⟨rfl,fun p m=>(by cases m),rfl,fun _ q m=>by cases m⟩
 |cons p r ih=>
  intro b e;dsimp only[mons]at e;split at e
  ·exact nq e
  ·rename_i q hq;exists Nc e,s,hs,e
   ·exists e;exists ft (ih hs),h1,h2,h3,h4;refine⟨by rw[fS,fS,h1],fun p' m=>?_,?_,fun hp q' m=>?_⟩
    ·rcases aH.mp m with rfl|m
     ·exact⟨q,hq⟩
     ·exact h2 p' m
    ·rw[aO,<- h3];congr 1;have:=hq;unfold mon Ba at this;exists Iq this,t,ht,this
     ·unfold zr at this;exists cm this,Z0,this
      ·unfold Cg at this;exists cm this,Z0,this
       ·exists this;unfold l8;rw[ht]
    ·rcases aH.mp m with rfl|m
     ·exists nF (vJ (hp p (.head _)) hq),Z0,Z0,Z0,Z0,Z0,h;exact h
     ·exact h4 (fun p m=>hp p (.tail _ m)) q' m
def leadsP(o:Bool):List Po->Option (List Pr)
 |[]=>some []
 |p::r=>match lead o p with
  |none=>none
  |some t=>match leadsP o r with
   |none=>none
   |some s=>some ((t.x,t.y)::s)
set_option tactic.hygienic true in
theorem r6:∀{ls:List Pr},leadsP o b=some ls->b.length=ls.length/\(∀p∈b,∃t,lead o p=some t)/\ls=b.map (fun p=>match lead o p with|none=>(0,0)|some t=>(t.x,t.y))/\((∀p∈b,aW p)->hX ls):=by
 induction b with
 |nil=>
  intro ls e;exists e;exact⟨rfl,fun p m=>(by cases m),rfl,fun _ q m=>by cases m⟩
 |cons p r ih=>
  intro ls e;dsimp only[leadsP]at e;split at e
  ·exact nq e
  ·rename_i t ht;exists lI e,s,hs,e
   ·exists e;exists ft (ih hs),h1,h2,h3,h4;refine⟨by rw[fS,fS,h1],fun p' m=>?_,?_,fun hp q' m=>?_⟩
    ·rcases aH.mp m with rfl|m
     ·exact⟨t,ht⟩
     ·exact h2 p' m
    ·rw[aO,ht,<- h3]
    ·rcases aH.mp m with rfl|m
     ·have:=(hp p (.head _)).2.1 t (gy ht);exact⟨bx this.1 dq,bx this.2.1 dq⟩
     ·exact h4 (fun p m=>hp p (.tail _ m)) q' m
end
section
open PySem
noncomputable def pairsTo(n:Nat):List Pr:=(eE 0 n).map fun i=>(i,n)
def allP(n:Nat):List Pr:=(eE 0 n).flatMap pairsTo
section
variable {H:Hp}
theorem pairs_len:(pairsTo n).length=n:=by unfold pairsTo;rw[aJ,kn]
theorem Ha{A B:Type}{f:A->List B}{m:Nat}(s:List A):(∀a∈s,(f a).length<=m)->(s.flatMap f).length<=s.length * m:=by
 induction s with
 |nil=>
  intro _;exact Nat.le_of_eq (by simp)
 |cons a s ih=>
  intro h;rw[iQ,d8,fS,Nat.succ_mul];have:=ih fun b m=>h b (.tail _ m);have:=h a (.head _)
  lia
theorem mem_range(h:i∈eE 0 n):i<n:=by
 have:=List.mem_range'.mp h
 lia
theorem Uo{A:Type}{k:Nat}{f:V->Hp->Option Hp}{enc:A->V}{n:Nat}{es:List Ent}(F:A->List V):∀(s:List A) (acc:List V),(∀a∈s,∀acc:List V,acc.length+(F a).length<=90000->f (enc a) ⟨n,⟨k,false,.list acc⟩::es⟩=some ⟨n,⟨k,false,.list (acc++F a)⟩::es⟩)->
  acc.length+(s.flatMap F).length<=90000->forItems f (s.map enc) ⟨n,⟨k,false,.list acc⟩::es⟩=some ⟨n,⟨k,false,.list (acc++s.flatMap F)⟩::es⟩:=by
 intro s
 induction s with
 |nil=>intro acc _ _;simp only[List.map_nil,List.flatMap_nil,gc];rfl
 |cons a s ih=>
  intro acc hf hl;rw[iQ,d8]at hl;rw[aO,iQ];show(match f (enc a) ⟨n,⟨k,false,.list acc⟩::es⟩with
   |some H=>forItems f (s.map enc) H
   |none=>none)=_
  rw[hf a (.head _) acc (by lia)];dsimp only;rw[ih (acc++F a) (fun b m=>hf b (.tail _ m)) (by rw[d8];lia),jA]
theorem B4(hs:∀p∈s,aW p)(hb:mons (gr o) s=some b)(hl:leadsP (gr o) b=some ls)(hlen:s.length<=40) :
  (den 19 (.lcomp [9,10] (.call jg [(.var 10),(.var 1)]) [([10],false,.seq,[(.var 0)],[(.cmp .Gt (.bi .len [(.var 10)]) (.const (.int 0)))])]) (some (.lst (ar s))::some (aK o)::x2::x3::x4::x5::x6::x7::x8::x9::x10::x11::r) ⟨0,[]⟩=some (.ref 0,⟨1,[⟨0,false,.list (ar b)⟩]⟩))/\
  (den 19 (.lcomp [9,10] (.sub (.call cW [(.var 10),(.var 1)]) (.const (.int 0))) [([10],false,.seq,[(.var 3)],[])]) (some (.lst (ar s))::some (aK o)::x2::some (.ref 0)::x4::x5::x6::x7::x8::x9::x10::x11::r) ⟨1,[⟨0,false,.list (ar b)⟩]⟩=some (.ref 1,⟨2,[⟨1,false,.list (ls.map encN)⟩,⟨0,false,.list (ar b)⟩]⟩))/\
  (den 19 (.lcomp [9,10,11] (.tup [(.var 11),(.var 10)]) [([10],false,.range1,[(.bi .len [(.var 3)])],[]),([11],false,.range1,[(.var 10)],[])]) (some (.lst (ar s))::some (aK o)::x2::some (.ref 0)::x4::x5::x6::x7::x8::x9::x10::x11::r) ⟨2,[⟨1,false,.list (ls.map encN)⟩,⟨0,false,.list (ar b)⟩]⟩ =
   some (.ref 2,⟨3,[⟨2,false,.list ((allP b.length).map encN)⟩,⟨1,false,.list (ls.map encN)⟩,⟨0,false,.list (ar b)⟩]⟩)):=by
 exists ft (F7 hb),m1,m2,m3,m4;exists ft (r6 hl),n1,n2,n3,n4;have jq:=m4 hs;refine⟨?_,?_,?_⟩
 ·have it:∀H,iterOf H .seq [.lst (ar s)]=some (ar s):=fun _=>rfl;simp! only[it];refine iX ?_;have:=dF (k:=0) (n:=1) (es:=[]) (enc:=fun p:Po=>V.dct (aj p)) (f:=turn (den 18) [10] false [.cmp .Gt (.bi .len [.var 10]) (.const (.int 0))] (cp 0 (.call jg [.var 10,.var 1]) (den 18)) (some (.lst (ar s))::some (aK o)::x2::x3::x4::x5::x6::x7::x8::none::none::x11::r)) (fun p=>[.dct (aj (l8 (gr o) p))]) s [] (fun p m acc ha=>by
   exists aD (m2 p m),q,hq;exists nF (vJ (hs p m) hq),t,ht,Z0,Z0,he,Z0;have gp:0<p.length:=List.length_pos_of_mem (gy ht);have hle:=(hs p m).1;have e1:∀H,cz .len [V.dct (aj p)] H=some (V.int (.ofNat p.length),H):=fun H=>by
    have:=Cv (H:=H) (l:=aj p) (by rw[gV];lia);rw[gV]at this;exact this
   simp! only[e1,lM,lg gp,(AF (hs p m) hq).2];rw[he];exact dm ha) (by rw[eW];show 0+s.length<=_;lia)
  rw[eJ,dh]at this;show forItems _ (s.map _) _=_;rw[this,m3];unfold ar;rw[d5];rfl
 ·have it:∀H,aq H 0 (ar b)->iterOf H .seq [.ref 0]=some (ar b):=fun H h=>by
   show(match seqView H (.ref 0)with|some l=>some l|none=>_)=_
   rw[show seqView H (.ref 0)=some (ar b)from h.view]
  simp! only[it _ aq.hd];refine mT (o:=.list (ar b)) rfl dq ?_;have:=dF (k:=1) (n:=2) (es:=put [⟨0,false,.list (ar b)⟩] 0 true (.list (ar b))) (enc:=fun p:Po=>V.dct (aj p)) (f:=turn (den 18) [10] false [] (cp 1 (.sub (.call cW [.var 10,.var 1]) (.const (.int 0))) (den 18)) (some (.lst (ar s))::some (aK o)::x2::some (.ref 0)::x4::x5::x6::x7::x8::none::none::x11::r)) (fun p=>[encN (match lead (gr o) p with|none=>(0,0)|some t=>(t.x,t.y))]) b [] (fun p m acc ha=>by
   exists aD (n2 p m),t,ht;have e1:∀H,cW [.dct (aj p),aK o] H=some (bW (lead (gr o) p),H):=fun H=>jk (av:=.dct (aj p)) rfl (jq p m).2.2 (jB (jq p m));rw[ht]at e1;rw[ht];simp! only[e1,kJ];exact dm ha) (by rw[eW];show 0+b.length<=_;lia)
  rw[eJ,dh]at this;show forItems _ (b.map _) _=_;rw[this,n3,d5];rfl
 ·have hn:b.length<=1000:=by lia
  have e1:∀(H:Hp),aq H 0 (ar b)->cz .len [V.ref 0] H=some (V.int (.ofNat b.length),H):=fun H h=>by
   have:=m9 h (by unfold ar;rw[aJ];lia);unfold ar at this;rw[aJ]at this;exact this
  have sT:aq ⟨2,[⟨1,false,.list (ls.map encN)⟩,⟨0,false,.list (ar b)⟩]⟩ 0 (ar b):=rfl;simp! only[e1 _ sT,rI hn];refine Hb ?_;have hp:∀a∈eE 0 b.length,((pairsTo a).map encN).length<=40:=fun a m=>by
   have:=mem_range m;rw[aJ,pairs_len];lia
  have:=Uo (k:=2) (n:=3) (es:=[⟨1,false,.list (ls.map encN)⟩,⟨0,false,.list (ar b)⟩]) (enc:=az) (f:=turn (den 18) [10] false [] (runGens (den 18) (cp 2 (.tup [.var 11,.var 10]) (den 18)) [([11],false,.range1,[.var 10],[])]) (some (.lst (ar s))::some (aK o)::x2::some (.ref 0)::x4::x5::x6::x7::x8::none::none::none::r)) (fun j=>(pairsTo j).map encN) (eE 0 b.length) [] (fun j m acc ha=>by
   have hj:=mem_range m;have o9:∀H,lockH H [az j]=H:=fun _=>rfl;simp! only[Hs,show ∀H,iterOf H .range1 [az j]=some ((eE 0 j).map az)from fun H=>rI (by lia),o9];have:=dF (k:=2) (n:=3) (es:=[⟨1,false,.list (ls.map encN)⟩,⟨0,false,.list (ar b)⟩]) (enc:=az) (f:=turn (den 18) [11] false [] (cp 2 (.tup [.var 11,.var 10]) (den 18)) (some (.lst (ar s))::some (aK o)::x2::some (.ref 0)::x4::x5::x6::x7::x8::none::some (az j)::none::r)) (fun i=>[encM i j]) (eE 0 j) acc (fun i m acc ha=>by
    simp! only[];exact dm ha) (by rw[eW,kn];rw[aJ,pairs_len]at ha;exact ha)
   rw[eJ]at this;rw[this];unfold pairsTo;rw[d5];rfl) (by have:=Ha (m:=40) (f:=fun j=>(pairsTo j).map encN) _ hp;rw[kn]at this;show 0+_<=_;lia)
  rw[dh]at this;rw[this];unfold allP;rw[List.map_flatMap]
end
end
section
open PySem
def dropP(p:Pr):List Pr->List Pr
 |[]=>[]
 |q::r=>match bJ q.1 q.2 p.1 p.2 with
  |true=>dropP p r
  |false=>q::dropP p r
section
variable (go:List Po->List Pr->List Pr->Option (List Po)) (o:Bool) (basis:List Po) (leads w:List Pr)
def E1(m:Option Po)(t:Option T):Option (List Po):=match m with
 |none=>none
 |some m=>match t with
  |none=>none
  |some t=>go (basis++[m]) (leads++[(t.x,t.y)]) (w++pairsTo basis.length)
def grE2(r:Po):Option (List Po):=match ja r with
 |true=>E1 go basis leads w (mon o r) (lead o r)
 |false=>none
def FF(r:Option Po):Option (List Po):=match r with
 |none=>none
 |some r=>match r with
  |[]=>go basis leads w
  |t::r=>grE2 go o basis leads w (t::r)
def grD(s:Option Po):Option (List Po):=match s with
 |none=>none
 |some s=>FF go o basis leads w (restOf o s basis)
def grC(f g:Option Po):Option (List Po):=match f with
 |none=>none
 |some f=>match g with
  |none=>none
  |some g=>grD go o basis leads w (sPoly o f g)
def F8(p:Pr)(nd:Option Bool):Option (List Po):=match nd with
 |none=>none
 |some b=>match b with
  |true=>go basis leads w
  |false=>grC go o basis leads w basis[p.1]? basis[p.2]?
def grA(p:Option Pr):Option (List Po):=match p with
 |none=>none
 |some p=>F8 go o basis leads (dropP p w) p (oh p (dropP p w) leads)
end
def grG(o:Bool):Nat->List Po->List Pr->List Pr->Option (List Po)
 |0,_,_,_=>none
 |k+1,basis,leads,w=>match w with
  |[]=>some basis
  |_::_=>grA (grG o k) o basis leads w (least o leads w)
def Fo(o:Bool)(b:Option (List Po)):Option (List Po):=match b with
 |none=>none
 |some b=>match leadsP o b with
  |none=>none
  |some ls=>grG o 40 b ls (allP b.length)
def vu(o:Bool)(s:List Po):Option (List Po):=Fo o (mons o s)
structure dW (B L W:Nat) (basis:List Po) (leads w:List Pr) (H:Hp):Prop where
 wf:WF H
 b:aq H B (ar basis)
 l:aq H L (leads.map encN)
 w:aq H W (w.map encN)
 bl:B≠L
 bw:B≠W
 lw:L≠W
section
variable {B L W:Nat} {basis:List Po} {leads w:List Pr} {H:Hp}
theorem dW.new(G:dW B L W basis leads w H)(o:bq):dW B L W basis leads w (newObj H o).2:=⟨G.wf.new,G.b.new G.wf,G.l.new G.wf,G.w.new G.wf,G.bl,G.bw,G.lw⟩
theorem dW.SP(G:dW B L W basis leads w H)(w':List Pr):dW B L H.nxt basis leads w' (newObj H (.list (w'.map encN))).2:=by
 have G':=G.new (.list (w'.map encN));exact⟨G'.wf,G'.b,G'.l,aq.c7,G.bl,fun e=>by have:=cO G.wf G.b;lia,fun e=>by have:=cO G.wf G.l;lia⟩
theorem dW.Qz(G:dW B L W basis leads w H)(w':List Pr):dW B L W basis leads w' (setObj H W (.list (w'.map encN))):=⟨G.wf.set,G.b.set G.bw,G.l.set G.lw,G.w.g5,G.bl,G.bw,G.lw⟩
theorem dW.setB(G:dW B L W basis leads w H)(b':List Po):dW B L W b' leads w (setObj H B (.list (ar b'))):=⟨G.wf.set,G.b.g5,G.l.set G.bl.symm,G.w.set G.bw.symm,G.bl,G.bw,G.lw⟩
theorem dW.W8(G:dW B L W basis leads w H)(l':List Pr):dW B L W basis l' w (setObj H L (.list (l'.map encN))):=⟨G.wf.set,G.b.set G.bl,G.l.g5,G.w.set G.lw.symm,G.bl,G.bw,G.lw⟩
theorem lF(h:aq H k l)(hl:l.length<=100000):eC .append (.ref k) [v] H=some (.none,setObj H k (.list (l++[v]))):=by
 unfold eC;rw[h.own];show guard' (lenOk l) _=_;rw[cT hl];rfl
theorem PB(h:aq H k l)(h':aq H j x)(hl:l.length<=100000)(hx:x.length<=100000)(hj:j≠k):eC .extend (.ref k) [.ref j] H=some (.none,setObj H k (.list (l++x))):=by
 unfold eC;rw[h.own];show(match listView H (.ref j)with
  |some x=>guard' (band (!aF j k) (band (lenOk l) (lenOk x))) (some (V.none,setObj H k (.list (l++x))))
  |none=>none)=_
 rw[h'.view,xC hj];dsimp only;rw[cT hl,cT hx];rfl
theorem mZ(h:aq H k l):fZ .append (own H (.ref k))=true:=by rw[h.own];rfl
theorem Zc(h:aq H k l):fZ .extend (own H (.ref k))=true:=by rw[h.own];rfl
theorem lA(h:aq H k l):iterOf H .seq [.ref k]=some l:=by
 show(match seqView H (.ref k)with|some l=>some l|none=>_)=_
 rw[show seqView H (.ref k)=some l from h.view]
def pO(p q:Pr):List V:=match bJ q.1 q.2 p.1 p.2 with
 |true=>[]
 |false=>[encN q]
theorem tS(w:List Pr):w.flatMap (pO p)=(dropP p w).map encN:=by
 induction w with
 |nil=>
  exact rfl
 |cons q r ih=>
  have hd:dropP p (q::r)=match bJ q.1 q.2 p.1 p.2 with
   |true=>dropP p r
   |false=>q::dropP p r:=rfl
  rw[iQ,ih,hd];unfold pO
  induction bJ q.1 q.2 p.1 p.2 using aB <;> rfl
theorem vI(w:List Pr):(dropP p w).length<=w.length:=by
 induction w with
 |nil=>
  exact cw _
 |cons q r ih=>
  dsimp only[dropP];split
  ·exact bx (ih) (eU _)
  ·exact Nat.succ_le_succ (ih)
noncomputable def rM:ME:=.lcomp [9,10] (.var 10) [([10],false,.seq,[(.var 5)],[(.cmp .NotEq (.var 10) (.var 7))])]
theorem Tp(wf:WF H)(hw:aq H W (w.map encN))(hl:w.length<=10000) :
  den (n+6) rM (x0::x1::x2::x3::x4::some (.ref W)::x6::some (encN p)::x8::x9::x10::r) H=some (.ref H.nxt,(newObj H (.list ((dropP p w).map encN))).2):=by
 have hW:=cO wf hw;unfold rM;obtain⟨nx,es⟩:=H;simp! only[lA hw];refine mT (o:=.list (w.map encN)) hw (fun e=>by have hW:W<nx:=hW;lia) ?_;have:=dF (k:=nx) (n:=nx+1) (es:=put es W true (.list (w.map encN))) (enc:=encN) (f:=turn (den (n+5)) [10] false [.cmp .NotEq (.var 10) (.var 7)] (cp nx (.var 10) (den (n+5))) (x0::x1::x2::x3::x4::some (.ref W)::x6::some (encN p)::x8::none::none::r)) (pO p) w [] (fun q m acc ha=>by
  unfold pO;simp! only[encN,Fw]
  induction bJ q.1 q.2 p.1 p.2 using aB with
  |true=>simp! only[Bool.not_true,gc]
  |false=>
   simp! only[Bool.not_false];exact dm ha) (by rw[tS,aJ];have:=vI (p:=p) w;show 0+_<=_;lia)
 rw[tS,dh]at this;exact this
noncomputable def qb:ME:=.lcomp [9,10] (.tup [(.var 10),(.bi .len [(.var 3)])]) [([10],false,.range1,[(.bi .len [(.var 3)])],[])]
theorem Gu(h:aq H k (ar basis))(hl:basis.length<=1000):cz .len [V.ref k] H=some (V.int (.ofNat basis.length),H):=by
 have:=m9 h (by unfold ar;rw[aJ];lia);unfold ar at this;rw[aJ]at this;exact this
theorem Ow(wf:WF H)(hb:aq H B (ar basis))(hl:basis.length<=1000) :
  den (n+8) qb (x0::x1::x2::some (.ref B)::x4::x5::x6::x7::x8::x9::x10::r) H=some (.ref H.nxt,(newObj H (.list ((pairsTo basis.length).map encN))).2):=by
 have hB:=cO wf hb;unfold qb;obtain⟨nx,es⟩:=H;have hB:B<nx:=hB;simp! only[Gu hb hl,rI hl];refine Hb ?_;have:=dF (k:=nx) (n:=nx+1) (es:=es) (enc:=az) (f:=turn (den (n+7)) [10] false [] (cp nx (.tup [.var 10,.bi .len [.var 3]]) (den (n+7))) (x0::x1::x2::some (.ref B)::x4::x5::x6::x7::x8::none::none::r)) (fun i=>[encM i basis.length]) (eE 0 basis.length) [] (fun i m acc ha=>by
  have dD:aq ⟨nx+1,⟨nx,false,.list acc⟩::es⟩ B (ar basis):=(dg (by lia)).trans hb;simp! only[Gu dD hl];exact dm ha) (by rw[eW,kn];show 0+_<=_;lia)
 rw[eJ,dh]at this;rw[this];unfold pairsTo;rw[d5];rfl
end
end
section
open PySem
set_option tactic.hygienic true in
theorem Wu(k:Nat):∀(qs:List Po) (rest left res:Po),jX o bs ls k qs rest left=some res->Nd rest->Nd res/\res.length<=rest.length+k:=by
 induction k with
 |zero=>
  intro _ _ _ _ e _;exact nq e
 |succ k ih=>
  intro qs rest left res e h;have e:wa bs ls (jX o bs ls k) qs rest left (lead o left)=some res:=e;unfold wa at e;split at e
  ·exists e;exact⟨h,Nat.le_add_right _ _⟩
  ·rename_i t ht;unfold CM at e;split at e
   ·exists ak (ih _ _ _ _ e (wo h)),a,b;have:=H9 (p:=rest) (t:=t);exact⟨a,by lia⟩
   ·unfold divC at e;exists jY e,Z0,Z0,e
    ·exists jY e,Z0,Z0,e
     ·split at e
      ·exact nq e
      ·unfold B2 at e;exists cm e,Z0,e
       ·unfold wV at e;exists cm e,Z0,e
        ·unfold BM at e;exists cm e,Z0,e
         ·exists ak (ih _ _ _ _ e h),a,b;exact⟨a,by exact Nat.le_succ_of_le b⟩
theorem Ar{o:Bool}{f res:Po}{bs:List Po}(e:restOf o f bs=some res):Nd res/\res.length<=100:=by
 exists ak (Wu 100 _ _ _ _ e List.Pairwise.nil),a,b;exact⟨a,by have b:res.length<=0+100:=b;assumption⟩
def ic:List MS:=[(.if_ (.call u5 [(.var 7),(.var 5),(.var 4)]) [.cont] []),(.aug 6 .Add (.const (.int 1))),(.if_ (.cmp .Gt (.var 6) (.var 2)) [.stuck] []),(.assign 8 (.call jW [(.call uY [(.sub (.var 3) (.sub (.var 7) (.const (.int 0)))),(.sub (.var 3) (.sub (.var 7) (.const (.int 1)))),(.var 1)]),(.var 3),(.var 1)])),(.if_ (.cmp .Gt (.bi .len [(.var 8)]) (.const (.int 0))) [(.expr (.cP .extend (.var 5) [qb])),(.expr (.cP .append (.var 3) [(.call jg [(.var 8),(.var 1)])])),(.expr (.cP .append (.var 4) [(.sub (.call cW [(.var 8),(.var 1)]) (.const (.int 0)))]))] [])]
def uK:List MS:=(.assign 7 (.call tX [(.var 5),(.var 4),(.var 1)]))::(.assign 5 rM)::ic
def eY(x0:Option V)(o:Od)(B L W d:Nat)(x7 x8:Option V)(r:ai):ai:=
 x0::some (aK o)::some (.int 40)::some (.ref B)::some (.ref L)::some (.ref W)::some (.int (.ofNat d))::x7::x8::none::none::r
section
variable {B L W:Nat} {basis:List Po} {leads w:List Pr} {H:Hp} {o:Od} {d:Nat} {x0 x7 x8:Option V} {r:ai}
theorem Ws(G:dW B L W basis leads w H)(hl:leads.length<=1000)(hle:hX leads)(hw:w.length<=10000)(hp:least (gr o) leads w=some p) :
  denSs (denS 19) uK (eY x0 o B L W d x7 x8 r) H=denSs (denS 19) ic (eY x0 o B L H.nxt d (some (encN p)) x8 r) (newObj H (.list ((dropP p w).map encN))).2:=by
 have e1:=LJ (H:=H) (o:=o) (wv:=.ref W) (lv:=.ref L) G.w.frz G.l.frz hl hle hp;have e2:∀{x0 x1 x2 x3 x4 x6 x8 x9 x10:Option V} {r:ai},den 18 rM (x0::x1::x2::x3::x4::some (.ref W)::x6::some (encN p)::x8::x9::x10::r) H=_:=fun{_ _ _ _ _ _ _ _ _ _}=>Tp (n:=12) G.wf G.w hw;unfold uK eY;refine aM.trans ?_;simp only[cf,cH,bk,bz,bo,bh,bg,bj,aG,e1,aY,aZ,aS,bc];refine aM.trans ?_;simp only[cf,e2,aG,aY,aZ,aS,bc]
theorem Sd(G:dW B L W basis leads w H)(hl:leads.length<=1000)(hle:hX leads)(hw:w.length<=10000)(hn:oh p w leads=some true) :
  denSs (denS 19) ic (eY x0 o B L W d (some (encN p)) x8 r) H=some (.cont,eY x0 o B L W d (some (encN p)) x8 r,H):=by
 have e1:=Ji (H:=H) (wv:=.ref W) (lv:=.ref L) G.w.frz G.l.frz hw hl hle hn;unfold ic eY;refine aM.trans ?_;simp! only[e1]
theorem V8:augV .Add (V.int (.ofNat a)) (V.int 1) H=some (V.int (.ofNat (a+1)),H):=rfl
theorem WR(h:a<=40):bu .Gt (V.int (.ofNat a)) (V.int 40) H=some false:=by
 show some (c8 40 a)=_;have:c8 40 a=false:=gP.mpr fun q=>by
  have:41<=a:=bC q
  lia
 rw[this]
theorem XW{p:Pr}{f g s res:Po}(G:dW B L W basis leads w H)(hl:leads.length<=1000)(hle:hX leads)(hw:w.length<=10000)(hn:oh p w leads=some false)(hd:d+1<=40)(hb:basis.length<=1000)(jq:∀p∈basis,aW p)
  (hf:basis[p.1]?=some f) (hg:basis[p.2]?=some g) (hs:sPoly (gr o) f g=some s) (hr:restOf (gr o) s basis=some res) :
  denSs (denS 19) ic (eY x0 o B L W d (some (encN p)) x8 r) H=denSs (denS 19) (ic.drop 4) (eY x0 o B L W (d+1) (some (encN p)) (some (.dct (aj res))) r) H:=by
 have e1:=Ji (H:=H) (wv:=.ref W) (lv:=.ref L) G.w.frz G.l.frz hw hl hle hn;exists ak (Nt (H:=H) (jq f (ee hf)) (jq g (ee hg)) hs),k3,e2;have e3:=FK (H:=H) (k:=B) G.b.at k3 jq hb hr;have hlen:(ar basis).length<=100000:=by unfold ar;rw[aJ];lia
 have e4:=jt (v:=.dct (aj f)) (i:=p.1) G.b hlen (by unfold ar;rw[dP,hf];rfl);have e5:=jt (v:=.dct (aj g)) (i:=p.2) G.b hlen (by unfold ar;rw[dP,hg];rfl);have e6:=WR (H:=H) hd;unfold ic;show _=denSs (denS 19) [_] _ _;unfold eY;refine aM.trans ?_;simp only[hO,cH,bk,bz,bo,bh,bg,bj,aG,fD,e1,iR,gx,aS,bc];refine aM.trans ?_;simp only[qK,sN,cD,bh,bg,aG,V8,aY,aZ,aS,bc];refine aM.trans ?_;simp only[hO,fv,bo,bh,bg,bj,fJ,aG,fD,e6,iR,gx,aS,bc];refine aM.trans ?_;simp only[cf,cH,mY,cD,bk,bz,bo,bh,bg,bj,aG,encN,M0,M1,e2,e3,e4,e5,aY,aZ,aS,bc]
theorem PN:denSs (denS 19) (ic.drop 4) (eY x0 o B L W d (some (encN p)) (some (.dct (aj []))) r) H=some (.next,eY x0 o B L W d (some (encN p)) (some (.dct (aj []))) r,H):=by
 have e1:cz .len [V.dct (aj [])] H=some (V.int (.ofNat 0),H):=rfl;unfold ic;show denSs (denS 19) [_] _ _=_;unfold eY;refine aM.trans ?_;simp! only[e1,lM,show c8 0 0=false from rfl]
theorem RS{p:Pr}{res m:Po}{t:T}(G:dW B L W basis leads w H)(hl:leads.length<=1000)(hw:w.length<=10000)(hb:basis.length<=1000)(ho:aW res)(hm:mon (gr o) res=some m)(ht:lead (gr o) res=some t) :
  ∃H',denSs (denS 19) (ic.drop 4) (eY x0 o B L W d (some (encN p)) (some (.dct (aj res))) r) H=some (.next,eY x0 o B L W d (some (encN p)) (some (.dct (aj res))) r,H')/\dW B L W (basis++[m]) (leads++[(t.x,t.y)]) (w++pairsTo basis.length) H':=by
 have gp:0<res.length:=List.length_pos_of_mem (gy ht);have hle:=ho.1;have e1:cz .len [V.dct (aj res)] H=some (V.int (.ofNat res.length),H):=by
  have:=Cv (H:=H) (l:=aj res) (by rw[gV];lia);rw[gV]at this;exact this
 have e2:∀{x0 x1 x2 x4 x5 x6 x7 x8 x9 x10:Option V} {r:ai},den 16 qb (x0::x1::x2::some (.ref B)::x4::x5::x6::x7::x8::x9::x10::r) H=_:=fun{_ _ _ _ _ _ _ _ _ _ _}=>Ow (n:=8) G.wf G.b hb;have G1:=G.new (.list ((pairsTo basis.length).map encN));have bN:H.nxt≠W:=fun e=>by have:=cO G.wf G.w;lia
 have e3:=PB (j:=H.nxt) (x:=(pairsTo basis.length).map encN) G1.w aq.c7 (by rw[aJ];lia) (by rw[aJ,pairs_len];lia) bN;rw[<- gM]at e3;have G2:=G1.Qz (w++pairsTo basis.length);exists ak (AF (H:=setObj (newObj H (.list ((pairsTo basis.length).map encN))).2 W (.list ((w++pairsTo basis.length).map encN))) ho hm),mo,e4;have e5:=lF (v:=.dct (aj m)) G2.b (by unfold ar;rw[aJ];lia);have hd:ar basis++[.dct (aj m)]=ar (basis++[m]):=by unfold ar;rw[gM];rfl
 rw[hd]at e5;have G3:=G2.setB (basis++[m]);have e6:=jk (o:=o) (av:=.dct (aj res)) (H:=setObj (setObj (newObj H (.list ((pairsTo basis.length).map encN))).2 W (.list ((w++pairsTo basis.length).map encN))) B (.list (ar (basis++[m])))) rfl ho.2.2 (jB ho);rw[ht]at e6;have e7:=lF (v:=encM t.x t.y) G3.l (by rw[aJ];lia);have hd2:leads.map encN++[encM t.x t.y]=(leads++[(t.x,t.y)]).map encN:=by rw[gM];rfl
 rw[hd2]at e7;have G4:=G3.W8 (leads++[(t.x,t.y)]);refine⟨_,?_,G4⟩;unfold ic;show denSs (denS 19) [_] _ _=_;unfold eY;refine aM.trans ?_;simp! only[e1,lM,lg gp,Zc G.w,e2,e3,mZ G2.b,e4,e5,mZ G3.l,e6,kJ,e7]
end
end
section
open PySem
section
variable {B L:Nat} {o:Od} {x0:Option V} {r:ai}
theorem Pm(G:dW B L W basis leads w H)(hw:w.length<=10000) :
  den 19 (.cmp .Gt (.bi .len [.var 5]) (.const (.int 0))) (eY x0 o B L W d x7 x8 r) H=some (.bool (c8 0 w.length),H):=by
 have e1:cz .len [V.ref W] H=some (V.int (.ofNat w.length),H):=by
  have:=m9 G.w (by rw[aJ];lia);rw[aJ]at this;exact this
 unfold eY;simp! only[e1,lM]
set_option tactic.hygienic true in
theorem TF(res:List Po):∀(k:Nat) (basis:List Po) (leads w:List Pr) (W d n:Nat) (H:Hp) (x7 x8:Option V),grG (gr o) k basis leads w=some res->dW B L W basis leads w H->(∀p∈basis,aW p)->hX leads->leads.length=basis.length->
  basis.length+k<=100->w.length+100 * k<=10000->d+k<=40->k<n->
  ∃ρ H',fm (den 19 (.cmp .Gt (.bi .len [.var 5]) (.const (.int 0)))) (denSs (denS 19) uK) n (eY x0 o B L W d x7 x8 r) H=some (.next,x0::some (aK o)::some (.int 40)::some (.ref B)::ρ,H')/\aq H' B (ar res)/\∀p∈res,aW p:=by
 intro k
 induction k with
 |zero=>intro _ _ _ _ _ _ _ _ _ e;exact nq e
 |succ k ih=>
  intro basis leads w W d n H x7 x8 e G hb hle hl hk hw hd hn;obtain⟨n,rfl⟩:∃m,n=m+1:=⟨n - 1,by lia⟩;rw[rQ,Pm G (Nat.le_of_add_right_le hw),fD];dsimp only[grG]at e;split at e
  ·(clear hw hn hd hk hl hle ih;exists e)
   rw[show c8 0 ([]:List Pr).length=false from rfl,r4];exact⟨_,H,rfl,G.b,hb⟩
  ·rename_i q w;rw[show c8 0 (q::w).length=true from lg (Nat.succ_pos _),pX];unfold grA at e;exists ZN e,p,hp,e
   ·rw[Ws G (by lia) hle (Nat.le_of_add_right_le hw) hp];have fu:=vI (p:=p) (q::w);have G1:=G.SP (dropP p (q::w));unfold F8 at e;exists Nk e,nd,b9,e
    ·split at e
     ·rw[Sd G1 (by lia) hle (by lia) b9,aS,mC];exact ih basis leads _ _ d n _ _ _ e G1 hb hle hl (by lia) (by lia) (by lia) (by lia)
     ·unfold grC at e;split at e
      ·exact nq e
      ·rename_i f hf;exists jY e,g,hg,e
       ·unfold grD at e;exists jY e,s,hs,e
        ·unfold FF at e;exists jY e,rr,hr,e
         ·rw[XW G1 (by lia) hle (by lia) b9 (by lia) (by lia) hb hf hg hs hr];split at e
          ·rw[PN,aS,jL];exact ih basis leads _ _ (d+1) n _ _ _ e G1 hb hle hl (by lia) (by lia) (by lia) (by lia)
          ·rename_i t rest;unfold grE2 at e;exists cm e,zN,e
           ·unfold E1 at e;split at e
            ·exact nq e
            ·rename_i m hm;split at e
             ·exact nq e
             ·rename_i t' ht;have ho:=ko zN (Ar hr).1;exists ae (RS (x0:=x0) (r:=r) (d:=d+1) (p:=p) G1 (by lia) (by lia) (by lia) ho hm ht),H',e1,G2;rw[e1,aS,jL];refine ih _ _ _ _ (d+1) n _ _ _ e G2 (fun p' m'=>?_) (fun q' m'=>?_) ?_ ?_ ?_ (by lia) (by lia)
              ·clear G2 e1 e ht zN hr hs hg hf b9 G1 fu hp hw G hn hd hk hl hle ih;rcases lO.mp m' with m'|m'
               ·exact hb p' m'
               ·clear hb;cases c9.mp m';exists nF (vJ ho hm),Z0,Z0,Z0,Z0,Z0,h;exact h
              ·clear G2 e1 e hm zN hr hs hg hf b9 G1 fu hp hw G hn hd hk hl hb ih;rcases lO.mp m' with m'|m'
               ·exact hle q' m'
               ·clear hle;cases c9.mp m';have:=ho.2.1 t' (gy ht);exact⟨bx this.1 dq,bx this.2.1 dq⟩
              ·rw[d8,d8,hl];rfl
              ·rw[d8];show basis.length+1+k<=_;lia
              ·rw[d8,pairs_len];lia
theorem SQ(h:n<=40):(allP n).length<=1600:=by
 have:=Ha (m:=40) (f:=pairsTo) (eE 0 n) fun a m=>by
  have:=mem_range m;rw[pairs_len];lia
 rw[kn]at this;unfold allP
 lia
set_option tactic.hygienic true in
theorem R8{s res:List Po}(hs:∀p∈s,aW p)(hlen:s.length<=40)(e:vu (gr o) s=some res):(∀p∈res,aW p)/\∃H',Bb [.lst (ar s),aK o,.int 40] ⟨0,[]⟩=some (.lst (ar res),H'):=by
 unfold vu Fo at e;split at e
 ·exact nq e
 ·rename_i b hb;exists lI e,ls,hl,e
  ·exists ft (F7 hb),m1,Z0,Z0,m4;exists ft (r6 hl),n1,Z0,Z0,n4;have jq:=m4 hs;have ha:=SQ (n:=b.length) (le_of_eq_of_le (id (Eq.symm m1)) hlen);have G:dW 0 1 2 b ls (allP b.length) ⟨3,[⟨2,false,.list ((allP b.length).map encN)⟩,⟨1,false,.list (ls.map encN)⟩,⟨0,false,.list (ar b)⟩]⟩:=by
    refine⟨fun e m=>?_,rfl,rfl,rfl,by decide,by decide,by decide⟩;clear ha jq n4 n1 m4 m1 hl hb hlen hs;rcases aH.mp m with rfl|m
    ·exact(by decide:2<3)
    ·rcases aH.mp m with rfl|m
     ·exact(by decide:1<3)
     ·cases c9.mp m;exact(by decide:0<3)
   exists cx (TF (o:=o) (x0:=some (.lst (ar s))) (r:=cu 13 none) res 40 b ls (allP b.length) 2 0 1000 _ none none e G jq (n4 jq) n1.symm (by lia) (by lia) dq dq),ρ,H',el,lk,ho;refine⟨ho,⟨H'.nxt,dropNew 0 H'.es⟩,?_⟩;have h1:=fun{x2 x3 x4 x5 x6 x7 x8 x9 x10 x11:Option V} {r:ai}=>(@B4 s o b ls x2 x3 x4 x5 x6 x7 x8 x9 x10 x11 r hs hb hl hlen).1;have h2:=fun{x2 x4 x5 x6 x7 x8 x9 x10 x11:Option V} {r:ai}=>(@B4 s o b ls x2 none x4 x5 x6 x7 x8 x9 x10 x11 r hs hb hl hlen).2.1;have h3:=fun{x2 x4 x5 x6 x7 x8 x9 x10 x11:Option V} {r:ai}=>(@B4 s o b ls x2 none x4 x5 x6 x7 x8 x9 x10 x11 r hs hb hl hlen).2.2;unfold Bb JH;rw[i9];unfold eY uK ic rM qb at el;simp only[rep0,rep1]at el;rw[aM];simp only[cf,h1,rep0,rep1,aG,aY,aZ,aS,bc];rw[aM];simp only[cf,h2,aG,aY,aZ,aS,bc];rw[aM];simp only[cf,h3,aG,aY,aZ,aS,bc];rw[aM];simp only[cf,cD,aG,aY,aZ,aS,bc];rw[aM];simp only[oW];rw[show(V.int 0)=V.int (Int.ofNat 0)from rfl]at *;rw[el];simp! only[];show some (freezeV H'.es 0 3 (.ref 0),(⟨H'.nxt,dropNew 0 H'.es⟩:Hp))=_;rw[iV lk (cw _),vH]
theorem KP{s res:List Po}{H:Hp}(hs:∀p∈s,aW p)(hlen:s.length<=40)(e:vu (gr o) s=some res):(∀p∈res,aW p)/\xX [.lst (ar s),aK o,.int 40] H=some (.lst (ar res),H):=by
 obtain⟨h,H',e⟩:=R8 hs hlen e;exact⟨h,eV e (.cons (.lst gk) (.cons fb (.cons (.int _) .nil))) (.lst gk)⟩
end
end
section
open PySem
def minG(ls:List Pr):Nat->List Po->List Pr->List Po
 |i,p::ps,l::r=>match anyD l.1 l.2 (ls.take i++dropP l r)with
  |true=>minG ls (Nat.succ i) ps r
  |false=>p::minG ls (Nat.succ i) ps r
 |_,_,_=>[]
noncomputable def jh(H:Hp)(k:Nat)(l:List V):Prop:=look H.es k=some ⟨k,true,.list l⟩
section
variable {H:Hp}
theorem jh.view(h:jh H k l):listView H (.ref k)=some l:=by
 show(match look H.es k with|some e=>(match e.obj with|.list l=>some l|.dict _=>none)|none=>none)=_
 rw[h]
theorem jh.new(w:WF H)(h:jh H k l):jh (newObj H o).2 k l:=fB w h
theorem jh.set(h:jh H k l)(q:k≠j):jh (setObj H j o) k l:=(eP q).trans h
theorem HX(h:i<=100000):nat? (V.int (.ofNat i))=some i:=by
 show(match b8 i 100000 with|true=>some i|false=>none)=_;rw[fq h]
theorem JE(hv:∀q,v ≠ .tup q)(h:listView H v=some l)(hl:l.length<=100000):j6 true v (some n) H=some (newObj H (.list (l.take n))):=by
 have:gN true v n H=(match listView H v with
  |some l=>upL l n H
  |none=>none):=by
  clear hl h;induction v using Internal.V.casesOn with
  |tup q=>exact(hv q rfl).elim
  |_=>rfl
 show gN true v n H=_;rw[this,h];show guard' (lenOk l) _=_;rw[cT hl];rfl
theorem PW(hv:∀q,v ≠ .tup q)(h:listView H v=some l)(hl:l.length<=100000)(hn:n<=l.length):j6 false v (some n) H=some (newObj H (.list (l.drop n))):=by
 have:gN false v n H=(match listView H v with
  |some l=>fromL l n H
  |none=>none):=by
  clear hn hl h;induction v using Internal.V.casesOn with
  |tup q=>exact(hv q rfl).elim
  |_=>rfl
 show gN false v n H=_;rw[this,h];show guard' (band (lenOk l) (b8 n l.length)) _=_;rw[cT hl,fq hn];rfl
theorem BW(ha:∀i,a ≠ .int i)(ha2:∀q,a ≠ .tup q)(h1:listView H a=some x)(h2:listView H b=some y)(hx:x.length<=100000)(hy:y.length<=100000):binOp .Add a b H=some (newObj H (.list (x++y))):=by
 have:binOp .Add a b H=sg a b H:=by
  clear hy hx h2 h1;induction a using Internal.V.casesOn with
  |int i=>exact(ha i rfl).elim
  |tup q=>exact(ha2 q rfl).elim
  |_=>rfl
 rw[this];show(match listView H a with
  |some x=>match listView H b with
   |some y=>guard' (band (lenOk x) (lenOk y)) (some (newObj H (.list (x++y))))
   |none=>none
  |none=>none)=_
 rw[h1,h2];dsimp only;rw[cT hx,cT hy];rfl
noncomputable def sO:ME:=.bin .Add (.slice true (.var 3) (.var 5)) (.lcomp [8,9] (.var 9) [([9],false,.seq,[(.slice false (.var 3) (.bin .Add (.var 5) (.const (.int 1))))],[(.cmp .NotEq (.var 9) (.var 6))])])
theorem tx:∀q,V.ref k ≠ .tup q:=fun _ h=>nomatch h
theorem A2:∀i,V.ref k ≠ .int i:=fun _ h=>nomatch h
theorem Oe{n c i:Nat}{l:Pr}{ls r:List Pr}(wf:WF H)(hv:jh H c (ls.map encN))(hl:ls.length<=1000)(hi:i<ls.length)(hr:ls.drop (i+1)=r){x0 x1 x2 x4 x7 x8 x9:Option V}{ρ:ai} :
  den (n+8) sO (x0::x1::x2::some (.ref c)::x4::some (az i)::some (encN l)::x7::x8::x9::ρ) H =
   some (.ref (H.nxt+3),(newObj (newObj (newObj (newObj H (.list ((ls.take i).map encN))).2 (.list (r.map encN))).2 (.list ((dropP l r).map encN))).2 (.list ((ls.take i++dropP l r).map encN))).2):=by
 have hlen:(ls.map encN).length<=100000:=by rw[aJ];lia
 have e1:=JE (n:=i) tx hv.view hlen;rw[<- List.map_take]at e1;have qh:=hv.new wf (o:=.list ((ls.take i).map encN));have e2:=PW (n:=i+1) tx qh.view hlen (by rw[aJ];assumption);rw[<- List.map_drop,hr]at e2;have dA:∀{B:Type} {o:bq} {f:V->Hp->Option B} {H:Hp},ob (some (newObj H o)) f=f (.ref H.nxt) (newObj H o).2:=rfl;have ha:∀H,binOp .Add (az i) (V.int 1) H=some (V.int (.ofNat (i+1)),H):=fun _=>rfl;have w1:=wf.new (o:=.list ((ls.take i).map encN));have w2:=w1.new (o:=.list (r.map encN));have w3:=w2.new (o:=.list ((dropP l r).map encN));have l2:aq (newObj (newObj H (.list ((ls.take i).map encN))).2 (.list (r.map encN))).2 (H.nxt+1) (r.map encN):=aq.c7;have Du:r.length<=1000:=by rw[<- hr,List.length_drop];lia
 have fu:=vI (p:=l) r;unfold sO;simp only[gh,rV,gf,bo,cD,bk,bz,bh,bg,bj,aG,show nat? (az i)=some i from HX (by lia),e1,dA,ha,HX (show i+1<=100000 by lia),e2,gn,gv,aY,aZ];simp only[show ∀o,(newObj H o).2.nxt=H.nxt+1 from fun _=>rfl,lA l2];clear w3 ha dA e2 qh e1 hlen hr hv wf;obtain⟨nx,es⟩:=H;rw[show compGo (newObj (newObj ⟨nx,es⟩ (.list ((ls.take i).map encN))).2 (.list (r.map encN))).2.nxt _ (r.map encN) [V.ref (nx+1)] (newObj (newObj (newObj ⟨nx,es⟩ (.list ((ls.take i).map encN))).2 (.list (r.map encN))).2 (.list [])).2=some (V.ref (nx+2),(newObj (newObj (newObj ⟨nx,es⟩ (.list ((ls.take i).map encN))).2 (.list (r.map encN))).2 (.list ((dropP l r).map encN))).2)from by
  refine mT (o:=.list (r.map encN)) l2 (fun e=>by have e:nx+2=nx+1:=e;lia) ?_;have:=dF (k:=nx+2) (n:=nx+3) (es:=put (newObj (newObj ⟨nx,es⟩ (.list ((ls.take i).map encN))).2 (.list (r.map encN))).2.es (nx+1) true (.list (r.map encN))) (enc:=encN) (f:=turn (den (n+6)) [9] false [.cmp .NotEq (.var 9) (.var 6)] (cp (nx+2) (.var 9) (den (n+6))) (x0::x1::x2::some (.ref c)::x4::some (az i)::some (encN l)::x7::none::none::ρ)) (pO l) r [] (fun q m acc ha=>by
   unfold pO;simp! only[encN,Fw];clear m l2 w2 w1 fu Du hi hl;induction bJ q.1 q.2 l.1 l.2 using aB with
   |true=>simp! only[Bool.not_true,gc]
   |false=>
    simp! only[Bool.not_false];exact dm ha) (by rw[tS,aJ];show 0+_<=_;lia)
  rw[tS,dh]at this;exact this]
 have v1:aq (newObj (newObj (newObj ⟨nx,es⟩ (.list ((ls.take i).map encN))).2 (.list (r.map encN))).2 (.list ((dropP l r).map encN))).2 nx ((ls.take i).map encN):=(aq.c7 (H:=⟨nx,es⟩).new w1).new w2;have v2:aq (newObj (newObj (newObj ⟨nx,es⟩ (.list ((ls.take i).map encN))).2 (.list (r.map encN))).2 (.list ((dropP l r).map encN))).2 (nx+2) ((dropP l r).map encN):=aq.c7;have e3:=BW A2 tx v1.view v2.view (by rw[aJ,List.length_take];lia) (by rw[aJ];lia);rw[<- gM]at e3;simp only[aG];exact e3
end
end
section
open PySem
structure MI (b:List Po) (ls:List Pr) (kept:List Po) (H:Hp):Prop where
 wf:WF H
 b:aq H 0 (ar b)
 l:jh H 1 (ls.map encN)
 k:aq H 2 (ar kept)
def tW:List MS:=[(.assign 7 sO),(.if_ (.lE (.call pP [(.var 6),(.var 7)])) [(.expr (.cP .append (.var 4) [(.sub (.var 2) (.var 5))]))] [])]
section
variable {H:Hp}
theorem MI.new{b:List Po}{ls:List Pr}{kept:List Po}(M:MI b ls kept H)(o:bq):MI b ls kept (newObj H o).2:=⟨M.wf.new,M.b.new M.wf,M.l.new M.wf,M.k.new M.wf⟩
theorem MI.set{b:List Po}{ls:List Pr}{kept:List Po}(M:MI b ls kept H)(k':List Po):MI b ls k' (setObj H 2 (.list (ar k'))):=⟨M.wf.set,M.b.set dq,M.l.set dq,M.k.g5⟩
theorem JU:ar b++[.dct (aj m)]=ar (b++[m]):=by unfold ar;rw[gM];rfl
theorem vf:(ar b).length=b.length:=by unfold ar;rw[aJ]
theorem Dt{b:List Po}{i:Nat}{p:Po}(h:b[i]?=some p):(ar b)[i]?=some (.dct (aj p)):=by unfold ar;rw[dP,h];rfl
theorem BJ{A:Type}{l r:List A}{a:A}{i:Nat}(h:l.drop i=a::r):l[i]?=some a/\l.drop (i+1)=r/\i<l.length:=by
 have h1:l[i]?=some a:=by
  have:=List.getElem?_drop (xs:=l) (i:=i) (j:=0);rw[h]at this;simpa using this.symm
 refine⟨h1,?_,(fj.mp h1).1⟩;have:=List.drop_drop (i:=1) (j:=i) (l:=l);rw[h]at this;rw[<- this];rfl
theorem SM{b:List Po}{ls:List Pr}(hb:b.length<=1000)(hl:ls.length<=1000){x0 x1:Option V}{r:ai}:∀(ps:List Po) (rs:List Pr) (i:Nat) (kept:List Po) (H:Hp) (o5 o6 o7:Option V),b.drop i=ps->ls.drop i=rs->ps.length=rs.length->kept.length<=i->MI b ls kept H->
  ∃ρ H',loopF [5,6] true (denSs (denS 19) tW) (enumL (Int.ofNat i) (rs.map encN)) (x0::x1::some (.ref 0)::some (.ref 1)::some (.ref 2)::o5::o6::o7::none::none::r) H=some (.next,x0::x1::some (.ref 0)::some (.ref 1)::some (.ref 2)::ρ,H')/\MI b ls (kept++minG ls i ps rs) H':=by
 intro ps
 induction ps with
 |nil=>
  intro rs i kept H o5 o6 o7 _ _ e _ M
  induction rs using aN with
  |nil=>exact⟨_,H,rfl,by dsimp only[minG];rw[gc];exact M⟩
  |cons=>cases e
 |cons p ps ih=>
  intro rs i kept H o5 o6 o7 h1 h2 e hk M
  induction rs using aN with
  |nil=>cases e
  |cons l rs=>
   exists dK (BJ h1),g1,g2,g3;exists dK (BJ h2),f1,f2,f3;rw[aO];show ∃ρ H',loopF _ _ _ (V.tup [az i,encN l]::enumL (Int.ofNat (i+1)) (rs.map encN)) _ _=_/\_;rw[fx];have M4:=(((M.new (.list ((ls.take i).map encN))).new (.list (rs.map encN))).new (.list ((dropP l rs).map encN))).new (.list ((ls.take i++dropP l rs).map encN));have e1:∀{x0 x1 x2 x4 x7 x8 x9:Option V} {ρ:ai},den 18 sO (x0::x1::x2::some (.ref 1)::x4::some (az i)::some (encN l)::x7::x8::x9::ρ) H=_:=fun{_ _ _ _ _ _ _ _}=>Oe (n:=10) M.wf M.l hl f3 f2;have qS:(ls.take i++dropP l rs).length<=1000:=by
    have:=vI (p:=l) rs;have h3:rs.length=ls.length - (i+1):=by rw[<- f2,List.length_drop]
    rw[d8,List.length_take];lia
   have lk:aq (newObj (newObj (newObj (newObj H (.list ((ls.take i).map encN))).2 (.list (rs.map encN))).2 (.list ((dropP l rs).map encN))).2 (.list ((ls.take i++dropP l rs).map encN))).2 (H.nxt+3) ((ls.take i++dropP l rs).map encN):=aq.c7;have e2:=yp (x:=l.1) (y:=l.2) (lv:=.ref (H.nxt+3)) qS lk.frz;rw[show encM l.1 l.2=encN l from rfl]at e2;have e3:=jt (i:=i) M4.b (by rw[vf];lia) (Dt g1);have e4:=lF (v:=.dct (aj p)) M4.k (by rw[vf];lia);rw[JU]at e4;have M5:=M4.set (kept++[p]);unfold tW;unfold tW at ih;dsimp only[minG];simp only[jP,lS,aY,aZ];rw[aM];simp only[cf,e1,aG,aY,aZ,aS,bc];simp! only[e2,JN]
   induction anyD l.1 l.2 (ls.take i++dropP l rs)using aB with
   |true=>
    simp! only[Bool.not_true];exists aU (ih rs (i+1) kept _ (some (az i)) (some (encN l)) (some (.ref (H.nxt+3))) g2 f2 (gG e) (Nat.le_add_right_of_le hk) M4),ρ,H',a1,a2;exact⟨ρ,H',a1,a2⟩
   |false=>
    simp! only[Bool.not_false,mZ M4.k,show ∀H,subs H (V.ref 0) (az i)=subs H (V.ref 0) (V.int (.ofNat i))from fun _=>rfl,e3,e4];obtain⟨ρ,H',a1,a2⟩:=ih rs (i+1) (kept++[p]) _ (some (az i)) (some (encN l)) (some (.ref (H.nxt+3))) g2 f2 (gG e) (by rw[d8];show kept.length+1<=_;exact Nat.add_le_add_right hk 1) M5;refine⟨ρ,H',a1,?_⟩;rw[jA]at a2;exact a2
theorem YR(hs:∀p∈b,aW p)(hl:leadsP (gr o) b=some ls)(hlen:b.length<=1000):∃H',yT [.lst (ar b),aK o] ⟨0,[]⟩=some (.lst (ar (minG ls 0 b ls)),H'):=by
 exists ft (r6 hl),n1,n2,n3,n4;have h1:∀{x2 x3 x4 x5 x6 x7 x8 x9:Option V} {r:ai},den 19 (.lcomp [8,9] (.var 9) [([9],false,.seq,[(.var 0)],[(.cmp .Gt (.bi .len [(.var 9)]) (.const (.int 0)))])]) (some (.lst (ar b))::some (aK o)::x2::x3::x4::x5::x6::x7::x8::x9::r) ⟨0,[]⟩=some (.ref 0,⟨1,[⟨0,false,.list (ar b)⟩]⟩):=by
  intro x2 x3 x4 x5 x6 x7 x8 x9 r;have it:∀H,iterOf H .seq [.lst (ar b)]=some (ar b):=fun _=>rfl;simp! only[it];refine iX ?_;have:=dF (k:=0) (n:=1) (es:=[]) (enc:=fun p:Po=>V.dct (aj p)) (f:=turn (den 18) [9] false [.cmp .Gt (.bi .len [.var 9]) (.const (.int 0))] (cp 0 (.var 9) (den 18)) (some (.lst (ar b))::some (aK o)::x2::x3::x4::x5::x6::x7::none::none::r)) (fun p=>[.dct (aj p)]) b [] (fun p m acc ha=>by
   exists aD (n2 p m),t,ht;have gp:0<p.length:=List.length_pos_of_mem (gy ht);have hle:=(hs p m).1;have e1:∀H,cz .len [V.dct (aj p)] H=some (V.int (.ofNat p.length),H):=fun H=>by
    have:=Cv (H:=H) (l:=aj p) (by rw[gV];lia);rw[gV]at this;exact this
   simp! only[e1,lM,lg gp];exact dm ha) (by rw[eW];show 0+b.length<=_;lia)
  rw[eJ,dh]at this;exact this
 have h2:∀{x3 x4 x5 x6 x7 x8 x9:Option V} {r:ai},den 19 (.lcomp [8,9] (.sub (.call cW [(.var 9),(.var 1)]) (.const (.int 0))) [([9],false,.seq,[(.var 2)],[])]) (some (.lst (ar b))::some (aK o)::some (.ref 0)::x3::x4::x5::x6::x7::x8::x9::r) ⟨1,[⟨0,false,.list (ar b)⟩]⟩=some (.ref 1,⟨2,[⟨1,false,.list (ls.map encN)⟩,⟨0,false,.list (ar b)⟩]⟩):=by
  intro x3 x4 x5 x6 x7 x8 x9 r;have lk:aq ⟨1,[⟨0,false,.list (ar b)⟩]⟩ 0 (ar b):=rfl;simp! only[lA lk];refine mT (o:=.list (ar b)) rfl dq ?_;have:=dF (k:=1) (n:=2) (es:=put [⟨0,false,.list (ar b)⟩] 0 true (.list (ar b))) (enc:=fun p:Po=>V.dct (aj p)) (f:=turn (den 18) [9] false [] (cp 1 (.sub (.call cW [.var 9,.var 1]) (.const (.int 0))) (den 18)) (some (.lst (ar b))::some (aK o)::some (.ref 0)::x3::x4::x5::x6::x7::none::none::r)) (fun p=>[encN (match lead (gr o) p with|none=>(0,0)|some t=>(t.x,t.y))]) b [] (fun p m acc ha=>by
   exists aD (n2 p m),t,ht;have e1:∀H,cW [.dct (aj p),aK o] H=some (bW (lead (gr o) p),H):=fun H=>jk (av:=.dct (aj p)) rfl (hs p m).2.2 (jB (hs p m));rw[ht]at e1;rw[ht];simp! only[e1,kJ];exact dm ha) (by rw[eW];show 0+b.length<=_;lia)
  rw[eJ,dh]at this;show forItems _ (b.map _) _=_;rw[this,n3,d5];rfl
 have cN:aq ⟨3,[⟨2,false,.list []⟩,⟨1,false,.list (ls.map encN)⟩,⟨0,false,.list (ar b)⟩]⟩ 1 (ls.map encN):=rfl;have it:iterOf ⟨3,[⟨2,false,.list []⟩,⟨1,false,.list (ls.map encN)⟩,⟨0,false,.list (ar b)⟩]⟩ .enum [.ref 1]=some (enumL (Int.ofNat 0) (ls.map encN)):=rfl;have lk:lockH ⟨3,[⟨2,false,.list []⟩,⟨1,false,.list (ls.map encN)⟩,⟨0,false,.list (ar b)⟩]⟩ [.ref 1]=⟨3,[⟨2,false,.list []⟩,⟨1,true,.list (ls.map encN)⟩,⟨0,false,.list (ar b)⟩]⟩:=rfl;have M:MI b ls [] ⟨3,[⟨2,false,.list []⟩,⟨1,true,.list (ls.map encN)⟩,⟨0,false,.list (ar b)⟩]⟩:=by
  refine⟨fun e m=>?_,rfl,rfl,rfl⟩;rcases aH.mp m with rfl|m
  ·exact(by decide:2<3)
  ·rcases aH.mp m with rfl|m
   ·exact(by decide:1<3)
   ·cases c9.mp m;exact(by decide:0<3)
 exists aU (SM hlen (le_of_eq_of_le (id (Eq.symm n1)) hlen) (x0:=some (.lst (ar b))) (x1:=some (aK o)) (r:=cu 12 none) b ls 0 [] _ none none none rfl rfl n1 (cw _) M),ρ,H',el,M';rw[dh]at M';have hu:∀ρ,sunl [⟨2,false,.list []⟩,⟨1,false,.list (ls.map encN)⟩,⟨0,false,.list (ar b)⟩] [.ref 1] (some (.next,ρ,H'))=some (.next,ρ,⟨H'.nxt,put H'.es 1 false (.list (ls.map encN))⟩):=fun ρ=>by
  show some (Fl.next,ρ,(⟨H'.nxt,gQ [⟨2,false,.list []⟩,⟨1,false,.list (ls.map encN)⟩,⟨0,false,.list (ar b)⟩] H'.es (.ref 1)⟩:Hp))=_;rw[qz rfl M'.l]
 refine⟨⟨H'.nxt,dropNew 0 (put H'.es 1 false (.list (ls.map encN)))⟩,?_⟩;unfold yT GR;rw[dC];unfold tW sO at el;simp only[rep0,rep1]at el;rw[aM];simp only[cf,h1,rep0,rep1,aG,aY,aZ,aS,bc];rw[aM];simp only[cf,h2,aG,aY,aZ,aS,bc];rw[aM];simp only[cf,f7,bk,aG,jG,Nat.reduceAdd,aY,aZ,aS,bc];rw[aM];simp only[lB,bo,bk,bz,bh,bg,bj,aG,it,lk];rw[el,hu];simp! only[];show some (freezeV (put H'.es 1 false (.list (ls.map encN))) 0 3 (.ref 2),(⟨H'.nxt,_⟩:Hp))=_;rw[iV (eP dq |>.trans M'.k) (f6 _),vH]
theorem NT(hs:∀p∈b,aW p)(hl:leadsP (gr o) b=some ls)(hlen:b.length<=1000):yQ [.lst (ar b),aK o] H=some (.lst (ar (minG ls 0 b ls)),H):=by
 exists aD (YR hs hl hlen),H',e;exact eV e (.cons (.lst gk) (.cons fb .nil)) (.lst gk)
theorem aaU(ps:List Po):∀(i:Nat) (rs:List Pr),(minG ls i ps rs).Sublist ps:=by
 induction ps with
 |nil=>intro i rs;induction rs using aN <;> exact .slnil
 |cons p ps ih=>
  intro i rs
  induction rs using aN with
  |nil=>exact List.nil_sublist _
  |cons l rs=>
   show List.Sublist (match anyD l.1 l.2 (ls.take i++dropP l rs)with
    |true=>minG ls (Nat.succ i) ps rs
    |false=>p::minG ls (Nat.succ i) ps rs) _
   induction anyD l.1 l.2 (ls.take i++dropP l rs)using aB with
   |true=>exact .cons _ (ih _ rs)
   |false=>exact List.Sublist.cons_cons _ (ih _ rs)
end
end
section
open PySem
def ltI(o:Bool)(x y i x' y' j:Nat):Bool:=match bJ x y x' y' with
 |true=>c8 i j
 |false=>gtM o x' y' x y
def askG(o:Bool)(ls:List Pr)(i j:Nat):Option Bool:=match ls[i]? with
 |some a=>match ls[j]? with
  |some b=>some (ltI o a.1 a.2 i b.1 b.2 j)
  |none=>none
 |none=>none
noncomputable def outN(r:Option (Array Nat)):Option (List Nat):=match r with
 |some p=>some p.toList
 |none=>none
def Bp(o:Bool)(ls:List Pr):Option (List Nat):=match ls with
 |[]=>some []
 |a::r=>match r with
  |[]=>some [0]
  |b::s=>outN (treeRun (askG o (a::b::s)) (PySem.W.kas_sort (a::b::s).length))
def cI(o:Od):Nat->List Pr->List V
 |_,[]=>[]
 |i,a::r=>.tup [keyV o a.1 a.2,az i]::cI o (i+1) r
theorem Ti(ls:List Pr):∀(i:Nat),(cI o i ls).length=ls.length:=by
 induction ls with
 |nil=>
  intro _;exact rfl
 |cons a r ih=>
  intro i;show(cI o (i+1) r).length+1=_;rw[ih];rfl
theorem wF(ls:List Pr):∀(i j:Nat) (a:Pr),ls[j]?=some a->(cI o i ls)[j]?=some (.tup [keyV o a.1 a.2,az (i+j)]):=by
 induction ls with
 |nil=>intro i j a h;exact nq h
 |cons b r ih=>
  intro i j a h
  induction j using bL with
  |zero=>exists h;rfl
  |succ j=>
   have:=ih (i+1) j a h;show(cI o (i+1) r)[j]?=_;rw[this,Nat.add_right_comm i 1 j];rfl
theorem Hl{α:Type}{f g:Nat->Nat->Option Bool}(h:∀i j c,g i j=some c->f i j=some c):∀(t:PySem.W.KasT α) (r:α),treeRun g t=some r->treeRun f t=some r:=by
 intro t
 induction t with
 |ret a=>intro r e;exact e
 |ask i j k ih=>
  intro r e;have e:(match g i j with
   |some c=>treeRun g (k c)
   |none=>none)=some r:=e
  show(match f i j with
   |some c=>treeRun f (k c)
   |none=>none)=some r
  exists sj e,c,hc,e
  ·rw[h i j c hc];exact ih c r e
theorem aaN:jJ false e0 (.tup [keyV o x y,az i]) (.tup [keyV o x' y',az j])=some (ltI (gr o) x y i x' y' j):=by
 have h0:jJ false e0 (.tup [keyV o x y,az i]) (.tup [keyV o x' y',az j])=fM false (tcmp false 7) [keyV o x y,az i] [keyV o x' y',az j]:=by induction o using Internal.Od.casesOn <;> rfl
 rw[h0];show(match teq 8 (keyV o x y) (keyV o x' y')with
  |true=>(match aF i j with
   |true=>some false
   |false=>some (c8 i j))
  |false=>tcmp false 7 (keyV o x y) (keyV o x' y'))=_
 rw[uo (n:=6),uc 5];unfold ltI;clear h0;induction bJ x y x' y' using aB with
 |false=>rfl
 |true=>
  dsimp only
  induction h:aF i j using aB with
  |false=>rfl
  |true=>
   have:=cU h;clear h;subst this;dsimp only;have:c8 i i=false:=gP.mpr fun q=>by
    have:i+1<=i:=bC q
    lia
   rw[this]
set_option tactic.hygienic true in
theorem Xa(h:askG (gr o) ls i j=some c):iM (cI o 0 ls) i j=some c:=by
 unfold askG at h;split at h
 ·rename_i a ha;exists ph h,b,hb,h
  ·exists h;have h1:=wF (o:=o) ls 0 i a ha;have h2:=wF (o:=o) ls 0 j b hb;rw[Nat.zero_add]at h1 h2;unfold iM cR;rw[jc,jc,h1,h2];exact aaN
 ·exact nq h
theorem TA(ls:List Pr):∀(i:Nat),allKind 2 (cI o i ls)=true:=by
 induction ls with
 |nil=>
  intro _;exact rfl
 |cons a r ih=>
  intro i;show(match aF (headKind (.tup [keyV o a.1 a.2,az i])) 2 with
   |true=>allKind 2 (cI o (i+1) r)
   |false=>false)=true
  rw[show headKind (.tup [keyV o a.1 a.2,az i])=2 by clear ih;induction o using Internal.Od.casesOn <;> rfl,ew];exact ih (i+1)
set_option tactic.hygienic true in
theorem Qw(hl:ls.length<=60)(h:Bp (gr o) ls=some p):vsort (cI o 0 ls)=some (p.map (cR (cI o 0 ls))):=by
 unfold Bp at h;split at h
 ·(clear hl;exists h);rfl
 ·rename_i a r;split at h
  ·(clear hl;exists h);rfl
  ·rename_i b s;exists y4 h,q,hq,h
   ·exists h;have hlen:=Ti (o:=o) (a::b::s) 0;show guard' (b8 (cI o 0 (a::b::s)).length 60) (sortGo (cI o 0 (a::b::s)) (headKind (.tup [keyV o a.1 a.2,az 0])))=_;rw[hlen,fq hl,show headKind (.tup [keyV o a.1 a.2,az 0])=2 by clear hlen hq hl;induction o using Internal.Od.casesOn <;> rfl];show guard' (allKind 2 (cI o 0 (a::b::s))) (CH (cI o 0 (a::b::s)) (treeRun (iM (cI o 0 (a::b::s))) (PySem.W.kas_sort (cI o 0 (a::b::s)).length)))=_;rw[TA,hlen,Hl (fun i j c=>Xa) _ _ hq];rfl
noncomputable def Ku(go:List Po->Option (List Po))(found:List Po)(m:Option Po):Option (List Po):=match m with
 |none=>none
 |some m=>go (found++[m])
def Js(go:List Po->Option (List Po))(o:Bool)(found:List Po)(q:Po):Option (List Po):=match ja q with
 |true=>Ku go found (mon o q)
 |false=>none
def redA(go:List Po->Option (List Po))(o:Bool)(found:List Po)(q:Option Po):Option (List Po):=match q with
 |none=>none
 |some q=>Js go o found q
def redG(o:Bool)(kept:List Po):List Nat->List Po->Option (List Po)
 |[],found=>some found
 |i::r,found=>match kept[i]? with
  |none=>none
  |some p=>redA (redG o kept r) o found (restOf o p found)
def Dj(o:Bool)(kept:List Po)(p:Option (List Nat)):Option (List Po):=match p with
 |none=>none
 |some p=>match b8 p.length 900 with
  |true=>redG o kept p []
  |false=>none
def Kc(o:Bool)(kept:List Po)(ls:Option (List Pr)):Option (List Po):=match ls with
 |none=>none
 |some ls=>Dj o kept (Bp o ls)
def redF(o:Bool)(b:List Po)(ls:Option (List Pr)):Option (List Po):=match ls with
 |none=>none
 |some ls=>Kc o (minG ls 0 b ls) (leadsP o (minG ls 0 b ls))
def E2(o:Bool)(b:Option (List Po)):Option (List Po):=match b with
 |none=>none
 |some b=>match b8 b.length 60 with
  |true=>redF o b (leadsP o b)
  |false=>none
def sh(o:Bool)(s:List Po):Option (List Po):=E2 o (vu o s)
def tV:List MS:=[(.expr (.cP .append (.var 5) [(.call jg [(.call jW [(.sub (.var 2) (.var 3)),(.var 5),(.var 1)]),(.var 1)])]))]
noncomputable def kG:Nat->List Po->List (Nat×Po)
 |_,[]=>[]
 |i,p::r=>(i,p)::kG (i+1) r
def xk(a:Nat×Po):V:=.tup [az a.1,.dct (aj a.2)]
theorem aaw(b:List Po):∀(i:Nat),enumL (Int.ofNat i) (ar b)=(kG i b).map xk:=by
 induction b with
 |nil=>
  intro _;exact rfl
 |cons p r ih=>
  intro i;show V.tup [az i,.dct (aj p)]::enumL (Int.ofNat (i+1)) (ar r)=_;rw[ih (i+1)];rfl
theorem M6:∀{i:Nat} {a:Nat×Po},a∈kG i b->a.2∈b:=by
 induction b with
 |nil=>
  intro _ _ m;cases m
 |cons p r ih=>
  intro i a m;rcases aH.mp m with rfl|m
  ·exact .head _
  ·exact .tail _ (ih m)
def iz(o:Bool)(p:Po):Pr:=match lead o p with
 |none=>(0,0)
 |some t=>(t.x,t.y)
set_option tactic.hygienic true in
theorem IV:∀{ls:List Pr},leadsP o b=some ls->ls=b.map (iz o):=by
 induction b with
 |nil=>
  intro ls e;exists e;rfl
 |cons p r ih=>
  intro ls e;dsimp only[leadsP]at e;split at e
  ·exact nq e
  ·rename_i t ht;exists lI e,s,hs,e
   ·exists e;rw[aO,<- ih hs];unfold iz;rw[ht]
theorem Xo(b:List Po):∀(i:Nat),(kG i b).map (fun a=>V.tup [keyV o (iz (gr o) a.2).1 (iz (gr o) a.2).2,az a.1])=cI o i (b.map (iz (gr o))):=by
 induction b with
 |nil=>
  intro _;exact rfl
 |cons p r ih=>
  intro i;show _::(kG (i+1) r).map _=_;rw[ih (i+1)];rfl
theorem Ru(b:List Po):∀(i:Nat),(kG i b).length=b.length:=by
 induction b with
 |nil=>
  intro _;exact rfl
 |cons p r ih=>
  intro i;show(kG (i+1) r).length+1=_;rw[ih];rfl
section
variable {H:Hp}
theorem PY(hl:ls.length=kept.length)(hk:∀p∈kept,aW p)(hlen:kept.length<=1000)(res:List Po):∀(p:List Nat) (found:List Po) (o3 o6:Option V),redG (gr o) kept p found=some res->(∀q∈found,aW q)->found.length+p.length<=1000->
  ∃ρ,loopF [6,3] true (denSs (denS 19) tV) (p.map (cR (cI o 0 ls))) (x0::some (aK o)::some (.lst (ar kept))::o3::x4::some (.ref 1)::o6::r) ⟨2,[⟨1,false,.list (ar found)⟩,⟨0,true,.list ks⟩]⟩ =
   some (.next,x0::some (aK o)::some (.lst (ar kept))::ρ,⟨2,[⟨1,false,.list (ar res)⟩,⟨0,true,.list ks⟩]⟩)/\(∃a b c s,ρ=a::b::some (.ref 1)::c::s)/\∀q∈res,aW q:=by
 intro p
 induction p with
 |nil=>intro found o3 o6 e hf _;exists e;exact⟨_,rfl,⟨_,_,_,_,rfl⟩,hf⟩
 |cons i p ih=>
  intro found o3 o6 e hf g9;have g9:found.length+(p.length+1)<=1000:=g9;exists jY e,f,lL,e
  ·unfold redA at e;exists jY e,q,hq,e
   ·unfold Js at e;exists cm e,hb,e
    ·unfold Ku at e;exists jY e,m,hm,e
     ·have Fv:=ko hb (Ar hq).1;exists ak (AF (H:=⟨2,[⟨1,false,.list (ar found)⟩,⟨0,true,.list ks⟩]⟩) Fv hm),Vo,e2;have lk:aq ⟨2,[⟨1,false,.list (ar found)⟩,⟨0,true,.list ks⟩]⟩ 1 (ar found):=rfl;have e1:=FK (o:=o) lk.at (hk f (ee lL)) hf (by lia) hq;have e3:=lF (v:=.dct (aj m)) lk (by rw[vf];lia);rw[JU]at e3;have e4:∀H,subs H (.lst (ar kept)) (az i)=some (.dct (aj f)):=fun H=>fQ (by rw[vf];lia) (Dt lL);have rD:i<kept.length:=(fj.mp lL).1;have K6:ls[i]?=some (ls[i]'(Nat.lt_of_lt_of_eq rD (id (Eq.symm hl)))):=List.getElem?_eq_getElem (Nat.lt_of_lt_of_eq rD (id (Eq.symm hl)));have e5:cR (cI o 0 ls) i = .tup [keyV o (ls[i]'(by lia)).1 (ls[i]'(by lia)).2,az i]:=by
       have:=wF (o:=o) ls 0 i _ K6;rw[Nat.zero_add]at this;unfold cR;rw[jc,this];rfl
      clear K6 Fv hm hb hq lL hlen hk;obtain⟨ρ,a1,a2,a3⟩:=ih (found++[m]) (some (az i)) (some (keyV o (ls[i]'(Nat.lt_of_lt_of_eq rD (id (Eq.symm hl)))).1 (ls[i]'(Nat.lt_of_lt_of_eq rD (id (Eq.symm hl)))).2)) e (fun q' m'=>by
       clear e5 rD e4 e3 e1 lk e2 e g9 ih hl;clear e g9;rcases lO.mp m' with m'|m'
       ·exact hf q' m'
       ·clear hf;cases c9.mp m';exact Vo) (by rw[d8];show found.length+1+p.length<=_;lia)
      refine⟨ρ,?_,a2,a3⟩;rw[aO,e5,fx];unfold tV;unfold tV at a1;simp! only[mZ lk,e4,e1,e2,e3];exact a1
set_option tactic.hygienic true in
theorem Lu{o:Od}{b res:List Po}(hb:∀p∈b,aW p)(hlen:b.length<=60)(e:redF (gr o) b (leadsP (gr o) b)=some res):(∀p∈res,aW p)/\∃H',z5 [.lst (ar b),aK o] ⟨0,[]⟩=some (.lst (ar res),H'):=by
 unfold redF at e;exists lI e,ls,hl,e
 ·have fO:=aaU (ls:=ls) b 0 ls;have o9:(minG ls 0 b ls).length<=b.length:=fO.length_le;have iA:∀p∈minG ls 0 b ls,aW p:=fun p m=>hb p (fO.subset m);have e0:=NT (H:=⟨0,[]⟩) hb hl (by lia);unfold Kc at e;exists lI e,gC,hl2,e
  ·unfold Dj at e;split at e
   ·exact nq e
   ·rename_i p hp;exists cm e,ll,e;have ll:=bC ll;generalize minG ls 0 b ls=kept at *;exists ft (r6 hl2),n1,n2,n3,n4;have hN:=IV hl2;have hle:=n4 iA;have h1:∀{x3 x4 x5 x6 x7 x8 x9:Option V} {r:ai},den 19 (.lcomp [7,8,9] (.tup [(.call kB [(.var 1),(.sub (.call cW [(.var 9),(.var 1)]) (.const (.int 0)))]),(.var 8)]) [([8,9],true,.enum,[(.var 2)],[])]) (some (.lst (ar b))::some (aK o)::some (.lst (ar kept))::x3::x4::x5::x6::x7::x8::x9::r) ⟨0,[]⟩=some (.ref 0,⟨1,[⟨0,false,.list (cI o 0 gC)⟩]⟩):=by
     intro x3 x4 x5 x6 x7 x8 x9 r;have it:∀H,iterOf H .enum [.lst (ar kept)]=some (enumL (Int.ofNat 0) (ar kept)):=fun _=>rfl;simp! only[it];refine iX ?_;rw[aaw];have:=dF (k:=0) (n:=1) (es:=[]) (enc:=xk) (f:=turn (den 18) [8,9] true [] (cp 0 (.tup [(.call kB [(.var 1),(.sub (.call cW [(.var 9),(.var 1)]) (.const (.int 0)))]),(.var 8)]) (den 18)) (some (.lst (ar b))::some (aK o)::some (.lst (ar kept))::x3::x4::x5::x6::none::none::none::r)) (fun a=>[V.tup [keyV o (iz (gr o) a.2).1 (iz (gr o) a.2).2,az a.1]]) (kG 0 kept) [] (fun a m acc ha=>by
      have mp:=M6 m;exists aD (n2 a.2 mp),t,ht;have Fh:=(iA a.2 mp).2.1 t (gy ht);have e1:∀H,cW [.dct (aj a.2),aK o] H=some (bW (lead (gr o) a.2),H):=fun H=>jk (av:=.dct (aj a.2)) rfl (iA a.2 mp).2.2 (jB (iA a.2 mp));rw[ht]at e1;have e2:∀H,kB [aK o,encM t.x t.y] H=some (keyV o t.x t.y,H):=fun H=>uq (bx Fh.1 dq) (bx Fh.2.1 dq);have e3:iz (gr o) a.2=(t.x,t.y):=by unfold iz;rw[ht]
      rw[e3];unfold xk;simp! only[e1,kJ,e2];exact dm ha) (by rw[eW,Ru];show 0+_<=_;lia)
     rw[eJ,dh,Xo,<- hN]at this;exact this
    have hs:=Qw (o:=o) (by lia) hp;have h2:eC .sort (.ref 0) [] ⟨1,[⟨0,false,.list (cI o 0 gC)⟩]⟩=some (.none,⟨1,[⟨0,false,.list (p.map (cR (cI o 0 gC)))⟩]⟩):=by
     show(match vsort (cI o 0 gC)with
      |some s=>some (V.none,setObj ⟨1,[⟨0,false,.list (cI o 0 gC)⟩]⟩ 0 (.list s))
      |none=>none)=_
     rw[hs];rfl
    have VE:fZ .sort (own ⟨1,[⟨0,false,.list (cI o 0 gC)⟩]⟩ (.ref 0))=true:=rfl;clear hs hle hN n4 n3 n2 hl2 fO hp hl hb;obtain⟨ρ,el,⟨a,b',c,s,CS⟩,s8⟩:=PY (o:=o) (ks:=p.map (cR (cI o 0 gC))) n1.symm iA (by lia) res (x0:=some (.lst (ar b))) (x4:=some (.ref 0)) (r:=cu 14 none) p [] none none e (fun q m=>nomatch m) (by show 0+p.length<=_;lia);refine⟨s8,⟨2,[]⟩,?_⟩;clear s8 n1 e iA o9 ll hlen;clear e ll;subst CS;have it:iterOf ⟨2,[⟨1,false,.list []⟩,⟨0,false,.list (p.map (cR (cI o 0 gC)))⟩]⟩ .seq [.ref 0]=some (p.map (cR (cI o 0 gC))):=rfl;have lk:lockH ⟨2,[⟨1,false,.list []⟩,⟨0,false,.list (p.map (cR (cI o 0 gC)))⟩]⟩ [.ref 0]=⟨2,[⟨1,false,.list (ar [])⟩,⟨0,true,.list (p.map (cR (cI o 0 gC)))⟩]⟩:=rfl;unfold z5 Er;rw[dC];unfold tV at el;simp only[rep0,rep1]at el;rw[aM];simp only[cf,cH,bo,bk,bz,rep0,rep1,bh,bg,bj,aG,e0,aY,aZ,aS,bc];rw[aM];simp only[cf,h1,aG,aY,aZ,aS,bc];rw[aM];simp only[jr,kI,bo,bk,bh,bg,bj,aG,VE,lp,h2,aS,bc];rw[aM];simp only[cf,f7,bk,aG,jG,Nat.reduceAdd,aY,aZ,aS,bc];rw[aM];simp only[lB,bo,bk,bz,bh,bg,bj,aG,it,lk];rw[el];have hu:∀ρ,sunl [⟨1,false,.list []⟩,⟨0,false,.list (p.map (cR (cI o 0 gC)))⟩] [.ref 0] (some (.next,ρ,⟨2,[⟨1,false,.list (ar res)⟩,⟨0,true,.list (p.map (cR (cI o 0 gC)))⟩]⟩))=some (.next,ρ,⟨2,[⟨1,false,.list (ar res)⟩,⟨0,false,.list (p.map (cR (cI o 0 gC)))⟩]⟩):=fun ρ=>rfl;rw[hu];simp! only[];show some (V.lst ((ar res).map _),(⟨2,[]⟩:Hp))=_;rw[vH]
end
end
section
open PySem
section
variable {H:Hp}
theorem Lk{o:Od}{b res:List Po}(hb:∀p∈b,aW p)(hlen:b.length<=60)(e:redF (gr o) b (leadsP (gr o) b)=some res):(∀p∈res,aW p)/\yW [.lst (ar b),aK o] H=some (.lst (ar res),H):=by
 obtain⟨h,H',e⟩:=Lu hb hlen e;exact⟨h,eV e (.cons (.lst gk) (.cons fb .nil)) (.lst gk)⟩
set_option tactic.hygienic true in
theorem NA{o:Od}{s res:List Po}(hs:∀p∈s,aW p)(hlen:s.length<=40)(e:sh (gr o) s=some res):(∀p∈res,aW p)/\vM [.lst (ar s),aK o,.int 40] H=some (.lst (ar res),H):=by
 unfold sh E2 at e;split at e
 ·exact nq e
 ·rename_i b hb;exists cm e,cB,e;have cB:=bC cB;exists ak (KP (H:=⟨0,[]⟩) hs hlen hb),h1,e1;exists ak (Lk (H:=⟨0,[]⟩) h1 cB e),h2,e2;refine⟨h2,eV (H':=⟨0,[]⟩) ?_ (.cons (.lst gk) (.cons fb (.cons (.int _) .nil))) (.lst gk)⟩;unfold Ga FV;rw[i9];simp! only[e1,e2];rfl
end
def stdA(go:List Pr->List Pr->Option (List Pr))(found w:List Pr)(p:Pr)(ls:List Pr):Option (List Pr):=match memP p.1 p.2 found with
 |true=>go found w
 |false=>match anyD p.1 p.2 ls with
  |true=>go found w
  |false=>go (found++[p]) ((p.1,Nat.succ p.2)::(Nat.succ p.1,p.2)::w)
def stdG(ls:List Pr):Nat->List Pr->List Pr->Option (List Pr)
 |0,_,_=>none
 |k+1,found,w=>match w with
  |[]=>some found
  |p::w=>stdA (stdG ls k) found w p ls
def askN(ls:List Pr)(i j:Nat):Option Bool:=match ls[i]? with
 |some a=>match ls[j]? with
  |some b=>some (gtM false b.1 b.2 a.1 a.2)
  |none=>none
 |none=>none
def AP(ls:List Pr):Option (List Nat):=match ls with
 |[]=>some []
 |a::r=>match r with
  |[]=>some [0]
  |b::s=>outN (treeRun (askN (a::b::s)) (PySem.W.kas_sort (a::b::s).length))
noncomputable def pick(ls:List Pr):List Nat->Option (List Pr)
 |[]=>some []
 |i::r=>match ls[i]? with
  |none=>none
  |some a=>match pick ls r with
   |none=>none
   |some s=>some (a::s)
def DH(found:List Pr)(p:Option (List Nat)):Option (List Pr):=match p with
 |none=>none
 |some p=>match b8 found.length 60 with
  |true=>pick found p
  |false=>none
def E4(f:Option (List Pr)):Option (List Pr):=match f with
 |none=>none
 |some f=>DH f (AP f)
def GK(ls:Option (List Pr)):Option (List Pr):=match ls with
 |none=>none
 |some ls=>E4 (stdG ls 100 [] [(0,0)])
def std(o:Bool)(b:List Po):Option (List Pr):=GK (leadsP o b)
set_option tactic.hygienic true in
theorem W9(h:askN ls i j=some c):iM (ls.map encN) i j=some c:=by
 unfold askN at h;split at h
 ·rename_i a ha;exists ph h,b,hb,h
  ·exists h;unfold iM cR;rw[jc,jc,dP,dP,ha,hb];exact uc (o:=.lex) 6
 ·exact nq h
theorem Zz(ls:List Pr):allKind 1 (ls.map encN)=true:=by
 induction ls with
 |nil=>
  exact rfl
 |cons a r ih=>
  exact ih
set_option tactic.hygienic true in
theorem Uu(hl:ls.length<=60)(h:AP ls=some p):vsort (ls.map encN)=some (p.map (cR (ls.map encN))):=by
 unfold AP at h;split at h
 ·(clear hl;exists h);rfl
 ·rename_i a r;split at h
  ·(clear hl;exists h);rfl
  ·rename_i b s;exists y4 h,q,hq,h
   ·exists h;have hlen:((a::b::s).map encN).length=(a::b::s).length:=aJ _;show guard' (b8 ((a::b::s).map encN).length 60) (guard' (allKind 1 ((a::b::s).map encN)) (CH ((a::b::s).map encN) (treeRun (iM ((a::b::s).map encN)) (PySem.W.kas_sort ((a::b::s).map encN).length))))=_;rw[hlen,fq hl,Zz,Hl (fun i j c=>W9) _ _ hq];rfl
set_option tactic.hygienic true in
theorem OK:∀{r:List Pr},pick ls p=some r->p.map (cR (ls.map encN))=r.map encN:=by
 induction p with
 |nil=>
  intro r e;exists e;rfl
 |cons i p ih=>
  intro r e;dsimp only[pick]at e;split at e
  ·exact nq e
  ·rename_i a ha;exists lI e,s,hs,e
   ·exists e;rw[aO,aO,ih hs];congr 1;unfold cR;rw[jc,dP,ha];rfl
def known(f:List Pr):List (List Int×V):=f.map fun m=>(bU m.1 m.2,V.bool true)
theorem Iy(f:List Pr):(dget (known f) (bU i j)).isSome=memP i j f:=by
 induction f with
 |nil=>
  exact rfl
 |cons a r ih=>
  show(match keq (bU a.1 a.2) (bU i j)with
   |true=>some (V.bool true)
   |false=>dget (known r) (bU i j)).isSome=(match bJ a.1 a.2 i j with
   |true=>true
   |false=>memP i j r)
  rw[rm]
  induction bJ a.1 a.2 i j using aB with
  |true=>rfl
  |false=>exact ih
theorem Mt(f:List Pr):memP i j f=false->dset (known f) (bU i j) (.bool true)=known (f++[(i,j)]):=by
 induction f with
 |nil=>
  intro _;exact rfl
 |cons a r ih=>
  intro h;have h:(match bJ a.1 a.2 i j with
   |true=>true
   |false=>memP i j r)=false:=h
  show(match keq (bU a.1 a.2) (bU i j)with
   |true=>(bU a.1 a.2,V.bool true)::known r
   |false=>(bU a.1 a.2,V.bool true)::dset (known r) (bU i j) (.bool true))=_
  rw[rm]
  induction e:bJ a.1 a.2 i j using aB with
  |true=>rw[e]at h;exact bt h
  |false=>
   rw[e]at h;dsimp only;rw[ih h];rfl
def stH(f w ls:List Pr):Hp:=⟨4,[⟨3,false,.dict (known f)⟩,⟨2,false,.list (w.reverse.map encN)⟩,⟨1,false,.list (f.map encN)⟩,⟨0,false,.list (ls.map encN)⟩]⟩
def oq:List MS:=[(.assign 7 (.cP .jZ (.var 5) [])),(.if_ (.eT [(.cmp .In (.var 7) (.var 6)),(.call pP [(.var 7),(.var 3)])]) [.cont] []),(.store (.var 6) (.var 7) (.const (.bool true))),(.expr (.cP .append (.var 4) [(.var 7)])),(.for_ [8] false .range1 [(.var 2)] [(.expr (.cP .append (.var 5) [(.bin .Add (.bin .Add (.slice true (.var 7) (.var 8)) (.tup [(.bin .Add (.sub (.var 7) (.var 8)) (.const (.int 1)))])) (.slice false (.var 7) (.bin .Add (.var 8) (.const (.int 1)))))]))])]
section
variable {x0 x1 x8:Option V} {r:ai}
noncomputable def iL(x0 x1 x7 x8:Option V)(r:ai):ai:=x0::x1::some (.int 2)::some (.ref 0)::some (.ref 1)::some (.ref 2)::some (.ref 3)::x7::x8::r
theorem Ed(hw:w.length<=1000):eC .jZ (.ref 2) [] (stH f (p::w) ls)=some (encN p,stH f w ls):=by
 show(match ((p::w).reverse.map encN).getLast? with
  |some x=>guard' (lenOk ((p::w).reverse.map encN)) (some (x,setObj (stH f (p::w) ls) 2 (.list ((p::w).reverse.map encN).dropLast)))
  |none=>none)=_
 have h1:(p::w).reverse.map encN=w.reverse.map encN++[encN p]:=by rw[List.reverse_cons,gM];rfl
 rw[h1,List.getLast?_append];show guard' (lenOk (w.reverse.map encN++[encN p])) (some (encN p,setObj (stH f (p::w) ls) 2 (.list (w.reverse.map encN++[encN p]).dropLast)))=_;rw[cT (by rw[d8,aJ,List.length_reverse];show w.length+1<=_;lia),List.dropLast_concat];rfl
theorem HW(hw:w.length<=1000):eC .append (.ref 2) [encN p] (stH f w ls)=some (.none,stH f (p::w) ls):=by
 have lk:aq (stH f w ls) 2 (w.reverse.map encN):=rfl;rw[lF lk (by rw[aJ,List.length_reverse];lia)];show some (V.none,(⟨4,_⟩:Hp))=some (V.none,stH f (p::w) ls);unfold stH;rw[List.reverse_cons,gM];rfl
theorem K9(hw:w.length<=1000)(hl:ls.length<=1000)(h:memP p.1 p.2 f=true\/anyD p.1 p.2 ls=true) :
  denSs (denS 19) oq (iL x0 x1 x7 x8 r) (stH f (p::w) ls)=some (.cont,iL x0 x1 (some (encN p)) x8 r,stH f w ls):=by
 have e1:=Ed (f:=f) (ls:=ls) (p:=p) hw;have nS:fZ .jZ (own (stH f (p::w) ls) (.ref 2))=true:=rfl;have e2:bu .In (encN p) (.ref 3) (stH f w ls)=some (memP p.1 p.2 f):=by
  rw[<- Iy];exact uj (l:=known f) rfl
 have e3:=yp (H:=stH f w ls) (x:=p.1) (y:=p.2) (lv:=.ref 0) hl rfl;rw[show encM p.1 p.2=encN p from rfl]at e3;unfold oq iL;simp! only[nS,e1,e2];clear e2 nS e1 hl hw;induction hm:memP p.1 p.2 f using aB with
 |true=>simp! only[]
 |false=>
  rw[hm]at h;simp! only[e3,h.resolve_left dq]
theorem XG(hf:f.length<=1000)(hw:w.length<=900)(hl:ls.length<=1000)(h1:memP p.1 p.2 f=false)(h2:anyD p.1 p.2 ls=false) :
  denSs (denS 19) oq (iL x0 x1 x7 x8 r) (stH f (p::w) ls)=some (.next,iL x0 x1 (some (encN p)) (some (.int 1)) r,stH (f++[p]) ((p.1,Nat.succ p.2)::(Nat.succ p.1,p.2)::w) ls):=by
 have e1:=Ed (f:=f) (ls:=ls) (p:=p) (w:=w) (by lia);have nS:fZ .jZ (own (stH f (p::w) ls) (.ref 2))=true:=rfl;have e2:bu .In (encN p) (.ref 3) (stH f w ls)=some (memP p.1 p.2 f):=by
  rw[<- Iy];exact uj (l:=known f) rfl
 have e3:=yp (H:=stH f w ls) (x:=p.1) (y:=p.2) (lv:=.ref 0) hl rfl;rw[show encM p.1 p.2=encN p from rfl]at e3;have uQ:bS (stH f w ls) 3 (known f):=rfl;have e4:=uN (x:=p.1) (y:=p.2) (v:=.bool true) uQ (by unfold known;rw[aJ];lia);rw[Mt f h1,show encM p.1 p.2=encN p from rfl]at e4;have cN:aq (setObj (stH f w ls) 3 (.dict (known (f++[(p.1,p.2)])))) 1 (f.map encN):=rfl;have e5:=lF (v:=encN p) cN (by rw[aJ];lia);have hH:setObj (setObj (stH f w ls) 3 (.dict (known (f++[(p.1,p.2)])))) 1 (.list (f.map encN++[encN p]))=stH (f++[p]) w ls:=by
  unfold stH;rw[gM];rfl
 rw[hH]at e5;have Yz:=mZ cN;have it:∀H,iterOf H .range1 [V.int 2]=some [V.int 0,V.int 1]:=fun _=>rfl;have lkk:∀H,lockH H [V.int 2]=H:=fun _=>rfl;have su:∀es f ρ H,sunl es [V.int 2] (some (f,ρ,H))=some (f,ρ,H):=fun _ _ _ _=>rfl;have u0:∀H,j6 true (encN p) (nat? (V.int 0)) H=some (.tup [],H):=fun _=>rfl;have u1:∀H,j6 true (encN p) (nat? (V.int 1)) H=some (.tup [V.int (.ofNat p.1)],H):=fun _=>rfl;have d0:∀H,j6 false (encN p) (nat? (V.int 1)) H=some (.tup [V.int (.ofNat p.2)],H):=fun _=>rfl;have d1:∀H,j6 false (encN p) (nat? (V.int 2)) H=some (.tup [],H):=fun _=>rfl;have a0:∀H,binOp .Add (V.int 0) (V.int 1) H=some (V.int 1,H):=fun _=>rfl;have a1:∀H,binOp .Add (V.int 1) (V.int 1) H=some (V.int 2,H):=fun _=>rfl;have b0:∀H,subs H (encN p) (V.int 0)=some (V.int (.ofNat p.1)):=fun _=>rfl;have b1:∀H,subs H (encN p) (V.int 1)=some (V.int (.ofNat p.2)):=fun _=>rfl;have c0:∀a H,binOp .Add (V.int (.ofNat a)) (V.int 1) H=some (V.int (.ofNat (a+1)),H):=fun _ _=>rfl;have g0:∀H,binOp .Add (.tup []) (.tup [V.int (.ofNat (p.1+1))]) H=some (.tup [V.int (.ofNat (p.1+1))],H):=fun _=>rfl;have g1:∀H,binOp .Add (.tup [V.int (.ofNat (p.1+1))]) (.tup [V.int (.ofNat p.2)]) H=some (encN (Nat.succ p.1,p.2),H):=fun _=>rfl;have g2:∀H,binOp .Add (.tup [V.int (.ofNat p.1)]) (.tup [V.int (.ofNat (p.2+1))]) H=some (.tup [V.int (.ofNat p.1),V.int (.ofNat (p.2+1))],H):=fun _=>rfl;have g3:∀H,binOp .Add (.tup [V.int (.ofNat p.1),V.int (.ofNat (p.2+1))]) (.tup []) H=some (encN (p.1,Nat.succ p.2),H):=fun _=>rfl;have p1:=HW (f:=f++[p]) (w:=w) (ls:=ls) (p:=(Nat.succ p.1,p.2)) (by lia);have p2:=HW (f:=f++[p]) (w:=(Nat.succ p.1,p.2)::w) (ls:=ls) (p:=(p.1,Nat.succ p.2)) (by show w.length+1<=_;lia);have tN:∀w,fZ .append (own (stH (f++[p]) w ls) (.ref 2))=true:=fun _=>rfl;unfold oq iL;refine aM.trans ?_;simp only[cf,kI,bo,bk,bh,bg,bj,aG,nS,lp,e1,aY,aZ,aS,bc];refine aM.trans ?_;simp only[hO,pL,o8,pf,fv,cH,bk,bz,bo,bh,bg,bj,fJ,aG,fD,e2,h1,pH,pI,e3,h2,iR,gx,aS,bc];refine aM.trans ?_;simp only[tD,cD,bo,bh,bg,bj,aG,e4,vq,aS,bc];refine aM.trans ?_;simp only[jr,kI,bo,bk,bz,bh,bg,bj,aG,Yz,lp,e5,aS,bc];refine aM.trans ?_;simp! only[it,lkk,tN,u0,u1,d0,d1,a0,a1,b0,b1,c0,g0,g1,g2,g3,p1,p2,su]
end
end
section
open PySem
section
variable {H:Hp}
theorem My(hw:w.length<=1000):den 19 (.cmp .Gt (.bi .len [.var 5]) (.const (.int 0))) (iL x0 x1 x7 x8 r) (stH f w ls)=some (.bool (c8 0 w.length),stH f w ls):=by
 have lk:aq (stH f w ls) 2 (w.reverse.map encN):=rfl;have e1:=m9 lk (by rw[aJ,List.length_reverse];lia);rw[aJ,List.length_reverse]at e1;unfold iL;simp! only[e1,lM]
set_option tactic.hygienic true in
theorem XU(hl:ls.length<=1000)(res:List Pr):∀(k:Nat) (f w:List Pr) (n:Nat) (x7 x8:Option V),stdG ls k f w=some res->f.length+k<=500->w.length+2 * k<=500->k<n->
  ∃NG mL,fm (den 19 (.cmp .Gt (.bi .len [.var 5]) (.const (.int 0)))) (denSs (denS 19) oq) n (iL x0 x1 x7 x8 r) (stH f w ls)=some (.next,iL x0 x1 NG mL r,stH res [] ls):=by
 intro k
 induction k with
 |zero=>intro _ _ _ _ _ e;exact nq e
 |succ k ih=>
  intro f w n x7 x8 e hf hw hn;obtain⟨n,rfl⟩:∃m,n=m+1:=⟨n - 1,by lia⟩;rw[rQ,My (by lia),fD];dsimp only[stdG]at e;split at e
  ·(clear hw hn hf ih hl;exists e)
   rw[show c8 0 ([]:List Pr).length=false from rfl,r4];exact⟨x7,x8,rfl⟩
  ·rename_i p w;have hw:w.length+1+2 * (k+1)<=500:=hw;rw[show c8 0 (p::w).length=true from lg (Nat.succ_pos _),pX];unfold stdA at e;split at e
   ·rename_i hm;rw[K9 (by lia) hl (.inl hm),aS,mC];exact ih f w n _ _ e (by lia) (by lia) (by lia)
   ·rename_i hm;split at e
    ·rename_i ha;rw[K9 (by lia) hl (.inr ha),aS,mC];exact ih f w n _ _ e (by lia) (by lia) (by lia)
    ·rename_i ha;rw[XG (by lia) (by lia) hl hm ha,aS,jL];exact ih _ _ n _ _ e (by rw[d8];show f.length+1+k<=_;lia) (by show w.length+1+1+2 * k<=_;lia) (by lia)
theorem aam{o:Od}{b:List Po}{res:List Pr}(hs:∀p∈b,aW p)(hlen:b.length<=1000)(e:std (gr o) b=some res):∃H',xr [.lst (ar b),aK o,.int 2] ⟨0,[]⟩=some (.lst (res.map encN),H'):=by
 unfold std GK at e;exists lI e,ls,hl,e
 ·unfold E4 at e;exists lI e,f,hf,e
  ·unfold DH at e;split at e
   ·exact nq e
   ·rename_i p hp;exists cm e,g9,e;have g9:=bC g9;exists ft (r6 hl),n1,n2,n3,n4;have h1:∀{x2 x3 x4 x5 x6 x7 x8 x9 x10:Option V} {r:ai},den 19 (.lcomp [9,10] (.sub (.call cW [(.var 10),(.var 1)]) (.const (.int 0))) [([10],false,.seq,[(.var 0)],[])]) (some (.lst (ar b))::some (aK o)::x2::x3::x4::x5::x6::x7::x8::x9::x10::r) ⟨0,[]⟩=some (.ref 0,⟨1,[⟨0,false,.list (ls.map encN)⟩]⟩):=by
     intro x2 x3 x4 x5 x6 x7 x8 x9 x10 r;have it:∀H,iterOf H .seq [.lst (ar b)]=some (ar b):=fun _=>rfl;simp! only[it];refine iX ?_;have:=dF (k:=0) (n:=1) (es:=[]) (enc:=fun p:Po=>V.dct (aj p)) (f:=turn (den 18) [10] false [] (cp 0 (.sub (.call cW [.var 10,.var 1]) (.const (.int 0))) (den 18)) (some (.lst (ar b))::some (aK o)::x2::x3::x4::x5::x6::x7::x8::none::none::r)) (fun p=>[encN (iz (gr o) p)]) b [] (fun p m acc ha=>by
      exists aD (n2 p m),t,ht;have e1:∀H,cW [.dct (aj p),aK o] H=some (bW (lead (gr o) p),H):=fun H=>jk (av:=.dct (aj p)) rfl (hs p m).2.2 (jB (hs p m));rw[ht]at e1;have e3:iz (gr o) p=(t.x,t.y):=by unfold iz;rw[ht]
      rw[e3];simp! only[e1,kJ];exact dm ha) (by rw[eW];show 0+b.length<=_;lia)
     rw[eJ,dh]at this;show forItems _ (b.map _) _=_;rw[this,IV hl,d5];rfl
    exists de (XU (x0:=some (.lst (ar b))) (x1:=some (aK o)) (r:=cu 15 none) (ls:=ls) (le_of_eq_of_le (id (Eq.symm n1)) hlen) f 100 [] [(0,0)] 1000 none none hf dq dq dq),x7,x8,el;have hv:=Uu g9 hp;rw[OK e]at hv;have m7:cz .sorted [V.ref 1] (stH f [] ls)=some (newObj (stH f [] ls) (.list (res.map encN))):=by
     show(match listView (stH f [] ls) (.ref 1)with
      |some l=>retL (vsort l) (stH f [] ls)
      |none=>none)=_
     rw[show listView (stH f [] ls) (.ref 1)=some (f.map encN)from rfl];dsimp only;rw[hv];rfl
    refine⟨⟨5,[]⟩,?_⟩;have hm:∀H,binOp .Mult (V.tup [V.int 0]) (V.int 2) H=some (.tup [V.int 0,V.int 0],H):=fun _=>rfl;unfold xr Gf;rw[i9];unfold iL oq at el;simp only[rep0,rep1]at el;rw[aM];simp only[cf,h1,rep0,rep1,aG,aY,aZ,aS,bc];rw[aM];simp only[gO,fh,f7,gh,qN,bo,cD,bk,bz,bh,bg,bj,aG,hm,jG,Nat.reduceAdd,lP,gL,aY,aZ,aS,bc];rw[aM];simp only[oW];rw[show(⟨4,[⟨3,false,.dict []⟩,⟨2,false,.list [V.tup [V.int 0,V.int 0]]⟩,⟨1,false,.list []⟩,⟨0,false,.list (ls.map encN)⟩]⟩:Hp)=stH [] [(0,0)] ls from rfl];rw[el];simp! only[m7];show some (freezeV (newObj (stH f [] ls) (.list (res.map encN))).2.es 0 3 (.ref 4),(⟨5,[]⟩:Hp))=_;rw[iV (l:=res.map encN) rfl (f6 _)];have:∀(es:List Ent) (l:List Pr),(l.map encN).map (freezeV es 0 2)=l.map encN:=by
     intro es l;clear hm m7 hv el h1 n4 n3 n2 n1 g9 e hp hf hl hlen hs;induction l with
     |nil=>rfl
     |cons a l ih=>show freezeV es 0 2 (encN a)::(l.map encN).map _=_;rw[ih];rfl
    rw[this]
theorem aaT{o:Od}{b:List Po}{res:List Pr}(hs:∀p∈b,aW p)(hlen:b.length<=1000)(e:std (gr o) b=some res):u7 [.lst (ar b),aK o,.int 2] H=some (.lst (res.map encN),H):=by
 exists aD (aam hs hlen e),H',e;exact eV e (.cons (.lst gk) (.cons fb (.cons (.int _) .nil))) mR
end
end
section
open PySem
noncomputable def cj(r:List Int):V:=.lst (r.map .int)
def encMat(m:List (List Int)):V:=.lst (m.map cj)
theorem RT{r:List Int}:NRs (r.map V.int):=by
 induction r with
 |nil=>
  exact .nil
 |cons _ _ ih=>
  exact .cons (.int _) ih
theorem XE:NR (cj r):=.lst RT
theorem VH{m:List (List Int)}:NRs (m.map cj):=by
 induction m with
 |nil=>
  exact .nil
 |cons _ _ ih=>
  exact .cons XE ih
theorem tZ:NR (encMat m):=.lst VH
noncomputable def Rows(H:Hp)(k n0:Nat)(js:List Nat)(m:List (List V)):Prop:=js.length=m.length/\(∀(i j:Nat) (r:List V),js[i]?=some j->m[i]?=some r->aq H j r)/\(∀j∈js,n0<=j/\j≠k)
theorem Rows.keep(R:Rows H k n0 js m)(h:∀i e,look H.es i=some e->i≠k->look H'.es i=some e):Rows H' k n0 js m:=
 ⟨R.1,fun i j r a b=>h _ _ (R.2.1 i j r a b) (R.2.2 j (ee a)).2,R.2.2⟩
theorem Rows.snoc(R:Rows H k n0 js m)(hj:aq H j r)(h1:n0<=j)(h2:j≠k):Rows H k n0 (js++[j]) (m++[r]):=by
 refine⟨by rw[d8,d8,R.1];rfl,fun i j' r' a b=>?_,fun j' m'=>?_⟩
 ·by_cases hi:i<js.length
  ·rw[List.getElem?_append_left hi]at a;rw[List.getElem?_append_left (by rw[<- R.1];exact hi)]at b;exact R.2.1 i j' r' a b
  ·rw[List.getElem?_append_right (Nat.le_of_not_lt hi)]at a;rw[List.getElem?_append_right (by rw[<- R.1];exact Nat.le_of_not_lt hi),<- R.1]at b
   induction hz:i - js.length using bL with
   |zero=>rw[hz]at a b;exists a;exists b;exact hj
   |succ z=>rw[hz]at a;exact nq a
 ·rcases lO.mp m' with m'|m'
  ·exact R.2.2 j' m'
  ·cases c9.mp m';exact⟨h1,h2⟩
noncomputable def Still(v:V):Prop:=∀es n0 k,freezeV es n0 k v=v
theorem K3:Still (.int i):=fun _ _ k=>by induction k using bL <;> rfl
theorem wQ(hn:n0<=n1):∀{m:List (List V)},Rows H k n1 js m->(∀r∈m,∀v∈r,Still v)->(js.map V.ref).map (freezeV H.es n0 (z+1))=m.map V.lst:=by
 induction js with
 |nil=>
  intro m h _;cases List.length_eq_zero_iff.mp h.1.symm;rfl
 |cons j js ih=>
  intro m h hs
  induction m using aN with
  |nil=>exact nomatch h.1
  |cons r m=>
  have h1:=h.2.1 0 j r rfl rfl;have h2:freezeV H.es n0 (z+1) (.ref j) = .lst (r.map (freezeV H.es n0 z)):=iV h1 (bx hn (h.2.2 j (.head _)).1);have h3:r.map (freezeV H.es n0 z)=r:=by
   have:∀(l:List V),(∀v∈l,Still v)->l.map (freezeV H.es n0 z)=l:=by
    intro l
    induction l with
    |nil=>intro _;rfl
    |cons a l ih=>intro h;rw[aO,h a (.head _),ih fun v m=>h v (.tail _ m)]
   exact this r (hs r (.head _))
  rw[aO,aO,aO,h2,h3,ih (m:=m) ⟨gG h.1,fun i j' r' a b=>h.2.1 (i+1) j' r' a b,fun j' m'=>h.2.2 j' (.tail _ m')⟩ fun r' m'=>hs r' (.tail _ m')]
noncomputable def HU(t:Option T):Int:=match t with
 |none=>0
 |some t=>t.n
def okIn(pw:List Pr):Po->Bool
 |[]=>true
 |t::r=>match memP t.x t.y pw with
  |true=>match aF t.d 1 with
   |true=>okIn pw r
   |false=>false
  |false=>false
def rowOf(told:Po)(pw:List Pr):List Int:=pw.map fun p=>HU (getT told p.1 p.2)
section
variable (go:Option (List (List Int))) (pw:List Pr)
def Hx(told:Po):Option (List (List Int)):=match okIn pw told with
 |false=>none
 |true=>match go with
  |none=>none
  |some m=>some (rowOf told pw::m)
def letA(told:Option Po):Option (List (List Int)):=match told with
 |none=>none
 |some told=>Hx go pw told
end
def letG(o:Bool)(dx dy:Nat)(b:List Po)(pw:List Pr):List Pr->Option (List (List Int))
 |[]=>some []
 |p::r=>match tJ ⟨Nat.add p.1 dx,Nat.add p.2 dy,1,1⟩with
  |false=>none
  |true=>letA (letG o dx dy b pw r) pw (restOf o [⟨Nat.add p.1 dx,Nat.add p.2 dy,1,1⟩] b)
def uu:List MS:=[(.assign 6 (.call jW [(.nj (.tup [(.bin .Sub (.bin .Add (.sub (.var 5) (.const (.int 0))) (.const (.int 1))) (.var 0)),(.bin .Add (.sub (.var 5) (.const (.int 1))) (.var 0))]) (.tup [(.const (.int 1)),(.const (.int 1))])),(.var 2),(.var 3)])),(.if_ (.cmp .NotEq (.lcomp [7,8] (.var 8) [([8],false,.seq,[(.var 6)],[(.eT [(.cmp .NotIn (.var 8) (.var 1)),(.cmp .NotEq (.sub (.sub (.var 6) (.var 8)) (.const (.int 1))) (.const (.int 1)))])])]) (.list [])) [(.ret (.list []))] []),(.expr (.cP .append (.var 4) [(.lcomp [7,8] (.ite (.cmp .In (.var 8) (.var 6)) (.sub (.sub (.var 6) (.var 8)) (.const (.int 0))) (.const (.int 0))) [([8],false,.seq,[(.var 1)],[])])]))]
section
variable {H:Hp}
theorem KU:den (n+1) (.nj k v) ρ H=dw H.nxt (iZ H.nxt k v (den n) ρ (newObj H (.dict [])).2):=rfl
theorem Sj:okIn pw p=true->∀t∈p,memP t.x t.y pw=true/\t.d=1:=by
 induction p with
 |nil=>
  intro _ _ m;cases m
 |cons a r ih=>
  intro h t m;dsimp only[okIn]at h;split at h
  ·rename_i h1;exists kb2 h,h2,h
   ·rcases aH.mp m with rfl|m
    ·exact⟨h1,cU h2⟩
    ·exact ih h t m
  ·exact bf h
theorem WA(h1:aq H a [])(h2:aq H b []):bu .NotEq (.ref a) (.ref b) H=some false:=by
 have e1:res H 7 (.ref a)=some (.lst []):=by
  show resR (res H 6) (look H.es a)=_;rw[show look H.es a=_ from h1];rfl
 have e2:res H 7 (.ref b)=some (.lst []):=by
  show resR (res H 6) (look H.es b)=_;rw[show look H.es b=_ from h2];rfl
 show jm (match res H 7 (.ref a)with
  |some a=>match res H 7 (.ref b)with
   |some b=>some (teq deepN a b)
   |none=>none
  |none=>none)=_
 rw[e1,e2];rfl
theorem Mn(ha:a<=1) :
  den (n+6) (.nj (.tup [(.bin .Sub (.bin .Add (.sub (.var 5) (.const (.int 0))) (.const (.int 1))) (.var 0)),(.bin .Add (.sub (.var 5) (.const (.int 1))) (.var 0))]) (.tup [(.const (.int 1)),(.const (.int 1))])) (some (.int (.ofNat a))::x1::x2::x3::x4::some (encM x y)::r) H =
   some (.ref H.nxt,(newObj H (.dict (aj [⟨x+(1 - a),y+a,1,1⟩]))).2):=by
 have e1:∀H,binOp .Add (V.int (.ofNat x)) (V.int 1) H=some (V.int (.ofNat (x+1)),H):=fun _=>rfl;have e2:∀H,binOp .Sub (V.int (.ofNat (x+1))) (V.int (.ofNat a)) H=some (V.int (.ofNat (x+(1 - a))),H):=fun H=>by
  show some (V.int (Int.ofNat (x+1) - Int.ofNat a),H)=_;have:Int.ofNat (x+1) - Int.ofNat a=Int.ofNat (x+(1 - a)):=by
   have h1:Int.ofNat (x+1)=((x+1:Nat):Int):=rfl;have h2:Int.ofNat a=((a:Nat):Int):=rfl;have h3:Int.ofNat (x+(1 - a))=((x+(1 - a):Nat):Int):=rfl;rw[h1,h2,h3];lia
  rw[this]
 have e3:∀H,binOp .Add (V.int (.ofNat y)) (V.int (.ofNat a)) H=some (V.int (.ofNat (y+a)),H):=fun _=>rfl;rw[KU];simp! only[M0,M1,e1,e2,e3];rw[show(V.tup [V.int (Int.ofNat (x+(1 - a))),V.int (Int.ofNat (y+a))])=encM (x+(1 - a)) (y+a)from rfl,vo bS.c7 rfl];obtain⟨nx,es⟩:=H;show dw nx (some (setObj ⟨nx+1,⟨nx,false,.dict []⟩::es⟩ nx _))=_;rw[yh];rfl
end
end
section
open PySem
theorem Kb{A B:Type}(l:List A):l.flatMap (fun _=>([]:List B))=[]:=by
 induction l with
 |nil=>
  exact rfl
 |cons a l ih=>
  rw[iQ,ih];rfl
section
variable {H:Hp}
theorem Wb(hn:Nd told)(hl:told.length<=1000)(hp:pw.length<=1000)(h:okIn pw told=true) :
  den (n+8) (.lcomp [7,8] (.var 8) [([8],false,.seq,[(.var 6)],[(.eT [(.cmp .NotIn (.var 8) (.var 1)),(.cmp .NotEq (.sub (.sub (.var 6) (.var 8)) (.const (.int 1))) (.const (.int 1)))])])]) (x0::some (.lst (pw.map encN))::x2::x3::x4::x5::some (.dct (aj told))::x7::x8::r) H =
   some (.ref H.nxt,(newObj H (.list [])).2):=by
 obtain⟨nx,es⟩:=H;simp! only[pK];refine MQ ?_;have:=dF (k:=nx) (n:=nx+1) (es:=es) (enc:=fun t:T=>encM t.x t.y) (f:=turn (den (n+7)) [8] false [(.eT [(.cmp .NotIn (.var 8) (.var 1)),(.cmp .NotEq (.sub (.sub (.var 6) (.var 8)) (.const (.int 1))) (.const (.int 1)))])] (cp nx (.var 8) (den (n+7))) (x0::some (.lst (pw.map encN))::x2::x3::x4::x5::some (.dct (aj told))::none::none::r)) (fun _=>[]) told [] (fun t m acc ha=>by
  exists ak (Sj h t m),h1,h2;have e1:∀H,bu .NotIn (encM t.x t.y) (.lst (pw.map encN)) H=some false:=fun H=>by rw[AL (by lia),h1];rfl
  have e2:∀H,subs H (.dct (aj told)) (encM t.x t.y)=some (aX t.n 1):=fun H=>by rw[pE hn m,h2]
  have e3:∀H,subs H (aX t.n 1) (V.int 1)=some (V.int 1):=fun _=>rfl;have e4:∀H,bu .NotEq (V.int 1) (V.int 1) H=some false:=fun _=>rfl;simp! only[e1,e2,e3,e4,gc]) (by rw[Kb];exact(by decide:0+0<=90000))
 rw[Kb,gc]at this;exact this
theorem KI(hp:pw.length<=1000) :
  den (n+8) (.lcomp [7,8] (.ite (.cmp .In (.var 8) (.var 6)) (.sub (.sub (.var 6) (.var 8)) (.const (.int 0))) (.const (.int 0))) [([8],false,.seq,[(.var 1)],[])]) (x0::some (.lst (pw.map encN))::x2::x3::x4::x5::some (.dct (aj told))::x7::x8::r) H =
   some (.ref H.nxt,(newObj H (.list ((rowOf told pw).map V.int))).2):=by
 obtain⟨nx,es⟩:=H;have it:∀H,iterOf H .seq [.lst (pw.map encN)]=some (pw.map encN):=fun _=>rfl;simp! only[it];refine iX ?_;have:=dF (k:=nx) (n:=nx+1) (es:=es) (enc:=encN) (f:=turn (den (n+7)) [8] false [] (cp nx (.ite (.cmp .In (.var 8) (.var 6)) (.sub (.sub (.var 6) (.var 8)) (.const (.int 0))) (.const (.int 0))) (den (n+7))) (x0::some (.lst (pw.map encN))::x2::x3::x4::x5::some (.dct (aj told))::none::none::r)) (fun p=>[V.int (HU (getT told p.1 p.2))]) pw [] (fun p m acc ha=>by
  have e1:∀H,bu .In (encN p) (.dct (aj told)) H=some (getT told p.1 p.2).isSome:=fun H=>by
   rw[show encN p=encM p.1 p.2 from rfl,uj (l:=aj told) rfl,nB];induction getT told p.1 p.2 using aL <;> rfl
  simp! only[e1]
  induction e:getT told p.1 p.2 using aL with
  |none=>
   simp! only[Option.isSome_none];exact dm ha
  |some t=>
   have e2:∀H,subs H (.dct (aj told)) (encN p)=some (aX t.n t.d):=fun H=>by
    rw[show encN p=encM p.1 p.2 from rfl,wG (l:=aj told) rfl,nB,e];rfl
   simp! only[Option.isSome_some,e2,ng];exact dm ha) (by rw[eW];show 0+pw.length<=_;lia)
 rw[eJ,dh]at this;unfold rowOf;rw[d5];exact this
structure LI (js:List Nat) (m:List (List Int)) (H:Hp):Prop where
 wf:WF H
 l:aq H 0 (js.map V.ref)
 r:Rows H 0 1 js (m.map fun r=>r.map V.int)
theorem WY(L:LI js m H)(hm:m.length<=1000)(ha:a<=1)(hp:pw.length<=1000)(hb:∀g∈b,aW g)(cB:b.length<=1000)
  (ht:sE ⟨p.1+(1 - a),p.2+a,1,1⟩) (e:restOf (gr o) [⟨p.1+(1 - a),p.2+a,1,1⟩] b=some told) (hk:okIn pw told=true) {x6:Option V} {r:ai} :
  ∃qJ H',denSs (denS 19) uu (some (.int (.ofNat a))::some (.lst (pw.map encN))::some (.lst (ar b))::some (aK o)::some (.ref 0)::some (encN p)::x6::none::none::r) H =
   some (.next,some (.int (.ofNat a))::some (.lst (pw.map encN))::some (.lst (ar b))::some (aK o)::some (.ref 0)::some (encN p)::some (.dct (aj told))::none::none::r,H')/\LI qJ (m++[rowOf told pw]) H':=by
 exists ak (Ar e),b9,hlen;have dj:aW [⟨p.1+(1 - a),p.2+a,1,1⟩]:=⟨(by show 1<=1000;decide),(fun t m'=>by cases c9.mp m';exact ht),rR.mpr ⟨(fun⟨v,m',_⟩=>by cases m'),List.Pairwise.nil⟩⟩;have e1:∀{x1 x2 x3 x4:Option V} {r:ai},den 17 (.nj (.tup [(.bin .Sub (.bin .Add (.sub (.var 5) (.const (.int 0))) (.const (.int 1))) (.var 0)),(.bin .Add (.sub (.var 5) (.const (.int 1))) (.var 0))]) (.tup [(.const (.int 1)),(.const (.int 1))])) (some (.int (.ofNat a))::x1::x2::x3::x4::some (encN p)::r) H=some (.ref H.nxt,(newObj H (.dict (aj [⟨p.1+(1 - a),p.2+a,1,1⟩]))).2):=fun{_ _ _ _ _}=>Mn (n:=11) ha;have d1:dictAt (.ref H.nxt) (newObj H (.dict (aj [⟨p.1+(1 - a),p.2+a,1,1⟩]))).2=some (aj [⟨p.1+(1 - a),p.2+a,1,1⟩]):=by
  show(match look _ H.nxt with|some e=>(match e.obj with|.dict l=>some l|.list _=>none)|none=>none)=_
  rw[show look _ H.nxt=_ from(bS.c7 (H:=H) (l:=aj [⟨p.1+(1 - a),p.2+a,1,1⟩]))]
 have e2:=Uy d1 dj hb cB e;have w1:=L.wf.new (o:=.dict (aj [⟨p.1+(1 - a),p.2+a,1,1⟩]));have w2:=w1.new (o:=.list []);have w3:=w2.new (o:=.list []);have w4:=w3.new (o:=.list ((rowOf told pw).map V.int));have e3:=fun{x0 x2 x3 x4 x5 x7 x8:Option V} {r:ai}=>Wb (H:=(newObj H (.dict (aj [⟨p.1+(1 - a),p.2+a,1,1⟩]))).2) (n:=9) b9 (by lia) hp hk (x0:=x0) (x2:=x2) (x3:=x3) (x4:=x4) (x5:=x5) (x7:=x7) (x8:=x8) (r:=r);have k1:aq (newObj (newObj (newObj H (.dict (aj [⟨p.1+(1 - a),p.2+a,1,1⟩]))).2 (.list [])).2 (.list [])).2 (H.nxt+1) []:=(aq.c7 (H:=(newObj H (.dict (aj [⟨p.1+(1 - a),p.2+a,1,1⟩]))).2) (l:=[])).new w2;have k2:aq (newObj (newObj (newObj H (.dict (aj [⟨p.1+(1 - a),p.2+a,1,1⟩]))).2 (.list [])).2 (.list [])).2 (H.nxt+2) []:=aq.c7;have e4:=WA k1 k2;have e5:=fun{x0 x2 x3 x4 x5 x7 x8:Option V} {r:ai}=>KI (H:=(newObj (newObj (newObj H (.dict (aj [⟨p.1+(1 - a),p.2+a,1,1⟩]))).2 (.list [])).2 (.list [])).2) (n:=9) (told:=told) hp (x0:=x0) (x2:=x2) (x3:=x3) (x4:=x4) (x5:=x5) (x7:=x7) (x8:=x8) (r:=r);have l3:=((L.l.new L.wf (o:=.dict (aj [⟨p.1+(1 - a),p.2+a,1,1⟩]))).new w1 (o:=.list [])).new w2 (o:=.list []);have l4:=l3.new w3 (o:=.list ((rowOf told pw).map V.int));have e6:=lF (v:=.ref (H.nxt+3)) l4 (by rw[aJ,L.r.1,aJ];lia);have Xk:js.map V.ref++[.ref (H.nxt+3)]=(js++[H.nxt+3]).map V.ref:=by rw[gM];rfl
 rw[Xk]at e6;have R4:Rows (newObj (newObj (newObj (newObj H (.dict (aj [⟨p.1+(1 - a),p.2+a,1,1⟩]))).2 (.list [])).2 (.list [])).2 (.list ((rowOf told pw).map V.int))).2 0 1 js (m.map fun r=>r.map V.int):=L.r.keep fun i e h _=>fB w3 (fB w2 (fB w1 (fB L.wf h)));have j4:aq (newObj (newObj (newObj (newObj H (.dict (aj [⟨p.1+(1 - a),p.2+a,1,1⟩]))).2 (.list [])).2 (.list [])).2 (.list ((rowOf told pw).map V.int))).2 (H.nxt+3) ((rowOf told pw).map V.int):=aq.c7;have hR:Rows (setObj (newObj (newObj (newObj (newObj H (.dict (aj [⟨p.1+(1 - a),p.2+a,1,1⟩]))).2 (.list [])).2 (.list [])).2 (.list ((rowOf told pw).map V.int))).2 0 (.list ((js++[H.nxt+3]).map V.ref))) 0 1 (js++[H.nxt+3]) ((m++[rowOf told pw]).map fun r=>r.map V.int):=by
  rw[show(m++[rowOf told pw]).map (fun r=>r.map V.int)=m.map (fun r=>r.map V.int)++[(rowOf told pw).map V.int] by rw[gM];rfl];have R5:Rows (setObj (newObj (newObj (newObj (newObj H (.dict (aj [⟨p.1+(1 - a),p.2+a,1,1⟩]))).2 (.list [])).2 (.list [])).2 (.list ((rowOf told pw).map V.int))).2 0 (.list ((js++[H.nxt+3]).map V.ref))) 0 1 js (m.map fun r=>r.map V.int):=R4.keep fun i e h hi=>(eP hi).trans h;exact R5.snoc (j4.set (j:=0) (Ne.symm (Nat.zero_ne_add_one (H.nxt+2)))) (Nat.le_add_left 1 (H.nxt+2)) (Ne.symm (Nat.zero_ne_add_one (H.nxt+2)))
 refine⟨js++[H.nxt+3],_,?_,⟨w4.set,l4.g5,hR⟩⟩;unfold uu;have dA:∀{B:Type} {o:bq} {f:V->Hp->Option B} {H:Hp},ob (some (newObj H o)) f=f (.ref H.nxt) (newObj H o).2:=rfl;have n1:∀o,(newObj H o).2.nxt=H.nxt+1:=fun _=>rfl;have n2:∀o o',(newObj (newObj H o).2 o').2.nxt=H.nxt+2:=fun _ _=>rfl;have n3:∀o o' qW,(newObj (newObj (newObj H o).2 o').2 qW).2.nxt=H.nxt+3:=fun _ _ _=>rfl;refine aM.trans ?_;simp only[cf,cH,bk,bz,bo,bh,bg,bj,aG,e1,e2,aY,aZ,aS,bc];refine aM.trans ?_;simp only[Nat.reduceAdd]at e3 e5;simp only[hO,fv,e3,f7,bk,aG,dA,n1,n2,e4,fJ,fD,iR,gx,aS,bc];refine aM.trans ?_;simp only[jr,kI,bk,bz,bo,bh,bg,bj,aG,mZ l3,lp,e5,n3,e6,gx,aS,bc]
end
end
section
open PySem
section
variable {H:Hp}
theorem P2(ha:a<=1)(hp:pw.length<=1000)(hb:∀g∈b,aW g)(cB:b.length<=1000):∀(s:List Pr) (m res:List (List Int)) (js:List Nat) (H:Hp) (x5 x6:Option V),letG (gr o) (1 - a) a b pw s=some res->LI js m H->m.length+s.length<=1000->
  ∃Cc yO qJ H',loopF [5] false (denSs (denS 19) uu) (s.map encN) (some (.int (.ofNat a))::some (.lst (pw.map encN))::some (.lst (ar b))::some (aK o)::some (.ref 0)::x5::x6::none::none::r) H =
   some (.next,some (.int (.ofNat a))::some (.lst (pw.map encN))::some (.lst (ar b))::some (aK o)::some (.ref 0)::Cc::yO::none::none::r,H')/\LI qJ (m++res) H':=by
 intro s
 induction s with
 |nil=>
  intro m res js H x5 x6 e L _;exists e;exact⟨x5,x6,js,H,rfl,by rw[gc];exact L⟩
 |cons p s ih=>
  intro m res js H x5 x6 e L hl;have hl:m.length+(s.length+1)<=1000:=hl;exists kb1 e,ht,e
  ·have ht:=Hm ht;unfold letA at e;exists jY e,told,hr,e
   ·unfold Hx at e;split at e
    ·exact nq e
    ·rename_i hk;exists zV e,m',hm,e
     ·exists e;exists aU (WY (x6:=x6) (r:=r) L (by lia) ha hp hb cB ht hr hk),qJ,H',e1,L';obtain⟨Cc,yO,Zt,H2,e2,L2⟩:=ih (m++[rowOf told pw]) m' qJ H' (some (encN p)) (some (.dct (aj told))) hm L' (by rw[d8];show m.length+1+s.length<=_;lia);refine⟨Cc,yO,Zt,H2,?_,by rw[jA]at L2;exact L2⟩;rw[aO,fx];simp only[sF,lS,aY,aZ];rw[e1,aS,jL];exact e2
theorem Rk(ha:a<=1)(hp:pw.length<=500)(hb:∀g∈b,aW g)(cB:b.length<=1000)(e:letG (gr o) (1 - a) a b pw pw=some m) :
  ∃H',Cp [.int (.ofNat a),.lst (pw.map encN),.lst (ar b),aK o] ⟨0,[]⟩=some (encMat m,H'):=by
 have L0:LI [] [] ⟨1,[⟨0,false,.list []⟩]⟩:=⟨fun e m=>by cases c9.mp m;exact(by decide:0<1),rfl,rfl,(fun i j r a _=>by exact nq a),fun j m=>by cases m⟩;obtain⟨x5,x6,js,H',el,L⟩:=P2 (o:=o) ha (by lia) hb cB (r:=cu 14 none) pw [] m [] _ none none e L0 (by show 0+pw.length<=_;lia);rw[dh]at L;refine⟨⟨H'.nxt,dropNew 0 H'.es⟩,?_⟩;have it:∀H,iterOf H .seq [.lst (pw.map encN)]=some (pw.map encN):=fun _=>rfl;unfold Cp JZ;rw[aat];unfold uu at el;simp only[rep0,rep1]at el;rw[aM];simp only[cf,f7,bk,aG,jG,Nat.zero_add,rep0,rep1,aY,aZ,aS,bc];rw[aM];simp only[lB,bo,bk,bz,bh,bg,bj,aG,it,rF];rw[el];simp! only[mN];show some (freezeV H'.es 0 3 (.ref 0),(⟨H'.nxt,dropNew 0 H'.es⟩:Hp))=_;rw[iV L.l (cw _),wQ (f6 _) L.r fun r mr v mv=>by
  exists ae (cE.mp mr),q,Z0,mH;subst mH;exists ae (cE.mp mv),i,Z0,rU;subst rU;exact K3]
 unfold encMat;rw[d5];rfl
theorem Eh(ha:a<=1)(hp:pw.length<=500)(hb:∀g∈b,aW g)(cB:b.length<=1000)(e:letG (gr o) (1 - a) a b pw pw=some m) :
  kN [.int (.ofNat a),.lst (pw.map encN),.lst (ar b),aK o] H=some (encMat m,H):=by
 exists aD (Rk ha hp hb cB e),H',e;exact eV e (.cons (.int _) (.cons mR (.cons (.lst gk) (.cons fb .nil)))) tZ
end
end
section
open PySem
noncomputable def fy(k:Nat)(H H':Hp):Prop:=∀i e,look H.es i=some e->i≠k->look H'.es i=some e
noncomputable def ck(H H':Hp):Prop:=∀i e,look H.es i=some e->look H'.es i=some e
noncomputable def Vals{A:Type}(val:A->V->Hp->Prop)(s:List A)(vs:List V)(H:Hp):Prop:=s.length=vs.length/\∀(i:Nat) (a:A) (v:V),s[i]?=some a->vs[i]?=some v->val a v H
section
variable {A:Type} {f:V->Hp->Option Hp} {enc:A->V} {k n0:Nat}
theorem Jb(val:A->V->Hp->Prop)(kZ:∀a v H H',val a v H->fy k H H'->val a v H')(I:Hp->Prop)(hI:∀H H',I H->fy k H H'->I H') :
  ∀(s:List A) (acc:List V) (H:Hp),WF H->aq H k acc->I H->n0<=H.nxt->acc.length+s.length<=50000->
  (∀a∈s,∀H acc,WF H->aq H k acc->I H->n0<=H.nxt->∃v H1,f (enc a) H=jU k v H1/\WF H1/\H.nxt<=H1.nxt/\ck H H1/\val a v H1)->
  ∃vs H',forItems f (s.map enc) H=some H'/\WF H'/\H.nxt<=H'.nxt/\aq H' k (acc++vs)/\fy k H H'/\Vals val s vs H':=by
 intro s
 induction s with
 |nil=>
  intro acc H w lk _ _ _ _;exact⟨[],H,rfl,w,cw _,by rw[gc];exact lk,fun i e h _=>h,rfl,fun i a v h _=>by clear lk w hI kZ;cases h⟩
 |cons a s ih=>
  intro acc H w lk hi hn hl step;have hl:acc.length+(s.length+1)<=50000:=hl;exists gK (step a (.head _) H acc w lk hi hn),v,H1,e1,w1,n1,k1,v1;have cN:aq H1 k acc:=k1 _ _ lk;have e2:=uz (v:=v) cN (cT (by lia));have kj:fy k H (setObj H1 k (.list (acc++[v]))):=fun i e h q=>(eP q).trans (k1 i e h);have SR:fy k H1 (setObj H1 k (.list (acc++[v]))):=fun i e h q=>(eP q).trans h;clear k1 lk w;obtain⟨vs,H',a1,a2,a3,a4,a5,a6,a7⟩:=ih (acc++[v]) (setObj H1 k (.list (acc++[v]))) w1.set cN.g5 (hI _ _ hi kj) (bx hn n1) (by rw[d8];show acc.length+1+s.length<=_;lia) (fun b m=>step b (.tail _ m));refine⟨v::vs,H',?_,a2,bx n1 a3,by rw[jA]at a4;exact a4,fun i e h q=>a5 i e (kj i e h q) q,by rw[fS,fS,a6],fun i b u h1 h2=>?_⟩
  ·show(match f (enc a) H with
    |some H=>forItems f (s.map enc) H
    |none=>none)=_
   rw[e1,e2];exact a1
  ·clear a6 a4 a3 a2 a1 kj e2 cN n1 w1 e1 hl step hn hi ih hI;cases i with
   |zero=>
    exists h1;exists h2;exact kZ _ _ _ _ (kZ _ _ _ _ v1 SR) a5
   |succ i=>exact a7 i b u (by simpa using h1) (by simpa using h2)
theorem GD(h:Vals (fun a v _=>v=g a) s vs H):vs=s.map g:=by
 exists ak h,h1,h2
 try clear h
 exists List.ext_getElem?,i;rw[dP]
 induction hs:s[i]? using aL with
 |none=>
  have:vs.length<=i:=by rw[<- h1];exact List.getElem?_eq_none_iff.mp hs
  rw[List.getElem?_eq_none_iff.mpr this];rfl
 |some a=>
  have hi:i<vs.length:=by rw[<- h1];exact(fj.mp hs).1
  have hv:=List.getElem?_eq_getElem hi;rw[hv,h2 i a _ hs hv];rfl
noncomputable def kE(n0 k:Nat)(row:A->List V)(a:A)(v:V)(H:Hp):Prop:=∃j,v = .ref j/\n0<=j/\j≠k/\aq H j (row a)
theorem sC(h:kE n0 k row a v H)(hk:fy k H H'):kE n0 k row a v H':=let ⟨j,e,n,q,l⟩:=h;⟨j,e,n,q,hk _ _ l q⟩
theorem sY:∀{vs:List V} {H:Hp},Vals (kE n0 k row) s vs H->∃js:List Nat,vs=js.map V.ref/\Rows H k n0 js (s.map row):=by
 induction s with
 |nil=>
  intro vs H h;cases List.length_eq_zero_iff.mp h.1.symm;exact⟨[],rfl,rfl,fun i j r a _=>nq a,fun j m=>nomatch m⟩
 |cons a s ih=>
  intro vs H h
  induction vs using aN with
  |nil=>exact nomatch h.1
  |cons v vs=>
  exists ae (ih (vs:=vs) (H:=H) ⟨gG h.1,fun i b u h1 h2=>h.2 (i+1) b u (by simpa using h1) (by simpa using h2)⟩),js,e,R;exists dX (h.2 0 a v rfl rfl),j,ev,h1,h2,h3;clear h;subst ev e;refine⟨j::js,rfl,by rw[fS,aJ,fS,R.1,aJ],fun i j' r q1 q2=>?_,fun j' m=>?_⟩
  ·clear h2 h1;induction i using bL with
   |zero=>exists q1;exists q2;exact h3
   |succ i=>exact R.2.1 i j' r (by simpa using q1) (by simpa using q2)
  ·clear h3;rcases aH.mp m with rfl|m
   ·exact⟨h1,h2⟩
   ·exact R.2.2 j' m
end
section
variable {H:Hp}
theorem ck.new(w:WF H):ck H (newObj H o).2:=fun i e h=>fB w h
theorem ck.trans(a:ck H H')(b:ck H' eo):ck H eo:=fun i e h=>b i e (a i e h)
theorem ck.ne(a:ck H H'):fy k H H':=fun i e h _=>a i e h
theorem td(h:j<n){es:List Ent}:look (dropNew n es) j=look es j:=by
 induction es with
 |nil=>rfl
 |cons e0 r ih=>
  obtain⟨i,l,o⟩:=e0;unfold dropNew;dsimp only;split
  ·rename_i hb;have:=bC hb;rw[dg (Nat.ne_of_gt (Nat.lt_of_lt_of_le h this))];exact ih
  ·by_cases e:i=j
   ·clear h ih;subst e;rw[hV,hV]
   ·rw[dg e,dg e];exact ih
theorem r9{A:Type}{f:V->Hp->Option Hp}{enc:A->V}{vs0:List V}(val:A->V->Hp->Prop)(kZ:∀a v H' eo,val a v H'->fy H.nxt H' eo->val a v eo)(I:Hp->Prop)(hI:∀H' eo,I H'->fy H.nxt H' eo->I eo)(w:WF H)(hi:I (newObj H (.list [])).2)(s:List A)(hl:s.length<=50000)
  (RR:∀H',fy H.nxt (newObj H (.list [])).2 H'->lockH (newObj H (.list [])).2 vs0=(newObj H (.list [])).2/\(⟨H'.nxt,eD (newObj H (.list [])).2.es H'.es vs0⟩:Hp)=H')
  (step:∀a∈s,∀H' acc,WF H'->aq H' H.nxt acc->I H'->H.nxt+1<=H'.nxt->∃v H1,f (enc a) H'=jU H.nxt v H1/\WF H1/\H'.nxt<=H1.nxt/\ck H' H1/\val a v H1) :
  ∃vs H',compGo H.nxt f (s.map enc) vs0 (newObj H (.list [])).2=some (.ref H.nxt,H')/\WF H'/\H.nxt+1<=H'.nxt/\aq H' H.nxt vs/\ck H H'/\Vals val s vs H':=by
 obtain⟨vs,H',a1,a2,a3,a4,a5,a6⟩:=Jb (k:=H.nxt) (n0:=H.nxt+1) (enc:=enc) (f:=f) val kZ I hI s [] (newObj H (.list [])).2 w.new aq.c7 hi (cw _) (by show 0+s.length<=_;lia) step;refine⟨vs,H',?_,a2,a3,a4,fun i e h=>a5 i e (fB w h) (fun q=>by have:=cO w h;lia),a6⟩;exists ak (RR H' a5),h1,h2;show dw H.nxt (unlH (newObj H (.list [])).2.es vs0 (forItems f (s.map enc) (lockH (newObj H (.list [])).2 vs0)))=_;rw[h1,a1];show dw H.nxt (some ⟨H'.nxt,eD (newObj H (.list [])).2.es H'.es vs0⟩)=_;rw[h2,rS]
end
end
section
open PySem
noncomputable def bndZ(x:Int):Bool:=b8 x.natAbs 1000000000
theorem gi(h:bndZ x=true):x.natAbs<=1000000000:=bC h
theorem LS(h:bndZ x=true):inB (-1000000000) 1000000000 x=true:=by
 have:=gi h;unfold inB;have h1:ilt x (-1000000000)=false:=by
  rw[ilt_eq];simp;lia
 have h2:ilt 1000000000 x=false:=by
  rw[ilt_eq];simp;lia
 rw[h1,h2]
noncomputable def sumZ:List Int->Int
 |[]=>0
 |x::r=>x+sumZ r
theorem OA:(∀x∈l,bndZ x=true)->sumI (l.map V.int)=some (sumZ l):=by
 induction l with
 |nil=>
  intro _;exact rfl
 |cons x r ih=>
  intro h;show(match inB (-1000000000) 1000000000 x with
   |true=>match sumI (r.map V.int)with
    |some s=>some (x+s)
    |none=>none
   |false=>none)=_
  rw[LS (h x (.head _)),ih fun y m=>h y (.tail _ m)];rfl
noncomputable def dN:Nat->List Int->List (Nat×Int)
 |_,[]=>[]
 |i,x::r=>(i,x)::dN (i+1) r
def qR(a:Nat×Int):V:=.tup [az a.1,.int a.2]
theorem GU(r:List Int):∀(i:Nat),enumL (Int.ofNat i) (r.map V.int)=(dN i r).map qR:=by
 induction r with
 |nil=>
  intro _;exact rfl
 |cons p r ih=>
  intro i;show V.tup [az i,.int p]::enumL (Int.ofNat (i+1)) (r.map V.int)=_;rw[ih (i+1)];rfl
theorem vG(r:List Int):∀(i:Nat),(dN i r).length=r.length:=by
 induction r with
 |nil=>
  intro _;exact rfl
 |cons p r ih=>
  intro i;show(dN (i+1) r).length+1=_;rw[ih];rfl
noncomputable def gH(b:List (List Int))(col:Nat)(a:Nat×Int):Int:=match b[a.1]? with
 |some row=>match row[col]? with
  |some y=>a.2 * y
  |none=>0
 |none=>0
def tO(b:List (List Int))(col:Nat)(a:Nat×Int):Bool:=match b[a.1]? with
 |some row=>match row[col]? with
  |some y=>match bndZ a.2 with
   |true=>match bndZ y with
    |true=>bndZ (a.2 * y)
    |false=>false
   |false=>false
  |none=>false
 |none=>false
noncomputable def allB{A:Type}(f:A->Bool):List A->Bool
 |[]=>true
 |a::r=>match f a with
  |true=>allB f r
  |false=>false
theorem dr{A:Type}{f:A->Bool}{l:List A}:allB f l=true->∀a∈l,f a=true:=by
 induction l with
 |nil=>
  intro _ _ m;cases m
 |cons x r ih=>
  intro h a m;exists kb2 h,h1,h
  ·rcases aH.mp m with rfl|m
   ·exact h1
   ·exact ih h a m
def vV(b:List (List Int))(r:List Int):List Int:=(eE 0 b.length).map fun col=>sumZ ((dN 0 r).map (gH b col))
def rowOk(b:List (List Int))(r:List Int):Bool:=match b8 r.length 500 with
 |true=>allB (fun col=>allB (tO b col) (dN 0 r)) (eE 0 b.length)
 |false=>false
def timesS(a b:List (List Int)):Option (List (List Int)):=match b8 b.length 500 with
 |true=>match b8 a.length 500 with
  |true=>match allB (rowOk b) a with
   |true=>some (a.map (vV b))
   |false=>none
  |false=>none
 |false=>none
section
variable {H:Hp}
theorem Iu(hb:b.length<=1000)(h:b[i]?=some row):subs H (encMat b) (az i)=some (cj row):=fQ (l:=b.map cj) (by rw[aJ];lia) (by rw[dP,h];rfl)
theorem GV(hb:row.length<=1000)(h:row[i]?=some y):subs H (cj row) (az i)=some (.int y):=fQ (l:=row.map V.int) (by rw[aJ];lia) (by rw[dP,h];rfl)
set_option tactic.hygienic true in
theorem ZE(hb:b.length<=500)(hr:r.length<=500)(gu:∀row∈b,row.length<=1000)(h:allB (tO b col) (dN 0 r)=true) :
  den (n+9) (.bi .sum [(.lcomp [6,7,8] (.bin .Mult (.var 8) (.sub (.sub (.var 1) (.var 7)) (.var 5))) [([7,8],true,.enum,[(.var 3)],[])])]) (x0::some (encMat b)::x2::some (cj r)::x4::some (az col)::x6::x7::x8::ρ) H =
   some (.int (sumZ ((dN 0 r).map (gH b col))),(newObj H (.list (((dN 0 r).map (gH b col)).map V.int))).2):=by
 obtain⟨nx,es⟩:=H;have it:∀H,iterOf H .enum [cj r]=some (enumL (Int.ofNat 0) (r.map V.int)):=fun _=>rfl;have cY:=dr h;have this:=dF (k:=nx) (n:=nx+1) (es:=es) (enc:=qR) (f:=turn (den (n+7)) [7,8] true [] (cp nx (.bin .Mult (.var 8) (.sub (.sub (.var 1) (.var 7)) (.var 5))) (den (n+7))) (x0::some (encMat b)::x2::some (cj r)::x4::some (az col)::none::none::none::ρ)) (fun a=>[V.int (gH b col a)]) (dN 0 r) [] (fun a m acc ha=>by
  have hk:=cY a m;unfold tO at hk;unfold gH;split at hk
  ·rename_i row h1;split at hk
   ·rename_i y h2;split at hk
    ·rename_i h3;split at hk
     ·rename_i h4;have e1:∀H,subs H (encMat b) (az a.1)=some (cj row):=fun H=>Iu (by lia) h1;have e2:∀H,subs H (cj row) (az col)=some (V.int y):=fun H=>GV (gu row (ee h1)) h2;have e3:∀H,binOp .Mult (V.int a.2) (V.int y) H=some (V.int (a.2 * y),H):=fun H=>fg (bx (gi h3) dq) (bx (gi h4) dq);unfold qR;simp! only[e1,e2,e3];exact dm ha
     ·exact bf hk
    ·exact bf hk
   ·exact bf hk
  ·exact bf hk) (by rw[eW,vG];show 0+_<=_;lia)
 rw[eJ,dh,<- GU]at this;simp! only[it];have key:=iX (c:=r.map V.int) this;rw[show V.lst (r.map V.int)=cj r from rfl]at key;rw[key];simp! only[];show(match seqView _ (V.ref nx)with
  |some l=>guard' (b8 l.length 1000) (retI (sumI l) _)
  |none=>none)=_
 rw[show seqView ⟨nx+1,⟨nx,false,.list ((dN 0 r).map fun a=>V.int (gH b col a))⟩::es⟩ (.ref nx)=some ((dN 0 r).map fun a=>V.int (gH b col a))from aq.view aq.hd];dsimp only;rw[aJ,vG,fq (show r.length<=1000 by lia)];have hm:((dN 0 r).map fun a=>V.int (gH b col a))=((dN 0 r).map (gH b col)).map V.int:=by rw[d5];rfl
 rw[hm,OA fun x mx=>?_]
 ·rfl
 ·exists ae (cE.mp mx),a,ma,zd;subst zd;have hk:=cY a ma;unfold tO at hk;unfold gH;split at hk
  ·rename_i row h1;split at hk
   ·rename_i y h2;split at hk
    ·split at hk
     ·exact hk
     ·exact bf hk
    ·exact bf hk
   ·exact bf hk
  ·exact bf hk
end
end
section
open PySem
section
variable {H:Hp}
theorem Z2(w:WF H)(hb:b.length<=500)(gu:∀row∈b,row.length<=1000)(h:rowOk b r=true) :
  ∃H',den (n+11) (.lcomp [4,5] (.bi .sum [(.lcomp [6,7,8] (.bin .Mult (.var 8) (.sub (.sub (.var 1) (.var 7)) (.var 5))) [([7,8],true,.enum,[(.var 3)],[])])]) [([5],false,.range1,[(.bi .len [(.var 1)])],[])]) (x0::some (encMat b)::x2::some (cj r)::x4::x5::x6::x7::x8::ρ) H=some (.ref H.nxt,H')/\
   WF H'/\H.nxt+1<=H'.nxt/\aq H' H.nxt ((vV b r).map V.int)/\ck H H':=by
 exists kb2 h,hr,h;have hr:=bC hr;have cY:=dr h;have e1:cz .len [encMat b] H=some (V.int (.ofNat b.length),H):=by
  have:=mA (H:=H) (l:=b.map cj) (by rw[aJ];lia);rw[aJ]at this;exact this
 clear h;obtain⟨vs,H',a1,a2,a3,a4,a5,a6⟩:=r9 (H:=H) (enc:=az) (vs0:=[V.int (.ofNat b.length)]) (f:=turn (den (n+10)) [5] false [] (cp H.nxt (.bi .sum [(.lcomp [6,7,8] (.bin .Mult (.var 8) (.sub (.sub (.var 1) (.var 7)) (.var 5))) [([7,8],true,.enum,[(.var 3)],[])])]) (den (n+10))) (x0::some (encMat b)::x2::some (cj r)::none::none::x6::x7::x8::ρ))
  (fun col v _=>v = .int (sumZ ((dN 0 r).map (gH b col)))) (fun _ _ _ _ h _=>h) (fun _=>True) (fun _ _ _ _=>trivial) w trivial (eE 0 b.length) (by rw[kn];lia) (fun _ _=>⟨rfl,rfl⟩) (fun col mc H1 acc w1 lk _ hn=>by
   have e2:=ZE (H:=H1) (n:=n+1) (b:=b) (r:=r) (col:=col) hb hr gu (cY col mc) (x0:=x0) (x2:=x2) (x4:=none) (x6:=x6) (x7:=x7) (x8:=x8) (ρ:=ρ);refine⟨_,(newObj H1 (.list (((dN 0 r).map (gH b col)).map V.int))).2,?_,w1.new,eU _,ck.new w1,rfl⟩;simp only[mD,aY,aZ,dI,jD];rw[show n+1+9=n+10 from rfl]at e2;rw[e2,aG])
 have hv:=GD (g:=fun col=>V.int (sumZ ((dN 0 r).map (gH b col)))) a6;refine⟨H',?_,a2,a3,?_,a5⟩
 ·simp only[gf,jH,bo,bk,bz,bh,bg,bj,aG,e1,rI (show b.length<=1000 by lia),gn,gv,aY,aZ,dI];exact a1
 ·rw[hv]at a4;unfold vV;rw[d5];exact a4
theorem Ks(gu:∀row∈b,row.length<=1000)(e:timesS a b=some m):pj [encMat a,encMat b] H=some (encMat m,H):=by
 exists cm e,hb,e;have hb:=bC hb;exists cm e,uf,e;have uf:=bC uf;exists cm e,cY,e;have cY:=dr cY;exists e;have w0:WF ⟨0,[]⟩:=fun _ m=>by clear cY uf hb gu;cases m
 obtain⟨vs,H',a1,a2,a3,a4,a5,a6⟩:=r9 (H:=⟨0,[]⟩) (enc:=cj) (vs0:=[encMat a]) (f:=turn (den 18) [3] false [] (cp 0 (.lcomp [4,5] (.bi .sum [(.lcomp [6,7,8] (.bin .Mult (.var 8) (.sub (.sub (.var 1) (.var 7)) (.var 5))) [([7,8],true,.enum,[(.var 3)],[])])]) [([5],false,.range1,[(.bi .len [(.var 1)])],[])]) (den 18)) (some (encMat a)::some (encMat b)::none::none::cu 12 none))
  (kE 1 0 fun r=>(vV b r).map V.int) (fun _ _ _ _ h k=>sC h k) (fun _=>True) (fun _ _ _ _=>trivial) w0 trivial a (by lia) (fun _ _=>⟨rfl,rfl⟩) (fun r mr H1 acc w1 lk _ hn=>by
   exists nF (Z2 (H:=H1) (n:=7) (b:=b) (r:=r) w1 hb gu (cY r mr) (x0:=some (encMat a)) (x2:=none) (x4:=none) (x5:=none) (x6:=none) (x7:=none) (x8:=none) (ρ:=cu 7 none)),H2,b1,b2,b3,b4,b5;have hn:1<=H1.nxt:=hn;refine⟨.ref H1.nxt,H2,?_,b2,by exact fo b3,b5,H1.nxt,rfl,hn,by show H1.nxt≠0;lia,b4⟩;simp only[mD,aY,aZ,dI,jD];simp only[rep0,rep1,Nat.reduceAdd]at b1 ⊢;rw[b1,aG])
 exists ae (sY a6),js,e1,R;clear a6 a5 a3 a2 w0 cY uf hb gu;subst e1;refine eV (H':=⟨H'.nxt,dropNew 0 H'.es⟩) ?_ (.cons tZ (.cons tZ .nil)) tZ;have it:∀H,iterOf H .seq [encMat a]=some (a.map cj):=fun _=>rfl;unfold K5 Gw;rw[dC];simp only[dI,rep0,rep1]at a1;rw[aM];simp only[j8,gf,bo,bk,bz,bh,bg,bj,aG,it,gn,gv,aY,aZ,dI,rep0,rep1];rw[a1];simp! only[];show some (freezeV H'.es 0 3 (.ref 0),(⟨H'.nxt,dropNew 0 H'.es⟩:Hp))=_;rw[iV a4 (cw _),wQ (f6 _) R fun r mr v mv=>by
  exists ae (cE.mp mr),q,Z0,mH;clear mr it a4 R a1;subst mH;exists ae (cE.mp mv),i,Z0,rU;clear mv;subst rU;exact K3]
 unfold encMat;rw[d5,d5];rfl
end
end
section
open PySem
def z1(n:Int):V:=aX n 1
def bR(r:List Int):V:=.lst (r.map z1)
def bK(m:List (List Int)):V:=.lst (m.map bR)
theorem WQ{r:List Int}:NRs (r.map z1):=by
 induction r with
 |nil=>
  exact .nil
 |cons _ _ ih=>
  exact .cons fU ih
theorem Be:NR (bR r):=.lst WQ
theorem LG{m:List (List Int)}:NRs (m.map bR):=by
 induction m with
 |nil=>
  exact .nil
 |cons _ _ ih=>
  exact .cons Be ih
theorem i4:NR (bK m):=.lst LG
theorem still_z1:Still (z1 n):=fun es n0 k=>by
 induction k using bL with
 |zero=>rfl
 |succ k=>induction k using bL <;> rfl
theorem rL(h:bndZ n=true):cM n 1:=⟨gi h,Nat.one_pos,by decide⟩
def nz:Int->List Int->List Int->Option Int
 |acc,[],_=>some acc
 |_,_::_,[]=>none
 |acc,a::r,b::s=>match bndZ a with
  |true=>match bndZ b with
   |true=>match bndZ (a * b)with
    |true=>match bndZ acc with
     |true=>nz (acc+a * b) r s
     |false=>none
    |false=>none
   |false=>none
  |false=>none
section
variable {H:Hp}
theorem EN(ha:bndZ a=true)(hb:bndZ b=true):jd [z1 a,z1 b] H=some (z1 (a * b),H):=CK (rL ha) (rL hb)
theorem Ac(ha:bndZ a=true)(hb:bndZ b=true):ig [z1 a,z1 b] H=some (z1 (a+b),H):=Hw (rL ha) (rL hb)
def ue:List MS:=[(.assign 2 (.call ig [(.var 2),(.call jd [(.var 4),(.sub (.var 1) (.var 3))])]))]
theorem NJ(hc:col.length<=1000):∀(row s:List Int) (i:Nat) (acc res:Int) (o3 o4:Option V),col.drop i=s->nz acc row s=some res->
  ∃zM ki,loopF [3,4] true (denSs (denS 19) ue) (enumL (Int.ofNat i) (row.map z1)) (x0::some (bR col)::some (z1 acc)::o3::o4::ρ) H=some (.next,x0::some (bR col)::some (z1 res)::zM::ki::ρ,H):=by
 intro row
 induction row with
 |nil=>intro s i acc res o3 o4 _ e;exists e;exact⟨o3,o4,rfl⟩
 |cons a r ih=>
  intro s i acc res o3 o4 hs e
  induction s using aN with
  |nil=>exact nq e
  |cons b s=>
   exists cm e,h1,e;exists cm e,h2,e;exists cm e,h3,e;exists cm e,h4,e;exists dK (BJ hs),g1,g2,g3;exists de (ih s (i+1) (acc+a * b) res (some (az i)) (some (z1 a)) g2 e),zM,ki,e1;have e2:∀H,subs H (bR col) (az i)=some (z1 b):=fun H=>fQ (l:=col.map z1) (by rw[aJ];lia) (by rw[dP,g1];rfl);refine⟨zM,ki,?_⟩;rw[aO];show loopF _ _ _ (V.tup [az i,z1 a]::enumL (Int.ofNat (i+1)) (r.map z1)) _ _=_;rw[fx];unfold ue;unfold ue at e1;simp! only[e2,EN h1 h2,Ac h4 h3];exact e1
theorem OW{row col:List Int}{res:Int}(hc:col.length<=1000)(e:nz 0 row col=some res):BY [bR row,bR col] ⟨0,[]⟩=some (z1 res,⟨0,[]⟩):=by
 exists de (NJ (H:=⟨0,[]⟩) hc (x0:=some (bR row)) (ρ:=cu 14 none) row col 0 0 res none none rfl e),o3,o4,el;have it:∀H,iterOf H .enum [bR row]=some (enumL (Int.ofNat 0) (row.map z1)):=fun _=>rfl;have lk:∀H,lockH H [bR row]=H:=fun _=>rfl;have su:∀es f ρ H,sunl es [bR row] (some (f,ρ,H))=some (f,ρ,H):=fun _ _ _ _=>rfl;unfold BY Jk;rw[dC];unfold ue at el;simp only[rep0,rep1]at el;rw[show z1 0=V.tup [.int 0,.int 1]from rfl]at el;simp! only[it,lk];rw[el];simp! only[su];rfl
theorem Xp{rv:V}{row col:List Int}{res:Int}(hv:frz H rv=bR row)(hc:col.length<=1000)(e:nz 0 row col=some res):nZ [rv,bR col] H=some (z1 res,H):=
 dZ (args:=[rv,bR col]) (by rw[aO,aO,hv];exact OW hc e) (by rw[aO,aO,hv];exact .cons Be (.cons Be .nil)) lH
theorem T2:Cb [bK [[a,b],[c,d]]] ⟨0,[]⟩=some (bK [[a,c],[b,d]],⟨3,[]⟩):=by kernel_rfl
theorem T3:Cb [bK [[a,b,c],[d,e,f],[g,h,i]]] ⟨0,[]⟩=some (bK [[a,d,g],[b,e,h],[c,f,i]],⟨4,[]⟩):=by kernel_rfl
theorem U2:CL [.int 2] ⟨0,[]⟩=some (bK [[1,0],[0,1]],⟨3,[]⟩):=by kernel_rfl
theorem U3:CL [.int 3] ⟨0,[]⟩=some (bK [[1,0,0],[0,1,0],[0,0,1]],⟨4,[]⟩):=by kernel_rfl
end
end
section
open PySem
def rl(m:List (List Int)):Bool:=match b8 m.length 500 with
 |true=>allB (fun r=>match b8 r.length 500 with
  |true=>allB bndZ r
  |false=>false) m
 |false=>false
theorem BB(h:rl m=true):m.length<=500/\∀r∈m,r.length<=500/\∀x∈r,bndZ x=true:=by
 exists kb2 h,h1,h
 ·refine⟨bC h1,fun r m=>?_⟩;have:=dr h r m;exists kb2 this,h2,this
  ·exact⟨bC h2,dr this⟩
section
variable {H:Hp}
theorem AN(lk:aq H' k (js.map V.ref))(hk:n0<=k)(R:Rows H' k (k+1) js (m.map fun r=>r.map z1)):freezeV H'.es n0 3 (.ref k)=bK m:=by
 rw[iV lk hk,wQ (Nat.le_succ_of_le hk) R fun r mr v mv=>by
  exists ae (cE.mp mr),q,Z0,mS;subst mS;exists ae (cE.mp mv),i,Z0,ye;subst ye;exact still_z1]
 unfold bK;rw[d5];rfl
theorem N3(hr:r.length<=500)(hb:∀x∈r,bndZ x=true)(hq:bndZ q=true) :
  den (n+8) (.lcomp [4,5] (.call jd [(.var 5),(.var 1)]) [([5],false,.seq,[(.var 3)],[])]) (x0::some (z1 q)::x2::some (bR r)::x4::x5::ρ) H=some (.ref H.nxt,(newObj H (.list ((r.map fun x=>x * q).map z1))).2):=by
 obtain⟨nx,es⟩:=H;have it:∀H,iterOf H .seq [bR r]=some (r.map z1):=fun _=>rfl;have this:=dF (k:=nx) (n:=nx+1) (es:=es) (enc:=z1) (f:=turn (den (n+7)) [5] false [] (cp nx (.call jd [(.var 5),(.var 1)]) (den (n+7))) (x0::some (z1 q)::x2::some (bR r)::none::none::ρ)) (fun x=>[z1 (x * q)]) r [] (fun x m acc ha=>by
  simp! only[EN (hb x m) hq];exact dm ha) (by rw[eW];show 0+_<=_;lia)
 rw[eJ,dh]at this;have key:=iX (c:=r.map z1) this;rw[show V.lst (r.map z1)=bR r from rfl]at key;simp! only[it];rw[key,d5];rfl
noncomputable def uO(m:List (List Int))(q:Int):List (List Int):=m.map fun r=>r.map fun x=>x * q
theorem O3(hm:rl m=true)(hq:bndZ q=true):uV [bK m,z1 q] H=some (bK (uO m q),H):=by
 exists ak (BB hm),hl,hr;have w0:WF ⟨0,[]⟩:=fun _ m=>by cases m
 obtain⟨vs,H',a1,a2,a3,a4,a5,a6⟩:=r9 (H:=⟨0,[]⟩) (enc:=bR) (vs0:=[bK m]) (f:=turn (den 18) [3] false [] (cp 0 (.lcomp [4,5] (.call jd [(.var 5),(.var 1)]) [([5],false,.seq,[(.var 3)],[])]) (den 18)) (some (bK m)::some (z1 q)::none::none::cu 12 none))
  (kE 1 0 fun r=>(r.map fun x=>x * q).map z1) (fun _ _ _ _ h k=>sC h k) (fun _=>True) (fun _ _ _ _=>trivial) w0 trivial m (by lia) (fun _ _=>⟨rfl,rfl⟩) (fun r mr H1 acc w1 lk _ hn=>by
   have b1:=N3 (H:=H1) (n:=10) (r:=r) (q:=q) (hr r mr).1 (hr r mr).2 hq (x0:=some (bK m)) (x2:=none) (x4:=none) (x5:=none) (ρ:=cu 10 none);have hn:1<=H1.nxt:=hn;refine⟨.ref H1.nxt,_,?_,w1.new,eU _,ck.new w1,H1.nxt,rfl,hn,by show H1.nxt≠0;lia,aq.c7⟩;simp only[mD,aY,aZ,dI,jD];simp only[rep0,rep1,Nat.reduceAdd]at b1 ⊢;rw[b1,aG])
 exists ae (sY a6),js,e1,R;subst e1;refine eV (H':=⟨H'.nxt,dropNew 0 H'.es⟩) ?_ (.cons i4 (.cons fU .nil)) i4;have it:∀H,iterOf H .seq [bK m]=some (m.map bR):=fun _=>rfl;unfold E8 Jz;rw[dC];simp only[dI,rep0,rep1]at a1;rw[aM];simp only[j8,gf,bo,bk,bz,bh,bg,bj,aG,it,gn,gv,aY,aZ,dI,rep0,rep1];rw[a1];simp! only[];show some (freezeV H'.es 0 3 (.ref 0),(⟨H'.nxt,dropNew 0 H'.es⟩:Hp))=_;have R':Rows H' 0 1 js ((uO m q).map fun r=>r.map z1):=by unfold uO;rw[d5];exact R
 rw[AN a4 (cw _) R']
noncomputable def xV(row:List Int)(a:Nat×Int):Int:=match row[a.1]? with
 |some y=>a.2+y
 |none=>0
def IA(row:List Int)(a:Nat×Int):Bool:=match row[a.1]? with
 |some y=>match bndZ a.2 with
  |true=>bndZ y
  |false=>false
 |none=>false
def Bw(a:Nat×Int):V:=.tup [az a.1,z1 a.2]
theorem ZR(r:List Int):∀(i:Nat),enumL (Int.ofNat i) (r.map z1)=(dN i r).map Bw:=by
 induction r with
 |nil=>
  intro _;exact rfl
 |cons p r ih=>
  intro i;show V.tup [az i,z1 p]::enumL (Int.ofNat (i+1)) (r.map z1)=_;rw[ih (i+1)];rfl
noncomputable def enumM:Nat->List (List Int)->List (Nat×List Int)
 |_,[]=>[]
 |i,x::r=>(i,x)::enumM (i+1) r
def Cd(a:Nat×List Int):V:=.tup [az a.1,bR a.2]
theorem V1(r:List (List Int)):∀(i:Nat),enumL (Int.ofNat i) (r.map bR)=(enumM i r).map Cd:=by
 induction r with
 |nil=>
  intro _;exact rfl
 |cons p r ih=>
  intro i;show V.tup [az i,bR p]::enumL (Int.ofNat (i+1)) (r.map bR)=_;rw[ih (i+1)];rfl
theorem FZ(r:List (List Int)):∀(i:Nat),(enumM i r).length=r.length:=by
 induction r with
 |nil=>
  intro _;exact rfl
 |cons p r ih=>
  intro i;show(enumM (i+1) r).length+1=_;rw[ih];rfl
def r7(b:List (List Int))(a:Nat×List Int):List Int:=match b[a.1]? with
 |some row=>(dN 0 a.2).map (xV row)
 |none=>[]
def addRowOk(b:List (List Int))(a:Nat×List Int):Bool:=match b[a.1]? with
 |some row=>match b8 a.2.length 500 with
  |true=>match b8 row.length 500 with
   |true=>allB (IA row) (dN 0 a.2)
   |false=>false
  |false=>false
 |none=>false
set_option tactic.hygienic true in
theorem VY(hb:b.length<=500)(h:addRowOk b (i,r)=true) :
  den (n+9) (.lcomp [5,6,7] (.call ig [(.var 7),(.sub (.sub (.var 1) (.var 3)) (.var 6))]) [([6,7],true,.enum,[(.var 4)],[])]) (x0::some (bK b)::x2::some (az i)::some (bR r)::x5::x6::x7::ρ) H=some (.ref H.nxt,(newObj H (.list ((r7 b (i,r)).map z1))).2):=by
 unfold addRowOk at h;unfold r7;dsimp only at h ⊢;split at h
 rotate_left
 ·exact bf h
 rename_i row gu;split at h
 rotate_left
 ·exact bf h
 rename_i h1;split at h
 rotate_left
 ·exact bf h
 rename_i h2;have h1:=bC h1;have h2:=bC h2;have cY:=dr h;obtain⟨nx,es⟩:=H;have it:∀H,iterOf H .enum [bR r]=some (enumL (Int.ofNat 0) (r.map z1)):=fun _=>rfl;have e1:∀H,subs H (bK b) (az i)=some (bR row):=fun H=>fQ (l:=b.map bR) (by rw[aJ];lia) (by rw[dP,gu];rfl);have this:=dF (k:=nx) (n:=nx+1) (es:=es) (enc:=Bw) (f:=turn (den (n+8)) [6,7] true [] (cp nx (.call ig [(.var 7),(.sub (.sub (.var 1) (.var 3)) (.var 6))]) (den (n+8))) (x0::some (bK b)::x2::some (az i)::some (bR r)::none::none::none::ρ)) (fun a=>[z1 (xV row a)]) (dN 0 r) [] (fun a m acc ha=>by
  have hk:=cY a m;unfold IA at hk;unfold xV;split at hk
  rotate_left
  ·exact bf hk
  rename_i y hy;split at hk
  rotate_left
  ·exact bf hk
  rename_i h3;have e2:∀H,subs H (bR row) (az a.1)=some (z1 y):=fun H=>fQ (l:=row.map z1) (by rw[aJ];lia) (by rw[dP,hy];rfl);unfold Bw;simp! only[e1,e2,Ac h3 hk];exact dm ha) (by rw[eW,vG];show 0+_<=_;lia)
 rw[eJ,dh,<- ZR]at this;have key:=iX (c:=r.map z1) this;rw[show V.lst (r.map z1)=bR r from rfl]at key;simp! only[it];rw[key,d5];rfl
def CN(a b:List (List Int)):Option (List (List Int)):=match b8 a.length 500 with
 |true=>match aF a.length b.length with
  |true=>match allB (addRowOk b) (enumM 0 a)with
   |true=>match a with
    |[]=>none
    |r::_=>match b with
     |[]=>none
     |s::_=>match aF r.length s.length with
      |true=>some ((enumM 0 a).map (r7 b))
      |false=>none
   |false=>none
  |false=>none
 |false=>none
theorem ym(hm:m.length<=500)(hr:r.length<=500)(w:WF H):j0 [bK (r::m)] H=some (.tup [az (m.length+1),az r.length],H):=by
 have e1:∀H,cz .len [bK (r::m)] H=some (V.int (.ofNat (m.length+1)),H):=fun H=>by
  have:=mA (H:=H) (l:=(r::m).map bR) (by rw[aJ];show m.length+1<=_;lia);rw[aJ]at this;exact this
 have e2:∀H,cz .len [bR r] H=some (V.int (.ofNat r.length),H):=fun H=>by
  have:=mA (H:=H) (l:=r.map z1) (by rw[aJ];lia);rw[aJ]at this;exact this
 have e3:∀H,subs H (bK (r::m)) (V.int 0)=some (bR r):=fun H=>fQ (i:=0) (l:=(r::m).map bR) (by rw[aJ];show m.length+1<=_;lia) rfl;unfold j0 yv An;rw[iB];simp! only[e1,lM,lg (Nat.succ_pos m.length),e2,e3];show some (V.tup [az (m.length+1),az r.length],(⟨H.nxt,dropNew H.nxt H.es⟩:Hp))=_;rw[Cs w]
theorem vQ:pV [.bool true,.str t] H=some (.none,H):=by
 refine dZ (args:=[.bool true,.str t]) (H':=⟨0,[]⟩) ?_ (.cons (.bool _) (.cons (.str _) .nil)) .none;rfl
theorem KA:bu .Eq (.tup [az a,az b]) (.tup [az a,az b]) H=some true:=by
 show some (match aF a a with
  |true=>(match aF b b with
   |true=>true
   |false=>false)
  |false=>false)=_
 rw[ew,ew]
theorem Q8(e:CN a b=some m):vK [bK a,bK b] H=some (bK m,H):=by
 unfold CN at e;exists cm e,ha,e;have ha:=bC ha;exists cm e,gJ,e;have gJ:=cU gJ;exists cm e,cY,e;have cY:=dr cY;rcases a with _|⟨r,a'⟩
 ·exact nq e
 rcases b with _|⟨s,b'⟩
 ·exact nq e
 dsimp only at e;exists cm e,vp,e;have vp:=cU vp;exists e;have dD:b'.length=a'.length:=by have gJ:a'.length+1=b'.length+1:=gJ;lia
 have fE:a'.length+1<=500:=ha;have Eg:r.length<=500:=by
  have:=cY (0,r) (.head _);unfold addRowOk at this;dsimp only at this;split at this
  ·split at this
   ·rename_i h;exact bC h
   ·exact bf this
  ·exact bf this
 have w0:WF ⟨0,[]⟩:=fun _ m=>by cases m
 have s1:=ym (H:=⟨0,[]⟩) (r:=r) (m:=a') (fo ha) Eg w0;have s2:=ym (H:=⟨0,[]⟩) (r:=s) (m:=b') (by lia) (le_of_eq_of_le (id (Eq.symm vp)) Eg) w0;rw[dD,<- vp]at s2;obtain⟨vs,H',a1,a2,a3,a4,a5,a6⟩:=r9 (H:=⟨0,[]⟩) (enc:=Cd) (vs0:=[bK (r::a')]) (f:=turn (den 18) [3,4] true [] (cp 0 (.lcomp [5,6,7] (.call ig [(.var 7),(.sub (.sub (.var 1) (.var 3)) (.var 6))]) [([6,7],true,.enum,[(.var 4)],[])]) (den 18)) (some (bK (r::a'))::some (bK (s::b'))::none::none::none::cu 11 none))
  (kE 1 0 fun x=>(r7 (s::b') x).map z1) (fun _ _ _ _ h k=>sC h k) (fun _=>True) (fun _ _ _ _=>trivial) w0 trivial (enumM 0 (r::a')) (by rw[FZ];show a'.length+1<=_;lia) (fun _ _=>⟨rfl,rfl⟩) (fun x mx H1 acc w1 lk _ hn=>by
   have b1:=VY (H:=H1) (n:=9) (i:=x.1) (r:=x.2) (b:=s::b') (by show b'.length+1<=_;exact le_of_eq_of_le (id (Eq.symm gJ)) ha) (cY x mx) (x0:=some (bK (r::a'))) (x2:=none) (x5:=none) (x6:=none) (x7:=none) (ρ:=cu 8 none);have hn:1<=H1.nxt:=hn;refine⟨.ref H1.nxt,_,?_,w1.new,eU _,ck.new w1,H1.nxt,rfl,hn,by show H1.nxt≠0;lia,aq.c7⟩;unfold Cd;simp only[qk,aY,aZ,dI,jD];simp only[rep0,rep1,Nat.reduceAdd]at b1 ⊢;rw[b1,aG])
 exists ae (sY a6),js,e1,R;subst e1;refine eV (H':=⟨H'.nxt,dropNew 0 H'.es⟩) ?_ (.cons i4 (.cons i4 .nil)) i4;have it:∀H,iterOf H .enum [bK (r::a')]=some (enumL (Int.ofNat 0) ((r::a').map bR)):=fun _=>rfl;unfold CY JB;rw[dC];simp only[dI,rep0,rep1]at a1;rw[aM];simp only[jr,cH,fv,cD,bo,bk,bz,rep0,rep1,bh,bg,bj,fJ,aG,s1,s2,KA,vQ,aS,bc];rw[aM];simp only[j8,gf,bo,bk,bz,bh,bg,bj,aG,it,gn,gv,aY,aZ,dI,rep0,rep1];rw[V1,a1];simp! only[];show some (freezeV H'.es 0 3 (.ref 0),(⟨H'.nxt,dropNew 0 H'.es⟩:Hp))=_;have R':Rows H' 0 1 js (((enumM 0 (r::a')).map (r7 (s::b'))).map fun r=>r.map z1):=by rw[d5];exact R
 rw[AN a4 (cw _) R']
end
end
section
open PySem
section
variable {H:Hp}
theorem Fe{A:Type}{f:V->Hp->Option Hp}{enc:A->V}{c:Nat}{o:bq}(hc:look H.es c=some ⟨c,false,o⟩)(val:A->V->Hp->Prop)(kZ:∀a v H' eo,val a v H'->fy H.nxt H' eo->val a v eo)(GF:∀a v H' eo,val a v H'->fy c H' eo->val a v eo)
  (I:Hp->Prop) (hI:∀H' eo,I H'->fy H.nxt H' eo->I eo) (Gy:∀H',fy c H H'->I H') (w:WF H) (s:List A) (hl:s.length<=50000)
  (step:∀a∈s,∀H' acc,WF H'->aq H' H.nxt acc->I H'->H.nxt+1<=H'.nxt->∃v H1,f (enc a) H'=jU H.nxt v H1/\WF H1/\H'.nxt<=H1.nxt/\ck H' H1/\val a v H1) :
  ∃vs H',compGo H.nxt f (s.map enc) [.ref c] (newObj H (.list [])).2=some (.ref H.nxt,H')/\WF H'/\H.nxt+1<=H'.nxt/\aq H' H.nxt vs/\ck H H'/\Vals val s vs H':=by
 have ug:=cO w hc;have tK:look (newObj H (.list [])).2.es c=some ⟨c,false,o⟩:=fB w hc;have o9:lockH (newObj H (.list [])).2 [.ref c]=⟨H.nxt+1,put (newObj H (.list [])).2.es c true o⟩:=by
  show(⟨H.nxt+1,cN (newObj H (.list [])).2.es (.ref c)⟩:Hp)=_;rw[w9 tK]
 have wL:WF ⟨H.nxt+1,put (newObj H (.list [])).2.es c true o⟩:=y5 (n:=H.nxt+1) (w.new (o:=.list []));have He:aq ⟨H.nxt+1,put (newObj H (.list [])).2.es c true o⟩ H.nxt []:=(eP (show H.nxt≠c by exact Ne.symm (eR ug))).trans aq.c7;have kL:fy c H ⟨H.nxt+1,put (newObj H (.list [])).2.es c true o⟩:=fun i e h q=>(eP q).trans (fB w h);obtain⟨vs,H',a1,a2,a3,a4,a5,a6⟩:=Jb (k:=H.nxt) (n0:=H.nxt+1) (enc:=enc) (f:=f) val kZ I hI s [] ⟨H.nxt+1,put (newObj H (.list [])).2.es c true o⟩ wL He (Gy _ kL) (cw _) (by show 0+s.length<=_;lia) step;have j7:look H'.es c=some ⟨c,true,o⟩:=a5 c _ (m8 tK) (eR ug);refine⟨vs,⟨H'.nxt,put H'.es c false o⟩,?_,y5 a2,a3,(eP (show H.nxt≠c by exact Ne.symm (eR ug))).trans a4,fun i e h=>?_,a6.1,fun i a v h1 h2=>GF _ _ _ _ (a6.2 i a v h1 h2) fun i e h q=>(eP q).trans h⟩
 ·show dw H.nxt (unlH (newObj H (.list [])).2.es [.ref c] (forItems f (s.map enc) (lockH (newObj H (.list [])).2 [.ref c])))=_;rw[o9,a1];show dw H.nxt (some ⟨H'.nxt,gQ (newObj H (.list [])).2.es H'.es (.ref c)⟩)=_;rw[qz tK j7];rfl
 ·by_cases q:i=c
  ·clear a6 a5 a4 a3 a2 a1 kL He wL o9 tK ug step hl w Gy hI GF kZ;subst q;rw[hc]at h
   (clear hc;exists h)
   exact m8 j7
  ·refine(eP q).trans (a5 i e (kL i e h q) fun z=>?_);have:=cO w h
   lia
def vn(a:List (List Int)):List Nat->Int->Option Int
 |[],acc=>some acc
 |i::r,acc=>match a[i]? with
  |none=>none
  |some row=>match row[i]? with
   |none=>none
   |some y=>match bndZ acc with
    |false=>none
    |true=>match bndZ y with
     |false=>none
     |true=>vn a r (acc+y)
def traceS(a:List (List Int)):Option Int:=match a with
 |[]=>none
 |r::m=>match rl (r::m)with
  |false=>none
  |true=>match aF (Nat.succ m.length) r.length with
   |false=>none
   |true=>vn (r::m) (eE 0 (Nat.succ m.length)) 0
def ub:List MS:=[(.assign 1 (.call ig [(.var 1),(.sub (.sub (.var 0) (.var 2)) (.var 2))]))]
set_option tactic.hygienic true in
theorem RL(hm:rl a=true):∀(s:List Nat) (acc res:Int) (o2:Option V),vn a s acc=some res->
  ∃Ay,loopF [2] false (denSs (denS 19) ub) (s.map az) (some (bK a)::some (z1 acc)::o2::ρ) H=some (.next,some (bK a)::some (z1 res)::Ay::ρ,H):=by
 exists ak (BB hm),hl,hr;intro s;clear hm;induction s with
 |nil=>intro acc res o2 e;exists e;exact⟨o2,rfl⟩
 |cons i s ih=>
  intro acc res o2 e;dsimp only[vn]at e;split at e
  ·exact nq e
  ·rename_i row gu;split at e
   ·exact nq e
   ·rename_i y hy;split at e
    ·exact nq e
    ·rename_i h1;exists kb1 e,h2,e
     ·exists aD (ih (acc+y) res (some (az i)) e),Ay,e1;have Du:=(hr row (ee gu)).1;have e2:∀H,subs H (bK a) (az i)=some (bR row):=fun H=>fQ (l:=a.map bR) (by rw[aJ];lia) (by rw[dP,gu];rfl);have e3:∀H,subs H (bR row) (az i)=some (z1 y):=fun H=>fQ (l:=row.map z1) (by rw[aJ];lia) (by rw[dP,hy];rfl);refine⟨Ay,?_⟩;rw[aO,fx];unfold ub;unfold ub at e1;simp! only[e2,e3,Ac h1 h2];exact e1
set_option tactic.hygienic true in
theorem VX{a:List (List Int)}{res:Int}(e:traceS a=some res):wh [bK a] H=some (z1 res,H):=by
 unfold traceS at e;split at e
 ·exact nq e
 ·rename_i r m;split at e
  ·exact nq e
  ·rename_i hm;exists kb1 e,vi,e
   ·have vi:=cU vi;exists ak (BB hm),hl,hr;have hl:m.length+1<=500:=hl;have w0:WF ⟨0,[]⟩:=fun _ m=>by clear hl hr vi e hm;cases m
    have s1:=ym (H:=⟨0,[]⟩) (r:=r) (m:=m) (by lia) (hr r (.head _)).1 w0;exists aD (RL (H:=⟨0,[]⟩) hm (ρ:=cu 13 none) (eE 0 (m.length+1)) 0 res none e),o2,el;have e1:∀H,cz .len [bK (r::m)] H=some (az (m.length+1),H):=fun H=>by
     have:=mA (H:=H) (l:=(r::m).map bR) (by rw[aJ];show m.length+1<=_;lia);rw[aJ]at this;exact this
    have e2:∀H,bu .Eq (az (m.length+1)) (az r.length) H=some true:=fun H=>by
     show some (aF (m.length+1) r.length)=_;rw[<- vi,ew]
    have e3:∀H,subs H (.tup [az (m.length+1),az r.length]) (V.int 1)=some (az r.length):=fun _=>rfl;have lk:∀H,lockH H [az (m.length+1)]=H:=fun _=>rfl;have su:∀es f ρ H,sunl es [az (m.length+1)] (some (f,ρ,H))=some (f,ρ,H):=fun _ _ _ _=>rfl;refine eV (H':=⟨0,[]⟩) ?_ (.cons i4 .nil) fU;unfold IJ Ib;rw[iB];unfold ub at el;simp only[rep0,rep1]at el;rw[show z1 0=V.tup [.int 0,.int 1]from rfl]at el;have it:∀H,iterOf H .range1 [az (m.length+1)]=some ((eE 0 (m.length+1)).map az):=fun H=>rI (by lia);simp! only[e1,s1,e2,e3,vQ,it,lk];rw[el];simp! only[su];rfl
def dv(row col:List Int):Int:=match nz 0 row col with
 |some x=>x
 |none=>0
def u6(row col:List Int):Bool:=match nz 0 row col with
 |some _=>match b8 col.length 500 with
  |true=>true
  |false=>false
 |none=>false
set_option tactic.hygienic true in
theorem YL(h:u6 row col=true):nz 0 row col=some (dv row col)/\col.length<=500:=by
 unfold u6 at h;unfold dv;split at h
 ·rename_i x hx;exists kb2 h,h2,h
  ·exact⟨hx,bC h2⟩
 ·exact bf h
theorem YC(w:WF H)(hj:aq H j (row.map z1))(hc:cols.length<=500)(h:∀col∈cols,u6 row col=true) :
  den (n+8) (.lcomp [5,6] (.call nZ [(.var 4),(.var 6)]) [([6],false,.seq,[(.var 2)],[])]) (x0::x1::some (bK cols)::x3::some (.ref j)::x5::x6::ρ) H=some (.ref H.nxt,(newObj H (.list ((cols.map (dv row)).map z1))).2):=by
 have pN:=cO w hj;clear w;obtain⟨nx,es⟩:=H;have pN:j<nx:=pN;have it:∀H,iterOf H .seq [bK cols]=some (cols.map bR):=fun _=>rfl;have this:=dF (k:=nx) (n:=nx+1) (es:=es) (enc:=bR) (f:=turn (den (n+7)) [6] false [] (cp nx (.call nZ [(.var 4),(.var 6)]) (den (n+7))) (x0::x1::some (bK cols)::x3::some (.ref j)::none::none::ρ)) (fun col=>[z1 (dv row col)]) cols [] (fun col m acc ha=>by
  exists ak (YL (h col m)),d1,d2;have Qe:aq ⟨nx+1,⟨nx,false,.list acc⟩::es⟩ j (row.map z1):=(dg (by lia)).trans hj;simp! only[Xp (rv:=.ref j) Qe.frz (by lia) d1];exact dm ha) (by rw[eW];show 0+_<=_;lia)
 rw[eJ,dh]at this;have key:=iX (c:=cols.map bR) this;rw[show V.lst (cols.map bR)=bK cols from rfl]at key;simp! only[it];rw[key,d5];rfl
theorem Jm{A:Nat}{js:List Nat}{r:List Int}{m:List (List Int)}{n0:Nat}(w:WF H)(hA:aq H A (js.map V.ref))(R:Rows H A n0 js ((r::m).map fun r=>r.map z1))(hm:m.length<=500)(hr:r.length<=500) :
  j0 [.ref A] H=some (.tup [az (m.length+1),az r.length],H):=by
 have hK:js.length=m.length+1:=by rw[R.1,aJ];rfl
 rcases js with _|⟨j,js⟩
 ·clear R hA hr hm w;cases hK
 have hj:=R.2.1 0 j _ rfl rfl;have e1:cz .len [V.ref A] H=some (V.int (.ofNat (m.length+1)),H):=by
  have:=m9 hA (by rw[aJ];lia);rw[aJ,hK]at this;exact this
 have e2:cz .len [V.ref j] H=some (V.int (.ofNat r.length),H):=by
  have:=m9 hj (by rw[aJ];lia);rw[aJ]at this;exact this
 have e3:subs H (V.ref A) (V.int 0)=some (.ref j):=jt (i:=0) hA (by rw[aJ];lia) rfl;unfold j0 yv An;rw[iB];simp! only[e1,lM,lg (Nat.succ_pos m.length),e2,e3];show some (V.tup [az (m.length+1),az r.length],(⟨H.nxt,dropNew H.nxt H.es⟩:Hp))=_;rw[Cs w]
def mulZ(a cols:List (List Int)):List (List Int):=a.map fun row=>cols.map (dv row)
def HG(a cols:List (List Int)):Bool:=allB (fun row=>allB (u6 row) cols) a
theorem LL{js:List Nat}{a:List (List Int)}(h:js.length=a.length):(js.zip a).map (fun x=>V.ref x.1)=js.map V.ref/\∀(g:List Int->List V),(js.zip a).map (fun x=>g x.2)=a.map g:=by
 induction js generalizing a with
 |nil=>induction a using aN with
  |nil=>exact⟨rfl,fun _=>rfl⟩
  |cons=>cases h
 |cons j js ih=>
  induction a using aN with
  |nil=>clear ih;cases h
  |cons r a=>
   exists ak (ih (gG h)),h1,h2;refine⟨?_,fun g=>?_⟩
   ·rw[List.zip_cons_cons,aO,aO,h1]
   ·rw[List.zip_cons_cons,aO,aO,h2 g]
theorem Nw{A n0:Nat}{js:List Nat}{r:List Int}{m p cols:List (List Int)}(w:WF H)(hA:aq H A (js.map V.ref))(R:Rows H A n0 js ((r::m).map fun r=>r.map z1))(hm:m.length<=400)(hr:r.length<=500)(hp:p.length=r.length)(hT:∀H,tL [bK p] H=some (bK cols,H))(hc:cols.length<=500)(h:HG (r::m) cols=true) :
  ∃H',qQ [.ref A,bK p] H=some (bK (mulZ (r::m) cols),H')/\WF H'/\H.nxt<=H'.nxt/\ck H H':=by
 have hK:js.length=(r::m).length:=by rw[R.1,aJ]
 exists ak (LL hK),Yc,z2';have cY:=dr h;have s1:=Jm w hA R (by lia) hr;have qV:∀x∈js.zip (r::m),x.1∈js/\aq H x.1 (x.2.map z1)/\x.2∈r::m:=fun x mx=>by
  exists aD (List.mem_iff_getElem?.mp mx),i,hi;rw[List.getElem?_zip_eq_some]at hi;refine⟨ee hi.1,R.2.1 i x.1 _ hi.1 (by rw[dP,hi.2];rfl),ee hi.2⟩
 have dz:∀x∈js.zip (r::m),x.1<H.nxt:=fun x mx=>cO w (qV x mx).2.1;have vd:=cO w hA;clear h;obtain⟨vs,H',a1,a2,a3,a4,a5,a6⟩:=Fe (H:=H) (c:=A) hA (enc:=fun x:Nat×List Int=>V.ref x.1) (f:=turn (den 18) [4] false [] (cp H.nxt (.lcomp [5,6] (.call nZ [(.var 4),(.var 6)]) [([6],false,.seq,[(.var 2)],[])]) (den 18)) (some (.ref A)::some (bK p)::some (bK cols)::none::none::none::none::cu 10 none))
  (kE (H.nxt+1) H.nxt fun x=>(cols.map (dv x.2)).map z1) (fun _ _ _ _ h k=>sC h k) (fun a v H1 H2 h k=>by
   exists dX h,j,e,n1,q,l
   try clear h
   exact⟨j,e,n1,q,k _ _ l (by lia)⟩) (fun H'=>∀x∈js.zip (r::m),aq H' x.1 (x.2.map z1)) (fun H1 H2 h k x mx=>k _ _ (h x mx) (by have:=dz x mx;exact Ne.symm (Nat.ne_of_lt' (dz x mx)))) (fun H1 k x mx=>k _ _ (qV x mx).2.1 (R.2.2 _ (qV x mx).1).2) w (js.zip (r::m)) (by rw[List.length_zip,hK,Nat.min_self];show m.length+1<=_;lia) (fun x mx H1 acc w1 lk hi hn=>by
   have b1:=YC (H:=H1) (n:=10) (j:=x.1) (row:=x.2) (cols:=cols) w1 (hi x mx) hc (dr (cY x.2 (qV x mx).2.2)) (x0:=some (.ref A)) (x1:=some (bK p)) (x3:=none) (x5:=none) (x6:=none) (ρ:=cu 10 none);refine⟨.ref H1.nxt,_,?_,w1.new,eU _,ck.new w1,H1.nxt,rfl,hn,by lia,aq.c7⟩;simp only[mD,aY,aZ,dI,jD];simp only[rep0,rep1,Nat.reduceAdd]at b1 ⊢;rw[b1,aG])
 exists ae (sY a6),ks,e1,R2;clear a6 a2 vd dz qV cY hK hc hm R;subst e1;rw[Yc]at a1;rw[z2' fun row=>(cols.map (dv row)).map z1]at R2;have Wz:Rows H' H.nxt (H.nxt+1) ks ((mulZ (r::m) cols).map fun r=>r.map z1):=by
  unfold mulZ;rw[d5];exact R2
 have e2:∀H,cz .len [bK p] H=some (az p.length,H):=fun H=>by
  have:=mA (H:=H) (l:=p.map bR) (by rw[aJ];lia);rw[aJ]at this;exact this
 have e3:∀H,bu .Eq (az r.length) (az p.length) H=some true:=fun H=>by
  show some (aF r.length p.length)=_;rw[hp,ew]
 have e4:∀H,subs H (.tup [az (m.length+1),az r.length]) (V.int 1)=some (az r.length):=fun _=>rfl;have it:iterOf H .seq [.ref A]=some (js.map V.ref):=lA hA;refine⟨⟨H'.nxt,dropNew H.nxt H'.es⟩,?_,fun e m=>Nat.lt_of_lt_of_le (jR m).2 (by show H.nxt<=H'.nxt;lia),by show H.nxt<=H'.nxt;lia,fun i e h=>?_⟩
 ·unfold qQ Gg FW;rw[dC];simp only[dI,rep0,rep1]at a1;rw[aM];simp only[jr,cH,fv,mY,jH,cD,bo,bk,bz,rep0,rep1,bh,bg,bj,fJ,aG,s1,e2,e3,e4,vQ,aS,bc];rw[aM];simp only[cf,cH,bo,bk,bz,bh,bg,bj,aG,hT,aY,aZ,aS,bc];rw[aM];simp only[j8,gf,bo,bk,bz,bh,bg,bj,aG,it,gn,gv,aY,aZ,dI,rep0,rep1];rw[a1];simp! only[];show some (freezeV H'.es H.nxt 3 (.ref H.nxt),(⟨H'.nxt,dropNew H.nxt H'.es⟩:Hp))=_;rw[AN a4 (cw _) Wz]
 ·have:=cO w h;exact(td this).trans (a5 i e h)
end
end
section
open PySem
def qB(n:Nat)(p:List (List Int)):Bool:=match aF p.length n with
 |true=>allB (fun r:List Int=>aF r.length n) p
 |false=>false
noncomputable def XX(j:Nat)(r:List Int):Int:=match r[j]? with
 |some x=>x
 |none=>0
def transZ(n:Nat)(p:List (List Int)):List (List Int):=(eE 0 n).map fun j=>p.map (XX j)
noncomputable def n5:Nat->List (List Int)
 |2=>[[1,0],[0,1]]
 |3=>[[1,0,0],[0,1,0],[0,0,1]]
 |_=>[]
section
variable {H:Hp}
theorem og(h:qB n p=true):p.length=n/\∀r∈p,r.length=n:=by
 refine kb2 h fun h1 h2=>⟨cU h1,fun r m=>cU (dr h2 r m)⟩
theorem PO(hn:n=2\/n=3)(h:qB n p=true):tL [bK p] H=some (bK (transZ n p),H):=by
 exists ak (og h),hl,hr;clear h;rcases hn with rfl|rfl
 ·exists de (q7 hl),r1,r2,z;subst z;exists de (q7 (hr r1 (.head _))),a,b,z;exists de (q7 (hr r2 (.tail _ (.head _)))),c,d,y;clear hl hr;subst z;subst y;exact eV (T2 (a:=a) (b:=b) (c:=c) (d:=d)) (.cons i4 .nil) (i4 (m:=[[a,c],[b,d]]))
 ·exists lh (wg hl),r1,r2,r3,z;subst z;exists lh (wg (hr r1 (.head _))),a,b,c,z;exists lh (wg (hr r2 (.tail _ (.head _)))),d,e,f,y;exists lh (wg (hr r3 (.tail _ (.tail _ (.head _))))),g,y',i,x;clear hl hr;subst z;subst y;subst x;exact eV (T3 (a:=a) (b:=b) (c:=c) (d:=d) (e:=e) (f:=f) (g:=g) (h:=y') (i:=i)) (.cons i4 .nil) (i4 (m:=[[a,d,g],[b,e,y'],[c,f,i]]))
theorem Ei(hn:n=2\/n=3):ta [az n] H=some (bK (n5 n),H):=by
 rcases hn with rfl|rfl
 ·exact eV U2 (.cons (.int _) .nil) (i4 (m:=n5 2))
 ·exact eV U3 (.cons (.int _) .nil) (i4 (m:=n5 3))
theorem Mo(hi:0<i)(h:q * Int.ofNat i=t):divQ t 1 (Int.ofNat i) 1=(q,1):=by
 have h1:divQ t 1 (Int.ofNat i) 1=fV (t * 1) (1 * i):=rfl;rw[h1,Int.mul_one,Nat.one_mul];unfold fV;split
 ·rename_i e;have:i=1:=cU e;clear e h1 hi;subst this;have:q * 1=t:=h;rw[Int.mul_one]at this;rw[this]
 ·have hd:i∣t.natAbs:=by
   rw[<- h,Int.natAbs_mul];exact Nat.dvd_mul_left _ _
  have hg:cc t.natAbs i=i:=Nat.gcd_eq_right hd;rw[hg];exists aD (natAbs_dvd hd),k,hk;have h2:=uw hi hk;have bN:(i:Int)≠0:=by lia
  have h3:ff t i=q:=by
   have h4:ff t i * (i:Int)=q * (i:Int):=by rw[h2,<- h];rfl
   exact Int.eq_of_mul_eq_mul_right bN h4
  show(ff t i,i / i)=(q,1);rw[h3,Nat.div_self hi]
end
section
variable (go:List (List Int)->List Int->Option (List Int)) (n:Nat) (found:List Int)
noncomputable def Hf(p:Option (List (List Int)))(q:Int):Option (List Int):=match p with
 |none=>none
 |some p=>go p (found++[-q])
def LA(p1:List (List Int))(t q:Int)(i:Nat):Option (List Int):=match ieq (q * Int.ofNat i) t with
 |false=>none
 |true=>match bndZ t with
  |false=>none
  |true=>match bndZ (-q)with
   |false=>none
   |true=>Hf go found (CN p1 (uO (n5 n) (-q))) q
def chB(p1:List (List Int))(i:Nat)(t:Option Int):Option (List Int):=match t with
 |none=>none
 |some t=>LA go n found p1 t (ff t i) i
def VV(a p:List (List Int))(i:Nat):Option (List Int):=match qB n p with
 |false=>none
 |true=>match HG a (transZ n p)with
  |false=>none
  |true=>chB go n found (mulZ a (transZ n p)) i (traceS (mulZ a (transZ n p)))
end
def tI(n:Nat)(a:List (List Int)):List Nat->List (List Int)->List Int->Option (List Int)
 |[],_,found=>some found
 |i::r,p,found=>VV (tI n a r) n found a p i
def charS(n:Nat)(a:List (List Int)):Option (List Int):=match qB n a with
 |false=>none
 |true=>match tI n a (eE 1 n) (n5 n) [1]with
  |none=>none
  |some f=>some f.reverse
def vL:List MS:=[(.assign 3 (.call qQ [(.var 0),(.var 3)])),(.assign 5 (.call oZ [(.call oY [(.call wh [(.var 3)]),(.tup [(.var 4),(.const (.int 1))])])])),(.expr (.cP .append (.var 2) [(.var 5)])),(.assign 3 (.call vK [(.var 3),(.call uV [(.call ta [(.var 1)]),(.var 5)])]))]
structure CI (A F n0:Nat) (js:List Nat) (a:List (List Int)) (found:List Int) (H:Hp):Prop where
 wf:WF H
 la:aq H A (js.map V.ref)
 lr:Rows H A n0 js (a.map fun r=>r.map z1)
 lf:aq H F (found.map z1)
 af:A≠F
 jf:∀j∈js,j≠F
section
variable {H:Hp}
theorem CI.keep(C:CI A F n0 js a found H)(w:WF H')(k:ck H H'):CI A F n0 js a found H':=
 ⟨w,k _ _ C.la,C.lr.keep fun i e h _=>k i e h,k _ _ C.lf,C.af,C.jf⟩
theorem CI.push(C:CI A F n0 js a found H)(f':List Int):CI A F n0 js a f' (setObj H F (.list (f'.map z1))):=
 ⟨C.wf.set,C.la.set C.af,⟨C.lr.1,fun i j r h1 h2=>(C.lr.2.1 i j r h1 h2).set (C.jf j (ee h1)),C.lr.2.2⟩,C.lf.g5,C.af,C.jf⟩
theorem Xl(hn:n=2\/n=3)(ju:qB n (r::m)=true):∀(s:List Nat) (p:List (List Int)) (found res:List Int) (H:Hp) (o4 o5:Option V),(∀i∈s,0<i/\i<=3)->tI n (r::m) s p found=some res->CI A F n0 js (r::m) found H->found.length+s.length<=100->
  ∃p' ki mJ H',loopF [4] false (denSs (denS 19) vL) (s.map az) (some (.ref A)::some (az n)::some (.ref F)::some (bK p)::o4::o5::ρ) H=some (.next,some (.ref A)::some (az n)::some (.ref F)::some (bK p')::ki::mJ::ρ,H')/\CI A F n0 js (r::m) res H'/\fy F H H':=by
 have fF:m.length+1=n/\r.length=n:=⟨(og ju).1,(og ju).2 r (.head _)⟩;intro s;clear ju;induction s with
 |nil=>intro p found res H o4 o5 _ e C _;exists e;exact⟨p,o4,o5,H,rfl,C,fun i e h _=>h⟩
 |cons i s ih=>
  intro p found res H o4 o5 hi e C g9;have g9:found.length+(s.length+1)<=100:=g9;exists ak (hi i (.head _)),l6,Kh;exists kb1 e,hp,e;exists kb1 e,hmul,e;exists Fu e,t,ht,e;exists kb1 e,hq,e;exists kb1 e,Bi,e;exists kb1 e,BO,e;exists zV e,p2,mF,e;have hq:=(ieq_iff _ _).mp hq;have ll:p.length=r.length:=(og hp).1.trans fF.2.symm;have rg:n<=3:=by rcases hn with h|h <;> lia
  obtain⟨H1,e1,w1,_,k1⟩:=Nw C.wf C.la C.lr (by lia) (by lia) ll (fun H=>PO hn hp) (by unfold transZ;rw[aJ,kn];lia) hmul;have C1:=C.keep w1 k1;have e2:=VX (H:=H1) ht;have e3:=Ho (H:=H1) (rL Bi) (show cM (Int.ofNat i) 1 from⟨by show i<=_;lia,Nat.one_pos,by decide⟩) (show Int.ofNat i≠0 by have:(Int.ofNat i)=(i:Int):=rfl;lia);rw[Mo l6 hq]at e3;have e4:oZ [aX (ff t i) 1] H1=some (z1 (-(ff t i)),H1):=Hq;have e5:=lF (v:=z1 (-(ff t i))) C1.lf (by rw[aJ];lia);have Ak:found.map z1++[z1 (-(ff t i))]=(found++[-(ff t i)]).map z1:=by rw[gM];rfl
  rw[Ak]at e5;have C2:=C1.push (found++[-(ff t i)]);have hu:rl (n5 n)=true:=by clear C2 Ak e5 e4 e3 e2 C1 k1 w1 e1 rg ll hq e mF BO Bi ht hmul hp Kh l6 g9 C hi ih fF;rcases hn with rfl|rfl <;> rfl
  have e6:=O3 (H:=setObj H1 F (.list ((found++[-(ff t i)]).map z1))) hu BO;have e7:=Q8 (H:=setObj H1 F (.list ((found++[-(ff t i)]).map z1))) mF;have e8:=Ei (H:=setObj H1 F (.list ((found++[-(ff t i)]).map z1))) hn;clear hu Ak w1 rg ll hq mF BO Bi ht hmul hp Kh l6 C fF hn;obtain⟨p',ki,mJ,H',a1,a2,a3⟩:=ih p2 _ res _ (some (az i)) (some (z1 (-(ff t i)))) (fun j mj=>hi j (.tail _ mj)) e C2 (by rw[d8];show found.length+1+s.length<=_;lia);refine⟨p',ki,mJ,H',?_,a2,fun i e h q=>a3 i e ((eP q).trans (k1 i e h)) q⟩;rw[aO,fx];unfold vL;unfold vL at a1;have e9:(V.tup [az i,V.int 1])=aX (Int.ofNat i) 1:=rfl;simp only[sF,lS,aY,aZ];rw[aM];simp only[cf,cH,bo,bk,bz,bh,bg,bj,aG,e1,aY,aZ,aS,bc];rw[aM];simp only[cf,cH,fh,cD,bo,bk,bz,bh,bg,bj,aG,e2,e9,show z1 t=aX t 1 from rfl,e3,i8,e4,aY,aZ,aS,bc];rw[aM];simp only[jr,kI,bo,bk,bz,bh,bg,bj,aG,mZ C1.lf,lp,e5,aS,bc];rw[aM];simp only[cf,cH,bo,bk,bz,bh,bg,bj,aG,e8,e6,e7,aY,aZ,aS,bc,gx,jL];exact a1
theorem Ls(s:List Nat):∀(p:List (List Int)) (found res:List Int),tI n a s p found=some res->res.length=found.length+s.length:=by
 induction s with
 |nil=>intro p found res e;cases aI e;rfl
 |cons i s ih=>
  intro p found res e;refine kb1 e fun _ e=>kb1 e fun _ e=>?_;unfold chB at e;refine Fu e fun t _ e=>kb1 e fun _ e=>kb1 e fun _ e=>kb1 e fun _ e=>?_;unfold Hf at e;exists zV e,p2,Z0,e;have:=ih _ _ _ e;rw[this,d8];show found.length+1+s.length=found.length+(s.length+1);exact Nat.succ_add_eq_add_succ found.length s.length
theorem Z3{A n0 n:Nat}{js:List Nat}{r:List Int}{m:List (List Int)}{res:List Int}(hn:n=2\/n=3)(w:WF H)(hA:aq H A (js.map V.ref))(R:Rows H A n0 js ((r::m).map fun r=>r.map z1))(e:charS n (r::m)=some res) :
  ∃H',rY [.ref A] H=some (.lst (res.map z1),H')/\WF H'/\ck H H':=by
 exists kb1 e,ju,e;exists NN e,f,hf,e;exists e;have fF:m.length+1=n/\r.length=n:=⟨(og ju).1,(og ju).2 r (.head _)⟩;have rg:n<=3:=by clear hf ju R hA w;rcases hn with h|h <;> lia
 have vd:=cO w hA;have pN:∀j∈js,j<H.nxt:=fun j mj=>by
  exists aD (List.mem_iff_getElem?.mp mj),i,hi;have qI:i<((r::m).map fun r=>r.map z1).length:=by rw[<- R.1];exact(fj.mp hi).1
  exact cO w (R.2.1 i j _ hi (List.getElem?_eq_getElem qI))
 have C:CI A H.nxt n0 js (r::m) [1] (newObj H (.list [z1 1])).2:=
  ⟨w.new,hA.new w,R.keep fun i e h _=>fB w h,aq.c7,by exact eR vd,fun j mj=>by have:=pN j mj;exact eR (pN j mj)⟩
 clear pN vd;obtain⟨p',o4,o5,H',el,C',K'⟩:=Xl hn ju (ρ:=cu 13 none) (eE 1 n) (n5 n) [1] f _ none none (fun i mi=>by
  have:=List.mem_range'.mp mi
  lia) hf C (by rw[kn];show 1+n<=_;lia)
 have s1:=Jm w hA R (by lia) (by lia);have hK:js.length=m.length+1:=by rw[R.1,aJ];rfl
 have e1:cz .len [V.ref A] H=some (az n,H):=by
  have:=m9 hA (by rw[aJ];lia);rw[aJ,hK,fF.1]at this;exact this
 have e2:∀H,bu .Eq (az n) (az r.length) H=some true:=fun H=>by
  show some (aF n r.length)=_;rw[fF.2,ew]
 have e3:∀H,subs H (.tup [az (m.length+1),az r.length]) (V.int 1)=some (az r.length):=fun _=>rfl;have e4:∀H,binOp .Add (az n) (V.int 1) H=some (az (n+1),H):=fun _=>rfl;have it:∀H,iterOf H .range2 [V.int 1,az (n+1)]=some ((eE 1 n).map az):=fun H=>by
  clear e4 e3 e2 e1 hK s1 K' C' el C rg fF hf ju R hA w;rcases hn with rfl|rfl <;> rfl
 have lk:∀H,lockH H [V.int 1,az (n+1)]=H:=fun _=>rfl;have su:∀es f ρ H,sunl es [V.int 1,az (n+1)] (some (f,ρ,H))=some (f,ρ,H):=fun _ _ _ _=>rfl;have e5:eC .reverse (.ref H.nxt) [] H'=some (.none,setObj H' H.nxt (.list (f.map z1).reverse)):=by
  unfold eC;rw[C'.lf.own];show guard' (lenOk (f.map z1)) (some (V.none,setObj H' H.nxt (.list (f.map z1).reverse)))=_;have g9:f.length<=1000:=by
   have:=Ls _ _ _ _ hf;rw[kn]at this;rw[this];show 1+n<=_
   lia
  rw[cT (by rw[aJ];lia)];rfl
 have tN:fZ .reverse (own H' (.ref H.nxt))=true:=by rw[C'.lf.own];rfl
 have FP:aq (setObj H' H.nxt (.list (f.map z1).reverse)) H.nxt (f.map z1).reverse:=C'.lf.g5;have FR:H.nxt<=H'.nxt:=Nat.le_of_lt (cO C'.wf C'.lf);refine⟨⟨H'.nxt,dropNew H.nxt (setObj H' H.nxt (.list (f.map z1).reverse)).es⟩,?_,fun e m=>Nat.lt_of_lt_of_le (jR m).2 FR,fun i e h=>?_⟩
 rotate_left
 ·have hi:=cO w h;refine(td hi).trans ((eP (eR hi)).trans (K' i e (fB w h) (eR hi)))
 have dA:∀{B:Type} {o:bq} {f:V->Hp->Option B} {H:Hp},ob (some (newObj H o)) f=f (.ref H.nxt) (newObj H o).2:=rfl;unfold rY Ii Fy;rw[iB];unfold vL at el;simp only[rep0,rep1]at el;rw[aM];simp only[cf,jH,bo,bk,bz,rep0,rep1,bh,bg,bj,aG,e1,aY,aZ,aS,bc];rw[aM];simp only[jr,cH,fv,mY,cD,bo,bk,bz,bh,bg,bj,fJ,aG,s1,e2,e3,vQ,aS,bc];rw[aM];simp only[gO,fh,f7,cH,cD,bo,bk,bz,bh,bg,bj,aG,dA,Ei hn,jP,gL,aY,aZ,aS,bc];rw[aM];simp only[lB,gh,cD,bo,bk,bz,bh,bg,bj,aG,e4,it,lk];rw[show V.tup [V.int 1,V.int 1]=z1 1 from rfl];rw[el];simp! only[su,tN,e5];show some (freezeV (setObj H' H.nxt (.list (f.map z1).reverse)).es H.nxt 3 (.ref H.nxt),(⟨H'.nxt,_⟩:Hp))=_;rw[iV FP (cw _)];have CD:∀(l:List Int) (es:List Ent),(l.map z1).map (freezeV es H.nxt 2)=l.map z1:=by
  intro l es;clear dA FR FP tN e5 su lk it e4 e3 e2 e1 hK s1 K' C' el C rg fF hf ju R hA w hn;induction l with
  |nil=>rfl
  |cons a l ih=>rw[aO,aO,ih,still_z1]
 rw[<- List.map_reverse,CD]
end
end
section
open PySem
structure Bx (B I k:Nat) (l:List Int) (H:Hp):Prop where
 wf:WF H
 ne:B≠I
 b:aq H B [.ref I,.int (.ofNat k)]
 i:aq H I (l.map V.int)
 len:l.length<=1000
section
variable {H:Hp}
theorem Bx.leave(b:Bx B I k l H')(hB:B<n)(hI:I<n)(hm:n<=m):Bx B I k l ⟨m,dropNew n H'.es⟩:=
 ⟨fun e me=>Nat.lt_of_lt_of_le (jR me).2 hm,b.ne,(td hB).trans b.b,(td hI).trans b.i,b.len⟩
theorem Bx.new(b:Bx B I k l H)(o:bq):Bx B I k l (newObj H o).2:=⟨b.wf.new,b.ne,b.b.new b.wf,b.i.new b.wf,b.len⟩
theorem Bx.setB(b:Bx B I k l H)(k':Nat):Bx B I k' l (setObj H B (.list [.ref I,.int (.ofNat k')])):=⟨b.wf.set,b.ne,b.b.g5,b.i.set b.ne.symm,b.len⟩
theorem Bx.Xn(b:Bx B I k l H)(l':List Int)(h:l'.length<=1000):Bx B I k l' (setObj H I (.list (l'.map V.int))):=⟨b.wf.set,b.ne,b.b.set b.ne,b.i.g5,h⟩
theorem FQ(l:List Int):resL (res H (k+1)) (l.map V.int)=some (l.map V.int):=by
 induction l with
 |nil=>
  exact rfl
 |cons a l ih=>
  show(match resL (res H (k+1)) (l.map V.int)with
   |some s=>some (V.int a::s)
   |none=>none)=_
  rw[ih];rfl
theorem Ni{I j:Nat}{l:List Int}(h1:aq H I (l.map V.int))(h2:aq H j []):bu .NotEq (.ref I) (.ref j) H=some (match l with|[]=>false|_::_=>true):=by
 have e1:res H 7 (.ref I)=some (.lst (l.map V.int)):=by
  show resR (res H 6) (look H.es I)=_;rw[show look H.es I=_ from h1];show mkL (resL (res H 6) (l.map V.int))=_;rw[FQ (k:=5)];rfl
 have e2:res H 7 (.ref j)=some (.lst []):=by
  show resR (res H 6) (look H.es j)=_;rw[show look H.es j=_ from h2];rfl
 show jm (match res H 7 (.ref I)with
  |some a=>match res H 7 (.ref j)with
   |some b=>some (teq deepN a b)
   |none=>none
  |none=>none)=_
 rw[e1,e2];clear e2 e1 h2;induction l using aN <;> rfl
theorem aaO{x:Int}{m:Nat}(hm:0<m):∃r,r<m/\x.fmod (Int.ofNat m)=Int.ofNat r:=by
 refine⟨(x.fmod (Int.ofNat m)).toNat,?_,?_⟩
 ·have h1:=Int.fmod_lt_of_pos x (b:=(m:Int)) (by lia);have h2:=Int.fmod_nonneg_of_pos x (b:=(m:Int)) (by lia);show(x.fmod (m:Int)).toNat<m;exact(fun{n} {z} h=>(Int.toNat_lt h).mpr) h2 h1
 ·have h2:=Int.fmod_nonneg_of_pos x (b:=(m:Int)) (by lia);show x.fmod (m:Int)=((x.fmod (m:Int)).toNat:Int);exact(fun{a}=>Int.eq_natCast_toNat.mpr) h2
theorem kR(b:Bx B I k l H)(hk:k<=100)(hm:0<m):∃r l' H',r<m/\dB [.ref B,az m] H=some (az r,H')/\Bx B I (k+1) l' H'/\H.nxt<=H'.nxt:=by
 have hB:=cO b.wf b.b;have hI:=cO b.wf b.i;have e0:=jt (i:=1) b.b (by show 2<=100000;decide) rfl;have e1:∀H,binOp .Add (V.int (.ofNat k)) (V.int 1) H=some (V.int (.ofNat (k+1)),H):=fun _=>rfl;have e2:iI H (.ref B) (V.int 1) (V.int (.ofNat (k+1)))=some (setObj H B (.list [.ref I,.int (.ofNat (k+1))])):=by
  unfold iI;rw[b.b.own];rfl
 have b1:=b.setB (k+1);have e3:=jt (i:=0) b1.b (by show 2<=100000;decide) rfl;have b2:=b1.new (.list []);have e4:=Ni b2.i (aq.c7 (H:=setObj H B (.list [.ref I,.int (.ofNat (k+1))])) (l:=[]));have Gh:∀x H,∃r,r<m/\binOp .Mod (V.int x) (az m) H=some (az r,H):=fun x H=>by
  exists ae (aaO (x:=x) hm),r,hr,e;refine⟨r,hr,?_⟩;show guard' (!ieq (Int.ofNat m) 0) (some (V.int (x.fmod (Int.ofNat m)),H))=_;have:ieq (Int.ofNat m) 0=false:=by rw[ieq_eq];simp;exact Nat.ne_zero_of_lt hm
  rw[this,e];rfl
 have dA:∀{B:Type} {o:bq} {f:V->Hp->Option B} {H:Hp},ob (some (newObj H o)) f=f (.ref H.nxt) (newObj H o).2:=rfl;clear b1 hm;induction l using aN with
 |cons x l=>
  have e5:=jt (i:=0) b2.b (by show 2<=100000;decide) rfl;have e6:eC .pop0 (.ref I) [V.int 0] (newObj (setObj H B (.list [.ref I,.int (.ofNat (k+1))])) (.list [])).2=some (V.int x,setObj (newObj (setObj H B (.list [.ref I,.int (.ofNat (k+1))])) (.list [])).2 I (.list (l.map V.int))):=by
   unfold eC;rw[b2.i.own];show guard' (band true (lenOk (l.map V.int))) _=_;have hl:=b.len;have hl:l.length+1<=1000:=hl;rw[cT (by rw[aJ];lia)];rfl
  have Sp:fZ .pop0 (own (newObj (setObj H B (.list [.ref I,.int (.ofNat (k+1))])) (.list [])).2 (.ref I))=true:=by rw[b2.i.own];rfl
  have b3:=b2.Xn l (by have hl:l.length+1<=1000:=b.len;exact fo hl);exists ae (Gh x (setObj (newObj (setObj H B (.list [.ref I,.int (.ofNat (k+1))])) (.list [])).2 I (.list (l.map V.int)))),r,hr,e7;refine⟨r,l,⟨H.nxt+1,dropNew H.nxt (setObj (newObj (setObj H B (.list [.ref I,.int (.ofNat (k+1))])) (.list [])).2 I (.list (l.map V.int))).es⟩,hr,?_,b3.leave hB hI (eU _),eU _⟩;unfold dB AO xT;rw[dC];simp only[aG,fD,aS,bj,fJ,zH,cD,bo,gh,yt,BX,AM,xQ,CP,pH,pI,zD,wq,AI,pL,BH,Au,o8,pf,fv,wW,cH,jH,kI,mY,rV,BQ,fh,f7,qN,gf,xM,bk,bz,bc,AY,l9,gx,aM,cf,gO,gL,tD,vq,qK,sN,jr,ui,iR,hO,oW,lB,j8,xD,jL,mC,Co,pX,r4,AB,fx,lS,sF,jP,lP,bh,bg,aY,aZ,gn,gv,lp,oT,xj,mD,qk,Bo,uh,vU,ifGo_f,dI,C6,jD,vW,BE,jG,Nat.zero_add,Nat.reduceAdd,rep0,rep1,show(V.int 1)=V.int (.ofNat 1)from rfl,show(V.int 0)=V.int (.ofNat 0)from rfl]at *;simp! only[e0,e1,e2,e3,dA,e4,e5,e6,Sp,e7];rfl
 |nil=>
  have e5:=jt (i:=1) b2.b (by show 2<=100000;decide) rfl;have m1:∀H,binOp .Mult (V.int 5) (V.int (.ofNat (k+1))) H=some (V.int (5 * .ofNat (k+1)),H):=fun H=>fg dq (by show k+1<=_;lia);have m2:∀H,binOp .FloorDiv (V.int (.ofNat (k+1))) (V.int 3) H=some (V.int ((Int.ofNat (k+1)).fdiv 3),H):=fun H=>rZ dq (by show k+1<=_;lia) dq;exists ae (Gh (5 * .ofNat (k+1)+(Int.ofNat (k+1)).fdiv 3) (newObj (setObj H B (.list [.ref I,.int (.ofNat (k+1))])) (.list [])).2),r,hr,e7;refine⟨r,[],⟨H.nxt+1,dropNew H.nxt (newObj (setObj H B (.list [.ref I,.int (.ofNat (k+1))])) (.list [])).2.es⟩,hr,?_,b2.leave hB hI (eU _),eU _⟩;unfold dB AO xT;rw[dC];simp only[aG,fD,aS,bj,fJ,zH,cD,bo,gh,yt,BX,AM,xQ,CP,pH,pI,zD,wq,AI,pL,BH,Au,o8,pf,fv,wW,cH,jH,kI,mY,rV,BQ,fh,f7,qN,gf,xM,bk,bz,bc,AY,l9,gx,aM,cf,gO,gL,tD,vq,qK,sN,jr,ui,iR,hO,oW,lB,j8,xD,jL,mC,Co,pX,r4,AB,fx,lS,sF,jP,lP,bh,bg,aY,aZ,gn,gv,lp,oT,xj,mD,qk,Bo,uh,vU,ifGo_f,dI,C6,jD,vW,BE,jG,Nat.zero_add,Nat.reduceAdd,rep0,rep1,show(V.int 1)=V.int (.ofNat 1)from rfl,show(V.int 0)=V.int (.ofNat 0)from rfl]at *;simp! only[e0,e1,e2,e3,dA,e4,e5,m1,m2,s7,e7];rfl
end
end
section
open PySem
noncomputable abbrev Tn:=Nat×Nat×Int
def pv(t:Tn):V:=.tup [encM t.1 t.2.1,.int t.2.2]
def polyG:List Tn->Po->Po
 |[],acc=>acc
 |t::r,acc=>match isZ' t.2.2 with
  |true=>polyG r acc
  |false=>polyG r (setT acc ⟨t.1,t.2.1,t.2.2,1⟩)
def fW(t:Tn):List V:=match isZ' t.2.2 with
 |true=>[]
 |false=>[.tup [encM t.1 t.2.1,aX t.2.2 1]]
section
variable {H:Hp}
theorem Sw(ts:List Tn):∀(acc:Po),pairsOf (ts.flatMap fW) (aj acc)=some (aj (polyG ts acc)):=by
 induction ts with
 |nil=>
  intro _;exact rfl
 |cons t r ih=>
  intro acc;rw[iQ];dsimp only[polyG,fW]
  induction isZ' t.2.2 using aB with
  |true=>exact ih acc
  |false=>
   show pairsOf (r.flatMap fW) (dset (aj acc) (bU t.1 t.2.1) (aX t.2.2 1))=_;rw[so];exact ih _
theorem YU(ts:List Tn):(ts.flatMap fW).length<=ts.length:=by
 induction ts with
 |nil=>
  exact cw _
 |cons t r ih=>
  rw[iQ,d8];have:=ih;have h1:(fW t).length<=1:=by
   unfold fW
   induction isZ' t.2.2 using aB with
   |true=>exact f6 1
   |false=>exact cw 1
  show _<=r.length+1
  lia
theorem WK:bu .NotEq (V.int n) (V.int 0) H=some (!isZ' n):=by
 show some (!ieq n 0)=_;rw[ieq_eq,qM]
theorem Bd(w:WF H)(hP:aq H P (ts.map pv))(hl:ts.length<=1000):∃H',jI [.ref P] H=some (.dct (aj (polyG ts [])),H')/\WF H'/\ck H H'/\H.nxt<=H'.nxt:=by
 have Fb:=cO w hP;obtain⟨nx,es⟩:=H;have Fb:P<nx:=Fb;have g9:=YU ts;have this:=dF (k:=nx) (n:=nx+1) (es:=put es P true (.list (ts.map pv))) (enc:=pv) (f:=turn (den 17) [2,3] true [.cmp .NotEq (.var 3) (.const (.int 0))] (cp nx (.tup [.var 2,.tup [.var 3,.const (.int 1)]]) (den 17)) (some (.ref P)::none::none::none::cu 10 none)) fW ts [] (fun t m acc ha=>by
  unfold fW pv;simp only[uh,fv,bo,cD,aY,aZ,bh,bg,bj,aG,WK,fJ,fD]
  induction isZ' t.2.2 using aB with
  |true=>simp only[Bool.not_true,ifGo_f,gc]
  |false=>
   simp! only[Bool.not_false,vU];exact dm ha) (by show 0+_<=_;lia)
 rw[dh]at this;have key:=mT (o:=.list (ts.map pv)) hP (show nx≠P by lia) this;have e1:cz .dict [V.ref nx] ⟨nx+1,⟨nx,false,.list (ts.flatMap fW)⟩::es⟩=some (newObj ⟨nx+1,⟨nx,false,.list (ts.flatMap fW)⟩::es⟩ (.dict (aj (polyG ts [])))):=by
  have lk:aq ⟨nx+1,⟨nx,false,.list (ts.flatMap fW)⟩::es⟩ nx (ts.flatMap fW):=aq.hd;have h1:dictView ⟨nx+1,⟨nx,false,.list (ts.flatMap fW)⟩::es⟩ (.ref nx)=none:=by
   show(match look _ nx with|some e=>(match e.obj with|.dict l=>some l|.list _=>none)|none=>none)=_
   rw[show look _ nx=_ from lk]
  show(match dictView _ (V.ref nx)with
   |some l=>guard' (band (lenOk l) (smallKeys l)) (some (newObj _ (.dict l)))
   |none=>match listView _ (V.ref nx)with
    |some l=>guard' (lenOk l) (u9 (pairsOf l []) _)
    |none=>none)=_
  rw[h1,lk.view];dsimp only;rw[cT (by lia),show pairsOf (ts.flatMap fW) []=_ from Sw ts []];rfl
 refine⟨⟨nx+2,dropNew nx (newObj ⟨nx+1,⟨nx,false,.list (ts.flatMap fW)⟩::es⟩ (.dict (aj (polyG ts [])))).2.es⟩,?_,fun e m=>Nat.lt_of_lt_of_le (jR m).2 (Nat.le_add_right _ _),fun i e h=>?_,Nat.le_add_right _ _⟩
 ·unfold jI DA Hn;rw[iB];simp only[rep0,rep1]at key;rw[aM];simp only[j8,jH,gf,bo,bk,bz,rep0,rep1,bh,bg,bj,aG,lA hP,gn,gv,aY,aZ,dI,vW];rw[key];simp only[aG,e1,jG,aS,l9,oT];show some (freezeV _ nx 3 (.ref (nx+1)),(⟨nx+2,_⟩:Hp))=_;rw[Ci (l:=aj (polyG ts [])) hV (eU _)]
 ·have hi:i<nx:=cO w h;refine(td hi).trans ?_;show look (⟨nx+1,false,_⟩::⟨nx,false,_⟩::es) i=_;rw[dg (Ne.symm (W.ktu_ne 1 hi)),dg (Ne.symm (eR hi))];exact h
end
end
section
open PySem
noncomputable abbrev Zs:=List (Int×Int)
noncomputable def zv(z:Int×Int):V:=.tup [.int z.1,.int z.2]
def nh(a b:Int):List Po:=[polyG [(2,0,1),(1,0,0 - a)] [],polyG [(1,1,1),(0,0,0)] [],polyG [(0,2,1),(0,1,0 - b)] []]
noncomputable def nt(a b:Int):Zs:=[(0,0),(a,0),(0,b)]
def mV(a b c d:Int):List Po:=[polyG [(2,0,1),(1,0,0 - a - b),(0,0,a * b)] [],polyG [(0,1,1),(1,0,0 - d),(0,0,0 - c)] []]
noncomputable def lV(a b c d:Int):Zs:=[(a,c+d * a),(b,c+d * b)]
def ti(s:List Po)(z:Zs):V:=.tup [.lst (ar s),.lst (z.map zv)]
def rv(t:Tn×Tn):V:=.tup [encM t.1.1 t.1.2.1,.int t.1.2.2,encM t.2.1 t.2.2.1,.int t.2.2.2]
def HF(t:Tn×Tn):Po:=polyG [t.1,t.2] []
def Bq:List MS:=[(.assign 4 (.list [(.tup [(.tup [(.const (.int 2)),(.const (.int 0))]),(.const (.int 1)),(.tup [(.const (.int 1)),(.const (.int 0))]),(.bin .Sub (.const (.int 0)) (.var 2))]),(.tup [(.tup [(.const (.int 1)),(.const (.int 1))]),(.const (.int 1)),(.tup [(.const (.int 0)),(.const (.int 0))]),(.const (.int 0))]),(.tup [(.tup [(.const (.int 0)),(.const (.int 2))]),(.const (.int 1)),(.tup [(.const (.int 0)),(.const (.int 1))]),(.bin .Sub (.const (.int 0)) (.var 3))])])),(.assign 5 (.lcomp [9,10,11,12,13] (.call jI [(.list [(.tup [(.var 10),(.var 11)]),(.tup [(.var 12),(.var 13)])])]) [([10,11,12,13],true,.seq,[(.var 4)],[])])),(.ret (.tup [(.var 5),(.list [(.tup [(.const (.int 0)),(.const (.int 0))]),(.tup [(.var 2),(.const (.int 0))]),(.tup [(.const (.int 0)),(.var 3)])])]))]
def Ag:List MS:=[(.unpack [6,7] (.tup [(.bin .Sub (.call dB [(.var 0),(.const (.int 3))]) (.const (.int 1))),(.bin .Sub (.call dB [(.var 0),(.const (.int 3))]) (.const (.int 1)))])),(.assign 8 (.call jI [(.list [(.tup [(.tup [(.const (.int 2)),(.const (.int 0))]),(.const (.int 1))]),(.tup [(.tup [(.const (.int 1)),(.const (.int 0))]),(.bin .Sub (.bin .Sub (.const (.int 0)) (.var 2)) (.var 3))]),(.tup [(.tup [(.const (.int 0)),(.const (.int 0))]),(.bin .Mult (.var 2) (.var 3))])])])),(.ret (.tup [(.list [(.var 8),(.call jI [(.list [(.tup [(.tup [(.const (.int 0)),(.const (.int 1))]),(.const (.int 1))]),(.tup [(.tup [(.const (.int 1)),(.const (.int 0))]),(.bin .Sub (.const (.int 0)) (.var 7))]),(.tup [(.tup [(.const (.int 0)),(.const (.int 0))]),(.bin .Sub (.const (.int 0)) (.var 6))])])])]),(.list [(.tup [(.var 2),(.bin .Add (.var 6) (.bin .Mult (.var 7) (.var 2)))]),(.tup [(.var 3),(.bin .Add (.var 6) (.bin .Mult (.var 7) (.var 3)))])])]))]
section
variable {H:Hp}
theorem T1:turn dn [i,j,k,l] true [] go ρ (.tup [a,b,c,d]) H=go (slotS (slotS (slotS (slotS ρ i (some a)) j (some b)) k (some c)) l (some d)) H:=rfl
theorem W6:Still (zv z):=fun es n0 k=>by
 induction k using bL with
 |zero=>rfl
 |succ k=>induction k using bL <;> rfl
theorem Qc(z:Zs):(z.map zv).map (freezeV es n0 k)=z.map zv:=by
 induction z with
 |nil=>
  exact rfl
 |cons a z ih=>
  rw[aO,aO,W6,ih]
theorem Jv(h1:aq H' S (ar s))(h2:aq H' Z (z.map zv))(hS:n0<=S)(hZ:n0<=Z):freezeV H'.es n0 3 (.tup [.ref S,.ref Z])=ti s z:=by
 show V.tup [freezeV H'.es n0 2 (.ref S),freezeV H'.es n0 2 (.ref Z)]=_;rw[iV h1 hS,iV h2 hZ,vH,Qc];rfl
theorem aaB(X:Bx B I k l H)(hn:n0<=H.nxt):∃ρ H',denSs (denS 19) Bq (some (.ref B)::some (.int 1)::some (.int a)::some (.int b)::none::none::none::none::none::none::none::none::none::none::r) H=some (.ret (.tup [.ref (H.nxt+1),.ref H'.nxt]),ρ,(newObj H' (.list ((nt a b).map zv))).2)/\
  Bx B I k l H'/\aq H' (H.nxt+1) (ar (nh a b))/\H.nxt+2<=H'.nxt:=by
 have w1:=X.wf.new (o:=.list ([((2,0,1),(1,0,0 - a)),((1,1,1),(0,0,0)),((0,2,1),(0,1,0 - b))].map rv));have cN:aq (newObj H (.list ([((2,0,1),(1,0,0 - a)),((1,1,1),(0,0,0)),((0,2,1),(0,1,0 - b))].map rv))).2 H.nxt ([((2,0,1),(1,0,0 - a)),((1,1,1),(0,0,0)),((0,2,1),(0,1,0 - b))].map rv):=aq.c7;clear hn;obtain⟨vs,H',a1,a2,a3,a4,a5,a6⟩:=Fe (H:=(newObj H (.list ([((2,0,1),(1,0,0 - a)),((1,1,1),(0,0,0)),((0,2,1),(0,1,0 - b))].map rv))).2) (c:=H.nxt) cN (enc:=rv) (f:=turn (den 17) [10,11,12,13] true [] (cp (H.nxt+1) (.call jI [(.list [(.tup [(.var 10),(.var 11)]),(.tup [(.var 12),(.var 13)])])]) (den 17)) (some (.ref B)::some (.int 1)::some (.int a)::some (.int b)::some (.ref H.nxt)::none::none::none::none::none::none::none::none::none::r))
  (fun t v _=>v = .dct (aj (HF t))) (fun _ _ _ _ h _=>h) (fun _ _ _ _ h _=>h) (fun _=>True) (fun _ _ _ _=>trivial) (fun _ _=>trivial) w1 [((2,0,1),(1,0,0 - a)),((1,1,1),(0,0,0)),((0,2,1),(0,1,0 - b))] (by show 3<=_;decide) (fun t mt H1 acc J9 lk _ r8=>by
   have Wc:aq (newObj H1 (.list ([t.1,t.2].map pv))).2 H1.nxt ([t.1,t.2].map pv):=aq.c7;clear r8 lk mt cN w1 X;obtain⟨H2,b1,b2,b3,b4⟩:=Bd (J9.new (o:=.list ([t.1,t.2].map pv))) Wc (by show 2<=_;decide);refine⟨_,H2,?_,b2,bx (eU _) b4,(ck.new J9).trans b3,rfl⟩;have dA:∀{B:Type} {o:bq} {f:V->Hp->Option B} {H:Hp},ob (some (newObj H o)) f=f (.ref H.nxt) (newObj H o).2:=rfl;unfold rv;simp only[T1,aY,aZ,dI,jD,cH,f7,fh,bo,bk,bz,bh,bg,bj,aG,dA];rw[show[V.tup [encM t.1.1 t.1.2.1,V.int t.1.2.2],V.tup [encM t.2.1 t.2.2.1,V.int t.2.2.2]]=[t.1,t.2].map pv from rfl,b1];rfl)
 have hv:=GD (g:=fun t=>V.dct (aj (HF t))) a6;have hs:vs=ar (nh a b):=hv;rw[hs]at a4;have X':Bx B I k l H':=⟨a2,X.ne,a5 _ _ (X.b.new X.wf),a5 _ _ (X.i.new X.wf),X.len⟩;refine⟨some (.ref B)::some (.int 1)::some (.int a)::some (.int b)::some (.ref H.nxt)::some (.ref (H.nxt+1))::none::none::none::none::none::none::none::none::r,H',?_,X',a4,a3⟩;have dA:∀{B:Type} {o:bq} {f:V->Hp->Option B} {H:Hp},ob (some (newObj H o)) f=f (.ref H.nxt) (newObj H o).2:=rfl;have hr:∀(x y:Int),[V.tup [V.tup [V.int 2,V.int 0],V.int 1,V.tup [V.int 1,V.int 0],V.int x],V.tup [V.tup [V.int 1,V.int 1],V.int 1,V.tup [V.int 0,V.int 0],V.int 0],V.tup [V.tup [V.int 0,V.int 2],V.int 1,V.tup [V.int 0,V.int 1],V.int y]]=[((2,0,1),(1,0,x)),((1,1,1),(0,0,0)),((0,2,1),(0,1,y))].map rv:=fun _ _=>rfl;unfold Bq;refine aM.trans ?_;simp only[cf,f7,fh,gh,cD,bo,bk,bz,bh,bg,bj,aG,oK,dA,hr,aY,aZ,aS,bc];refine aM.trans ?_;simp only[cf,gf,bo,bk,bz,bh,bg,bj,aG,lA cN,gn,gv,aY,aZ,dI];rw[show(newObj H (.list ([((2,0,1),(1,0,0 - a)),((1,1,1),(0,0,0)),((0,2,1),(0,1,0 - b))].map rv))).2.nxt=H.nxt+1 from rfl]at a1;rw[show(newObj H (.list ([((2,0,1),(1,0,0 - a)),((1,1,1),(0,0,0)),((0,2,1),(0,1,0 - b))].map rv))).2.nxt=H.nxt+1 from rfl,a1];simp only[aG,aY,aZ,aS,bc];refine aM.trans ?_;simp only[j8,f7,fh,cD,bo,bk,bz,bh,bg,bj,aG,dA,aS,l9];rfl
theorem Q5(X:Bx B I k l H)(hk:k<=90)(ha:a.natAbs<=2)(hb:b.natAbs<=2)(hn:n0<=H.nxt) :
  ∃c d l' S H' ρ,c<3/\d<3/\denSs (denS 20) Ag (some (.ref B)::some x1::some (.int a)::some (.int b)::none::none::none::none::none::r) H=some (.ret (.tup [.ref S,.ref H'.nxt]),ρ,(newObj H' (.list ((lV a b (Int.ofNat c - 1) (Int.ofNat d - 1)).map zv))).2)/\
  Bx B I (k+2) l' H'/\aq H' S (ar (mV a b (Int.ofNat c - 1) (Int.ofNat d - 1)))/\H.nxt<=S/\H.nxt<=H'.nxt:=by
 exists fH (kR X (by lia) (m:=3) dq),c,l1,H1,hc,e1,X1,n1;exists fH (kR X1 (by lia) (m:=3) dq),d,l2,H2,hd,e2,X2,n2;have w3:=X2.wf.new (o:=.list ([(2,0,1),(1,0,0 - a - b),(0,0,a * b)].map pv));clear X1 hn hk X;obtain⟨H4,e4,w4,k4,n4⟩:=Bd (H:=(newObj H2 (.list ([(2,0,1),(1,0,0 - a - b),(0,0,a * b)].map pv))).2) (P:=H2.nxt) w3 aq.c7 (by show 3<=_;decide);have w5:=w4.new (o:=.list ([(0,1,1),(1,0,0 - (Int.ofNat d - 1)),(0,0,0 - (Int.ofNat c - 1))].map pv));clear w3;obtain⟨H6,e6,w6,k6,n6⟩:=Bd (H:=(newObj H4 (.list ([(0,1,1),(1,0,0 - (Int.ofNat d - 1)),(0,0,0 - (Int.ofNat c - 1))].map pv))).2) (P:=H4.nxt) w5 aq.c7 (by show 3<=_;decide);have K:ck H2 H6:=((((ck.new X2.wf).trans k4).trans (ck.new w4)).trans k6);have X6:Bx B I (k+1+1) l2 H6:=⟨w6,X2.ne,K _ _ X2.b,K _ _ X2.i,X2.len⟩;have n4':H2.nxt+1<=H4.nxt:=n4;have n6':H4.nxt+1<=H6.nxt:=n6;have iF:dB [.ref B,V.int 3] H=some (az c,H1):=e1;have jb:dB [.ref B,V.int 3] H1=some (az d,H2):=e2;have m1:∀H,binOp .Mult (V.int a) (V.int b) H=some (V.int (a * b),H):=fun H=>fg (by lia) (by lia);have m2:∀H,binOp .Mult (V.int (Int.ofNat d - 1)) (V.int a) H=some (V.int ((Int.ofNat d - 1) * a),H):=fun H=>fg (by have:(Int.ofNat d)=(d:Int):=rfl;lia) (by lia);have m3:∀H,binOp .Mult (V.int (Int.ofNat d - 1)) (V.int b) H=some (V.int ((Int.ofNat d - 1) * b),H):=fun H=>fg (by have:(Int.ofNat d)=(d:Int):=rfl;lia) (by lia);have s1:∀n H,binOp .Sub (az n) (V.int 1) H=some (V.int (Int.ofNat n - 1),H):=fun _ _=>rfl;have dA:∀{B:Type} {o:bq} {f:V->Hp->Option B} {H:Hp},ob (some (newObj H o)) f=f (.ref H.nxt) (newObj H o).2:=rfl;have QQ:∀(x y:Int),[V.tup [V.tup [V.int 2,V.int 0],V.int 1],V.tup [V.tup [V.int 1,V.int 0],V.int x],V.tup [V.tup [V.int 0,V.int 0],V.int y]]=[(2,0,1),(1,0,x),(0,0,y)].map pv:=fun _ _=>rfl;have UY:∀(x y:Int),[V.tup [V.tup [V.int 0,V.int 1],V.int 1],V.tup [V.tup [V.int 1,V.int 0],V.int x],V.tup [V.tup [V.int 0,V.int 0],V.int y]]=[(0,1,1),(1,0,x),(0,0,y)].map pv:=fun _ _=>rfl;refine⟨c,d,l2,H6.nxt,(newObj H6 (.list (ar (mV a b (Int.ofNat c - 1) (Int.ofNat d - 1))))).2,some (.ref B)::some x1::some (.int a)::some (.int b)::none::none::some (.int (Int.ofNat c - 1))::some (.int (Int.ofNat d - 1))::some (.dct (aj (polyG [(2,0,1),(1,0,0 - a - b),(0,0,a * b)] [])))::r,hc,hd,?_,X6.new _,aq.c7,by lia,by show _<=H6.nxt+1;lia⟩;unfold Ag;refine aM.trans ?_;simp only[gO,fh,gh,cH,cD,bo,bk,bz,bh,bg,bj,aG,iF,jb,s1,jP,gL,aY,aZ,aS,bc];refine aM.trans ?_;simp only[cf,f7,fh,gh,cH,cD,bo,bk,bz,bh,bg,bj,aG,oK,m1,dA,QQ,e4,aY,aZ,aS,bc];refine aM.trans ?_;simp only[j8,f7,fh,gh,cH,cD,bo,bk,bz,bh,bg,bj,aG,oK,s7,m2,m3,dA,UY,e6,aS,l9];rfl
theorem L1(X:Bx B I k l H)(hk:k<=50):∃a b,a<5/\b<5/\
  ((∃l' H',nA [.ref B] H=some (ti (nh (Int.ofNat a - 2) (Int.ofNat b - 2)) (nt (Int.ofNat a - 2) (Int.ofNat b - 2)),H')/\Bx B I (k+3) l' H')\/
   (∃c d l' H',c<3/\d<3/\nA [.ref B] H=some (ti (mV (Int.ofNat a - 2) (Int.ofNat b - 2) (Int.ofNat c - 1) (Int.ofNat d - 1)) (lV (Int.ofNat a - 2) (Int.ofNat b - 2) (Int.ofNat c - 1) (Int.ofNat d - 1)),H')/\Bx B I (k+5) l' H')):=by
 exists fH (kR X (by lia) (m:=2) dq),f,l1,H1,hf,e1,X1,n1;exists fH (kR X1 (by lia) (m:=5) dq),a,l2,H2,ha,e2,X2,n2;exists fH (kR X2 (by lia) (m:=5) dq),b,l3,H3,hb,e3,X3,n3;have hB:=cO X.wf X.b;have hI:=cO X.wf X.i;have iF:dB [.ref B,V.int 2] H=some (az f,H1):=e1;have jb:dB [.ref B,V.int 5] H1=some (az a,H2):=e2;have pY:dB [.ref B,V.int 5] H2=some (az b,H3):=e3;have s1:∀n H,binOp .Sub (az n) (V.int 2) H=some (V.int (Int.ofNat n - 2),H):=fun _ _=>rfl;have s2:∀n H,binOp .Sub (V.int 1) (az n) H=some (V.int (1 - Int.ofNat n),H):=fun _ _=>rfl;refine⟨a,b,ha,hb,?_⟩;clear e3 X2 e2 X1 e1 X;rcases (show f=0\/f=1 by lia)with rfl|rfl
 ·left;exists jQ (aaB (n0:=H.nxt) (a:=Int.ofNat a - 2) (b:=Int.ofNat b - 2) (r:=cu 8 none) X3 (by lia)),ρ,H',a1,a2,a3,a4;have yl:=a2.new (.list ((nt (Int.ofNat a - 2) (Int.ofNat b - 2)).map zv));refine⟨l3,⟨H'.nxt+1,dropNew H.nxt (newObj H' (.list ((nt (Int.ofNat a - 2) (Int.ofNat b - 2)).map zv))).2.es⟩,?_,yl.leave hB hI (by lia)⟩;unfold nA zy xe;rw[iB,aM];unfold Bq at a1;simp only[rep0,rep1]at a1;simp only[gO,fh,gh,cH,cD,bo,bk,bz,rep0,rep1,bh,bg,bj,aG,iF,jb,pY,s1,s2,lP,gL,aY,aZ,aS,bc];rw[aM];rw[show(1 - Int.ofNat 0)=1 from rfl];simp only[hO,fv,cD,bo,bh,bg,bj,aG,show ∀H,bu .Eq (V.int 1) (V.int 1) H=some true from fun _=>rfl,fJ,fD,ui];rw[a1];simp only[aS,l9,oT];show some (freezeV _ H.nxt 3 (.tup [.ref (H3.nxt+1),.ref H'.nxt]),(⟨H'.nxt+1,_⟩:Hp))=_;rw[Jv (a3.new a2.wf) aq.c7 (by lia) (by lia)]
 ·right;clear hf;obtain⟨c,d,l4,S,H',ρ,hc,hd,a1,a2,a3,a4,a5⟩:=Q5 (n0:=H.nxt) (x1:=.int 0) (a:=Int.ofNat a - 2) (b:=Int.ofNat b - 2) (r:=cu 13 none) X3 (by lia) (by have:(Int.ofNat a)=(a:Int):=rfl;lia) (by have:(Int.ofNat b)=(b:Int):=rfl;lia) (by lia);have yl:=a2.new (.list ((lV (Int.ofNat a - 2) (Int.ofNat b - 2) (Int.ofNat c - 1) (Int.ofNat d - 1)).map zv));refine⟨c,d,l4,⟨H'.nxt+1,dropNew H.nxt (newObj H' (.list ((lV (Int.ofNat a - 2) (Int.ofNat b - 2) (Int.ofNat c - 1) (Int.ofNat d - 1)).map zv))).2.es⟩,hc,hd,?_,yl.leave hB hI (by lia)⟩;unfold nA zy xe;rw[iB,aM];unfold Ag at a1;simp only[rep0,rep1]at a1;simp only[gO,fh,gh,cH,cD,bo,bk,bz,rep0,rep1,bh,bg,bj,aG,iF,jb,pY,s1,s2,lP,gL,aY,aZ,aS,bc];rw[aM];rw[show(1 - Int.ofNat 1)=0 from rfl];simp only[hO,fv,cD,bo,bh,bg,bj,aG,show ∀H,bu .Eq (V.int 0) (V.int 1) H=some false from fun _=>rfl,fJ,fD,iR,gx,aS,bc];rw[a1];simp only[oT];show some (freezeV _ H.nxt 3 (.tup [.ref S,.ref H'.nxt]),(⟨H'.nxt+1,_⟩:Hp))=_;rw[Jv (a3.new a2.wf) aq.c7 (by lia) (by lia)]
end
end
section
open PySem
noncomputable def BP(u v:Int)(row:List Int)(a:Nat×Int):Int:=match row[a.1]? with
 |some y=>u * a.2+v * y
 |none=>0
def Jh(u v:Int)(row:List Int)(a:Nat×Int):Bool:=match row[a.1]? with
 |some y=>match bndZ a.2 with
  |true=>bndZ y
  |false=>false
 |none=>false
def vS(u v:Int)(f2:List (List Int))(a:Nat×List Int):List Int:=match f2[a.1]? with
 |some row=>(dN 0 a.2).map (BP u v row)
 |none=>[]
def bothRowOk(u v:Int)(f2:List (List Int))(a:Nat×List Int):Bool:=match f2[a.1]? with
 |some row=>match b8 a.2.length 500 with
  |true=>match b8 row.length 500 with
   |true=>allB (Jh u v row) (dN 0 a.2)
   |false=>false
  |false=>false
 |none=>false
def Kg(u v:Int)(f1 f2:List (List Int)):List (List Int):=(enumM 0 f1).map (vS u v f2)
def A1(u v:Int)(f1 f2:List (List Int)):Option (List (List Int)):=match b8 f1.length 500 with
 |true=>match b8 f2.length 500 with
  |true=>match allB (bothRowOk u v f2) (enumM 0 f1)with
   |true=>some (Kg u v f1 f2)
   |false=>none
  |false=>none
 |false=>none
def xy(a:Nat×List Int):V:=.tup [az a.1,cj a.2]
theorem MM(r:List (List Int)):∀(i:Nat),enumL (Int.ofNat i) (r.map cj)=(enumM i r).map xy:=by
 induction r with
 |nil=>
  intro _;exact rfl
 |cons p r ih=>
  intro i;show V.tup [az i,cj p]::enumL (Int.ofNat (i+1)) (r.map cj)=_;rw[ih (i+1)];rfl
noncomputable def sd:ME:=(.lcomp [18,19,20] (.tup [(.bin .Add (.bin .Mult (.var 5) (.var 20)) (.bin .Mult (.var 6) (.sub (.sub (.var 10) (.var 16)) (.var 19)))),(.const (.int 1))]) [([19,20],true,.enum,[(.var 17)],[])])
def uI:ME:=(.lcomp [15,16,17] sd [([16,17],true,.enum,[(.var 9)],[])])
section
variable {H:Hp}
set_option tactic.hygienic true in
theorem WM(hu:bndZ u=true)(hv:bndZ v=true)(hb:f2.length<=500)(h:bothRowOk u v f2 (i,row)=true) :
  den (n+10) sd (x0::x1::x2::x3::x4::some (.int u)::some (.int v)::x7::x8::x9::some (encMat f2)::x11::x12::x13::x14::x15::some (az i)::some (cj row)::x18::x19::x20::ρ) H=some (.ref H.nxt,(newObj H (.list ((vS u v f2 (i,row)).map z1))).2):=by
 unfold bothRowOk at h;unfold vS;dsimp only at h ⊢;split at h
 rotate_left
 ·exact bf h
 rename_i zk gu;split at h
 rotate_left
 ·exact bf h
 rename_i h1;split at h
 rotate_left
 ·exact bf h
 rename_i h2;have h1:=bC h1;have h2:=bC h2;have cY:=dr h;clear h;obtain⟨nx,es⟩:=H;have it:∀H,iterOf H .enum [cj row]=some (enumL (Int.ofNat 0) (row.map V.int)):=fun _=>rfl;have e1:∀H,subs H (encMat f2) (az i)=some (cj zk):=fun H=>Iu (by lia) gu;have this:=dF (k:=nx) (n:=nx+1) (es:=es) (enc:=qR) (f:=turn (den (n+9)) [19,20] true [] (cp nx (.tup [(.bin .Add (.bin .Mult (.var 5) (.var 20)) (.bin .Mult (.var 6) (.sub (.sub (.var 10) (.var 16)) (.var 19)))),(.const (.int 1))]) (den (n+9))) (x0::x1::x2::x3::x4::some (.int u)::some (.int v)::x7::x8::x9::some (encMat f2)::x11::x12::x13::x14::x15::some (az i)::some (cj row)::none::none::none::ρ)) (fun a=>[z1 (BP u v zk a)]) (dN 0 row) [] (fun a m acc ha=>by
  have hk:=cY a m;unfold Jh at hk;unfold BP;split at hk
  rotate_left
  ·exact bf hk
  rename_i y hy;split at hk
  rotate_left
  ·exact bf hk
  rename_i h3;have e2:∀H,subs H (cj zk) (az a.1)=some (V.int y):=fun H=>GV (by lia) hy;have m1:∀H,binOp .Mult (V.int u) (V.int a.2) H=some (V.int (u * a.2),H):=fun H=>fg (bx (gi hu) dq) (bx (gi h3) dq);have m2:∀H,binOp .Mult (V.int v) (V.int y) H=some (V.int (v * y),H):=fun H=>fg (bx (gi hv) dq) (bx (gi hk) dq);unfold qR;simp! only[e1,e2,m1,m2,s7];exact dm ha) (by rw[eW,vG];show 0+_<=_;lia)
 rw[eJ,dh,<- GU]at this;have key:=iX (c:=row.map V.int) this;rw[show V.lst (row.map V.int)=cj row from rfl]at key;unfold sd;simp! only[it];rw[key,d5];rfl
theorem NV(w:WF H)(hu:bndZ u=true)(hv:bndZ v=true)(e:A1 u v f1 f2=some m) :
  ∃js H',den (n+12) uI (x0::x1::x2::x3::x4::some (.int u)::some (.int v)::x7::x8::some (encMat f1)::some (encMat f2)::x11::x12::x13::x14::x15::x16::x17::x18::x19::x20::ρ) H=some (.ref H.nxt,H')/\
   WF H'/\H.nxt+1<=H'.nxt/\aq H' H.nxt (js.map V.ref)/\Rows H' H.nxt (H.nxt+1) js (m.map fun r=>r.map z1)/\ck H H':=by
 exists cm e,h1,e;exists cm e,h2,e;exists cm e,cY,e;have h1:=bC h1;have h2:=bC h2;have cY:=dr cY;exists e;clear e;obtain⟨vs,H',a1,a2,a3,a4,a5,a6⟩:=r9 (H:=H) (enc:=xy) (vs0:=[encMat f1]) (f:=turn (den (n+11)) [16,17] true [] (cp H.nxt sd (den (n+11))) (x0::x1::x2::x3::x4::some (.int u)::some (.int v)::x7::x8::some (encMat f1)::some (encMat f2)::x11::x12::x13::x14::none::none::none::x18::x19::x20::ρ))
  (kE (H.nxt+1) H.nxt fun x=>(vS u v f2 x).map z1) (fun _ _ _ _ h k=>sC h k) (fun _=>True) (fun _ _ _ _=>trivial) w trivial (enumM 0 f1) (by rw[FZ];lia) (fun _ _=>⟨rfl,rfl⟩) (fun x mx H1 acc w1 lk _ hn=>by
   have b1:=WM (H:=H1) (n:=n+1) (i:=x.1) (row:=x.2) (f2:=f2) hu hv h2 (cY x mx) (x0:=x0) (x1:=x1) (x2:=x2) (x3:=x3) (x4:=x4) (x7:=x7) (x8:=x8) (x9:=some (encMat f1)) (x11:=x11) (x12:=x12) (x13:=x13) (x14:=x14) (x15:=none) (x18:=x18) (x19:=x19) (x20:=x20) (ρ:=ρ);refine⟨.ref H1.nxt,_,?_,w1.new,eU _,ck.new w1,H1.nxt,rfl,hn,by exact Ne.symm (eR hn),aq.c7⟩;unfold xy;simp only[qk,aY,aZ,dI,jD];rw[show n+1+10=n+11 from rfl]at b1;rw[b1,aG])
 exists ae (sY a6),js,e1,R;clear a6 cY h2 h1 hv hu w;subst e1;have it:∀H,iterOf H .enum [encMat f1]=some (enumL (Int.ofNat 0) (f1.map cj)):=fun _=>rfl;refine⟨js,H',?_,a2,a3,a4,?_,a5⟩
 ·unfold uI;simp only[gf,bo,bk,bz,bh,bg,bj,aG,it,gn,gv,aY,aZ,dI];rw[MM];exact a1
 ·unfold Kg;rw[d5];exact R
end
end
section
open PySem
theorem ND(h:a≠b)(es:List Ent):put (put es a x o) b y p=put (put es b y p) a x o:=by
 induction es with
 |nil=>rfl
 |cons e0 r ih=>
  obtain⟨i,l,q⟩:=e0;by_cases e:i=a
  ·clear ih;subst e;rw[j9,eN h,eN h,j9]
  ·by_cases e2:i=b
   ·clear h ih;subst e2;rw[eN e,j9,j9,eN e]
   ·rw[eN e,eN e2,eN e2,eN e,ih]
section
variable {H:Hp}
theorem RD(ha:look es a=some ⟨a,false,oa⟩)(hb:look es b=some ⟨b,false,lJ⟩)(gJ:a≠b)(qg:k≠a)(qT:k≠b)
  (h:forItems f items ⟨n,⟨k,false,.list []⟩::put (put es a true oa) b true lJ⟩=some ⟨n,⟨k,false,.list l⟩::put (put es a true oa) b true lJ⟩) :
  compGo k f items [.ref a,.ref b] ⟨n,⟨k,false,.list []⟩::es⟩=some (.ref k,⟨n,⟨k,false,.list l⟩::es⟩):=by
 have lG:look (put es a true oa) b=some ⟨b,false,lJ⟩:=(eP gJ.symm).trans hb;have hl:lockH ⟨n,⟨k,false,.list []⟩::es⟩ [.ref a,.ref b]=⟨n,⟨k,false,.list []⟩::put (put es a true oa) b true lJ⟩:=by
  show(⟨n,cN (cN (⟨k,false,.list []⟩::es) (.ref a)) (.ref b)⟩:Hp)=_;rw[w9 ((dg qg).trans ha),eN qg,w9 ((dg qT).trans lG),eN qT]
 have ha2:look (put (put es a true oa) b true lJ) a=some ⟨a,true,oa⟩:=(eP gJ).trans (m8 ha);have kb:look (put (put es a true oa) b true lJ) b=some ⟨b,true,lJ⟩:=m8 lG;show dw k (unlH (⟨k,false,.list []⟩::es) [.ref a,.ref b] (forItems f items (lockH ⟨n,⟨k,false,.list []⟩::es⟩ [.ref a,.ref b])))=_;rw[hl,h];show dw k (some ⟨n,gQ (⟨k,false,.list []⟩::es) (gQ (⟨k,false,.list []⟩::es) (⟨k,false,.list l⟩::put (put es a true oa) b true lJ) (.ref a)) (.ref b)⟩)=_;rw[qz ((dg qg).trans ha) ((dg qg).trans ha2),eN qg,qz ((dg qT).trans hb) ((dg qT).trans ((eP gJ.symm).trans kb)),eN qT,ND gJ.symm,yC,yC,lX ha,lX hb,rS]
noncomputable def dueStep(w:Int)(d:List Int):List Int:=((0::d).zip (d++[0])).map fun p=>p.1 - w * p.2
def mM(u v:Int):Zs->List Int->List Int
 |[],d=>d
 |z::r,d=>mM u v r (dueStep (u * z.1+v * z.2) d)
def stepOk(u v:Int)(z:Int×Int)(d:List Int):Bool:=match bndZ z.1 with
 |true=>match bndZ z.2 with
  |true=>match bndZ (u * z.1+v * z.2)with
   |true=>match allB bndZ d with
    |true=>b8 d.length 500
    |false=>false
   |false=>false
  |false=>false
 |false=>false
def dueOk(u v:Int):Zs->List Int->Bool
 |[],d=>b8 d.length 500
 |z::r,d=>match stepOk u v z d with
  |true=>dueOk u v r (dueStep (u * z.1+v * z.2) d)
  |false=>false
noncomputable def we(p:Int×Int):V:=.tup [.int p.1,.int p.2]
theorem Kk:∀(a b:List Int),zipL (a.map V.int) (b.map V.int)=(a.zip b).map we
 |[],_=>rfl
 |_::_,[]=>rfl
 |x::a,y::b=>by
  show V.tup [.int x,.int y]::zipL (a.map V.int) (b.map V.int)=_;rw[Kk a b];rfl
noncomputable def qy:ME:=(.lcomp [15,16,17] (.bin .Sub (.var 16) (.bin .Mult (.bin .Add (.bin .Mult (.var 5) (.var 13)) (.bin .Mult (.var 6) (.var 14))) (.var 17))) [([16,17],true,.zip,[(.bin .Add (.list [(.const (.int 0))]) (.var 12)),(.bin .Add (.var 12) (.list [(.const (.int 0))]))],[])])
theorem YD(w:WF H)(hD:aq H D (d.map V.int))(hu:bndZ u=true)(hv:bndZ v=true)(h:stepOk u v z d=true) :
  ∃H',den (n+9) qy (x0::x1::x2::x3::x4::some (.int u)::some (.int v)::x7::x8::x9::x10::x11::some (.ref D)::some (.int z.1)::some (.int z.2)::x15::x16::x17::ρ) H=some (.ref (H.nxt+4),H')/\
   WF H'/\H.nxt<=H'.nxt/\aq H' (H.nxt+4) ((dueStep (u * z.1+v * z.2) d).map V.int)/\ck H H':=by
 exists kb2 h,h1,h;exists kb2 h,h2,h;exists kb2 h,h3,h;exists kb2 h,h4,h;have hl:=bC h;have h4:=dr h4;have nX:=cO w hD;have w1:=w.new (o:=.list [.int 0]);have w2:=w1.new (o:=.list (((0::d).map V.int)));have w3:=w2.new (o:=.list [.int 0]);have w4:=w3.new (o:=.list ((d++[0]).map V.int));have w5:=w4.new (o:=.list ((dueStep (u * z.1+v * z.2) d).map V.int));have D1:=hD.new w (o:=.list [.int 0]);have D2:=D1.new w1 (o:=.list ((0::d).map V.int));have D3:=D2.new w2 (o:=.list [.int 0]);have c1:aq (newObj H (.list [.int 0])).2 H.nxt [.int 0]:=aq.c7;have e1:=BW A2 tx c1.view D1.view (by show 1<=_;decide) (by rw[aJ];lia);have iF:binOp .Add (.ref H.nxt) (.ref D) (newObj H (.list [.int 0])).2=some (newObj (newObj H (.list [.int 0])).2 (.list ((0::d).map V.int))):=e1;have c3:aq (newObj (newObj (newObj H (.list [.int 0])).2 (.list ((0::d).map V.int))).2 (.list [.int 0])).2 (H.nxt+2) [.int 0]:=aq.c7;have e2:=BW A2 tx D3.view c3.view (by rw[aJ];lia) (by show 1<=_;decide);have jb:binOp .Add (.ref D) (.ref (H.nxt+2)) (newObj (newObj (newObj H (.list [.int 0])).2 (.list ((0::d).map V.int))).2 (.list [.int 0])).2=some (newObj (newObj (newObj (newObj H (.list [.int 0])).2 (.list ((0::d).map V.int))).2 (.list [.int 0])).2 (.list ((d++[0]).map V.int))):=by
  rw[e2,gM];rfl
 have a2:aq (newObj (newObj (newObj (newObj H (.list [.int 0])).2 (.list ((0::d).map V.int))).2 (.list [.int 0])).2 (.list ((d++[0]).map V.int))).2 (H.nxt+1) ((0::d).map V.int):=((aq.c7 (H:=(newObj H (.list [.int 0])).2) (l:=(0::d).map V.int)).new w2).new w3;have a4:aq (newObj (newObj (newObj (newObj H (.list [.int 0])).2 (.list ((0::d).map V.int))).2 (.list [.int 0])).2 (.list ((d++[0]).map V.int))).2 (H.nxt+3) ((d++[0]).map V.int):=aq.c7;have it:iterOf (newObj (newObj (newObj (newObj H (.list [.int 0])).2 (.list ((0::d).map V.int))).2 (.list [.int 0])).2 (.list ((d++[0]).map V.int))).2 .zip [.ref (H.nxt+1),.ref (H.nxt+3)]=some (((0::d).zip (d++[0])).map we):=by
  show(match listView _ (V.ref (H.nxt+1)),listView _ (V.ref (H.nxt+3))with
   |some x,some y=>some (zipL x y)
   |_,_=>none)=_
  rw[a2.view,a4.view];show some (zipL _ _)=_;rw[Kk]
 clear e2 c3 e1 c1 D3 D2 D1 nX h hD;obtain⟨nx,es⟩:=H;have m1:∀H,binOp .Mult (V.int u) (V.int z.1) H=some (V.int (u * z.1),H):=fun H=>fg (bx (gi hu) dq) (bx (gi h1) dq);have m2:∀H,binOp .Mult (V.int v) (V.int z.2) H=some (V.int (v * z.2),H):=fun H=>fg (bx (gi hv) dq) (bx (gi h2) dq);have this:=dF (k:=nx+4) (n:=nx+5) (es:=put (put (newObj (newObj (newObj (newObj ⟨nx,es⟩ (.list [.int 0])).2 (.list ((0::d).map V.int))).2 (.list [.int 0])).2 (.list ((d++[0]).map V.int))).2.es (nx+1) true (.list ((0::d).map V.int))) (nx+3) true (.list ((d++[0]).map V.int))) (enc:=we) (f:=turn (den (n+8)) [16,17] true [] (cp (nx+4) (.bin .Sub (.var 16) (.bin .Mult (.bin .Add (.bin .Mult (.var 5) (.var 13)) (.bin .Mult (.var 6) (.var 14))) (.var 17))) (den (n+8))) (x0::x1::x2::x3::x4::some (.int u)::some (.int v)::x7::x8::x9::x10::x11::some (.ref D)::some (.int z.1)::some (.int z.2)::none::none::none::ρ)) (fun p=>[V.int (p.1 - (u * z.1+v * z.2) * p.2)]) ((0::d).zip (d++[0])) [] (fun p m acc ha=>by
  have mF:bndZ p.2=true:=by
   have:=(List.of_mem_zip m).2;clear ha m m2 m1 it a4 a2 jb iF w5 w4 w3 w2 w1 w hl h3 h2 h1 hv hu;rcases lO.mp this with q|q
   ·exact h4 p.2 q
   ·rw[c9.mp q];rfl
  have m3:∀H,binOp .Mult (V.int (u * z.1+v * z.2)) (V.int p.2) H=some (V.int ((u * z.1+v * z.2) * p.2),H):=fun H=>fg (bx (gi h3) dq) (bx (gi mF) dq);unfold we;simp! only[m1,m2,m3,s7,oK];exact dm ha) (by
   rw[eW,List.length_zip,d8];show 0+min (d.length+1) (d.length+1)<=_;rw[Nat.min_self];lia)
 rw[eJ,dh]at this;have key:=RD (k:=nx+4) (a:=nx+1) (b:=nx+3) a2 a4 (W.Z.off_ne nx 1 3 rfl) (W.Z.off_ne nx 4 1 rfl) (W.Z.off_ne nx 4 3 rfl) this;refine⟨_,?_,w5,by show nx<=nx+5;exact Nat.le_add_right nx 5,aq.c7,((((ck.new w).trans (ck.new w1)).trans (ck.new w2)).trans (ck.new w3)).trans (ck.new w4)⟩;have dA:∀{B:Type} {o:bq} {f:V->Hp->Option B} {H:Hp},ob (some (newObj H o)) f=f (.ref H.nxt) (newObj H o).2:=rfl;have q1:∀o,(newObj ⟨nx,es⟩ o).2.nxt=nx+1:=fun _=>rfl;have q2:∀o o',(newObj (newObj ⟨nx,es⟩ o).2 o').2.nxt=nx+2:=fun _ _=>rfl;have q3:∀o o' qW,(newObj (newObj (newObj ⟨nx,es⟩ o).2 o').2 qW).2.nxt=nx+3:=fun _ _ _=>rfl;have q4:∀o o' qW o3,(newObj (newObj (newObj (newObj ⟨nx,es⟩ o).2 o').2 qW).2 o3).2.nxt=nx+4:=fun _ _ _ _=>rfl;unfold qy;simp only[gf,gh,f7,cD,bo,bk,bz,bh,bg,bj,aG,dA,iF,q1,q2,jb,q3,it,q4,gn,gv,aY,aZ,dI];unfold dueStep;rw[d5];exact key
end
end
section
open PySem
def qc:List MS:=[(.assign 7 (.call vM [(.var 2),(.var 4),(.const (.int 40))])),(.assign 8 (.call u7 [(.var 7),(.var 4),(.const (.int 2))])),(.if_ (.cmp .NotEq (.bi .len [(.var 8)]) (.bi .len [(.var 3)])) [(.ret (.const (.bool false)))] []),(.unpack [9,10] (.tup [(.call kN [(.const (.int 0)),(.var 8),(.var 7),(.var 4)]),(.call kN [(.const (.int 1)),(.var 8),(.var 7),(.var 4)])])),(.if_ (.eT [(.cmp .Eq (.var 9) (.list [])),(.cmp .Eq (.var 10) (.list [])),(.cmp .NotEq (.call pj [(.var 9),(.var 10)]) (.call pj [(.var 10),(.var 9)]))]) [(.ret (.const (.bool false)))] []),(.assign 11 uI),(.assign 12 (.list [(.const (.int 1))])),(.for_ [13,14] true .seq [(.var 3)] [(.assign 12 qy)]),(.ret (.cmp .Eq (.call rY [(.var 11)]) (.lcomp [15,16] (.tup [(.var 16),(.const (.int 1))]) [([16],false,.seq,[(.var 12)],[])])))]
structure LX (o:Bool) (s:List Po) (zs:Zs) (u v:Int) (b:List Po) (pw:List Pr) (f1 f2 t m:List (List Int)) (n:Nat):Prop where
 h1:∀p∈s,aW p
 h2:s.length<=40
 h3:sh o s=some b
 h4:b.length<=900
 h5:std o b=some pw
 h6:pw.length=zs.length
 h7:pw.length<=500
 h8:letG o 1 0 b pw pw=some f1
 h9:letG o 0 1 b pw pw=some f2
 Ad:f1≠[]
 wR:f2≠[]
 AG:∀r∈f1,r.length<=1000
 zz:∀r∈f2,r.length<=1000
 xp:timesS f1 f2=some t
 Bk:timesS f2 f1=some t
 uZ:bndZ u=true
 w7:bndZ v=true
 wC:A1 u v f1 f2=some m
 zU:n=2\/n=3
 h20:m≠[]
 xw:charS n m=some (mM u v zs [1])
 zQ:dueOk u v zs [1]=true
noncomputable def kY(o:Bool)(s:List Po)(zs:Zs)(u v:Int):Prop:=∃b pw f1 f2 t m n,LX o s zs u v b pw f1 f2 t m n
section
variable {H:Hp}
theorem L3(r:List Int):gA (teq (n+1)) (r.map V.int) (r.map V.int)=true:=by
 induction r with
 |nil=>
  exact rfl
 |cons a r ih=>
  show(match ieq a a with
   |true=>gA (teq (n+1)) (r.map V.int) (r.map V.int)
   |false=>false)=true
  rw[(ieq_iff a a).mpr rfl];exact ih
theorem aaC(m:List (List Int)):gA (teq (n+2)) (m.map cj) (m.map cj)=true:=by
 induction m with
 |nil=>
  exact rfl
 |cons r m ih=>
  show(match gA (teq (n+1)) (r.map V.int) (r.map V.int)with
   |true=>gA (teq (n+2)) (m.map cj) (m.map cj)
   |false=>false)=true
  rw[L3];exact ih
theorem aaF(m:List Int):gA (teq (n+2)) (m.map z1) (m.map z1)=true:=by
 induction m with
 |nil=>
  exact rfl
 |cons a m ih=>
  show(match (match ieq a a with
    |true=>true
    |false=>false)with
   |true=>gA (teq (n+2)) (m.map z1) (m.map z1)
   |false=>false)=true
  rw[(ieq_iff a a).mpr rfl];exact ih
theorem QY(m:List (List Int)):resL (res H (k+2)) (m.map cj)=some (m.map cj):=by
 induction m with
 |nil=>
  exact rfl
 |cons r m ih=>
  show(match mkL (resL (res H (k+1)) (r.map V.int))with
   |some b=>match resL (res H (k+2)) (m.map cj)with
    |some s=>some (b::s)
    |none=>none
   |none=>none)=_
  rw[FQ,ih];rfl
theorem Gm(m:List Int):resL (res H (k+2)) (m.map z1)=some (m.map z1):=by
 induction m with
 |nil=>
  exact rfl
 |cons a m ih=>
  show(match res H (k+2) (z1 a)with
   |some b=>match resL (res H (k+2)) (m.map z1)with
    |some s=>some (b::s)
    |none=>none
   |none=>none)=_
  rw[show res H (k+2) (z1 a)=some (z1 a)from rfl,ih];rfl
theorem Fd:res H 7 (encMat m)=some (encMat m):=by
 show mkL (resL (res H 6) (m.map cj))=_;rw[QY (k:=4)];rfl
theorem LM:bu .NotEq (encMat t) (encMat t) H=some false:=by
 show jm (match res H 7 (encMat t)with
  |some a=>match res H 7 (encMat t)with
   |some b=>some (teq deepN a b)
   |none=>none
  |none=>none)=_
 rw[Fd];show some (!(gA (teq 7) (t.map cj) (t.map cj)))=_;rw[aaC (n:=5)];rfl
theorem FE(hf:f≠[])(h:aq H j []):bu .Eq (encMat f) (.ref j) H=some false:=by
 have e2:res H 7 (.ref j)=some (.lst []):=by
  show resR (res H 6) (look H.es j)=_;rw[show look H.es j=_ from h];rfl
 show(match res H 7 (encMat f)with
  |some a=>match res H 7 (.ref j)with
   |some b=>some (teq deepN a b)
   |none=>none
  |none=>none)=_
 rw[Fd,e2];clear e2 h;induction f using aN with
 |nil=>exact(hf rfl).elim
 |cons r f=>rfl
theorem LC{l:List Int}{j:Nat}(h:aq H j (l.map z1)):bu .Eq (.lst (l.map z1)) (.ref j) H=some true:=by
 have e1:res H 7 (.lst (l.map z1))=some (.lst (l.map z1)):=by
  show mkL (resL (res H 6) (l.map z1))=_;rw[Gm (k:=4)];rfl
 have e2:res H 7 (.ref j)=some (.lst (l.map z1)):=by
  show resR (res H 6) (look H.es j)=_;rw[show look H.es j=_ from h];show mkL (resL (res H 6) (l.map z1))=_;rw[Gm (k:=4)];rfl
 show(match res H 7 (.lst (l.map z1))with
  |some a=>match res H 7 (.ref j)with
   |some b=>some (teq deepN a b)
   |none=>none
  |none=>none)=_
 rw[e1,e2];show some (gA (teq 7) (l.map z1) (l.map z1))=_;rw[aaF (n:=5)]
theorem UD{n D:Nat}{d:List Int}(hD:aq H D (d.map V.int))(w:WF H)(hl:d.length<=1000){x0 x1 x2 x3 x4 x5 x6 x7 x8 x9 x10 x11 x13 x14 x15 x16:Option V}{ρ:ai} :
  den (n+8) (.lcomp [15,16] (.tup [(.var 16),(.const (.int 1))]) [([16],false,.seq,[(.var 12)],[])]) (x0::x1::x2::x3::x4::x5::x6::x7::x8::x9::x10::x11::some (.ref D)::x13::x14::x15::x16::ρ) H=some (.ref H.nxt,(newObj H (.list (d.map z1))).2):=by
 have nX:=cO w hD;clear w;obtain⟨nx,es⟩:=H;have nX:D<nx:=nX;have this:=dF (k:=nx) (n:=nx+1) (es:=put es D true (.list (d.map V.int))) (enc:=V.int) (f:=turn (den (n+7)) [16] false [] (cp nx (.tup [(.var 16),(.const (.int 1))]) (den (n+7))) (x0::x1::x2::x3::x4::x5::x6::x7::x8::x9::x10::x11::some (.ref D)::x13::x14::none::none::ρ)) (fun x=>[z1 x]) d [] (fun x m acc ha=>by
  simp! only[];exact dm ha) (by rw[eW];show 0+_<=_;lia)
 rw[eJ,dh]at this;have key:=mT (o:=.list (d.map V.int)) hD (show nx≠D by lia) this;simp! only[lA hD];exact key
def vX:List MS:=[(.assign 12 qy)]
theorem LR(hu:bndZ u=true)(hv:bndZ v=true):∀(zs:Zs) (d:List Int) (D:Nat) (H:Hp) (lR nI:Option V),WF H->aq H D (d.map V.int)->dueOk u v zs d=true->
  ∃wz zR D' H',loopF [13,14] true (denSs (denS 19) vX) (zs.map zv) (x0::x1::x2::x3::x4::some (.int u)::some (.int v)::x7::x8::x9::x10::x11::some (.ref D)::lR::nI::none::none::none::ρ) H =
   some (.next,x0::x1::x2::x3::x4::some (.int u)::some (.int v)::x7::x8::x9::x10::x11::some (.ref D')::wz::zR::none::none::none::ρ,H')/\WF H'/\aq H' D' ((mM u v zs d).map V.int)/\ck H H'/\(mM u v zs d).length<=500:=by
 intro zs
 induction zs with
 |nil=>intro d D H lR nI w hD h;exact⟨lR,nI,D,H,rfl,w,hD,fun i e h=>h,bC h⟩
 |cons z zs ih=>
  intro d D H lR nI w hD h;exists kb2 h,hs,h;exists nF (YD (n:=9) w hD hu hv hs (x0:=x0) (x1:=x1) (x2:=x2) (x3:=x3) (x4:=x4) (x7:=x7) (x8:=x8) (x9:=x9) (x10:=x10) (x11:=x11) (x15:=none) (x16:=none) (x17:=none) (ρ:=ρ)),H1,e1,w1,Z0,cN,k1;exists Eu (ih (dueStep (u * z.1+v * z.2) d) (H.nxt+4) H1 (some (.int z.1)) (some (.int z.2)) w1 cN h),wz,zR,D',H',a1,a2,a3,a4,a5;refine⟨wz,zR,D',H',?_,a2,a3,k1.trans a4,a5⟩;rw[aO,fx];unfold vX;unfold vX at a1;unfold zv;simp only[jP,lS,aY,aZ];rw[aM];simp only[Nat.reduceAdd]at e1;simp only[cf,e1,aG,aY,aZ,aS,bc,gx,jL];exact a1
theorem MY{o:Od}{s:List Po}{zs:Zs}{u v:Int}(L:kY (gr o) s zs u v)(w:WF H){x0 x1:Option V}{r:ai} :
  ∃ρ H',denSs (denS 20) qc (x0::x1::some (.lst (ar s))::some (.lst (zs.map zv))::some (aK o)::some (.int u)::some (.int v)::none::none::none::none::none::none::none::none::none::none::none::none::none::none::r) H=some (.ret (.bool true),ρ,H'):=by
 exists MF L,b,pw,f1,f2,t,m,n,X;obtain⟨h1,h2,h3,h4,h5,h6,h7,h8,h9,Ad,wR,AG,zz,xp,Bk,uZ,w7,wC,zU,h20,xw,zQ⟩:=X;exists ak (NA (H:=H) h1 h2 h3),hb,e1;have e2:=aaT (H:=H) hb (by lia) h5;have e3:cz .len [.lst (pw.map encN)] H=some (az pw.length,H):=by
  have:=mA (H:=H) (l:=pw.map encN) (by rw[aJ];lia);rw[aJ]at this;exact this
 have e4:cz .len [.lst (zs.map zv)] H=some (az zs.length,H):=by
  have:=mA (H:=H) (l:=zs.map zv) (by rw[aJ];lia);rw[aJ]at this;exact this
 have e5:bu .NotEq (az pw.length) (az zs.length) H=some false:=by
  show some (!aF pw.length zs.length)=_;rw[h6,ew];rfl
 have e6:=Eh (H:=H) (o:=o) (a:=0) (f6 _) h7 hb (by lia) h8;have e7:=Eh (H:=H) (o:=o) (a:=1) (cw _) h7 hb (by lia) h9;have Kq:kN [.int 0,.lst (pw.map encN),.lst (ar b),aK o] H=some (encMat f1,H):=e6;have DM:kN [.int 1,.lst (pw.map encN),.lst (ar b),aK o] H=some (encMat f2,H):=e7;have w1:=w.new (o:=.list []);have w2:=w1.new (o:=.list []);have c1:=FE (H:=(newObj H (.list [])).2) Ad aq.c7;have c2:bu .Eq (encMat f2) (.ref (H.nxt+1)) (newObj (newObj H (.list [])).2 (.list [])).2=some false:=FE wR aq.c7;have t1:=Ks (H:=(newObj (newObj H (.list [])).2 (.list [])).2) zz xp;have t2:=Ks (H:=(newObj (newObj H (.list [])).2 (.list [])).2) AG Bk;exists sI (NV (H:=(newObj (newObj H (.list [])).2 (.list [])).2) (n:=7) w2 uZ w7 wC (x0:=x0) (x1:=x1) (x2:=some (.lst (ar s))) (x3:=some (.lst (zs.map zv))) (x4:=some (aK o)) (x7:=some (.lst (ar b))) (x8:=some (.lst (pw.map encN))) (x11:=none) (x12:=none) (x13:=none) (x14:=none) (x15:=none) (x16:=none) (x17:=none) (x18:=none) (x19:=none) (x20:=none) (ρ:=r)),js,H3,b1,w3,n3,uQ,R3,k3;have w4:=w3.new (o:=.list [.int 1]);exists Eu (LR (u:=u) (v:=v) uZ w7 (x0:=x0) (x1:=x1) (x2:=some (.lst (ar s))) (x3:=some (.lst (zs.map zv))) (x4:=some (aK o)) (x7:=some (.lst (ar b))) (x8:=some (.lst (pw.map encN))) (x9:=some (encMat f1)) (x10:=some (encMat f2)) (x11:=some (.ref (H.nxt+2))) (ρ:=none::none::none::r) zs [1] H3.nxt (newObj H3 (.list [.int 1])).2 none none w4 aq.c7 zQ),lR,nI,D,H5,d1,w5,Fi,k5,l5;have K:ck H3 H5:=(ck.new w3).trans k5;have IG:aq H5 (H.nxt+2) (js.map V.ref):=K _ _ uQ;have RA:Rows H5 (H.nxt+2) (H.nxt+3) js (m.map fun r=>r.map z1):=Rows.keep R3 fun i e h _=>K i e h;clear K k5 w4 k3 R3 uQ n3 w3 w2 w1 e7 e6 hb zQ wC w7 uZ Bk xp zz AG wR Ad h9 h8 h7 h6 h5 h4 h3 h2 h1 w;obtain⟨mr,mt,hm⟩:∃mr mt,m=mr::mt:=by
  clear RA IG l5 Fi w5 d1 b1 t2 t1 c2 c1 DM Kq e5 e4 e3 e2 e1 xw zU;induction m using aN with
  |nil=>exact(h20 rfl).elim
  |cons a l=>exact⟨a,l,rfl⟩
 clear h20;subst hm;exists b7 (Z3 zU w5 IG RA xw),H6,g1,w6,k6;have NZ:=k6 _ _ Fi;have q1:=UD (n:=10) NZ w6 (by lia) (x0:=x0) (x1:=x1) (x2:=some (.lst (ar s))) (x3:=some (.lst (zs.map zv))) (x4:=some (aK o)) (x5:=some (.int u)) (x6:=some (.int v)) (x7:=some (.lst (ar b))) (x8:=some (.lst (pw.map encN))) (x9:=some (encMat f1)) (x10:=some (encMat f2)) (x11:=some (.ref (H.nxt+2))) (x13:=lR) (x14:=nI) (x15:=none) (x16:=none) (ρ:=none::none::none::none::r);have q2:=LC (H:=(newObj H6 (.list ((mM u v zs [1]).map z1))).2) (j:=H6.nxt) aq.c7;have dA:∀{B:Type} {o:bq} {f:V->Hp->Option B} {H:Hp},ob (some (newObj H o)) f=f (.ref H.nxt) (newObj H o).2:=rfl;have it:∀H,iterOf H .seq [.lst (zs.map zv)]=some (zs.map zv):=fun _=>rfl;have gz:∀o o',(newObj (newObj H o).2 o').2.nxt=H.nxt+2:=fun _ _=>rfl;refine⟨x0::x1::some (.lst (ar s))::some (.lst (zs.map zv))::some (aK o)::some (.int u)::some (.int v)::some (.lst (ar b))::some (.lst (pw.map encN))::some (encMat f1)::some (encMat f2)::some (.ref (H.nxt+2))::some (.ref D)::lR::nI::none::none::none::none::none::none::r,(newObj H6 (.list ((mM u v zs [1]).map z1))).2,?_⟩;unfold qc;refine aM.trans ?_;simp only[cf,cH,cD,bo,bk,bz,bh,bg,bj,aG,e1,aY,aZ,aS,bc];refine aM.trans ?_;simp only[cf,cH,cD,bo,bk,bz,bh,bg,bj,aG,e2,aY,aZ,aS,bc];refine aM.trans ?_;simp only[hO,fv,jH,bo,bk,bz,bh,bg,bj,fJ,aG,fD,e3,e4,e5,iR,gx,aS,bc];refine aM.trans ?_;simp only[gO,fh,cH,cD,bo,bk,bz,bh,bg,bj,aG,Kq,DM,jP,gL,aY,aZ,aS,bc];refine aM.trans ?_;simp only[hO,pL,o8,pf,fv,f7,cH,bo,bk,bz,bh,bg,bj,fJ,aG,dA,fD,show ∀o,(newObj H o).2.nxt=H.nxt+1 from fun _=>rfl,c1,c2,t1,t2,LM,pH,pI,iR,gx,aS,bc];refine aM.trans ?_;simp only[Nat.reduceAdd]at b1;simp only[cf,b1,aG,aY,aZ,aS,bc];refine aM.trans ?_;simp only[cf,f7,cD,bk,bz,aG,dA,gz,aY,aZ,aS,bc];refine aM.trans ?_;unfold vX at d1;simp only[lB,bo,bk,bz,bh,bg,bj,aG,it,rF];rw[d1];simp only[mN,aS,bc];refine aM.trans ?_;simp only[Nat.reduceAdd]at q1;simp only[j8,fv,cH,bo,bk,bz,bh,bg,bj,aG,g1,q1,q2,fJ,aS,l9]
end
end
section
open PySem
def rowEq:List Int->List Int->Bool
 |[],[]=>true
 |[],_::_=>false
 |_::_,[]=>false
 |a::r,b::s=>match ieq a b with
  |true=>rowEq r s
  |false=>false
def matEq:List (List Int)->List (List Int)->Bool
 |[],[]=>true
 |[],_::_=>false
 |_::_,[]=>false
 |a::r,b::s=>match rowEq a b with
  |true=>matEq r s
  |false=>false
def prEq:List Pr->List Pr->Bool
 |[],[]=>true
 |[],_::_=>false
 |_::_,[]=>false
 |a::r,b::s=>match bJ a.1 a.2 b.1 b.2 with
  |true=>prEq r s
  |false=>false
theorem rowEq_ok{a:List Int}:∀{b:List Int},rowEq a b=true->a=b:=by
 induction a with
 |nil=>
  intro b h
  induction b using aN with
  |nil=>rfl
  |cons=>exact bf h
 |cons a r ih=>
  intro b h
  induction b using aN with
  |nil=>exact bf h
  |cons b s=>exact kb2 h fun q h=>by rw[(ieq_iff _ _).mp q,ih h]
theorem TL{a:List (List Int)}:∀{b:List (List Int)},matEq a b=true->a=b:=by
 induction a with
 |nil=>
  intro b h
  induction b using aN with
  |nil=>rfl
  |cons=>exact bf h
 |cons a r ih=>
  intro b h
  induction b using aN with
  |nil=>exact bf h
  |cons b s=>exact kb2 h fun q h=>by rw[rowEq_ok q,ih h]
theorem ZG{a:List Pr}:∀{b:List Pr},prEq a b=true->a=b:=by
 induction a with
 |nil=>
  intro b h
  induction b using aN with
  |nil=>rfl
  |cons=>exact bf h
 |cons a r ih=>
  intro b h
  induction b using aN with
  |nil=>exact bf h
  |cons b s=>
   exists kb2 h,q,h;exists ak ((i3 _ _ _ _).mp q),q1,q2;rw[ih h,show a=b from Prod.ext q1 q2]
def qH(m:Option (List (List Int)))(f:List (List Int)):Bool:=match m with
 |some m=>matEq m f
 |none=>false
theorem yB(h:qH m f=true):m=some f:=by
 unfold qH at h;split at h
 ·rw[TL h]
 ·exact bf h
def coreC(o:Bool)(b:List Po)(pw:List Pr)(f1 f2:List (List Int)):Bool:=match qH (letG o 1 0 b pw pw) f1 with
 |true=>qH (letG o 0 1 b pw pw) f2
 |false=>false
def coreB(o:Bool)(b:List Po)(pw0:List Pr)(f1 f2:List (List Int))(pw:Option (List Pr)):Bool:=match pw with
 |none=>false
 |some pw=>match prEq pw pw0 with
  |true=>coreC o b pw f1 f2
  |false=>false
def GH(o:Bool)(pw0:List Pr)(f1 f2:List (List Int))(b:Option (List Po)):Bool:=match b with
 |none=>false
 |some b=>match b8 b.length 900 with
  |true=>coreB o b pw0 f1 f2 (std o b)
  |false=>false
def core(o:Bool)(s:List Po)(pw0:List Pr)(f1 f2:List (List Int)):Bool:=match allB ja s with
 |true=>GH o pw0 f1 f2 (sh o s)
 |false=>false
set_option tactic.hygienic true in
theorem Zk(h:core o s pw f1 f2=true):(∀p∈s,ja p=true)/\∃b,sh o s=some b/\b.length<=900/\std o b=some pw/\letG o 1 0 b pw pw=some f1/\letG o 0 1 b pw pw=some f2:=by
 unfold core at h;split at h
 rotate_left
 ·exact bf h
 rename_i hs;refine⟨dr hs,?_⟩;unfold GH at h;split at h
 ·exact bf h
 rename_i b hb;split at h
 rotate_left
 ·exact bf h
 rename_i hl;unfold coreB at h;split at h
 ·exact bf h
 rename_i pw' hp;split at h
 rotate_left
 ·exact bf h
 rename_i Xc;have:=ZG Xc;subst this;unfold coreC at h;split at h
 rotate_left
 ·exact bf h
 rename_i h1;exact⟨b,hb,bC hl,hp,yB h1,yB h⟩
def ES(m:List (List Int)):Bool:=allB (fun r:List Int=>b8 r.length 1000) m
def xf(f1 f2:List (List Int)):Bool:=match ES f1 with
 |true=>match ES f2 with
  |true=>match timesS f1 f2 with
   |some t=>qH (timesS f2 f1) t
   |none=>false
  |false=>false
 |false=>false
def tailC(r:Option (List Int))(d:List Int):Bool:=match r with
 |some r=>rowEq r d
 |none=>false
def ZC(n:Nat)(m:Option (List (List Int)))(d:List Int):Bool:=match m with
 |none=>false
 |some m=>match m with
  |[]=>false
  |a::r=>tailC (charS n (a::r)) d
def BR(n:Nat)(zs:Zs)(f1 f2:List (List Int))(u v:Int):Bool:=match bndZ u with
 |true=>match bndZ v with
  |true=>match dueOk u v zs [1]with
   |true=>ZC n (A1 u v f1 f2) (mM u v zs [1])
   |false=>false
  |false=>false
 |false=>false
theorem JD(hn:n=2\/n=3)(hs:∀p∈s,Nd p)(hl:s.length<=40)(hp:pw.length=zs.length)(mF:pw.length<=500)(h1:f1≠[])(h2:f2≠[])
  (hc:core o s pw f1 f2=true) (ht:xf f1 f2=true) (hu:BR n zs f1 f2 u v=true):kY o s zs u v:=by
 obtain⟨c1,b,c2,c3,c4,c5,c6⟩:=Zk hc;exists kb2 ht,r1,ht;exists kb2 ht,r2,ht;exists Tq ht,t,MT,ht;have OF:=yB ht;exists kb2 hu,u1,hu;exists kb2 hu,u2,hu;exists kb2 hu,u3,hu;exists Uk hu,m,hm,hu
 induction m using aN with
 |nil=>exact bf hu
 |cons a r=>
  exists Z7 hu,res,s8,hu;rw[rowEq_ok hu]at s8;exact⟨b,pw,f1,f2,t,a::r,n,⟨fun p m=>ko (c1 p m) (hs p m),hl,c2,c3,c4,hp,mF,c5,c6,h1,h2,fun r m=>bC (dr r1 r m),fun r m=>bC (dr r2 r m),MT,OF,u1,u2,hm,hn,(by simp),s8,u3⟩⟩
theorem qD(ts:List Tn):∀(acc:Po),Nd acc->Nd (polyG ts acc):=by
 induction ts with
 |nil=>
  intro _ h;exact h
 |cons t r ih=>
  intro acc h;dsimp only[polyG];split
  ·exact ih acc h
  ·exact ih _ (wo h)
theorem tb:Nd []:=List.Pairwise.nil
theorem QS:∀p∈nh a b,Nd p:=fun p m=>by
 rcases aH.mp m with rfl|m
 ·exact qD _ _ tb
 ·rcases aH.mp m with rfl|m
  ·exact qD _ _ tb
  ·cases c9.mp m;exact qD _ _ tb
theorem RI:∀p∈mV a b c d,Nd p:=fun p m=>by
 rcases aH.mp m with rfl|m
 ·exact qD _ _ tb
 ·cases c9.mp m;exact qD _ _ tb
noncomputable def EZ:List Pr:=[(0,0),(0,1),(1,0)]
noncomputable def pS(a:Int):List (List Int):=[[0,0,1],[0,0,0],[0,0,a]]
noncomputable def oj(b:Int):List (List Int):=[[0,1,0],[0,b,0],[0,0,0]]
def pw0(d:Int):List Pr:=match isZ' d with
 |true=>[(0,0),(1,0)]
 |false=>[(0,0),(0,1)]
def qY(a b c d:Int):List (List Int):=match isZ' d with
 |true=>[[0,1],[-(a * b),a+b]]
 |false=>[[-(d * c),d],[-(d * ((c+d * a) * (c+d * b))),d * c+a+b]]
def sm(a b c d:Int):List (List Int):=match isZ' d with
 |true=>[[c,0],[0,c]]
 |false=>[[0,1],[-((c+d * a) * (c+d * b)),c+d * a+(c+d * b)]]
noncomputable def ab:List Int:=[-2,-1,0,1,2]
noncomputable def cd:List Int:=[-1,0,1]
def uM(o:Bool):Bool:=allB (fun a=>allB (fun b=>core o (nh a b) EZ (pS a) (oj b)) ab) ab
def core0(o:Bool)(c d:Int):Bool:=allB (fun a=>allB (fun b=>core o (mV a b c d) (pw0 d) (qY a b c d) (sm a b c d)) ab) ab
def uv(f:Int->Int->Bool):Bool:=allB (fun u=>allB (f u) cd) [1,2]
def mI(a:Int):Bool:=allB (fun b=>match xf (pS a) (oj b)with
 |true=>uv (BR 3 (nt a b) (pS a) (oj b))
 |false=>false) ab
def bQ(a c d:Int):Bool:=allB (fun b=>match xf (qY a b c d) (sm a b c d)with
 |true=>uv (BR 2 (lV a b c d) (qY a b c d) (sm a b c d))
 |false=>false) ab
theorem ZS:qY a b c d≠[]:=by unfold qY;split <;> exact fun h=>nomatch h
theorem ZA:sm a b c d≠[]:=by unfold sm;split <;> exact fun h=>nomatch h
theorem Q2:pS a≠[]:=by unfold pS;exact fun h=>nomatch h
theorem aaG:oj a≠[]:=by unfold oj;exact fun h=>nomatch h
theorem Kv:(pw0 d).length=2:=by unfold pw0;split <;> rfl
theorem nS(hc:uM o=true)(ht:∀a∈ab,mI a=true)(ma:a∈ab)(mb:b∈ab)(mu:u∈[1,2])(mv:v∈cd):kY o (nh a b) (nt a b) u v:=by
 have h1:=dr (dr hc a ma) b mb;have h2:=dr (ht a ma) b mb;exists kb2 h2,h3,h2;exact JD (pw:=EZ) (f1:=pS a) (f2:=oj b) (.inr rfl) QS (by show 3<=40;decide) rfl (by show 3<=500;decide) Q2 aaG h1 h3 (dr (dr h2 u mu) v mv)
theorem Pc(hc:core0 o c d=true)(ht:∀a∈ab,bQ a c d=true)(ma:a∈ab)(mb:b∈ab)(mu:u∈[1,2])(mv:v∈cd):kY o (mV a b c d) (lV a b c d) u v:=by
 have h1:=dr (dr hc a ma) b mb;have h2:=dr (ht a ma) b mb;exists kb2 h2,h3,h2;exact JD (.inl rfl) RI (by show 2<=40;decide) Kv (by rw[Kv];decide) ZS ZA h1 h3 (dr (dr h2 u mu) v mv)
end
section
open PySem
noncomputable def zh:Nat->Od
 |0=>.lex
 |1=>.iH
 |_=>.grevlex
structure GN:Prop where
 one:∀(o:Bool) (a b u v:Int),a∈ab->b∈ab->u∈[1,2]->v∈cd->kY o (nh a b) (nt a b) u v
 two:∀(o:Bool) (a b c d u v:Int),a∈ab->b∈ab->c∈cd->d∈cd->u∈[1,2]->v∈cd->kY o (mV a b c d) (lV a b c d) u v
theorem vN(h:a<5):(Int.ofNat a - 2)∈ab:=by
 have:a=0\/a=1\/a=2\/a=3\/a=4:=by lia
 clear h;rcases this with rfl|rfl|rfl|rfl|rfl <;> decide
theorem BD(h:a<3):(Int.ofNat a - 1)∈cd:=by
 have:a=0\/a=1\/a=2:=by lia
 clear h;rcases this with rfl|rfl|rfl <;> decide
theorem Ol(h:a<2):(1+Int.ofNat a)∈[(1:Int),2]:=by
 have:a=0\/a=1:=by lia
 clear h;rcases this with rfl|rfl <;> decide
def Hz:List MS:=[(.unpack [4,5,6] (.tup [(.sub (.tup [(.const (.str [108,101,120])),(.const (.str [103,114,108,101,120])),(.const (.str [103,114,101,118,108,101,120]))]) (.call dB [(.var 1),(.const (.int 3))])),(.bin .Add (.const (.int 1)) (.call dB [(.var 1),(.const (.int 2))])),(.bin .Sub (.call dB [(.var 1),(.const (.int 3))]) (.const (.int 1)))]))]
section
variable {H:Hp}
theorem QM(X:Bx B I k l H)(hk:k<=90)(L:∀(o:Bool) (u v:Int),u∈[(1:Int),2]->v∈cd->kY o s zs u v) :
  ∃ρ H',denSs (denS 20) (Hz++qc) (x0::some (.ref B)::some (.lst (ar s))::some (.lst (zs.map zv))::none::none::none::none::none::none::none::none::none::none::none::none::none::none::none::none::none::r) H=some (.ret (.bool true),ρ,H'):=by
 exists fH (kR X (by lia) (m:=3) dq),i,l1,H1,hi,e1,X1,Z0;exists fH (kR X1 (by lia) (m:=2) dq),u,l2,H2,hu,e2,X2,Z0;exists fH (kR X2 (by lia) (m:=3) dq),v,l3,H3,hv,e3,X3,Z0;exists de (MY (o:=zh i) (L (gr (zh i)) _ _ (Ol hu) (BD hv)) X3.wf (x0:=x0) (x1:=some (.ref B)) (r:=r)),ρ,H',e4;refine⟨ρ,H',?_⟩;have iF:dB [.ref B,V.int 3] H=some (az i,H1):=e1;have jb:dB [.ref B,V.int 2] H1=some (az u,H2):=e2;have pY:dB [.ref B,V.int 3] H2=some (az v,H3):=e3;have e5:∀H,subs H (V.tup [.str [108,101,120],.str [103,114,108,101,120],.str [103,114,101,118,108,101,120]]) (az i)=some (aK (zh i)):=fun H=>by
  have:i=0\/i=1\/i=2:=by lia
  clear pY jb iF e4 X3 e3 hv X2 e2 hu X1 e1 hi L hk X;rcases this with rfl|rfl|rfl <;> rfl
 have s1:∀n H,binOp .Add (V.int 1) (az n) H=some (V.int (1+Int.ofNat n),H):=fun _ _=>rfl;have s2:∀n H,binOp .Sub (az n) (V.int 1) H=some (V.int (Int.ofNat n - 1),H):=fun _ _=>rfl;show denSs (denS 20) (_::qc) _ _=_;rw[aM];simp only[gO,fh,mY,gh,cH,cD,bo,bk,bz,bh,bg,bj,aG,iF,jb,pY,e5,s1,s2,lP,gL,aY,aZ,aS,bc];exact e4
theorem law_run(A:GN)(l:List Int)(hl:l.length<=63):∃H',uk [.lst (l.map .int)] ⟨0,[]⟩=some (.bool true,H'):=by
 have hlen:(l.map V.int).length<=100000:=by rw[aJ];lia
 have v0:listView ⟨0,[]⟩ (.lst (l.map V.int))=some (l.map V.int):=rfl;have e1:=JE (n:=9) (H:=⟨0,[]⟩) (v:=.lst (l.map V.int)) (fun _ h=>nomatch h) v0 hlen;rw[<- List.map_take]at e1;have sT:aq ⟨1,[⟨0,false,.list ((l.take 9).map V.int)⟩]⟩ 0 ((l.take 9).map V.int):=rfl;have this:=dF (k:=1) (n:=2) (es:=put [⟨0,false,.list ((l.take 9).map V.int)⟩] 0 true (.list ((l.take 9).map V.int))) (enc:=V.int) (f:=turn (den 17) [16] false [] (cp 1 (.bi .int [.var 16]) (den 17)) (some (.lst (l.map V.int))::cu 27 none)) (fun x=>[V.int x]) (l.take 9) [] (fun x m acc ha=>by
  have bi:∀H,cz .int [V.int x] H=some (V.int x,H):=fun _=>rfl;simp! only[bi];exact dm ha) (by rw[eW,List.length_take];show 0+_<=_;lia)
 rw[eJ,dh]at this;have key:=mT (k:=1) (c:=0) (n:=2) (es:=[⟨0,false,.list ((l.take 9).map V.int)⟩]) (o:=.list ((l.take 9).map V.int)) rfl dq this;simp only[rep0,rep1]at key;have X:Bx 2 1 0 (l.take 9) ⟨3,[⟨2,false,.list [.ref 1,.int 0]⟩,⟨1,false,.list ((l.take 9).map V.int)⟩,⟨0,false,.list ((l.take 9).map V.int)⟩]⟩:=by
  refine⟨fun e m=>?_,by decide,rfl,rfl,by rw[List.length_take];lia⟩;clear key this sT e1 v0 hlen hl A;rcases aH.mp m with rfl|m
  ·exact(by decide:2<3)
  ·rcases aH.mp m with rfl|m
   ·exact(by decide:1<3)
   ·cases c9.mp m;exact(by decide:0<3)
 have fin:∀{s:List Po} {zs:Zs} {H':Hp} {k:Nat} {l':List Int},nA [.ref 2] ⟨3,[⟨2,false,.list [.ref 1,.int 0]⟩,⟨1,false,.list ((l.take 9).map V.int)⟩,⟨0,false,.list ((l.take 9).map V.int)⟩]⟩=some (ti s zs,H')->Bx 2 1 k l' H'->k<=90->
   (∀(o:Bool) (u v:Int),u∈[(1:Int),2]->v∈cd->kY o s zs u v)->∃H',uk [.lst (l.map .int)] ⟨0,[]⟩=some (.bool true,H'):=by
  intro s zs H' k l' e X' hk L;exists de (QM X' hk L (x0:=some (.lst (l.map V.int))) (r:=cu 7 none)),ρ,H2,e2;refine⟨⟨H2.nxt,dropNew 0 H2.es⟩,?_⟩;unfold uk JW;rw[iB];unfold Hz qc at e2;simp only[rep0,rep1,List.cons_append,dh]at e2;rw[aM];simp only[cf,f7,gf,rV,cD,bo,bk,bz,rep0,rep1,bh,bg,bj,aG,show nat? (V.int 9)=some 9 from rfl,e1,jG,Nat.zero_add,lA sT,gn,gv,aY,aZ,dI,Nat.reduceAdd];rw[key];simp only[aG,jG,Nat.reduceAdd,aY,aZ,aS,bc];rw[aM];simp only[gO,cH,bo,bk,bz,bh,bg,bj,aG,e,ti,jP,gL,aY,aZ,aS,bc];unfold uI sd qy at e2;rw[e2];rfl
 exists cx (L1 X dq),a,b,ha,hb,h;clear X key this sT e1 v0 hlen hl;rcases h with⟨l',H',e,X'⟩|⟨c,d,l',H',hc,hd,e,X'⟩
 ·exact fin e X' dq fun o u v mu mv=>A.one o _ _ u v (vN ha) (vN hb) mu mv
 ·exact fin e X' dq fun o u v mu mv=>A.two o _ _ _ _ u v (vN ha) (vN hb) (BD hc) (BD hd) mu mv
end
end
section
open PySem
theorem Nq:core0 true (-1) (-1)=true:=by decide +kernel
theorem Z6:core0 true (-1) 0=true:=by decide +kernel
theorem Si:core0 true (-1) 1=true:=by decide +kernel
theorem OP:core0 true 0 (-1)=true:=by decide +kernel
theorem Py:core0 true 0 0=true:=by decide +kernel
theorem aaf:core0 true 0 1=true:=by decide +kernel
theorem aaD:core0 true 1 (-1)=true:=by decide +kernel
theorem aaj:core0 true 1 0=true:=by decide +kernel
theorem Oo:core0 true 1 1=true:=by decide +kernel
theorem Uw:uM true=true:=by decide +kernel
theorem Ou:core0 false (-1) (-1)=true:=by decide +kernel
theorem XF:core0 false (-1) 0=true:=by decide +kernel
theorem QW:core0 false (-1) 1=true:=by decide +kernel
theorem PR:core0 false 0 (-1)=true:=by decide +kernel
theorem UK:core0 false 0 0=true:=by decide +kernel
theorem NM:core0 false 0 1=true:=by decide +kernel
theorem W4:core0 false 1 (-1)=true:=by decide +kernel
theorem Mv:core0 false 1 0=true:=by decide +kernel
theorem Vb:core0 false 1 1=true:=by decide +kernel
theorem ZM:uM false=true:=by decide +kernel
theorem YJ:mI (-2)=true:=by decide +kernel
theorem Yg:bQ (-2) (-1) (-1)=true:=by decide +kernel
theorem Xh:bQ (-2) (-1) 0=true:=by decide +kernel
theorem MN:bQ (-2) (-1) 1=true:=by decide +kernel
theorem Sx:bQ (-2) 0 (-1)=true:=by decide +kernel
theorem Tv:bQ (-2) 0 0=true:=by decide +kernel
theorem Xu:bQ (-2) 0 1=true:=by decide +kernel
theorem KN:bQ (-2) 1 (-1)=true:=by decide +kernel
theorem RE:bQ (-2) 1 0=true:=by decide +kernel
theorem Tt:bQ (-2) 1 1=true:=by decide +kernel
theorem aak:mI (-1)=true:=by decide +kernel
theorem YV:bQ (-1) (-1) (-1)=true:=by decide +kernel
theorem Tw:bQ (-1) (-1) 0=true:=by decide +kernel
theorem Yu:bQ (-1) (-1) 1=true:=by decide +kernel
theorem Qg:bQ (-1) 0 (-1)=true:=by decide +kernel
theorem Ov:bQ (-1) 0 0=true:=by decide +kernel
theorem Y5:bQ (-1) 0 1=true:=by decide +kernel
theorem Yk:bQ (-1) 1 (-1)=true:=by decide +kernel
theorem Vq:bQ (-1) 1 0=true:=by decide +kernel
theorem ZQ:bQ (-1) 1 1=true:=by decide +kernel
theorem t_0:mI 0=true:=by decide +kernel
theorem QF:bQ 0 (-1) (-1)=true:=by decide +kernel
theorem Yy:bQ 0 (-1) 0=true:=by decide +kernel
theorem Vt:bQ 0 (-1) 1=true:=by decide +kernel
theorem UJ:bQ 0 0 (-1)=true:=by decide +kernel
theorem Pn:bQ 0 0 0=true:=by decide +kernel
theorem Pj:bQ 0 0 1=true:=by decide +kernel
theorem Y3:bQ 0 1 (-1)=true:=by decide +kernel
theorem PE:bQ 0 1 0=true:=by decide +kernel
theorem aar:bQ 0 1 1=true:=by decide +kernel
theorem t_1:mI 1=true:=by decide +kernel
theorem LO:bQ 1 (-1) (-1)=true:=by decide +kernel
theorem U9:bQ 1 (-1) 0=true:=by decide +kernel
theorem Ye:bQ 1 (-1) 1=true:=by decide +kernel
theorem ZW:bQ 1 0 (-1)=true:=by decide +kernel
theorem LP:bQ 1 0 0=true:=by decide +kernel
theorem Ul:bQ 1 0 1=true:=by decide +kernel
theorem VK:bQ 1 1 (-1)=true:=by decide +kernel
theorem OI:bQ 1 1 0=true:=by decide +kernel
theorem Sh:bQ 1 1 1=true:=by decide +kernel
theorem t_2:mI 2=true:=by decide +kernel
theorem Qp:bQ 2 (-1) (-1)=true:=by decide +kernel
theorem LW:bQ 2 (-1) 0=true:=by decide +kernel
theorem N0:bQ 2 (-1) 1=true:=by decide +kernel
theorem ZX:bQ 2 0 (-1)=true:=by decide +kernel
theorem Pe:bQ 2 0 0=true:=by decide +kernel
theorem Qr:bQ 2 0 1=true:=by decide +kernel
theorem aav:bQ 2 1 (-1)=true:=by decide +kernel
theorem YQ:bQ 2 1 0=true:=by decide +kernel
theorem Lw:bQ 2 1 1=true:=by decide +kernel
theorem cZ{P:Int->Prop}(a:P (-1))(b:P 0)(c:P 1):∀x∈cd,P x:=jn.mpr ⟨a,jn.mpr ⟨b,jn.mpr ⟨c,fun _ h=>nomatch h⟩⟩⟩
theorem J3{P:Int->Prop}(a:P (-2))(b:P (-1))(c:P 0)(d:P 1)(e:P 2):∀x∈ab,P x:=jn.mpr ⟨a,jn.mpr ⟨b,jn.mpr ⟨c,jn.mpr ⟨d,jn.mpr ⟨e,fun _ h=>nomatch h⟩⟩⟩⟩⟩
theorem Ot:∀c∈cd,∀d∈cd,core0 true c d=true:=cZ (cZ Nq Z6 Si) (cZ OP Py aaf) (cZ aaD aaj Oo)
theorem YT:∀c∈cd,∀d∈cd,core0 false c d=true:=cZ (cZ Ou XF QW) (cZ PR UK NM) (cZ W4 Mv Vb)
theorem kk(o:Bool):∀c∈cd,∀d∈cd,core0 o c d=true:=by cases o;exact YT;exact Ot
theorem k1(o:Bool):uM o=true:=by cases o;exact ZM;exact Uw
theorem SN:∀a∈ab,mI a=true:=J3 YJ aak t_0 t_1 t_2
theorem QX:∀a∈ab,∀c∈cd,∀d∈cd,bQ a c d=true:=J3 (cZ (cZ Yg Xh MN) (cZ Sx Tv Xu) (cZ KN RE Tt)) (cZ (cZ YV Tw Yu) (cZ Qg Ov Y5) (cZ Yk Vq ZQ)) (cZ (cZ QF Yy Vt) (cZ UJ Pn Pj) (cZ Y3 PE aar)) (cZ (cZ LO U9 Ye) (cZ ZW LP Ul) (cZ VK OI Sh)) (cZ (cZ Qp LW N0) (cZ ZX Pe Qr) (cZ aav YQ Lw))
theorem all_ok:GN:=
 ⟨fun o _ _ _ _ ma mb mu mv=>nS (k1 o) SN ma mb mu mv,fun o _ _ c d _ _ ma mb mc md mu mv=>Pc (kk o c mc d md) (fun a m=>QX a m c mc d md) ma mb mu mv⟩
end
section
open PySem PySem.Calls PyProof.Rows PySem.W
section
variable {C:Cf} {mg mb:Str->Option Value}
theorem wA(B:Bs C mg mb):ay C mg mb 1 "order_key" (.fn kB):=
 ay.bT (bI B (K:=0) (au (sH B) (au (xd B) bH dq) dq) (bG 0 dq) _ (by kernel_rfl) ["order","powers"] (fun _ _ _=>b2 fun _ _=>by kernel_rfl) (by kernel_rfl) 2 rfl (by kernel_rfl) (by kernel_rfl) (by decide +kernel)) fun _=>bZ
theorem OH(B:Bs C mg mb):ay C mg mb 1 "powers_product" (.fn wN):=
 ay.bT (bI B (K:=0) (au (sH B) (au (gU B) bH dq) dq) (bG 1 dq) _ (by kernel_rfl) ["a","b"] (fun _ _ _=>b2 fun _ _=>by kernel_rfl) (by kernel_rfl) 2 rfl (by kernel_rfl) (by kernel_rfl) (by decide +kernel)) fun _=>bZ
theorem Ja(B:Bs C mg mb):ay C mg mb 1 "powers_divide" (.fn oO):=
 ay.bT (bI B (K:=0) (au (gU B) bH dq) (bG 2 dq) _ (by kernel_rfl) ["a","b"] (fun _ _ _=>b2 fun _ _=>by kernel_rfl) (by kernel_rfl) 2 rfl (by kernel_rfl) (by kernel_rfl) (by decide +kernel)) fun _=>bZ
theorem Et(B:Bs C mg mb):ay C mg mb 1 "powers_quotient" (.fn nR):=
 ay.bT (bI B (K:=0) (au (sH B) (au (gU B) bH dq) dq) (bG 3 dq) _ (by kernel_rfl) ["a","b"] (fun _ _ _=>b2 fun _ _=>by kernel_rfl) (by kernel_rfl) 2 rfl (by kernel_rfl) (by kernel_rfl) (by decide +kernel)) fun _=>bZ
theorem BC(B:Bs C mg mb):ay C mg mb 1 "powers_join" (.fn sS):=
 ay.bT (bI B (K:=0) (au (sH B) (au (uC B) (au (gU B) bH dq) dq) dq) (bG 4 dq) _ (by kernel_rfl) ["a","b"] (fun _ _ _=>b2 fun _ _=>by kernel_rfl) (by kernel_rfl) 2 rfl (by kernel_rfl) (by kernel_rfl) (by decide +kernel)) fun _=>bZ
theorem S7(B:Bs C mg mb):ay C mg mb 1 "powers_meet" (.fn zg):=
 ay.bT (bI B (K:=0) (au (sH B) (au (IH B) (au (gU B) bH dq) dq) dq) (bG 5 dq) _ (by kernel_rfl) ["a","b"] (fun _ _ _=>b2 fun _ _=>by kernel_rfl) (by kernel_rfl) 2 rfl (by kernel_rfl) (by kernel_rfl) (by decide +kernel)) fun _=>bZ
theorem Rz(B:Bs C mg mb):ay C mg mb 2 "are_apart" (.fn yJ):=
 ay.bT (bI B (K:=1) (au (xd B) (au (S7 B) bH dq) dq) (bG 6 dq) _ (by kernel_rfl) ["a","b"] (fun _ _ _=>b2 fun _ _=>by kernel_rfl) (by kernel_rfl) 2 rfl (by kernel_rfl) (by kernel_rfl) (by decide +kernel)) fun _=>bZ
theorem Qj(B:Bs C mg mb):ay C mg mb 1 "gcd" (.fn tG):=
 ay.bT (bI B (K:=0) (au (FO B) bH dq) (bG 7 dq) _ (by kernel_rfl) ["a","b"] (fun _ _ _=>b2 fun _ _=>by kernel_rfl) (by kernel_rfl) 2 rfl (by kernel_rfl) (by kernel_rfl) (by decide +kernel)) fun _=>bZ
theorem Xy(B:Bs C mg mb):ay C mg mb 1 "bits_of" (.fn GO):=
 ay.bT (bI B (K:=0) bH (bG 8 dq) _ (by kernel_rfl) ["n"] (fun _ _ _=>b1 fun _=>by kernel_rfl) (by kernel_rfl) 1 rfl (by kernel_rfl) (by kernel_rfl) (by decide +kernel)) fun _=>bZ
theorem vB(B:Bs C mg mb):ay C mg mb 2 "rat" (.fn pW):=
 ay.bT (bI B (K:=1) (au (Qj B) bH dq) (bG 9 dq) _ (by kernel_rfl) ["top","bottom"] (fun _ _ _=>b2 fun _ _=>by kernel_rfl) (by kernel_rfl) 2 rfl (by kernel_rfl) (by kernel_rfl) (by decide +kernel)) fun _=>bZ
theorem ur(B:Bs C mg mb):ay C mg mb 3 "radd" (.fn ig):=
 ay.bT (bI B (K:=2) (au (vB B) bH dq) (bG 10 dq) _ (by kernel_rfl) ["a","b"] (fun _ _ _=>b2 fun _ _=>by kernel_rfl) (by kernel_rfl) 2 rfl (by kernel_rfl) (by kernel_rfl) (by decide +kernel)) fun _=>bZ
theorem uS(B:Bs C mg mb):ay C mg mb 3 "rmul" (.fn jd):=
 ay.bT (bI B (K:=2) (au (vB B) bH dq) (bG 11 dq) _ (by kernel_rfl) ["a","b"] (fun _ _ _=>b2 fun _ _=>by kernel_rfl) (by kernel_rfl) 2 rfl (by kernel_rfl) (by kernel_rfl) (by decide +kernel)) fun _=>bZ
theorem Em(B:Bs C mg mb):ay C mg mb 3 "rdiv" (.fn oY):=
 ay.bT (bI B (K:=2) (au (vB B) bH dq) (bG 12 dq) _ (by kernel_rfl) ["a","b"] (fun _ _ _=>b2 fun _ _=>by kernel_rfl) (by kernel_rfl) 2 rfl (by kernel_rfl) (by kernel_rfl) (by decide +kernel)) fun _=>bZ
theorem I9(B:Bs C mg mb):ay C mg mb 1 "rneg" (.fn oZ):=
 ay.bT (bI B (K:=0) bH (bG 13 dq) _ (by kernel_rfl) ["a"] (fun _ _ _=>b1 fun _=>by kernel_rfl) (by kernel_rfl) 1 rfl (by kernel_rfl) (by kernel_rfl) (by decide +kernel)) fun _=>bZ
theorem HK(B:Bs C mg mb):ay C mg mb 3 "rinv" (.fn qt):=
 ay.bT (bI B (K:=2) (au (vB B) bH dq) (bG 14 dq) _ (by kernel_rfl) ["a"] (fun _ _ _=>b1 fun _=>by kernel_rfl) (by kernel_rfl) 1 rfl (by kernel_rfl) (by kernel_rfl) (by decide +kernel)) fun _=>bZ
theorem P8(B:Bs C mg mb):ay C mg mb 2 "is_vast" (.fn qC):=
 ay.bT (bI B (K:=1) (au (uC B) (au (FO B) (au (YX B) (au (Xy B) bH dq) dq) dq) dq) (bG 15 dq) _ (by kernel_rfl) ["a"] (fun _ _ _=>b1 fun _=>by kernel_rfl) (by kernel_rfl) 1 rfl (by kernel_rfl) (by kernel_rfl) (by decide +kernel)) fun _=>bZ
theorem Jp(B:Bs C mg mb):ay C mg mb 4 "add_term" (.fn mK):=
 bI B (K:=3) (au (nQ B) (au (ur B) bH dq) dq) (bG 17 dq) _ (by kernel_rfl) ["found","powers","rational"] (fun _ _ _=>b3 fun _ _ _=>by kernel_rfl) (by kernel_rfl) 3 rfl (by kernel_rfl) (by kernel_rfl) (by decide +kernel)
theorem Xi(B:Bs C mg mb):ay C mg mb 5 "mvadd" (.fn Bh):=
 ay.bT (bI B (K:=4) (au (AE B) (au (Jp B) bH dq) dq) (bG 16 dq) _ (by kernel_rfl) ["a","b"] (fun _ _ _=>b2 fun _ _=>by kernel_rfl) (by kernel_rfl) 2 rfl (by kernel_rfl) (by kernel_rfl) (by decide +kernel)) fun _=>EF
theorem Th(B:Bs C mg mb):ay C mg mb 2 "mvneg" (.fn AR):=
 ay.bT (bI B (K:=1) (au (I9 B) bH dq) (bG 18 dq) _ (by kernel_rfl) ["a"] (fun _ _ _=>b1 fun _=>by kernel_rfl) (by kernel_rfl) 1 rfl (by kernel_rfl) (by kernel_rfl) (by decide +kernel)) fun _=>bZ
theorem G6(B:Bs C mg mb):ay C mg mb 6 "mvsub" (.fn rh):=
 ay.bT (bI B (K:=5) (au (Xi B) (au (Th B) bH dq) dq) (bG 19 dq) _ (by kernel_rfl) ["a","b"] (fun _ _ _=>b2 fun _ _=>by kernel_rfl) (by kernel_rfl) 2 rfl (by kernel_rfl) (by kernel_rfl) (by decide +kernel)) fun _=>EF
theorem aaJ(B:Bs C mg mb):ay C mg mb 4 "mvscale" (.fn AU):=
 ay.bT (bI B (K:=3) (au (nQ B) (au (uS B) bH dq) dq) (bG 20 dq) _ (by kernel_rfl) ["a","rational"] (fun _ _ _=>b2 fun _ _=>by kernel_rfl) (by kernel_rfl) 2 rfl (by kernel_rfl) (by kernel_rfl) (by decide +kernel)) fun _=>bZ
theorem G7(B:Bs C mg mb):ay C mg mb 4 "mvshift" (.fn om):=
 ay.bT (bI B (K:=3) (au (nQ B) (au (OH B) (au (uS B) bH dq) dq) dq) (bG 21 dq) _ (by kernel_rfl) ["a","powers","rational"] (fun _ _ _=>b3 fun _ _ _=>by kernel_rfl) (by kernel_rfl) 3 rfl (by kernel_rfl) (by kernel_rfl) (by decide +kernel)) fun _=>bZ
theorem n7(B:Bs C mg mb):ay C mg mb 2 "mvlead" (.fn cW):=
 ay.bT (bI B (K:=1) (au (wA B) bH dq) (bG 22 dq) _ (by kernel_rfl) ["a","order"] (fun _ _ _=>b2 fun _ _=>by kernel_rfl) (by kernel_rfl) 2 rfl (by kernel_rfl) (by kernel_rfl) (by decide +kernel)) fun _=>bZ
theorem JO(B:Bs C mg mb):ay C mg mb 5 "mvmonic" (.fn jg):=
 ay.bT (bI B (K:=4) (au (n7 B) (au (aaJ B) (au (HK B) bH dq) dq) dq) (bG 23 dq) _ (by kernel_rfl) ["a","order"] (fun _ _ _=>b2 fun _ _=>by kernel_rfl) (by kernel_rfl) 2 rfl (by kernel_rfl) (by kernel_rfl) (by decide +kernel)) fun _=>bZ
theorem GZ(B:Bs C mg mb):ay C mg mb 2 "first_divisor" (.fn ou):=
 ay.bT (bI B (K:=1) (au (gU B) (au (Ja B) bH dq) dq) (bG 24 dq) _ (by kernel_rfl) ["powers","leads"] (fun _ _ _=>b2 fun _ _=>by kernel_rfl) (by kernel_rfl) 2 rfl (by kernel_rfl) (by kernel_rfl) (by decide +kernel)) fun _=>bZ
theorem N1(B:Bs C mg mb):ay C mg mb 7 "mvdivide" (.fn vZ):=
 ay.bT (bI B (K:=6) (au (uC B) (au (n7 B) (au (AE B) (au (jF B) (au (GZ B) (au (Jp B) (au (G6 B) (au (VT B) (au (QV B) (au (P8 B) (au (Wn B) (au (Et B) (au (Em B) (au (G7 B) bH dq) dq) dq) dq) dq) dq) dq) dq) dq) dq) dq) dq) dq) dq) (bG 25 dq) _ (by kernel_rfl) ["f","some","order"] (fun _ _ _=>b3 fun _ _ _=>by kernel_rfl) (by kernel_rfl) 3 rfl (by kernel_rfl) (by kernel_rfl) (by decide +kernel)) fun _=>DX
theorem zG(B:Bs C mg mb):ay C mg mb 8 "rest_of" (.fn jW):=
 ay.bT (bI B (K:=7) (au (N1 B) bH dq) (bG 26 dq) _ (by kernel_rfl) ["f","some","order"] (fun _ _ _=>b3 fun _ _ _=>by kernel_rfl) (by kernel_rfl) 3 rfl (by kernel_rfl) (by kernel_rfl) (by decide +kernel)) fun _=>DX
theorem Nv(B:Bs C mg mb):ay C mg mb 7 "s_poly" (.fn uY):=
 ay.bT (bI B (K:=6) (au (BC B) (au (G7 B) (au (G6 B) (au (n7 B) (au (Et B) (au (HK B) bH dq) dq) dq) dq) dq) dq) (bG 27 dq) _ (by kernel_rfl) ["f","g","order"] (fun _ _ _=>b3 fun _ _ _=>by kernel_rfl) (by kernel_rfl) 3 rfl (by kernel_rfl) (by kernel_rfl) (by decide +kernel)) fun _=>bZ
theorem Hv(B:Bs C mg mb):ay C mg mb 3 "is_divided" (.fn pP):=
 ay.bT (bI B (K:=2) (au (GZ B) (au (yL B) bH dq) dq) (bG 28 dq) _ (by kernel_rfl) ["powers","leads"] (fun _ _ _=>b2 fun _ _=>by kernel_rfl) (by kernel_rfl) 2 rfl (by kernel_rfl) (by kernel_rfl) (by decide +kernel)) fun _=>bZ
theorem Tg(B:Bs C mg mb):ay C mg mb 4 "standard_powers" (.fn u7):=
 ay.bT (bI B (K:=3) (au (Y7 B) (au (jF B) (au (mG B) (au (n7 B) (au (Hv B) bH dq) dq) dq) dq) dq) (bG 29 dq) _ (by kernel_rfl) ["basis","order","n"] (fun _ _ _=>b3 fun _ _ _=>by kernel_rfl) (by kernel_rfl) 3 rfl (by kernel_rfl) (by kernel_rfl) (by decide +kernel)) fun _=>bZ
theorem sZ(B:Bs C mg mb):ay C mg mb 1 "shape" (.fn j0):=
 bI B (K:=0) (au (jF B) bH dq) (bG 30 dq) _ (by kernel_rfl) ["a"] (fun _ _ _=>b1 fun _=>by kernel_rfl) (by kernel_rfl) 1 rfl (by kernel_rfl) (by kernel_rfl) (by decide +kernel)
theorem um(B:Bs C mg mb):ay C mg mb 1 "need_shape" (.fn pV):=
 ay.bT (bI B (K:=0) bH (bG 31 dq) _ (by kernel_rfl) ["is_right","text"] (fun _ _ _=>b2 fun _ _=>by kernel_rfl) (by kernel_rfl) 2 rfl (by kernel_rfl) (by kernel_rfl) (by decide +kernel)) fun _=>bZ
theorem Zv(B:Bs C mg mb):ay C mg mb 1 "unit_matrix" (.fn ta):=
 ay.bT (bI B (K:=0) (au (yL B) (au (nQ B) (au (mG B) bH dq) dq) dq) (bG 32 dq) _ (by kernel_rfl) ["n"] (fun _ _ _=>b1 fun _=>by kernel_rfl) (by kernel_rfl) 1 rfl (by kernel_rfl) (by kernel_rfl) (by decide +kernel)) fun _=>bZ
theorem QT(B:Bs C mg mb):ay C mg mb 2 "transposed" (.fn tL):=
 ay.bT (bI B (K:=1) (au (mG B) (au (sZ B) bH dq) dq) (bG 33 dq) _ (by kernel_rfl) ["a"] (fun _ _ _=>b1 fun _=>by kernel_rfl) (by kernel_rfl) 1 rfl (by kernel_rfl) (by kernel_rfl) (by decide +kernel)) fun _=>bZ
theorem UH(B:Bs C mg mb):ay C mg mb 4 "dot" (.fn nZ):=
 ay.bT (bI B (K:=3) (au (nQ B) (au (gU B) (au (ur B) (au (uS B) bH dq) dq) dq) dq) (bG 34 dq) _ (by kernel_rfl) ["one","other"] (fun _ _ _=>b2 fun _ _=>by kernel_rfl) (by kernel_rfl) 2 rfl (by kernel_rfl) (by kernel_rfl) (by decide +kernel)) fun _=>bZ
theorem Wv(B:Bs C mg mb):ay C mg mb 4 "mat_add" (.fn vK):=
 ay.bT (bI B (K:=3) (au (um B) (au (sZ B) (au (ur B) (au (gU B) bH dq) dq) dq) dq) (bG 35 dq) _ (by kernel_rfl) ["a","b"] (fun _ _ _=>b2 fun _ _=>by kernel_rfl) (by kernel_rfl) 2 rfl (by kernel_rfl) (by kernel_rfl) (by decide +kernel)) fun _=>bZ
theorem KC(B:Bs C mg mb):ay C mg mb 4 "mat_scale" (.fn uV):=
 ay.bT (bI B (K:=3) (au (uS B) bH dq) (bG 36 dq) _ (by kernel_rfl) ["a","number"] (fun _ _ _=>b2 fun _ _=>by kernel_rfl) (by kernel_rfl) 2 rfl (by kernel_rfl) (by kernel_rfl) (by decide +kernel)) fun _=>bZ
theorem XR(B:Bs C mg mb):ay C mg mb 5 "mat_mul" (.fn qQ):=
 bI B (K:=4) (au (um B) (au (QT B) (au (jF B) (au (UH B) (au (sZ B) bH dq) dq) dq) dq) dq) (bG 37 dq) _ (by kernel_rfl) ["a","b"] (fun _ _ _=>b2 fun _ _=>by kernel_rfl) (by kernel_rfl) 2 rfl (by kernel_rfl) (by kernel_rfl) (by decide +kernel)
theorem Oq(B:Bs C mg mb):ay C mg mb 4 "trace" (.fn wh):=
 ay.bT (bI B (K:=3) (au (nQ B) (au (um B) (au (mG B) (au (jF B) (au (ur B) (au (sZ B) bH dq) dq) dq) dq) dq) dq) (bG 38 dq) _ (by kernel_rfl) ["a"] (fun _ _ _=>b1 fun _=>by kernel_rfl) (by kernel_rfl) 1 rfl (by kernel_rfl) (by kernel_rfl) (by decide +kernel)) fun _=>bZ
theorem Pg(B:Bs C mg mb):ay C mg mb 6 "charpoly" (.fn rY):=
 bI B (K:=5) (au (jF B) (au (um B) (au (mG B) (au (yL B) (au (Zv B) (au (XR B) (au (I9 B) (au (Wv B) (au (Em B) (au (KC B) (au (sZ B) (au (Oq B) bH dq) dq) dq) dq) dq) dq) dq) dq) dq) dq) dq) dq) (bG 39 dq) _ (by kernel_rfl) ["a"] (fun _ _ _=>b1 fun _=>by kernel_rfl) (by kernel_rfl) 1 rfl (by kernel_rfl) (by kernel_rfl) (by decide +kernel)
theorem NB(B:Bs C mg mb):ay C mg mb 2 "pair_key" (.fn uR):=
 ay.bT (bI B (K:=1) (au (BC B) (au (wA B) bH dq) dq) (bG 40 dq) _ (by kernel_rfl) ["pair","leads","order"] (fun _ _ _=>b3 fun _ _ _=>by kernel_rfl) (by kernel_rfl) 3 rfl (by kernel_rfl) (by kernel_rfl) (by decide +kernel)) fun _=>bZ
theorem Ue(B:Bs C mg mb):ay C mg mb 3 "is_needless" (.fn u5):=
 ay.bT (bI B (K:=2) (au (Rz B) (au (BC B) (au (gU B) (au (Ja B) (au (IH B) (au (uC B) bH dq) dq) dq) dq) dq) dq) (bG 41 dq) _ (by kernel_rfl) ["pair","waiting","leads"] (fun _ _ _=>b3 fun _ _ _=>by kernel_rfl) (by kernel_rfl) 3 rfl (by kernel_rfl) (by kernel_rfl) (by decide +kernel)) fun _=>bZ
theorem YN(B:Bs C mg mb):ay C mg mb 3 "least_pair" (.fn tX):=
 ay.bT (bI B (K:=2) (au (NB B) bH dq) (bG 42 dq) _ (by kernel_rfl) ["waiting","leads","order"] (fun _ _ _=>b3 fun _ _ _=>by kernel_rfl) (by kernel_rfl) 3 rfl (by kernel_rfl) (by kernel_rfl) (by decide +kernel)) fun _=>bZ
theorem VB(B:Bs C mg mb):ay C mg mb 9 "groebner" (.fn xX):=
 ay.bT (bI B (K:=8) (au (JO B) (au (jF B) (au (YN B) (au (Ue B) (au (zG B) (au (n7 B) (au (mG B) (au (Nv B) bH dq) dq) dq) dq) dq) dq) dq) dq) (bG 43 dq) _ (by kernel_rfl) ["some","order","most"] (fun _ _ _=>b3 fun _ _ _=>by kernel_rfl) (by kernel_rfl) 3 rfl (by kernel_rfl) (by kernel_rfl) (by decide +kernel)) fun _=>bZ
theorem Ys(B:Bs C mg mb):ay C mg mb 4 "minimal_basis" (.fn yQ):=
 ay.bT (bI B (K:=3) (au (gU B) (au (n7 B) (au (Hv B) (au (jF B) bH dq) dq) dq) dq) (bG 44 dq) _ (by kernel_rfl) ["basis","order"] (fun _ _ _=>b2 fun _ _=>by kernel_rfl) (by kernel_rfl) 2 rfl (by kernel_rfl) (by kernel_rfl) (by decide +kernel)) fun _=>bZ
theorem UP(B:Bs C mg mb):ay C mg mb 9 "reduced_form" (.fn yW):=
 ay.bT (bI B (K:=8) (au (Ys B) (au (wA B) (au (gU B) (au (JO B) (au (zG B) (au (n7 B) bH dq) dq) dq) dq) dq) dq) (bG 45 dq) _ (by kernel_rfl) ["basis","order"] (fun _ _ _=>b2 fun _ _=>by kernel_rfl) (by kernel_rfl) 2 rfl (by kernel_rfl) (by kernel_rfl) (by decide +kernel)) fun _=>bZ
theorem Pw(B:Bs C mg mb):ay C mg mb 10 "reduced_basis" (.fn vM):=
 ay.bT (bI B (K:=9) (au (UP B) (au (VB B) bH dq) dq) (bG 46 dq) _ (by kernel_rfl) ["some","order","most"] (fun _ _ _=>b3 fun _ _ _=>by kernel_rfl) (by kernel_rfl) 3 rfl (by kernel_rfl) (by kernel_rfl) (by decide +kernel)) fun _=>bZ
theorem DQ(B:Bs C mg mb):ay C mg mb 1 "_law_take" (.fn dB):=
 bI B (K:=0) bH (bG 47 dq) _ (by kernel_rfl) ["box","many"] (fun _ _ _=>b2 fun _ _=>by kernel_rfl) (by kernel_rfl) 2 rfl (by kernel_rfl) (by kernel_rfl) (by decide +kernel)
theorem Ug(B:Bs C mg mb):ay C mg mb 1 "_law_poly" (.fn jI):=
 bI B (K:=0) (au (AE B) bH dq) (bG 48 dq) _ (by kernel_rfl) ["pairs"] (fun _ _ _=>b1 fun _=>by kernel_rfl) (by kernel_rfl) 1 rfl (by kernel_rfl) (by kernel_rfl) (by decide +kernel)
theorem Zj(B:Bs C mg mb):ay C mg mb 2 "_law_ideal" (.fn nA):=
 bI B (K:=1) (au (Ug B) (au (DQ B) bH dq) dq) (bG 49 dq) _ (by kernel_rfl) ["box"] (fun _ _ _=>b1 fun _=>by kernel_rfl) (by kernel_rfl) 1 rfl (by kernel_rfl) (by kernel_rfl) (by decide +kernel)
theorem Oj(B:Bs C mg mb):ay C mg mb 9 "_law_letter" (.fn kN):=
 ay.bT (bI B (K:=8) (au (zG B) bH dq) (bG 50 dq) _ (by kernel_rfl) ["at","powers","basis","order"] (fun _ _ _=>b4 fun _ _ _ _=>by kernel_rfl) (by kernel_rfl) 4 rfl (by kernel_rfl) (by kernel_rfl) (by decide +kernel)) fun _=>bZ
theorem Lp(B:Bs C mg mb):ay C mg mb 1 "_law_times" (.fn pj):=
 ay.bT (bI B (K:=0) (au (xd B) (au (mG B) (au (jF B) (au (gU B) bH dq) dq) dq) dq) (bG 51 dq) _ (by kernel_rfl) ["a","b"] (fun _ _ _=>b2 fun _ _=>by kernel_rfl) (by kernel_rfl) 2 rfl (by kernel_rfl) (by kernel_rfl) (by decide +kernel)) fun _=>bZ
theorem Lb(B:Bs C mg mb):ay C mg mb 11 "law" (.fn FD):=
 bI B (K:=10) (au (Zj B) (au (Pw B) (au (Tg B) (au (jF B) (au (Oj B) (au (Pg B) (au (Ld B) (au (DQ B) (au (Lp B) (au (gU B) (au (WO B) bH dq) dq) dq) dq) dq) dq) dq) dq) dq) dq) dq) (bG 52 dq) _ (by kernel_rfl) ["script"] (fun _ _ _=>b1 fun _=>by kernel_rfl) (by kernel_rfl) 1 rfl (by kernel_rfl) (by kernel_rfl) (by decide +kernel)
end
end
section
open PySem PySem.Calls PyProof.Rows PySem.W
theorem all_ints(l:List Int):∀(vs:List Value) (xs:List WData),xs=l.map .int->WellAll P h vs xs->bD kh φ M h (l.map .int) vs:=by
 induction l with
 |nil=>
  intro vs xs e W;subst e;cases W;exact .nil
 |cons a l ih=>
  intro vs xs e W;subst e;cases W with
  |cons a b=>cases a;exact .cons (.int _ _) (ih _ _ rfl b)
theorem Wg(l:List Int):ofPy (.list (l.map .int)) = .list (l.map .int):=by
 show WData.list (ofPys _)=_;rw[ofPys_eq,d5];rfl
theorem I0{C:Cf}(h:∃o,C.h₀.get? sysModules=some o):C.I ⟨fun _=>none,fun _=>False⟩ ⟨0,[]⟩ C.h₀ where
 base:=fun _ _ e=>e
 objs:=fun _ m=>by cases m
 nodup:=List.nodup_nil
 inj:=fun _ m=>by cases m
 lt:=fun _ m=>by cases m
 fresh:=fun _ _=>rfl
 cC:=fun _ f=>f.elim
 sys:=h
theorem Rq{P:Params}{C:Cf}{a:Addr}{l:List Int}(W:Well P C.h₀ (.ref a) (ofPy (PyData.list (l.map PyData.int)))):C.Rs ⟨fun _=>none,fun _=>False⟩ ⟨0,[]⟩ C.h₀ [.lst (l.map .int)] [.ref a]:=by
 rw[Wg]at W;cases W with
 |list g r=>
  refine .cons (.lst g ?_ (all_ints l _ _ rfl r)) .nil;rintro (⟨e,m,_⟩|f)
  ·cases m
  ·exact f
theorem QN:Rm callerA 30:=⟨rfl,by decide,by decide⟩
set_option maxHeartbeats 8000000 in
theorem law_holds(Vz:∀l:List Int,l.length<=63->∃H',FD [.lst (l.map .int)] ⟨0,[]⟩=some (.bool true,H')):PySem.Challenge.rw_sa0118_01.Holds:=hd (by
 intro w aaZ s₁ mg mb G Y fa o pm cd doc dV kV ho hd FT hD Y1 hg args vals as UW Qx Ml Ox pd;refine Ground.open G ?_;intro T B D TE TW
 wrow_args UW Qx Ml Ox pd
 rename Well _ _ _ _=>w1
 rename IntsAre _ _=>hI
 rename List Int=>l
 have B0:Bs ⟨PySem.Challenge.rw_sa0118_01.row.prog,w,s₁.heap⟩ mg mb:=⟨fun _=>rfl,⟨_,T⟩,Y⟩;obtain⟨_,a,o',fd,h1,h2,h3,hc⟩:=Lb B0;have Hc:mg "law" = some (Value.ref fa):=Y1;rw[h1]at Hc;cases Hc;have PV:∃o,s₁.heap.get? sysModules=some o:=by
  obtain⟨mm,x,_⟩:=(T.seer (by kernel_rfl)).mods;exact mB x
 obtain⟨H',hl⟩:=Vz l (by rename ¬ _=>hq;lia);refine(hc.more (m:=30) dq) callerA ⟨fun _=>none,fun _=>False⟩ ⟨0,[]⟩ s₁ _ _ _ H' _ _ QN (I0 PV) (Rq w1) hl ?_;intro x a8 h' tk S I' r;cases r;refine⟨.inl ⟨_,.bool true,[],rfl,fun cls=>rfl,.bool true,?_,unshared_nil⟩,.of_keep fun b o e=>S.keep b o e ?_,rfl,.of_eq hg⟩
 ·exact postW_of rfl (w_eq_bool (w_res rfl) w_lit) rfl
 ·rintro ⟨e,m,_⟩;cases m)
end
end Internal
end
end Mine
set_option maxHeartbeats 4000000 in
theorem PySem.Challenge.cw_sa0118_01_holds : PySem.Challenge.rw_sa0118_01.Holds :=
  Mine.Internal.law_holds fun l hl => Mine.Internal.law_run Mine.Internal.all_ok l hl
