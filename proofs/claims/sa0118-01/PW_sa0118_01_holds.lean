import PyProof.Rows.All
import Wide.All
import OpenK.AllK
import Wide.FinOn
import KE.KSortTup
import KE.KDictOf
import PyProof.AttrMiss
import PyProof.DefCall
import PyProof.CompFree
import PySem.Challenge.RW_sa0118_01
set_option autoImplicit true
set_option genSizeOf false
set_option genInjectivity false
set_option genCtorIdx false
set_option backward.match.sparseCases false
set_option bootstrap.genMatcherCode false
set_option tactic.hygienic false
set_option compiler.extract_closed false
set_option maxRecDepth 100000
set_option linter.unusedSimpArgs false
set_option linter.unusedVariables false
set_option Elab.async false
namespace Mine
noncomputable section
set_option hygiene false in
local macro_rules
  |`(tactic|exists $h:ident) => `(tactic|(refine sp1 $h fun za => ?_;clear $h;subst za))
  |`(tactic|exists $a,$b,*)=>`(tactic|refine $a fun $b* =>?_)
  |`(tactic|injections $h:ident) => `(tactic|(refine sp2 $h fun za zb => ?_;clear $h;subst za;subst zb))
namespace Internal
theorem dq{p:Prop}[Decidable p](h:decide p=true:=by rfl):p:=of_decide_eq_true h
section
theorem ak{p0 p1:Prop}{P:Prop}(h:p0/\p1)(k:p0->p1->P):P:=k h.1 h.2
theorem dr{p0 p1 p2:Prop}{P:Prop}(h:p0/\p1/\p2)(k:p0->p1->p2->P):P:=k h.1 h.2.1 h.2.2
theorem fu{p0 p1 p2 p3:Prop}{P:Prop}(h:p0/\p1/\p2/\p3)(k:p0->p1->p2->p3->P):P:=k h.1 h.2.1 h.2.2.1 h.2.2.2
theorem E6{p0 p1 p2 p3 p4:Prop}{P:Prop}(h:p0/\p1/\p2/\p3/\p4)(k:p0->p1->p2->p3->p4->P):P:=k h.1 h.2.1 h.2.2.1 h.2.2.2.1 h.2.2.2.2
theorem VZ{p0 p1 p2 p3 p4 p5:Prop}{P:Prop}(h:p0/\p1/\p2/\p3/\p4/\p5)(k:p0->p1->p2->p3->p4->p5->P):P:=k h.1 h.2.1 h.2.2.1 h.2.2.2.1 h.2.2.2.2.1 h.2.2.2.2.2
theorem aD{bx:Sort _}{p0:bx->Prop}{P:Prop}(h:∃a0,p0 a0)(k:∀a0,p0 a0->P):P:=h.elim fun a0 h=>k a0 h
theorem ae{bx:Sort _}{p0 p1:bx->Prop}{P:Prop}(h:∃a0,p0 a0/\p1 a0)(k:∀a0,p0 a0->p1 a0->P):P:=h.elim fun a0 h=>k a0 h.1 h.2
theorem b6{bx:Sort _}{p0 p1 p2:bx->Prop}{P:Prop}(h:∃a0,p0 a0/\p1 a0/\p2 a0)(k:∀a0,p0 a0->p1 a0->p2 a0->P):P:=h.elim fun a0 h=>k a0 h.1 h.2.1 h.2.2
theorem dw{bx:Sort _}{p0 p1 p2 p3:bx->Prop}{P:Prop}(h:∃a0,p0 a0/\p1 a0/\p2 a0/\p3 a0)(k:∀a0,p0 a0->p1 a0->p2 a0->p3 a0->P):P:=h.elim fun a0 h=>k a0 h.1 h.2.1 h.2.2.1 h.2.2.2
theorem mC{bx:Sort _}{p0 p1 p2 p3 p4:bx->Prop}{P:Prop}(h:∃a0,p0 a0/\p1 a0/\p2 a0/\p3 a0/\p4 a0)(k:∀a0,p0 a0->p1 a0->p2 a0->p3 a0->p4 a0->P):P:=h.elim fun a0 h=>k a0 h.1 h.2.1 h.2.2.1 h.2.2.2.1 h.2.2.2.2
theorem oJ{bx:Sort _}{p0 p1 p2 p3 p4 p5:bx->Prop}{P:Prop}(h:∃a0,p0 a0/\p1 a0/\p2 a0/\p3 a0/\p4 a0/\p5 a0)(k:∀a0,p0 a0->p1 a0->p2 a0->p3 a0->p4 a0->p5 a0->P):P:=h.elim fun a0 h=>k a0 h.1 h.2.1 h.2.2.1 h.2.2.2.1 h.2.2.2.2.1 h.2.2.2.2.2
theorem d7{bx:Sort _}{bP:Sort _}{p0:bx->bP->Prop}{P:Prop}(h:∃a0 a1,p0 a0 a1)(k:∀a0 a1,p0 a0 a1->P):P:=h.elim fun a0 h=>h.elim fun a1 h=>k a0 a1 h
theorem aT{bx:Sort _}{bP:Sort _}{p0 p1:bx->bP->Prop}{P:Prop}(h:∃a0 a1,p0 a0 a1/\p1 a0 a1)(k:∀a0 a1,p0 a0 a1->p1 a0 a1->P):P:=h.elim fun a0 h=>h.elim fun a1 h=>k a0 a1 h.1 h.2
theorem cB{bx:Sort _}{bP:Sort _}{p0 p1 p2:bx->bP->Prop}{P:Prop}(h:∃a0 a1,p0 a0 a1/\p1 a0 a1/\p2 a0 a1)(k:∀a0 a1,p0 a0 a1->p1 a0 a1->p2 a0 a1->P):P:=h.elim fun a0 h=>h.elim fun a1 h=>k a0 a1 h.1 h.2.1 h.2.2
theorem ko{bx:Sort _}{bP:Sort _}{p0 p1 p2 p3:bx->bP->Prop}{P:Prop}(h:∃a0 a1,p0 a0 a1/\p1 a0 a1/\p2 a0 a1/\p3 a0 a1)(k:∀a0 a1,p0 a0 a1->p1 a0 a1->p2 a0 a1->p3 a0 a1->P):P:=h.elim fun a0 h=>h.elim fun a1 h=>k a0 a1 h.1 h.2.1 h.2.2.1 h.2.2.2
theorem gN{bx:Sort _}{bP:Sort _}{p0 p1 p2 p3 p4:bx->bP->Prop}{P:Prop}(h:∃a0 a1,p0 a0 a1/\p1 a0 a1/\p2 a0 a1/\p3 a0 a1/\p4 a0 a1)(k:∀a0 a1,p0 a0 a1->p1 a0 a1->p2 a0 a1->p3 a0 a1->p4 a0 a1->P):P:=h.elim fun a0 h=>h.elim fun a1 h=>k a0 a1 h.1 h.2.1 h.2.2.1 h.2.2.2.1 h.2.2.2.2
theorem sO{bx:Sort _}{bP:Sort _}{p0 p1 p2 p3 p4 p5:bx->bP->Prop}{P:Prop}(h:∃a0 a1,p0 a0 a1/\p1 a0 a1/\p2 a0 a1/\p3 a0 a1/\p4 a0 a1/\p5 a0 a1)(k:∀a0 a1,p0 a0 a1->p1 a0 a1->p2 a0 a1->p3 a0 a1->p4 a0 a1->p5 a0 a1->P):P:=h.elim fun a0 h=>h.elim fun a1 h=>k a0 a1 h.1 h.2.1 h.2.2.1 h.2.2.2.1 h.2.2.2.2.1 h.2.2.2.2.2
theorem Ox{bx:Sort _}{bP:Sort _}{p0 p1 p2 p3 p4 p5 p6 p7 p8 p9 JA:bx->bP->Prop}{P:Prop}(h:∃a0 a1,p0 a0 a1/\p1 a0 a1/\p2 a0 a1/\p3 a0 a1/\p4 a0 a1/\p5 a0 a1/\p6 a0 a1/\p7 a0 a1/\p8 a0 a1/\p9 a0 a1/\JA a0 a1)(k:∀a0 a1,p0 a0 a1->p1 a0 a1->p2 a0 a1->p3 a0 a1->p4 a0 a1->p5 a0 a1->p6 a0 a1->p7 a0 a1->p8 a0 a1->p9 a0 a1->JA a0 a1->P):P:=h.elim fun a0 h=>h.elim fun a1 h=>k a0 a1 h.1 h.2.1 h.2.2.1 h.2.2.2.1 h.2.2.2.2.1 h.2.2.2.2.2.1 h.2.2.2.2.2.2.1 h.2.2.2.2.2.2.2.1 h.2.2.2.2.2.2.2.2.1 h.2.2.2.2.2.2.2.2.2.1 h.2.2.2.2.2.2.2.2.2.2
theorem kO{bx:Sort _}{bP:Sort _}{cz:Sort _}{p0:bx->bP->cz->Prop}{P:Prop}(h:∃a0 a1 a2,p0 a0 a1 a2)(k:∀a0 a1 a2,p0 a0 a1 a2->P):P:=h.elim fun a0 h=>h.elim fun a1 h=>h.elim fun a2 h=>k a0 a1 a2 h
theorem nH{bx:Sort _}{bP:Sort _}{cz:Sort _}{p0 p1:bx->bP->cz->Prop}{P:Prop}(h:∃a0 a1 a2,p0 a0 a1 a2/\p1 a0 a1 a2)(k:∀a0 a1 a2,p0 a0 a1 a2->p1 a0 a1 a2->P):P:=h.elim fun a0 h=>h.elim fun a1 h=>h.elim fun a2 h=>k a0 a1 a2 h.1 h.2
theorem dA{bx:Sort _}{bP:Sort _}{cz:Sort _}{p0 p1 p2:bx->bP->cz->Prop}{P:Prop}(h:∃a0 a1 a2,p0 a0 a1 a2/\p1 a0 a1 a2/\p2 a0 a1 a2)(k:∀a0 a1 a2,p0 a0 a1 a2->p1 a0 a1 a2->p2 a0 a1 a2->P):P:=h.elim fun a0 h=>h.elim fun a1 h=>h.elim fun a2 h=>k a0 a1 a2 h.1 h.2.1 h.2.2
theorem fO{bx:Sort _}{bP:Sort _}{cz:Sort _}{p0 p1 p2 p3:bx->bP->cz->Prop}{P:Prop}(h:∃a0 a1 a2,p0 a0 a1 a2/\p1 a0 a1 a2/\p2 a0 a1 a2/\p3 a0 a1 a2)(k:∀a0 a1 a2,p0 a0 a1 a2->p1 a0 a1 a2->p2 a0 a1 a2->p3 a0 a1 a2->P):P:=h.elim fun a0 h=>h.elim fun a1 h=>h.elim fun a2 h=>k a0 a1 a2 h.1 h.2.1 h.2.2.1 h.2.2.2
theorem jZ{bx:Sort _}{bP:Sort _}{cz:Sort _}{p0 p1 p2 p3 p4:bx->bP->cz->Prop}{P:Prop}(h:∃a0 a1 a2,p0 a0 a1 a2/\p1 a0 a1 a2/\p2 a0 a1 a2/\p3 a0 a1 a2/\p4 a0 a1 a2)(k:∀a0 a1 a2,p0 a0 a1 a2->p1 a0 a1 a2->p2 a0 a1 a2->p3 a0 a1 a2->p4 a0 a1 a2->P):P:=h.elim fun a0 h=>h.elim fun a1 h=>h.elim fun a2 h=>k a0 a1 a2 h.1 h.2.1 h.2.2.1 h.2.2.2.1 h.2.2.2.2
theorem NS{bx:Sort _}{bP:Sort _}{cz:Sort _}{p0 p1 p2 p3 p4 p5:bx->bP->cz->Prop}{P:Prop}(h:∃a0 a1 a2,p0 a0 a1 a2/\p1 a0 a1 a2/\p2 a0 a1 a2/\p3 a0 a1 a2/\p4 a0 a1 a2/\p5 a0 a1 a2)(k:∀a0 a1 a2,p0 a0 a1 a2->p1 a0 a1 a2->p2 a0 a1 a2->p3 a0 a1 a2->p4 a0 a1 a2->p5 a0 a1 a2->P):P:=h.elim fun a0 h=>h.elim fun a1 h=>h.elim fun a2 h=>k a0 a1 a2 h.1 h.2.1 h.2.2.1 h.2.2.2.1 h.2.2.2.2.1 h.2.2.2.2.2
theorem DD{bx:Sort _}{bP:Sort _}{cz:Sort _}{dT:Sort _}{p0 p1:bx->bP->cz->dT->Prop}{P:Prop}(h:∃a0 a1 a2 a3,p0 a0 a1 a2 a3/\p1 a0 a1 a2 a3)(k:∀a0 a1 a2 a3,p0 a0 a1 a2 a3->p1 a0 a1 a2 a3->P):P:=h.elim fun a0 h=>h.elim fun a1 h=>h.elim fun a2 h=>h.elim fun a3 h=>k a0 a1 a2 a3 h.1 h.2
theorem tw{bx:Sort _}{bP:Sort _}{cz:Sort _}{dT:Sort _}{p0 p1 p2:bx->bP->cz->dT->Prop}{P:Prop}(h:∃a0 a1 a2 a3,p0 a0 a1 a2 a3/\p1 a0 a1 a2 a3/\p2 a0 a1 a2 a3)(k:∀a0 a1 a2 a3,p0 a0 a1 a2 a3->p1 a0 a1 a2 a3->p2 a0 a1 a2 a3->P):P:=h.elim fun a0 h=>h.elim fun a1 h=>h.elim fun a2 h=>h.elim fun a3 h=>k a0 a1 a2 a3 h.1 h.2.1 h.2.2
theorem GX{bx:Sort _}{bP:Sort _}{cz:Sort _}{dT:Sort _}{p0 p1 p2 p3:bx->bP->cz->dT->Prop}{P:Prop}(h:∃a0 a1 a2 a3,p0 a0 a1 a2 a3/\p1 a0 a1 a2 a3/\p2 a0 a1 a2 a3/\p3 a0 a1 a2 a3)(k:∀a0 a1 a2 a3,p0 a0 a1 a2 a3->p1 a0 a1 a2 a3->p2 a0 a1 a2 a3->p3 a0 a1 a2 a3->P):P:=h.elim fun a0 h=>h.elim fun a1 h=>h.elim fun a2 h=>h.elim fun a3 h=>k a0 a1 a2 a3 h.1 h.2.1 h.2.2.1 h.2.2.2
theorem EO{bx:Sort _}{bP:Sort _}{cz:Sort _}{dT:Sort _}{p0 p1 p2 p3 p4:bx->bP->cz->dT->Prop}{P:Prop}(h:∃a0 a1 a2 a3,p0 a0 a1 a2 a3/\p1 a0 a1 a2 a3/\p2 a0 a1 a2 a3/\p3 a0 a1 a2 a3/\p4 a0 a1 a2 a3)(k:∀a0 a1 a2 a3,p0 a0 a1 a2 a3->p1 a0 a1 a2 a3->p2 a0 a1 a2 a3->p3 a0 a1 a2 a3->p4 a0 a1 a2 a3->P):P:=h.elim fun a0 h=>h.elim fun a1 h=>h.elim fun a2 h=>h.elim fun a3 h=>k a0 a1 a2 a3 h.1 h.2.1 h.2.2.1 h.2.2.2.1 h.2.2.2.2
theorem FN{bx:Sort _}{bP:Sort _}{cz:Sort _}{dT:Sort _}{fQ:Sort _}{p0 p1:bx->bP->cz->dT->fQ->Prop}{P:Prop}(h:∃a0 a1 a2 a3 a4,p0 a0 a1 a2 a3 a4/\p1 a0 a1 a2 a3 a4)(k:∀a0 a1 a2 a3 a4,p0 a0 a1 a2 a3 a4->p1 a0 a1 a2 a3 a4->P):P:=h.elim fun a0 h=>h.elim fun a1 h=>h.elim fun a2 h=>h.elim fun a3 h=>h.elim fun a4 h=>k a0 a1 a2 a3 a4 h.1 h.2
theorem Tv{bx:Sort _}{bP:Sort _}{cz:Sort _}{dT:Sort _}{fQ:Sort _}{p0 p1 p2 p3:bx->bP->cz->dT->fQ->Prop}{P:Prop}(h:∃a0 a1 a2 a3 a4,p0 a0 a1 a2 a3 a4/\p1 a0 a1 a2 a3 a4/\p2 a0 a1 a2 a3 a4/\p3 a0 a1 a2 a3 a4)(k:∀a0 a1 a2 a3 a4,p0 a0 a1 a2 a3 a4->p1 a0 a1 a2 a3 a4->p2 a0 a1 a2 a3 a4->p3 a0 a1 a2 a3 a4->P):P:=h.elim fun a0 h=>h.elim fun a1 h=>h.elim fun a2 h=>h.elim fun a3 h=>h.elim fun a4 h=>k a0 a1 a2 a3 a4 h.1 h.2.1 h.2.2.1 h.2.2.2
theorem Io{bx:Sort _}{bP:Sort _}{cz:Sort _}{dT:Sort _}{fQ:Sort _}{iV:Sort _}{p0 p1 p2 p3 p4 p5:bx->bP->cz->dT->fQ->iV->Prop}{P:Prop}(h:∃a0 a1 a2 a3 a4 a5,p0 a0 a1 a2 a3 a4 a5/\p1 a0 a1 a2 a3 a4 a5/\p2 a0 a1 a2 a3 a4 a5/\p3 a0 a1 a2 a3 a4 a5/\p4 a0 a1 a2 a3 a4 a5/\p5 a0 a1 a2 a3 a4 a5)(k:∀a0 a1 a2 a3 a4 a5,p0 a0 a1 a2 a3 a4 a5->p1 a0 a1 a2 a3 a4 a5->p2 a0 a1 a2 a3 a4 a5->p3 a0 a1 a2 a3 a4 a5->p4 a0 a1 a2 a3 a4 a5->p5 a0 a1 a2 a3 a4 a5->P):P:=h.elim fun a0 h=>h.elim fun a1 h=>h.elim fun a2 h=>h.elim fun a3 h=>h.elim fun a4 h=>h.elim fun a5 h=>k a0 a1 a2 a3 a4 a5 h.1 h.2.1 h.2.2.1 h.2.2.2.1 h.2.2.2.2.1 h.2.2.2.2.2
theorem JN{bx:Sort _}{bP:Sort _}{cz:Sort _}{dT:Sort _}{fQ:Sort _}{iV:Sort _}{p0 p1 p2 p3 p4 p5 p6 p7 p8:bx->bP->cz->dT->fQ->iV->Prop}{P:Prop}(h:∃a0 a1 a2 a3 a4 a5,p0 a0 a1 a2 a3 a4 a5/\p1 a0 a1 a2 a3 a4 a5/\p2 a0 a1 a2 a3 a4 a5/\p3 a0 a1 a2 a3 a4 a5/\p4 a0 a1 a2 a3 a4 a5/\p5 a0 a1 a2 a3 a4 a5/\p6 a0 a1 a2 a3 a4 a5/\p7 a0 a1 a2 a3 a4 a5/\p8 a0 a1 a2 a3 a4 a5)(k:∀a0 a1 a2 a3 a4 a5,p0 a0 a1 a2 a3 a4 a5->p1 a0 a1 a2 a3 a4 a5->p2 a0 a1 a2 a3 a4 a5->p3 a0 a1 a2 a3 a4 a5->p4 a0 a1 a2 a3 a4 a5->p5 a0 a1 a2 a3 a4 a5->p6 a0 a1 a2 a3 a4 a5->p7 a0 a1 a2 a3 a4 a5->p8 a0 a1 a2 a3 a4 a5->P):P:=h.elim fun a0 h=>h.elim fun a1 h=>h.elim fun a2 h=>h.elim fun a3 h=>h.elim fun a4 h=>h.elim fun a5 h=>k a0 a1 a2 a3 a4 a5 h.1 h.2.1 h.2.2.1 h.2.2.2.1 h.2.2.2.2.1 h.2.2.2.2.2.1 h.2.2.2.2.2.2.1 h.2.2.2.2.2.2.2.1 h.2.2.2.2.2.2.2.2
theorem Qo{bx:Sort _}{bP:Sort _}{cz:Sort _}{dT:Sort _}{fQ:Sort _}{iV:Sort _}{mK:Sort _}{p0:bx->bP->cz->dT->fQ->iV->mK->Prop}{P:Prop}(h:∃a0 a1 a2 a3 a4 a5 a6,p0 a0 a1 a2 a3 a4 a5 a6)(k:∀a0 a1 a2 a3 a4 a5 a6,p0 a0 a1 a2 a3 a4 a5 a6->P):P:=h.elim fun a0 h=>h.elim fun a1 h=>h.elim fun a2 h=>h.elim fun a3 h=>h.elim fun a4 h=>h.elim fun a5 h=>h.elim fun a6 h=>k a0 a1 a2 a3 a4 a5 a6 h
theorem uR{bx:Sort _}{bP:Sort _}{cz:Sort _}{dT:Sort _}{fQ:Sort _}{iV:Sort _}{mK:Sort _}{p0 p1:bx->bP->cz->dT->fQ->iV->mK->Prop}{P:Prop}(h:∃a0 a1 a2 a3 a4 a5 a6,p0 a0 a1 a2 a3 a4 a5 a6/\p1 a0 a1 a2 a3 a4 a5 a6)(k:∀a0 a1 a2 a3 a4 a5 a6,p0 a0 a1 a2 a3 a4 a5 a6->p1 a0 a1 a2 a3 a4 a5 a6->P):P:=h.elim fun a0 h=>h.elim fun a1 h=>h.elim fun a2 h=>h.elim fun a3 h=>h.elim fun a4 h=>h.elim fun a5 h=>h.elim fun a6 h=>k a0 a1 a2 a3 a4 a5 a6 h.1 h.2
theorem DB{bx:Sort _}{bP:Sort _}{cz:Sort _}{dT:Sort _}{fQ:Sort _}{iV:Sort _}{mK:Sort _}{p0 p1 p2 p3 p4 p5:bx->bP->cz->dT->fQ->iV->mK->Prop}{P:Prop}(h:∃a0 a1 a2 a3 a4 a5 a6,p0 a0 a1 a2 a3 a4 a5 a6/\p1 a0 a1 a2 a3 a4 a5 a6/\p2 a0 a1 a2 a3 a4 a5 a6/\p3 a0 a1 a2 a3 a4 a5 a6/\p4 a0 a1 a2 a3 a4 a5 a6/\p5 a0 a1 a2 a3 a4 a5 a6)(k:∀a0 a1 a2 a3 a4 a5 a6,p0 a0 a1 a2 a3 a4 a5 a6->p1 a0 a1 a2 a3 a4 a5 a6->p2 a0 a1 a2 a3 a4 a5 a6->p3 a0 a1 a2 a3 a4 a5 a6->p4 a0 a1 a2 a3 a4 a5 a6->p5 a0 a1 a2 a3 a4 a5 a6->P):P:=h.elim fun a0 h=>h.elim fun a1 h=>h.elim fun a2 h=>h.elim fun a3 h=>h.elim fun a4 h=>h.elim fun a5 h=>h.elim fun a6 h=>k a0 a1 a2 a3 a4 a5 a6 h.1 h.2.1 h.2.2.1 h.2.2.2.1 h.2.2.2.2.1 h.2.2.2.2.2
theorem Kq{bx:Sort _}{bP:Sort _}{cz:Sort _}{dT:Sort _}{fQ:Sort _}{iV:Sort _}{mK:Sort _}{KZ:Sort _}{p0 p1 p2 p3 p4 p5 p6:bx->bP->cz->dT->fQ->iV->mK->KZ->Prop}{P:Prop}(h:∃a0 a1 a2 a3 a4 a5 a6 a7,p0 a0 a1 a2 a3 a4 a5 a6 a7/\p1 a0 a1 a2 a3 a4 a5 a6 a7/\p2 a0 a1 a2 a3 a4 a5 a6 a7/\p3 a0 a1 a2 a3 a4 a5 a6 a7/\p4 a0 a1 a2 a3 a4 a5 a6 a7/\p5 a0 a1 a2 a3 a4 a5 a6 a7/\p6 a0 a1 a2 a3 a4 a5 a6 a7)(k:∀a0 a1 a2 a3 a4 a5 a6 a7,p0 a0 a1 a2 a3 a4 a5 a6 a7->p1 a0 a1 a2 a3 a4 a5 a6 a7->p2 a0 a1 a2 a3 a4 a5 a6 a7->p3 a0 a1 a2 a3 a4 a5 a6 a7->p4 a0 a1 a2 a3 a4 a5 a6 a7->p5 a0 a1 a2 a3 a4 a5 a6 a7->p6 a0 a1 a2 a3 a4 a5 a6 a7->P):P:=h.elim fun a0 h=>h.elim fun a1 h=>h.elim fun a2 h=>h.elim fun a3 h=>h.elim fun a4 h=>h.elim fun a5 h=>h.elim fun a6 h=>h.elim fun a7 h=>k a0 a1 a2 a3 a4 a5 a6 a7 h.1 h.2.1 h.2.2.1 h.2.2.2.1 h.2.2.2.2.1 h.2.2.2.2.2.1 h.2.2.2.2.2.2
noncomputable def oo{A B:Type _}(x:Option A)(f:A->Option B):Option B:=match x with
 |some a=>f a
 |none=>none
noncomputable def oB{A:Type _}(x:Option A)(f:A->Bool):Bool:=match x with
 |some a=>f a
 |none=>false
noncomputable def bO{B:Type _}(b:Bool)(x:Option B):Option B:=match b with
 |true=>x
 |false=>none
noncomputable def bB(b x:Bool):Bool:=match b with
 |true=>x
 |false=>false
theorem aQ{A B:Type _}{x:Option A}{f:A->Option B}{b:B}(h:oo x f=some b):∃a,x=some a/\f a=some b:=by
 induction x using Option.casesOn with
 |none=>exact Option.noConfusion rfl (heq_of_eq h)
 |some a=>exact⟨a,rfl,h⟩
theorem jH{A:Type _}{x:Option A}{f:A->Bool}(h:oB x f=true):∃a,x=some a/\f a=true:=by
 induction x using Option.casesOn with
 |none=>exact Bool.noConfusion h
 |some a=>exact⟨a,rfl,h⟩
theorem Pd{B:Type _}{b:Bool}{x:Option B}{y:B}(h:bO b x=some y):b=true/\x=some y:=by
 induction b using Bool.casesOn with
 |false=>exact Option.noConfusion rfl (heq_of_eq h)
 |true=>exact⟨rfl,h⟩
theorem nJ(h:bB b x=true):b=true/\x=true:=by
 induction b using Bool.casesOn with
 |false=>exact Bool.noConfusion h
 |true=>exact⟨rfl,h⟩
theorem nq{A:Type _}{P:Prop}{a:A}(h:none=some a):P:=Option.noConfusion rfl (heq_of_eq h)
theorem sy{A:Sort _}{a b:A}(h:a=b):b=a:=h.symm
theorem ns{A:Type _}{P:Prop}{a:A}(h:some a=none):P:=nq h.symm
theorem bf{P:Prop}(h:false=true):P:=Bool.noConfusion h
theorem bt{P:Prop}(h:true=false):P:=Bool.noConfusion h
theorem sp1{A:Type _}{a c:A}{P:Prop}(h:some a=some c)(k:a=c->P):P:=k (Option.some.inj h)
theorem sp2{A B:Type _}{a c:A}{b d:B}{P:Prop}(h:some (a,b)=some (c,d))(k:a=c->b=d->P):P:=k (congrArg (fun x:A×B=>x.1) (Option.some.inj h)) (congrArg (fun x:A×B=>x.2) (Option.some.inj h))
theorem jq{A B D:Type _}{a c:A}{b d:B}{x y:D}{P:Prop}(h:some (a,b,x)=some (c,d,y))(k:a=c->b=d->x=y->P):P:=k (congrArg (fun x:A×B×D=>x.1) (Option.some.inj h)) (congrArg (fun x:A×B×D=>x.2.1) (Option.some.inj h)) (congrArg (fun x:A×B×D=>x.2.2) (Option.some.inj h))
theorem xU{A:Type _}{l:List A}(h:l.length=1):∃a,l=[a]:=by
 induction l using List.casesOn with
 |nil=>exact nomatch h
 |cons a l=>induction l using List.casesOn with
  |nil=>exact⟨a,rfl⟩
  |cons=>exact nomatch h
theorem ow{A:Type _}{l:List A}(h:l.length=2):∃a b,l=[a,b]:=by
 induction l using List.casesOn with
 |nil=>exact nomatch h
 |cons a l=>exact aD (xU (Nat.succ.inj h)) fun b e=>⟨a,b,congrArg (List.cons a) e⟩
theorem v7{A:Type _}{l:List A}(h:l.length=3):∃a b c,l=[a,b,c]:=by
 induction l using List.casesOn with
 |nil=>exact nomatch h
 |cons a l=>exact d7 (ow (Nat.succ.inj h)) fun b c e=>⟨a,b,c,congrArg (List.cons a) e⟩
theorem g6{A:Type}{M:PySem.Model}{a:PySem.Around}{c:Prop}[Decidable c]{x y:PySem.Sem A}{Q:A->PySem.Shared->Prop}{E:PySem.Value->PySem.Shared->Prop}{s:PySem.Shared}(h:c)(k:PySem.wpAny M a x Q E s):PySem.wpAny M a (if c then x else y) Q E s:=by
 rw[if_pos h];exact k
theorem eG{A:Type}{M:PySem.Model}{a:PySem.Around}{c:Prop}[Decidable c]{x y:PySem.Sem A}{Q:A->PySem.Shared->Prop}{E:PySem.Value->PySem.Shared->Prop}{s:PySem.Shared}(h:¬ c)(k:PySem.wpAny M a y Q E s):PySem.wpAny M a (if c then x else y) Q E s:=by
 rw[if_neg h];exact k
theorem cps{G:Prop}(h:∀P:Prop,(G->P)->P):G:=h G id
end
end Internal
section
open PySem PySem.W PyProof.Rows
open Internal
noncomputable abbrev row0:OpenRow:=PySem.Challenge.rw_sa0118_01.row
noncomputable def vw:Program:=view PySem.Challenge.pw_sa0118_01 [1,3,4,5,6,7,8,9,11,12,14,15,16,17,18,19,20,21,22,23,25,26,27,28,29,30,31,32,34,35,36,37,38,39,40,42,44,45,46,47,48,49,50,51,52,54,56,57,58,59,60,61,62,64,65,66,67,68,69]
def Ny(h:Heap):Option Frag:=oo (h.get? mainGlobals) fun a=>oo (h.get? 88) fun b=>oo (h.get? 89) fun c=>some [(mainGlobals,a),(88,b),(89,c)]
noncomputable def vInt(v:Value):Option Int:=match v with
 |.int i _=>some i
 |_=>none
noncomputable def vRef(v:Value):Option Addr:=match v with
 |.ref a=>some a
 |_=>none
noncomputable def lNil{A:Type}(l:List A):Bool:=match l with
 |[]=>true
 |_::_=>false
noncomputable def Ba{A:Type}(x:Option A):Bool:=match x with
 |none=>true
 |some _=>false
noncomputable def seq0(o:Obj):Option (List Value):=match o.data with
 |.seq a n=>match n with
  |0=>some a.toList
  |_+1=>none
 |_=>none
noncomputable def isTup(o:Obj):Bool:=match o.cls with
 |.type t=>t == "tuple"
 |_=>false
def plainT(o:Obj):Bool:=bB (isTup o) (bB (Ba o.dict) (lNil o.slots.toList))
def isI(v:Value)(i:Int):Bool:=oB (vInt v) fun p=>p == i
def twoL(l:List Value)(i j:Int):Bool:=match l with
 |[]=>false
 |x::l=>match l with
  |[]=>false
  |y::l=>bB (lNil l) (bB (isI x i) (isI y j))
def WO(K:Frag)(x:Str)(i j:Int):Bool:=oB (nsIn K mainGlobals x) fun r=>oB r fun v=>oB (vRef v) fun a=>oB (K.lookup a) fun o=>bB (plainT o) (oB (seq0 o) fun l=>twoL l i j)
def intAt(K:Frag)(x:Str)(i:Int):Bool:=oB (nsIn K mainGlobals x) fun r=>oB r fun v=>isI v i
def OJ(K:Frag)(x:Str):Bool:=oB (nsIn K mainGlobals x) Ba
noncomputable def wb:List Str:=["len","sum","max","min","abs","any","sorted","tuple","dict","int","enumerate","range","zip"]
noncomputable def xy:List (Str×Int):=[("MOST_BITS",200000),("MOST_FAR",20000),("MOST_WORK",3000000)]
noncomputable def B5:List (Str×Int×Int):=[("R0",0,1),("R1",1,1)]
def chkK(K:Frag):Bool:=wb.all (OJ K) && xy.all (fun e=>intAt K e.1 e.2) && B5.all (fun e=>WO K e.1 e.2.1 e.2.2)
def chkH(h:Heap):Bool:=oB (Ny h) chkK
def Says(h:Heap):Prop:=∃K,Frag.In K h/\chkK K=true
theorem Bu{h:Heap}{a:Addr}{o:Obj}{K:Frag}(e:h.get? a=some o)(i:Frag.In K h):Frag.In ((a,o)::K) h:=by
 intro x y m;simp only[List.lookup]at m;split at m
 ·rename_i r;cases m;rw[eq_of_beq r];exact e
 ·exact i x y m
theorem Mi{h:Heap}(e:chkH h=true):Says h:=by
 exists ae (jH e),K,q,e;exists ae (aQ q),a,h1,q;exists ae (aQ q),b,h2,q;exists ae (aQ q),c,h3,q;exact⟨K,Option.some.inj q▸Bu h1 (Bu h2 (Bu h3 fun _ _ m=>nomatch m)),e⟩
theorem LR{h h':Heap}(s:Says h)(k:∀b o,h.get? b=some o->h'.get? b=some o):Says h':=
 let ⟨K,i,c⟩:=s;⟨K,fun a o e=>k _ _ (i a o e),c⟩
def xtOk(s:Shared):Bool:=xlAt vw [] s && recOk (RowW.records row0.toRowW) s
theorem Ed:(defOf vw row0.name).isSome=true:=by kernel_rfl
def lawD:DefRec×List (Str×Expr):=(defOf vw row0.name).get Ed
theorem dl_eq:defOf vw row0.name=some (lawD.1,lawD.2):=(Option.some_get Ed).symm
theorem chk_q:(chkH ⟨#[],default⟩ ||true)=true:=by k_qdec
theorem Ob:LeftO PySem.Challenge.pw_sa0118_01 vw [] xtOk (fun s=>chkH s.heap) (fun _=>true) 3956:=fun w=>by
 unfold xtOk;rw[PySem.W.Fast.te4187177175401517315,PySem.W.Fast.te5923862056798008813,PySem.W.Fast.te14364793385576792824,PySem.W.Fast.te16695537632394750670];kernel_rfl
theorem hp0:row0.prog.theDef row0.name=some (lawD.1.params,lawD.1.body,lawD.1.scope):=by kernel_rfl
theorem hk0:kwWritten? lawD.1.params.kwonlyargs lawD.1.params.kw_defaults=some lawD.2:=by kernel_rfl
theorem TG:PySem.Challenge.rw_sa0118_01.wellSaid=true:=by
 rw[PySem.W.Fast.te9446332074065402090];kernel_rfl
set_option maxHeartbeats 8000000 in
theorem hd(hc:WalkO vw [] (XL vw []) (fun _ h=>Says h) row0.toRowW lawD.1 lawD.2 (fun f vs=>PySem.call f vs)):PySem.Challenge.rw_sa0118_01.Holds:=by
 w_on
 exists holds_law TG,aa7;refine holds_open (q:=vw) (loose:=[]) (Xt:=xtOk) (XP:=XL vw []) (Yf:=fun s=>chkH s.heap) (Ya:=fun _=>true) (YP:=fun _ h=>Says h) (N:=3956) Ob (fun _ _ e=>Mi e) (fun _ _ _ s k=>LR s k) (fun s e=>xl_of s (Bool.and_eq_true_iff.mp e).1) XL.keeps dl_eq hp0 hk0 (fun s e=>recFacts_of (Bool.and_eq_true_iff.mp e).2) (by rfl) (by first|assumption|decide +kernel) (by decide +kernel) ⟨rfl,rfl,rfl,rfl,rfl,by decide +kernel⟩ ?_ hc
 w_witness2
end
namespace Internal
open PySem renaming wpAny_bind->a9,wpAny_pure->aw,wpAny_mono->cu,wpAny_holding->dH,wpAny_standAt->g8
open Option renaming some.inj->aH,casesOn->aL
open Bool renaming casesOn->aB,eq_iff_iff->fT,eq_false_iff->gS,and_eq_true_iff->nh
open List renaming length_map->aJ,mem_cons->aI,map_cons->aO,casesOn->aM,mem_singleton->c7,replicate->cq,length_append->d8,mem_of_getElem?->eA,getElem?_eq_some_iff->fo,getElem?_map->dM,size_toArray->dY,nil_append->dp,mem_map->cG,nodup_cons->ee,map_map->d5,getD_eq_getElem?_getD->j7,length_cons->fV,append_nil->g4,range'->eE,forall_mem_cons->jj,map_append->gI,flatMap_cons->iT,append_assoc->jt,length_range'->k9,lookup_cons->lz,mem_append->l7,cons_ne_nil->wc
open Nat renaming le_of_ble_eq_true->bC,le_trans->br,casesAuxOn->bL,eq_of_beq_eq_true->cY,beq->aF,ble->b8,le_refl->cx,ble_eq_true_of_le->fj,le_of_succ_le->fh,beq_refl->eu,blt->c9,gcd->cc,ne_of_lt->eV,le_succ->eZ,zero_le->f6,succ.inj->gW,succ_ne_zero->kb,lt_irrefl->lg
open Int renaming casesOn->kE
section
open PySem
set_option genCtorIdx true in
set_option genInjectivity true in
inductive V where
 |none
 |bool (b:Bool)
 |int (i:Int)
 |str (s:List Nat)
 |tup (l:List V)
 |lst (l:List V)
 |dct (l:List (List Int×V))
 |ref (n:Nat)
 deriving Inhabited
inductive bq where
 |list (l:List V)
 |dict (l:List (List Int×V))
structure Ent where
 id:Nat
 lock:Bool
 obj:bq
structure Hp where
 nxt:Nat
 es:List Ent
noncomputable abbrev CF:=List V->Hp->Option (V×Hp)
set_option genCtorIdx true in
inductive BI where
 |len|sum|max2|maxl|min2|abs|any|sorted|tuple|dict|int
set_option genCtorIdx true in
inductive f7 where
 |append|extend|pop0|jV|dpop1|dpopN|reverse|sort
set_option genCtorIdx true in
inductive IK where
 |seq|enum|range1|range2|zip
inductive bF (F:Type) where
 |const (v:V)
 |var (i:Nat)
 |bin (op:Operator) (a b:bF F)
 |neg (a:bF F)
 |kY (a:bF F)
 |kS (l:List (bF F))
 |eU (l:List (bF F))
 |cmp (op:CmpOp) (a b:bF F)
 |ite (t a b:bF F)
 |call (g:F) (args:List (bF F))
 |bi (b:BI) (args:List (bF F))
 |cO (m:f7) (o:bF F) (args:List (bF F))
 |sub (a i:bF F)
 |slice (up:Bool) (a b:bF F)
 |rev (a:bF F)
 |tup (l:List (bF F))
 |list (l:List (bF F))
 |jM
 |nC (k v:bF F)
 |lcomp (clr:List Nat) (e:bF F) (gens:List (List Nat×Bool×IK×List (bF F)×List (bF F)))
 |dcomp (clr:List Nat) (k v:bF F) (gens:List (List Nat×Bool×IK×List (bF F)×List (bF F)))
noncomputable abbrev ME:=bF CF
noncomputable abbrev sr(F:Type):=List Nat×Bool×IK×List (bF F)×List (bF F)
noncomputable abbrev Gen:=sr CF
inductive og (F:Type) where
 |assign (i:Nat) (e:bF F)
 |unpack (is:List Nat) (e:bF F)
 |store (o i e:bF F)
 |aug (i:Nat) (op:Operator) (e:bF F)
 |expr (e:bF F)
 |if_ (t:bF F) (a b:List (og F))
 |while_ (t:bF F) (b:List (og F))
 |for_ (tg:List Nat) (many:Bool) (ik:IK) (es:List (bF F)) (b:List (og F))
 |ret (e:bF F)
 |cont
 |stuck
noncomputable abbrev MS:=og CF
inductive Fl where
 |next|cont|ret (v:V)
noncomputable abbrev ai:=List (Option V)
noncomputable def ieq:Int->Int->Bool
 |.ofNat a,.ofNat b=>aF a b
 |.negSucc a,.negSucc b=>aF a b
 |_,_=>false
noncomputable def ilt:Int->Int->Bool
 |.ofNat a,.ofNat b=>c9 a b
 |.negSucc a,.negSucc b=>c9 b a
 |.negSucc _,.ofNat _=>true
 |.ofNat _,.negSucc _=>false
noncomputable def band:Bool->Bool->Bool
 |true,b=>b
 |false,_=>false
noncomputable def guard'{B:Type}(b:Bool)(x:Option B):Option B:=match b with
 |true=>x
 |false=>none
noncomputable def lenOk{A:Type}(l:List A):Bool:=b8 l.length 1000000
noncomputable def look:List Ent->Nat->Option Ent
 |[],_=>none
 |e::r,n=>match aF e.id n with
  |true=>some e
  |false=>look r n
noncomputable def put:List Ent->Nat->Bool->bq->List Ent
 |[],_,_,_=>[]
 |e::r,n,lk,o=>match aF e.id n with
  |true=>⟨n,lk,o⟩::r
  |false=>e::put r n lk o
noncomputable def newObj(H:Hp)(o:bq):V×Hp:=(.ref H.nxt,⟨H.nxt.succ,⟨H.nxt,false,o⟩::H.es⟩)
noncomputable def keyOf:List V->Option (List Int)
 |[]=>some []
 |.int i::r=>match keyOf r with
  |some k=>some (i::k)
  |none=>none
 |_::_=>none
noncomputable def ofKey(k:List Int):V:=.tup (k.map .int)
noncomputable def keq:List Int->List Int->Bool
 |[],[]=>true
 |a::r,b::s=>match ieq a b with
  |true=>keq r s
  |false=>false
 |_,_=>false
noncomputable def dget:List (List Int×V)->List Int->Option V
 |[],_=>none
 |e::r,k=>match keq e.1 k with
  |true=>some e.2
  |false=>dget r k
noncomputable def dset:List (List Int×V)->List Int->V->List (List Int×V)
 |[],k,v=>[(k,v)]
 |e::r,k,v=>match keq e.1 k with
  |true=>(e.1,v)::r
  |false=>e::dset r k v
noncomputable def ddel:List (List Int×V)->List Int->List (List Int×V)
 |[],_=>[]
 |e::r,k=>match keq e.1 k with
  |true=>r
  |false=>e::ddel r k
def kg:V->Option (List Int)
 |.tup k=>keyOf k
 |_=>none
def listView(H:Hp):V->Option (List V)
 |.lst l=>some l
 |.ref n=>match look H.es n with
  |some e=>match e.obj with
   |.list l=>some l
   |.dict _=>none
  |none=>none
 |_=>none
def dictView(H:Hp):V->Option (List (List Int×V))
 |.dct l=>some l
 |.ref n=>match look H.es n with
  |some e=>match e.obj with
   |.dict l=>some l
   |.list _=>none
  |none=>none
 |_=>none
def seqView(H:Hp):V->Option (List V)
 |.tup l=>some l
 |v=>listView H v
def Cw(H:Hp)(v:V):Option (List V):=match seqView H v with
 |some l=>some l
 |none=>match dictView H v with
  |some l=>some (l.map fun e=>ofKey e.1)
  |none=>none
noncomputable def beq':Bool->Bool->Bool
 |true,b=>b
 |false,b=>!b
noncomputable def rE:List Nat->List Nat->Bool
 |[]=>fun l=>match l with
  |[]=>true
  |_::_=>false
 |a::r=>fun l=>match l with
  |[]=>false
  |b::s=>match aF a b with
   |true=>rE r s
   |false=>false
noncomputable def codesOk:List Nat->Bool
 |[]=>true
 |a::r=>match c9 a 1114112 with
  |true=>codesOk r
  |false=>false
noncomputable def resL(f:V->Option V):List V->Option (List V)
 |[]=>some []
 |a::r=>match f a with
  |some b=>match resL f r with
   |some s=>some (b::s)
   |none=>none
  |none=>none
noncomputable def mkT(x:Option (List V)):Option V:=match x with
 |some l=>some (.tup l)
 |none=>none
noncomputable def mkL(x:Option (List V)):Option V:=match x with
 |some l=>some (.lst l)
 |none=>none
def resR(f:V->Option V)(x:Option Ent):Option V:=match x with
 |some e=>match e.obj with
  |.list l=>mkL (resL f l)
  |.dict _=>none
 |none=>none
noncomputable def res(H:Hp):Nat->V->Option V
 |0=>fun _=>none
 |n+1=>fun v=>match v with
  |.none=>some .none
  |.bool b=>some (.bool b)
  |.int i=>some (.int i)
  |.str l=>guard' (codesOk l) (some (.str l))
  |.tup l=>mkT (resL (res H n) l)
  |.lst l=>mkL (resL (res H n) l)
  |.dct _=>none
  |.ref k=>resR (res H n) (look H.es k)
noncomputable def gv(f:V->V->Bool):List V->List V->Bool
 |[]=>fun l=>match l with
  |[]=>true
  |_::_=>false
 |a::r=>fun l=>match l with
  |[]=>false
  |b::s=>match f a b with
   |true=>gv f r s
   |false=>false
noncomputable def b2i(b:Bool):Int:=match b with
 |true=>1
 |false=>0
noncomputable def teq:Nat->V->V->Bool
 |0=>fun _ _=>false
 |n+1=>fun a b=>match a with
  |.none=>match b with
   |.none=>true
   |_=>false
  |.bool x=>match b with
   |.bool y=>beq' x y
   |.int j=>ieq (b2i x) j
   |_=>false
  |.int x=>match b with
   |.int y=>ieq x y
   |.bool y=>ieq x (b2i y)
   |_=>false
  |.str x=>match b with
   |.str y=>rE x y
   |_=>false
  |.tup x=>match b with
   |.tup y=>gv (teq n) x y
   |_=>false
  |.lst x=>match b with
   |.lst y=>gv (teq n) x y
   |_=>false
  |_=>false
noncomputable def deepN:Nat:=8
noncomputable def cJ:Nat:=7
def ny(H:Hp)(a b:V):Option Bool:=match res H cJ a with
 |some a=>match res H cJ b with
  |some b=>some (teq deepN a b)
  |none=>none
 |none=>none
noncomputable def fE(g:Bool)(f:V->V->Option Bool):List V->List V->Option Bool
 |[]=>fun l=>match l with
  |[]=>some false
  |_::_=>some (!g)
 |a::r=>fun l=>match l with
  |[]=>some g
  |b::s=>match teq deepN a b with
   |true=>fE g f r s
   |false=>f a b
def FD(g:Bool)(x y:Int):Bool:=match g with
 |true=>ilt y x
 |false=>ilt x y
noncomputable def tcmp(g:Bool):Nat->V->V->Option Bool
 |0=>fun _ _=>none
 |n+1=>fun a b=>match a with
  |.int x=>match b with
   |.int y=>some (FD g x y)
   |_=>none
  |.tup x=>match b with
   |.tup y=>fE g (tcmp g n) x y
   |_=>none
  |_=>none
def jk(g:Bool)(H:Hp)(a b:V):Option Bool:=match res H cJ a with
 |some a=>match res H cJ b with
  |some b=>tcmp g deepN a b
  |none=>none
 |none=>none
noncomputable def e0:Hp:=⟨0,[]⟩
noncomputable def treeRun{α:Type}(f:Nat->Nat->Option Bool)(t:PySem.W.KasT α):Option α:=t.rec some fun i j _ ih=>match f i j with
 |some c=>ih c
 |none=>none
noncomputable def headKind:V->Nat
 |.tup l=>match l with
  |[]=>0
  |x::_=>match x with
   |.int _=>1
   |.tup _=>2
   |_=>0
 |_=>0
noncomputable def allKind(k:Nat):List V->Bool
 |[]=>true
 |x::r=>match aF (headKind x) k with
  |true=>allKind k r
  |false=>false
noncomputable def cQ(l:List V)(i:Nat):V:=l.getD i .none
def iH(l:List V)(i j:Nat):Option Bool:=jk false e0 (cQ l i) (cQ l j)
def xA(l:List V)(r:Option (Array Nat)):Option (List V):=match r with
 |some p=>some (p.toList.map (cQ l))
 |none=>none
def sortGo(l:List V)(k:Nat):Option (List V):=match k with
 |0=>none
 |k+1=>guard' (allKind k.succ l) (xA l (treeRun (iH l) (PySem.W.kas_sort l.length)))
def vsort(l:List V):Option (List V):=match l with
 |[]=>some l
 |x::r=>match r with
  |[]=>some l
  |_::_=>guard' (b8 l.length 60) (sortGo l (headKind x))
noncomputable def tmem(x:V):List V->Bool
 |[]=>false
 |y::r=>match teq deepN y x with
  |true=>true
  |false=>tmem x r
def sR(H:Hp)(x:V)(l:List V):Option Bool:=match res H cJ x with
 |some x=>match resL (res H cJ) l with
  |some l=>some (tmem x l)
  |none=>none
 |none=>none
def inB(lo hi x:Int):Bool:=match ilt x lo with
 |true=>false
 |false=>match ilt hi x with
  |true=>false
  |false=>true
noncomputable def fits(x:Int):Bool:=match b8 x.natAbs 18446744073709551616 with
 |true=>true
 |false=>false
noncomputable def QT(x y:Int)(H:Hp):Option (V×Hp):=some (.int (x+y),H)
noncomputable def Mx(x y:Int)(H:Hp):Option (V×Hp):=some (.int (x - y),H)
def aax(x y:Int)(H:Hp):Option (V×Hp):=guard' (band (fits x) (fits y)) (some (.int (x * y),H))
def aaW(x y:Int)(H:Hp):Option (V×Hp):=guard' (band (!ieq y 0) (band (fits x) (fits y))) (some (.int (x.fdiv y),H))
def Wt(x y:Int)(H:Hp):Option (V×Hp):=guard' (!ieq y 0) (some (.int (x.fmod y),H))
def W3(x y:Int)(H:Hp):Option (V×Hp):=guard' (band (ieq x 2) (ieq y 64)) (some (.int 18446744073709551616,H))
def binI(op:Operator):Int->Int->Hp->Option (V×Hp):=match op with
 |.Add=>QT
 |.Sub=>Mx
 |.Mult=>aax
 |.FloorDiv=>aaW
 |.Mod=>Wt
 |.Pow=>W3
 |_=>fun _ _ _=>none
noncomputable def isAdd:Operator->Bool
 |.Add=>true
 |_=>false
noncomputable def isMul:Operator->Bool
 |.Mult=>true
 |_=>false
def qT(a b:V)(H:Hp):Option (V×Hp):=match listView H a with
 |some x=>match listView H b with
  |some y=>guard' (band (lenOk x) (lenOk y)) (some (newObj H (.list (x++y))))
  |none=>none
 |none=>none
def rep2(n:Int)(v:V)(H:Hp):Option (V×Hp):=guard' (ieq n 2) (some (.tup [v,v],H))
def D5(x:List V)(n:Int)(H:Hp):Option (V×Hp):=match x with
 |[]=>none
 |v::r=>match r with
  |[]=>rep2 n v H
  |_::_=>none
def xf(op:Operator)(x:List V)(b:V)(H:Hp):Option (V×Hp):=match b with
 |.tup y=>guard' (band (isAdd op) (band (lenOk x) (lenOk y))) (some (.tup (x++y),H))
 |.int n=>guard' (isMul op) (D5 x n H)
 |_=>none
def binOp(op:Operator)(a b:V)(H:Hp):Option (V×Hp):=match a with
 |.int x=>match b with
  |.int y=>binI op x y H
  |_=>none
 |.tup x=>xf op x b H
 |a=>guard' (isAdd op) (qT a b H)
noncomputable def jG(r:Option Bool):Option Bool:=match r with
 |some r=>some (!r)
 |none=>none
def inD(l:List (List Int×V))(a:V):Option Bool:=match kg a with
 |some k=>some (dget l k).isSome
 |none=>none
def inS(H:Hp)(a b:V):Option Bool:=match seqView H b with
 |some l=>guard' (lenOk l) (sR H a l)
 |none=>none
def Bk(H:Hp)(a b:V):Option Bool:=match dictView H b with
  |some l=>inD l a
  |none=>inS H a b
noncomputable def isNone:V->Bool
 |.none=>true
 |_=>false
def LG(a b:V)(H:Hp):Option Bool:=ny H a b
def DM(a b:V)(H:Hp):Option Bool:=jG (ny H a b)
def Vd(a b:V)(H:Hp):Option Bool:=jk false H a b
def OD(a b:V)(H:Hp):Option Bool:=jk true H a b
def oP(a b:V):Option Bool:=match a with
 |.int x=>match b with
  |.int y=>some (!ilt y x)
  |_=>none
 |_=>none
def MY(a b:V)(_:Hp):Option Bool:=oP a b
def Xh(a b:V)(_:Hp):Option Bool:=oP b a
def Vf(a b:V)(_:Hp):Option Bool:=guard' (isNone b) (some (isNone a))
def WC(a b:V)(_:Hp):Option Bool:=guard' (isNone b) (some (!isNone a))
def Nz(a b:V)(H:Hp):Option Bool:=Bk H a b
def Sh(a b:V)(H:Hp):Option Bool:=jG (inS H a b)
def bu(op:CmpOp):V->V->Hp->Option Bool:=match op with
 |.Eq=>LG
 |.NotEq=>DM
 |.Lt=>Vd
 |.Gt=>OD
 |.GtE=>Xh
 |.LtE=>MY
 |.Is=>Vf
 |.IsNot=>WC
 |.In=>Nz
 |.NotIn=>Sh
def subD(l:List (List Int×V))(i:V):Option V:=match kg i with
 |some k=>dget l k
 |none=>none
def subL(l:List V)(i:V):Option V:=match i with
 |.int j=>match j with
  |.ofNat n=>guard' (lenOk l) l[n]?
  |.negSucc _=>none
 |_=>none
def subs(H:Hp)(a i:V):Option V:=match dictView H a with
 |some l=>subD l i
 |none=>match seqView H a with
  |some l=>subL l i
  |none=>none
noncomputable def nat?:V->Option Nat
 |.int (.ofNat n)=>match b8 n 100000 with
  |true=>some n
  |false=>none
 |_=>none
def upT(l:List V)(h:Nat)(H:Hp):Option (V×Hp):=guard' (band (lenOk l) (b8 h l.length)) (some (.tup (l.take h),H))
def fromT(l:List V)(b:Nat)(H:Hp):Option (V×Hp):=guard' (band (lenOk l) (band (b8 b l.length) (b8 1 b))) (some (.tup (l.drop b),H))
def upL(l:List V)(h:Nat)(H:Hp):Option (V×Hp):=guard' (lenOk l) (some (newObj H (.list (l.take h))))
def fromL(l:List V)(b:Nat)(H:Hp):Option (V×Hp):=guard' (band (lenOk l) (b8 b l.length)) (some (newObj H (.list (l.drop b))))
def gU(up:Bool)(a:V)(n:Nat)(H:Hp):Option (V×Hp):=match a with
 |.tup l=>match up with
  |true=>upT l n H
  |false=>fromT l n H
 |a=>match listView H a with
  |some l=>match up with
   |true=>upL l n H
   |false=>fromL l n H
  |none=>none
noncomputable def sumI:List V->Option Int
 |[]=>some 0
 |.int i::r=>match inB (-1000000000) 1000000000 i with
  |true=>match sumI r with
   |some s=>some (i+s)
   |none=>none
  |false=>none
 |_::_=>none
noncomputable def maxI:Int->List V->Option Int
 |m,[]=>some m
 |m,.int i::r=>match ilt m i with
  |true=>maxI i r
  |false=>maxI m r
 |_,_::_=>none
noncomputable def anyB:List V->Option Bool
 |[]=>some false
 |.bool b::r=>match anyB r with
  |some c=>match b with
   |true=>some true
   |false=>some c
  |none=>none
 |_::_=>none
noncomputable def yf(v:V):Option (List V):=match v with
 |.tup l=>some l
 |_=>none
noncomputable def IG(l:List V):Option (V×V):=match l with
 |[]=>none
 |a::r=>match r with
  |[]=>none
  |b::r=>match r with
   |[]=>some (a,b)
   |_::_=>none
noncomputable def pairsOf:List V->List (List Int×V)->Option (List (List Int×V))
 |[],acc=>some acc
 |p::r,acc=>oo (yf p) fun l=>oo (IG l) fun q=>oo (yf q.1) fun a=>oo (keyOf a) fun k=>pairsOf r (dset acc k q.2)
noncomputable def one(f:V->Hp->Option (V×Hp))(vs:List V)(H:Hp):Option (V×Hp):=match vs with
 |[]=>none
 |v::r=>match r with
  |[]=>f v H
  |_::_=>none
def two(f:V->V->Hp->Option (V×Hp))(vs:List V)(H:Hp):Option (V×Hp):=match vs with
 |[]=>none
 |v::r=>one (f v) r H
noncomputable def nN(f:Int->Int->Int)(a b:V)(H:Hp):Option (V×Hp):=match a with
 |.int x=>match b with
  |.int y=>some (.int (f x y),H)
  |_=>none
 |_=>none
def yq(v:V)(H:Hp):Option (V×Hp):=match seqView H v with
  |some l=>guard' (lenOk l) (some (.int (.ofNat l.length),H))
  |none=>match dictView H v with
   |some l=>guard' (lenOk l) (some (.int (.ofNat l.length),H))
   |none=>none
noncomputable def retI(r:Option Int)(H:Hp):Option (V×Hp):=match r with
 |some s=>some (.int s,H)
 |none=>none
noncomputable def retB(r:Option Bool)(H:Hp):Option (V×Hp):=match r with
 |some s=>some (.bool s,H)
 |none=>none
def xu(v:V)(H:Hp):Option (V×Hp):=match seqView H v with
  |some l=>guard' (b8 l.length 1000) (retI (sumI l) H)
  |none=>none
def imax(x y:Int):Int:=match ilt x y with
 |true=>y
 |false=>x
def mP(x y:Int):Int:=match ilt y x with
 |true=>y
 |false=>x
def maxL(l:List V):Option Int:=match l with
 |[]=>none
 |v::r=>match v with
  |.int x=>maxI x r
  |_=>none
def zR(v:V)(H:Hp):Option (V×Hp):=match listView H v with
  |some l=>retI (maxL l) H
  |none=>none
def BL(v:V)(H:Hp):Option (V×Hp):=match v with
 |.int x=>some (.int (match ilt x 0 with|true=>-x|false=>x),H)
 |_=>none
def xX(v:V)(H:Hp):Option (V×Hp):=match listView H v with
  |some l=>retB (anyB l) H
  |none=>none
def retL(r:Option (List V))(H:Hp):Option (V×Hp):=match r with
 |some s=>some (newObj H (.list s))
 |none=>none
def vp(r:Option (List (List Int×V)))(H:Hp):Option (V×Hp):=match r with
 |some s=>some (newObj H (.dict s))
 |none=>none
def xE(v:V)(H:Hp):Option (V×Hp):=match listView H v with
  |some l=>retL (vsort l) H
  |none=>none
def GS(v:V)(H:Hp):Option (V×Hp):=match listView H v with
  |some l=>guard' (lenOk l) (some (.tup l,H))
  |none=>none
noncomputable def qY:Int->Bool
 |.ofNat n=>b8 n 8
 |.negSucc _=>false
def smallKey:List Int->Bool
 |[]=>false
 |a::r=>match r with
  |[]=>false
  |b::t=>match t with
   |[]=>band (qY a) (qY b)
   |_::_=>false
noncomputable def smallKeys:List (List Int×V)->Bool
 |[]=>true
 |e::r=>match smallKey e.1 with
  |true=>smallKeys r
  |false=>false
def Cn(v:V)(H:Hp):Option (V×Hp):=match dictView H v with
  |some l=>guard' (band (lenOk l) (smallKeys l)) (some (newObj H (.dict l)))
  |none=>match listView H v with
   |some l=>guard' (lenOk l) (vp (pairsOf l []) H)
   |none=>none
noncomputable def xc(v:V)(H:Hp):Option (V×Hp):=match v with
 |.int x=>some (.int x,H)
 |_=>none
def cw(b:BI):List V->Hp->Option (V×Hp):=match b with
 |.len=>one yq
 |.sum=>one xu
 |.max2=>two (nN imax)
 |.maxl=>one zR
 |.min2=>two (nN mP)
 |.abs=>one BL
 |.any=>one xX
 |.sorted=>one xE
 |.tuple=>one GS
 |.dict=>one Cn
 |.int=>one xc
def setObj(H:Hp)(n:Nat)(o:bq):Hp:=⟨H.nxt,put H.es n false o⟩
def own(H:Hp):V->Option (Nat×bq)
 |.ref n=>match look H.es n with
  |some e=>match e.lock with
   |true=>none
   |false=>some (n,e.obj)
  |none=>none
 |_=>none
noncomputable def qe(f:Nat->List V->Hp->Option (V×Hp))(n:Nat)(ob:bq)(vs:List V)(H:Hp):Option (V×Hp):=match vs with
 |[]=>match ob with
  |.list l=>f n l H
  |.dict _=>none
 |_::_=>none
def sq(f:Nat->List V->V->Hp->Option (V×Hp))(n:Nat)(ob:bq)(vs:List V)(H:Hp):Option (V×Hp):=match ob with
 |.list l=>one (f n l) vs H
 |.dict _=>none
def yA(n:Nat)(l:List V)(x:V)(H:Hp):Option (V×Hp):=guard' (lenOk l) (some (.none,setObj H n (.list (l++[x]))))
noncomputable def notRef(n:Nat):V->Bool
 |.ref k=>!aF k n
 |_=>true
def Ha(n:Nat)(l:List V)(v:V)(H:Hp):Option (V×Hp):=match listView H v with
 |some x=>guard' (band (notRef n v) (band (lenOk l) (lenOk x))) (some (.none,setObj H n (.list (l++x))))
 |none=>none
def Y1:V->Bool
 |.int i=>ieq i 0
 |_=>false
def CM(n:Nat)(l:List V)(i:V)(H:Hp):Option (V×Hp):=match l with
 |[]=>none
 |x::r=>guard' (band (Y1 i) (lenOk r)) (some (x,setObj H n (.list r)))
def GL(n:Nat)(l:List V)(H:Hp):Option (V×Hp):=match l.getLast? with
 |some x=>guard' (lenOk l) (some (x,setObj H n (.list l.dropLast)))
 |none=>none
def Kg(n:Nat)(l:List V)(H:Hp):Option (V×Hp):=guard' (lenOk l) (some (.none,setObj H n (.list l.reverse)))
def GN(n:Nat)(l:List V)(H:Hp):Option (V×Hp):=match vsort l with
 |some s=>some (.none,setObj H n (.list s))
 |none=>none
def yI(d:Option V)(n:Nat)(l:List (List Int×V))(k:List Int)(H:Hp)(r:Option V):Option (V×Hp):=match r with
 |some v=>some (v,setObj H n (.dict (ddel l k)))
 |none=>match d with
  |some d=>some (d,H)
  |none=>none
def oN(d:Option V)(n:Nat)(l:List (List Int×V))(k:V)(H:Hp):Option (V×Hp):=match kg k with
 |some k=>guard' (lenOk l) (yI d n l k H (dget l k))
 |none=>none
def wC(n:Nat)(ob:bq)(vs:List V)(H:Hp):Option (V×Hp):=match ob with
 |.dict l=>one (oN none n l) vs H
 |.list _=>none
def Ab(n:Nat)(ob:bq)(vs:List V)(H:Hp):Option (V×Hp):=match ob with
 |.dict l=>two (fun k d=>oN (some d) n l k) vs H
 |.list _=>none
def Hq(m:f7):Nat->bq->List V->Hp->Option (V×Hp):=match m with
 |.append=>sq yA
 |.extend=>sq Ha
 |.pop0=>sq CM
 |.jV=>qe GL
 |.reverse=>qe Kg
 |.sort=>qe GN
 |.dpop1=>wC
 |.dpopN=>Ab
def eC(m:f7)(o:V)(vs:List V)(H:Hp):Option (V×Hp):=match own H o with
 |none=>none
 |some (n,ob)=>Hq m n ob vs H
def vg(n:Nat)(l:List V)(i v:V)(H:Hp):Option Hp:=match i with
 |.int j=>match j with
  |.ofNat k=>guard' (band (c9 k l.length) (lenOk l)) (some (setObj H n (.list (l.set k v))))
  |.negSucc _=>none
 |_=>none
def FO(n:Nat)(l:List (List Int×V))(i v:V)(H:Hp):Option Hp:=match kg i with
 |some k=>guard' (lenOk l) (some (setObj H n (.dict (dset l k v))))
 |none=>none
def storeO(n:Nat)(ob:bq)(i v:V)(H:Hp):Option Hp:=match ob with
 |.list l=>vg n l i v H
 |.dict l=>FO n l i v H
def jb(H:Hp)(o i v:V):Option Hp:=match own H o with
 |none=>none
 |some p=>match p with
  |(n,ob)=>storeO n ob i v H
noncomputable def cI:ai->Nat->Option V
 |[],_=>none
 |x::_,0=>x
 |_::r,n+1=>cI r n
noncomputable def slotS:ai->Nat->Option V->ai
 |[],_,_=>[]
 |_::r,0,v=>v::r
 |x::r,n+1,v=>x::slotS r n v
noncomputable def slotC:ai->List Nat->ai
 |ρ,[]=>ρ
 |ρ,i::is=>slotC (slotS ρ i none) is
noncomputable def bindTs:ai->List Nat->List V->Option ai
 |ρ,[],[]=>some ρ
 |ρ,i::is,v::vs=>bindTs (slotS ρ i (some v)) is vs
 |_,_,_=>none
def eB(ρ:ai)(tg:List Nat)(many:Bool)(v:V):Option ai:=match many with
 |false=>bindTs ρ tg [v]
 |true=>match v with
  |.tup l=>bindTs ρ tg l
  |_=>none
noncomputable def rangeL(a:Int):Nat->List V
 |0=>[]
 |n+1=>.int a::rangeL (a+1) n
noncomputable def enumL:Int->List V->List V
 |_,[]=>[]
 |i,x::r=>.tup [.int i,x]::enumL (i+1) r
noncomputable def zipL:List V->List V->List V
 |x::r,y::s=>.tup [x,y]::zipL r s
 |_,_=>[]
def iterOf(H:Hp)(ik:IK)(vs:List V):Option (List V):=match ik,vs with
 |.seq,[v]=>Cw H v
 |.enum,[v]=>match seqView H v with
  |some l=>some (enumL 0 l)
  |none=>none
 |.range1,[.int b]=>match inB (-100000) 100000 b with
  |true=>some (rangeL 0 b.toNat)
  |false=>none
 |.range2,[.int a,.int b]=>match inB (-100000) 100000 a with
  |true=>match inB (-100000) 100000 b with
   |true=>some (rangeL a (b - a).toNat)
   |false=>none
  |false=>none
 |.zip,[a,b]=>match listView H a,listView H b with
  |some x,some y=>some (zipL x y)
  |_,_=>none
 |_,_=>none
def cN(es:List Ent)(v:V):List Ent:=match v with
 |.ref n=>match look es n with
  |some e=>put es n true e.obj
  |none=>es
 |_=>es
noncomputable def mG:List Ent->List V->List Ent
 |es,[]=>es
 |es,v::r=>mG (cN es v) r
def vI(es:List Ent)(n:Nat)(x y:Option Ent):List Ent:=match x with
 |none=>es
 |some e=>match y with
  |none=>es
  |some f=>put es n e.lock f.obj
def gT(dU es:List Ent)(v:V):List Ent:=match v with
 |.ref n=>vI es n (look dU n) (look es n)
 |_=>es
noncomputable def eD(dU:List Ent):List Ent->List V->List Ent
 |es,[]=>es
 |es,v::r=>eD dU (gT dU es v) r
section
variable (dn:ME->ai->Hp->Option (V×Hp))
noncomputable def ob{A B:Type}(x:Option (A×Hp))(f:A->Hp->Option B):Option B:=match x with
 |some p=>match p with
  |(a,H)=>f a H
 |none=>none
noncomputable def denL(ρ:ai):List ME->Hp->Option (List V×Hp)
 |[]=>fun H=>some ([],H)
 |e::r=>fun H=>ob (dn e ρ H) fun v H=>ob (denL ρ r H) fun vs H=>some (v::vs,H)
def cL{B:Type}(x:Option (V×Hp))(f:Bool->Hp->Option B):Option B:=ob x fun v H=>match v with
 |.bool b=>f b H
 |_=>none
noncomputable def j9(ρ:ai):List ME->Hp->Option (V×Hp)
 |[]=>fun _=>none
 |e::r=>fun H=>cL (dn e ρ H) fun b H=>match r with
   |[]=>some (.bool b,H)
   |_::_=>match b with
    |true=>j9 ρ r H
    |false=>some (.bool false,H)
noncomputable def iQ(ρ:ai):List ME->Hp->Option (V×Hp)
 |[]=>fun _=>none
 |e::r=>fun H=>cL (dn e ρ H) fun b H=>match r with
   |[]=>some (.bool b,H)
   |_::_=>match b with
    |false=>iQ ρ r H
    |true=>some (.bool true,H)
noncomputable def denIfs(ρ:ai):List ME->Hp->Option (Bool×Hp)
 |[]=>fun H=>some (true,H)
 |e::r=>fun H=>cL (dn e ρ H) fun b H=>match b with
  |true=>denIfs ρ r H
  |false=>some (false,H)
noncomputable def forItems(f:V->Hp->Option Hp):List V->Hp->Option Hp
 |[]=>fun H=>some H
 |v::r=>fun H=>match f v H with
  |some H=>forItems f r H
  |none=>none
noncomputable def rF(go:Hp->Option Hp)(b:Bool)(H:Hp):Option Hp:=match b with
 |true=>go H
 |false=>some H
def turn(tg:List Nat)(many:Bool)(ifs:List ME)(go:ai->Hp->Option Hp)(ρ:ai)(v:V)(H:Hp):Option Hp:=
 match eB ρ tg many v with
 |some ρ=>ob (denIfs dn ρ ifs H) (rF (go ρ))
 |none=>none
def lockH(H:Hp)(vs:List V):Hp:=⟨H.nxt,mG H.es vs⟩
def unlH(es:List Ent)(vs:List V)(r:Option Hp):Option Hp:=match r with
 |some H=>some ⟨H.nxt,eD es H.es vs⟩
 |none=>none
noncomputable def runGens(emit:ai->Hp->Option Hp):List Gen->ai->Hp->Option Hp
 |[]=>emit
 |(tg,many,ik,es,ifs)::gs=>fun ρ H=>ob (denL dn ρ es H) fun vs H=>match iterOf H ik vs with
   |some items=>unlH H.es vs (forItems (turn dn tg many ifs (runGens emit gs) ρ) items (lockH H vs))
   |none=>none
end
noncomputable abbrev DN:=ME->ai->Hp->Option (V×Hp)
noncomputable def aa5(v:V)(_:DN)(_:ai)(H:Hp):Option (V×Hp):=some (v,H)
def XN(i:Nat)(_:DN)(ρ:ai)(H:Hp):Option (V×Hp):=match cI ρ i with
 |some v=>some (v,H)
 |none=>none
def SM(op:Operator)(a b:ME)(dn:DN)(ρ:ai)(H:Hp):Option (V×Hp):=
 ob (dn a ρ H) fun x H=>ob (dn b ρ H) fun y H=>binOp op x y H
noncomputable def vf(v:V)(H:Hp):Option (V×Hp):=match v with
 |.int i=>some (.int (-i),H)
 |_=>none
def QM(a:ME)(dn:DN)(ρ:ai)(H:Hp):Option (V×Hp):=ob (dn a ρ H) vf
noncomputable def pz(v:V)(H:Hp):Option (V×Hp):=match v with
 |.bool b=>some (.bool (!b),H)
 |_=>none
def SO(a:ME)(dn:DN)(ρ:ai)(H:Hp):Option (V×Hp):=ob (dn a ρ H) pz
def PG(l:List ME)(dn:DN)(ρ:ai)(H:Hp):Option (V×Hp):=j9 dn ρ l H
def Yd(l:List ME)(dn:DN)(ρ:ai)(H:Hp):Option (V×Hp):=iQ dn ρ l H
def Xq(op:CmpOp)(a b:ME)(dn:DN)(ρ:ai)(H:Hp):Option (V×Hp):=
 ob (dn a ρ H) fun x H=>ob (dn b ρ H) fun y H=>retB (bu op x y H) H
def V6(t a b:ME)(dn:DN)(ρ:ai)(H:Hp):Option (V×Hp):=ob (dn t ρ H) fun v H=>match v with
 |.bool c=>match c with
  |true=>dn a ρ H
  |false=>dn b ρ H
 |_=>none
def Lc(g:CF)(args:List ME)(dn:DN)(ρ:ai)(H:Hp):Option (V×Hp):=ob (denL dn ρ args H) g
def OA(b:BI)(args:List ME)(dn:DN)(ρ:ai)(H:Hp):Option (V×Hp):=ob (denL dn ρ args H) (cw b)
noncomputable def Hr:f7->Bool
 |.dpop1=>false
 |.dpopN=>false
 |_=>true
def fR(m:f7)(x:Option (Nat×bq)):Bool:=match x with
 |some p=>match p with
  |(_,o)=>match o with
   |.list _=>Hr m
   |.dict _=>!Hr m
 |none=>false
def LH(m:f7)(o:ME)(args:List ME)(dn:DN)(ρ:ai)(H:Hp):Option (V×Hp):=
 ob (dn o ρ H) fun ov H=>guard' (fR m (own H ov)) (ob (denL dn ρ args H) fun vs H=>eC m ov vs H)
noncomputable def qI(r:Option V)(H:Hp):Option (V×Hp):=match r with
 |some s=>some (s,H)
 |none=>none
def Zp(a i:ME)(dn:DN)(ρ:ai)(H:Hp):Option (V×Hp):=
 ob (dn a ρ H) fun x H=>ob (dn i ρ H) fun y H=>qI (subs H x y) H
def ja(up:Bool)(a:V)(n:Option Nat)(H:Hp):Option (V×Hp):=match n with
 |some n=>gU up a n H
 |none=>none
def Yv(up:Bool)(a b:ME)(dn:DN)(ρ:ai)(H:Hp):Option (V×Hp):=
 ob (dn a ρ H) fun x H=>ob (dn b ρ H) fun y H=>ja up x (nat? y) H
def qy(v:V)(H:Hp):Option (V×Hp):=match v with
 |.tup l=>guard' (lenOk l) (some (.tup l.reverse,H))
 |_=>none
def Y6(a:ME)(dn:DN)(ρ:ai)(H:Hp):Option (V×Hp):=ob (dn a ρ H) qy
def aai(l:List ME)(dn:DN)(ρ:ai)(H:Hp):Option (V×Hp):=ob (denL dn ρ l H) fun vs H=>some (.tup vs,H)
def dList(l:List ME)(dn:DN)(ρ:ai)(H:Hp):Option (V×Hp):=ob (denL dn ρ l H) fun vs H=>some (newObj H (.list vs))
def Ni(_:DN)(_:ai)(H:Hp):Option (V×Hp):=some (newObj H (.dict []))
def ck(n:Nat)(e:ME)(dn:DN)(ρ:ai)(H:Hp):Option Hp:=ob (dn e ρ H) fun v H=>match own H (.ref n)with
 |some p=>match p with
  |(_,o)=>match o with
   |.list l=>guard' (lenOk l) (some (setObj H n (.list (l++[v]))))
   |.dict _=>none
 |none=>none
def iX(n:Nat)(k v:ME)(dn:DN)(ρ:ai)(H:Hp):Option Hp:=ob (dn k ρ H) fun kv H=>ob (dn v ρ H) fun v H=>match kg kv with
 |some k=>match own H (.ref n)with
  |some p=>match p with
   |(_,o)=>match o with
    |.dict l=>guard' (lenOk l) (some (setObj H n (.dict (dset l k v))))
    |.list _=>none
  |none=>none
 |none=>none
noncomputable def dC(n:Nat)(r:Option Hp):Option (V×Hp):=match r with
 |some H=>some (.ref n,H)
 |none=>none
def Xc(k v:ME)(dn:DN)(ρ:ai)(H:Hp):Option (V×Hp):=dC H.nxt (iX H.nxt k v dn ρ (newObj H (.dict [])).2)
def compGo(n:Nat)(f:V->Hp->Option Hp)(items vs:List V)(H:Hp):Option (V×Hp):=dC n (unlH H.es vs (forItems f items (lockH H vs)))
def qm(emit:Nat->ai->Hp->Option Hp)(XM:bq)(clr:List Nat)(gens:List Gen)(dn:DN)(ρ:ai)(H:Hp):Option (V×Hp):=match gens with
 |[]=>none
 |g::gs=>match g with
  |(tg,many,ik,es,ifs)=>ob (denL dn ρ es H) fun vs H=>match iterOf H ik vs with
   |some items=>compGo H.nxt (turn dn tg many ifs (runGens dn (emit H.nxt) gs) (slotC ρ clr)) items vs (newObj H XM).2
   |none=>none
def Fh(clr:List Nat)(e:ME)(gens:List Gen)(dn:DN):ai->Hp->Option (V×Hp):=qm (fun n=>ck n e dn) (.list []) clr gens dn
def Hn(clr:List Nat)(k v:ME)(gens:List Gen)(dn:DN):ai->Hp->Option (V×Hp):=qm (fun n=>iX n k v dn) (.dict []) clr gens dn
def n9(e:ME):DN->ai->Hp->Option (V×Hp):=match e with
 |.const v=>aa5 v
 |.var i=>XN i
 |.bin op a b=>SM op a b
 |.neg a=>QM a
 |.kY a=>SO a
 |.kS l=>PG l
 |.eU l=>Yd l
 |.cmp op a b=>Xq op a b
 |.ite t a b=>V6 t a b
 |.call g args=>Lc g args
 |.bi b args=>OA b args
 |.cO m o args=>LH m o args
 |.sub a i=>Zp a i
 |.slice up a b=>Yv up a b
 |.rev a=>Y6 a
 |.tup l=>aai l
 |.list l=>dList l
 |.jM=>Ni
 |.nC k v=>Xc k v
 |.lcomp clr e gens=>Fh clr e gens
 |.dcomp clr k v gens=>Hn clr k v gens
noncomputable def den:Nat->DN
 |0=>fun _ _ _=>none
 |n+1=>fun e=>n9 e (den n)
noncomputable abbrev DS:=MS->ai->Hp->Option (Fl×ai×Hp)
noncomputable def sb(x:Option (Fl×ai×Hp))(f:Fl->ai->Hp->Option (Fl×ai×Hp)):Option (Fl×ai×Hp):=match x with
 |some p=>match p with
  |(a,q)=>match q with
   |(ρ,H)=>f a ρ H
 |none=>none
noncomputable def denSs(ds:DS):List MS->ai->Hp->Option (Fl×ai×Hp)
 |[]=>fun ρ H=>some (.next,ρ,H)
 |s::r=>fun ρ H=>sb (ds s ρ H) fun f ρ H=>match f with
  |.next=>denSs ds r ρ H
  |.cont=>some (.cont,ρ,H)
  |.ret v=>some (.ret v,ρ,H)
noncomputable def fq(t:ai->Hp->Option (V×Hp))(b:ai->Hp->Option (Fl×ai×Hp)):Nat->ai->Hp->Option (Fl×ai×Hp)
 |0=>fun _ _=>none
 |n+1=>fun ρ H=>cL (t ρ H) fun c H=>match c with
  |true=>sb (b ρ H) fun f ρ H=>match f with
   |.next=>fq t b n ρ H
   |.cont=>fq t b n ρ H
   |.ret v=>some (.ret v,ρ,H)
  |false=>some (.next,ρ,H)
noncomputable def loopF(tg:List Nat)(many:Bool)(b:ai->Hp->Option (Fl×ai×Hp)):List V->ai->Hp->Option (Fl×ai×Hp)
 |[]=>fun ρ H=>some (.next,ρ,H)
 |v::r=>fun ρ H=>match eB ρ tg many v with
  |some ρ=>sb (b ρ H) fun f ρ H=>match f with
   |.next=>loopF tg many b r ρ H
   |.cont=>loopF tg many b r ρ H
   |.ret v=>some (.ret v,ρ,H)
  |none=>none
def UC(i:Nat)(e:ME)(dn:DN)(_:DS)(ρ:ai)(H:Hp):Option (Fl×ai×Hp):=ob (dn e ρ H) fun v H=>some (.next,slotS ρ i (some v),H)
noncomputable def tU(ρ:Option ai)(H:Hp):Option (Fl×ai×Hp):=match ρ with
 |some ρ=>some (.next,ρ,H)
 |none=>none
def Z6(is:List Nat)(e:ME)(dn:DN)(_:DS)(ρ:ai)(H:Hp):Option (Fl×ai×Hp):=ob (dn e ρ H) fun v H=>tU (eB ρ is true v) H
noncomputable def tK(ρ:ai)(H:Option Hp):Option (Fl×ai×Hp):=match H with
 |some H=>some (.next,ρ,H)
 |none=>none
def Wm(o i e:ME)(dn:DN)(_:DS)(ρ:ai)(H:Hp):Option (Fl×ai×Hp):=
 ob (dn e ρ H) fun v H=>ob (dn o ρ H) fun ov H=>ob (dn i ρ H) fun iv H=>tK ρ (jb H ov iv v)
def augV(op:Operator)(x y:V)(H:Hp):Option (V×Hp):=match x with
 |.int a=>match y with
  |.int b=>binI op a b H
  |_=>none
 |_=>none
def YL(i:Nat)(op:Operator)(e:ME)(dn:DN)(_:DS)(ρ:ai)(H:Hp):Option (Fl×ai×Hp):=match cI ρ i with
 |some x=>ob (dn e ρ H) fun y H=>ob (augV op x y H) fun r H=>some (.next,slotS ρ i (some r),H)
 |none=>none
def Q9(e:ME)(dn:DN)(_:DS)(ρ:ai)(H:Hp):Option (Fl×ai×Hp):=ob (dn e ρ H) fun _ H=>some (.next,ρ,H)
def Y7(t:ME)(a b:List MS)(dn:DN)(ds:DS)(ρ:ai)(H:Hp):Option (Fl×ai×Hp):=cL (dn t ρ H) fun c H=>match c with
 |true=>denSs ds a ρ H
 |false=>denSs ds b ρ H
def PK(t:ME)(b:List MS)(dn:DN)(ds:DS)(ρ:ai)(H:Hp):Option (Fl×ai×Hp):=fq (dn t) (denSs ds b) 1000 ρ H
def sunl(es:List Ent)(vs:List V)(r:Option (Fl×ai×Hp)):Option (Fl×ai×Hp):=sb r fun f ρ H=>some (f,ρ,⟨H.nxt,eD es H.es vs⟩)
def P2(tg:List Nat)(many:Bool)(ik:IK)(es:List ME)(b:List MS)(dn:DN)(ds:DS)(ρ:ai)(H:Hp):Option (Fl×ai×Hp):=
 ob (denL dn ρ es H) fun vs H=>match iterOf H ik vs with
  |some items=>sunl H.es vs (loopF tg many (denSs ds b) items ρ (lockH H vs))
  |none=>none
def Qd(e:ME)(dn:DN)(_:DS)(ρ:ai)(H:Hp):Option (Fl×ai×Hp):=ob (dn e ρ H) fun v H=>some (.ret v,ρ,H)
noncomputable def Ri(_:DN)(_:DS)(ρ:ai)(H:Hp):Option (Fl×ai×Hp):=some (.cont,ρ,H)
noncomputable def Lq(_:DN)(_:DS)(_:ai)(_:Hp):Option (Fl×ai×Hp):=none
def IS(s:MS):DN->DS->ai->Hp->Option (Fl×ai×Hp):=match s with
 |.assign i e=>UC i e
 |.unpack is e=>Z6 is e
 |.store o i e=>Wm o i e
 |.aug i op e=>YL i op e
 |.expr e=>Q9 e
 |.if_ t a b=>Y7 t a b
 |.while_ t b=>PK t b
 |.for_ tg many ik es b=>P2 tg many ik es b
 |.ret e=>Qd e
 |.cont=>Ri
 |.stuck=>Lq
noncomputable def denS:Nat->DS
 |0=>fun _ _ _=>none
 |n+1=>fun s=>IS s (den n) (denS n)
noncomputable def freezeV(es:List Ent)(n₀:Nat):Nat->V->V
 |0,v=>v
 |k+1,v=>match v with
  |.ref n=>match b8 n₀ n with
   |true=>match look es n with
    |some e=>match e.obj with
     |.list l=>.lst (l.map (freezeV es n₀ k))
     |.dict l=>.dct l
    |none=>.ref n
   |false=>.ref n
  |.tup l=>.tup (l.map (freezeV es n₀ k))
  |v=>v
noncomputable def dropNew(n₀:Nat):List Ent->List Ent
 |[]=>[]
 |e::r=>match b8 n₀ e.id with
  |true=>dropNew n₀ r
  |false=>e::dropNew n₀ r
def leaveF(H H':Hp)(v:V):V×Hp:=(freezeV H'.es H.nxt 3 v,⟨H'.nxt,dropNew H.nxt H'.es⟩)
def EA(H H':Hp)(n:Nat)(x:Option Ent):V×Hp:=match x with
 |some e=>(.ref n,⟨H'.nxt,e::dropNew H.nxt H'.es⟩)
 |none=>(.ref n,⟨H'.nxt,dropNew H.nxt H'.es⟩)
def leave(keep:Bool)(H H':Hp)(v:V):V×Hp:=match keep with
 |false=>leaveF H H' v
 |true=>match v with
  |.ref n=>match b8 H.nxt n with
   |true=>EA H H' n (look H'.es n)
   |false=>leaveF H H' v
  |v=>leaveF H H' v
def mkEnd(keep:Bool)(H:Hp)(x:Option (Fl×ai×Hp)):Option (V×Hp):=match x with
 |some p=>match p with
  |(a,q)=>match q with
   |(_,H')=>match a with
    |.ret v=>some (leave keep H H' v)
    |.next=>some (leave keep H H' .none)
    |.cont=>none
 |none=>none
noncomputable def rU:List V->Nat->Nat->Option ai
 |[],0,n=>some (cq n none)
 |[],_+1,_=>none
 |_::_,0,_=>none
 |v::r,k+1,n=>match rU r k n with
  |some ρ=>some (some v::ρ)
  |none=>none
def bz(arity slots:Nat)(body:List MS)(keep:Bool):CF:=fun args H=>match rU args arity slots with
 |some ρ=>mkEnd keep H (denSs (denS 20) body ρ H)
 |none=>none
end
section
open PySem
inductive iM (F:Type) where
 |val (v:V)
 |fn (g:F)
 |bi (b:BI)
 |it (k:IK)
noncomputable abbrev GI:=iM CF
structure cF (F:Type) where
 names:List (Str×NameKind)
 vm:List (Str×Nat)
 nx:Nat
 gl:List (Str×iM F)
noncomputable abbrev Cx:=cF CF
section
variable {F:Type}
noncomputable def cF.slot(c:cF F)(x:Str):Option Nat:=match c.names.lookup x with
 |some .local=>c.vm.lookup x
 |some .cell=>c.vm.lookup x
 |some .free=>c.vm.lookup x
 |_=>none
noncomputable def cF.tgt(c:cF F)(x:Str):Option Nat:=match c.names.lookup x with
 |some .local=>c.vm.lookup x
 |some .cell=>c.vm.lookup x
 |_=>none
noncomputable def cF.glob(c:cF F)(x:Str):Option (iM F):=match c.names.lookup x with
 |some .globalImplicit=>c.gl.lookup x
 |_=>none
noncomputable def optL{α β:Type}(f:α->Option β):List α->Option (List β)
 |[]=>some []
 |a::r=>match f a with
  |some b=>match optL f r with
   |some bs=>some (b::bs)
   |none=>none
  |none=>none
noncomputable def oe{A B:Type}(x:Option A)(f:A->B)(d:B):B:=match x with
 |some a=>f a
 |none=>d
noncomputable def sole{A:Type}(l:List A):Option A:=match l with
 |[]=>none
 |a::r=>match r with
  |[]=>some a
  |_::_=>none
noncomputable def isNil{A:Type}(l:List A):Bool:=match l with
 |[]=>true
 |_::_=>false
noncomputable def nameOf(e:PySem.Expr):Option Str:=match e with
 |.Name x _=>some x
 |_=>none
noncomputable def qn(e:PySem.Expr):Option (List PySem.Expr):=match e with
 |.Tuple es _ _=>some es
 |_=>none
def jA(c:cF F)(e:PySem.Expr):Option Nat:=oo (nameOf e) c.tgt
def compT(c:cF F)(e:PySem.Expr):Option (List Nat×Bool):=oe (nameOf e) (fun x=>oo (c.tgt x) fun i=>some ([i],false)) (oo (qn e) fun es=>oo (optL (jA c) es) fun is=>some (is,true))
noncomputable def ph:List Nat->Bool
 |[]=>true
 |a::r=>band (!r.any (aF a)) (ph r)
noncomputable def ownSlots:List (Str×NameKind)->Nat->List (Str×Nat)
 |[],_=>[]
 |(x,k)::r,n=>match k with
  |.local=>(x,n)::ownSlots r (n+1)
  |.cell=>(x,n)::ownSlots r (n+1)
  |_=>ownSlots r n
noncomputable def cF.freeOk(c:cF F)(x:Str):Option Nat:=match c.names.lookup x with
 |some .cell=>c.vm.lookup x
 |some .free=>c.vm.lookup x
 |_=>none
noncomputable def freeSlots(c:cF F):List (Str×NameKind)->Option (List (Str×Nat))
 |[]=>some []
 |(x,k)::r=>match k with
  |.free=>match c.freeOk x with
   |some i=>match freeSlots c r with
    |some l=>some ((x,i)::l)
    |none=>none
   |none=>none
  |_=>freeSlots c r
noncomputable def oC:List Str->Bool
 |[]=>true
 |a::r=>band (!r.contains a) (oC r)
noncomputable def cellHas(vm:List (Str×Nat)):List (Str×NameKind)->Bool
 |[]=>true
 |(z,k)::r=>match k with
  |.cell=>band (vm.lookup z).isSome (cellHas vm r)
  |_=>cellHas vm r
noncomputable def noDict:List (Str×Nat)->Bool
 |[]=>true
 |(z,_)::r=>band (!(z == ("__classdict__" : Str))) (noDict r)
def cxOk(c:cF F):Bool:=band (ph (c.vm.map (·.2))) (band (oC (c.names.map (·.1))) (band (noDict c.vm) (cellHas c.vm c.names)))
noncomputable def isFn:ScopeKind->Bool
 |.function=>true
 |_=>false
def innerCx(c:cF F)(names:List (Str×NameKind))(fr:List (Str×Nat)):cF F:=⟨names,ownSlots names c.nx++fr,c.nx+(ownSlots names c.nx).length,c.gl⟩
def cF.inner(c:cF F)(sc:Scope):Option (cF F×List Nat):=match isFn sc.kind with
 |true=>match freeSlots c sc.names with
  |some fr=>match cxOk (innerCx c sc.names fr)with
   |true=>some (innerCx c sc.names fr,(ownSlots sc.names c.nx).map (·.2))
   |false=>none
  |none=>none
 |false=>none
noncomputable def okIt:IK->Bool->Bool
 |.enum,b=>b
 |.zip,b=>b
 |_,_=>true
def isZ0(a:bF F):Bool:=match a with
 |.const v=>match v with
  |.int i=>ieq i 0
  |_=>false
 |_=>false
noncomputable def pickM(b:Bool)(x y:f7):f7:=match b with
 |true=>x
 |false=>y
def Kt(as:List (bF F)):Option f7:=match as with
 |[]=>some .jV
 |a::r=>match r with
  |[]=>some (pickM (isZ0 a) .pop0 .dpop1)
  |_::r=>guard' (isNil r) (some .dpopN)
noncomputable def nU{A:Type}(b:Bool)(x y:Option A):Option A:=match b with
 |true=>x
 |false=>y
def y5(name:Str)(n:Nat)(as:List (bF F)):Option f7:=
 nU (decide (name=Str.ofString "append")) (guard' (aF n 1) (some .append)) (nU (decide (name=Str.ofString "extend")) (guard' (aF n 1) (some .extend)) (nU (decide (name=Str.ofString "pop")) (Kt as)
  (nU (decide (name=Str.ofString "reverse")) (guard' (aF n 0) (some .reverse)) (nU (decide (name=Str.ofString "sort")) (guard' (aF n 0) (some .sort)) none))))
noncomputable def lq:List (sr F)->List Nat
 |[]=>[]
 |g::r=>g.1++lq r
def j0(clr:List Nat)(gs:List (sr F)):Bool:=band (ph (lq gs)) ((lq gs).all fun i=>clr.any (aF i))
noncomputable def isRec:PySem.Expr->Bool
 |.Name _ _=>true
 |.Subscript _ _ _=>true
 |_=>false
def th(b:BI)(n:Nat):Option BI:=match b with
 |.max2=>match aF n 2 with
  |true=>some .max2
  |false=>guard' (aF n 1) (some .maxl)
 |.min2=>guard' (aF n 2) (some .min2)
 |b=>guard' (aF n 1) (some b)
noncomputable def callE(e:PySem.Expr):Option (PySem.Expr×List PySem.Expr×List PySem.Keyword):=match e with
 |.Call f as kws _=>some (f,as,kws)
 |_=>none
def Jl(e:PySem.Expr):Option (Str×List PySem.Expr):=oo (callE e) fun q=>guard' (isNil q.2.2) (oo (nameOf q.1) fun x=>some (x,q.2.1))
noncomputable def EJ(g:iM F):Option IK:=match g with
 |.it k=>some k
 |_=>none
def uC(k:IK)(n:Nat):Option IK:=match k with
 |.enum=>guard' (aF n 1) (some .enum)
 |.range1=>match aF n 1 with
  |true=>some .range1
  |false=>guard' (aF n 2) (some .range2)
 |.zip=>guard' (aF n 2) (some .zip)
 |_=>none
def compIt(c:cF F)(ce:PySem.Expr->Option (bF F))(e:PySem.Expr):Option (IK×List (bF F)):=
 oe (oo (Jl e) fun q=>oo (c.glob q.1) fun g=>oo (EJ g) fun k=>some (k,q.2))
  (fun q=>oo (optL ce q.2) fun ms=>oo (uC q.1 ms.length) fun k=>some (k,ms))
  (oo (ce e) fun m=>some (.seq,[m]))
noncomputable def compGens(ce:cF F->PySem.Expr->Option (bF F))(c:cF F):cF F->List PySem.Comprehension->Option (List (sr F))
 |_,[]=>some []
 |out,g::r=>guard' (decide (g.is_async=0)) (oo (compT c g.target) fun t=>oo (compIt out (ce out) g.iter) fun k=>oo (optL (ce c) g.ifs) fun fs=>guard' (okIt k.1 t.2) (oo (compGens ce c c r) fun gs=>some ((t.1,t.2,k.1,k.2,fs)::gs)))
def gsOk(clr:List Nat)(gs:List (sr F)):Bool:=match gs with
 |[]=>false
 |_::_=>j0 clr gs
noncomputable def cConst(k:Const):Option (bF F):=match k with
 |.none=>some (.const .none)
 |.bool b=>some (.const (.bool b))
 |.int i=>some (.const (.int i))
 |.str s=>some (.const (.str s.cps.toList))
 |_=>none
noncomputable def valOf(g:iM F):Option V:=match g with
 |.val v=>some v
 |_=>none
def cName(c:cF F)(x:Str):Option (bF F):=guard' (!decide (x=Str.ofString "__debug__")) (oe (c.slot x) (fun i=>some (.var i)) (oo (c.glob x) fun g=>oo (valOf g) fun v=>some (.const v)))
noncomputable def cUn(op:PySem.UnaryOp)(x:bF F):Option (bF F):=match op with
 |.USub=>some (.neg x)
 |.Not=>some (.kY x)
 |_=>none
noncomputable def cBool(op:PySem.BoolOp)(ms:List (bF F)):bF F:=match op with
 |.And=>.kS ms
 |.Or=>.eU ms
def cCall(g:iM F)(ms:List (bF F)):Option (bF F):=match g with
 |.fn f=>some (.call f ms)
 |.bi b=>oo (th b ms.length) fun b=>some (.bi b ms)
 |_=>none
noncomputable def DY(e:PySem.Expr):Option (PySem.Expr×Str×Pos):=match e with
 |.Attribute o x p=>some (o,x,p)
 |_=>none
noncomputable def sliceOf(e:PySem.Expr):Option (Option PySem.Expr×Option PySem.Expr×Option PySem.Expr):=match e with
 |.Slice a b d _=>some (a,b,d)
 |_=>none
noncomputable def Gr(e:PySem.Expr):Option (PySem.UnaryOp×PySem.Expr):=match e with
 |.UnaryOp op a _=>some (op,a)
 |_=>none
noncomputable def V3(op:PySem.UnaryOp):Bool:=match op with
 |.USub=>true
 |_=>false
noncomputable def intOf(e:PySem.Expr):Option Int:=match e with
 |.Constant (.int i) _ _=>some i
 |_=>none
def Kw(e:PySem.Expr):Option Unit:=oo (Gr e) fun q=>guard' (V3 q.1) (oo (intOf q.2) fun i=>guard' (decide (i=1)) (some ()))
def cSlice(ce:PySem.Expr->Option (bF F))(x:bF F)(lo hi st:Option PySem.Expr):Option (bF F):=match st with
 |some st=>oo (Kw st) fun _=>match lo with
  |some _=>none
  |none=>match hi with
   |some _=>none
   |none=>some (.rev x)
 |none=>match lo with
  |some b=>(match hi with
   |some _=>none
   |none=>oo (ce b) fun y=>some (.slice false x y))
  |none=>oo hi fun b=>oo (ce b) fun y=>some (.slice true x y)
noncomputable def compE:Nat->cF F->PySem.Expr->Option (bF F)
 |0,_,_=>none
 |n+1,c,e=>match e with
  |.Constant k _ _=>cConst k
  |.Name x _=>cName c x
  |.BinOp a op b _=>oo (compE n c a) fun x=>oo (compE n c b) fun y=>some (.bin op x y)
  |.UnaryOp op a _=>oo (compE n c a) fun x=>cUn op x
  |.BoolOp op l _=>oo (optL (compE n c) l) fun ms=>some (cBool op ms)
  |.Compare a ops bs _=>oo (sole ops) fun op=>oo (sole bs) fun b=>oo (compE n c a) fun x=>oo (compE n c b) fun y=>guard' (!behindInMarks op b) (some (.cmp op x y))
  |.IfExp t a b _=>oo (compE n c t) fun t=>oo (compE n c a) fun a=>oo (compE n c b) fun b=>some (.ite t a b)
  |.Call f as kws pos=>guard' (band (isNil kws) (b8 as.length 4)) (oo (optL (compE n c) as) fun ms=>oe (nameOf f) (fun x=>oo (c.glob x) fun g=>cCall g ms)
   (oo (DY f) fun q=>guard' (band (isRec q.1) (aF q.2.2.endLine pos.line)) (oo (compE n c q.1) fun m=>oo (y5 q.2.1 ms.length ms) fun k=>some (.cO k m ms))))
  |.Subscript a i _=>oo (compE n c a) fun x=>oe (sliceOf i) (fun q=>cSlice (compE n c) x q.1 q.2.1 q.2.2) (oo (compE n c i) fun y=>some (.sub x y))
  |.Tuple l _ _=>guard' (b8 l.length 100) (oo (optL (compE n c) l) fun ms=>some (.tup ms))
  |.List l _=>guard' (b8 l.length 100) (oo (optL (compE n c) l) fun ms=>some (.list ms))
  |.Dict ks vs _=>match ks with
   |[]=>guard' (isNil vs) (some .jM)
   |k::r=>guard' (isNil r) (oo k fun k=>oo (sole vs) fun v=>oo (compE n c k) fun k=>oo (compE n c v) fun v=>some (.nC k v))
  |.ListComp e gens scope _=>oo (c.inner scope) fun q=>oo (compE n q.1 e) fun m=>oo (compGens (compE n) q.1 c gens) fun gs=>guard' (gsOk q.2 gs) (some (.lcomp q.2 m gs))
  |.DictComp k v gens scope _=>oo (c.inner scope) fun q=>oo (compE n q.1 k) fun k=>oo (compE n q.1 v) fun v=>oo (compGens (compE n) q.1 c gens) fun gs=>guard' (gsOk q.2 gs) (some (.dcomp q.2 k v gs))
  |_=>none
noncomputable def wV:PySem.Expr->Bool
 |.Tuple vs _ _=>match vs.all (PySem.constantsAlone 8)with
  |true=>vs.all (PySem.foldedForSure 8)
  |false=>true
 |_=>true
noncomputable def E7(e:PySem.Expr):Option (PySem.Expr×PySem.Expr):=match e with
 |.Subscript o i _=>some (o,i)
 |_=>none
def cAsg(c:cF F)(ce:PySem.Expr->Option (bF F))(t e:PySem.Expr)(m:bF F):Option (og F):=
 oe (nameOf t) (fun x=>oo (c.tgt x) fun i=>some (.assign i m)) (oe (qn t) (fun es=>oo (optL (jA c) es) fun is=>guard' (band (ph is) (wV e)) (some (.unpack is m)))
  (oo (E7 t) fun q=>oe (sliceOf q.2) (fun _=>none) (oo (ce q.1) fun a=>oo (ce q.2) fun b=>some (.store a b m))))
noncomputable def compS:Nat->cF F->PySem.Stmt->Option (og F)
 |0,_,_=>none
 |n+1,c,s=>match s with
  |.Assign ts e _=>oo (sole ts) fun t=>oo (compE n c e) fun m=>cAsg c (compE n c) t e m
  |.AugAssign t op e _=>oo (nameOf t) fun x=>oo (c.tgt x) fun i=>oo (compE n c e) fun m=>guard' (isAdd op) (some (.aug i op m))
  |.Expr e _=>oo (callE e) fun _=>oo (compE n c e) fun m=>some (.expr m)
  |.If t a b _=>oo (compE n c t) fun t=>oo (optL (compS n c) a) fun a=>oo (optL (compS n c) b) fun b=>some (.if_ t a b)
  |.While t b o _=>guard' (isNil o) (oo (compE n c t) fun t=>oo (optL (compS n c) b) fun b=>some (.while_ t b))
  |.For t it b o _=>guard' (isNil o) (oo (compT c t) fun t=>oo (compIt c (compE n c) it) fun k=>oo (optL (compS n c) b) fun b=>guard' (okIt k.1 t.2) (some (.for_ t.1 t.2 k.1 k.2 b)))
  |.Return e _=>oo e fun e=>oo (compE n c e) fun m=>some (.ret m)
  |.Continue _=>some .cont
  |.Raise _ _ _=>some .stuck
  |_=>none
def iF(gl:List (Str×iM F))(params:List Str)(names:List (Str×NameKind)):cF F:=
 let own:=(params++((names.filter fun x=>match x.2 with|.local=>true|.cell=>true|_=>false).map (·.1)).filter fun x=>!params.contains x)
 ⟨names,own.zipIdx,own.length,gl⟩
end
section
theorem cm{B:Type}{b:Bool}{x:Option B}{y:B}{P:Prop}(h:(match b with|true=>x|false=>none)=some y)(k:b=true->x=some y->P):P:=by cases b with|false=>exact nq h|true=>exact k rfl h
theorem kb1{B:Type}{b:Bool}{x:Option B}{y:B}{P:Prop}(h:(match b with|false=>none|true=>x)=some y)(k:b=true->x=some y->P):P:=by cases b with|false=>exact nq h|true=>exact k rfl h
theorem kb2{b x:Bool}{P:Prop}(h:(match b with|true=>x|false=>false)=true)(k:b=true->x=true->P):P:=by cases b with|false=>exact bf h|true=>exact k rfl h
theorem g5{B:Type}{x:Option (List V)}{f:List V->Option B}{b:B}{P:Prop}(h:(match x with|some a=>f a|none=>none)=some b)(k:∀a,x=some a->f a=some b->P):P:=by cases x with|none=>exact nq h|some a=>exact k a rfl h
theorem jY{B:Type}{x:Option V}{f:V->Option B}{b:B}{P:Prop}(h:(match x with|some a=>f a|none=>none)=some b)(k:∀a,x=some a->f a=some b->P):P:=by cases x with|none=>exact nq h|some a=>exact k a rfl h
theorem ml{B:Type}{x:Option Ent}{f:Ent->Option B}{b:B}{P:Prop}(h:(match x with|some a=>f a|none=>none)=some b)(k:∀a,x=some a->f a=some b->P):P:=by cases x with|none=>exact nq h|some a=>exact k a rfl h
theorem Dt{B:Type}{x:Option (List Int)}{f:List Int->Option B}{b:B}{P:Prop}(h:(match x with|some a=>f a|none=>none)=some b)(k:∀a,x=some a->f a=some b->P):P:=by cases x with|none=>exact nq h|some a=>exact k a rfl h
theorem Lf{x:Option (List Int)}{f:List Int->Bool}{P:Prop}(h:(match x with|some a=>f a|none=>false)=true)(k:∀a,x=some a->f a=true->P):P:=by cases x with|none=>exact bf h|some a=>exact k a rfl h
theorem WR{B:Type}{x:Option (List Int)}{f:List Int->Option B}{b:B}{P:Prop}(h:(match x with|none=>none|some a=>f a)=some b)(k:∀a,x=some a->f a=some b->P):P:=by cases x with|none=>exact nq h|some a=>exact k a rfl h
theorem sT{B:Type}{x:Option Bool}{f:Bool->Option B}{b:B}{P:Prop}(h:(match x with|some a=>f a|none=>none)=some b)(k:∀a,x=some a->f a=some b->P):P:=by cases x with|none=>exact nq h|some a=>exact k a rfl h
theorem kB1{B:Type}{x:Option Bool}{f:Bool->Option B}{b:B}{P:Prop}(h:(match x with|none=>none|some a=>f a)=some b)(k:∀a,x=some a->f a=some b->P):P:=by cases x with|none=>exact nq h|some a=>exact k a rfl h
theorem B8{B:Type}{x:Option (List (List Int×V))}{f:List (List Int×V)->Option B}{b:B}{P:Prop}(h:(match x with|some a=>f a|none=>none)=some b)(k:∀a,x=some a->f a=some b->P):P:=by cases x with|none=>exact nq h|some a=>exact k a rfl h
theorem wK{B:Type}{x:Option Int}{f:Int->Option B}{b:B}{P:Prop}(h:(match x with|some a=>f a|none=>none)=some b)(k:∀a,x=some a->f a=some b->P):P:=by cases x with|none=>exact nq h|some a=>exact k a rfl h
theorem FC{B:Type}{x:Option Int}{f:Int->Option B}{b:B}{P:Prop}(h:(match x with|none=>none|some a=>f a)=some b)(k:∀a,x=some a->f a=some b->P):P:=by cases x with|none=>exact nq h|some a=>exact k a rfl h
theorem Nx{B:Type}{x:Option Nat}{f:Nat->Option B}{b:B}{P:Prop}(h:(match x with|some a=>f a|none=>none)=some b)(k:∀a,x=some a->f a=some b->P):P:=by cases x with|none=>exact nq h|some a=>exact k a rfl h
theorem Bl{B:Type}{x:Option (Array Nat)}{f:Array Nat->Option B}{b:B}{P:Prop}(h:(match x with|some a=>f a|none=>none)=some b)(k:∀a,x=some a->f a=some b->P):P:=by cases x with|none=>exact nq h|some a=>exact k a rfl h
theorem Of{B:Type}{x:Option (List (Str×Nat))}{f:List (Str×Nat)->Option B}{b:B}{P:Prop}(h:(match x with|some a=>f a|none=>none)=some b)(k:∀a,x=some a->f a=some b->P):P:=by cases x with|none=>exact nq h|some a=>exact k a rfl h
theorem W6{x:Option (List (List Int))}{f:List (List Int)->Bool}{P:Prop}(h:(match x with|some a=>f a|none=>false)=true)(k:∀a,x=some a->f a=true->P):P:=by cases x with|none=>exact bf h|some a=>exact k a rfl h
theorem zG{B:Type}{x:Option (List (List Int))}{f:List (List Int)->Option B}{b:B}{P:Prop}(h:(match x with|none=>none|some a=>f a)=some b)(k:∀a,x=some a->f a=some b->P):P:=by cases x with|none=>exact nq h|some a=>exact k a rfl h
theorem Zl{x:Option (List (List Int))}{f:List (List Int)->Bool}{P:Prop}(h:(match x with|none=>false|some a=>f a)=true)(k:∀a,x=some a->f a=true->P):P:=by cases x with|none=>exact bf h|some a=>exact k a rfl h
end
end
section
open PySem PySem.Calls PyProof.Rows PySem.W
noncomputable abbrev dc(vs:List Value)(n:Nat):Obj:={ cls:=.type "tuple",data:=.seq vs.toArray n }
noncomputable abbrev f9(vs:List Value)(n:Nat):Obj:={ cls:=.type "list",data:=.seq vs.toArray n }
noncomputable abbrev cX(es:List DictEntry)(n:Nat):Obj:={ cls:=.type "dict",data:=.dict es.toArray n }
section
variable (kh:List Int->Int) (φ:Nat->Option Addr) (M:Addr->Prop) (h:Heap)
mutual
inductive VR:V->Value->Prop
 |none:VR .none .none
 |bool (b:Bool):VR (.bool b) (.bool b)
 |int (i:Int) (t:Tok):VR (.int i) (.int i t)
 |str (x:Str) (t:Tok):VR (.str x.cps.toList) (.str x t)
 |tup {a:Addr} {l:List V} {vs:List Value} {n:Nat}:h.get? a=some (dc vs n)->¬ M a->bD l vs->VR (.tup l) (.ref a)
 |lst {a:Addr} {l:List V} {vs:List Value} {n:Nat}:h.get? a=some (f9 vs n)->¬ M a->bD l vs->VR (.lst l) (.ref a)
 |dct {a:Addr} {l:List (List Int×V)} {es:List DictEntry} {n:Nat}:h.get? a=some (cX es n)->a≠sysModules->¬ M a->d6 l es->(l.map (·.1)).Nodup->VR (.dct l) (.ref a)
 |ref {n:Nat} {a:Addr}:φ n=some a->VR (.ref n) (.ref a)
inductive bD:List V->List Value->Prop
 |nil:bD [] []
 |cons {v:V} {x:Value} {l:List V} {vs:List Value}:VR v x->bD l vs->bD (v::l) (x::vs)
inductive d6:List (List Int×V)->List DictEntry->Prop
 |nil:d6 [] []
 |cons {k:List Int} {v:V} {l:List (List Int×V)} {e:DictEntry} {es:List DictEntry} {a:Addr}:e.key = .ref a->e.hash=kh k->VR (.tup (k.map .int)) (.ref a)->VR v e.val->d6 l es->
  d6 ((k,v)::l) (e::es)
end
end
section
variable {kh:List Int->Int} {φ a8:Nat->Option Addr} {M M':Addr->Prop} {h h':Heap}
structure Go (φ a8:Nat->Option Addr) (M M':Addr->Prop) (h h':Heap) (N:V->Prop) (Ns:List V->Prop) (Ne:List (List Int×V)->Prop):Prop where
 it:∀l,N (.tup l)->Ns l
 il:∀l,N (.lst l)->Ns l
 id:∀l,N (.dct l)->Ne l
 is:∀v l,Ns (v::l)->N v/\Ns l
 ie:∀k v l,Ne ((k,v)::l)->N (.tup (k.map .int))/\N v/\Ne l
 r:∀n a,N (.ref n)->φ n=some a->a8 n=some a
 t:∀l b vs n,N (.tup l)->h.get? b=some (dc vs n)->¬ M b->h'.get? b=some (dc vs n)/\¬ M' b
 l:∀l b vs n,N (.lst l)->h.get? b=some (f9 vs n)->¬ M b->h'.get? b=some (f9 vs n)/\¬ M' b
 d:∀l b vs n,N (.dct l)->h.get? b=some (cX vs n)->¬ M b->h'.get? b=some (cX vs n)/\¬ M' b
section
variable {N:V->Prop} {Ns:List V->Prop} {Ne:List (List Int×V)->Prop} (G:Go φ a8 M M' h h' N Ns Ne)
include G
theorem yV(e:h.get? a=some (dc vs n))(m:¬ M a)(_:bD kh φ M h l vs)(ih:Ns l->bD kh a8 M' h' l vs)(f:N (.tup l)):VR kh a8 M' h' (.tup l) (.ref a):=.tup (G.t _ _ _ _ f e m).1 (G.t _ _ _ _ f e m).2 (ih (G.it _ f))
theorem zC(e:h.get? a=some (f9 vs n))(m:¬ M a)(_:bD kh φ M h l vs)(ih:Ns l->bD kh a8 M' h' l vs)(f:N (.lst l)):VR kh a8 M' h' (.lst l) (.ref a):=.lst (G.l _ _ _ _ f e m).1 (G.l _ _ _ _ f e m).2 (ih (G.il _ f))
theorem AW(e:h.get? a=some (cX es n))(z:a≠sysModules)(m:¬ M a)(_:d6 kh φ M h l es)(d:(l.map (·.1)).Nodup)(ih:Ne l->d6 kh a8 M' h' l es)(f:N (.dct l)):VR kh a8 M' h' (.dct l) (.ref a):=.dct (G.d _ _ _ _ f e m).1 z (G.d _ _ _ _ f e m).2 (ih (G.id _ f)) d
theorem xP(_:VR kh φ M h v x)(_:bD kh φ M h l vs)(ia:N v->VR kh a8 M' h' v x)(ir:Ns l->bD kh a8 M' h' l vs)(f:Ns (v::l)):bD kh a8 M' h' (v::l) (x::vs):=.cons (ia (G.is _ _ f).1) (ir (G.is _ _ f).2)
theorem Bb(e1:e.key = .ref a)(e2:e.hash=kh k)(_:VR kh φ M h (.tup (k.map .int)) (.ref a))(_:VR kh φ M h v e.val)(_:d6 kh φ M h l es)
  (ik:N (.tup (k.map .int))->VR kh a8 M' h' (.tup (k.map .int)) (.ref a)) (iv:N v->VR kh a8 M' h' v e.val) (ir:Ne l->d6 kh a8 M' h' l es) (f:Ne ((k,v)::l)):d6 kh a8 M' h' ((k,v)::l) (e::es):=.cons e1 e2 (ik (G.ie _ _ _ f).1) (iv (G.ie _ _ _ f).2.1) (ir (G.ie _ _ _ f).2.2)
theorem zM(r:VR kh φ M h v x):N v->VR kh a8 M' h' v x:=
 VR.rec (motive_1:=fun v x _=>N v->VR kh a8 M' h' v x) (motive_2:=fun l vs _=>Ns l->bD kh a8 M' h' l vs) (motive_3:=fun l es _=>Ne l->d6 kh a8 M' h' l es)
  (fun _=>.none) (fun b _=>.bool b) (fun i t _=>.int i t) (fun x t _=>.str x t) (yV G) (zC G) (AW G) (fun e f=>.ref (G.r _ _ f e)) (fun _=>.nil) (xP G) (fun _=>.nil) (Bb G) r
theorem Jw(r:bD kh φ M h l vs):Ns l->bD kh a8 M' h' l vs:=
 bD.rec (motive_1:=fun v x _=>N v->VR kh a8 M' h' v x) (motive_2:=fun l vs _=>Ns l->bD kh a8 M' h' l vs) (motive_3:=fun l es _=>Ne l->d6 kh a8 M' h' l es)
  (fun _=>.none) (fun b _=>.bool b) (fun i t _=>.int i t) (fun x t _=>.str x t) (yV G) (zC G) (AW G) (fun e f=>.ref (G.r _ _ f e)) (fun _=>.nil) (xP G) (fun _=>.nil) (Bb G) r
theorem K7(r:d6 kh φ M h l es):Ne l->d6 kh a8 M' h' l es:=
 d6.rec (motive_1:=fun v x _=>N v->VR kh a8 M' h' v x) (motive_2:=fun l vs _=>Ns l->bD kh a8 M' h' l vs) (motive_3:=fun l es _=>Ne l->d6 kh a8 M' h' l es)
  (fun _=>.none) (fun b _=>.bool b) (fun i t _=>.int i t) (fun x t _=>.str x t) (yV G) (zC G) (AW G) (fun e f=>.ref (G.r _ _ f e)) (fun _=>.nil) (xP G) (fun _=>.nil) (Bb G) r
end
noncomputable abbrev tr{α:Sort _}(_:α):Prop:=True
theorem C4(nj:∀n a,φ n=some a->a8 n=some a)(hk:∀b o,h.get? b=some o->¬ M b->h'.get? b=some o)(hM:∀b o,M' b->h.get? b=some o->M b):Go φ a8 M M' h h' tr tr tr:=
 have q:∀b o,h.get? b=some o->¬ M b->h'.get? b=some o/\¬ M' b:=fun b o e m=>⟨hk b o e m,fun z=>m (hM b o z e)⟩
 ⟨fun _ _=>trivial,fun _ _=>trivial,fun _ _=>trivial,fun _ _ _=>⟨trivial,trivial⟩,fun _ _ _ _=>⟨trivial,trivial,trivial⟩,fun n a _=>nj n a,fun _ b _ _ _=>q b _,fun _ b _ _ _=>q b _,fun _ b _ _ _=>q b _⟩
theorem VR.mono(nj:∀n a,φ n=some a->a8 n=some a)(hk:∀b o,h.get? b=some o->¬ M b->h'.get? b=some o)(hM:∀b o,M' b->h.get? b=some o->M b)(r:VR kh φ M h v x):VR kh a8 M' h' v x:=zM (C4 nj hk hM) r trivial
theorem bD.mono(nj:∀n a,φ n=some a->a8 n=some a)(hk:∀b o,h.get? b=some o->¬ M b->h'.get? b=some o)(hM:∀b o,M' b->h.get? b=some o->M b)(r:bD kh φ M h l vs):bD kh a8 M' h' l vs:=Jw (C4 nj hk hM) r trivial
theorem d6.mono(nj:∀n a,φ n=some a->a8 n=some a)(hk:∀b o,h.get? b=some o->¬ M b->h'.get? b=some o)(hM:∀b o,M' b->h.get? b=some o->M b)(r:d6 kh φ M h l es):d6 kh a8 M' h' l es:=K7 (C4 nj hk hM) r trivial
theorem bD.length(r:bD kh φ M h l vs):l.length=vs.length:=by
 induction l generalizing vs with
 |nil=>cases r;rfl
 |cons a l ih=>cases r with|cons _ r=>simp [ih r]
theorem bD.append(r:bD kh φ M h l vs)(r':bD kh φ M h l' vs'):bD kh φ M h (l++l') (vs++vs'):=by
 induction l generalizing vs with
 |nil=>cases r;exact r'
 |cons a l ih=>clear r';cases r with|cons a r=>exact .cons a (ih r)
theorem bD.get{l:List V}{vs:List Value}(r:bD kh φ M h l vs){i:Nat}{v:V}(e:l[i]?=some v):∃x,vs[i]?=some x/\VR kh φ M h v x:=by
 induction l generalizing vs i with
 |nil=>simp at e
 |cons a l ih=>
  cases r with
  |cons q r=>
   induction i using bL with
   |zero=>simp at e;clear r ih;subst e;exact⟨_,rfl,q⟩
   |succ i=>simp at e;simpa using ih r e
theorem bD.take(r:bD kh φ M h l vs)(n:Nat):bD kh φ M h (l.take n) (vs.take n):=by
 induction l generalizing vs n with
 |nil=>cases r;simpa using bD.nil
 |cons a l ih=>
  cases r with
  |cons q r=>
   induction n using bL with
   |zero=>simpa using bD.nil
   |succ n=>exact .cons q (ih r n)
theorem bD.drop(r:bD kh φ M h l vs)(n:Nat):bD kh φ M h (l.drop n) (vs.drop n):=by
 induction l generalizing vs n with
 |nil=>cases r;simpa using bD.nil
 |cons a l ih=>
  cases r with
  |cons q r=>
   induction n using bL with
   |zero=>exact .cons q r
   |succ n=>simpa using ih r n
theorem bD.reverse(r:bD kh φ M h l vs):bD kh φ M h l.reverse vs.reverse:=by
 induction l generalizing vs with
 |nil=>cases r;exact .nil
 |cons a l ih=>
  cases r with
  |cons q r=>simp only[List.reverse_cons];exact(ih r).append (.cons q .nil)
theorem bD.set(r:bD kh φ M h l vs)(i:Nat)(q:VR kh φ M h v x):bD kh φ M h (l.set i v) (vs.set i x):=by
 induction l generalizing vs i with
 |nil=>clear q;cases r;simpa using bD.nil
 |cons a l ih=>
  cases r with
  |cons p r=>
   induction i using bL with
   |zero=>exact .cons q r
   |succ n=>exact .cons p (ih r n)
end
structure Ph where
 f:Nat->Option Addr
 fr:Addr->Prop
noncomputable def Own(φ:Ph)(H:Hp)(a:Addr):Prop:=∃e∈H.es,φ.f e.id=some a
noncomputable def aU(φ:Ph)(H:Hp)(a:Addr):Prop:=Own φ H a\/φ.fr a
noncomputable def gL(φ:Ph)(H:Hp)(a:Addr):Prop:=∃e∈H.es,e.lock=false/\φ.f e.id=some a
theorem gL.own(x:gL φ H a):Own φ H a:=b6 x fun e m _ q=>⟨e,m,q⟩
theorem gL.mut(x:gL φ H a):aU φ H a:=.inl x.own
section
variable (kh:List Int->Int) (φ:Nat->Option Addr) (M:Addr->Prop) (h:Heap)
noncomputable def OR(o:bq)(a:Addr):Prop:=match o with
 |.list l=>∃vs n,h.get? a=some (f9 vs n)/\bD kh φ M h l vs
 |.dict l=>∃es n,h.get? a=some (cX es n)/\d6 kh φ M h l es/\(l.map (·.1)).Nodup
end
structure HI (kh:List Int->Int) (h₀:Heap) (φ:Ph) (H:Hp) (h:Heap):Prop where
 base:∀b o,h₀.get? b=some o->h.get? b=some o
 objs:∀e∈H.es,∃a,φ.f e.id=some a/\h₀.get? a=none/\OR kh φ.f (aU φ H) h e.obj a
 nodup:(H.es.map (·.id)).Nodup
 inj:∀e∈H.es,∀e'∈H.es,φ.f e.id=φ.f e'.id->e.id=e'.id
 lt:∀e∈H.es,e.id<H.nxt
 fresh:∀n,H.nxt<=n->φ.f n=none
 cC:∀a,φ.fr a->h₀.get? a=none/\(∀e∈H.es,φ.f e.id≠some a)/\∃o,h.get? a=some o
 sys:∃o,h₀.get? sysModules=some o
structure St (φ:Ph) (H:Hp) (h:Heap) (a8:Ph) (H':Hp) (h':Heap):Prop where
 keep:∀b o,h.get? b=some o->¬ gL φ H b->h'.get? b=some o
 ext:∀n a,φ.f n=some a->a8.f n=some a
 nxt:H.nxt<=H'.nxt
 ids:∀e∈H.es,∃e'∈H'.es,e'.id=e.id/\e'.lock=e.lock/\(e.lock=true->e'.obj=e.obj)
 new:∀e'∈H'.es,(∃e∈H.es,e.id=e'.id)\/(∀a,a8.f e'.id=some a->h.get? a=none)
 alive:∀b o,h.get? b=some o->∃o',h'.get? b=some o'
 dE:∀a,φ.fr a->a8.fr a
 gE:∀a,a8.fr a->φ.fr a\/h.get? a=none
section
variable {kh:List Int->Int} {h₀:Heap} {φ a8 qp:Ph} {H H' ew:Hp} {h h' h'':Heap}
theorem iq{l:List Ent}:(l.map (·.id)).Nodup->∀{a b:Ent},a∈l->b∈l->a.id=b.id->a=b:=by
 induction l with
 |nil=>
  intro _ _ _ m _ _;cases m
 |cons x l ih=>
  intro N a b m m' e;rw[aO,ee]at N;rcases aI.mp m with q|m
  ·clear m;rcases aI.mp m' with q'|m'
   ·rw[q,q']
   ·exact absurd (cG.mpr ⟨b,m',by rw[<- e,q]⟩) N.1
  ·rcases aI.mp m' with q'|m'
   ·exact absurd (cG.mpr ⟨a,m,by rw[e,q']⟩) N.1
   ·exact ih N.2 m m' e
theorem St.own(S:St φ H h a8 H' h')(I:HI kh h₀ φ H h):∀b o,Own a8 H' b->h.get? b=some o->Own φ H b:=by
 rintro b o ⟨e',m,q⟩ g;rcases S.new e' m with⟨e,me,q'⟩|q'
 ·exists ae (I.objs e me),a,ha,Z0;have:=S.ext _ _ ha;rw[q',q]at this;exact⟨e,me,by rw[ha];exact this.symm⟩
 ·rw[q' b q]at g;exact nq g
theorem St.mut(S:St φ H h a8 H' h')(I:HI kh h₀ φ H h):∀b o,aU a8 H' b->h.get? b=some o->aU φ H b:=by
 rintro b o (q|q) g
 ·exact .inl (S.own I b o q g)
 ·clear I;rcases S.gE b q with q|q
  ·exact .inr q
  ·rw[q]at g;exact nq g
theorem St.kP(S:St φ H h a8 H' h')(I:HI kh h₀ φ H h)(N:(H'.es.map (·.id)).Nodup):∀b o,gL a8 H' b->h.get? b=some o->gL φ H b:=by
 rintro b o ⟨e',m,lk,q⟩ g;rcases S.new e' m with⟨e,me,q'⟩|q'
 ·exists ae (I.objs e me),a,ha,Z0;have ea:=S.ext _ _ ha;rw[q',q]at ea
  (clear g q I;exists ea)
  exists dw (S.ids e me),e2,m2,i2,l2,Z0;have:e2=e':=by
   have e:e2.id=e'.id:=i2.trans q';exact iq N m2 m e
  subst this;exact⟨e,me,by rw[<- l2];exact lk,ha⟩
 ·rw[q' b q]at g;exact nq g
theorem St.vr(S:St φ H h a8 H' h')(I:HI kh h₀ φ H h)(r:VR kh φ.f (aU φ H) h v x):VR kh a8.f (aU a8 H') h' v x:=
 r.mono S.ext (fun b o e m=>S.keep b o e fun u=>m u.mut) (S.mut I)
theorem St.iz(S:St φ H h a8 H' h')(I:HI kh h₀ φ H h)(r:bD kh φ.f (aU φ H) h l vs):bD kh a8.f (aU a8 H') h' l vs:=
 r.mono S.ext (fun b o e m=>S.keep b o e fun u=>m u.mut) (S.mut I)
theorem St.refl(φ:Ph)(H:Hp)(h:Heap):St φ H h φ H h:=
 ⟨fun _ _ e _=>e,fun _ _ e=>e,cx _,fun e m=>⟨e,m,rfl,rfl,fun _=>rfl⟩,fun e m=>.inl ⟨e,m,rfl⟩,fun _ o e=>⟨o,e⟩,fun _ e=>e,fun _ e=>.inl e⟩
theorem St.trans(S:St φ H h a8 H' h')(T:St a8 H' h' qp ew h'')(I:HI kh h₀ φ H h)(I':HI kh h₀ a8 H' h'):St φ H h qp ew h'':=by
 refine⟨fun b o e u=>T.keep b o (S.keep b o e u) fun q=>u (S.kP I I'.nodup b o q e),fun n a e=>T.ext _ _ (S.ext _ _ e),br S.nxt T.nxt,fun e m=>?_,fun yw m=>?_,fun b o e=>?_,fun a e=>T.dE a (S.dE a e),fun a e=>?_⟩
 ·exists dw (S.ids e m),e1,m1,a1,b1,c1;exists dw (T.ids e1 m1),e2,m2,a2,b2,c2;exact⟨e2,m2,a2.trans a1,b2.trans b1,fun q=>(c2 (b1.trans q)).trans (c1 q)⟩
 ·clear I;rcases T.new yw m with⟨e',m',q⟩|q
  ·clear m;rcases S.new e' m' with⟨e,me,q'⟩|q'
   ·exact .inl ⟨e,me,q'.trans q⟩
   ·exists ae (I'.objs e' m'),a',fH,Z0;exists .inr,a,ha;have:=T.ext _ _ fH;rw[q,ha]at this
    (clear ha q m' I' T S;exists this)
    exact q' _ fH
  ·exists .inr,a,ha;clear m I' T;induction g:h.get? a using aL with
   |none=>rfl
   |some o=>
    exists aD (S.alive a o g),o',g';rw[q a ha]at g';exact nq g'
 ·exists aD (S.alive b o e),o',e';exact T.alive b o' e'
 ·clear I' I;rcases T.gE a e with e|e
  ·exact S.gE a e
  ·refine .inr ?_;clear T;induction g:h.get? a using aL with
   |none=>rfl
   |some o=>
    exists aD (S.alive a o g),o',g';rw[e]at g';exact nq g'
end
structure Cf where
 prog:Program
 w:World
 h₀:Heap
noncomputable def Cf.kh(C:Cf):List Int->Int:=tupleKeyHash (intKind C.prog C.w)
noncomputable abbrev Cf.R(C:Cf)(φ:Ph)(H:Hp)(h:Heap):V->Value->Prop:=VR C.kh φ.f (aU φ H) h
noncomputable abbrev Cf.Rs(C:Cf)(φ:Ph)(H:Hp)(h:Heap):List V->List Value->Prop:=bD C.kh φ.f (aU φ H) h
noncomputable abbrev Cf.Es(C:Cf)(φ:Ph)(H:Hp)(h:Heap):List (List Int×V)->List DictEntry->Prop:=d6 C.kh φ.f (aU φ H) h
noncomputable abbrev Cf.I(C:Cf)(φ:Ph)(H:Hp)(h:Heap):Prop:=HI C.kh C.h₀ φ H h
noncomputable abbrev Cf.wp(C:Cf){α:Type}(A:Around)(t:Sem α)(Q:α->Shared->Prop)(E:Value->Shared->Prop)(s:Shared):Prop:=wpAny (model C.prog C.w) A t Q E s
noncomputable def Cf.Po(C:Cf){α:Type}(φ:Ph)(H:Hp)(s:Shared)(H':Hp)(R:(Ph)->Heap->α->Prop)(Q:α->Shared->Prop):Prop:=
 ∀a a8 h' tk,St φ H s.heap a8 H' h'->C.I a8 H' h'->R a8 h' a->Q a { s with heap:=h',toks:=tk }
theorem Cf.Po.step{C:Cf}{α:Type}{φ ax:Ph}{H H₁ H':Hp}{s:Shared}{ao:Heap}{tk₁:Nat}{R:(Ph)->Heap->α->Prop}{Q:α->Shared->Prop}
  (P:C.Po φ H s H' R Q) (S:St φ H s.heap ax H₁ ao) (I:C.I φ H s.heap) (ah:C.I ax H₁ ao):C.Po ax H₁ { s with heap:=ao,toks:=tk₁ } H' R Q:=
 fun a a8 h' tk S' I' r=>P a a8 h' tk (S.trans S' I ah) I' r
theorem Cf.Po.here{C:Cf}{α:Type}{φ:Ph}{H:Hp}{s:Shared}{R:(Ph)->Heap->α->Prop}{Q:α->Shared->Prop}
  (P:C.Po φ H s H R Q) (I:C.I φ H s.heap) {a:α} (r:R φ s.heap a) (tk:Nat):Q a { s with toks:=tk }:=P a φ s.heap tk (.refl ..) I r
theorem Cf.Po.dS{C:Cf}{α:Type}{φ:Ph}{H:Hp}{s:Shared}{R:(Ph)->Heap->α->Prop}{Q:α->Shared->Prop}
  (P:C.Po φ H s H R Q) (I:C.I φ H s.heap) {a:α} (r:R φ s.heap a):Q a s:=P.here I r s.toks
structure Rm (A:Around) (n:Nat):Prop where
 handled:A.handled=none
 depth:A.depth+n<recursionLimit
 units:A.units+12 * n+200<cLine
theorem Rm.le(r:Rm A n)(h:m<=n):Rm A m:=⟨r.handled,by have:=r.depth;lia,by have:=r.units;lia⟩
theorem Rm.u1(r:Rm A n):A.in1.units<cLine:=by have:=r.units;show A.units+1<cLine;lia
theorem Rm.u(r:Rm A n):A.units<cLine:=by have:=r.units;lia
theorem Rm.JF(r:Rm A n):A.units+64<cLine:=by have:=r.units;lia
noncomputable def Vj(env:Env)(x:Str):NameKind->Prop
 |.local=>env.kindOf x=some .local
 |.cell=>env.kindOf x=some .cell
 |.free=>env.kindOf x=some .free\/env.kindOf x=some .cell
 |.globalImplicit=>env.kindOf x=some .globalImplicit
 |.globalExplicit=>True
structure JJ (c:Cx):Prop where
 cells:∀z,c.names.lookup z=some .cell->∃i,c.vm.lookup z=some i
 plain:∀x i,c.vm.lookup x=some i->(x == ("__classdict__" : Str))=false
 inj:∀x y i,c.vm.lookup x=some i->c.vm.lookup y=some i->x=y
structure ER (C:Cf) (c:Cx) (ρ:ai) (env:Env) (φ:Ph) (H:Hp) (h:Heap):Prop where
 kind:env.scope.kind = .function
 glob:env.globals=mainGlobals
 blt:env.builtins=builtinsNs
 kinds:∀x k,c.names.lookup x=some k->Vj env x k
 loc:∃m,h.Ns env.locals m/\∀x i v,c.names.lookup x=some .local->c.vm.lookup x=some i->cI ρ i=some v->∃val,m x=some val/\C.R φ H h v val
 cell:∀x i,(c.names.lookup x=some .cell\/c.names.lookup x=some .free)->c.vm.lookup x=some i->
  ∃a ov,env.cells.lookup x=some a/\h.IsCell a ov/\φ.fr a/\a≠env.locals/\∀v,cI ρ i=some v->∃val,ov=some val/\C.R φ H h v val
 iu:φ.fr env.locals
 jS:∀x a,env.cells.lookup x=some a->φ.fr a
 inj:∀x y a,env.cells.lookup x=some a->env.cells.lookup y=some a->x=y
 ok:JJ c
theorem i6{h h':Heap}{a:Addr}{m:Str->Option Value}(x:h.Ns a m)(k:∀o,h.get? a=some o->h'.get? a=some o):h'.Ns a m:=nH x fun o es ep e r=>⟨o,es,ep,k _ e,r⟩
theorem mY{h:Heap}{a:Addr}{m:Str->Option Value}(x:h.Ns a m):∃o,h.get? a=some o:=nH x fun o _ _ e _=>⟨o,e⟩
theorem oL{h h':Heap}{a:Addr}{v:Option Value}(x:h.IsCell a v)(k:∀o,h.get? a=some o->h'.get? a=some o):h'.IsCell a v:=ae x fun o e r=>⟨o,k _ e,r⟩
theorem sE{h:Heap}{a:Addr}{v:Option Value}(x:h.IsCell a v):∃o,h.get? a=some o:=ae x fun o e _=>⟨o,e⟩
theorem HD(S:St φ H h a8 H' h')(I:HI kh h₀ φ H h)(f:φ.fr a)(e:h.get? a=some o):h'.get? a=some o:=
 S.keep _ _ e fun u=>by
  exists b6 u,en,m,Z0,q
  try clear u
  exact(I.cC a f).2.1 en m q
theorem ER.step{C:Cf}{c:Cx}{ρ:ai}{env:Env}{φ a8:Ph}{H H':Hp}{h h':Heap}(x:ER C c ρ env φ H h)(S:St φ H h a8 H' h')(I:C.I φ H h):ER C c ρ env a8 H' h':=by
 refine⟨x.kind,x.glob,x.blt,x.kinds,?_,fun y i hy hi=>?_,S.dE _ x.iu,fun y a e=>S.dE _ (x.jS y a e),x.inj,x.ok⟩
 ·exists ae x.loc,m,hn,hm;refine⟨m,i6 hn fun o e=>HD S I x.iu e,fun y i v h1 h2 h3=>?_⟩;exists ae (hm y i v h1 h2 h3),val,e,r;exact⟨val,e,S.vr I r⟩
 ·exists gN (x.cell y i hy hi),a,ov,e1,e2,e3,e4,e5;refine⟨a,ov,e1,oL e2 fun o e=>HD S I e3 e,S.dE _ e3,e4,fun v hv=>?_⟩;exists ae (e5 v hv),val,e,r;exact⟨val,e,S.vr I r⟩
noncomputable def Cf.SE(C:Cf)(n:Nat)(c:Cx)(e:PySem.Expr)(f:ai->Hp->Option (V×Hp)):Prop:=∀A env ρ φ H s v H' Q E,Rm A n->C.I φ H s.heap->ER C c ρ env φ H s.heap->f ρ H=some (v,H')->
 C.Po φ H s H' (fun a8 h' x=>C.R a8 H' h' v x) Q->C.wp A (eval e env) Q E s
noncomputable def Cf.SB(C:Cf)(n:Nat)(c:Cx)(e:PySem.Expr)(f:ai->Hp->Option (V×Hp)):Prop:=∀A env ρ φ H s b H' Q E,Rm A n->C.I φ H s.heap->ER C c ρ env φ H s.heap->f ρ H=some (.bool b,H')->
 C.Po φ H s H' (fun _ _ x=>x=b) Q->C.wp A (isTrue e env (eval e env)) Q E s
noncomputable def Cf.fJ(C:Cf)(n:Nat)(g:CF)(f:Addr):Prop:=∀A φ H s args vals v H' Q E,Rm A n->C.I φ H s.heap->C.Rs φ H s.heap args vals->g args H=some (v,H')->
 C.Po φ H s H' (fun a8 h' x=>C.R a8 H' h' v x) Q->C.wp A (call (.ref f) vals) Q E s
end
section
open PySem PySem.Calls PyProof.Rows PySem.W
theorem ieq_iff(a b:Int):ieq a b=true↔a=b:=by
 induction a using kE with
 |ofNat a=>induction b using kE with
  |ofNat b=>exact⟨fun h=>congrArg Int.ofNat (cY h),fun h=>by rw[Int.ofNat.inj h];exact eu b⟩
  |negSucc b=>exact⟨fun h=>bf h,fun h=>Int.noConfusion h⟩
 |negSucc a=>induction b using kE with
  |ofNat b=>exact⟨fun h=>bf h,fun h=>Int.noConfusion h⟩
  |negSucc b=>exact⟨fun h=>congrArg Int.negSucc (cY h),fun h=>by rw[Int.negSucc.inj h];exact eu b⟩
theorem ieq_eq(a b:Int):ieq a b=decide (a=b):=by
 rw[fT,ieq_iff];simp
theorem ilt_eq:∀(a b:Int),ilt a b=decide (a<b)
 |.ofNat a,.ofNat b=>by
  simp only[ilt,Int.ofNat_eq_natCast];rw[fT];simp [c9];exact Nat.add_one_le_iff
 |.negSucc a,.negSucc b=>by
  simp only[ilt];rw[fT];simp [c9];lia
 |.ofNat a,.negSucc b=>by
  simp only[ilt];rw[fT];simp;exact Int.le.intro_sub (a+b.succ) rfl
 |.negSucc a,.ofNat b=>by
  simp only[ilt];rw[fT];simp;exact(fun{a b}=>Int.compare_eq_gt.mp) rfl
theorem keq_iff(a:List Int):∀(b:List Int),keq a b=true↔a=b:=by
 induction a with
 |nil=>
  intro b
  induction b using aM with
  |nil=>exact⟨fun _=>rfl,fun _=>rfl⟩
  |cons b s=>exact⟨fun h=>bf h,fun h=>absurd h.symm (wc b s)⟩
 |cons a r ih=>
  intro b
  induction b using aM with
  |nil=>exact⟨fun h=>bf h,fun h=>absurd h (wc a r)⟩
  |cons b s=>
   dsimp only[keq]
   induction h:ieq a b using aB with
   |true=>exact⟨fun e=>by rw[(ieq_iff a b).mp h,(ih s).mp e],fun e=>(ih s).mpr (List.cons.inj e).2⟩
   |false=>exact⟨fun e=>bf e,fun e=>by rw[(ieq_iff a b).mpr (List.cons.inj e).1]at h;exact bt h⟩
theorem zU(h:keq a b=false):a≠b:=fun q=>by rw[(keq_iff a b).mpr q]at h;exact bt h
theorem Lr(a:List Nat):∀(b:List Nat),rE a b=true↔a=b:=by
 induction a with
 |nil=>
  intro b
  induction b using aM with
  |nil=>exact⟨fun _=>rfl,fun _=>rfl⟩
  |cons b s=>exact⟨fun h=>bf h,fun h=>absurd h.symm (wc b s)⟩
 |cons a r ih=>
  intro b
  induction b using aM with
  |nil=>exact⟨fun h=>bf h,fun h=>absurd h (wc a r)⟩
  |cons b s=>
   dsimp only[rE]
   induction h:aF a b using aB with
   |true=>exact⟨fun e=>by rw[cY h,(ih s).mp e],fun e=>(ih s).mpr (List.cons.inj e).2⟩
   |false=>exact⟨fun e=>bf e,fun e=>by rw[<- (List.cons.inj e).1,eu]at h;exact bt h⟩
theorem cU(a b:Bool):band a b=true↔a=true/\b=true:=by induction a using aB <;> induction b using aB <;> simp [band]
theorem guard_some{B:Type}{b:Bool}{x:Option B}{y:B}(h:guard' b x=some y):b=true/\x=some y:=by induction b using aB <;> simp_all [guard']
theorem l9{A B:Type}{x:Option A}{f:A->B}{d b:B}(h:oe x f d=b):(∃a,x=some a/\f a=b)\/x=none/\d=b:=by
 induction x using aL with
 |none=>exact .inr ⟨rfl,h⟩
 |some a=>exact .inl ⟨a,rfl,h⟩
theorem ua{A:Type}{l:List A}{a:A}(h:sole l=some a):l=[a]:=by
 induction l using aM with
 |nil=>exact nomatch h
 |cons x r=>induction r using aM with
  |nil=>rw[aH h]
  |cons=>exact nomatch h
theorem oF{A:Type}{l:List A}(h:isNil l=true):l=[]:=by
 induction l using aM with
 |nil=>rfl
 |cons=>exact nomatch h
theorem nn{A:Type}{P:Prop}{a:A}(h:none=some a):P:=nomatch h
theorem bV{A B:Type}{x:Option (A×Hp)}{f:A->Hp->Option B}{y:B}(h:ob x f=some y):∃a H,x=some (a,H)/\f a H=some y:=by
 match x,h with
 |some (a,H),h=>exact⟨a,H,rfl,h⟩
theorem nF{B:Type}{x:Option (V×Hp)}{f:Bool->Hp->Option B}{y:B}(h:cL x f=some y):∃b H,x=some (.bool b,H)/\f b H=some y:=by
 exists aT (bV h),a,H,e,q;clear h;induction a using V.casesOn with
 |bool b=>exact⟨_,H,e,q⟩
 |_=>exact nq q
theorem fI:∀{n:Nat} {e:Ent},look es n=some e->e∈es/\e.id=n:=by
 induction es with
 |nil=>
  intro _ _ h;exact nq h
 |cons x r ih=>
  intro n e h;dsimp only[look]at h
  induction q:aF x.id n using aB with
  |true=>rw[q]at h;exists h;exact⟨.head _,cY q⟩
  |false=>rw[q]at h;have:=ih h;exact⟨.tail _ this.1,this.2⟩
theorem put_ids(es:List Ent):∀(n:Nat) (lk:Bool) (o:bq),(put es n lk o).map (·.id)=es.map (·.id):=by
 induction es with
 |nil=>
  intro _ _ _;exact rfl
 |cons x r ih=>
  intro n lk o;dsimp only[put]
  induction q:aF x.id n using aB with
  |true=>simp [(cY q).symm]
  |false=>simp [ih n lk o]
theorem YA:∀{n:Nat} {lk:Bool} {o:bq} {e:Ent},(es.map (·.id)).Nodup->e∈put es n lk o->(e=⟨n,lk,o⟩/\∃e'∈es,e'.id=n)\/(e∈es/\e.id≠n):=by
 induction es with
 |nil=>
  intro _ _ _ _ _ h;cases h
 |cons x r ih=>
  intro n lk o e N h;rw[aO,ee]at N;have h:e∈(match aF x.id n with
   |true=>(⟨n,lk,o⟩:Ent)::r
   |false=>x::put r n lk o):=h
  induction q:aF x.id n using aB with
  |true=>
   rw[q]at h;have qx:=cY q;clear q;clear ih;rcases aI.mp h with h|h
   ·exact .inl ⟨h,x,.head _,qx⟩
   ·refine .inr ⟨.tail _ h,fun z=>N.1 ?_⟩;rw[qx,<- z];exact cG.mpr ⟨e,h,rfl⟩
  |false=>
   rw[q]at h;have qx:x.id≠n:=fun z=>by rw[z,eu]at q;exact bt q
   clear q;rcases aI.mp h with h|h
   ·clear N;clear ih;subst h;exact .inr ⟨.head _,qx⟩
   ·clear qx;rcases ih N.2 h with⟨a,e',b,c⟩|⟨a,b⟩
    ·exact .inl ⟨a,e',.tail _ b,c⟩
    ·exact .inr ⟨.tail _ a,b⟩
theorem ot:∀{n:Nat} {lk:Bool} {o:bq} {e:Ent},(es.map (·.id)).Nodup->e∈es->(e.id=n->(⟨n,lk,o⟩:Ent)∈put es n lk o)/\(e.id≠n->e∈put es n lk o):=by
 induction es with
 |nil=>
  intro _ _ _ _ _ h;cases h
 |cons x r ih=>
  intro n lk o e N h;rw[aO,ee]at N;dsimp only[put]
  induction q:aF x.id n using aB with
  |true=>
   have qx:=cY q;refine⟨fun _=>.head _,fun z=>?_⟩;clear q N;clear ih;rcases aI.mp h with h|h
   ·subst h;exact absurd qx z
   ·exact .tail _ h
  |false=>
   have qx:x.id≠n:=fun z=>by rw[z,eu]at q;exact bt q
   clear q;rcases aI.mp h with h|h
   ·clear N;clear ih;subst h;exact⟨fun z=>absurd z qx,fun _=>.head _⟩
   ·have this:=ih (n:=n) (lk:=lk) (o:=o) N.2 h;exact⟨fun z=>.tail _ (this.1 z),fun z=>.tail _ (this.2 z)⟩
section
variable {C:Cf} {φ:Ph} {H:Hp} {h h':Heap}
theorem Co(r:C.R φ H h v x)(k:∀b o,h.get? b=some o->h'.get? b=some o):C.R φ H h' v x:=r.mono (fun _ _ e=>e) (fun b o e _=>k b o e) fun _ _ e _=>e
theorem As(r:C.Rs φ H h v x)(k:∀b o,h.get? b=some o->h'.get? b=some o):C.Rs φ H h' v x:=r.mono (fun _ _ e=>e) (fun b o e _=>k b o e) fun _ _ e _=>e
theorem Gz(r:C.Es φ H h v x)(k:∀b o,h.get? b=some o->h'.get? b=some o):C.Es φ H h' v x:=r.mono (fun _ _ e=>e) (fun b o e _=>k b o e) fun _ _ e _=>e
theorem Cf.grow(I:C.I φ H h)(k:∀b o,h.get? b=some o->h'.get? b=some o):C.I φ H h'/\St φ H h φ H h':=by
 refine⟨⟨fun b o e=>k _ _ (I.base b o e),fun e m=>?_,I.nodup,I.inj,I.lt,I.fresh,fun a f=>let ⟨p,q,o,e⟩:=I.cC a f;⟨p,q,o,k _ _ e⟩,I.sys⟩,⟨fun b o e _=>k b o e,fun _ _ e=>e,cx _,fun e m=>⟨e,m,rfl,rfl,fun _=>rfl⟩,fun e m=>.inl ⟨e,m,rfl⟩,fun b o e=>⟨o,k b o e⟩,fun _ e=>e,fun _ e=>.inl e⟩⟩;exists b6 (I.objs e m),a,e1,e2,e3;refine⟨a,e1,e2,?_⟩;revert e3;clear e2 e1 m I;induction e.obj using Internal.bq.casesOn with
 |list l=>rintro ⟨vs,n,g,r⟩;exact⟨vs,n,k _ _ g,As r k⟩
 |dict l=>rintro ⟨vs,n,g,r,d⟩;exact⟨vs,n,k _ _ g,Gz r k,d⟩
theorem Nu(k:∀b o,h.get? b=some o->h'.get? b=some o)(e:h'.get? D=none):h.get? D=none:=by
 induction q:h.get? D using aL with
 |none=>rfl
 |some o=>rw[k _ _ q]at e;exact ns e
noncomputable def eo(φ:Ph)(n:Nat)(D:Addr):Ph:=⟨fun m=>if m=n then some D else φ.f m,φ.fr⟩
noncomputable def we(C:Cf)(φ:Ph)(H:Hp)(h h':Heap)(o:bq)(a:Addr):Prop:=match o with
 |.list l=>∃vs n,h'.get? a=some (f9 vs n)/\C.Rs φ H h l vs
 |.dict l=>∃es n,h'.get? a=some (cX es n)/\C.Es φ H h l es/\(l.map (·.1)).Nodup
theorem AQ(I:C.I φ H h)(n:Nat)(a:Addr)(e:φ.f n=some a):(eo φ H.nxt D).f n=some a:=by
 unfold eo;dsimp only;rw[if_neg]
 ·exact e
 ·rintro rfl;rw[I.fresh _ (cx _)]at e;exact nq e
theorem HL:(eo φ H.nxt D).f H.nxt=some D:=by unfold eo;dsimp only;rw[if_pos rfl]
theorem DP(I:C.I φ H h)(e:Ent)(m:e∈H.es):(eo φ H.nxt D).f e.id=φ.f e.id:=by unfold eo;dsimp only;rw[if_neg (eV (I.lt e m))]
theorem wG(I:C.I φ H h)(hD:h.get? D=none)(b:Addr)(o':Obj)(m:aU (eo φ H.nxt D) (newObj H o).2 b)(g:h.get? b=some o'):aU φ H b:=by
 rcases m with⟨e,m,q⟩|q
 ·rcases aI.mp m with rfl|m
  ·rw[HL]at q;clear m I;exists q;rw[hD]at g;exact nq g
  ·exact .inl ⟨e,m,by rw[<- DP I e m];exact q⟩
 ·exact .inr q
theorem ZE(r:OR kh f M h o D)(g:h.get? D=none):False:=by
 induction o using Internal.bq.casesOn with
 |list l=>exists aT r,Z0,Z0,e,Z0;rw[g]at e;exact nq e
 |dict l=>exists cB r,Z0,Z0,e,Z0,Z0;rw[g]at e;exact nq e
theorem Gj(r:OR kh f M h o D)(kD:∀o,h.get? D=some o->h'.get? D=some o)(hl:∀l vs,bD kh f M h l vs->bD kh f' M' h' l vs)(hd:∀l vs,d6 kh f M h l vs->d6 kh f' M' h' l vs):OR kh f' M' h' o D:=by
 induction o using Internal.bq.casesOn with
 |list l=>exact aT r fun vs n e r=>⟨vs,n,kD _ e,hl _ _ r⟩
 |dict l=>exact cB r fun vs n e r d=>⟨vs,n,kD _ e,hd _ _ r,d⟩
theorem Cf.JB(I:C.I φ H h)(k:∀b o,h.get? b=some o->h'.get? b=some o)(hD:h.get? D=none)(hb:C.h₀.get? D=none)(r:OR C.kh (eo φ H.nxt D).f (aU (eo φ H.nxt D) (newObj H o).2) h' o D) :
  C.I (eo φ H.nxt D) (newObj H o).2 h'/\St φ H h (eo φ H.nxt D) (newObj H o).2 h'/\C.R (eo φ H.nxt D) (newObj H o).2 h' (newObj H o).1 (.ref D):=by
 have hx:=AQ I (D:=D);have dJ:(eo φ H.nxt D).f H.nxt=some D:=HL;have hold:=DP I (D:=D);have hM:=wG I hD (o:=o);refine⟨⟨fun b o e=>k _ _ (I.base b o e),fun e m=>?_,?_,fun e m e' m' q=>?_,fun e m=>?_,fun n hn=>?_,fun a f=>?_,I.sys⟩,⟨fun b o e _=>k b o e,hx,eZ _,fun e m=>⟨e,.tail _ m,rfl,rfl,fun _=>rfl⟩,fun e m=>?_,fun b o e=>⟨o,k b o e⟩,fun _ e=>e,fun _ e=>.inl e⟩,.ref dJ⟩
 ·clear hD;rcases aI.mp m with rfl|m
  ·exact⟨D,dJ,hb,r⟩
  ·exact b6 (I.objs e m) fun a e1 e2 e3=>⟨a,(hold e m).trans e1,e2,Gj e3 (k a) (fun _ _ r=>r.mono hx (fun b o e _=>k b o e) hM) (fun _ _ r=>r.mono hx (fun b o e _=>k b o e) hM)⟩
 ·exact ee.mpr ⟨fun m=>ae (cG.mp m) fun e m q=>lg _ (q▸I.lt e m),I.nodup⟩
 ·have old:∀e∈H.es,(eo φ H.nxt D).f e.id=some D->False:=fun e m q=>b6 (I.objs e m) fun a e1 _ e3=>by
   rw[hold e m,e1]at q;exact ZE e3 (aH q▸hD)
  clear hM hx r hb hD k;rcases aI.mp m with rfl|m <;> rcases aI.mp m' with rfl|m'
  ·rfl
  ·exact(old e' m' (q.symm.trans dJ)).elim
  ·exact(old e m (q.trans dJ)).elim
  ·exact I.inj e m e' m' (by rw[hold e m,hold e' m']at q;exact q)
 ·clear hM hold dJ hx r hb hD k;rcases aI.mp m with rfl|m
  ·exact Nat.lt_succ_self _
  ·exact Nat.lt_succ_of_lt (I.lt e m)
 ·have h1:H.nxt+1<=n:=hn;unfold eo;dsimp only;rw[if_neg (Nat.ne_of_lt' hn)];exact I.fresh n (fh hn)
 ·exists dr (I.cC a f),p,q,g;refine⟨p,fun e m=>?_,aD g fun o g=>⟨o,k _ _ g⟩⟩;clear p f hM hx r hb k I;rcases aI.mp m with rfl|m
  ·rw[dJ];intro z;clear m q hold dJ;exists z;exact aD g fun o g=>nq (hD.symm.trans g)
  ·rw[hold e m];exact q e m
 ·clear hM hold hx r hb k I;rcases aI.mp m with rfl|m
  ·exact .inr fun a ha=>aH (dJ.symm.trans ha)▸hD
  ·exact .inl ⟨e,m,rfl⟩
theorem Cf.fresh(I:C.I φ H h)(k:∀b o,h.get? b=some o->h'.get? b=some o)(hD:h.get? D=none)(r:we C φ H h h' o D) :
  C.I (eo φ H.nxt D) (newObj H o).2 h'/\St φ H h (eo φ H.nxt D) (newObj H o).2 h'/\C.R (eo φ H.nxt D) (newObj H o).2 h' (newObj H o).1 (.ref D):=by
 have hb:C.h₀.get? D=none:=by
  clear r k;induction q:C.h₀.get? D using aL with
  |none=>rfl
  |some o'=>rw[I.base _ _ q]at hD;exact nq hD.symm
 refine C.JB I k hD hb ?_;clear hb;induction o using Internal.bq.casesOn with
 |list l=>exact aT r fun vs n g r=>⟨vs,n,g,r.mono (AQ I) (fun b o e _=>k b o e) (wG I hD)⟩
 |dict l=>exact cB r fun vs n g r d=>⟨vs,n,g,r.mono (AQ I) (fun b o e _=>k b o e) (wG I hD),d⟩
theorem look_none:∀{n:Nat},look es n=none->∀e∈es,e.id≠n:=by
 induction es with
 |nil=>
  intro _ _ _ m;cases m
 |cons x r ih=>
  intro n h e m;dsimp only[look]at h
  induction q:aF x.id n using aB with
  |true=>rw[q]at h;exact ns h
  |false=>
   rw[q]at h;rcases aI.mp m with rfl|m
   ·rintro rfl;rw[eu]at q;exact bt q
   ·exact ih h e m
set_option tactic.hygienic true in
theorem qa(e:own H v=some (n,o)):v = .ref n/\(⟨n,false,o⟩:Ent)∈H.es:=by
 induction v using V.casesOn with
 |ref k=>
  exists ml e,f,hl,e
  ·exists ak (fI hl),m,i;clear hl;obtain⟨a,b,c⟩:=f
   induction b using aB with
   |true=>exact nq e
   |false=>
    injection (aH e)with e1 e2
    subst e1 e2 i;exact⟨rfl,m⟩
 |_=>exact nq e
theorem aaC(r:we C φ H h h' o D):∃ob,h'.get? D=some ob:=by
 induction o using Internal.bq.casesOn with
 |list l=>exact aT r fun _ _ e _=>⟨_,e⟩
 |dict l=>exact cB r fun _ _ e _ _=>⟨_,e⟩
theorem aaN(r:we C φ H h h' o D)(hl:∀l vs,C.Rs φ H h l vs->bD C.kh f' M' h' l vs)(hd:∀l vs,C.Es φ H h l vs->d6 C.kh f' M' h' l vs):OR C.kh f' M' h' o D:=by
 induction o using Internal.bq.casesOn with
 |list l=>exact aT r fun vs n e r=>⟨vs,n,e,hl _ _ r⟩
 |dict l=>exact cB r fun vs n e r d=>⟨vs,n,e,hd _ _ r,d⟩
theorem J9{es:List Ent}{n:Nat}{lk:Bool}{o:bq}{e:Ent}{P:Prop}(N:(es.map (·.id)).Nodup)(me:e∈put es n lk o)(k1:∀e',e'∈es->e'.id=n->e=⟨n,lk,o⟩->P)(k2:e∈es->e.id≠n->P):P:=
 (YA N me).elim (fun q=>q.2.elim fun e' r=>k1 e' r.1 r.2 q.1) fun q=>k2 q.1 q.2
theorem Cf.upd(I:C.I φ H h){n:Nat}{o o':bq}(m:(⟨n,false,o⟩:Ent)∈H.es){a:Addr}(ha:φ.f n=some a)(k:∀b ob,b≠a->h.get? b=some ob->h'.get? b=some ob)(r:we C φ H h h' o' a) :
  C.I φ (setObj H n o') h'/\St φ H h φ (setObj H n o') h':=by
 have f:∀e,e∈(setObj H n o').es->∃wU∈H.es,wU.id=e.id:=fun e me=>J9 I.nodup me (fun e' m' i z=>⟨e',m',by rw[z];exact i⟩) fun me _=>⟨e,me,rfl⟩;have BE:∀b,aU φ (setObj H n o') b->aU φ H b:=fun b q=>q.imp (fun q=>ae q fun e me q=>ae (f e me) fun wU OW i=>⟨wU,OW,by rw[i];exact q⟩) id;have ma:aU φ H a:=.inl ⟨_,m,ha⟩;have kk:∀b ob,h.get? b=some ob->¬ aU φ H b->h'.get? b=some ob:=fun b ob e q=>k b ob (fun z=>q (z▸ma)) e;have iz:∀v x,C.Rs φ H h v x->C.Rs φ (setObj H n o') h' v x:=fun v x r=>r.mono (fun _ _ e=>e) kk fun b _ q _=>BE b q;have mT:∀v x,C.Es φ H h v x->C.Es φ (setObj H n o') h' v x:=fun v x r=>r.mono (fun _ _ e=>e) kk fun b _ q _=>BE b q;exists ae (I.objs _ m),a',fH,q;have hb:C.h₀.get? a=none:=aH (fH.symm.trans ha)▸q.1;clear fH q;have hg:=aaC r;refine⟨⟨fun b ob e=>k _ _ (fun z=>by rw[z,hb]at e;exact nq e) (I.base b ob e),fun e me=>?_,by show((put H.es n false o').map (·.id)).Nodup;rw[put_ids];exact I.nodup,fun e me e' X0 q=>?_,fun e me=>?_,I.fresh,fun b f0=>?_,I.sys⟩,
  ⟨fun b ob e u=>k b ob (fun z=>u (z▸⟨_,m,rfl,ha⟩)) e,fun _ _ e=>e,cx _,fun e me=>?_,fun e me=>?_,fun b ob e=>?_,fun _ e=>e,fun _ e=>.inl e⟩⟩
 ·refine J9 I.nodup me (fun _ _ _ z=>?_) fun me bN=>?_
  ·rw[z];exact⟨a,ha,hb,aaN r iz mT⟩
  ·exact b6 (I.objs e me) fun b e1 e2 e3=>⟨b,e1,e2,Gj e3 (fun o g=>k b o (fun z=>bN (I.inj e me _ m (by rw[e1,z];exact ha.symm))) g) iz mT⟩
 ·refine ae (f e me) fun x mx ix=>ae (f e' X0) fun y my iy=>?_;rw[<- ix,<- iy]at q ⊢;exact I.inj x mx y my q
 ·exact ae (f e me) fun x mx ix=>ix▸I.lt x mx
 ·refine dr (I.cC b f0) fun p q g=>⟨p,fun e me=>?_,aD g fun o2 g=>⟨o2,k _ _ (fun z=>q _ m (by rw[z];exact ha)) g⟩⟩;exact ae (f e me) fun x mx ix=>ix▸q x mx
 ·by_cases q:e.id=n
  ·have:=iq I.nodup me m q;clear q hg hb mT iz kk ma BE f r k ha m;subst this;exact⟨_,(ot I.nodup me).1 rfl,rfl,rfl,fun z=>bf z⟩
  ·exact⟨e,(ot I.nodup me).2 q,rfl,rfl,fun _=>rfl⟩
 ·exact .inl (ae (f e me) fun x mx ix=>⟨x,mx,ix⟩)
 ·by_cases q:b=a
  ·rw[q];exact hg
  ·exact⟨ob,k b ob q e⟩
theorem Kx(es:List Ent)(v:V):(cN es v).map (·.id)=es.map (·.id):=by
 induction v using Internal.V.casesOn with
 |ref n=>
  unfold cN;dsimp only
  induction look es n using aL with
  |some e=>exact put_ids ..
  |none=>rfl
 |_=>rfl
theorem ki(vs:List V):∀(es:List Ent),(mG es vs).map (·.id)=es.map (·.id):=by
 induction vs with
 |nil=>exact fun _=>rfl
 |cons v r ih=>exact fun es=>(ih (cN es v)).trans (Kx es v)
theorem U4(v:V)(N:(es.map (·.id)).Nodup)(e:Ent)(m:e∈es):∃e'∈cN es v,e'.id=e.id/\e'.obj=e.obj/\(e.lock=true->e'.lock=true)/\(v = .ref e.id->e'.lock=true)/\(v ≠ .ref e.id->e'.lock=e.lock):=by
 induction v using Internal.V.casesOn with
 |ref n=>
  unfold cN;dsimp only
  induction hl:look es n using aL with
  |none=>exact⟨e,m,rfl,rfl,id,fun z=>absurd (V.ref.inj z).symm (look_none hl e m),fun _=>rfl⟩
  |some x=>
   exists ak (fI hl),mx,ix;by_cases q:e.id=n
   ·have ex:=iq N m mx (q.trans ix.symm);exact⟨_,(ot N m).1 q,q.symm,by rw[ex],fun _=>rfl,fun _=>rfl,fun z=>absurd (congrArg V.ref q.symm) z⟩
   ·exact⟨e,(ot N m).2 q,rfl,rfl,id,fun z=>absurd (V.ref.inj z).symm q,fun _=>rfl⟩
 |_=>exact⟨e,m,rfl,rfl,id,fun z=>V.noConfusion z,fun _=>rfl⟩
theorem sJ(vs:List V):∀(es:List Ent),(es.map (·.id)).Nodup->∀e∈es,∃e'∈mG es vs,e'.id=e.id/\e'.obj=e.obj/\(e.lock=true->e'.lock=true)/\(.ref e.id∈vs->e'.lock=true)/\(.ref e.id ∉ vs->e'.lock=e.lock):=by
 induction vs with
 |nil=>exact fun es _ e m=>⟨e,m,rfl,rfl,id,fun q=>(nomatch q),fun _=>rfl⟩
 |cons v r ih=>
  intro es N e m;exists oJ (U4 v N e m),e1,m1,i1,o1,a1,b1,c1;exists oJ (ih (cN es v) (by rw[Kx];exact N) e1 m1),e2,m2,i2,o2,a2,b2,c2;rw[i1]at b2 c2;exact⟨e2,m2,i2.trans i1,o2.trans o1,fun z=>a2 (a1 z),fun q=>(aI.mp q).elim (fun z=>a2 (b1 z.symm)) b2,fun q=>(c2 fun z=>q (.tail _ z)).trans (c1 fun z=>q (z▸.head _))⟩
theorem iD{l l':List Ent}(e:l'.map (·.id)=l.map (·.id)){x:Ent}(m:x∈l'):∃y∈l,y.id=x.id:=by
 have:x.id∈l.map (·.id):=e▸cG.mpr ⟨x,m,rfl⟩;exists ae (cG.mp this),y,my,q;exact⟨y,my,q⟩
theorem AM(N:(H.es.map (·.id)).Nodup)(vs:List V):∀e'∈(lockH H vs).es,∃e∈H.es,e.id=e'.id/\e.obj=e'.obj/\(e'.lock=false->e.lock=false):=by
 intro e' m';exists ae (iD (ki vs H.es) m'),e,m,i;exists mC (sJ vs H.es N e m),e2,m2,h1,h2,h3,Z0;have N':((mG H.es vs).map (·.id)).Nodup:=by rw[ki];exact N
 have:e2=e':=iq N' m2 m' (h1.trans i);clear N' h1 m2 m' N;subst this;refine⟨e,m,i,h2.symm,fun q=>?_⟩;clear i h2 m;induction z:e.lock using aB with
 |false=>rfl
 |true=>rw[h3 z]at q;exact bt q
theorem DA(dU es:List Ent)(v:V):(gT dU es v).map (·.id)=es.map (·.id):=by
 induction v using Internal.V.casesOn with
 |ref n=>
  unfold gT;dsimp only
  induction look dU n using aL with
  |none=>rfl
  |some e=>induction look es n using aL with
   |none=>rfl
   |some f=>exact put_ids ..
 |_=>rfl
theorem xJ(dU:List Ent)(vs:List V):∀(es:List Ent),(eD dU es vs).map (·.id)=es.map (·.id):=by
 induction vs with
 |nil=>exact fun _=>rfl
 |cons v r ih=>exact fun es=>(ih (gT dU es v)).trans (DA dU es v)
theorem N0(v:V)(AJ:(dU.map (·.id)).Nodup)(N:(es.map (·.id)).Nodup)(e:Ent)(m:e∈es):∃e'∈gT dU es v,e'.id=e.id/\e'.obj=e.obj/\∀x∈dU,x.id=e.id->(v = .ref e.id\/e.lock=x.lock)->e'.lock=x.lock:=by
 induction v using Internal.V.casesOn with
 |ref n=>
  unfold gT;dsimp only
  induction h0:look dU n using aL with
  |none=>exact⟨e,m,rfl,rfl,fun x mx ix q=>q.elim (fun z=>absurd (ix.trans (V.ref.inj z).symm) (look_none h0 x mx)) id⟩
  |some x₀=>
   exists ak (fI h0),Qk,NF;clear h0;induction hl:look es n using aL with
   |none=>exact⟨e,m,rfl,rfl,fun x _ _ q=>q.elim (fun z=>absurd (V.ref.inj z).symm (look_none hl e m)) id⟩
   |some f=>
    exists ak (fI hl),mf,jf;by_cases q:e.id=n
    ·have ef:=iq N m mf (q.trans jf.symm);exact⟨_,(ot N m).1 q,q.symm,by rw[ef],fun x mx ix _=>by rw[iq AJ mx Qk ((ix.trans q).trans NF.symm)]⟩
    ·exact⟨e,(ot N m).2 q,rfl,rfl,fun x _ _ z=>z.elim (fun z=>absurd (V.ref.inj z).symm q) id⟩
 |_=>exact⟨e,m,rfl,rfl,fun x _ _ q=>q.elim (fun z=>V.noConfusion z) id⟩
theorem IW(dU:List Ent)(AJ:(dU.map (·.id)).Nodup)(vs:List V):∀(es:List Ent),(es.map (·.id)).Nodup->∀e∈es,∃e'∈eD dU es vs,e'.id=e.id/\e'.obj=e.obj/\
  (∀x∈dU,x.id=e.id->(.ref e.id∈vs\/e.lock=x.lock)->e'.lock=x.lock):=by
 induction vs with
 |nil=>exact fun es _ e m=>⟨e,m,rfl,rfl,fun x _ _ q=>q.elim (fun z=>nomatch z) id⟩
 |cons v r ih=>
  intro es N e m;exists dw (N0 v AJ N e m),e1,m1,i1,o1,c1;exists dw (ih (gT dU es v) (by rw[DA];exact N) e1 m1),e2,m2,i2,o2,c2;rw[i1]at c2;exact⟨e2,m2,i2.trans i1,o2.trans o1,fun x mx ix q=>c2 x mx ix (q.elim (fun q=>(aI.mp q).elim (fun z=>.inr (c1 x mx ix (.inl z.symm))) .inl) fun q=>.inr (c1 x mx ix (.inr q)))⟩
theorem B6{H H':Hp}(e:H'.es.map (·.id)=H.es.map (·.id)){a:Addr}(m:aU φ H' a):aU φ H a:=by
 rcases m with⟨x,mx,q⟩|q
 ·exists ae (iD e mx),y,my,i;exact .inl ⟨y,my,by rw[i];exact q⟩
 ·exact .inr q
theorem Cf.flags{H':Hp}(I:C.I φ H h)(hn:H'.nxt=H.nxt)(hi:H'.es.map (·.id)=H.es.map (·.id))(ho:∀e'∈H'.es,∃e∈H.es,e.id=e'.id/\e.obj=e'.obj):C.I φ H' h:=by
 have hm:∀b,aU φ H' b->aU φ H b:=fun b=>B6 hi;refine⟨I.base,fun e' m'=>?_,by rw[hi];exact I.nodup,fun x mx y my q=>?_,fun e m=>?_,fun n q=>I.fresh n (hn▸q),fun a f=>?_,I.sys⟩
 ·exists b6 (ho e' m'),e,m,i,o;exists b6 (I.objs e m),a,e1,e2,e3;refine⟨a,i▸e1,e2,?_⟩;rw[<- o];revert e3;clear e2 e1 o i m m' ho hi hn I;induction e.obj using Internal.bq.casesOn with
  |list l=>rintro ⟨vs,n,g,r⟩;exact⟨vs,n,g,r.mono (fun _ _ e=>e) (fun b o e _=>e) fun b _ q _=>hm b q⟩
  |dict l=>rintro ⟨vs,n,g,r,d⟩;exact⟨vs,n,g,r.mono (fun _ _ e=>e) (fun b o e _=>e) (fun b _ q _=>hm b q),d⟩
 ·exists ae (iD hi mx),x',r8,ix;exists ae (iD hi my),y',OB,iy;rw[<- ix,<- iy]at q ⊢;exact I.inj x' r8 y' OB q
 ·exists ae (iD hi m),x',r8,ix;rw[hn,<- ix];exact I.lt x' r8
 ·clear hm ho hn;obtain⟨p,q,o2,g⟩:=I.cC a f;refine⟨p,fun e m=>?_,o2,g⟩;exists ae (iD hi m),x',r8,ix;rw[<- ix];exact q x' r8
theorem Cf.zy(I:C.I φ H h)(vs:List V):C.I φ (lockH H vs) h:=
 C.flags I rfl (ki vs H.es) fun e' m'=>dw (AM I.nodup vs e' m') fun e m i o _=>⟨e,m,i,o⟩
theorem AR(vs:List V)(a:Addr):aU φ (lockH H vs) a↔aU φ H a:=⟨B6 (ki vs H.es),B6 (ki vs H.es).symm⟩
theorem kR(vs:List V)(r:C.R φ H h v x):C.R φ (lockH H vs) h v x:=r.mono (fun _ _ e=>e) (fun _ _ e _=>e) fun _ _ q _=>(AR vs _).mp q
theorem Ir(e:unlH es vs r=some H'):∃H₁,r=some H₁/\H'=⟨H₁.nxt,eD es H₁.es vs⟩:=by
 induction r using aL with
 |none=>exact nq e
 |some H₁=>exact⟨H₁,rfl,(aH e).symm⟩
theorem wq(I:C.I φ H h)(hD:h.get? D=none):¬ aU φ H D:=by
 rintro (⟨e,me,q⟩|q)
 ·exists b6 (I.objs e me),a',e1,e2,e3;rw[q]at e1;exists e1;revert e3;clear e2 q me I;induction e.obj using Internal.bq.casesOn with
  |list l=>rintro ⟨_,_,g,_⟩;rw[hD]at g;exact nq g
  |dict l=>rintro ⟨_,_,g,_⟩;rw[hD]at g;exact nq g
 ·obtain⟨_,_,o,g⟩:=I.cC D q;rw[hD]at g;exact nq g
theorem cA(h:Heap):h.get? h.objs.size=none:=by
 induction q:h.get? h.objs.size using aL with
 |none=>rfl
 |some o=>exact absurd (Heap.lt_size q) (lg _)
end
end
section
open PySem PySem.Calls PyProof.Rows PySem.W
section
variable {C:Cf} {φ:Ph} {H:Hp} {h:Heap}
theorem xB(I:C.I φ H h)(e:C.h₀.get? a=none):a≠sysModules:=fun q=>by
 exists aD I.sys,o,z;rw[q,z]at e;exact ns e
theorem gk(I:C.I φ H h)(r:C.R φ H h v x)(e:listView H v=some l):∃a vs n,x = .ref a/\h.get? a=some (f9 vs n)/\C.Rs φ H h l vs:=by
 cases r with
 |none=>exact nq e
 |bool=>exact nq e
 |int=>exact nq e
 |str=>exact nq e
 |tup=>exact nq e
 |dct=>exact nq e
 |@lst a l' vs n hg hm rs=>exists e;exact⟨a,vs,n,rfl,hg,rs⟩
 |@ref k a hk=>
  unfold listView at e;dsimp only at e;exists ml e,en,hl,e
  ·exists ak (fI hl),m,i;exists b6 (I.objs en m),b,e1,e2,e3;rw[i,hk]at e1;exists e1;revert e3 e;clear e2 i m hl hk I;clear e;induction en.obj using Internal.bq.casesOn with
   |list l'=>rintro e ⟨vs,n,g,r⟩;exists e;exact⟨_,vs,n,rfl,g,r⟩
   |dict l'=>intro e;exact nq e
theorem qS(I:C.I φ H h)(r:C.R φ H h v x)(e:dictView H v=some l):∃a es n,x = .ref a/\h.get? a=some (cX es n)/\C.Es φ H h l es/\(l.map (·.1)).Nodup/\a≠sysModules:=by
 cases r with
 |none=>exact nq e
 |bool=>exact nq e
 |int=>exact nq e
 |str=>exact nq e
 |tup=>exact nq e
 |lst=>exact nq e
 |@dct a l' vs n hg hz hm rs nd=>exists e;exact⟨a,vs,n,rfl,hg,rs,nd,hz⟩
 |@ref k a hk=>
  unfold dictView at e;dsimp only at e;exists ml e,en,hl,e
  ·exists ak (fI hl),m,i;exists b6 (I.objs en m),b,e1,e2,e3;rw[i,hk]at e1;exists e1;revert e3 e;clear i m hl hk;clear e;induction en.obj using Internal.bq.casesOn with
   |list l'=>intro e;exact nq e
   |dict l'=>rintro e ⟨vs,n,g,r,d⟩;exists e;exact⟨_,vs,n,rfl,g,r,d,xB I e2⟩
theorem q8(I:C.I φ H h)(r:C.R φ H h v x)(e:seqView H v=some l) :
  ∃a vs n,x = .ref a/\(h.get? a=some (dc vs n)\/h.get? a=some (f9 vs n))/\C.Rs φ H h l vs:=by
 cases r with
 |none=>exact nq e
 |bool=>exact nq e
 |int=>exact nq e
 |str=>exact nq e
 |dct=>exact nq e
 |@tup a l' vs n hg hm rs=>exists e;exact⟨a,vs,n,rfl,.inl hg,rs⟩
 |@lst a l' vs n hg hm rs=>
  exists dA (gk I (.lst hg hm rs) e),a,vs,n,e1,e2,e3;exact⟨a,vs,n,e1,.inr e2,e3⟩
 |@ref n a hk=>
  exists dA (gk I (.ref hk) e),a,vs,n,e1,e2,e3;exact⟨a,vs,n,e1,.inr e2,e3⟩
theorem int_at(r:C.R φ H h (.int i) x):∃t,x = .int i t:=by cases r;exact⟨_,rfl⟩
theorem qL(r:C.R φ H h (.bool i) x):x = .bool i:=by cases r;rfl
set_option tactic.hygienic true in
theorem gp(r:C.R φ H h (.tup l) x):∃a vs n,x = .ref a/\h.get? a=some (dc vs n)/\¬ aU φ H a/\C.Rs φ H h l vs:=by
 cases r;rename_i a vs n e m r;exact⟨a,vs,n,rfl,e,m,r⟩
theorem dR{A:Type}{l:List A}(e:lenOk l=true):l.length<=1000000:=bC e
theorem jl(h:n<=1000000):n<=sizeLine:=br h dq
mutual
noncomputable def bE:V->PyData
 |.none=>.none
 |.bool b=>.bool b
 |.int i=>.int i
 |.str s=>.str ⟨s.toArray⟩
 |.tup l=>.tuple (pyVs l)
 |.lst l=>.list (pyVs l)
 |.dct _=>.dict []
 |.ref _=>.dict []
noncomputable def pyVs:List V->List PyData
 |[]=>[]
 |v::l=>bE v::pyVs l
end
theorem TY:∀{l:List Nat},codesOk l=true->PyData.strOk ⟨l.toArray⟩=true:=by
 intro l h;have:∀{l:List Nat},codesOk l=true->∀x∈l,x<1114112:=by
  intro l;clear h;induction l with
  |nil=>intro _ x hx;cases hx
  |cons a r ih=>
   intro h x hx;dsimp only[codesOk]at h
   induction q:c9 a 1114112 using aB with
   |true=>
    rw[q]at h;rcases aI.mp hx with rfl|hx
    ·exact bC q
    ·exact ih h x hx
   |false=>rw[q]at h;exact bf h
 unfold PyData.strOk;simp only[dY,List.all_toArray',List.all_eq_true,decide_eq_true_eq];exact this h
set_option tactic.hygienic true in
theorem Au(I:C.I φ H h)(n:Nat)(ih:∀v v' x,res H n v=some v'->C.R φ H h v x->∃as,Reads h x (bE v') as/\(bE v').canLay0=true/\(bE v').depth<=n) :
  ∀(l l':List V) (vs:List Value),resL (res H n) l=some l'->C.Rs φ H h l vs->∃as,ReadsAll h vs (pyVs l') as/\PyData.canLayAll0 (pyVs l')=true/\PyData.depthAll (pyVs l')<=n:=by
 intro l
 induction l with
 |nil=>
  intro l' vs e r
  (clear ih I;exists e);cases r
  exact⟨_,.nil,rfl,f6 _⟩
 |cons v l oT=>
  intro l' vs e r;cases r with
  |cons r1 r2=>
   dsimp only[resL]at e;split at e
   ·rename_i b hb;exists g5 e,s,hs,e
    ·exists e;exists b6 (ih _ _ _ hb r1),as,q1,q2,q3;exists b6 (oT _ _ hs r2),bs,p1,p2,p3;refine⟨_,.cons q1 p1,?_,?_⟩
     ·show(PyData.canLay0 _ && PyData.canLayAll0 _)=true;rw[q2,p2];rfl
     ·show max _ _<=n;exact Nat.max_le_of_le_of_le q3 p3
   ·exact nq e
theorem Hl(e:mkT x=some v):∃l,x=some l/\v = .tup l:=by induction x using aL <;> cases e;exact⟨_,rfl,rfl⟩
theorem Cb(e:mkL x=some v):∃l,x=some l/\v = .lst l:=by induction x using aL <;> cases e;exact⟨_,rfl,rfl⟩
set_option tactic.hygienic true in
theorem jN(I:C.I φ H h):∀(n:Nat) (v v':V) (x:Value),res H n v=some v'->C.R φ H h v x->∃as,Reads h x (bE v') as/\(bE v').canLay0=true/\(bE v').depth<=n:=by
 intro n
 induction n with
 |zero=>intro v v' x e;exact nq e
 |succ n ih=>
  intro v v' x e r;dsimp only[res]at e;have lists:∀{l l':List V} {a:Addr} {vs:List Value} {k:Nat},resL (res H n) l=some l'->C.Rs φ H h l vs->h.get? a=some (f9 vs k)->
    ∃as,Reads h (.ref a) (bE (.lst l')) as/\(bE (.lst l')).canLay0=true/\(bE (.lst l')).depth<=n+1:=by
   intro l l' a vs k e r g;exists b6 (Au I n ih _ _ _ e r),as,q1,q2,q3;refine⟨_,.list g rfl rfl (by simpa using q1),q2,?_⟩;show PyData.depthAll _+1<=n+1;exact Nat.add_le_add_right q3 1
  cases r with
  |none=>exists e;exact⟨_,.none,rfl,f6 _⟩
  |bool b=>exists e;exact⟨_,.bool b,rfl,f6 _⟩
  |int i t=>exists e;exact⟨_,.int i t,rfl,f6 _⟩
  |str y t=>
   exists ak (guard_some e),q,e
   (clear lists ih I;exists e)
   have:=TY q;exact⟨[],.str y t,this,f6 _⟩
  |tup g m rs=>
   exists ae (Hl e),l',e1,Bc;clear e m lists;subst Bc;exists b6 (Au I n ih _ _ _ e1 rs),as,q1,q2,q3;refine⟨_,.tuple g rfl rfl (by simpa using q1),q2,?_⟩;show PyData.depthAll _+1<=n+1;exact Nat.add_le_add_right q3 1
  |lst g m rs=>
   exists ae (Cb e),l',e1,Wr;clear e m ih I;subst Wr;exact lists e1 rs g
  |dct=>exact nq e
  |ref hk=>
   rename_i k a;dsimp only at e;unfold resR at e;split at e
   ·rename_i en hl;exists ak (fI hl),m,i;exists b6 (I.objs en m),b,e1,e2,e3;rw[i,hk]at e1;exists e1;revert e3 e;clear e2 i m hl hk ih I;induction en.obj using Internal.bq.casesOn with
    |list l'=>
     rintro e ⟨vs,n',g,r⟩;exists ae (Cb e),l'',e1,SK;clear e;subst SK;exact lists e1 r g
    |dict l'=>intro e;exact nq e
   ·exact nq e
theorem HC(n:Nat)(ih:∀a b,(bE a).depth<=n->teq (n+1) a b=PyData.eqv (bE a) (bE b))(x:List V):∀(y:List V),PyData.depthAll (pyVs x)<=n->gv (teq (n+1)) x y=PyData.eqvAll (pyVs x) (pyVs y):=by
 induction x with
 |nil=>intro y _;induction y using aM <;> rfl
 |cons a x Em=>
  intro y hd
  induction y using aM with
  |nil=>rfl
  |cons b y=>
   have kB:max (bE a).depth (PyData.depthAll (pyVs x))<=n:=hd;show(match teq (n+1) a b with|true=>gv (teq (n+1)) x y|false=>false)=(PyData.eqv (bE a) (bE b) && PyData.eqvAll (pyVs x) (pyVs y))
   rw[ih a b (br (Nat.le_max_left ..) kB),Em y (br (Nat.le_max_right ..) kB)];clear kB hd ih Em;induction PyData.eqv (bE a) (bE b)using aB <;> rfl
theorem beq'_eq(a b:Bool):beq' a b=(a == b):=by induction a using aB <;> induction b using aB <;> rfl
theorem strs_eq(x y:List Nat):rE x y=((⟨x.toArray⟩:Str) == ⟨y.toArray⟩):=by
 rw[fT,Lr];simp
set_option tactic.hygienic true in
theorem qc:∀(n:Nat) (a b:V),(bE a).depth<=n->teq (n+1) a b=PyData.eqv (bE a) (bE b):=by
 intro n
 induction n with
 |zero=>
  intro a b hd
  induction a using Internal.V.casesOn with
  |tup x=>exact absurd hd (by show ¬ PyData.depthAll _+1<=0;exact Nat.not_add_one_le_zero (PyData.depthAll (pyVs x)))
  |lst x=>exact absurd hd (by show ¬ PyData.depthAll _+1<=0;exact Nat.not_add_one_le_zero (PyData.depthAll (pyVs x)))
  |dct x=>exact absurd hd (by show ¬ PyData.depthKv []+1<=0;exact Nat.not_add_one_le_zero (PyData.depthKv []))
  |ref x=>exact absurd hd (by show ¬ PyData.depthKv []+1<=0;exact Nat.not_add_one_le_zero (PyData.depthKv []))
  |none=>clear hd;induction b using Internal.V.casesOn <;> rfl
  |bool x=>induction b using Internal.V.casesOn <;> first|rfl|(show beq' _ _=(_ == _);exact beq'_eq _ _)|(show ieq _ _=(_ == _);rw[ieq_eq];induction x using aB <;> rfl)
  |int x=>induction b using Internal.V.casesOn <;> first|rfl|(show ieq _ _=(_ == _);rw[ieq_eq];rfl)|(rename_i y;show ieq _ _=(_ == _);rw[ieq_eq];induction y using aB <;> rfl)
  |str x=>clear hd;induction b using Internal.V.casesOn <;> first|rfl|exact strs_eq _ _
 |succ n ih=>
  intro a b hd
  induction a using Internal.V.casesOn with
  |tup x=>
   have hx:PyData.depthAll (pyVs x)+1<=n+1:=hd;clear hd;induction b using Internal.V.casesOn <;> first|rfl|exact HC n ih x _ (Nat.le_of_lt_succ hx)
  |lst x=>
   have hx:PyData.depthAll (pyVs x)+1<=n+1:=hd;clear hd;induction b using Internal.V.casesOn <;> first|rfl|exact HC n ih x _ (Nat.le_of_lt_succ hx)
  |dct x=>clear hd ih;induction b using Internal.V.casesOn <;> rfl
  |ref x=>clear hd ih;induction b using Internal.V.casesOn <;> rfl
  |none=>clear hd ih;induction b using Internal.V.casesOn <;> rfl
  |bool x=>induction b using Internal.V.casesOn <;> first|rfl|(show beq' _ _=(_ == _);exact beq'_eq _ _)|(show ieq _ _=(_ == _);rw[ieq_eq];induction x using aB <;> rfl)
  |int x=>induction b using Internal.V.casesOn <;> first|rfl|(show ieq _ _=(_ == _);rw[ieq_eq];rfl)|(rename_i y;show ieq _ _=(_ == _);rw[ieq_eq];induction y using aB <;> rfl)
  |str x=>clear hd ih;induction b using Internal.V.casesOn <;> first|rfl|exact strs_eq _ _
section
variable {A:Around} {n:Nat} {E:Value->Shared->Prop} {s:Shared}
set_option tactic.hygienic true in
theorem Kr(e:ny H a b=some r):∃a' b',res H cJ a=some a'/\res H cJ b=some b'/\r=teq deepN a' b':=by
 unfold ny at e;split at e
 ·rename_i a' ha;exists jY e,b',hb,e
  ·exact⟨a',b',ha,hb,(aH e).symm⟩
 ·exact nq e
theorem u5(h1:d.canLay0=true)(h2:d.depth<=cJ):SeqAt.shaped d=true:=by
 unfold SeqAt.shaped;rw[h1,Bool.true_and];exact decide_eq_true (br h2 dq)
theorem cmp_eq(I:C.I φ H s.heap)(R:Rm A n)(ra:C.R φ H s.heap a x)(rb:C.R φ H s.heap b y)(e:ny H a b=some r)(h:Q (.bool r) s):C.wp A (compareOp .Eq x y) Q E s:=by
 exists cB (Kr e),a',b',ea,eb,KI;clear e;subst KI;exists b6 (jN I _ _ _ _ ea ra),as,q1,q2,q3;exists b6 (jN I _ _ _ _ eb rb),bs,p1,p2,p3;refine eq_dataH q1 p1 (u5 q2 q3) (u5 p2 p3) R.JF ?_;rw[<- qc 7 a' b' q3];exact h
theorem aaS(I:C.I φ H s.heap)(R:Rm A n)(ra:C.R φ H s.heap a x)(rb:C.R φ H s.heap b y)(e:DM a b H=some r)(h:Q (.bool r) s):C.wp A (compareOp .NotEq x y) Q E s:=by
 have e:jG (ny H a b)=some r:=e
 induction e':ny H a b using aL with
 |none=>rw[e']at e;exact nq e
 |some r'=>
  rw[e']at e;exists e;exists cB (Kr e'),a',b',ea,eb,VE;clear e';subst VE;exists b6 (jN I _ _ _ _ ea ra),as,q1,q2,q3;exists b6 (jN I _ _ _ _ eb rb),bs,p1,p2,p3;refine ne_dataH q1 p1 (u5 q2 q3) (u5 p2 p3) R.JF ?_;rw[<- qc 7 a' b' q3];exact h
end
end
end
section
open PySem PySem.Calls PyProof.Rows PySem.W
section
variable {prog:Program} {w:World} {A:Around} {E:Value->Shared->Prop} {s:Shared}
noncomputable def gop(g:Bool):CmpOp:=match g with
 |true=>.Gt
 |false=>.Lt
noncomputable def QA(g:Bool):Builtin:=match g with
 |true=>Builtin.«tuple.__gt__»
 |false=>Builtin.«tuple.__lt__»
theorem readsAll_len:∀{vs:List Value} {as:List Addr},ReadsAll h vs (pyVs l) as->vs.length=l.length:=by
 induction l with
 |nil=>intro vs as r;cases r;rfl
 |cons a l ih=>intro vs as r;cases r with|cons _ r=>exact congrArg Nat.succ (ih r)
noncomputable def K3(g:Bool)(n:Nat):Prop:=∀(prog:Program) (w:World) (A:Around) (s:Shared) (a b:V) (x y:Value) (as bs:List Addr) (r:Bool) (E Q:Value->Shared->Prop),Reads s.heap x (bE a) as->Reads s.heap y (bE b) bs->
 (bE a).canLay0=true->(bE b).canLay0=true->(bE a).depth<=cJ->(bE b).depth<=cJ->tcmp g n a b=some r->A.units+2 * n+64<cLine->Q (.bool r) s->wpAny (model prog w) A (richCompare (gop g) x y) Q E s
structure TI (g:Bool) (n:Nat) (r:Bool) (h:Heap) (N M:Nat) (vs us:List Value) (a b:List V) (as bs:List Addr) (c:Nat):Prop where
 ra:ReadsAll h vs (pyVs a) as
 rb:ReadsAll h us (pyVs b) bs
 ca:PyData.canLayAll0 (pyVs a)=true
 cb:PyData.canLayAll0 (pyVs b)=true
 da:PyData.depthAll (pyVs a)<cJ
 db:PyData.depthAll (pyVs b)<cJ
 e:fE g (tcmp g n) a b=some r
 l1:N=c+vs.length
 l2:M=c+us.length
noncomputable def BQ(g:Bool)(n:Nat)(r:Bool)(h:Heap)(N M:Nat)(rest:List (Value×Value)):Prop:=∃vs us a b as bs c,rest=List.zip vs us/\TI g n r h N M vs us a b as bs c
theorem readsAll_nil(r:ReadsAll h vs (pyVs []) as):vs=[]:=by cases r;rfl
theorem vQ(r:ReadsAll h vs (pyVs (a::l)) as):∃v ws lE tX,vs=v::ws/\Reads h v (bE a) lE/\ReadsAll h ws (pyVs l) tX:=by
 cases r with
 |cons r1 r2=>exact⟨_,_,_,_,rfl,r1,r2⟩
section
variable {g:Bool} {n:Nat} {r:Bool} {h:Heap} {N M:Nat} {vs us:List Value} {a b:List V} {as bs:List Addr} {c:Nat} {rest:List (Value×Value)} {p q:Value}
theorem JP(T:TI g n r h N M vs us a b as bs c)(hr:(p,q)::rest=List.zip vs us):∃a1 a2 b1 b2 lE nY,Reads h p (bE a1) lE/\Reads h q (bE b1) nY/\(bE a1).canLay0=true/\(bE b1).canLay0=true/\(bE a1).depth<cJ/\(bE b1).depth<cJ/\
  (match teq deepN a1 b1 with|true=>fE g (tcmp g n) a2 b2|false=>tcmp g n a1 b1)=some r/\(fE g (tcmp g n) a2 b2=some r->BQ g n r h N M rest)/\a=a1::a2/\b=b1::b2:=by
 induction a using aM with
 |nil=>rw[readsAll_nil T.ra]at hr;exact nomatch hr
 |cons a1 a2=>
  induction b using aM with
  |nil=>rw[readsAll_nil T.rb,List.zip_nil_right]at hr;exact nomatch hr
  |cons b1 b2=>
   exists tw (vQ T.ra),v,ws,lE,tX,e1,r1,r2;exists tw (vQ T.rb),u,xs,nY,DL,e2,q1,q2;have l1:=T.l1;have l2:=T.l2;rw[e1,e2,List.zip_cons_cons]at hr;rw[e1]at l1;rw[e2]at l2;have c1:=nh.mp (show(PyData.canLay0 (bE a1) && PyData.canLayAll0 (pyVs a2))=true from T.ca);have c2:=nh.mp (show(PyData.canLay0 (bE b1) && PyData.canLayAll0 (pyVs b2))=true from T.cb);have d1:=Nat.max_lt.mp (show max (bE a1).depth (PyData.depthAll (pyVs a2))<cJ from T.da);have d2:=Nat.max_lt.mp (show max (bE b1).depth (PyData.depthAll (pyVs b2))<cJ from T.db);clear e2 e1;cases hr;exact⟨a1,a2,b1,b2,lE,nY,r1,q1,c1.1,c2.1,d1.1,d2.1,T.e,fun e=>⟨ws,xs,a2,b2,tX,DL,c+1,rfl,r2,q2,c1.2,c2.2,d1.2,d2.2,e,by rw[l1,fV];exact Eq.symm (Nat.succ_add_eq_add_succ c ws.length),by rw[l2,fV];exact Eq.symm (Nat.succ_add_eq_add_succ c xs.length)⟩,rfl,rfl⟩
theorem Fv(T:TI g n r h N M vs us a b as bs c)(hr:[]=List.zip vs us):Builtin.Tuple.tupleCompareSizes (gop g) N M = .bool r:=by
 have e:=T.e;have k1:=readsAll_len T.ra;have k2:=readsAll_len T.rb;rw[T.l1,T.l2,k1,k2];clear k2 k1;induction a using aM with
 |nil=>
  induction b using aM with
  |nil=>cases aH e;induction g using aB <;> simp [Builtin.Tuple.tupleCompareSizes,gop]
  |cons b1 b2=>cases aH e;induction g using aB <;> simp [Builtin.Tuple.tupleCompareSizes,gop]
 |cons a1 a2=>
  induction b using aM with
  |nil=>cases aH e;induction g using aB <;> simp [Builtin.Tuple.tupleCompareSizes,gop]
  |cons b1 b2=>
   exists tw (vQ T.ra),v,ws,lE,tX,e1,r1,r2;exists tw (vQ T.rb),u,xs,nY,DL,e2,q1,q2;rw[e1,e2]at hr;exact nomatch hr
end
theorem TS(g:Bool)(n:Nat)(ih:K3 g n)
  (hx:s.heap.get? x=some ox) (dx:ox.data = .seq vs m) (hy:s.heap.get? y=some oy) (cy:oy.cls = .type "tuple") (dy:oy.data = .seq us k) (ra:ReadsAll s.heap vs.toList (pyVs a) as) (rb:ReadsAll s.heap us.toList (pyVs b) bs) (ca:PyData.canLayAll0 (pyVs a)=true) (cb:PyData.canLayAll0 (pyVs b)=true)
  (da:PyData.depthAll (pyVs a)<cJ) (db:PyData.depthAll (pyVs b)<cJ) (e:fE g (tcmp g n) a b=some r) (hu:A.units+2 * n+64<cLine) (h:P (.done (.ret (.bool r))) s) :
  wpAny (model prog w) A (QA g ⟨[.ref x,.ref y],[]⟩) P E s:=by
 have yt:s.TypeIs (.ref y) "tuple":=⟨_,hy,cy⟩
 suffices hs:wpAny (model prog w) A (isInstance (.ref y) (.type "tuple") >>= fun c=>if (!c)=true then ret .notImplemented else Builtin.Tuple.tupleItemsOf (.ref x) >>= fun xs=>Builtin.Tuple.tupleItemsOf (.ref y) >>= fun ys=>do
   for (p,q) in xs.toList.zip ys.toList do
    if !(<- eqBool p q)then rule "tuple.compare.by-the-first-pair-that-differs";return <- ret (<- richCompare (gop g) p q)
   ret (Builtin.Tuple.tupleCompareSizes (gop g) xs.size ys.size)) P E s by
  clear yt h hu e db da cb ca rb ra dy cy hy dx hx ih;induction g using aB <;> exact hs
 refine a9 (wpAny_isInstance yt isSubtype_tuple_tuple ?_);refine eG dq ?_;refine a9 (wpAny_tupleItemsOf hx dx ?_);refine a9 (wpAny_tupleItemsOf hy dy ?_);refine a9 ?_;have T0:BQ g n r s.heap vs.size us.size (List.zip vs.toList us.toList):=⟨_,_,a,b,as,bs,0,rfl,ra,rb,ca,cb,da,db,e,by simp,by simp⟩;clear hx dx hy cy dy ra rb ca cb da db e yt;refine wpAny_forIn_list _ (fun rest z s'=>z.1=none/\s'=s/\BQ g n r s.heap vs.size us.size rest) _ ?_ ?_ _ _ ⟨rfl,rfl,T0⟩
 ·rintro ⟨p,q⟩ rest ⟨z1,z2⟩ s' ⟨hz,rfl,T⟩;clear T0;cases (show z1=none from hz);exists uR T,vs,us,a,b,as,bs,c,hr,T;exists JN (JP T hr),a1,a2,b1,b2,lE,nY,r1,q1,c1,c2,d1,d2,e2,hT,Z0;have Tu:cJ=7:=rfl;refine a9 (SeqAt.eqAt_reads (bE a1) (bE b1) A s' p q _ _ r1 q1 c1 c2 (by lia) prog w E _ ?_);rw[<- qc 7 a1 b1 (fh d1)];clear T hr hz;cases ht:teq (7+1) a1 b1 with
  |true=>
   rw[show teq deepN a1 b1=true from ht]at e2;refine eG dq ?_;exact aw ⟨rfl,rfl,hT e2⟩
  |false=>
   rw[show teq deepN a1 b1=false from ht]at e2;refine g6 dq ?_;refine a9 (wpAny_rule (a9 (ih prog w A s' a1 b1 p q _ _ r E _ r1 q1 c1 c2 (fh d1) (fh d2) e2 (by lia) ?_)));exact a9 (aw (aw (aw h)))
 ·rintro ⟨z1,z2⟩ s' ⟨hz,rfl,T⟩;clear T0 hu ih;cases (show z1=none from hz);exists uR T,Z0,Z0,a,b,as,bs,c,hr,T;show wpAny (model prog w) A (ret (Builtin.Tuple.tupleCompareSizes (gop g) vs.size us.size)) P E s';rw[Fv T hr];exact aw h
theorem Lh(e:tcmp g (n+1) a b=some r):(∃x y,a = .int x/\b = .int y/\r=FD g x y)\/∃x y,a = .tup x/\b = .tup y/\fE g (tcmp g n) x y=some r:=by
 induction a using V.casesOn with
 |int x=>induction b using V.casesOn with
  |int y=>exact .inl ⟨_,_,rfl,rfl,(aH e).symm⟩
  |_=>exact nq e
 |tup x=>induction b using V.casesOn with
  |tup y=>exact .inr ⟨_,_,rfl,rfl,e⟩
  |_=>exact nq e
 |_=>exact nq e
theorem K6(g:Bool)(n:Nat):K3 g n:=by
 induction n with
 |zero=>exact fun _ _ _ _ _ _ _ _ _ _ _ _ _ _ _ _ _ _ _ e=>nq e
 |succ n ih=>
  intro prog w A s a b x y as bs r E Q ra rb ca cb da db e hu h;rcases Lh e with⟨i,j,rfl,rfl,rfl⟩|⟨l,l',rfl,rfl,e⟩
  ·clear e db cb da ca hu;cases ra;cases rb;clear ih;induction g using aB with
   |false=>exact(show wpAny (model prog w) A (compareOp .Lt _ _) Q E s from lt_int (by rw[<- ilt_eq];exact h))
   |true=>exact(show wpAny (model prog w) A (compareOp .Gt _ _) Q E s from gt_int (by rw[<- ilt_eq];exact h))
  ·dsimp only[bE]at ra rb;cases ra with
   |@tuple xa xo xs xn _ _ h1 h2 h3 h4=>
    cases rb with
    |@tuple ya yo ys yn _ _ k1 k2 k3 k4=>
     have d1:PyData.depthAll (pyVs l)+1<=cJ:=da;have d2:PyData.depthAll (pyVs l')+1<=cJ:=db;have c1:PyData.canLayAll0 (pyVs l)=true:=ca;have c2:PyData.canLayAll0 (pyVs l')=true:=cb;have DU:A.in1.units+2 * n+64<cLine:=by show A.units+1+2 * n+64<cLine;lia
     have tree:=TS (prog:=prog) (w:=w) (A:=A.in1) (E:=E) g n ih (P:=fun fin s'=>∃v,fin = .done (.ret v)/\(v ≠ .notImplemented/\Q v s')) h1 h3 k1 k2 k3 h4 k4 c1 c2 (by lia) (by lia) e DU ⟨_,rfl,by simp,h⟩;clear DU c2 c1 d2 d1 k4 k3 h4 h3 e db cb da ca h;clear e ih;induction g using aB with
     |false=>exact wpAny_richCompare_same_room (op:=.Lt) ⟨_,h1,h2⟩ ⟨_,k1,k2⟩ PySem.F.slot_tuple_lt (wpAny_call_entry PySem.F.slot_tuple_lt ⟨_,h1,h2⟩ PySem.F.entry_tuple_lt tree (PySem.F.args_tuple_lt_2 _ _)) (by lia)
     |true=>exact wpAny_richCompare_same_room (op:=.Gt) ⟨_,h1,h2⟩ ⟨_,k1,k2⟩ PySem.F.slot_tuple_gt (wpAny_call_entry PySem.F.slot_tuple_gt ⟨_,h1,h2⟩ PySem.F.entry_tuple_gt tree (PySem.F.args_tuple_gt_2 _ _)) (by lia)
variable {C:Cf} {φ:Ph} {H:Hp} {n:Nat}
set_option tactic.hygienic true in
theorem Kc(I:C.I φ H s.heap)(R:Rm A n)(ra:C.R φ H s.heap a x)(rb:C.R φ H s.heap b y)(e:jk g H a b=some r)(h:Q (.bool r) s):C.wp A (richCompare (gop g) x y) Q E s:=by
 unfold jk at e;split at e
 ·rename_i a' ea;exists jY e,b',eb,e
  ·exists b6 (jN I _ _ _ _ ea ra),as,q1,q2,q3;exists b6 (jN I _ _ _ _ eb rb),bs,p1,p2,p3;exact K6 g 8 C.prog C.w A s a' b' x y _ _ r E Q q1 p1 q2 p2 q3 p3 e (by have:=R.units;lia) h
 ·exact nq e
theorem aaZ(I:C.I φ H s.heap)(R:Rm A n)(ra:C.R φ H s.heap a x)(rb:C.R φ H s.heap b y)(e:jk false H a b=some r)(h:Q (.bool r) s):C.wp A (compareOp .Lt x y) Q E s:=Kc (g:=false) I R ra rb e h
theorem cmp_gt(I:C.I φ H s.heap)(R:Rm A n)(ra:C.R φ H s.heap a x)(rb:C.R φ H s.heap b y)(e:jk true H a b=some r)(h:Q (.bool r) s):C.wp A (compareOp .Gt x y) Q E s:=Kc (g:=true) I R ra rb e h
theorem Gn(e:oP a b=some r):∃i j,a = .int i/\b = .int j/\r = !ilt j i:=by
 induction a using Internal.V.casesOn <;> simp only[oP]at e <;> try cases e
 induction b using Internal.V.casesOn <;> simp only at e <;> cases e
 exact⟨_,_,rfl,rfl,rfl⟩
theorem aaq(ra:C.R φ H h a x)(rb:C.R φ H h b y)(e:oP a b=some r)(hq:Q (.bool r) s):C.wp A (compareOp .LtE x y) Q E s:=by
 exists cB (Gn e),i,j,yC,Sl,UA;clear e;subst yC;subst Sl;subst UA;exists aD (int_at ra),t,Xb;clear ra;subst Xb;exists aD (int_at rb),u,Ar;clear rb;subst Ar;refine le_int ?_;rw[ilt_eq]at hq;rw[show decide (i<=j) = !decide (j<i) by rw[fT];simp];exact hq
theorem SJ(ra:C.R φ H h a x)(rb:C.R φ H h b y)(e:oP b a=some r)(hq:Q (.bool r) s):C.wp A (compareOp .GtE x y) Q E s:=by
 exists cB (Gn e),i,j,Pe,QS,UU;clear e;subst Pe;subst QS;subst UU;exists aD (int_at ra),t,rm;clear ra;subst rm;exists aD (int_at rb),u,AZ;clear rb;subst AZ;refine ge_int ?_;rw[ilt_eq]at hq;rw[show decide (i<=j) = !decide (j<i) by rw[fT];simp];exact hq
theorem JR(r:C.R φ H h a x):isNone a=(x == Value.none):=by cases r <;> rfl
theorem Fj(r:C.R φ H h a x)(e:isNone a=true):x=Value.none:=by cases r <;> first|rfl|exact bf e
theorem aav(ra:C.R φ H h a x)(rb:C.R φ H h b y)(e:guard' (isNone b) (some (isNone a))=some r)(hq:Q (.bool r) s):C.wp A (compareOp .Is x y) Q E s:=by
 exists ak (guard_some e),e1,e2
 (clear e;exists e2)
 have:=Fj rb e1;clear e1 rb;subst this;exact is_none (by rw[<- JR ra];exact hq)
theorem W2(ra:C.R φ H h a x)(rb:C.R φ H h b y)(e:guard' (isNone b) (some (!isNone a))=some r)(hq:Q (.bool r) s):C.wp A (compareOp .IsNot x y) Q E s:=by
 exists ak (guard_some e),e1,e2
 (clear e;exists e2)
 have:=Fj rb e1;clear e1 rb;subst this;exact isNot_none (by rw[<- JR ra];exact hq)
end
end
section
open PySem PySem.Calls PyProof.Rows PySem.W
noncomputable abbrev Cf.knd(C:Cf):HeapKind C.prog C.w (List Int):=tupleKind (intKind C.prog C.w)
section
variable {C:Cf} {φ:Ph} {H:Hp} {h h':Heap}
theorem Wd:∀{vs:List Value},C.Rs φ H h (k.map .int) vs->ItemsAre (intKind C.prog C.w) k vs:=by
 induction k with
 |nil=>
  intro _ r;cases r;exact .nil
 |cons a k ih=>
  intro _ r;cases r with
  |cons q r=>
   exists aD (int_at q),t,V1;clear q;subst V1;exact .cons (intKind_is _ _ a t) (ih r)
theorem lh(r:C.R φ H h (.tup (k.map .int)) (.ref a)):C.knd.is h k a:=by
 exists fO (gp r),b,vs,n,e,g,m,rs;clear m r;cases e;exact⟨_,_,n,g,rfl,rfl,by simpa using Wd rs⟩
theorem Ff:∀{k:List Int},keyOf l=some k->l=k.map .int:=by
 induction l with
 |nil=>
  intro k e;exists e;rfl
 |cons v l ih=>
  intro k e
  induction v using Internal.V.casesOn with
  |int i=>
   have e:(match keyOf l with|some k=>some (i::k)|none=>none)=some k:=e
   induction hk:keyOf l using aL with
   |none=>rw[hk]at e;exact nq e
   |some k'=>rw[hk]at e;exists e;rw[ih hk];rfl
  |_=>exact nq e
theorem sa(e:kg v=some k):v = .tup (k.map .int):=by
 unfold kg at e;split at e
 ·rw[Ff e]
 ·exact nq e
inductive EX (C:Cf) (φ:Ph) (H:Hp) (h:Heap):List (List Int×V)->List (List Int×Addr×Value)->Prop
 |nil:EX C φ H h [] []
 |cons {k:List Int} {v:V} {l:List (List Int×V)} {a:Addr} {x:Value} {xs:List (List Int×Addr×Value)}:C.R φ H h (.tup (k.map .int)) (.ref a)->C.R φ H h v x->EX C φ H h l xs->EX C φ H h ((k,v)::l) ((k,a,x)::xs)
theorem EX.of:∀{es:List DictEntry},C.Es φ H h l es->∃xs,EX C φ H h l xs/\es=xs.map (entryOfKey C.knd):=by
 induction l with
 |nil=>intro _ r;cases r;exact⟨[],.nil,rfl⟩
 |cons kv l ih=>
  intro _ r;cases r with
  |@cons k v _ e es a e1 e2 q1 q2 r=>
   exists ae (ih r),xs,p,rR;clear r;subst rR;refine⟨(k,a,e.val)::xs,.cons q1 q2 p,?_⟩;rw[aO];congr 1;clear p q2 q1;obtain⟨iW,iP,pO⟩:=e;simp only at e1 e2;subst e1 e2;rfl
theorem EX.es(r:EX C φ H h l xs):C.Es φ H h l (xs.map (entryOfKey C.knd)):=by
 induction r with
 |nil=>exact .nil
 |cons q1 q2 _ ih=>exact .cons rfl rfl q1 q2 ih
theorem EX.keys(r:EX C φ H h l xs):xs.map (·.1)=l.map (·.1):=by
 induction r with
 |nil=>rfl
 |cons q1 q2 _ ih=>exact congrArg (List.cons _) ih
theorem EX.is(r:EX C φ H h l xs):∀x∈xs,C.knd.is h x.1 x.2.1:=by
 induction r with
 |nil=>exact fun _ m=>nomatch m
 |cons q1 q2 _ ih=>exact jj.mpr ⟨lh q1,ih⟩
theorem EX.length(r:EX C φ H h l xs):xs.length=l.length:=by
 induction r with
 |nil=>rfl
 |cons q1 q2 _ ih=>exact congrArg Nat.succ ih
theorem EX.dict{l:List (List Int×V)}{es:List DictEntry}{a:Addr}{n:Nat}(g:h.get? a=some (cX es n))(r:C.Es φ H h l es)(nd:(l.map (·.1)).Nodup) :
  ∃xs,EX C φ H h l xs/\h.DictOfH C.knd a xs:=by
 exists ae (EX.of r),xs,p,TZ;clear r;subst TZ;exact⟨xs,p,_,_,n,g,⟨rfl,rfl,rfl⟩,rfl,by simp,p.is,by rw[p.keys];exact nd⟩
theorem vA(D:h.DictOfH C.knd a xs):∃n,h.get? a=some (cX (xs.map (entryOfKey C.knd)) n):=by
 obtain⟨o,es,ep,g,⟨c1,c2,c3⟩,d,e,_⟩:=D;refine⟨ep,?_⟩;rw[g];clear g;obtain⟨oc,od,odt,osl⟩:=o;simp only at c1 c2 c3 d;subst c1 c2 c3 d;obtain⟨l⟩:=es;simp only at e;subst e;rfl
theorem HT(x:List Int×Addr×Value)(xs:List (List Int×Addr×Value))(k:List Int):atKey (x::xs) k=if x.1=k then some x.2 else atKey xs k:=by
 unfold atKey;rw[List.find?_cons];by_cases q:x.1=k <;> simp [q]
theorem EX.get(r:EX C φ H h l xs)(k:List Int):(∀v,dget l k=some v->∃a x,atKey xs k=some (a,x)/\C.R φ H h v x)/\(dget l k=none->atKey xs k=none):=by
 induction r with
 |nil=>exact⟨fun v e=>nn e,fun _=>rfl⟩
 |@cons k' v' l a x xs q1 q2 r ih=>
   rw[HT];dsimp only[dget];clear r q1;induction z:keq k' k using aB with
   |true=>
    rw[keq_iff]at z;subst z;simp only[if_true];exact⟨fun v e=>⟨_,_,rfl,aH e▸q2⟩,fun e=>ns e⟩
   |false=>
    rw[if_neg (zU z)];exact ih
theorem TM(l:List (List Int×V))(k:List Int)(v:V):(dset l k v).map (·.1)=if k∈l.map (·.1)then l.map (·.1)else l.map (·.1)++[k]:=by
 induction l with
 |nil=>simp [dset]
 |cons e l ih=>
  obtain⟨k',v'⟩:=e;dsimp only[dset]
  induction z:keq k' k using aB with
  |true=>
   rw[keq_iff]at z;subst z;simp
  |false=>
   have bN:=zU z;have:=ih;simp only[aO,aI,this];by_cases q:k∈l.map (·.1)
   ·simp [q]
   ·simp [q,Ne.symm bN]
theorem yZ(nd:(l.map (·.1)).Nodup)(k:List Int)(v:V):((dset l k v).map (·.1)).Nodup:=by
 rw[TM];split
 ·exact nd
 ·rename_i q;rw[List.nodup_append];exact⟨nd,by simp,fun x hx y hy=>by simp at hy;clear nd;subst hy;exact fun e=>q (e▸hx)⟩
theorem EX.YT(r:EX C φ H h l xs):(l.map (·.1)).Nodup->∀{k:List Int} {v:V} {x:Value},C.R φ H h v x->k∈l.map (·.1)->EX C φ H h (dset l k v) (xs.map (putAt k x)):=by
 induction r with
 |nil=>exact fun _ _ _ _ _ m=>nomatch m
 |@cons k' v' l a y xs q1 q2 r ih=>
   intro nd k v x rv m;rw[aO,ee]at nd;dsimp only[dset]
   induction z:keq k' k using aB with
   |true=>
    rw[keq_iff]at z;clear q2 m;subst z;rw[aO,putAt,if_pos rfl,map_putAt_of_not_mem xs k' x (by rw[r.keys];exact nd.1)];exact .cons q1 rv r
   |false=>
    have bN:=zU z;rw[aO,putAt,if_neg bN];refine .cons q1 q2 (ih nd.2 rv ?_);clear z r q2 q1 rv nd;rcases aI.mp m with e|m
    ·exact absurd e.symm bN
    ·exact m
theorem EX.append(r:EX C φ H h l xs)(r':EX C φ H h l' KL):EX C φ H h (l++l') (xs++KL):=by
 induction r with
 |nil=>exact r'
 |cons a b _ ih=>exact .cons a b ih
theorem aay{l:List (List Int×V)}{k:List Int}{v:V}:k ∉ l.map (·.1)->dset l k v=l++[(k,v)]:=by
 induction l with
 |nil=>intro _;rfl
 |cons e0 l ih=>
  obtain⟨k',v'⟩:=e0;intro m;dsimp only[dset]
  induction z:keq k' k using aB with
  |true=>exact absurd ((keq_iff _ _).mp z▸.head _) m
  |false=>exact congrArg ((k',v') :: ·) (ih fun q=>m (.tail _ q))
theorem yx{xs:List (List Int×Addr×Value)}{k:List Int}:(atKey xs k).isSome=true↔k∈xs.map (·.1):=by
 induction xs with
 |nil=>simp [atKey]
 |cons x xs ih=>
  rw[HT];by_cases q:x.1=k
  ·simp [q]
  ·simp only[if_neg q,aO,aI,ih];exact⟨.inr,fun z=>z.resolve_left fun e=>q e.symm⟩
theorem EX.set{l:List (List Int×V)}{xs:List (List Int×Addr×Value)}(r:EX C φ H h l xs)(nd:(l.map (·.1)).Nodup){k:List Int}{v:V}{x:Value}{a:Addr}(rk:C.R φ H h (.tup (k.map .int)) (.ref a))(rv:C.R φ H h v x) :
  EX C φ H h (dset l k v) (storedH xs k a x):=by
 unfold storedH;by_cases q:(atKey xs k).isSome=true
 ·rw[if_pos q];rw[yx,r.keys]at q;exact r.YT nd rv q
 ·rw[if_neg q];rw[yx,r.keys]at q;rw[aay q];exact r.append (.cons rk rv .nil)
theorem Lg:((ddel l k).map (·.1)).Sublist (l.map (·.1)):=by
 induction l with
 |nil=>exact .slnil
 |cons e l ih=>
  obtain⟨k',v'⟩:=e;dsimp only[ddel]
  induction keq k' k using aB with
  |true=>exact .cons _ (.refl _)
  |false=>exact .cons_cons _ ih
theorem EX.del(r:EX C φ H h l xs):∀{k:List Int} {j:Nat} {p:Addr×Value},(xs.map (·.1)).Nodup->xs[j]?=some (k,p)->EX C φ H h (ddel l k) (xs.eraseIdx j):=by
 induction r with
 |nil=>exact fun{_ _ _} _ e=>nn e
 |@cons k' v' l a y xs q1 q2 r ih=>
   intro k j p nd e;rw[aO,ee]at nd;dsimp only[ddel]
   induction j using bL with
   |zero=>
    simp at e;exists ak e,YO,rm
    try clear e
    subst YO;subst rm;rw[(keq_iff k' k').mpr rfl];exact r
   |succ j=>
    simp at e
    induction z:keq k' k using aB with
    |true=>
     rw[keq_iff]at z;subst z;exact absurd (cG.mpr ⟨_,eA e,rfl⟩) nd.1
    |false=>exact .cons q1 q2 (ih nd.2 e)
end
end
section
open PySem PySem.Calls PyProof.Rows PySem.W
section
variable {C:Cf} {φ:Ph} {H:Hp} {h:Heap} {A:Around} {n:Nat} {E:Value->Shared->Prop} {s:Shared}
theorem Oe(x:V)(l:List V):(∀y∈l,(bE y).depth<=cJ)->tmem x l=(pyVs l).any (fun y=>PyData.eqv y (bE x)):=by
 induction l with
 |nil=>intro _;rfl
 |cons y l ih=>
  intro hd;have e:tmem x (y::l)=(match teq deepN y x with|true=>true|false=>tmem x l):=rfl;rw[e,show teq deepN y x=PyData.eqv (bE y) (bE x)from qc 7 y x (hd y (.head _)),ih fun z m=>hd z (.tail _ m)];show _=(PyData.eqv (bE y) (bE x) ||_)
  clear e hd ih;induction PyData.eqv (bE y) (bE x)using aB <;> rfl
theorem aaU{l:List V}{n:Nat}:PyData.depthAll (pyVs l)<=n->∀y∈l,(bE y).depth<=n:=by
 induction l with
 |nil=>intro _ y m;exact absurd m List.not_mem_nil
 |cons a l ih=>
  intro hd y m;have kB:max (bE a).depth (PyData.depthAll (pyVs l))<=n:=hd;rcases aI.mp m with rfl|m
  ·exact br (Nat.le_max_left ..) kB
  ·exact ih (br (Nat.le_max_right ..) kB) y m
set_option tactic.hygienic true in
theorem Rv(e:sR H x l=some r):∃x' l',res H cJ x=some x'/\resL (res H cJ) l=some l'/\r=tmem x' l':=by
 unfold sR at e;split at e
 ·rename_i a' ha;exists g5 e,b',hb,e
  ·exact⟨a',b',ha,hb,(aH e).symm⟩
 ·exact nq e
theorem XY(e:inS H a b=some r):∃l,seqView H b=some l/\lenOk l=true/\sR H a l=some r:=by
 exists g5 e,l,hl,e
 ·exists ak (guard_some e),e1,e2;exact⟨l,hl,e1,e2⟩
theorem HJ(I:C.I φ H s.heap)(R:Rm A n)(ra:C.R φ H s.heap a x)(rb:C.R φ H s.heap b y)(e:inS H a b=some r) :
  (∀Q:Value->Shared->Prop,Q (.bool r) s->C.wp A (compareOp .In x y) Q E s)/\(∀Q:Value->Shared->Prop,Q (.bool (!r)) s->C.wp A (compareOp .NotIn x y) Q E s):=by
 exists b6 (XY e),l,hl,hlen,hm;exists cB (Rv hm),x',l',ex,el,Pt;clear hm hlen e;subst Pt;exists dA (q8 I rb hl),d,vs,k,sC,hg,rs;clear hl rb;subst sC;exists b6 (jN I _ _ _ _ ex ra),as,q1,q2,q3;exists b6 (Au I cJ (jN I cJ) _ _ _ el rs),bs,p1,p2,p3;have hu:A.units+1+min (PyData.depthAll (pyVs l')) (bE x').depth<cLine:=by
  have:=R.units;have:min (PyData.depthAll (pyVs l')) (bE x').depth<=7:=br (Nat.min_le_right _ _) q3
  lia
 have et:=Oe x' l' (aaU p3);clear p3 q3 rs el ex ra R I;rcases hg with hg|hg
 ·have rd:Reads s.heap (.ref d) (.tuple (pyVs l')) bs:=.tuple hg rfl rfl (by simpa using p1);exact⟨fun Q hq=>SeqAt.in_tuple_reads rd q1 p2 q2 hu (by rw[<- et];exact hq),fun Q hq=>SeqAt.notIn_tuple_reads rd q1 p2 q2 hu (by rw[<- et];exact hq)⟩
 ·have rd:Reads s.heap (.ref d) (.list (pyVs l')) (d::bs):=.list hg rfl rfl (by simpa using p1);exact⟨fun Q hq=>SeqAt.in_list_reads rd q1 p2 q2 hu (by rw[<- et];exact hq),fun Q hq=>SeqAt.notIn_list_reads rd q1 p2 q2 hu (by rw[<- et];exact hq)⟩
theorem ur(R:Rm A n):C.knd.room A.in1:=R.u1
theorem t8(h:a≠sysModules):(a == sysModules)=false:=beq_eq_false_iff_ne.mpr h
theorem oS(r:C.R φ H h (.tup l) x):∃a,x = .ref a:=by obtain⟨a,_,_,e,_⟩:=gp r;exact⟨a,e⟩
set_option tactic.hygienic true in
theorem U8(I:C.I φ H s.heap)(R:Rm A n)(ra:C.R φ H s.heap a x)(rb:C.R φ H s.heap b y)(e:Bk H a b=some r)
  (hq:∀tk,Q (.bool r) { s with toks:=tk }):C.wp A (compareOp .In x y) Q E s:=by
 unfold Bk at e;split at e
 ·rename_i l hl;exists Dt e,k,hk,e
  ·exists e;have:=sa hk;clear hk;subst this;exists aD (oS ra),ka,Vy;subst Vy;exists jZ (qS I rb hl),d,es,m,L5,g,re,nd,ns;clear hl rb I;subst L5;exists ae (EX.dict g re nd),xs,px,D;refine wpAny_in_heap (ur R) (lh ra) (t8 ns) D ?_;have:=px.get k;clear D px ns nd re g ra R;induction hd:dget l k using aL with
   |none=>rw[this.2 hd];rw[hd]at hq;exact hq _
   |some v=>
    exists aT (this.1 v hd),a',x',e',Z0;rw[e'];rw[hd]at hq;exact hq _
 ·exact(HJ I R ra rb e).1 Q (hq s.toks)
theorem UZ(I:C.I φ H s.heap)(R:Rm A n)(ra:C.R φ H s.heap a x)(rb:C.R φ H s.heap b y)(e:jG (inS H a b)=some r)
  (hq:Q (.bool r) s):C.wp A (compareOp .NotIn x y) Q E s:=by
 induction h':inS H a b using aL with
 |none=>rw[h']at e;exact nq e
 |some r'=>rw[h']at e;exists e;exact(HJ I R ra rb h').2 Q hq
theorem Cf.cmp(op:CmpOp)(I:C.I φ H s.heap)(R:Rm A n)(ra:C.R φ H s.heap a x)(rb:C.R φ H s.heap b y)(e:bu op a b H=some r)
  (hq:∀tk,Q (.bool r) { s with toks:=tk }):C.wp A (compareOp op x y) Q E s:=by
 induction op using PySem.CmpOp.casesOn with
 |Eq=>exact cmp_eq I R ra rb e (hq s.toks)
 |NotEq=>exact aaS I R ra rb e (hq s.toks)
 |Lt=>exact aaZ I R ra rb e (hq s.toks)
 |LtE=>exact aaq ra rb e (hq s.toks)
 |Gt=>exact cmp_gt I R ra rb e (hq s.toks)
 |GtE=>exact SJ ra rb e (hq s.toks)
 |Is=>exact aav ra rb e (hq s.toks)
 |IsNot=>exact W2 ra rb e (hq s.toks)
 |In=>exact U8 I R ra rb e hq
 |NotIn=>exact UZ I R ra rb e (hq s.toks)
theorem zF(e:fits x=true) : -(2 ^ 65)<x/\x<2 ^ 65:=by
 unfold fits at e
 induction q:b8 x.natAbs 18446744073709551616 using aB with
 |false=>rw[q]at e;exact bf e
 |true=>
  have:=bC q
  lia
theorem aaj(e:fits x=true)(f:fits y=true):IntMulOk x y:=by
 have h1:=zF e;have h2:=zF f;have bits:∀z:Int,-(2 ^ 65)<z->z<2 ^ 65->Builtin.Int.intBits z<=65:=by
  intro z a b;unfold Builtin.Int.intBits;split
  ·exact f6 _
  ·have:z.natAbs<2 ^ 65:=by lia
   have h3:z.natAbs≠0:=by rename_i q;simpa using q
   have:=(Nat.log2_lt h3).mpr this
   assumption
 have b1:=bits x h1.1 h1.2;have b2:=bits y h2.1 h2.2;have hb:bitsLine=134217728:=rfl;unfold IntMulOk;have:Builtin.Int.intTooBig (Builtin.Int.intBits x+Builtin.Int.intBits y)=false:=by
  unfold Builtin.Int.intTooBig;exact decide_eq_false (by lia)
 rw[this];simp
theorem QJ(f:fits y=true):Builtin.divisionGoesByPylong x y=false:=by
 have h2:=zF f;have:¬ ((if (y == 0)=true then 0 else y.natAbs.log2 / 30+1) > 300):=by
  split
  ·exact Nat.not_lt_zero 300
  ·have:y.natAbs<2 ^ 65:=by lia
   have h3:y.natAbs≠0:=by rename_i q;simpa using q
   have:=(Nat.log2_lt h3).mpr this
   lia
 unfold Builtin.divisionGoesByPylong;show(decide (_ > 300) && _)=false;rw[decide_eq_false this];rfl
theorem Cf.binI(e:Internal.binI op i j H=some (v,H'))(hq:∀r t tk,v = .int r->H'=H->Q (.int r t) { s with toks:=tk }) :
  C.wp A (binaryOp op (.int i t) (.int j u)) Q E s:=by
 induction op using PySem.Operator.casesOn with
 |Add=>injections e;exact add_int (hq _ _ _ rfl rfl)
 |Sub=>injections e;exact sub_int (hq _ _ _ rfl rfl)
 |Mult=>
  exists ak (guard_some (show guard' (band (fits i) (fits j)) (some (V.int (i * j),H))=some (v,H')from e)),e1,e2;rw[cU]at e1
  (clear e;injections e2)
  exact mul_int (hq _ _ _ rfl rfl) (aaj e1.1 e1.2)
 |FloorDiv=>
  exists ak (guard_some (show guard' (band (!ieq j 0) (band (fits i) (fits j))) (some (V.int (i.fdiv j),H))=some (v,H')from e)),e1,e2;rw[cU,cU,ieq_eq]at e1
  (clear e;injections e2)
  exact floordiv_int (by simpa using e1.1) (hq _ _ _ rfl rfl) (.inl (QJ e1.2.2))
 |Mod=>
  exists ak (guard_some (show guard' (!ieq j 0) (some (V.int (i.fmod j),H))=some (v,H')from e)),e1,e2;rw[ieq_eq]at e1
  (clear e;injections e2)
  exact mod_int' (by simpa using e1) (hq _ _ _ rfl rfl)
 |Pow=>
  exists ak (guard_some (show guard' (band (ieq i 2) (ieq j 64)) (some (V.int 18446744073709551616,H))=some (v,H')from e)),e1,e2;rw[cU,ieq_iff,ieq_iff]at e1;exists ak e1,Xa,Cu
  try clear e1
  clear e;subst Xa;subst Cu;injections e2;refine pow_int dq (by decide +kernel) ?_;exact hq _ _ _ rfl rfl
 |_=>exact nq e
theorem QC(I:C.I φ H s.heap)(ra:C.R φ H s.heap (.tup l) x)(rb:C.R φ H s.heap (.tup l') y)(h1:lenOk l=true)(h2:lenOk l'=true)
  (P:C.Po φ H s H (fun a8 h' z=>C.R a8 H h' (.tup (l++l')) z) Q):C.wp A (binaryOp .Add x y) Q E s:=by
 obtain⟨a,vs,n,rfl,ga,ma,ra⟩:=gp ra;obtain⟨b,us,m,rfl,gb,mb,rb⟩:=gp rb;have la:=ra.length;have lb:=rb.length;have l1:=dR h1;have l2:=dR h2;by_cases hv:vs=[]
 ·refine concat_meets ⟨_,ga,rfl⟩ ⟨_,gb,rfl⟩ noFill_tuple_add seq_tuple_add PySem.F.slot_tuple_add PySem.F.entry_tuple_add (PySem.F.args_tuple_add_2 _ _) (tuple_addW0 a b vs.toArray us.toArray n m _ _ _ _ (by simp [hv])) ⟨ga,gb,?_⟩;have:l=[]:=by subst hv;induction l using aM with|nil=>rfl|cons=>cases la
  clear hv l2 l1 lb la ra ma ga h2 h1;clear ra;subst this;exact P.dS I (.tup gb mb rb)
 ·by_cases hw:us=[]
  ·refine concat_meets ⟨_,ga,rfl⟩ ⟨_,gb,rfl⟩ noFill_tuple_add seq_tuple_add PySem.F.slot_tuple_add PySem.F.entry_tuple_add (PySem.F.args_tuple_add_2 _ _) (tuple_addW1 a b vs.toArray us.toArray n m _ _ _ _ (by simpa using hv) (by simp [hw])) ⟨ga,gb,?_⟩;have:l'=[]:=by subst hw;induction l' using aM with|nil=>rfl|cons=>cases lb
   clear hw hv l2 l1 lb la rb mb gb h2 h1;clear rb;subst this;rw[g4]at P;exact P.dS I (.tup ga ma ra)
  ·refine concat_meets ⟨_,ga,rfl⟩ ⟨_,gb,rfl⟩ noFill_tuple_add seq_tuple_add PySem.F.slot_tuple_add PySem.F.entry_tuple_add (PySem.F.args_tuple_add_2 _ _)
    (tuple_addW2 a b vs.toArray us.toArray n m _ _ _ _ (by simpa using hv) (by simpa using hw) (by rw[dY,dY,<- la,<- lb];exact br (Nat.add_le_add l1 l2) dq)) ⟨ga,gb,?_⟩
   have k:∀b o,s.heap.get? b=some o->(s.heap.push { cls:=Value.type "tuple",data:=Data.seq (vs.toArray++us.toArray) }).get? b=some o:=fun b o e=>Heap.get?_push_of_some _ e;clear hw hv l2 l1 lb la mb gb ma ga h2 h1;obtain⟨I',S⟩:=C.grow I k;have g:(s.heap.push { cls:=Value.type "tuple",data:=Data.seq (vs.toArray++us.toArray) }).get? s.heap.objs.size=some (dc (vs++us) 0):=by
    rw[Heap.get?_push_size _ rfl];simp
   exact P _ φ _ s.toks S I' (.tup g (wq I (cA _)) (As (ra.append rb) k))
end
end
section
open PySem PySem.Calls PyProof.Rows PySem.W
theorem TB:fillsNumberSlot (.type "tuple") "mul" = pure false:=
 PySem.fillsNumberSlot_seq (id:="tuple.__mul__") (r:=some (.builtin "tuple.__rmul__")) PySem.F.slot_tuple_mul.lookup (by decide +kernel) PySem.F.slot_tuple_rmul.lookup (by decide +kernel)
theorem XE:seqRepeat? (.type "tuple")=pure (some (.builtin "tuple.__mul__")):=by
 unfold seqRepeat?;rw[PySem.seqSlot_of (T:="tuple") (name:="__mul__") (id:="tuple.__mul__") PySem.F.slot_tuple_mul.lookup (by decide +kernel),PySem.seqSlot_of (T:="tuple") (name:="__rmul__") (id:="tuple.__rmul__") PySem.F.slot_tuple_rmul.lookup (by decide +kernel)];rfl
theorem Ui(a:Int)(t:Tok)(l:Addr)(items:Array Value)(n:Nat) :
  Meets (Builtin.«int.__rmul__» ⟨[.int a t,.ref l],[]⟩) (fun _ R s=>s.heap.get? l=some { cls:=.type "tuple",dict:=none,data:=.seq items n,slots:=#[] }/\R (.ok (.ret Value.notImplemented)) s):=
 .of_wp fun prog w A R s h=>by obtain⟨hp,g,d,tk,os⟩:=s;obtain⟨hl,h⟩:=h;wp_walk;exact⟨_,rfl,h⟩
theorem Mb(l:Addr)(v:Value)(n:Nat)(u:Tok) :
  Meets (Builtin.«tuple.__mul__» ⟨[.ref l,.int 2 u],[]⟩) (fun _ R s=>s.heap.get? l=some (dc [v] n)/\R (.ok (.ret (Value.ref s.heap.objs.size))) { s with heap:=s.heap.push (dc [v,v] 0) }):=
 .of_wp fun prog w A R s h=>by
  obtain⟨hp,g,d,tk,os⟩:=s;exists ak h,hl,h
  wp_walk
  exact⟨_,rfl,h⟩
section
variable {C:Cf} {φ:Ph} {H:Hp} {h h':Heap} {A:Around} {n:Nat} {E:Value->Shared->Prop} {s:Shared}
theorem Cf.oM(I:C.I φ H h)(k:∀b o,h.get? b=some o->h'.get? b=some o)(hD:h.get? D=none)(g:h'.get? D=some (dc vs m))(rs:C.Rs φ H h l vs) :
  C.I φ H h'/\St φ H h φ H h'/\C.R φ H h' (.tup l) (.ref D):=by
 exists ak (C.grow I k),I',S;exact⟨I',S,.tup g (wq I hD) (As rs k)⟩
theorem cS(h:Heap)(o:Obj):∀b ob,h.get? b=some ob->(h.push o).get? b=some ob:=fun _ _ e=>Heap.get?_push_of_some _ e
theorem aag(I:C.I φ H s.heap)(ra:C.R φ H s.heap (.tup [v]) x)(P:C.Po φ H s H (fun a8 h' z=>C.R a8 H h' (.tup [v,v]) z) Q) :
  C.wp A (binaryOp .Mult x (.int 2 u)) Q E s:=by
 obtain⟨a,vs,n,rfl,ga,ma,ra⟩:=gp ra;clear ma;cases ra with
 |cons r1 r2=>
  clear ra;cases r2;refine wpAny_binaryOp_repeat_ref (T:="tuple") (U:="int") dq ⟨_,ga,rfl⟩ (fun s'=>typeIs_int s' 2 u) TB PySem.F.fills_int_mul PySem.F.slot_int_rmul XE PySem.F.slot_int_index.lookup
   (call_meets PySem.F.slot_int_rmul (typeIs_int s 2 u) PySem.F.entry_int_rmul (PySem.F.args_int_rmul_2 _ _) (Ui 2 u a _ n)
    ⟨ga,rfl,⟨_,ga,rfl⟩,call_meets PySem.F.slot_tuple_mul ⟨_,ga,rfl⟩ PySem.F.entry_tuple_mul (PySem.F.args_tuple_mul_2 _ _) (Mb a _ n u) ⟨ga,?_⟩⟩)
  clear ga;obtain⟨I',S,r⟩:=C.oM I (cS s.heap (dc [_,_] 0)) (cA _) (Heap.get?_push_size _ rfl) (.cons r1 (.cons r1 .nil));exact P _ φ _ s.toks S I' r
set_option tactic.hygienic true in
theorem Mo(I:C.I φ H s.heap)(ra:C.R φ H s.heap a x)(rb:C.R φ H s.heap b y)(e:qT a b H=some (v,H'))
  (P:C.Po φ H s H' (fun a8 h' z=>C.R a8 H' h' v z) Q):C.wp A (binaryOp .Add x y) Q E s:=by
 unfold qT at e;split at e
 ·rename_i l hl;split at e
  ·rename_i l' sj;exists ak (guard_some e),e1,e2;rw[cU]at e1;exists dA (gk I ra hl),a,vs,n,sC,ga,rs;clear e hl ra;subst sC;exists dA (gk I rb sj),b,us,m,P1,gb,qs;clear sj rb;subst P1;refine concat_meets ⟨_,ga,rfl⟩ ⟨_,gb,rfl⟩ noFill_list_add seq_list_add PySem.F.slot_list_add PySem.F.entry_list_add (PySem.F.args_list_add_2 _ _)
    (list_addW a b vs.toArray us.toArray n m _ _ _ _ (by rw[dY,dY,<- rs.length,<- qs.length];exact br (Nat.add_le_add (dR e1.1) (dR e1.2)) dq)) ⟨ga,gb,?_⟩
   have k:=cS s.heap { cls:=Value.type "list",data:=Data.seq (vs.toArray++us.toArray) };have g:(s.heap.push { cls:=Value.type "list",data:=Data.seq (vs.toArray++us.toArray) }).get? s.heap.objs.size=some (f9 (vs++us) 0):=by
    rw[Heap.get?_push_size _ rfl];simp
   exists dr (C.fresh I k (cA _) (o:=.list (l++l')) ⟨_,_,g,rs.append qs⟩),I',S,r
   (clear g k qs gb rs ga e1 I;injections e2)
   exact P _ _ _ s.toks S I' r
  ·exact nq e
 ·exact nq e
theorem xY(h:isAdd op=true):op = .Add:=by
 induction op using PySem.Operator.casesOn with
 |Add=>rfl
 |_=>exact bf h
theorem O3(h:isMul op=true):op = .Mult:=by
 induction op using PySem.Operator.casesOn with
 |Mult=>rfl
 |_=>exact bf h
theorem Cf.binOp(I:C.I φ H s.heap)(ra:C.R φ H s.heap a x)(rb:C.R φ H s.heap b y)(e:Internal.binOp op a b H=some (v,H'))
  (P:C.Po φ H s H' (fun a8 h' z=>C.R a8 H' h' v z) Q):C.wp A (binaryOp op x y) Q E s:=by
 have lists:guard' (isAdd op) (qT a b H)=some (v,H')->C.wp A (binaryOp op x y) Q E s:=by
  intro e;exists ak (guard_some e),e1,e2;have:op = .Add:=xY e1;clear e1 e;clear e;subst this;exact Mo I ra rb e2 P
 unfold Internal.binOp at e
 induction a using Internal.V.casesOn with
 |int i=>
  clear lists;induction b using Internal.V.casesOn with
  |int j=>
   exists aD (int_at ra),t,xd;clear ra;subst xd;exists aD (int_at rb),u,qE;clear rb;subst qE;exists C.binI e,r,t,tk,ev,eh;clear e;subst ev eh;exact P.here I (.int r t) tk
  |_=>exact nq e
 |tup l=>
  have e:xf op l b H=some (v,H'):=e;unfold xf at e;clear lists;induction b using Internal.V.casesOn with
  |tup l'=>
   exists ak (guard_some e),e1,e2;rw[cU,cU]at e1;have:op = .Add:=xY e1.1;clear e;subst this;injections e2;exact QC I ra rb e1.2.1 e1.2.2 P
  |int n=>
   exists ak (guard_some e),e1,e2;have:op = .Mult:=O3 e1;clear e1 e;subst this;unfold D5 at e2
   induction l using aM with
   |nil=>exact nq e2
   |cons w r=>
    induction r using aM with
    |cons=>exact nq e2
    |nil=>
     exists ak (guard_some (show guard' (ieq n 2) (some (V.tup [w,w],H))=some (v,H')from e2)),e3,e4;rw[ieq_iff]at e3;subst e3;injections e4;exists aD (int_at rb),u,y9;clear rb;subst y9;exact aag I ra P
  |_=>exact nq e
 |none=>exact lists e
 |bool=>exact lists e
 |str=>exact lists e
 |lst=>exact lists e
 |dct=>exact lists e
 |ref=>exact lists e
end
end
section
open PySem PySem.Calls PyProof.Rows PySem.W
section
variable {prog:Program} {w:World} {A:Around} {E:Value->Shared->Prop} {s:Shared}
theorem sliced(sl:Addr)(hs:s.heap.IsSliceOf sl va vb vc)(pa:IsPart va a)(pb:IsPart vb b)(pc:IsPart vc c)(h0:c.getD 1≠0)
  (h:Q ((Builtin.Slice.sliceAdjust a b (c.getD 1) n).1,c.getD 1,Builtin.Slice.slicePlaces (Builtin.Slice.sliceAdjust a b (c.getD 1) n).1 (Builtin.Slice.sliceAdjust a b (c.getD 1) n).2 (c.getD 1)) s) :
  wpAny (model prog w) A (Builtin.Slice.sliceApplied (.ref sl) (pure (n:Int))) Q E s:=by
 exists b6 (id hs),os,nZ,fe,rS;have part:∀{v:Value} {x:Option Int} {Q:Option Int->Shared->Prop},IsPart v x->Q x s->wpAny (model prog w) A (Builtin.Slice.slicePartIndex v) Q E s:=by
  intro v x Q p hq;clear rS fe nZ h h0 pc pb pa hs;induction p using PySem.IsPart.casesOn with
  |none=>exact slicePart_none hq
  |int i t=>exact slicePart_int hq
 unfold Builtin.Slice.sliceApplied Builtin.Slice.sliceFields;refine a9 (a9 (wpAny_field nZ rS (x:=va) rfl (a9 (wpAny_field nZ rS (x:=vb) rfl (a9 (wpAny_field nZ rS (x:=vc) rfl (aw ?_)))))));refine a9 (part pc ?_);refine eG (by simpa using h0) ?_;exact a9 (part pa (a9 (part pb (a9 (aw (aw h))))))
theorem JX(ht:s.heap.get? t=some (dc vs m))(hs:s.heap.IsSliceOf sl va vb vc)
  (pa:IsPart va a) (pb:IsPart vb b) (pc:IsPart vc c) (h0:c.getD 1≠0) (lo st:Int) (k:Nat) (oD:(Builtin.Slice.sliceAdjust a b (c.getD 1) vs.length).1=lo) (Cd:c.getD 1=st)
  (hk:Builtin.Slice.slicePlaces lo (Builtin.Slice.sliceAdjust a b (c.getD 1) vs.length).2 st=k) (YD:k<=sizeLine)
  (h1:lo=0->st=1->k=vs.length->Q (.ref t) s)
  (h2:Q (.ref s.heap.objs.size) { s with heap:=s.heap.push { cls:=.type "tuple",data:=.seq ((List.range k).filterMap fun(j:Nat)=>vs[(lo+(j:Int) * st).toNat]?).toArray } }):wpAny (model prog w) A (getItem (.ref t) (.ref sl)) Q E s:=by
 subst Cd;have tj:IsTup s.heap t vs.toArray:=⟨_,ht,rfl,m,rfl⟩;exists b6 (id hs),os,nZ,fe,rS;have Z1:s.TypeIs (.ref sl) "slice":=⟨os,nZ,fe⟩;have g9:sizeOk (.seq ((List.range k).filterMap fun(j:Nat)=>vs[(lo+(j:Int) * c.getD 1).toNat]?).toArray):=by
  show Array.size _<=sizeLine;rw[dY];exact br (List.length_filterMap_le _ _) (by rw[List.length_range];exact YD)
 unfold getItem
 try with_reducible refine dH ?_
 refine a9 (wpAny_sequenceKey tj.typeIs dq ?_);refine a9 (wpAny_callSpecial?_slot (name:=Str.ofString "__getitem__") tj.typeIs PyProof.Rows.slot_tuple_getitem
  (wpAny_call_entry PyProof.Rows.slot_tuple_getitem tj.typeIs PyProof.Rows.entry_tuple_getitem ?_ (PyProof.Rows.args_tuple_getitem _ _)))
 show wpAny _ _ (Builtin.Tuple.tupleItemsOf (.ref t) >>= _) _ _ s;refine a9 (tupleItemsOf_ tj ?_);refine a9 (wpAny_typeOf Z1 ?_);refine g6 dq ?_;have es:vs.toArray.size=vs.length:=by simp
 rw[es];refine a9 (sliced sl hs pa pb pc h0 ?_);rw[oD,hk];dsimp only;have eg:(fun(j:Nat)=>vs.toArray[(lo+(j:Int) * c.getD 1).toNat]?)=fun(j:Nat)=>vs[(lo+(j:Int) * c.getD 1).toNat]?:=by funext j;simp
 rw[eg];by_cases hw:(lo == 0 && c.getD 1 == 1 && k == vs.length)=true
 ·refine g6 hw ?_;simp only[Bool.and_eq_true,beq_iff_eq]at hw;refine a9 (m:=Builtin.Tuple.tupleIsExact (.ref t)) ?_;unfold Builtin.Tuple.tupleIsExact;refine a9 (wpAny_typeOf tj.typeIs (aw ?_));refine g6 dq ?_;have q:=h1 hw.1.1 hw.1.2 hw.2;refine a9 (wpAny_rule ?_);refine aw ?_;refine⟨_,rfl,?_⟩;refine aw ?_;exact q
 ·refine eG hw ?_
  first
   |exact a9 (m:=Builtin.Tuple.tupleExact _) (wpAny_newObj_type (aw ⟨_,rfl,aw h2⟩) g9)
   |exact a9 (a9 (m:=Builtin.Tuple.tupleExact _) (wpAny_newObj_type (aw ⟨_,rfl,aw h2⟩) g9))
end
theorem J7(b n:Nat):Builtin.Slice.sliceAdjust none (some (b:Int)) 1 (n:Int)=(0,((min b n:Nat):Int)):=by
 unfold Builtin.Slice.sliceAdjust;have h1:¬ ((1:Int)<0):=by decide
 have h2:¬ ((b:Int)<0):=by exact Int.not_ofNat_neg b
 simp only[h1,h2,if_false];congr 1
 lia
theorem LN(k:Nat):Builtin.Slice.slicePlaces 0 (k:Int) 1=k:=by
 unfold Builtin.Slice.slicePlaces;have h1:(1:Int) > 0:=by exact Int.one_pos
 simp only[h1,if_true,Int.ediv_one];split <;> lia
theorem HX(n:Nat):Builtin.Slice.sliceAdjust none none (-1) (n:Int)=((n:Int) - 1,-1):=by
 unfold Builtin.Slice.sliceAdjust;simp
theorem MZ(n:Nat):Builtin.Slice.slicePlaces ((n:Int) - 1) (-1) (-1)=n:=by
 unfold Builtin.Slice.slicePlaces;have h1:¬ ((-1:Int) > 0):=by decide
 simp only[h1,if_false,Int.neg_neg,Int.ediv_one];split <;> lia
theorem aaL(vs:List Value)(k:Nat)(hk:k<=vs.length):((List.range k).filterMap fun(j:Nat)=>vs[((0:Int)+(j:Int) * 1).toNat]?)=vs.take k:=by
 induction k with
 |zero=>simp
 |succ k ih=>
  rw[List.range_succ,List.filterMap_append,ih (fh hk),List.take_add_one];congr 1;have:((0:Int)+(k:Int) * 1).toNat=k:=by lia
  simp only[List.filterMap_cons,List.filterMap_nil,this];clear this hk ih;induction vs[k]? using aL <;> rfl
theorem Xm:∀(vs:List Value),((List.range vs.length).filterMap fun(j:Nat)=>vs[(((vs.length:Int) - 1)+(j:Int) * (-1)).toNat]?)=vs.reverse:=by
 intro vs;have key:∀k,k<=vs.length->((List.range k).filterMap fun(j:Nat)=>vs[(((vs.length:Int) - 1)+(j:Int) * (-1)).toNat]?)=vs.reverse.take k:=by
  intro k
  induction k with
  |zero=>intro _;simp
  |succ k ih=>
   intro hk;rw[List.range_succ,List.filterMap_append,ih (fh hk),List.take_add_one];congr 1;have:(((vs.length:Int) - 1)+(k:Int) * (-1)).toNat=vs.length - 1 - k:=by lia
   simp only[List.filterMap_cons,List.filterMap_nil,this];rw[List.getElem?_reverse (by assumption)];clear this hk ih;induction vs[vs.length - 1 - k]? using aL <;> rfl
 rw[key _ (cx _),List.take_of_length_le (by simp)]
section
variable {C:Cf} {φ:Ph} {H:Hp} {h h':Heap} {A:Around} {n:Nat} {E:Value->Shared->Prop} {s:Shared}
theorem Mk(I:C.I φ H s.heap){Q:Value->Shared->Prop}{l:List V}{x:Value}{sl:Addr}{k:Nat}{u:Tok}(ra:C.R φ H s.heap (.tup l) x)(hs:s.heap.IsSliceOf sl .none (.int k u) .none)(h1:lenOk l=true)(h2:k<=l.length)
  (P:C.Po φ H s H (fun a8 h' z=>C.R a8 H h' (.tup (l.take k)) z) Q):C.wp A (getItem x (.ref sl)) Q E s:=by
 obtain⟨a,vs,m,rfl,ga,ma,ra⟩:=gp ra;have la:=ra.length;refine JX ga hs .none (.int (k:Int) u) .none dq 0 1 k (by show(Builtin.Slice.sliceAdjust none (some (k:Int)) 1 (vs.length:Int)).1=0;rw[J7]) rfl
  (by show Builtin.Slice.slicePlaces 0 (Builtin.Slice.sliceAdjust none (some (k:Int)) 1 (vs.length:Int)).2 1=k;rw[J7,Nat.min_eq_left (le_of_le_of_eq h2 la),LN]) (by have:=dR h1;exact jl (br h2 this)) ?_ ?_
 ·intro _ _ hk;have:l.take k=l:=List.take_of_length_le (by lia);rw[this]at P;exact P.dS I (.tup ga ma ra)
 ·rw[aaL vs k (le_of_le_of_eq h2 la)];clear la ma ga h2 h1 hs;obtain⟨I',S,r⟩:=C.oM I (cS s.heap _) (cA _) (Heap.get?_push_size _ rfl) (ra.take k);exact P _ φ _ s.toks S I' r
theorem YY(I:C.I φ H s.heap){Q:Value->Shared->Prop}{l:List V}{x:Value}{sl:Addr}{k:Nat}{u:Tok}(ra:C.R φ H s.heap (.tup l) x)(hs:s.heap.IsSliceOf sl (.int k u) .none .none)(h1:lenOk l=true)(h2:k<=l.length)(h3:1<=k)
  (P:C.Po φ H s H (fun a8 h' z=>C.R a8 H h' (.tup (l.drop k)) z) Q):C.wp A (getItem x (.ref sl)) Q E s:=by
 obtain⟨a,vs,m,rfl,ga,ma,ra⟩:=gp ra;have la:=ra.length;have ht:IsTup s.heap a vs.toArray:=⟨_,ga,rfl,m,rfl⟩;refine PyProof.Rows.getItem_tuple_from ht hs h3 (by simp;exact le_of_le_of_eq h2 la) ?_ (by simp;exact jl (by have:=dR h1;lia));clear ht la ma ga h3 h2 h1 hs;obtain⟨I',S,r⟩:=C.oM I (cS s.heap _) (cA _) (Heap.get?_push_size _ rfl) (ra.drop k);exact P _ φ _ s.toks S I' r
theorem N2(I:C.I φ H s.heap)(ra:C.R φ H s.heap (.tup l) x)(hs:s.heap.IsSliceOf sl .none .none (.int (-1) u))(h1:lenOk l=true)
  (P:C.Po φ H s H (fun a8 h' z=>C.R a8 H h' (.tup l.reverse) z) Q):C.wp A (getItem x (.ref sl)) Q E s:=by
 obtain⟨a,vs,m,rfl,ga,ma,ra⟩:=gp ra;have la:=ra.length;refine JX ga hs .none .none (.int (-1) u) dq ((vs.length:Int) - 1) (-1) vs.length (by show(Builtin.Slice.sliceAdjust none none (-1) (vs.length:Int)).1=_;rw[HX]) rfl
  (by show Builtin.Slice.slicePlaces _ (Builtin.Slice.sliceAdjust none none (-1) (vs.length:Int)).2 (-1)=_;rw[HX,MZ]) (by have:=dR h1;exact jl (by lia)) ?_ ?_
 ·intro _ h _;clear la ra ma ga P h1 hs I;cases h
 ·rw[Xm vs];clear la ma ga h1 hs;obtain⟨I',S,r⟩:=C.oM I (cS s.heap _) (cA _) (Heap.get?_push_size _ rfl) ra.reverse;exact P _ φ _ s.toks S I' r
theorem IY(I:C.I φ H s.heap)(ra:C.R φ H s.heap x y)(hl:listView H x=some l)(hs:s.heap.IsSliceOf sl va vb .none)(pa:IsPart va a)(pb:IsPart vb b)(h1:lenOk l=true)
  (hp:∀vs,C.Rs φ H s.heap l vs->∃vs',slicePick vs.toArray a b none=vs'.toArray/\C.Rs φ H s.heap l' vs')
  (P:C.Po φ H s (newObj H (.list l')).2 (fun a8 h' z=>C.R a8 (newObj H (.list l')).2 h' (newObj H (.list l')).1 z) Q):C.wp A (getItem y (.ref sl)) Q E s:=by
 exists dA (gk I ra hl),d,vs,m,Uz,ga,rs;clear hl ra;subst Uz;exists ae (hp vs rs),vs',ep,YZ;have hL:s.heap.IsList d vs.toArray:=⟨_,ga,rfl,m,rfl⟩;refine wpAny_getItem_list_slice hL hs pa pb .none (by simp) ?_ (by rw[dY,<- rs.length];exact jl (dR h1));rw[ep];clear hL ep rs ga hp h1 pb pa hs;obtain⟨I',S,r⟩:=C.fresh I (cS s.heap _) (cA _) (o:=.list l') ⟨_,_,Heap.get?_push_size _ rfl,YZ⟩;exact P _ _ _ s.toks S I' r
theorem Cf.gU(I:C.I φ H s.heap){Q:Value->Shared->Prop}{up:Bool}{a:V}{x:Value}{sl:Addr}{k:Nat}{u:Tok}{v:V}{H':Hp}(ra:C.R φ H s.heap a x)(hs:s.heap.IsSliceOf sl (if up then .none else .int k u) (if up then .int k u else .none) .none)
  (e:Internal.gU up a k H=some (v,H')) (P:C.Po φ H s H' (fun a8 h' z=>C.R a8 H' h' v z) Q):C.wp A (getItem x (.ref sl)) Q E s:=by
 have lists:∀l,listView H a=some l->(match (generalizing:=false) up with|true=>upL l k H|false=>fromL l k H)=some (v,H')->C.wp A (getItem x (.ref sl)) Q E s:=by
  intro l hl e
  induction up using aB with
  |true=>
   exists ak (guard_some e),e1,e2
   (clear e;injections e2)
   exact IY I ra hl hs .none (.int _ _) e1 (fun vs rs=>⟨vs.take k,by rw[slicePick_upto'],rs.take k⟩) P
  |false=>
   exists ak (guard_some e),e1,e2
   (clear e;injections e2)
   rw[cU]at e1;exact IY I ra hl hs (.int _ _) .none e1.1 (fun vs rs=>⟨vs.drop k,by rw[slicePick_from'],rs.drop k⟩) P
 unfold Internal.gU at e
 induction a using Internal.V.casesOn with
 |tup l=>
  clear lists;induction up using aB with
  |true=>
   exists ak (guard_some e),e1,e2;injections e2;rw[cU]at e1;exact Mk I ra hs e1.1 (bC e1.2) P
  |false=>
   exists ak (guard_some e),e1,e2;injections e2;rw[cU,cU]at e1;exact YY I ra hs e1.1 (bC e1.2.1) (bC e1.2.2) P
 |none=>exact nq e
 |bool=>exact nq e
 |int=>exact nq e
 |str=>exact nq e
 |lst l=>exact lists l rfl e
 |dct=>exact nq e
 |ref k'=>
  dsimp only at e;clear ra P hs I;induction hl:listView H (.ref k')using aL with
  |none=>rw[hl]at e;exact nq e
  |some l=>rw[hl]at e;exact lists l hl e
theorem PE(e:qy a H=some (v,H')):∃l,a = .tup l/\v = .tup l.reverse/\H'=H/\lenOk l=true:=by
 unfold qy at e;split at e
 ·exists ak (guard_some e),e1,e2
  (clear e;injections e2)
  exact⟨_,rfl,rfl,rfl,e1⟩
 ·exact nq e
set_option tactic.hygienic true in
theorem Vu(e:subL l i=some v):∃n:Nat,i = .int n/\lenOk l=true/\l[n]?=some v:=by
 unfold subL at e;split at e
 ·rename_i j;split at e
  ·exists ak (guard_some e),e1,e2;exact⟨_,rfl,e1,e2⟩
  ·exact nq e
 ·exact nq e
set_option tactic.hygienic true in
theorem Cf.sub(I:C.I φ H s.heap)(R:Rm A n)(ra:C.R φ H s.heap a x)(ri:C.R φ H s.heap i y)(e:subs H a i=some v)
  (hs:subscripted slice false x y=operate [x,y] (getItem x y)) (h:∀z tk,C.R φ H s.heap v z->Q z { s with toks:=tk }):C.wp A (subscriptTail value slice x y) Q E s:=by
 unfold subs at e;split at e
 ·rename_i l hl;unfold subD at e;split at e
  ·rename_i k hk;have:=sa hk;clear hk;subst this;exists aD (oS ri),ka,PR;subst PR;exists jZ (qS I ra hl),d,es,m,Av,g,re,nd,ns;clear ns hl ra I;subst Av;exists ae (EX.dict g re nd),xs,px,D;exists aT ((px.get k).1 v e),a',x',e',rx;exact tail_any D.typeIs slot_dict_getitem.lookup (wpAny_getItem_heap (ur R) (lh ri) D e' (h _ _ rx)) hs
  ·exact nq e
 ·split at e
  ·rename_i l hl;exists b6 (Vu e),k,B2,e1,e2;clear e R;subst B2;exists aD (int_at ri),u,rJ;clear ri;subst rJ;exists dA (q8 I ra hl),d,vs,m,sA,hg,rs;clear hl ra I;subst sA;exists ae (rs.get e2),z,hz,rz;have hk:k<vs.length:=(fo.mp hz).1;have kA:k<1000000:=by have:=dR e1;have:=rs.length;lia
   have hh:=h z s.toks rz;clear rz rs e2 e1 h;rcases hg with hg|hg
   ·have ht:IsTup s.heap d vs.toArray:=⟨_,hg,rfl,m,rfl⟩;refine tail_any ht.typeIs PyProof.Rows.slot_tuple_getitem.lookup (PyProof.Rows.getItem_tuple (j:=k) ht (Int.neg_ofNat_le_natCast (2 ^ 63) k) (by lia) ?_ (by simpa using hz) hh) hs;unfold seqIndex?;simp;lia
   ·have hL:s.heap.IsList d vs.toArray:=⟨_,hg,rfl,m,rfl⟩;exact tail_any hL.typeIs PySem.slot_list_getitem.lookup (wpAny_getItem_list hL (Int.natCast_nonneg k) (by lia) (by simpa using hz) hh) hs
  ·exact nq e
end
end
section
open PySem PySem.Calls PyProof.Rows PySem.W
section
variable {prog:Program} {w:World} {A:Around} {E:Value->Shared->Prop} {s:Shared}
theorem Mc{α:Type}{cmp:Nat->Nat->(Bool->Shared->Prop)->Shared->Prop}{f:Nat->Nat->Option Bool}{s:Shared}(hc:∀i j c,f i j=some c->∀C:Bool->Shared->Prop,C c s->cmp i j C s){G:α->Shared->Prop} :
  ∀(t:KasT α) {p:α},treeRun f t=some p->G p s->t.kasWp cmp G s:=by
 intro t
 induction t with
 |ret a=>intro p e h;exists e;exact h
 |ask i j k ih=>
  intro p e h;have e:(match f i j with
   |some c=>treeRun f (k c)
   |none=>none)=some p:=e
  exact sT e fun c kM e=>hc i j c kM _ (ih c e h)
noncomputable def kT(vs:List Value)(p:Option (Array Nat)):List Value:=match p with
 |some p=>p.toList.map fun i=>vs.getD i Value.none
 |none=>vs
theorem xZ(ho:s.heap.get? a=some (seqObj "list" vs.toArray n))(tW:vs.length<64)
  (ep:(vs.length<2/\p=none)\/(2<=vs.length/\∃q,p=some q/\treeRun f (kas_sort vs.length)=some q))
  (hk:∀h1 e1,(∀b ob,b≠a->s.heap.get? b=some ob->h1.get? b=some ob)->h1.get? a=some (seqObj "list" #[] e1)->2<=vs.length->
   ∃κ,(∀Q:SortKind->Shared->Prop,Q κ { s with heap:=h1 }->wpAny (model prog w) A (keyKind' vs.toArray) Q E { s with heap:=h1 })/\∀i j c,f i j=some c->∀C:Bool->Shared->Prop,C c { s with heap:=h1 }->kas_ask prog w A κ vs i j C { s with heap:=h1 })
  (h:∀h' n',h'.get? a=some (seqObj "list" (kT vs p).toArray n')->(∀b ob,b≠a->s.heap.get? b=some ob->h'.get? b=some ob)->P (.done (.ret .none)) { s with heap:=h' }) :
  wpAny (model prog w) A (Builtin.«list.sort» ⟨[.ref a],[]⟩) P E s:=by
 have ha:a<s.heap.objs.size:=Heap.lt_size ho;clear ha;obtain⟨e1,Cy⟩:∃e1,(s.heap.update a (Obj.mapSeq fun _=>(#[]:Array Value))).get? a=some (seqObj "list" #[] e1):=⟨_,get?_update_seq ho fun _=>#[]⟩;have nG:(((s.heap.update a (Obj.mapSeq fun _=>#[])).push (seqObj "tuple" vs.toArray 0)).push (seqObj "list" #[] 0)).get? a=some (seqObj "list" #[] e1):=
  Heap.get?_push_of_some _ (Heap.get?_push_of_some _ Cy)
 have jr:∀b ob,b≠a->s.heap.get? b=some ob->(((s.heap.update a (Obj.mapSeq fun _=>#[])).push (seqObj "tuple" vs.toArray 0)).push (seqObj "list" #[] 0)).get? b=some ob:=fun b ob hb e=>
  Heap.get?_push_of_some _ (Heap.get?_push_of_some _ (by rw[Heap.get?_update_ne _ _ _ _ hb];exact e))
 have fin:∀out:Array Value,out=(kT vs p).toArray->P (.done (.ret .none)) { s with heap:=(((s.heap.update a (Obj.mapSeq fun _=>#[])).push (seqObj "tuple" vs.toArray 0)).push (seqObj "list" #[] 0)).update a (Obj.mapSeq fun _=>out) }:=by
  rintro out rfl;exact h _ _ (get?_update_seq nG fun _=>(kT vs p).toArray) fun b ob hb e=>by rw[Heap.get?_update_ne _ _ _ _ hb];exact jr b ob hb e
 rw[list_sort_plain];refine a9 (listItems_at ho rfl ?_);refine a9 (listUpdate_at ho rfl ?_ (by rw[dY,sizeLine_eq];lia) (f6 _));refine a9 (seqEpoch_at Cy rfl ?_);refine a9 (wpAny_newTuple ?_ (by show vs.length<=_;rw[sizeLine_eq];lia));refine a9 (wpAny_newList ?_ (f6 _));refine dH ?_;generalize hg:((s.heap.update a (Obj.mapSeq fun _=>(#[]:Array Value))).push (seqObj "tuple" vs.toArray 0)).push (seqObj "list" #[] 0)=h6 at nG jr fin ⊢;clear hg;dsimp only;have hz:vs.toArray.size=vs.length:=by simp
 clear Cy h ho;rcases ep with⟨h2,rfl⟩|⟨h2,q,rfl,hq⟩
 ·have gu:vs.toArray.size<2:=by assumption
  rw[if_pos gu,if_pos gu];refine a9 (aw ?_);rw[StateT.run_pure];refine a9 (aw ?_);dsimp only;have Gi:(arrOf (SortSt.mk' general' (vs.toArray.zip vs.toArray) #[] 7 none)).map (·.2)=vs.toArray:=by
   show(vs.toArray.zip vs.toArray).map (·.2)=vs.toArray;apply Array.toList_inj.mp;simp [List.map_snd_zip]
  refine a9 (seqEpoch_at nG rfl ?_);refine a9 (listUpdate_at nG rfl ?_ (f6 _) (by rw[Gi,sizeLine_eq];simp;lia));simp only[bne_self_eq_false,Bool.false_eq_true,if_false];exact aw (fin _ Gi)
 ·have gu:¬ vs.toArray.size<2:=by exact(fun{a b}=>Nat.not_lt.mpr) h2
  rw[if_neg gu,if_neg gu];exists ae (hk _ e1 jr nG h2),κ,ZD,Xn;refine a9 (ZD _ ?_);refine a9 (cu (kat_run (ks:=vs) (Q:=fun mS s'=>s'={ s with heap:=h6 }/\q.size=vs.length/\arrOf mS=q.map (kas_item (vs.toArray.zip vs.toArray))/\failedOf mS=none)
   (G:=fun p' s'=>p'=q/\s'={ s with heap:=h6 })
   rfl h2 tW (by rintro p' mS s' a1 a2 a3 ⟨rfl,rfl⟩;exact⟨rfl,a1,a2,a3⟩) (Mc Xn _ hq ⟨rfl,rfl⟩)) ?_ fun _ _ e=>e)
  rintro ⟨⟨⟩,mS⟩ s' ⟨rfl,hp,Tx,hf⟩;have GU:=kat_snds rfl Tx;refine a9 (seqEpoch_at nG rfl ?_);refine a9 (listUpdate_at nG rfl ?_ (f6 _) (by rw[GU,dY,aJ,Array.length_toList,hp,sizeLine_eq];lia));rw[hf];simp only[bne_self_eq_false,Bool.false_eq_true,if_false];exact aw (fin _ GU)
theorem EF(hl:s.heap.IsList l vs.toArray)(tW:vs.length<64)
  (ep:(vs.length<2/\p=none)\/(2<=vs.length/\∃q,p=some q/\treeRun f (kas_sort vs.length)=some q))
  (hk:∀h1,(∀b ob,s.heap.get? b=some ob->h1.get? b=some ob)->2<=vs.length->
   ∃κ,(∀Q:SortKind->Shared->Prop,Q κ { s with heap:=h1 }->wpAny (model prog w) A.in1.in1 (keyKind' vs.toArray) Q E { s with heap:=h1 })/\∀i j c,f i j=some c->∀C:Bool->Shared->Prop,C c { s with heap:=h1 }->kas_ask prog w A.in1.in1 κ vs i j C { s with heap:=h1 })
  (h:∀h' D n',s.heap.get? D=none->h'.get? D=some (seqObj "list" (kT vs p).toArray n')->(∀b ob,s.heap.get? b=some ob->h'.get? b=some ob)->Q (.ref D) { s with heap:=h' }) :
  wpAny (model prog w) A (call (.builtin "sorted") [.ref l]) Q E s:=by
 refine Calls.call_function_entry kind_sorted plain_sorted entry_sorted (args_sorted1 _) ?_;unfold Builtin.«sorted»;refine a9 (m:=checkCount "sorted" 1 1 _) (aw ?_);refine a9 (collect_list hl ?_ (by rw[sizeLine_eq];lia));refine a9 (wpAny_newList ?_ (by rw[sizeLine_eq];lia));have d4:((s.heap.push (seqObj "list" #[] 0)).update s.heap.objs.size (Obj.mapSeq (· ++ vs.toArray))).objs.size=s.heap.objs.size+1:=by
  rw[Heap.size_update,size_push']
 have zV:(((s.heap.push (seqObj "list" #[] 0)).update s.heap.objs.size (Obj.mapSeq (· ++ vs.toArray))).push (seqObj "list" vs.toArray 0)).get? (s.heap.objs.size+1)=some (seqObj "list" vs.toArray 0):=by
  rw[<- d4];exact Heap.get?_push_size _ rfl
 have keep:∀b o,s.heap.get? b=some o->(((s.heap.push (seqObj "list" #[] 0)).update s.heap.objs.size (Obj.mapSeq (· ++ vs.toArray))).push (seqObj "list" vs.toArray 0)).get? b=some o:=fun b o q=>by
  have dB:b<s.heap.objs.size:=Heap.lt_size q;rw[Heap.get?_push_ne _ _ _ (by rw[d4];exact eV (Nat.lt_succ_of_lt dB)),Heap.get?_update_ne _ _ _ _ (eV dB),Heap.get?_push_ne _ _ _ (eV dB)];exact q
 have dP:s.heap.get? (s.heap.objs.size+1)=none:=by
  clear keep zV d4 h hk ep tW hl;induction q:s.heap.get? (s.heap.objs.size+1)using aL with
  |none=>rfl
  |some o=>exact absurd (Heap.lt_size q) (Nat.not_lt.mpr (eZ _))
 have bN:∀b o,s.heap.get? b=some o->b≠s.heap.objs.size+1:=fun b o q z=>by rw[z,dP]at q;exact nq q
 rw[d4];refine a9 (dH (wpAny_call_entry slot_list_sort ⟨_,zV,rfl⟩ entry_list_sort ?body (args_list_sort _)))
 case body=>
  refine xZ (s:={ s with heap:=((s.heap.push (seqObj "list" #[] 0)).update s.heap.objs.size (Obj.mapSeq (· ++ vs.toArray))).push (seqObj "list" vs.toArray 0) }) zV tW ep
   (fun h1 e1 k _ h2=>hk h1 (fun b ob q=>k b ob (bN b ob q) (keep b ob q)) h2) fun h' n' hg k=>⟨_,rfl,?_⟩
  exact aw ⟨_,rfl,h h' _ n' dP hg fun b ob q=>k b ob (bN b ob q) (keep b ob q)⟩
noncomputable def J6:List V->Prop
 |.int _::_=>True
 |_=>False
theorem ML(hu:A.units+100<cLine)(Tp:fin=decide (N<M))(h:Q r s)(rest:List (Value×Value)):∀(i:Nat) (vs us:List Value) (x y:List V) (as bs:List Addr) (c:Nat),rest=vs.zip us->TI false 7 r s.heap N M vs us x y as bs c->(b=true->i=0->J6 x/\J6 y)->KatLex prog w A b fin Q rest i s:=by
 induction rest with
 |nil=>
  intro i vs us x y as bs c hr T _;refine kat_nil ?_;have q:=Fv T hr;have q2:Value.bool (decide (N<M)) = .bool r:=q;rw[Tp,Value.bool.inj q2];exact h
 |cons pq rest ih=>
  intro i vs us x y as bs c hr T hf;obtain⟨p,q⟩:=pq;refine kat_cons ?_;exists JN (JP T hr),a1,a2,b1,b2,lE,nY,r1,q1,c1,c2,d1,d2,e2,hT,Hd;have Tu:cJ=7:=rfl;refine SeqAt.eqAt_reads (bE a1) (bE b1) A s _ _ _ _ r1 q1 c1 c2 (by lia) prog w _ _ ?_;rw[<- qc 7 a1 b1 (fh d1)];clear hr T;induction ht:teq (7+1) a1 b1 using aB with
  |true=>
   rw[show teq deepN a1 b1=true from ht]at e2;exists uR (hT e2),vs,us,x,y,as,bs,c,hr,T;exact kat_yes (ih (i+1) vs us x y as bs c hr T fun _ z=>absurd z (kb i))
  |false=>
   rw[show teq deepN a1 b1=false from ht]at e2;refine kat_no ?_;clear ih hT;induction hb:(b && i == 0)using aB with
   |true=>
    rw[Bool.and_eq_true]at hb;exists ak (hf hb.1 (by simpa using hb.2)),f1,f2;rw[Hd.1]at f1;rw[Hd.2]at f2
    induction a1 using Internal.V.casesOn with
    |int i1=>
     induction b1 using Internal.V.casesOn with
     |int j1=>
      cases r1;cases q1;cases aH e2;refine oneLt_int ?_;rw[<- ilt_eq];exact h
     |_=>exact f2.elim
    |_=>exact f1.elim
   |false=>exact kat_one _ _ (K6 false 7 prog w A s a1 b1 _ _ _ _ r _ _ r1 q1 c1 c2 (fh d1) (fh d2) e2 (by lia) h)
set_option tactic.hygienic true in
theorem Df:∀(H:Hp) (n:Nat) (v v':V),res e0 n v=some v'->res H n v=some v'/\v'=v:=by
 intro H n
 induction n with
 |zero=>intro v v' e;exact nq e
 |succ n ih=>
  have lists:∀(l l':List V),resL (res e0 n) l=some l'->resL (res H n) l=some l'/\l'=l:=by
   intro l
   induction l with
   |nil=>intro l' e;exists e;exact⟨rfl,rfl⟩
   |cons a r oT=>
    intro l' e;dsimp only[resL]at e ⊢;exists jY e,b,hb,e
    ·exists g5 e,t,ht,e
     ·exists e;exists ak (ih _ _ hb),h1,P7;clear hb ih;subst P7;exists ak (oT _ ht),h2,NP;clear ht oT;subst NP;rw[h1,h2];exact⟨rfl,rfl⟩
  intro v v' e;clear ih;induction v using Internal.V.casesOn with
  |none=>exists e;exact⟨rfl,rfl⟩
  |bool=>exists e;exact⟨rfl,rfl⟩
  |int=>exists e;exact⟨rfl,rfl⟩
  |str l=>exact⟨e,(aH (guard_some (b:=codesOk l) (x:=some (V.str l)) e).2).symm⟩
  |tup l=>
   exists ae (Hl (x:=resL (res e0 n) l) e),l',e1,z;subst z;exact⟨congrArg mkT (lists _ _ e1).1,congrArg V.tup (lists _ _ e1).2⟩
  |lst l=>
   exists ae (Cb (x:=resL (res e0 n) l) e),l',e1,z;subst z;exact⟨congrArg mkL (lists _ _ e1).1,congrArg V.lst (lists _ _ e1).2⟩
  |dct=>exact nq e
  |ref=>exact nq e
end
section
variable {C:Cf} {φ:Ph} {H:Hp} {h h':Heap} {A:Around} {n:Nat} {E:Value->Shared->Prop} {s:Shared}
theorem AL(rs:C.Rs φ H h l vs)(i:Nat):C.R φ H h (cQ l i) (vs.getD i Value.none):=by
 unfold cQ
 induction e:l[i]? using aL with
 |none=>
  have hv:vs[i]?=none:=by
   rw[List.getElem?_eq_none_iff]at e ⊢;rw[<- rs.length];exact e
  rw[j7,j7,e,hv];exact .none
 |some v=>
  exists ae (rs.get e),x,hx,r;rw[j7,j7,e,hx];exact r
set_option tactic.hygienic true in
theorem Wb(e:jk g H a b=some r):∃a' b',res H cJ a=some a'/\res H cJ b=some b'/\tcmp g deepN a' b'=some r:=by
 exists jY e,a',ea,e;exists jY e,b',eb,e;exact⟨a',b',ea,eb,e⟩
theorem Qc:allKind k l=true->∀v∈l,headKind v=k:=by
 induction l with
 |nil=>
  intro _ v m;cases m
 |cons x r ih=>
  intro e v m;exists ak (nJ e),hk,e
  ·rcases aI.mp m with rfl|m
   ·exact cY hk
   ·exact ih e v m
theorem Cv(e:headKind v=k+1):∃x l,v = .tup (x::l)/\((k=0/\∃i,x = .int i)\/(k=1/\∃t,x = .tup t)):=by
 induction v using V.casesOn with
 |tup l=>
  induction l using aM with
  |nil=>exact absurd e (kb k).symm
  |cons x l=>
   refine⟨x,l,rfl,?_⟩
   induction x using V.casesOn with
   |int i=>exact .inl ⟨(gW e).symm,_,rfl⟩
   |tup t=>exact .inr ⟨(gW e).symm,_,rfl⟩
   |_=>exact absurd e (kb k).symm
 |_=>exact absurd e (kb k).symm
theorem NN:∀{vs:List Value},C.Rs φ H s.heap l vs->(∀v∈l,headKind v=k+1)->∃fs,KatTups s.heap vs fs/\fs.length=vs.length/\∀v∈fs,Looks M s.heap (typeOf v) (.type (if k=0 then "int" else "tuple")):=by
 induction l with
 |nil=>intro _ r _;cases r;exact⟨[],.nil,rfl,fun v m=>nomatch m⟩
 |cons v l ih=>
  intro _ r hk;cases r with
  |cons r1 r2=>
   exists aT (Cv (hk v (.head _))),x,t,Af,hx;subst Af;exists b6 (ih r2 fun u m=>hk u (.tail _ m)),fs,q1,q2,q3;exists fO (gp r1),a,vs,m,sA,g,nm,rt;clear nm r1 hk r2 ih;subst sA;cases rt with
   |@cons _ f _ vs' rx rt=>
    refine⟨f::fs,.cons (o:=dc (f::vs') m) (xs:=(f::vs').toArray) (n:=m) g rfl rfl (by simp) q1,by simp [q2],fun u mu=>?_⟩;rcases aI.mp mu with rfl|mu
    ·clear mu q3;rcases hx with⟨rfl,i,rfl⟩|⟨rfl,t',rfl⟩
     ·exists aD (int_at rx),t,Ca;clear rx;subst Ca;exact .now
     ·exists dA (gp rx),b,Z0,Z0,MC,g',Z0;clear rx;subst MC;exact(Looks.ld g').andThen .now
    ·exact q3 u mu
theorem Jx(I:C.I φ H s.heap)(rs:C.Rs φ H s.heap l vs)(hk:allKind (k+1) l=true)(bN:0<l.length)(hu:A.units+100<cLine) :
  ∃κ,(∀Q:SortKind->Shared->Prop,Q κ s->C.wp A (keyKind' vs.toArray) Q E s)/\∀i j c,iH l i j=some c->∀G:Bool->Shared->Prop,G c s->kas_ask C.prog C.w A κ vs i j G s:=by
 have hm:=Qc hk;exists b6 (NN (M:=model C.prog C.w) rs hm),fs,q1,q2,q3;have hl:=rs.length;refine⟨tuples' (Value.type (if k=0 then "int" else "tuple") != Value.type "tuple"),fun Q hq=>kat_kind q1 (by lia) q3 (by split <;> decide) hq,fun i j c ec G hG=>?_⟩;exists cB (Wb ec),a',b',ea,eb,et;exists ak (Df H _ _ _ ea),ea,Ro;clear ec hl q3 q2 q1 bN hk;subst Ro;exists ak (Df H _ _ _ eb),eb,aap;subst aap;have ri:=AL rs i;have rj:=AL rs j;exists b6 (jN I _ _ _ _ ea ri),as,p1,p2,p3;exists b6 (jN I _ _ _ _ eb rj),bs,o1,o2,o3;have idx:∀i,cQ l i = .none\/headKind (cQ l i)=k+1:=fun i=>by
  unfold cQ;rw[j7];clear o3 o2 o1 p3 p2 p1 rj ri eb et ea hG hu rs I;clear eb ea;induction e:l[i]? using aL with
  |none=>exact .inl rfl
  |some v=>exact .inr (hm v (eA e))
 have hi:∃x l',cQ l i = .tup (x::l')/\((k=0/\∃i,x = .int i)\/(k=1/\∃t,x = .tup t)):=by
  clear o3 o2 o1 p3 p2 p1 rj ri eb ea hG hm hu rs I;clear eb ea;rcases idx i with z|z
  ·rw[z]at et;exact nq et
  ·exact Cv z
 have hj:∃x l',cQ l j = .tup (x::l')/\((k=0/\∃i,x = .int i)\/(k=1/\∃t,x = .tup t)):=by
  clear o3 o2 o1 p3 p2 p1 rj ri eb ea hG hm hu rs I;clear eb ea;rcases idx j with z|z
  ·rw[z]at et;exists aT hi,x,l',e,Z0
   try clear hi
   rw[e]at et;exact nq et
  ·exact Cv z
 exists aT hi,x,l1,e1,hx
 try clear hi
 exists aT hj,y,l2,e2,hy
 try clear hj
 unfold kas_ask;revert p1 p2 p3 o1 o2 o3 et;rw[e1,e2];dsimp only[bE];intro et p1 p2 p3 o1 o2 o3;generalize vs.getD i Value.none=u at *;generalize vs.getD j Value.none=v at *;clear rj ri e2 e1 idx eb ea hm rs I;clear eb ea;cases p1 with
 |@tuple xa xo xs xn _ _ h1 h2 h3 h4=>
  cases o1 with
  |@tuple ya yo ys yn _ _ k1 k2 k3 k4=>
   have d1:PyData.depthAll (pyVs (x::l1))+1<=cJ:=p3;have d2:PyData.depthAll (pyVs (y::l2))+1<=cJ:=o3;refine kat_lt h1 h3 k1 k3 (ML (N:=xs.size) (M:=ys.size) hu rfl hG _ 0 _ _ (x::l1) (y::l2) _ _ 0 rfl ⟨h4,k4,p2,o2,d1,d2,et,by rw[Array.length_toList,Nat.zero_add],by rw[Array.length_toList,Nat.zero_add]⟩ fun hb _=>?_);rcases hx with⟨rfl,i,rfl⟩|⟨rfl,t,rfl⟩
   ·clear hb;rcases hy with⟨_,i',rfl⟩|⟨z,_⟩
    ·exact⟨trivial,trivial⟩
    ·lia
   ·simp at hb
set_option tactic.hygienic true in
theorem Du(e:vsort l=some l'):l.length<=60/\((l.length<2/\l'=l)\/(2<=l.length/\∃k q,allKind (k+1) l=true/\treeRun (iH l) (kas_sort l.length)=some q/\l'=q.toList.map (cQ l))):=by
 induction l using aM with
 |nil=>exact⟨f6 _,.inl ⟨Nat.zero_lt_two,(aH e).symm⟩⟩
 |cons x r=>induction r using aM with
  |nil=>exact⟨bC rfl,.inl ⟨Nat.one_lt_two,(aH e).symm⟩⟩
  |cons y r=>
   exists ak (guard_some (b:=b8 (x::y::r).length 60) (x:=sortGo (x::y::r) (headKind x)) e),e1,e2;refine⟨bC e1,.inr ⟨Nat.succ_le_succ (Nat.succ_le_succ (f6 _)),?_⟩⟩;clear e e1;revert e2;generalize headKind x=k;intro e2
   induction k using bL with
   |zero=>exact nq e2
   |succ k=>
    exists ak (guard_some e2),e3,e4;exists Bl e4,q,hq,e4
    ·(clear e2;exists e4)
     exact⟨_,q,e3,hq,rfl⟩
theorem yz(rs:C.Rs φ H h l vs):∀(q:List Nat),C.Rs φ H h (q.map (cQ l)) (q.map fun i=>vs.getD i Value.none)
 |[]=>.nil
 |i::q=>.cons (AL rs i) (yz rs q)
end
end
section
open PySem PySem.Calls PyProof.Rows PySem.W
section
variable {C:Cf} {φ:Ph} {H:Hp} {h h':Heap} {A:Around} {n:Nat} {E:Value->Shared->Prop} {s:Shared}
theorem ib(e:one f l H=some (v,H')):∃a,l=[a]/\f a H=some (v,H'):=by
 unfold one at e;split at e
 ·exact nq e
 ·split at e
  ·exact⟨_,rfl,e⟩
  ·exact nq e
theorem Ad(e:two f l H=some (v,H')):∃a b,l=[a,b]/\f a b H=some (v,H'):=by
 unfold two at e;split at e
 ·exact nq e
 ·exists ae (ib e),b,AS,e;clear e;subst AS;exact⟨_,b,rfl,e⟩
theorem fA(r:C.Rs φ H h [a] vs):∃x,vs=[x]/\C.R φ H h a x:=by
 cases r with
 |cons r1 r2=>cases r2;exact⟨_,rfl,r1⟩
theorem oK(r:C.Rs φ H h [a,b] vs):∃x y,vs=[x,y]/\C.R φ H h a x/\C.R φ H h b y:=by
 cases r with
 |cons r1 r2=>exists ae (fA r2),y,KQ,r3;subst KQ;exact⟨_,_,rfl,r1,r3⟩
set_option tactic.hygienic true in
theorem Rk(I:C.I φ H s.heap)(ra:C.R φ H s.heap a x)(e:yq a H=some (v,H'))(P:C.Po φ H s H' (fun a8 h' z=>C.R a8 H' h' v z) Q) :
  C.wp A (call (.builtin "len") [x]) Q E s:=by
 unfold yq at e;split at e
 ·rename_i l hl;exists ak (guard_some e),e1,e2
  (clear e;injections e2)
  have hle:=dR e1;exists dA (q8 I ra hl),d,vs,m,sC,hg,rs;clear e1 hl ra;subst sC;have el:=rs.length;have g9:(vs.toArray.size:Int)<2 ^ 63:=by rw[dY];lia
  have hq:∀t tk,Q (.int vs.toArray.size t) { s with toks:=tk }:=fun t tk=>by
   have:=P.here I (a:=.int l.length t) (.int _ t) tk;rw[dY,<- el];exact this
  clear el rs hle P I;rcases hg with hg|hg
  ·exact PyProof.Rows.len_tuple ⟨_,hg,rfl,m,rfl⟩ g9 (hq _ _)
  ·exact Calls.call_len_list ⟨_,hg,rfl,m,rfl⟩ g9 (hq _ _)
 ·split at e
  ·rename_i l hl;exists ak (guard_some e),e1,e2
   (clear e;injections e2)
   have hle:=dR e1;exists jZ (qS I ra hl),d,es,m,P6,hg,re,nd,ns;clear nd e1 hl ra;subst P6;have el:es.length=l.length:=by clear ns hg hle P I;exists ae (EX.of re),xs,px,ZY;subst ZY;rw[aJ];exact px.length
   have hT:s.TypeIs (.ref d) "dict":=⟨_,hg,rfl⟩;refine Calls.call_function_entry kind_len plain_len entry_len (args_len1 _) ?_;unfold Builtin.«len»;refine a9 (m:=oneArg "len" _) (aw ?_);refine a9 (m:=callSpecial? (.ref d) (Str.ofString "__len__")) (wpAny_callSpecial?_slot (name:=Str.ofString "__len__") hT PySem.F.slot_dict_len
    (wpAny_call_entry PySem.F.slot_dict_len hT PySem.F.entry_dict_len ?_ (PySem.F.args_dict_len_1 _)))
   show wpAny _ _ (dictSize d >>= _) _ _ s;unfold dictSize;refine a9 (a9 (wpAny_dictEntries hg rfl (aw ?_)));show wpAny _ _ (Builtin.Dict.pendingCount d >>= _) _ _ s;refine a9 (wpAny_pendingCount_other (t8 ns) ?_);have e0:(es.toArray.size:Int)+((0:Nat):Int)=(l.length:Int):=by simp [el]
   rw[e0];refine wpAny_ret_mkInt ?_;refine a9 (dH (aw ?_));refine a9 (wpAny_letGo ?_);show wpAny _ _ (if (l.length:Int)<0 then _ else _) _ _ _;refine eG (Int.not_ofNat_neg l.length) ?_;show wpAny _ _ (if (l.length:Int) >= 2 ^ 63 then _ else _) _ _ _;refine eG (by lia) ?_;exact a9 (wpAny_mkInt (aw ⟨_,rfl,P.here I (.int _ _) _⟩))
  ·exact nq e
theorem YC:∀{vs:List Value} {t:Int},C.Rs φ H h l vs->sumI l=some t->∃ns,IntsAre vs ns/\t=ns.sum:=by
 induction l with
 |nil=>intro _ t r e;cases r;exact⟨[],.nil,(aH e).symm⟩
 |cons v l ih=>
  intro _ t r e;cases r with
  |cons r1 r2=>
   induction v using Internal.V.casesOn with
   |int i=>
    have e:(match inB (-1000000000) 1000000000 i with|true=>(match sumI l with|some s=>some (i+s)|none=>none)|false=>none)=some t:=e
    exists ak (Pd e),Z0,e
    ·exists wK e,t',ht,e
     ·exists e;exists ae (ih r2 ht),ns,h1,zP;clear e ht r2 ih;subst zP;exists aD (int_at r1),u,qE;clear r1;subst qE;exact⟨i::ns,.cons _ _ h1,by simp⟩
   |_=>exact nq e
theorem Vn(hh:A.handled=none)(hl:s.heap.IsTuple l (intItems xs))
  (h:∀h' tk t',(∀b o,s.heap.get? b=some o->h'.get? b=some o)->Q (.int (preSum (numAt xs) xs.size) t') { s with heap:=h',toks:=tk }):C.wp A (call (.builtin "sum") [.ref l]) Q E s:=by
 have dB:l<s.heap.objs.size:=by clear h hh;exists ae hl,Z0,e,Z0;clear hl;exact Heap.lt_size e
 refine call_sum_walkG (wpAny_pyIter_tuple hl ?_);refine⟨_,_,_,_,_,_,numAt xs,rfl,Walks.tuple (A:=A.in1) hh s.heap.objs.size l (eV dB) (intItems xs),⟨⟨_,Heap.get?_push_size _ rfl,rfl,rfl⟩,hl.push _⟩,fun b hb=>?_,(fun _ _=>intItems_at),fun h' tk t' hk=>?_⟩
 ·show b<(s.heap.push _).objs.size;rw[Heap.size_push];clear h hl hh;rcases aI.mp hb with rfl|hb
  ·exact Nat.lt_succ_self _
  ·rcases aI.mp hb with rfl|hb
   ·exact Nat.lt_succ_of_lt dB
   ·clear dB;cases hb
 ·have:=h h' tk t' fun b o e=>hk b o (fun hm=>by
   clear hk dB h hl hh;rcases aI.mp hm with e1|hm
   ·exact absurd (e1▸Heap.lt_size e) (lg _)
   ·clear e;cases hm) (Heap.get?_push_of_some _ e)
  simpa [intItems]using this
set_option tactic.hygienic true in
theorem Mt(I:C.I φ H s.heap)(R:Rm A n)(ra:C.R φ H s.heap a x)(e:xu a H=some (v,H'))(P:C.Po φ H s H' (fun a8 h' z=>C.R a8 H' h' v z) Q) :
  C.wp A (call (.builtin "sum") [x]) Q E s:=by
 unfold xu at e;split at e
 ·rename_i l hl;exists ak (guard_some e),e1,e2;exists wK e2,t,ht,e2
  ·(clear e1 e;injections e2)
   exists dA (q8 I ra hl),d,vs,m,PJ,hg,rs;clear e2 hl ra;subst PJ;exists ae (YC rs ht),ns,hi,AA;clear rs ht;subst AA;exists aD hi.allInts.items,xs,hx;have e1:ns=xs.toList.map (·.1):=by
    rw[<- nums_intItems,<- hx];exact(show numsOf vs.toArray.toList=ns from hi.numsOf).symm
   have e2:preSum (numAt xs) xs.size=ns.sum:=by
    rw[preSum_eq,List.take_of_length_le (by simp),e1]
   have fin:∀h' tk t',(∀b o,s.heap.get? b=some o->h'.get? b=some o)->Q (.int (preSum (numAt xs) xs.size) t') { s with heap:=h',toks:=tk }:=fun h' tk t' k=>by
    exists ak (C.grow I k),I',S;rw[e2];exact P _ φ h' tk S I' (.int _ _)
   clear e2 P hi I;clear e1;rcases hg with hg|hg
   ·exact Vn R.handled ⟨_,hg,rfl,m,by rw[<- hx]⟩ fin
   ·exact sum_intListG R.handled ⟨_,hg,rfl,m,by rw[<- hx]⟩ fin
 ·exact nq e
theorem Hy(e:nN f a b H=some (v,H')):∃i j,a = .int i/\b = .int j/\v = .int (f i j)/\H'=H:=by
 unfold nN at e;split at e
 ·split at e
  ·injections e;exact⟨_,_,rfl,rfl,rfl,rfl⟩
  ·exact nq e
 ·exact nq e
theorem PB(I:C.I φ H s.heap)(R:Rm A n)(ra:C.R φ H s.heap a x)(rb:C.R φ H s.heap b y)(e:nN imax a b H=some (v,H'))(P:C.Po φ H s H' (fun a8 h' z=>C.R a8 H' h' v z) Q) :
  C.wp A (call (.builtin "max") [x,y]) Q E s:=by
 exists ko (Hy e),i,j,CB,Av,T6,aaT;clear e;subst CB;subst Av;subst T6;subst aaT;exists aD (int_at ra),t,zZ;clear ra;subst zZ;exists aD (int_at rb),u,Cp;clear rb;subst Cp;exists max_two_ints R.handled,h',tk,k;exists ak (C.grow I k),I',S;unfold imax at P;rw[ilt_eq]at P;by_cases q:j > i
 ·rw[if_pos q];have:decide (i<j)=true:=by simpa using q
  rw[this]at P;exact P _ φ h' tk S I' (.int _ _)
 ·rw[if_neg q];have:decide (i<j)=false:=by simpa using q
  rw[this]at P;exact P _ φ h' tk S I' (.int _ _)
theorem MW(I:C.I φ H s.heap)(R:Rm A n)(ra:C.R φ H s.heap a x)(rb:C.R φ H s.heap b y)(e:nN mP a b H=some (v,H'))(P:C.Po φ H s H' (fun a8 h' z=>C.R a8 H' h' v z) Q) :
  C.wp A (call (.builtin "min") [x,y]) Q E s:=by
 exists ko (Hy e),i,j,Af,aau,Ry,LW;clear e;subst Af;subst aau;subst Ry;subst LW;exists aD (int_at ra),t,rJ;clear ra;subst rJ;exists aD (int_at rb),u,Nt;clear rb;subst Nt;exists min_two_ints R.handled,h',tk,k;exists ak (C.grow I k),I',S;unfold mP at P;rw[ilt_eq]at P;by_cases q:j<i
 ·rw[if_pos q];rw[decide_eq_true q]at P;exact P _ φ h' tk S I' (.int _ _)
 ·rw[if_neg q];rw[decide_eq_false q]at P;exact P _ φ h' tk S I' (.int _ _)
set_option tactic.hygienic true in
theorem QW(I:C.I φ H s.heap)(ra:C.R φ H s.heap a x)(e:BL a H=some (v,H'))(P:C.Po φ H s H' (fun a8 h' z=>C.R a8 H' h' v z) Q) :
  C.wp A (call (.builtin "abs") [x]) Q E s:=by
 unfold BL at e;split at e
 ·rename_i i;exists aD (int_at ra),t,z7;clear ra;subst z7;exists PyProof.Rows.call_abs_int,u,tk;injections e;rw[ilt_eq]at P;by_cases q:i<0
  ·rw[if_pos q];rw[decide_eq_true q]at P;exact P.here I (.int _ _) tk
  ·rw[if_neg q];rw[decide_eq_false q]at P;exact P.here I (.int _ _) tk
 ·exact nq e
theorem WI:∀{vs:List Value} {m t:Int},C.Rs φ H h l vs->maxI m l=some t->∃ns,IntsAre vs ns/\(t=m\/t∈ns)/\m<=t/\∀a∈ns,a<=t:=by
 induction l with
 |nil=>intro _ m t r e;cases r;cases aH e;exact⟨[],.nil,.inl rfl,Int.le_refl _,fun a ha=>nomatch ha⟩
 |cons v l ih=>
  intro _ m t r e;cases r with
  |cons r1 r2=>
   induction v using Internal.V.casesOn with
   |int i=>
    exists aD (int_at r1),u,NA;clear r1;subst NA;have e:(match ilt m i with|true=>maxI i l|false=>maxI m l)=some t:=e;rw[ilt_eq]at e;split at e
    ·rename_i q;have q:=of_decide_eq_true q;exists dw (ih r2 e),ns,h1,h2,h3,h4;exact⟨i::ns,.cons _ _ h1,.inr (h2.elim (fun z=>z▸.head _) (.tail _)),by lia,fun a ha=>by
      clear h2 h1 q e r2;clear q e ih;rcases aI.mp ha with rfl|ha
      ·exact h3
      ·exact h4 a ha⟩
    ·rename_i q;have q:=of_decide_eq_false q;exists dw (ih r2 e),ns,h1,h2,h3,h4;exact⟨i::ns,.cons _ _ h1,h2.imp id (.tail _),h3,fun a ha=>by
      clear h2 h1 e r2;clear e ih;rcases aI.mp ha with rfl|ha
      ·lia
      ·exact h4 a ha⟩
   |_=>exact nq e
theorem OC(e:maxL l=some t):∃i r,l = .int i::r/\maxI i r=some t:=by
 unfold maxL at e;split at e
 ·exact nq e
 ·split at e
  ·exact⟨_,_,rfl,e⟩
  ·exact nq e
theorem TP(I:C.I φ H s.heap)(R:Rm A n)(ra:C.R φ H s.heap a x)(e:zR a H=some (v,H'))(P:C.Po φ H s H' (fun a8 h' z=>C.R a8 H' h' v z) Q) :
  C.wp A (call (.builtin "max") [x]) Q E s:=by
 unfold zR at e;exists g5 e,l,hl,e
 ·unfold retI at e;exists wK e,t,ht,e
  ·injections e;exists dA (gk I ra hl),d,vs,m,VD,hg,rs;clear hl ra;subst VD;exists aT (OC ht),i,r,UQ,ht;clear ht;subst UQ;cases rs with
   |@cons _ _ _ vs' r1 r2=>
    exists aD (int_at r1),u,TH;subst TH;exists dw (WI r2 ht),uq,h1,h2,h3,h4;have hi:IntsAre (.int i u::vs') (i::uq):=.cons _ _ h1;exists aD hi.allInts.items,xs,hx;have fi:i::uq=xs.toList.map (·.1):=by rw[<- hi.numsOf,<- nums_intItems,<- hx]
    have d4:0<xs.size:=by
     have:=congrArg List.length fi;simp at this;exact Nat.lt_of_sub_eq_succ (id (Eq.symm this))
    have sj:s.heap.IsList d (intItems xs):=⟨_,hg,rfl,m,by rw[<- hx]⟩;exists max_intList R.handled sj d4,v,h',tk,hv,k;exists aD (intItems_at hv),t',Ra;clear hv sj hx hi h1 hg r2 ht R;subst Ra;exists ak (argBest_gt (numAt xs) (xs.size - 1)),g1,g2;exists ak (C.grow I k),I',S;have:numAt xs (argBest (fun i j=>decide (numAt xs i > numAt xs j)) (xs.size - 1))=t:=by
     have m1:numAt xs (argBest (fun i j=>decide (numAt xs i > numAt xs j)) (xs.size - 1))∈i::uq:=by
      rw[fi,numAt_eq];exact getD_mem (by rw[aJ,Array.length_toList];exact Nat.lt_of_le_pred d4 g1)
     have m2:t∈i::uq:=h2.elim (fun z=>z▸.head _) (.tail _);have a2:numAt xs (argBest (fun i j=>decide (numAt xs i > numAt xs j)) (xs.size - 1))<=t:=by
      clear m2 S I' g2 g1 k d4 fi h2 P I;rcases aI.mp m1 with z|z
      ·rw[z];exact h3
      ·exact h4 _ z
     rw[fi]at m2;exists ae (mem_getD m2),j,hj,ej;have a1:numAt xs j<=_:=g2 j (by rw[aJ,Array.length_toList]at hj;exact(fun{m n} h=>(Nat.le_sub_one_iff_lt h).mpr) d4 hj);rw[numAt_eq xs j]at a1
     lia
    rw[this];exact P _ φ h' tk S I' (.int _ _)
theorem Oh:∀{vs:List Value} {t:Bool},C.Rs φ H h l vs->anyB l=some t->∃bs,LSm.BoolsAre vs bs/\t=bs.any id:=by
 induction l with
 |nil=>intro _ t r e;cases r;exact⟨[],.nil,(aH e).symm⟩
 |cons v l ih=>
  intro _ t r e;cases r with
  |cons r1 r2=>
   induction v using Internal.V.casesOn with
   |bool b=>
    have e:(match anyB l with|some c=>(match (generalizing:=false) b with|true=>some true|false=>some c)|none=>none)=some t:=e
    split at e
    ·rename_i c hc;exists ae (ih r2 hc),bs,h1,X7;clear hc r2;clear ih;subst X7;have:=qL r1;clear r1;subst this;exact⟨b::bs,.cons _ h1,by clear h1;induction b using aB <;> cases e <;> simp⟩
    ·exact nq e
   |_=>exact nq e
theorem Y3(I:C.I φ H s.heap)(R:Rm A n)(ra:C.R φ H s.heap a x)(e:xX a H=some (v,H'))(P:C.Po φ H s H' (fun a8 h' z=>C.R a8 H' h' v z) Q) :
  C.wp A (call (.builtin "any") [x]) Q E s:=by
 unfold xX at e;exists g5 e,l,hl,e
 ·unfold retB at e;exists sT e,t,ht,e
  ·(exists sp2 e,PO,ZQ;clear e;clear e;subst PO;clear e;subst ZQ)
   exists dA (gk I ra hl),d,vs,m,aaf,hg,rs;clear hl ra;subst aaf;exists ae (Oh rs ht),bs,hb,Q6;clear rs ht;subst Q6;have dB:d<s.heap.objs.size:=Heap.lt_size hg;have hL:s.heap.IsList d vs.toArray:=⟨_,hg,rfl,m,rfl⟩;refine call_any_walk (wpAny_pyIter_list hL ?_);refine⟨s.heap.objs.size,[s.heap.objs.size,d],[s.heap.objs.size],vs.toArray.size,_,_,fun i=>(bs[i]?).getD false,rfl,Walks.list (A:=A.in1) R.handled _ d (eV dB) vs.toArray,
    ⟨⟨_,Heap.get?_push_size _ rfl,rfl,rfl⟩,hL.push _⟩,fun i v s' Q' E' hP hQ=>?_,fun h' tk hk=>?_⟩
   ·exists ae (hb.get i v (by simpa using hP)),b,e,N9;clear hP hL dB P hb hg R I;subst N9;simp only[e,Option.getD_some]at hQ;exact wpAny_truthy_bool hQ
   ·have e:((List.range vs.toArray.size).any fun i=>(bs[i]?).getD false)=bs.any id:=by
     rw[dY,hb.length];exact LSm.range_any bs
    rw[e];exists ak (C.grow I (LSm.kept_iter hk)),I',S;exact P _ φ h' tk S I' (.bool _)
theorem NC(I:C.I φ H s.heap)(R:Rm A n)(ra:C.R φ H s.heap a x)(e:xE a H=some (v,H'))(P:C.Po φ H s H' (fun a8 h' z=>C.R a8 H' h' v z) Q) :
  C.wp A (call (.builtin "sorted") [x]) Q E s:=by
 unfold xE at e;exists g5 e,l,hl,e
 ·unfold retL at e;exists g5 e,l',hs,e
  ·(exists sp2 e,Vs,NQ;clear e;clear e;subst Vs;clear e;subst NQ)
   exists dA (gk I ra hl),d,vs,m,Zh,hg,rs;clear hl ra;subst Zh;have el:=rs.length;have hL:s.heap.IsList d vs.toArray:=⟨_,hg,rfl,m,rfl⟩;exists ak (Du hs),ZG,hv;have fin:∀p,C.Rs φ H s.heap l' (kT vs p)->∀h' D n',s.heap.get? D=none->h'.get? D=some (seqObj "list" (kT vs p).toArray n')->(∀b ob,s.heap.get? b=some ob->h'.get? b=some ob)->Q (.ref D) { s with heap:=h' }:=by
    intro p ro h' D n' hD rn k;exists dr (C.fresh I k hD (o:=.list l') ⟨_,_,rn,ro⟩),I',S,r;exact P _ _ _ s.toks S I' r
   clear hg P hs;rcases hv with⟨h2,rfl⟩|⟨h2,k,q,hk,hq,rfl⟩
   ·exact EF (f:=fun _ _=>none) (p:=none) hL (by lia) (.inl ⟨by exact lt_of_eq_of_lt (id (Eq.symm el)) h2,rfl⟩) (fun h1 _ z=>by lia) (fin none rs)
   ·refine EF (f:=iH l) (p:=some q) hL (by lia) (.inr ⟨by exact le_of_le_of_eq h2 el,q,rfl,by rw[<- el];exact hq⟩) (fun h1 kp _=>?_) (fin (some q) (yz rs q.toList));exists ak (C.grow I kp),I1,S1;have hu:A.in1.in1.units+100<cLine:=by have:=R.units;show A.units+1+1+100<cLine;lia
    exact Jx (s:={ s with heap:=h1 }) I1 (S1.iz I rs) hk (Nat.zero_lt_of_lt h2) hu
theorem aa4(I:C.I φ H s.heap)(ra:C.R φ H s.heap a x)(e:GS a H=some (v,H'))(P:C.Po φ H s H' (fun a8 h' z=>C.R a8 H' h' v z) Q) :
  C.wp A (call (.type "tuple") [x]) Q E s:=by
 exists g5 e,l,hl,e
 ·exists ak (guard_some e),e1,e2
  (clear e;injections e2)
  exists dA (gk I ra hl),d,vs,m,N8,hg,rs;clear e hl ra;subst N8;have hle:=dR e1;have hL:s.heap.IsList d vs.toArray:=⟨_,hg,rfl,m,rfl⟩;refine call_tuple_list hL (fun h' k=>?_) (by rw[dY,<- rs.length];exact jl hle);exists ak (C.grow I k),I',S;refine dr (C.oM I' (cS h' { cls:=.type "tuple",data:=.seq vs.toArray }) (cA _) (Heap.get?_push_size _ rfl) (S.iz I rs)) fun I2 S2 r=>?_;exact P _ φ _ s.toks (S.trans S2 I I') I2 r
theorem RK(I:C.I φ H s.heap)(ra:C.R φ H s.heap a x)(e:xc a H=some (v,H'))(P:C.Po φ H s H' (fun a8 h' z=>C.R a8 H' h' v z) Q) :
  C.wp A (call (.type "int") [x]) Q E s:=by
 unfold xc at e;split at e
 ·injections e;exists aD (int_at ra),t,Xu;clear ra;subst Xu;exact call_int_int (P.dS I (.int _ _))
 ·exact nq e
end
end
section
open PySem PySem.Calls PyProof.Rows PySem.W
noncomputable def AD(k:List Int):Int:=reduceHash (Builtin.Tuple.tupleHashOf (k.map hashInt))
noncomputable def Hh:List (List Int):=(List.range 9).flatMap fun(i:Nat)=>(List.range 9).map fun(j:Nat)=>[(i:Int),(j:Int)]
theorem SR:(Hh.map AD).Nodup:=by decide +kernel
theorem aaV{α β:Type}{f:α->β}{l:List α}:(l.map f).Nodup->∀{a b:α},a∈l->b∈l->f a=f b->a=b:=by
 induction l with
 |nil=>
  intro _ _ _ m _ _;cases m
 |cons x l ih=>
  intro N a b m m' e;rw[aO,ee]at N;rcases aI.mp m with q|q
  ·clear m;clear ih;rcases aI.mp m' with q'|q'
   ·exact q.trans q'.symm
   ·exact absurd (cG.mpr ⟨b,q',by rw[<- e,q]⟩) N.1
  ·clear m;rcases aI.mp m' with q'|q'
   ·exact absurd (cG.mpr ⟨a,q,by rw[e,q']⟩) N.1
   ·exact ih N.2 q q' e
theorem Fu(e:smallKey k=true):k∈Hh:=by
 have sn:∀{a:Int},qY a=true->∃n:Nat,n<9/\a=n:=fun{a} e=>by
  induction a using kE with
  |ofNat n=>exact⟨n,Nat.lt_succ_of_le (bC e),rfl⟩
  |negSucc n=>exact bf e
 match k,e with
 |[a,b],e=>
  have e:band (qY a) (qY b)=true:=e;rw[cU]at e;exists ae (sn e.1),i,hi,n7;subst n7;exists ae (sn e.2),j,hj,Ag;clear e sn;clear e;subst Ag;exact List.mem_flatMap.mpr ⟨i,List.mem_range.mpr hi,cG.mpr ⟨j,List.mem_range.mpr hj,rfl⟩⟩
theorem Vx:smallKeys l=true->∀k∈l.map (·.1),smallKey k=true:=by
 induction l with
 |nil=>
  intro _ k m;cases m
 |cons e r ih=>
  intro h k m;dsimp only[smallKeys]at h;split at h
  ·rename_i hs;rcases aI.mp m with rfl|m
   ·exact hs
   ·exact ih h k m
  ·exact bf h
section
variable {C:Cf} {φ:Ph} {H:Hp} {h h':Heap} {A:Around} {n:Nat} {E:Value->Shared->Prop} {s:Shared}
theorem O1(r:C.Es φ H h l es)(nd:(l.map (·.1)).Nodup)(sk:smallKeys l=true)(e:DictEntry):(es.filter (fun x=>x.hash == e.hash)).length<=1:=by
 exists ae (EX.of r),xs,px,rA;subst rA;have hk:=px.keys;rw[<- hk]at nd;have zj:∀k∈xs.map (·.1),smallKey k=true:=by rw[hk];exact Vx sk
 clear px hk r;generalize e.hash=g
 induction xs with
 |nil=>simp
 |cons x xs ih=>
  rw[aO,ee]at nd;have ih:=ih nd.2 fun k m=>zj k (.tail _ m);rw[aO,List.filter_cons];split
  ·rename_i hx;have hx:AD x.1=g:=by have q:C.knd.hash x.1=g:=by{ simpa [entryOfKey]using hx };exact q
   have:((xs.map (entryOfKey C.knd)).filter fun x=>x.hash == g)=[]:=by
    rw[List.filter_eq_nil_iff];rintro y hy;exists ae (cG.mp hy),z,hz,wQ;subst wQ;intro q;have q:AD z.1=g:=by have q':C.knd.hash z.1=g:=by{ simpa [entryOfKey]using q };exact q'
    have mz:z.1∈xs.map (·.1):=cG.mpr ⟨z,hz,rfl⟩;have:=aaV SR (Fu (zj z.1 (.tail _ mz))) (Fu (zj x.1 (.head _))) (q.trans hx.symm);exact nd.1 (this▸mz)
   rw[this];simp
  ·exact ih
theorem Zi(hT:s.TypeIs (.ref a) "tuple")(h:Q false s):wpAny M A (Builtin.Dict.quietEq (.ref a)) Q E s:=by
 unfold Builtin.Dict.quietEq;refine a9 (wpAny_specialOf hT PySem.F.slot_tuple_eq.lookup ?_);exact aw h
theorem TV{id:String}{d:Addr}{l:List (List Int×V)}{es:List DictEntry}{m:Nat}{Q:Array DictEntry->Shared->Prop}(g:s.heap.get? d=some (cX es m))(r:C.Es φ H s.heap l es)(nd:(l.map (·.1)).Nodup)(sk:smallKeys l=true)(h:Q es.toArray s) :
  C.wp A (Builtin.Dict.entriesForEmpty id d) Q E s:=by
 unfold Builtin.Dict.entriesForEmpty;refine a9 (wpAny_dictEntries g rfl ?_);refine a9 ?_;rw[<- Array.forIn_toList];refine wpAny_forIn_list _ (fun rest _ s'=>s'=s/\∀e∈rest,e∈es) _ ?_ ?_ _ _ ⟨rfl,fun e m=>by simpa using m⟩
 ·rintro e rest b s' ⟨rfl,hm⟩;have hx:∃a,e.key = .ref a/\s'.TypeIs (.ref a) "tuple":=by
   exists ae (EX.of r),xs,px,nE;clear h r g sk nd;subst nE;exists ae (cG.mp (hm e (.head _))),x,mx,qd;clear hm;subst qd;exists fO (px.is x mx),o,items,n,ho,hc,hd,hi;exact⟨x.2.1,rfl,o,ho,hc⟩
  exists ae hx,a,ea,hT
  try clear hx
  refine a9 ?_;rw[ea];refine Zi hT ?_;refine g6 dq ?_;have h1:=O1 r nd sk e;refine eG (by rw[Array.size_eq_length_toList,Array.toList_filter];simpa using h1) ?_;exact aw ⟨rfl,fun e' m=>hm e' (.tail _ m)⟩
 ·rintro b s' ⟨rfl,_⟩;exact aw h
theorem Tc(v3:d≠o)(ho:o≠sysModules)(gd:s.heap.get? d=some (cX [] k))(g:s.heap.get? o=some (cX es m))
  (r:C.Es φ H s.heap l es) (nd:(l.map (·.1)).Nodup) (sk:smallKeys l=true) (hl:lenOk l=true)
  (h:∀h' k',h'.get? d=some (cX es k')->(∀b ob,b≠d->s.heap.get? b=some ob->h'.get? b=some ob)->Q () { s with heap:=h' }):C.wp A (Builtin.Dict.mergeDict nm d o) Q E s:=by
 have el:es.length=l.length:=by clear h hl sk nd g gd ho v3;exists ae (EX.of r),xs,px,ND;subst ND;rw[aJ];exact px.length
 have hle:=dR hl;unfold Builtin.Dict.mergeDict;refine eG (by simpa using v3) ?_;unfold Builtin.Dict.showsAll;rw[if_neg (by rw[t8 ho];exact Bool.false_ne_true)];refine a9 (aw ?_);refine a9 (wpAny_dictEntries g rfl ?_);dsimp only;have here:es=[]->Q () s:=by
  rintro rfl;exact h s.heap _ gd fun b ob _ e=>e
 split
 ·refine a9 (wpAny_dictEntries gd rfl ?_);refine g6 (by simp) ?_;refine a9 (TV g r nd sk ?_);split
  ·refine a9 (wpAny_updateDictKeysTo gd rfl (aw ?_) (by simp;rw[sizeLine_eq];lia));refine h _ _ (Heap.get?_update_self _ gd (Obj.isFreed_of_dict (Obj.data_mapDictKeys rfl _))) fun b ob hb e=>by rw[Heap.get?_update_ne _ _ _ _ hb];exact e
  ·rename_i bN;exact aw (here (by simpa using bN))
 ·rename_i xS;have:es=[]:=by
   clear here hle el h hl sk nd g gd ho v3;induction es using aM with
   |nil=>rfl
   |cons e es=>
    exfalso;apply xS;exists ae (EX.of r),xs,px,ex;clear px xS r;induction xs using aM with
    |nil=>cases ex
    |cons x xs=>
     rw[aO]at ex;injection ex with e1 e2
     subst e1;simp [entryOfKey,keyPart]
  clear xS hle el h hl sk nd r gd ho v3;subst this;refine a9 (wpAny_dictEpoch g rfl (a9 (wpAny_dictEntries g rfl ?_)));refine a9 ?_;rw[Std.Legacy.Range.forIn_eq_forIn_range'];simp only[Std.Legacy.Range.size,dY,List.length_nil,Nat.sub_zero,Nat.add_sub_cancel,Nat.div_one];refine aw (aw (here rfl))
end
end
section
open PySem PySem.Calls PyProof.Rows PySem.W
theorem Lj:typeLookup (.type "list") "keys" = pure none:=by rw[typeLookup_type,builtinLookup_eq_fast];kernel_rfl
theorem Tg:typeLookup (.type "list") "__getattr__" = pure none:=by rw[typeLookup_type,builtinLookup_eq_fast];kernel_rfl
theorem Xg(u:Tok) :
  Meets (Builtin.«object.__getattribute__» ⟨[.ref a,.str "keys" u],[]⟩) (fun A R s=>s.heap.get? a=some { cls:=.type "list",dict:=none,data:=.seq xs m,slots:=#[] }/\raisesAttr (.ref a) "keys" A R s):=
 Meets.of_wp fun prog w A R s hs=>by
  obtain⟨hp,g,d,tk,os⟩:=s;exists ak hs,ho,hs;have hT:(⟨hp,g,d,tk,os⟩:Shared).TypeIs (.ref a) "list":=⟨_,ho,rfl⟩;have f4:=Lj;unfold Builtin.«object.__getattribute__»
  repeat (any_goals (first|assumption|wp_step))
  exact wpAny_raiseAttrError hs.1 hs.2 (attrMsg_fits (by decide +kernel) (by decide +kernel))
section
variable {prog:Program} {w:World} {A:Around} {E:Value->Shared->Prop} {s:Shared}
theorem Ze(ho:s.heap.get? a=some { cls:=.type "list",dict:=none,data:=.seq xs m,slots:=#[] })(hA:A.handled=none)
  (h:∀h' tk,(∀b ob,s.heap.get? b=some ob->h'.get? b=some ob)->Q none { s with heap:=h',toks:=tk }):wpAny (model prog w) A (getAttr? (.ref a) "keys") Q E s:=by
 obtain⟨hp,g,d,tk,os⟩:=s;have hT:(⟨hp,g,d,tk,os⟩:Shared).TypeIs (.ref a) "list":=⟨_,ho,rfl⟩;have f1:=sub_AttributeError;have f3:=F.slot_list_getattribute.lookup;have f4:=F.slot_list_getattribute.bind (.ref a);have f5:=Tg;unfold getAttr? getAttrBy? getAttrBy
 repeat (any_goals (first|assumption|((with_reducible show wpAny _ _ (call (Value.builtin "list.__getattribute__") _ _) _ _ _);refine call_meets F.slot_list_getattribute ⟨_,ho,rfl⟩ F.entry_list_ga (F.args_list_getattribute_2 _ _) (Xg _) ⟨ho,hA,fun h' lK e hx=>?_⟩)|wp_step))
 exists d7 hx.there,t',u',he;show wpAny _ _ (getattributeRaised _ _ _ _ _ _ _) _ _ _;unfold getattributeRaised
 repeat (any_goals (first|assumption|wp_step))
 exact h _ _ hx.keeps
end
theorem Jb(h:yf v=some l):v = .tup l:=by
 induction v using Internal.V.casesOn with
 |tup l'=>exact congrArg _ (aH h)
 |_=>exact nq h
theorem Ly(h:IG l=some q):l=[q.1,q.2]:=by
 induction l using aM with
 |nil=>exact nq h
 |cons a l=>induction l using aM with
  |nil=>exact nq h
  |cons b l=>induction l using aM with
   |nil=>cases aH h;rfl
   |cons=>exact nq h
theorem Pg(e:pairsOf (v::r) acc=some out):∃k w,v = .tup [.tup (k.map .int),w]/\pairsOf r (dset acc k w)=some out:=by
 exists ae (aQ e),l,h1,e;exists ae (aQ e),q,h2,e;exists ae (aQ e),a,h3,e;exists ae (aQ e),k,h4,e;exact⟨k,q.2,by rw[Jb h1,Ly h2,Jb h3,Ff h4],e⟩
theorem Qe(l:List (List Int×V))(k:List Int)(v:V):(dset l k v).length<=l.length+1:=by
 induction l with
 |nil=>simp [dset]
 |cons e r ih=>
  dsimp only[dset];split
  ·simp
  ·simp;exact ih
theorem Jj:entryFor table "dict.update.loop" = some Builtin.«dict.update.loop»:=entryFor_of_fast (by kernel_rfl)
theorem G5:plainId "dict.update.loop" = true:=by decide +kernel
section
variable {C:Cf} {φ:Ph} {H:Hp} {h h':Heap} {A:Around} {n:Nat} {E:Value->Shared->Prop} {s:Shared}
theorem EX.keep(r:EX C φ H h l xs)(k:∀b o,h.get? b=some o->h'.get? b=some o):EX C φ H h' l xs:=by
 induction r with
 |nil=>exact .nil
 |cons a b _ ih=>exact .cons (Co a k) (Co b k) ih
theorem aas(kW:h0.get? d=none)(lA:h0.get? it=none)(qP:d≠it)(hh:A.handled=none)(hu:A.in1.units<cLine)(sm:h0.get? l=some (f9 items mm))
  {out:List (List Int×V)} (hR:∀(s':Shared) xs k,(∀b o,h0.get? b=some o->s'.heap.get? b=some o)->EX C φ H h0 out xs->(out.map (·.1)).Nodup->s'.heap.get? d=some (cX (xs.map (entryOfKey C.knd)) k)->
   (∃h' tk,s'={ s with heap:=h',toks:=tk })->R (.ok (.ret .none)) s') :
  ∀(rest:List V) (vs pre:List Value) (acc:List (List Int×V)) (xs:List (List Int×Addr×Value)) (k:Nat) (s1:Shared),items=pre++vs->C.Rs φ H h0 rest vs->pairsOf rest acc=some out->EX C φ H h0 acc xs->(acc.map (·.1)).Nodup->acc.length+rest.length<=1000000->
   (∀b o,h0.get? b=some o->s1.heap.get? b=some o)->s1.heap.get? d=some (cX (xs.map (entryOfKey C.knd)) k)->s1.heap.IsListIter it l pre.length->(∃h' tk,s1={ s with heap:=h',toks:=tk })->
   codeAny (model C.prog C.w) A (.builtin "dict.update.loop" ⟨[.ref d,.ref it,rawInt pre.length,.none],[]⟩) R s1:=by
 intro rest
 induction rest with
 |nil=>
  intro vs pre acc xs k s1 hit rs ep px nd hlen keep gd hI hs;clear hlen hu kW;cases rs;exists ep;refine codeAny_builtin Jj ?_;rw[Around.under_plainId G5 _];show wpAny _ A.in1 (pyNext (.ref it) >>= _) _ _ s1;have hL:s1.heap.IsList l items.toArray:=⟨_,keep _ _ sm,rfl,mm,rfl⟩;refine a9 (wpAny_pyNext_list_end hh hI hL (by rw[hit];simp) fun h' hx=>?_);show wpAny _ _ (Builtin.Dict.addKeywords d [] >>= _) _ _ _;refine a9 (aw (aw ?_));exists d7 hs,h1,tk,nE
  try clear hs
  clear hL hit hI sm hh;subst nE;exact hR _ xs k (fun b o e=>hx b o (fun z=>by rw[z,lA]at e;exact nq e) (keep b o e)) px nd (hx d _ qP gd) ⟨h',tk,rfl⟩
 |cons v rest ih=>
  intro vs pre acc xs k s1 hit rs ep px nd hlen keep gd hI hs;exists aT (Pg ep),ky,w,rR,yD;clear ep;subst rR;cases rs with
  |@cons _ x _ vs r1 r2=>
   refine codeAny_builtin Jj ?_;rw[Around.under_plainId G5 _];show wpAny _ A.in1 (pyNext (.ref it) >>= _) _ _ s1;have hL:s1.heap.IsList l items.toArray:=⟨_,keep _ _ sm,rfl,mm,rfl⟩;refine a9 (wpAny_pyNext_list_item hI hL (x:=x) (by rw[hit];simp) fun h1 wm JM=>?_);have jr:∀b o,h0.get? b=some o->h1.get? b=some o:=fun b o e=>by rw[JM.2 b fun z=>by rw[z,lA]at e;cases e];exact keep b o e
   have m8:h1.get? d=some (cX (xs.map (entryOfKey C.knd)) k):=by rw[JM.2 d qP];exact gd
   exists fO (gp r1),a,us,m,KG,ga,Z0,ru;subst KG;exists cB (oK ru),kx,vx,ku,rk,rw;clear ru;subst ku;exists aD (oS rk),ka,Bj;subst Bj;have tI:=jr _ _ ga;refine a9 (dH ?_);refine a9 (wpAny_tryCatch ?_);unfold Builtin.Dict.pairItems;refine a9 (wpAny_typeOf (T:="tuple") ⟨_,tI,rfl⟩ ?_);refine g6 dq ?_;unfold seqItems?;refine a9 (a9 (wpAny_load tI (aw (aw ?_))));have D1:h1.DictOfH C.knd d xs:=⟨_,_,k,m8,⟨rfl,rfl,rfl⟩,rfl,by simp,(px.keep jr).is,by rw[px.keys];exact nd⟩;have xO:=px.length;show wpAny _ _ (holding [.ref ka,vx] (dictSet d (.ref ka) vx)) _ _ _;refine dH (wpAny_dictSet_heap (knd:=C.knd) (s:={ s1 with heap:=h1 }) hu (lh (Co rk jr)) D1 (fun h2 D2 fG=>?_) (by rw[xO,sizeLine_eq];simp at hlen;lia));exists aD (vA D2),k2,Bw;have FH:∀b o,h0.get? b=some o->h2.get? b=some o:=fun b o e=>by rw[fG.2 b fun z=>by rw[z,kW]at e;clear z Bw fG D2 xO D1 tI ga rk rw hit m8 jr wm r2 hlen yD hs nd px hR sm hu hh qP lA kW;cases e];exact jr b o e
   refine aw ⟨Code.quiet_builtin _ (by decide +kernel),?_⟩;have key:=ih vs (pre++[.ref a]) (dset acc ky w) (storedH xs ky ka vx) k2 { s1 with heap:=h2,toks:=s1.toks+C.knd.draws ky } (by rw[hit];simp) r2 yD (px.set nd rk rw) (yZ nd _ _)
    (by have:=Qe acc ky w;simp at hlen;lia) FH Bw (by
     have:(pre++[Value.ref a]).length=pre.length+1:=by simp
     rw[this];exists ae wm,o,ho,hc
     try clear wm
     exact⟨o,by rw[fG.2 it (Ne.symm qP)];exact ho,hc⟩) (by clear FH Bw fG D2 xO D1 tI ga rk rw hit m8 jr wm r2 hlen yD nd px hR sm hu hh qP lA kW;exists d7 hs,h3,tk,sg;clear hs;subst sg;exact⟨_,_,rfl⟩)
   have e2:rawInt ((pre++[Value.ref a]).length)=rawInt ((pre.length:Int)+1):=by simp
   rw[e2]at key;exact key
set_option tactic.hygienic true in
theorem UN(I:C.I φ H s.heap)(R:Rm A n)(ra:C.R φ H s.heap a x)(e:Cn a H=some (v,H'))(P:C.Po φ H s H' (fun a8 h' z=>C.R a8 H' h' v z) Q) :
  C.wp A (call (.type "dict") [x]) Q E s:=by
 have gd:(s.heap.push { cls:=.type "dict",data:=.dict #[] }).get? s.heap.objs.size=some (cX [] 0):=Heap.get?_push_size _ rfl;have kp:=cS s.heap { cls:=.type "dict",data:=.dict #[] };have qV:(({ s with heap:=s.heap.push { cls:=.type "dict",data:=.dict #[] } }:Shared)).TypeIs (.ref s.heap.objs.size) "dict":=⟨_,gd,rfl⟩;unfold Cn at e;split at e
 ·rename_i l hl;exists ak (guard_some e),e1,e2;rw[cU]at e1
  (clear e R;injections e2)
  exists jZ (qS I ra hl),o,es,m,Te,g,re,nd,ns;subst Te;refine callType_codes (Q₁:=fun obj s₁=>obj = .ref s.heap.objs.size/\s₁={ s with heap:=s.heap.push { cls:=.type "dict",data:=.dict #[] } }) F.kt_called_dict (F.kt_typeCall_dict_1 _) F.entry_dict_init (kt_code_dict_new _ ⟨rfl,rfl⟩) ?_;rintro obj s₁ ⟨rfl,rfl⟩;have q6:(({ s with heap:=s.heap.push { cls:=.type "dict",data:=.dict #[] } }:Shared)).TypeIs (.ref o) "dict":=⟨_,kp _ _ g,rfl⟩;refine⟨qV,F.args_dict_init_2 _ _,?_⟩;unfold Builtin.«dict.__init__»;refine a9 ?_;unfold Builtin.Dict.selfAndRest;refine a9 (wpAny_notOrdered_dict qV ?_);show wpAny _ _ (pure (s.heap.objs.size,[Value.ref o])) _ _ _;refine aw ?_;show wpAny _ _ (Builtin.Dict.updateFrom "dict.__init__" s.heap.objs.size (.ref o) [] .none) _ _ _;unfold Builtin.Dict.updateFrom;refine a9 (wpAny_typeOf q6 ?_);refine eG dq ?_;refine a9 ?_;unfold Builtin.Dict.merge;refine a9 ?_;unfold Builtin.Dict.readDirectly;refine a9 (wpAny_isInstance q6 isSubtype_dict_dict ?_);refine eG dq ?_;refine a9 (wpAny_specialOf q6 F.slot_dict_iter.lookup (aw ?_));refine g6 dq ?_;refine a9 (aw ?_);exists ak (C.grow I kp),I1,S1;have bN:s.heap.objs.size≠o:=fun z=>by rw[<- z,cA]at g;exact nq g
  refine Tc (φ:=φ) (H:=H) (s:={ s with heap:=s.heap.push { cls:=.type "dict",data:=.dict #[] } }) bN ns gd (kp _ _ g) (Gz re kp) nd e1.2 e1.1 fun h' k' g' k=>?_;have k2:∀b ob,s.heap.get? b=some ob->h'.get? b=some ob:=fun b ob e=>k b ob (fun z=>by rw[z,cA]at e;exact nq e) (kp _ _ e);exists dr (C.fresh I k2 (cA _) (o:=.dict l) ⟨_,_,g',re,nd⟩),I',S,r;show wpAny _ _ (Builtin.Dict.addKeywords s.heap.objs.size [] >>= _) _ _ _;exact a9 (aw (aw ⟨rfl,P _ _ _ s.toks S I' r⟩))
 ·split at e
  ·rename_i l hl;exists ak (guard_some e),e1,e2;unfold vp at e2;split at e2
   ·rename_i out ho
    (clear e;injections e2)
    exists dA (gk I ra hl),d,vs,m,xF,g,rs;subst xF;have hle:=dR e1;refine callType_codes (Q₁:=fun obj s₁=>obj = .ref s.heap.objs.size/\s₁={ s with heap:=s.heap.push { cls:=.type "dict",data:=.dict #[] } }) F.kt_called_dict (F.kt_typeCall_dict_1 _) F.entry_dict_init (kt_code_dict_new _ ⟨rfl,rfl⟩) ?_;rintro obj s₁ ⟨rfl,rfl⟩;have q6:(({ s with heap:=s.heap.push { cls:=.type "dict",data:=.dict #[] } }:Shared)).TypeIs (.ref d) "list":=⟨_,kp _ _ g,rfl⟩;refine⟨qV,F.args_dict_init_2 _ _,?_⟩;unfold Builtin.«dict.__init__»;refine a9 ?_;unfold Builtin.Dict.selfAndRest;refine a9 (wpAny_notOrdered_dict qV ?_);show wpAny _ _ (pure (s.heap.objs.size,[Value.ref d])) _ _ _;refine aw ?_;show wpAny _ _ (Builtin.Dict.updateFrom "dict.__init__" s.heap.objs.size (.ref d) [] .none) _ _ _;unfold Builtin.Dict.updateFrom;refine a9 (wpAny_typeOf q6 ?_);refine g6 dq ?_;refine a9 (Ze (kp _ _ g) R.handled fun h1 JS k1=>?_);refine g6 (by rfl) ?_;have wo:∀b ob,s.heap.get? b=some ob->h1.get? b=some ob:=fun b ob e=>k1 _ _ (kp _ _ e);have m8:=k1 _ _ gd;have dB:s.heap.objs.size<h1.objs.size:=Heap.lt_size m8;have GQ:h1.IsList d vs.toArray:=⟨_,wo _ _ g,rfl,m,rfl⟩;refine a9 (wpAny_rule (a9 (wpAny_pyIter_list (s:={ s with heap:=h1,toks:=JS }) GQ ?_)));have Cg:=cS h1 { cls:=.type "list_iterator",data:=.fields #[.ref d,.int 0 0] };have Ks:s.heap.get? h1.objs.size=none:=Nu wo (cA _);refine a9 (aw (aw ⟨Code.quiet_builtin _ (by decide +kernel),?_⟩));refine aas (C:=C) (φ:=φ) (H:=H) (A:=A.in1) (s:={ s with heap:=h1,toks:=JS }) (h0:=s.heap) (items:=vs) (mm:=m) (cA _) Ks (eV dB) R.handled (by first|exact R.u1|(have:=R.units;show A.units+1+1<cLine;lia)|(have:=R.units;show A.units+1+1+1<cLine;lia)) g (out:=out) (fun s' xs k kk px nd gg cf=>?_)
     l vs [] [] [] 0 _ rfl rs ho .nil (by simp) (by simp;exact dR e1) (fun b o e=>Cg _ _ (wo _ _ e)) (Cg _ _ m8) ⟨_,Heap.get?_push_size _ rfl,rfl,rfl⟩ ⟨_,_,rfl⟩
    exists d7 cf,h',lK,qR
    try clear cf
    clear Ks Cg GQ dB m8 wo k1 q6 hle rs g ho e1 qV kp gd R;subst qR;exists dr (C.fresh I kk (cA _) (o:=.dict out) ⟨_,_,gg,px.es,nd⟩),I',S,r;exact⟨rfl,P _ _ _ _ S I' r⟩
   ·exact nq e2
  ·exact nq e
end
end
section
open PySem PySem.Calls PyProof.Rows PySem.W
theorem El{α β:Type}(f:α->β)(l:List α):∀(i:Nat),(l.map f).eraseIdx i=(l.eraseIdx i).map f:=by
 induction l with
 |nil=>intro i;induction i using bL <;> rfl
 |cons x l ih=>
  intro i
  induction i using bL with
  |zero=>rfl
  |succ i=>exact congrArg (f x :: ·) (ih i)
section
variable {prog:Program} {w:World} {K:Type} [DecidableEq K] {knd:HeapKind prog w K} {A:Around} {E:Value->Shared->Prop} {s:Shared}
theorem Hk(hu:knd.room A)(ta:knd.is s.heap k a)(hm:s.heap.DictOfH knd d xs)
  (dP:(∀(j:Nat) (p:Addr×Value),xs[j]?≠some (k,p))->Q none { s with toks:=s.toks+knd.draws k })
  (G7:∀(j:Nat) (p:Addr×Value),xs[j]?=some (k,p)->∀h',h'.DictOfH knd d (xs.eraseIdx j)->Heap.SameBut d s.heap h'->Q (some (entryOfKey knd (k,p))) { s with heap:=h',toks:=s.toks+knd.draws k })
  (d4:xs.length<=sizeLine:=by size_fits) :
  wpAny (model prog w) A (Builtin.Dict.takeOut d (.ref a)) Q E s:=by
 exists NS hm,o,es,ep,ho,hc,hd,he,zD,hn
 try clear hm
 unfold Builtin.Dict.takeOut
 try with_reducible refine dH ?_
 refine a9 (knd.pyHash hu ta ?_);refine a9 (wpAny_dictFind_heap (s:={ s with toks:=s.toks+knd.draws k }) hu ta ho hd he zD hn ?_ ?_)
 ·intro fX;exact aw (dP fX)
 ·intro j p hj;refine a9 (wpAny_dictEntries (s:={ s with toks:=s.toks+knd.draws k }) ho hd ?_);rw[entry_at he j,hj];refine a9 (wpAny_updateDictKeys (hz:=by have e:=size_of_entries he;lia) (s:={ s with toks:=s.toks+knd.draws k }) ho hd (aw (G7 j p hj _ ⟨_,_,ep+1,Heap.get?_update_self _ ho (Obj.isFreed_of_dict (Obj.data_mapDictKeys hd _)),
   hc.mapDictKeys _,Obj.data_mapDictKeys hd _,?_,?_,?_⟩ (Heap.SameBut.update ..))))
  ·clear hn zD hd hc ho d4 G7 dP ta hu;obtain⟨l⟩:=es;simp only at he;subst he;have hU:j<xs.length:=(fo.mp hj).1;simp [Array.eraseIdxIfInBounds,hU,El]
  ·intro x hx;exact knd.keeps (zD x (List.mem_of_mem_eraseIdx hx)) ho hd (Heap.SameBut.update ..)
  ·rw[<- El];exact hn.sublist (List.eraseIdx_sublist ..)
end
section
variable {C:Cf} {φ:Ph} {H:Hp} {h h':Heap} {A:Around} {n:Nat} {E:Value->Shared->Prop} {s:Shared}
theorem kH(I:C.I φ H h)(m:(⟨k,false,.list l⟩:Ent)∈H.es)(ha:φ.f k=some a):∃vs n,h.get? a=some (f9 vs n)/\C.Rs φ H h l vs:=by
 exists b6 (I.objs _ m),b,e1,e2,e3;rw[ha]at e1;exists e1;exact e3
theorem vP(I:C.I φ H h)(m:(⟨k,false,.dict l⟩:Ent)∈H.es)(ha:φ.f k=some a):∃es n,h.get? a=some (cX es n)/\C.Es φ H h l es/\(l.map (·.1)).Nodup/\a≠sysModules:=by
 exists b6 (I.objs _ m),b,e1,e2,e3;rw[ha]at e1;exists e1;exists cB e3,es,n,g,r,d
 try clear e3
 exact⟨es,n,g,r,d,xB I e2⟩
theorem z6(r:C.R φ H h (.ref k) x):∃a,x = .ref a/\φ.f k=some a:=by cases r;exact⟨_,rfl,by assumption⟩
theorem sF(I:C.I φ H h)(m:(⟨k,false,.list l⟩:Ent)∈H.es)(ha:φ.f k=some a)(g:h.get? a=some (f9 vs c))(f:Array Value->Array Value)(hf:f vs.toArray=vs'.toArray)(rs:C.Rs φ H h l' vs') :
  C.I φ (setObj H k (.list l')) (h.update a (Obj.mapSeq f))/\St φ H h φ (setObj H k (.list l')) (h.update a (Obj.mapSeq f)):=
 C.upd I m ha (fun b ob hb e=>by rw[Heap.get?_update_ne _ _ _ _ hb];exact e) (o':=.list l') ⟨vs',_,by have:=get?_update_seq g f;rw[hf]at this;exact this,rs⟩
theorem CN(I:C.I φ H h)(m:(⟨k,false,.list l⟩:Ent)∈H.es)(ha:φ.f k=some a)(g:h'.get? a=some (f9 vs' c))(kp:∀b ob,b≠a->h.get? b=some ob->h'.get? b=some ob)(rs:C.Rs φ H h l' vs') :
  C.I φ (setObj H k (.list l')) h'/\St φ H h φ (setObj H k (.list l')) h':=C.upd I m ha kp (o':=.list l') ⟨vs',c,g,rs⟩
theorem u6(rs:C.Rs φ H h l vs)(e:lenOk l=true):vs.toArray.size<=sizeLine:=by rw[dY,<- rs.length];exact jl (dR e)
theorem IH(I:C.I φ H s.heap)(m:(⟨k,false,.list l⟩:Ent)∈H.es)(ha:φ.f k=some a)(r:C.R φ H s.heap x y)(e:yA k l x H=some (v,H'))
  (P:C.Po φ H s H' (fun a8 h' z=>C.R a8 H' h' v z) Q):C.wp A (call (.builtin "list.append") [.ref a,y]) Q E s:=by
 exists ak (guard_some e),e1,e2
 (clear e;injections e2)
 exists aT (kH I m ha),vs,c,g,rs;refine wpAny_list_append_plain (items:=vs.toArray) ⟨c,g⟩ (fun h' hp hs=>?_) (u6 rs e1);exists aD hp,c',g'
 try clear hp
 have g':h'.get? a=some (f9 (vs++[y]) c'):=by rw[g'];simp [f9]
 clear g e1;obtain⟨I',S⟩:=CN I m ha g' (fun b ob hb e=>by rw[hs.2 b hb];exact e) (rs.append (.cons r .nil));exact P _ φ h' s.toks S I' .none
theorem XU(I:C.I φ H s.heap)(m:(⟨k,false,.list l⟩:Ent)∈H.es)(ha:φ.f k=some a)(r:C.R φ H s.heap x y)(e:Ha k l x H=some (v,H'))
  (P:C.Po φ H s H' (fun a8 h' z=>C.R a8 H' h' v z) Q):C.wp A (call (.builtin "list.extend") [.ref a,y]) Q E s:=by
 exists g5 e,l2,hl2,e
 ·exists ak (guard_some e),e1,e2;rw[cU,cU]at e1
  (clear e;injections e2)
  exists aT (kH I m ha),vs,c,g,rs;exists dA (gk I r hl2),b,us,c2,zY,g2,qs;clear e hl2 r;subst zY;have b1:=dR e1.2.1;have b2:=dR e1.2.2;have l1:=rs.length;have l2:=qs.length;have Qr:¬ (!vs.toArray.isEmpty && Builtin.List.listTooLong (vs.toArray.size+us.toArray.size))=true:=by
   have:Builtin.List.listTooLong (vs.toArray.size+us.toArray.size)=false:=by
    unfold Builtin.List.listTooLong;simp only[dY];rw[decide_eq_false_iff_not];have:=sizeLine_eq
    lia
   rw[this];simp
  refine call_meets PySem.F.slot_list_extend ⟨_,g,rfl⟩ PySem.F.entry_list_extend (PySem.F.args_list_extend_2 _ _) (PySem.AutoSeq1.list_extend_list_list_0 a vs.toArray c b us.toArray c2 Qr (u6 rs e1.2.1) (by rw[dY,dY,sizeLine_eq];lia)) ⟨g,g2,?_⟩;exists ak (sF I m ha g (fun x=>x++us.toArray) (vs':=vs++us) (by simp) (rs.append qs)),I',S;exact P _ φ _ s.toks S I' .none
theorem VT(I:C.I φ H s.heap)(m:(⟨k,false,.list l⟩:Ent)∈H.es)(ha:φ.f k=some a)(e:Kg k l H=some (v,H'))
  (P:C.Po φ H s H' (fun a8 h' z=>C.R a8 H' h' v z) Q):C.wp A (call (.builtin "list.reverse") [.ref a]) Q E s:=by
 exists ak (guard_some e),e1,e2
 (clear e;injections e2)
 exists aT (kH I m ha),vs,c,g,rs;refine call_meets PySem.F.slot_list_reverse ⟨_,g,rfl⟩ PySem.F.entry_list_reverse (PySem.F.args_list_reverse_1 _) (PySem.AutoSeq1.list_reverse_list_0 a vs.toArray c (u6 rs e1)) ⟨g,?_⟩;exists ak (sF I m ha g (fun x=>x.reverse) (vs':=vs.reverse) (by simp) rs.reverse),I',S;exact P _ φ _ s.toks S I' .none
set_option tactic.hygienic true in
theorem KD(I:C.I φ H s.heap)(m:(⟨k,false,.list l⟩:Ent)∈H.es)(ha:φ.f k=some a)(r:C.R φ H s.heap x y)(e:CM k l x H=some (v,H'))
  (P:C.Po φ H s H' (fun a8 h' z=>C.R a8 H' h' v z) Q):C.wp A (call (.builtin "list.pop") [.ref a,y]) Q E s:=by
 unfold CM at e;split at e
 ·exact nq e
 ·rename_i v0 l0;exists ak (guard_some e),e1,e2;rw[cU]at e1
  (clear e;injections e2)
  induction x using Internal.V.casesOn with
  |int i=>
   have e0:ieq i 0=true:=e1.1;rw[ieq_iff]at e0;subst e0;exists aD (int_at r),u,AZ;clear r;subst AZ;exists aT (kH I m ha),vs,c,g,rs;cases rs with
   |@cons _ y0 _ vs r1 r2=>
    have hz:(y0::vs).toArray.size<=sizeLine:=by
     have:=dR e1.2;have:=r2.length;rw[dY,sizeLine_eq];simp;lia
    refine call_meets PySem.F.slot_list_pop ⟨_,g,rfl⟩ PySem.F.entry_list_pop (PySem.F.args_list_pop_2 _ _) (PySem.MeetsSeq.list_pop_at a (y0::vs).toArray c 0 u 0 y0 dq (by unfold seqIndex?;simp) (by simp) hz) ⟨g,?_⟩;exists ak (sF I m ha g (fun xs=>xs.eraseIdxIfInBounds 0) (vs':=vs) (by simp [Array.eraseIdxIfInBounds]) r2),I',S;exact P _ φ _ s.toks S I' (S.vr I r1)
  |_=>clear r P m ha I;cases e1.1
theorem Md(I:C.I φ H s.heap)(m:(⟨k,false,.list l⟩:Ent)∈H.es)(ha:φ.f k=some a)(e:GL k l H=some (v,H'))
  (P:C.Po φ H s H' (fun a8 h' z=>C.R a8 H' h' v z) Q):C.wp A (call (.builtin "list.pop") [.ref a]) Q E s:=by
 exists jY e,v0,h0,e
 ·exists ak (guard_some e),e1,e2
  (clear e;injections e2)
  exists aT (kH I m ha),vs,c,g,rs;have hl:=rs.length;rw[List.getLast?_eq_getElem?]at h0;exists ae (rs.get h0),y,hy,ry;have m9:vs.toArray[vs.toArray.size - 1]?=some y:=by rw[dY,<- hl];simpa using hy
  have gi:l.length - 1<l.length:=(fo.mp h0).1;refine call_meets PySem.F.slot_list_pop ⟨_,g,rfl⟩ PySem.F.entry_list_pop (PySem.F.args_list_pop_1 _) (PySem.MeetsSeq.list_pop_last a vs.toArray c y m9 (u6 rs e1)) ⟨g,?_⟩;have hd:C.Rs φ H s.heap l.dropLast vs.dropLast:=by rw[List.dropLast_eq_take,List.dropLast_eq_take,<- hl];exact rs.take _
  have dB:vs.length - 1<vs.length:=by lia
  exists ak (sF I m ha g (fun xs=>xs.eraseIdxIfInBounds (vs.toArray.size - 1)) (vs':=vs.dropLast) (by simp [Array.eraseIdxIfInBounds,dB,List.eraseIdx_eq_take_drop_succ,List.dropLast_eq_take,(show vs.length - 1+1=vs.length by lia)]) hd),I',S;exact P _ φ _ s.toks S I' (S.vr I ry)
theorem NO(I:C.I φ H s.heap)(R:Rm A n)(m:(⟨k,false,.list l⟩:Ent)∈H.es)(ha:φ.f k=some a)(e:GN k l H=some (v,H'))
  (P:C.Po φ H s H' (fun a8 h' z=>C.R a8 H' h' v z) Q):C.wp A (call (.builtin "list.sort") [.ref a]) Q E s:=by
 exists g5 e,l',hs,e
 ·injections e;exists aT (kH I m ha),vs,c,g,rs;have el:=rs.length;exists ak (Du hs),ZG,hv;refine wpAny_call_entry slot_list_sort ⟨_,g,rfl⟩ entry_list_sort ?_ (args_list_sort _);have fin:∀p,C.Rs φ H s.heap l' (kT vs p)->∀h' n',h'.get? a=some (seqObj "list" (kT vs p).toArray n')->(∀b ob,b≠a->s.heap.get? b=some ob->h'.get? b=some ob)->Q .none { s with heap:=h' }:=by
   intro p ro h' n' g' kp;exists ak (CN I m ha g' kp ro),I',S;exact P _ φ h' s.toks S I' .none
  clear P hs;clear e;rcases hv with⟨h2,rfl⟩|⟨h2,kk,q,hk,hq,rfl⟩
  ·exact xZ (f:=fun _ _=>none) (p:=none) g (by lia) (.inl ⟨by exact lt_of_eq_of_lt (id (Eq.symm el)) h2,rfl⟩) (fun h1 e1 _ _ z=>by lia) fun h' n' g' kp=>⟨_,rfl,fin none rs h' n' g' kp⟩
  ·refine xZ (f:=iH l) (p:=some q) g (by lia) (.inr ⟨by exact le_of_le_of_eq h2 el,q,rfl,by rw[<- el];exact hq⟩) (fun h1 e1 kp g1 _=>?_) fun h' n' g' kp=>⟨_,rfl,fin (some q) (yz rs q.toList) h' n' g' kp⟩;exists ak (CN I m ha (l':=[]) (vs':=[]) g1 kp .nil),I1,S1;have hu:A.in1.units+100<cLine:=by have:=R.units;show A.units+1+100<cLine;lia
   exact Jx (s:={ s with heap:=h1 }) I1 (S1.iz I rs) hk (Nat.zero_lt_of_lt h2) hu
theorem EX.Me(px:EX C φ H h l xs)(hd:dget l k=none):∀(j:Nat) (p:Addr×Value),xs[j]?≠some (k,p):=by
 intro j p e;have:=(px.get k).2 hd;have m:k∈xs.map (·.1):=cG.mpr ⟨_,eA e,rfl⟩;rw[<- yx,this]at m;exact bf m
set_option tactic.hygienic true in
theorem Ea(I:C.I φ H s.heap)(R:Rm A n)(m:(⟨k,false,.dict l⟩:Ent)∈H.es)(ha:φ.f k=some a)(r:C.R φ H s.heap x y)
  (so:(dv=none/\dx=[])\/∃w z,dv=some w/\dx=[z]/\C.R φ H s.heap w z) {v:V} {H':Hp} (e:oN dv k l x H=some (v,H'))
  (P:C.Po φ H s H' (fun a8 h' z=>C.R a8 H' h' v z) Q):C.wp A (call (.builtin "dict.pop") (.ref a::y::dx)) Q E s:=by
 unfold oN at e;split at e
 ·rename_i ky hk;have:=sa hk;clear hk;subst this;exists aD (oS r),ka,Ca;subst Ca;exists ko (vP I m ha),es,c,g,re,nd,ns;exists ae (EX.dict g re nd),xs,px,D;have hT:s.TypeIs (.ref a) "dict":=⟨_,g,rfl⟩;have hx:=px.length;exists ak (guard_some e),jT,e;have hlen:es.length=l.length:=by clear e jT hx hT D px ns nd g r P so ha m R I;clear e;exists ae (EX.of re),ys,py,sg;subst sg;rw[aJ];exact py.length
  have room:C.knd.room A.in1:=ur R;have body:∀dflt:Option Value,(dv=none/\dflt=none\/∃w z,dv=some w/\dflt=some z/\C.R φ H s.heap w z)->
    C.wp A.in1 (do
     let empty <- if (keyPart (.ref ka)).isSome then pure false else do pure (<- dictEntries a).isEmpty
     let old <- if empty then (do rule "dict.pop.empty";pure none)else Builtin.Dict.takeOut a (.ref ka)
     if old.isNone then Builtin.Dict.missedRemoval a (.ref ka)
     match old,dflt with
     |some e,_=>letGo [e.key] [e.val];ret e.val
     |none,some x=>rule "dict.pop.default";ret x
     |none,none=>rule "dict.pop.keyerror";raiseNew (<- newExc (.type "KeyError") [.ref ka])) (fun fin s'=>∃r,fin = .done (.ret r)/\Q r s') E s:=by
   intro dflt BM;refine eG (by simp [keyPart]) ?_;refine a9 (wpAny_dictEntries g rfl (a9 (aw ?_)));have miss:∀tk,dget l ky=none->C.wp A.in1 (Builtin.Dict.missedRemoval a (.ref ka) >>= fun _=>match (none:Option DictEntry),dflt with
     |some e,_=>(do letGo [e.key] [e.val];ret e.val)
     |none,some x=>(do rule "dict.pop.default";ret x)
     |none,none=>(do rule "dict.pop.keyerror";raiseNew (<- newExc (.type "KeyError") [.ref ka]))) (fun fin s'=>∃r,fin = .done (.ret r)/\Q r s') E { s with toks:=tk }:=by
    intro tk hd;rw[hd]at e;refine a9 (wpAny_missedRemoval_other (t8 ns) ?_);clear hd room hlen jT hx hT D px ns nd re g r so ha m R;rcases BM with⟨rfl,rfl⟩|⟨w,z,rfl,rfl,rw⟩
    ·exact nq e
    ·injections e;exact a9 (wpAny_rule (aw ⟨z,rfl,P.here I rw tk⟩))
   by_cases ye:es=[]
   ·clear BM room e jT hx hT D px ns nd re g r P so ha m R I;clear e;subst ye;have hl:l=[]:=List.length_eq_zero_iff.mp (by simpa using hlen.symm);clear hlen;subst hl;dsimp only;refine g6 (by simp) ?_;refine a9 (a9 (wpAny_rule (aw ?_)));simp only[Option.isNone_none,if_true];exact miss s.toks rfl
   ·dsimp only;refine eG (by simpa using ye) ?_;clear ye BM hlen hT ns re g so R;induction hd:dget l ky using aL with
    |none=>
     refine a9 (Hk room (lh r) D (fun _=>?_) (fun j p hj=>absurd hj (px.Me hd j p)) (by rw[hx];exact jl (dR jT)));simp only[Option.isNone_none,if_true];exact miss _ hd
    |some v0=>
     rw[hd]at e;injections e;exists aT ((px.get ky).1 _ hd),a0,x0,h0,r0;refine a9 (Hk room (lh r) D (fun fX=>?_) (fun j p hj h' D' cf=>?_) (by rw[hx];exact jl (dR jT)))
     ·exfalso;rw[atKey_none_of_get fX]at h0;exact nq h0
     ·have hp:=atKey_of_get (by rw[px.keys];exact nd) hj;rw[h0]at hp
      (clear h0 e hd miss room jT hx D r;injections hp)
      refine eG (by simp) ?_;exists aD (vA D'),c',g';have Nr:EX C φ H s.heap (ddel l ky) (xs.eraseIdx j):=px.del (by rw[px.keys];exact nd) hj;obtain⟨I',S⟩:=C.upd I m ha (fun b ob hb e=>by rw[cf.2 b hb];exact e) (o':=.dict (ddel l ky)) ⟨_,c',g',Nr.es,nd.sublist Lg⟩;exact a9 (wpAny_letGo (aw ⟨_,rfl,P _ φ h' _ S I' (S.vr I r0)⟩))
  clear room hlen e jT hx D px ns nd re g r P ha m R I;clear e;rcases so with⟨rfl,rfl⟩|⟨w,z,rfl,rfl,rw⟩
  ·refine wpAny_call_entry PySem.F.slot_dict_pop hT PySem.F.entry_dict_pop ?_ (PySem.F.args_dict_pop_2 _ _);unfold Builtin.«dict.pop»;refine a9 ?_;unfold Builtin.Dict.keyAndDefault;refine a9 (wpAny_notOrdered_dict hT ?_);refine aw ?_;exact body none (.inl ⟨rfl,rfl⟩)
  ·refine wpAny_call_entry PySem.F.slot_dict_pop hT PySem.F.entry_dict_pop ?_ (PySem.F.args_dict_pop_3 _ _ _);unfold Builtin.«dict.pop»;refine a9 ?_;unfold Builtin.Dict.keyAndDefault;refine a9 (wpAny_notOrdered_dict hT ?_);refine aw ?_;exact body (some z) (.inr ⟨w,z,rfl,rfl,rw⟩)
 ·exact nq e
end
end
section
open PySem PySem.Calls PyProof.Rows PySem.W
noncomputable def gR:BI->Value
 |.len=>.builtin "len"
 |.sum=>.builtin "sum"
 |.max2=>.builtin "max"
 |.maxl=>.builtin "max"
 |.min2=>.builtin "min"
 |.abs=>.builtin "abs"
 |.any=>.builtin "any"
 |.sorted=>.builtin "sorted"
 |.tuple=>.type "tuple"
 |.dict=>.type "dict"
 |.int=>.type "int"
noncomputable def vH:f7->String
 |.append=>"list.append"
 |.extend=>"list.extend"
 |.pop0=>"list.pop"
 |.jV=>"list.pop"
 |.dpop1=>"dict.pop"
 |.dpopN=>"dict.pop"
 |.reverse=>"list.reverse"
 |.sort=>"list.sort"
noncomputable def nV:f7->String
 |.dpop1=>"dict"
 |.dpopN=>"dict"
 |_=>"list"
section
variable {C:Cf} {φ:Ph} {H:Hp} {h h':Heap} {A:Around} {n:Nat} {E:Value->Shared->Prop} {s:Shared}
theorem Cf.bi(b:BI)(I:C.I φ H s.heap)(R:Rm A n)(rs:C.Rs φ H s.heap l vs)(e:cw b l H=some (v,H'))(P:C.Po φ H s H' (fun a8 h' z=>C.R a8 H' h' v z) Q) :
  C.wp A (call (gR b) vs) Q E s:=by
 induction b using Internal.BI.casesOn with
 |len=>obtain⟨a,rfl,e⟩:=ib e;obtain⟨x,rfl,r⟩:=fA rs;exact Rk I r e P
 |sum=>obtain⟨a,rfl,e⟩:=ib e;obtain⟨x,rfl,r⟩:=fA rs;exact Mt I R r e P
 |maxl=>obtain⟨a,rfl,e⟩:=ib e;obtain⟨x,rfl,r⟩:=fA rs;exact TP I R r e P
 |abs=>obtain⟨a,rfl,e⟩:=ib e;obtain⟨x,rfl,r⟩:=fA rs;exact QW I r e P
 |any=>obtain⟨a,rfl,e⟩:=ib e;obtain⟨x,rfl,r⟩:=fA rs;exact Y3 I R r e P
 |sorted=>obtain⟨a,rfl,e⟩:=ib e;obtain⟨x,rfl,r⟩:=fA rs;exact NC I R r e P
 |tuple=>obtain⟨a,rfl,e⟩:=ib e;obtain⟨x,rfl,r⟩:=fA rs;exact aa4 I r e P
 |dict=>obtain⟨a,rfl,e⟩:=ib e;obtain⟨x,rfl,r⟩:=fA rs;exact UN I R r e P
 |int=>obtain⟨a,rfl,e⟩:=ib e;obtain⟨x,rfl,r⟩:=fA rs;exact RK I r e P
 |max2=>obtain⟨a,b,rfl,e⟩:=Ad e;obtain⟨x,y,rfl,r,q⟩:=oK rs;exact PB I R r q e P
 |min2=>obtain⟨a,b,rfl,e⟩:=Ad e;obtain⟨x,y,rfl,r,q⟩:=oK rs;exact MW I R r q e P
theorem zk(e:qe f k o l H=some (v,H')):∃t,o = .list t/\l=[]/\f k t H=some (v,H'):=by
 unfold qe at e;split at e
 ·split at e
  ·exact⟨_,rfl,rfl,e⟩
  ·exact nq e
 ·exact nq e
theorem Bp(e:sq f k o l H=some (v,H')):∃t a,o = .list t/\l=[a]/\f k t a H=some (v,H'):=by
 unfold sq at e;split at e
 ·exists ae (ib e),a,wD,e;clear e;subst wD;exact⟨_,a,rfl,rfl,e⟩
 ·exact nq e
theorem Ua(e:wC k o l H=some (v,H')):∃t a,o = .dict t/\l=[a]/\oN none k t a H=some (v,H'):=by
 unfold wC at e;split at e
 ·exists ae (ib e),a,YX,e;clear e;subst YX;exact⟨_,a,rfl,rfl,e⟩
 ·exact nq e
theorem Q8(e:Ab k o l H=some (v,H')):∃t a d,o = .dict t/\l=[a,d]/\oN (some d) k t a H=some (v,H'):=by
 unfold Ab at e;split at e
 ·exists aT (Ad e),a,d,rA,e;clear e;subst rA;exact⟨_,a,d,rfl,rfl,e⟩
 ·exact nq e
set_option tactic.hygienic true in
theorem Zk(e:eC m o l H=some (v,H')):∃k ob,o = .ref k/\(⟨k,false,ob⟩:Ent)∈H.es/\Hq m k ob l H=some (v,H'):=by
 unfold eC at e;split at e
 ·exact nq e
 ·rename_i k ob ho;exists ak (qa ho),Lz,m;clear ho;subst Lz;exact⟨k,ob,rfl,m,e⟩
theorem Cf.cO(m:f7)(I:C.I φ H s.heap)(R:Rm A n)(ro:C.R φ H s.heap o ov)(rs:C.Rs φ H s.heap l vs)(e:eC m o l H=some (v,H'))
  (P:C.Po φ H s H' (fun a8 h' z=>C.R a8 H' h' v z) Q):C.wp A (call (.builtin (vH m)) (ov::vs)) Q E s:=by
 obtain⟨k,ob,rfl,mm,e⟩:=Zk e;obtain⟨a,rfl,ha⟩:=z6 ro;clear ro;induction m using Internal.f7.casesOn with
 |append=>obtain⟨t,x,rfl,rfl,e⟩:=Bp e;obtain⟨y,rfl,r⟩:=fA rs;exact IH I mm ha r e P
 |extend=>obtain⟨t,x,rfl,rfl,e⟩:=Bp e;obtain⟨y,rfl,r⟩:=fA rs;exact XU I mm ha r e P
 |pop0=>obtain⟨t,x,rfl,rfl,e⟩:=Bp e;obtain⟨y,rfl,r⟩:=fA rs;exact KD I mm ha r e P
 |jV=>obtain⟨t,rfl,rfl,e⟩:=zk e;cases rs;exact Md I mm ha e P
 |reverse=>obtain⟨t,rfl,rfl,e⟩:=zk e;cases rs;exact VT I mm ha e P
 |sort=>obtain⟨t,rfl,rfl,e⟩:=zk e;cases rs;exact NO I R mm ha e P
 |dpop1=>obtain⟨t,x,rfl,rfl,e⟩:=Ua e;obtain⟨y,rfl,r⟩:=fA rs;exact Ea I R mm ha r (.inl ⟨rfl,rfl⟩) e P
 |dpopN=>obtain⟨t,x,d,rfl,rfl,e⟩:=Q8 e;obtain⟨y,z,rfl,r,q⟩:=oK rs;exact Ea I R mm ha r (.inr ⟨d,z,rfl,rfl,q⟩) e P
set_option tactic.hygienic true in
theorem Cf.U1(m:f7)(I:C.I φ H s.heap)(ro:C.R φ H s.heap o ov)(e:fR m (own H o)=true) :
  s.TypeIs ov (nV m)/\∀a,ov = .ref a->∃ob,s.heap.get? a=some ob/\ob.dict=none:=by
 unfold fR at e;split at e
 ·rename_i p hp;obtain⟨k,ob⟩:=p;exists ak (qa hp),Z8,mm;clear hp;subst Z8;exists ae (z6 ro),a,AV,ha;clear ro;subst AV;dsimp only at e
  induction ob using Internal.bq.casesOn with
  |list l=>
   exists aT (kH I mm ha),vs,c,g,Z0;have hm:nV m = "list":=by clear g mm ha I;induction m using Internal.f7.casesOn <;> first|rfl|exact bf e
   rw[hm];exact⟨⟨_,g,rfl⟩,fun b hb=>by clear hm mm e ha I;cases hb;exact⟨_,g,rfl⟩⟩
  |dict l=>
   exists aT (vP I mm ha),vs,c,g,Z0;have hm:nV m = "dict":=by clear g mm ha I;induction m using Internal.f7.casesOn <;> first|rfl|exact bf e
   rw[hm];exact⟨⟨_,g,rfl⟩,fun b hb=>by clear hm mm e ha I;cases hb;exact⟨_,g,rfl⟩⟩
 ·exact bf e
theorem set_list{l:Addr}{items:Array Value}{c:Nat}{t:Tok}{v:Value}{Q:Unit->Shared->Prop}{o:Obj}(ho:s.heap.get? l=some o)(hc:o.cls = .type "list")(hd:o.data = .seq items c){k:Int}(h0:0<=k)(hj:k<items.size)(g9:k<2 ^ 63)
  (hQ:Q () { s with heap:=s.heap.update l (Obj.mapSeq (·.setIfInBounds k.toNat v)) }):C.wp A (setItem (.ref l) (.int k t) v) Q E s:=by
 have hl:s.heap.IsList l items:=⟨o,ho,hc,c,hd⟩;unfold setItem
 try with_reducible refine dH ?_
 first|refine a9 (aw ?_)|skip
 refine a9 (wpAny_sequenceKey hl.typeIs dq ?_);refine a9 (wpAny_callSpecial?_slot (name:=Str.ofString "__setitem__") hl.typeIs PySem.slot_list_setitem
  (wpAny_call_entry PySem.slot_list_setitem hl.typeIs PySem.entry_list_setitem ?_ (PySem.args_list_setitem _ _ _)))
 show wpAny _ _ (Builtin.List.listSubscript? (.int k t) >>= _) _ _ s;refine a9 (wpAny_listSubscript_int (fitsIndex_of h0 g9) ?_);clear g9;exists aD (Int.eq_ofNat_of_zero_le h0),j,y9;clear hl h0 hc;subst y9;have hj:j<items.size:=by exact(fun{n m}=>Int.ofNat_lt.mp) hj
 have UE:items[j]?=some items[j]:=Array.getElem?_eq_getElem hj;show wpAny _ _ ((seqItemAt l j >>= fun r=>pure (r.map (j,·))) >>= _) _ _ s;refine a9 (a9 (wpAny_seqItemAt ho hd (aw ?_)));rw[UE];show wpAny _ _ (setSeqItemAt l j v >>= _) _ _ s;refine a9 (wpAny_setSeqItemAt ho hd ?_)
 first
  |exact a9 (aw (aw ⟨.none,rfl,aw hQ⟩))
  |exact aw ⟨.none,rfl,aw hQ⟩
theorem U7(e:vg k l i v H=some H'):∃j:Nat,i = .int (Int.ofNat j)/\j<l.length/\lenOk l=true/\H'=setObj H k (.list (l.set j v)):=by
 unfold vg at e;split at e
 ·split at e
  ·exists ak (guard_some e),e1,e2;rw[cU]at e1
   (clear e;exists e2)
   exact⟨_,rfl,bC e1.1,e1.2,rfl⟩
  ·exact nq e
 ·exact nq e
set_option tactic.hygienic true in
theorem L8(e:jb H o i v=some H'):∃k ob,o = .ref k/\(⟨k,false,ob⟩:Ent)∈H.es/\storeO k ob i v H=some H':=by
 unfold jb at e;split at e
 ·exact nq e
 ·rename_i p hp;obtain⟨k,ob⟩:=p;exists ak (qa hp),VW,m;clear hp;subst VW;exact⟨k,ob,rfl,m,e⟩
theorem Cf.store(I:C.I φ H s.heap)(R:Rm A n){Q:Unit->Shared->Prop}{o i v:V}{x y z:Value}(ro:C.R φ H s.heap o x)(ri:C.R φ H s.heap i y)(rv:C.R φ H s.heap v z){H':Hp}(e:jb H o i v=some H')
  (P:C.Po φ H s H' (fun _ _ _=>True) Q):C.wp A (setItem x y z) Q E s:=by
 exists cB (L8 e),k,ob,CB,mm,e;subst CB;exists ae (z6 ro),a,zZ,ha;clear e ro;subst zZ
 induction ob using Internal.bq.casesOn with
 |list l=>
  exists dw (U7 (show vg k l i v H=some H' from e)),j,Cp,hj,hlen,WM;clear e R;subst Cp;subst WM;have hl:=dR hlen;exists aT (kH I mm ha),vs,c,g,rs;have el:=rs.length;exists aD (int_at ri),t,B2;clear ri hlen;subst B2;refine set_list (items:=vs.toArray) (c:=c) g rfl rfl (k:=(j:Int)) (Int.natCast_nonneg j) (by rw[dY];lia) (by lia) ?_;exists ak (sF I mm ha g (fun xs=>xs.setIfInBounds j z) (vs':=vs.set j z) (by simp) (rs.set j rv)),I',S;exact P _ φ _ s.toks S I' trivial
 |dict l=>
  have e:FO k l i v H=some H':=e;exists Dt e,ky,hk,e
  ·exists ak (guard_some e),e1,e2
   (clear e;exists e2)
   have:=sa hk;clear e hk;subst this;exists aD (oS ri),ka,z7;subst z7;exists ko (vP I mm ha),es,c,g,re,nd,ns;exists ae (EX.dict g re nd),xs,px,D;refine wpAny_setItem_heap (ur R) (lh ri) D (fun h' D' hs=>?_) (by rw[px.length];exact jl (dR e1));exists aD (vA D'),c',g';clear D' D ns re g e1 R;obtain⟨I',S⟩:=C.upd I mm ha (fun b ob hb e=>by rw[hs.2 b hb];exact e) (o':=.dict (dset l ky v)) ⟨_,c',g',(px.set nd ri rv).es,yZ nd _ _⟩;exact P _ φ h' _ S I' trivial
end
end
section
open PySem PySem.Calls PyProof.Rows PySem.W
noncomputable abbrev DE:=ai->Hp->Option (V×Hp)
noncomputable def Cf.SL(C:Cf)(n:Nat)(c:Cx)(es:List PySem.Expr)(f:ai->Hp->Option (List V×Hp)):Prop:=∀A env ρ φ H s vs H' Q E,Rm A n->C.I φ H s.heap->ER C c ρ env φ H s.heap->f ρ H=some (vs,H')->
 C.Po φ H s H' (fun a8 h' x=>C.Rs a8 H' h' vs x) Q->∀pos,C.wp A (spliced (backTo pos (starEach es env))) Q E s
noncomputable def notStar:PySem.Expr->Bool
 |.Starred _ _=>false
 |_=>true
theorem BD(h:notStar e=true)(rest:List PySem.Expr)(env:Env):starEach (e::rest) env=(false,eval e env)::starEach rest env:=by induction e using Expr.casesOn <;> first|rfl|exact bf h
section
variable {C:Cf} {c:Cx} {n:Nat}
theorem Cf.I.Mm(I:C.I φ H h)(r:VR C.kh (fun _=>none) (fun _=>False) C.h₀ v x):C.R φ H h v x:=
 r.mono (fun _ _ e=>by exact nq e) (fun b o e _=>I.base b o e) fun b o q e=>by
  clear r;rcases q with⟨en,m,q⟩|q
  ·exists b6 (I.objs en m),a,h1,h2,Z0;rw[q]at h1;exists h1;rw[e]at h2;exact ns h2
  ·rw[(I.cC b q).1]at e;exact nq e
theorem se_none{k p}:C.SE n c (.Constant .none k p) (fun _ H=>some (.none,H)):=fun A env ρ φ H s v H' Q E R I X e P=>by
 (clear X R;injections e)
 exact wpAny_Constant_none (P.dS I .none)
theorem se_bool{b k p}:C.SE n c (.Constant (.bool b) k p) (fun _ H=>some (.bool b,H)):=fun A env ρ φ H s v H' Q E R I X e P=>by
 (clear X R;injections e)
 exact wpAny_Constant_bool (P.dS I (.bool b))
theorem se_int{i k p}:C.SE n c (.Constant (.int i) k p) (fun _ H=>some (.int i,H)):=fun A env ρ φ H s v H' Q E R I X e P=>by
 (clear X R;injections e)
 show C.wp A (mkInt i) Q E s;exact wpAny_mkInt (P.here I (.int i _) _)
theorem se_str{k p}:C.SE n c (.Constant (.str x) k p) (fun _ H=>some (.str x.cps.toList,H)):=fun A env ρ φ H s v H' Q E R I X e P=>by
 (clear X R;injections e)
 exact wpAny_Constant_str (P.here I (.str x _) _)
theorem Vz{c:Cx}(h:c.slot x=some i):(c.names.lookup x=some .local\/c.names.lookup x=some .cell\/c.names.lookup x=some .free)/\c.vm.lookup x=some i:=by
 unfold cF.slot at h;generalize c.names.lookup x=o at h ⊢
 induction o using aL with
 |none=>exact nq h
 |some k=>induction k using PySem.NameKind.casesOn with
  |«local»=>exact⟨.inl rfl,h⟩
  |cell=>exact⟨.inr (.inl rfl),h⟩
  |free=>exact⟨.inr (.inr rfl),h⟩
  |_=>exact nq h
theorem Jk(X:ER C c ρ env φ H s.heap)(hs:c.slot x=some i)(hv:cI ρ i=some v)(hq:∀y,C.R φ H s.heap v y->Q y s) :
  C.wp A (loadName env x) Q E s:=by
 exists ak (Vz hs),hk,hs;rcases hk with hk|hk|hk
 ·exists ae X.loc,m,hn,hm;exists ae (hm x i v hk hs hv),val,e1,r;exact wpAny_loadName_local X.kind (X.kinds x _ hk) hn e1 (hq _ r)
 ·exists gN (X.cell x i (.inl hk) hs),a,ov,e1,e2,Z0,Z0,e5;exists ae (e5 v hv),val,Bj,r;clear e5 hs hv;subst Bj;exact wpAny_loadName_cell X.kind (X.kinds x _ hk) e1 e2 (hq _ r)
 ·exists gN (X.cell x i (.inr hk) hs),a,ov,e1,e2,Z0,Z0,e5;exists ae (e5 v hv),val,xd,r;clear e5 hv;subst xd;have hx:(x == ("__classdict__" : Str))=false:=X.ok.plain x _ hs;clear hs;rcases X.kinds x _ hk with z|z
  ·exact wpAny_loadName_free X.kind z e1 e2 (hq _ r) hx
  ·exact wpAny_loadName_cell X.kind z e1 e2 (hq _ r)
theorem Z2(hs:c.slot x=some i)(hd:(x == ("__debug__" : Str))=false):C.SE n c (.Name x p) (fun ρ H=>match cI ρ i with
 |some v=>some (v,H)
 |none=>none):=fun A env ρ φ H s v H' Q E R I X e P=>by
 dsimp only at e;exists jY e,v',hv,e
 ·(clear R;injections e)
  exact wpAny_Name (Jk X hs hv fun y r=>P.dS I r) hd
theorem Sj(ha:C.SE n c a da)(hb:C.SE n c b db):C.SE n c (.BinOp a op b p) (fun ρ H=>ob (da ρ H) fun x H=>ob (db ρ H) fun y H=>binOp op x y H):=fun A env ρ φ H s v H' Q E R I X e P=>by
 exists aT (bV e),x,H₁,e1,e;exists aT (bV e),y,aE,e2,e;refine wpAny_BinOp (ha A env ρ φ H s x H₁ _ E R I X e1 fun vx ax ao b7 aA ah aR=>?_);exists hb A env ρ ax H₁ _ y aE _ E R ah (X.step aA I) e2,vy,bp,aV,ed,aP,aC,du;exact C.binOp aC (aP.vr ah aR) du e ((P.step aA I ah).step aP ah aC)
theorem se_neg(ha:C.SE n c a da):C.SE n c (.UnaryOp .USub a p) (fun ρ H=>ob (da ρ H) vf):=fun A env ρ φ H s v H' Q E R I X e P=>by
 exists aT (bV e),x,H₁,e1,e;refine wpAny_UnaryOp (ha A env ρ φ H s x H₁ _ E R I X e1 fun vx ax ao b7 aA ah aR=>?_);unfold vf at e;split at e
 ·injections e;exists aD (int_at aR),t,rm;clear e aR e1 X R ha;subst rm;exact neg_int ((P.step aA I ah).here ah (.int _ _) _)
 ·exact nq e
theorem ZH(ha:C.SE n c a da)(hb:C.SE n c b db)(hm:behindInMarks op b=false) :
  C.SE n c (.Compare a [op] [b] p) (fun ρ H=>ob (da ρ H) fun x H=>ob (db ρ H) fun y H=>retB (bu op x y H) H):=fun A env ρ φ H s v H' Q E R I X e P=>by
 exists aT (bV e),x,H₁,e1,e;exists aT (bV e),y,aE,e2,e;refine wpAny_Compare1 (ha A env ρ φ H s x H₁ _ E R I X e1 fun vx ax ao b7 aA ah aR=>?_) hm;exists hb A env ρ ax H₁ _ y aE _ E R ah (X.step aA I) e2,vy,bp,aV,ed,aP,aC,du;exists sT e,b,dN,e
 ·(clear e2 e1 X hm hb ha;exists sp2 e,Wn,W4;clear e;clear e;subst Wn;clear e;subst W4)
  exact C.cmp op aC R (aP.vr ah aR) du dN fun tk=>((P.step aA I ah).step aP ah aC).here aC (.bool b) tk
theorem UY(ha:C.SE n c a da)(hb:C.SE n c b db)(hm:behindInMarks op b=false) :
  C.SB n c (.Compare a [op] [b] p) (fun ρ H=>ob (da ρ H) fun x H=>ob (db ρ H) fun y H=>retB (bu op x y H) H):=fun A env ρ φ H s v H' Q E R I X e P=>by
 exists aT (bV e),x,H₁,e1,e;exists aT (bV e),y,aE,e2,e;refine wpAny_isTrue_Compare1 (ha A env ρ φ H s x H₁ _ E R I X e1 fun vx ax ao b7 aA ah aR=>?_) hm;exists hb A env ρ ax H₁ _ y aE _ E R ah (X.step aA I) e2,vy,bp,aV,ed,aP,aC,du;exists sT e,b,dN,e
 ·clear e2 e1 X hm hb ha;cases e;exact C.cmp op aC R (aP.vr ah aR) du dN fun tk=>wpAny_truthy_bool (((P.step aA I ah).step aP ah aC).here aC rfl tk)
theorem JE(e:pz v H=some (v',H')):∃b,v = .bool b/\v' = .bool (!b)/\H'=H:=by
 induction v using V.casesOn with
 |bool b=>injections e;exact⟨_,rfl,rfl,rfl⟩
 |_=>exact nq e
theorem se_not(ha:C.SE n c a da):C.SE n c (.UnaryOp .Not a p) (fun ρ H=>ob (da ρ H) pz):=fun A env ρ φ H s v H' Q E R I X e P=>by
 exists aT (bV e),x,H₁,e1,e;exists b6 (JE e),b,Wz,Rq,aaK;clear e;subst Wz;subst Rq;subst aaK;refine wpAny_UnaryOp (ha A env ρ φ H s _ _ _ E R I X e1 fun vx ax ao b7 aA ah aR=>?_);have:=qL aR;clear aR e1 X R ha;subst this;exact not_value (wpAny_truthy_bool ((P.step aA I ah).dS ah (.bool _)))
theorem sb_not(ha:C.SB n c a da):C.SB n c (.UnaryOp .Not a p) (fun ρ H=>ob (da ρ H) pz):=fun A env ρ φ H s v H' Q E R I X e P=>by
 exists aT (bV e),x,H₁,e1,e;exists b6 (JE e),b,rJ,hb,ze;clear e;subst rJ;subst ze;cases hb;refine wpAny_isTrue_Not (ha A env ρ φ H s b _ _ E R I X e1 fun vx ax ao b7 aA ah aR=>?_);clear e1 X R ha;subst aR;exact(P.step aA I ah).dS ah rfl
theorem Hv{t a b:DE}{ρ:ai}{H:Hp}{v:V}{H':Hp}(e:(ob (t ρ H) fun v H=>match v with
 |.bool c=>match c with
  |true=>a ρ H
  |false=>b ρ H
 |_=>none)=some (v,H')):∃c H₁,t ρ H=some (.bool c,H₁)/\(if c then a ρ H₁ else b ρ H₁)=some (v,H'):=by
 exists aT (bV e),x,H₁,e1,e
 induction x using Internal.V.casesOn with
 |bool c=>induction c using aB <;> exact⟨_,H₁,e1,e⟩
 |_=>exact nq e
theorem Vv{t a b:PySem.Expr}{p:Pos}{dt da db:DE}(ht:C.SB n c t dt)(ha:C.SE n c a da)(hb:C.SE n c b db):C.SE n c (.IfExp t a b p) (fun ρ H=>ob (dt ρ H) fun v H=>match v with
 |.bool c=>match c with
  |true=>da ρ H
  |false=>db ρ H
 |_=>none):=fun A env ρ φ H s v H' Q E R I X e P=>by
 exists aT (Hv e),d,H₁,e1,e;refine wpAny_IfExp (ht A env ρ φ H s d H₁ _ E R I X e1 fun vx ax ao b7 aA ah aR=>?_);clear e1 ht;subst aR
 induction vx using aB with
 |true=>exact ha A env ρ ax H₁ _ v H' Q E R ah (X.step aA I) e (P.step aA I ah)
 |false=>exact hb A env ρ ax H₁ _ v H' Q E R ah (X.step aA I) e (P.step aA I ah)
theorem US{t a b:PySem.Expr}{p:Pos}{dt da db:DE}(ht:C.SB n c t dt)(ha:C.SB n c a da)(hb:C.SB n c b db):C.SB n c (.IfExp t a b p) (fun ρ H=>ob (dt ρ H) fun v H=>match v with
 |.bool c=>match c with
  |true=>da ρ H
  |false=>db ρ H
 |_=>none):=fun A env ρ φ H s v H' Q E R I X e P=>by
 exists aT (Hv e),d,H₁,e1,e;rw[arm_isTrue_IfExp];refine a9 (ht A env ρ φ H s d H₁ _ E R I X e1 fun vx ax ao b7 aA ah aR=>?_);clear e1 ht;subst aR
 induction vx using aB with
 |true=>exact ha A env ρ ax H₁ _ v H' Q E R ah (X.step aA I) e (P.step aA I ah)
 |false=>exact hb A env ρ ax H₁ _ v H' Q E R ah (X.step aA I) e (P.step aA I ah)
noncomputable def vz:PySem.Expr->Bool
 |.UnaryOp .Not _ _=>false
 |.BoolOp _ _ _=>false
 |.IfExp _ _ _ _=>false
 |.Compare _ _ _ _=>false
 |_=>true
theorem plainB_eq(h:vz e=true)(env:Env)(whole:Sem Value):isTrue e env whole=(do let v <- whole;standAt e.pos;holding [v] (truthy v)):=by
 induction e using Expr.casesOn with
 |UnaryOp op x p=>induction op using PySem.UnaryOp.casesOn <;> first|rfl|exact bf h
 |BoolOp=>exact bf h
 |IfExp=>exact bf h
 |Compare=>exact bf h
 |_=>rfl
theorem LC(h:vz e=true)(he:C.SE n c e d):C.SB n c e d:=fun A env ρ φ H s v H' Q E R I X e' P=>by
 refine wpAny_isTrue_value (he A env ρ φ H s _ _ _ E R I X e' fun vx ax ao b7 aA ah aR=>?_) (plainB_eq h env _);have:=qL aR;clear aR e' X R he h;subst this;exact wpAny_truthy_bool ((P.step aA I ah).dS ah rfl)
end
end
section
set_option backward.match.sparseCases true
open PySem PySem.Calls PyProof.Rows PySem.W
inductive bZ {α β:Type} (R:α->β->Prop):List α->List β->Prop
 |nil:bZ R [] []
 |cons {a:α} {b:β} {l:List α} {m:List β}:R a b->bZ R l m->bZ R (a::l) (b::m)
theorem bZ.length_eq{α β:Type}{R:α->β->Prop}{l:List α}{m:List β}(h:bZ R l m):l.length=m.length:=by
 induction h with
 |nil=>rfl
 |cons _ _ ih=>simp [ih]
section
variable {C:Cf} {c:Cx} {n:Nat}
theorem se_and(p:Pos)(es:List PySem.Expr)(ms:List ME)(h:bZ (fun e m=>C.SE n c e (dn m)) es ms):C.SE n c (.BoolOp .And es p) (fun ρ H=>j9 dn ρ ms H):=by
 induction h with
 |nil=>exact fun A env ρ φ H s v H' Q E R I X e P=>nq e
 |@cons e m es ms h1 h2 ih=>
   intro A env ρ φ H s v H' Q E R I X e' P;have e':cL (dn m ρ H) (fun b H=>match ms with
    |[]=>some (V.bool b,H)
    |_::_=>match b with
     |true=>j9 dn ρ ms H
     |false=>some (V.bool false,H))=some (v,H'):=e'
   exists aT (nF e'),b,H₁,e1,e2;clear e';cases h2 with
   |nil=>
    (clear e';injections e2)
    exact h1 A env ρ φ H s _ _ Q E R I X e1 P
   |@cons wW m₂ es ms h3 h4=>
    show C.wp A (do
     let v <- eval e env
     standAt p
     let t <- holding [v] (truthy v)
     match BoolOp.And,t with
     |.And,false|.Or,true=>pure v
     |_,_=>boolOp p .And (evalEach (wW::es) env)) Q E s
    refine a9 (h1 A env ρ φ H s _ _ _ E R I X e1 fun vx ax ao b7 aA ah aR=>a9 (g8 ?_));have:=qL aR;clear aR e' h4 h3 e1 h1;subst this;refine a9 (dH (wpAny_truthy_bool ?_))
    induction b using aB with
    |false=>
     injections e2;exact aw ((P.step aA I ah).dS ah (.bool false))
    |true=>exact ih A env ρ ax H₁ _ v H' Q E R ah (X.step aA I) e2 (P.step aA I ah)
theorem se_or(p:Pos)(es:List PySem.Expr)(ms:List ME)(h:bZ (fun e m=>C.SE n c e (dn m)) es ms):C.SE n c (.BoolOp .Or es p) (fun ρ H=>iQ dn ρ ms H):=by
 induction h with
 |nil=>exact fun A env ρ φ H s v H' Q E R I X e P=>nq e
 |@cons e m es ms h1 h2 ih=>
   intro A env ρ φ H s v H' Q E R I X e' P;have e':cL (dn m ρ H) (fun b H=>match ms with
    |[]=>some (V.bool b,H)
    |_::_=>match b with
     |false=>iQ dn ρ ms H
     |true=>some (V.bool true,H))=some (v,H'):=e'
   exists aT (nF e'),b,H₁,e1,e2;clear e';cases h2 with
   |nil=>
    (clear e';injections e2)
    exact h1 A env ρ φ H s _ _ Q E R I X e1 P
   |@cons wW m₂ es ms h3 h4=>
    show C.wp A (do
     let v <- eval e env
     standAt p
     let t <- holding [v] (truthy v)
     match BoolOp.Or,t with
     |.And,false|.Or,true=>pure v
     |_,_=>boolOp p .Or (evalEach (wW::es) env)) Q E s
    refine a9 (h1 A env ρ φ H s _ _ _ E R I X e1 fun vx ax ao b7 aA ah aR=>a9 (g8 ?_));have:=qL aR;clear aR e' h4 h3 e1 h1;subst this;refine a9 (dH (wpAny_truthy_bool ?_))
    induction b using aB with
    |true=>
     injections e2;exact aw ((P.step aA I ah).dS ah (.bool true))
    |false=>exact ih A env ρ ax H₁ _ v H' Q E R ah (X.step aA I) e2 (P.step aA I ah)
theorem ZX(es:List PySem.Expr)(ms:List ME)(h:bZ (fun e m=>C.SB n c e (dn m)) es ms):∀A env ρ φ H s b H' Q E,Rm A n->C.I φ H s.heap->ER C c ρ env φ H s.heap->(es≠[])->j9 dn ρ ms H=some (.bool b,H')->
 C.Po φ H s H' (fun _ _ x=>x=b) Q->C.wp A (allTrue .And es env) Q E s:=by
 induction h with
 |nil=>exact fun _ _ _ _ _ _ _ _ _ _ _ _ _ h0 _ _=>absurd rfl h0
 |@cons e m es ms h1 h2 ih=>
   intro A env ρ φ H s b H' Q E R I X _ e' P;have e':cL (dn m ρ H) (fun b H=>match ms with
    |[]=>some (V.bool b,H)
    |_::_=>match b with
     |true=>j9 dn ρ ms H
     |false=>some (V.bool false,H))=some (V.bool b,H'):=e'
   exists aT (nF e'),d,H₁,e1,e2;refine wpAny_allTrue_And_cons (h1 A env ρ φ H s _ _ _ E R I X e1 fun vx ax ao b7 aA ah aR=>?_);clear e1 e' h1;clear e';subst aR;have dk:=P.step (tk₁:=b7) aA I ah;clear P;cases h2 with
   |nil=>
    cases e2
    induction b using aB with
    |true=>exact wpAny_allTrue_And_nil (dk.dS ah rfl)
    |false=>exact dk.dS ah rfl
   |cons h3 h4=>
    induction vx using aB with
    |true=>exact ih A env ρ ax H₁ _ b H' Q E R ah (X.step aA I) (by simp) e2 dk
    |false=>cases e2;exact dk.dS ah rfl
theorem VN(es:List PySem.Expr)(ms:List ME)(h:bZ (fun e m=>C.SB n c e (dn m)) es ms):∀A env ρ φ H s b H' Q E,Rm A n->C.I φ H s.heap->ER C c ρ env φ H s.heap->(es≠[])->iQ dn ρ ms H=some (.bool b,H')->
 C.Po φ H s H' (fun _ _ x=>x=b) Q->C.wp A (allTrue .Or es env) Q E s:=by
 induction h with
 |nil=>exact fun _ _ _ _ _ _ _ _ _ _ _ _ _ h0 _ _=>absurd rfl h0
 |@cons e m es ms h1 h2 ih=>
   intro A env ρ φ H s b H' Q E R I X _ e' P;have e':cL (dn m ρ H) (fun b H=>match ms with
    |[]=>some (V.bool b,H)
    |_::_=>match b with
     |false=>iQ dn ρ ms H
     |true=>some (V.bool true,H))=some (V.bool b,H'):=e'
   exists aT (nF e'),d,H₁,e1,e2;refine wpAny_allTrue_Or_cons (h1 A env ρ φ H s _ _ _ E R I X e1 fun vx ax ao b7 aA ah aR=>?_);clear e1 e' h1;clear e';subst aR;have dk:=P.step (tk₁:=b7) aA I ah;clear P;cases h2 with
   |nil=>
    cases e2
    induction b using aB with
    |false=>exact wpAny_allTrue_Or_nil (dk.dS ah rfl)
    |true=>exact dk.dS ah rfl
   |cons h3 h4=>
    induction vx using aB with
    |false=>exact ih A env ρ ax H₁ _ b H' Q E R ah (X.step aA I) (by simp) e2 dk
    |true=>cases e2;exact dk.dS ah rfl
theorem sb_and(p:Pos)(h:bZ (fun e m=>C.SB n c e (dn m)) es ms):C.SB n c (.BoolOp .And es p) (fun ρ H=>j9 dn ρ ms H):=fun A env ρ φ H s b H' Q E R I X e P=>by
 refine wpAny_isTrue_BoolOp (ZX es ms h A env ρ φ H s b H' Q E R I X (fun z=>?_) e P);clear P X I R;subst z;cases h;exact nq e
theorem sb_or(p:Pos)(h:bZ (fun e m=>C.SB n c e (dn m)) es ms):C.SB n c (.BoolOp .Or es p) (fun ρ H=>iQ dn ρ ms H):=fun A env ρ φ H s b H' Q E R I X e P=>by
 refine wpAny_isTrue_BoolOp (VN es ms h A env ρ φ H s b H' Q E R I X (fun z=>?_) e P);clear P X I R;subst z;cases h;exact nq e
theorem oj(es:List PySem.Expr)(ms:List ME)(h:bZ (fun e m=>notStar e=true/\C.SE n c e (dn m)) es ms):C.SL n c es (fun ρ H=>denL dn ρ ms H):=by
 induction h with
 |nil=>
  intro A env ρ φ H s vs H' Q E R I X e P pos;clear X R;cases e;exact wpAny_items_nil (P.dS I .nil)
 |@cons e m es ms h1 h2 ih=>
   intro A env ρ φ H s vs H' Q E R I X e' P pos;have e':(ob (dn m ρ H) fun v H=>ob (denL dn ρ ms H) fun vs H=>some (v::vs,H))=some (vs,H'):=e';exists aT (bV e'),v,H₁,e1,e2;exists aT (bV e2),vs',aE,e2,e3;clear e';clear e' h2;cases e3;refine wpAny_items_cons (h1.2 A env ρ φ H s v H₁ _ E R I X e1 fun vx ax ao b7 aA ah aR=>?_) (BD h1.1 es env);refine ih A env ρ ax H₁ _ vs' H' _ E R ah (X.step aA I) e2 (fun xs bp aV ed aP aC du=>?_) pos;exact((P.step aA I ah).step aP ah aC).dS aC (.cons (aP.vr ah aR) du)
theorem zp{dn:DN}{pos:Pos}{env:Env}{es:List PySem.Expr}{ms:List ME}(h:bZ (fun e m=>notStar e=true/\C.SE n c e (dn m)) es ms):(backTo pos (starEach es env)).any (·.1)=false/\(backTo pos (starEach es env)).length=es.length:=by
 induction h with
 |nil=>exact⟨rfl,rfl⟩
 |@cons e m es ms h1 h2 ih=>
  rw[BD h1.1 es env];refine⟨?_,?_⟩
  ·show(false ||(backTo pos (starEach es env)).any (·.1))=false
   rw[ih.1];rfl
  ·show((backTo pos (starEach es env)).length+1)=es.length+1;rw[ih.2]
theorem si{M:Model}{A:Around}{f:Value}{env:Env}{pos:Pos}{dn:DN}{es:List PySem.Expr}{ms:List ME}{Q:Args->Shared->Prop}{E:Value->Shared->Prop}{s:Shared}(h:bZ (fun e m=>notStar e=true/\C.SE n c e (dn m)) es ms)
  (hw:wpAny M A (spliced (backTo pos (starEach es env))) (fun vs s'=>Q ⟨vs,[]⟩ s') E s):wpAny M A (evalArgs f true (backTo pos (starEach es env)) []) Q E s:=by
 cases h with
 |nil=>
  unfold evalArgs;show wpAny M A (spliced [] >>= _) Q E s;refine a9 (cu hw (fun vs s₁ hq=>?_) fun _ _ x=>x);refine a9 (aw ?_);refine dH ?_;exact a9 (aw (a9 (aw (aw hq))))
 |@cons e m es ms h1 h2=>
  rw[BD h1.1 es env]at hw ⊢;exact Calls.evalArgs_plain hw
theorem CK:∀{H:Hp} {vs:List V} {H':Hp},denL dn ρ ms H=some (vs,H')->vs.length=ms.length:=by
 induction ms with
 |nil=>
  intro _ _ _ e;cases e;rfl
 |cons m ms ih=>
  intro H vs H' e;have e:(ob (dn m ρ H) fun v H=>ob (denL dn ρ ms H) fun vs H=>some (v::vs,H))=some (vs,H'):=e;exists aT (bV e),v,H₁,e1,e2;exists aT (bV e2),vs',aE,e2,e3;clear e1 e;clear e;cases e3;simp [ih e2]
theorem Vg(hl:es.length<=100)(h:bZ (fun e m=>notStar e=true/\C.SE n c e (dn m)) es ms):C.SE n c (.Tuple es k p) (fun ρ H=>ob (denL dn ρ ms H) fun vs H=>some (.tup vs,H)):=fun A env ρ φ H s v H' Q E R I X e P=>by
 exists aT (bV e),vs,H₁,e1,e2;clear e;cases e2;refine wpAny_Tuple (oj es ms h A env ρ φ H s vs H' _ E R I X e1 (fun xs ax ao b7 aA ah aR=>⟨?_,?_⟩) p)
 ·have:=CK e1;have:=aR.length;have:=h.length_eq;rw[sizeLine_eq];lia
 ·clear e1 X R h hl;obtain⟨I',S,r⟩:=C.oM ah (cS ao _) (cA _) (Heap.get?_push_size _ rfl) aR;exact(P.step aA I ah) _ ax _ _ S I' r
theorem QP(hl:es.length<=100)(h:bZ (fun e m=>notStar e=true/\C.SE n c e (dn m)) es ms):C.SE n c (.List es p) (fun ρ H=>ob (denL dn ρ ms H) fun vs H=>some (newObj H (.list vs))):=fun A env ρ φ H s v H' Q E R I X e P=>by
 exists aT (bV e),vs,H₁,e1,e2
 (clear e;injections e2)
 refine wpAny_List (oj es ms h A env ρ φ H s vs H₁ _ E R I X e1 (fun xs ax ao b7 aA ah aR=>⟨?_,?_⟩) p)
 ·have:=CK e1;have:=aR.length;have:=h.length_eq;rw[sizeLine_eq];lia
 ·clear e1 X R h hl;obtain⟨I',S,r⟩:=C.fresh ah (cS ao _) (cA _) (o:=.list vs) ⟨_,_,Heap.get?_push_size _ rfl,aR⟩;exact(P.step aA I ah) _ _ _ _ S I' r
theorem Rb:C.SE n c (.Dict [] [] p) (fun _ H=>some (newObj H (.dict []))):=fun A env ρ φ H s v H' Q E R I X e P=>by
 (clear X R;injections e)
 refine wpAny_Dict_empty ?_;refine dr (C.fresh I (cS s.heap _) (cA _) (o:=.dict []) ⟨[],0,Heap.get?_push_size _ rfl,.nil,by simp⟩) fun I' S r=>?_;exact P _ _ _ s.toks S I' r
theorem Vb(hi:∀a b c p,i ≠ .Slice a b c p)(x y:Value):subscripted i false x y=operate [x,y] (getItem x y):=by
 induction i using Expr.casesOn with
 |Slice a b c p=>exact absurd rfl (hi a b c p)
 |_=>rfl
theorem RY(ha:C.SE n c a da)(hi:C.SE n c i di)(hs:∀a b c p,i ≠ .Slice a b c p):C.SE n c (.Subscript a i p) (fun ρ H=>ob (da ρ H) fun x H=>ob (di ρ H) fun y H=>qI (subs H x y) H):=fun A env ρ φ H s v H' Q E R I X e P=>by
 exists aT (bV e),x,H₁,e1,e;exists aT (bV e),y,aE,e2,e;refine Subscript_ (ha A env ρ φ H s x H₁ _ E R I X e1 fun vx ax ao b7 aA ah aR=>?_);exists hi A env ρ ax H₁ _ y aE _ E R ah (X.step aA I) e2,vy,bp,aV,ed,aP,aC,du;exists jY e,z,hz,e
 ·(clear e2 e1 X hi ha;exists sp2 e,Qt,Rg;clear e;clear e;subst Qt;clear e;subst Rg)
  exact C.sub aC R (aP.vr ah aR) du hz (Vb hs _ _) fun w tk rw=>((P.step aA I ah).step aP ah aC).here aC rw tk
theorem AH(I:C.I φ H s.heap)(r:C.R φ H s.heap x y)(hx:(∃l,x = .tup l)\/∃l,listView H x=some l)(hg:C.wp A (getItem y z) Q E s)(hs:subscripted sl false y z=operate ops (getItem y z)) :
  C.wp A (subscriptTail va sl y z) Q E s:=by
 rcases hx with⟨l,rfl⟩|⟨l,hl⟩
 ·exists dA (gp r),a,vs,m,ze,g,Z0;clear r I;subst ze;exact tail_any (T:="tuple") ⟨_,g,rfl⟩ PyProof.Rows.slot_tuple_getitem.lookup hg hs
 ·exists dA (gk I r hl),a,vs,m,sA,g,Z0;clear hl r I;subst sA;exact tail_any (T:="list") ⟨_,g,rfl⟩ PySem.slot_list_getitem.lookup hg hs
theorem DX(e:gU up x k H=some (v,H')):(∃l,x = .tup l)\/∃l,listView H x=some l:=by
 induction x using Internal.V.casesOn with
 |tup l=>exact .inl ⟨l,rfl⟩
 |lst l=>exact .inr ⟨l,rfl⟩
 |ref m=>
  unfold gU at e;dsimp only at e
  induction hl:listView H (.ref m)using aL with
  |none=>rw[hl]at e;exact nq e
  |some l=>exact .inr ⟨l,rfl⟩
 |_=>exact nq e
theorem Ko(e:ja up x (nat? y) H=some (v,H')):∃k:Nat,y = .int (k:Int)/\gU up x k H=some (v,H'):=by
 exists Nx e,k,hk,e
 ·induction y using V.casesOn with
  |int j=>induction j using kE with
   |ofNat j=>
    exists cm hk,Z0,hk
    ·(clear e;exists hk);exact⟨_,rfl,e⟩
   |negSucc=>exact nq hk
  |_=>exact nq hk
theorem Rl(ha:C.SE n c a da)(hb:C.SE n c b db):C.SE n c (.Subscript a (.Slice none (some b) none p') p) (fun ρ H=>ob (da ρ H) fun x H=>ob (db ρ H) fun y H=>ja true x (nat? y) H):=fun A env ρ φ H s v H' Q E R I X e P=>by
 exists aT (bV e),x,H₁,e1,e;exists aT (bV e),y,aE,e2,e;exists ae (Ko e),k,Um,e3;clear e;clear e;subst Um;refine Subscript_ (ha A env ρ φ H s x H₁ _ E R I X e1 fun vx ax ao b7 aA ah aR=>?_);refine wpAny_Slice ?_;rw[evalPart_none,evalPart_some];refine aw (hb A env ρ ax H₁ _ _ aE _ E R ah (X.step aA I) e2 fun vy bp aV ed aP aC du=>?_);refine aw ?_;exists aD (int_at du),u,VV;clear du e2 e1 X R hb ha;clear e;subst VV;refine ak (C.grow aC (cS aV { cls:=.type "slice",data:=.fields #[.none,.int k u,.none] })) fun cK de=>?_;have ic:=de.vr aC (aP.vr ah aR);refine AH cK ic (DX e3) ?_ rfl;exact C.gU cK ic (Heap.IsSliceOf.new ..) e3 (((P.step aA I ah).step aP ah aC).step de aC cK)
theorem W9(ha:C.SE n c a da)(hb:C.SE n c b db):C.SE n c (.Subscript a (.Slice (some b) none none p') p) (fun ρ H=>ob (da ρ H) fun x H=>ob (db ρ H) fun y H=>ja false x (nat? y) H):=fun A env ρ φ H s v H' Q E R I X e P=>by
 exists aT (bV e),x,H₁,e1,e;exists aT (bV e),y,aE,e2,e;exists ae (Ko e),k,Up,e3;clear e;clear e;subst Up;refine Subscript_ (ha A env ρ φ H s x H₁ _ E R I X e1 fun vx ax ao b7 aA ah aR=>?_);refine wpAny_Slice ?_;rw[evalPart_none,evalPart_some];exists hb A env ρ ax H₁ _ _ aE _ E R ah (X.step aA I) e2,vy,bp,aV,ed,aP,aC,du;refine aw (aw ?_);exists aD (int_at du),u,VI;clear du e2 e1 X R hb ha;clear e;subst VI;refine ak (C.grow aC (cS aV { cls:=.type "slice",data:=.fields #[.int k u,.none,.none] })) fun cK de=>?_;have ic:=de.vr aC (aP.vr ah aR);refine AH cK ic (DX e3) ?_ rfl;exact C.gU cK ic (Heap.IsSliceOf.new ..) e3 (((P.step aA I ah).step aP ah aC).step de aC cK)
theorem PL(ha:C.SE n c a da):C.SE n c (.Subscript a (.Slice none none (some (.UnaryOp .USub (.Constant (.int 1) k p1) p2)) p') p) (fun ρ H=>ob (da ρ H) qy):=fun A env ρ φ H s v H' Q E R I X e P=>by
 exists aT (bV e),x,H₁,e1,e;exists dw (PE e),l,Us,Bc,UL,hl;clear e;clear e;subst Us;subst Bc;subst UL;refine Subscript_ (ha A env ρ φ H s _ _ _ E R I X e1 fun vx ax ao b7 aA ah aR=>?_);refine wpAny_Slice ?_;rw[evalPart_none,evalPart_some];refine aw (aw (wpAny_UnaryOp ?_));show C.wp A (mkInt 1) _ E _;refine wpAny_mkInt (neg_int ?_);refine ak (C.grow ah (cS ao { cls:=.type "slice",data:=.fields #[.none,.none,.int (-1) (b7+1)] })) fun cK de=>?_;have ic:=de.vr ah aR;refine AH cK ic (.inl ⟨l,rfl⟩) ?_ rfl;exact N2 cK ic (Heap.IsSliceOf.new ..) hl ((P.step aA I ah).step de ah cK)
end
end
section
open PySem PySem.Calls PyProof.Rows PySem.W
noncomputable def tC:IK->Value
 |.enum=>.type "enumerate"
 |.zip=>.type "zip"
 |_=>.type "range"
structure Gl (C:Cf) (gl:List (Str×GI)) (K:Nat):Prop where
 env:∃mg mb,C.h₀.Ns mainGlobals mg/\C.h₀.Ns builtinsNs mb/\
  (∀x v,gl.lookup x=some (.val v)->∃y,mg x=some y/\VR C.kh (fun _=>none) (fun _=>False) C.h₀ v y)/\
  (∀x g,gl.lookup x=some (.fn g)->∃a o fd,mg x=some (.ref a)/\C.h₀.get? a=some o/\o.data = .func fd/\C.fJ K g a)/\
  (∀x b,gl.lookup x=some (.bi b)->mg x=none/\mb x=some (gR b))/\
  (∀x k,gl.lookup x=some (.it k)->mg x=none/\mb x=some (tC k))
 plain:∀x g,gl.lookup x=some g->(x == ("__debug__" : Str))=false
theorem type_list_append:typeOf (.builtin "list.append")=pure (.type "method_descriptor"):=PySem.F.type_list_append
structure uP (name:Str) (k:f7):Prop where
 pa:PlainAttrs (nV k)
 slot:Slot (nV k) name (vH k)
 ty:typeOf (.builtin (vH k))=pure (.type "method_descriptor")
theorem tD{A:Type}{b:Bool}{x y:Option A}{z:A}{P:Prop}(h:nU b x y=some z)(k1:b=true->x=some z->P)(k2:y=some z->P):P:=by
 induction b using aB with
 |true=>exact k1 rfl h
 |false=>exact k2 h
theorem QB(h:Kt as=some k):uP (Str.ofString "pop") k:=by
 induction as using aM with
 |nil=>cases aH h;exact⟨PySem.F.plainAttrs_list,PySem.F.slot_list_pop,PySem.F.type_list_pop⟩
 |cons a r=>
  induction r using aM with
  |nil=>
   have h:some (pickM (isZ0 a) .pop0 .dpop1)=some k:=h;cases aH h
   induction isZ0 a using aB with
   |true=>exact⟨PySem.F.plainAttrs_list,PySem.F.slot_list_pop,PySem.F.type_list_pop⟩
   |false=>exact⟨PySem.F.plainAttrs_dict,PySem.F.slot_dict_pop,PySem.F.type_dict_pop⟩
  |cons b r=>cases aH (guard_some h).2;exact⟨PySem.F.plainAttrs_dict,PySem.F.slot_dict_pop,PySem.F.type_dict_pop⟩
theorem mf(e:decide (name=n')=true)(h:guard' b (some k')=some k)(F:uP n' k'):uP name k:=of_decide_eq_true e▸aH (guard_some h).2▸F
theorem NL(h:y5 name m as=some k):uP name k:=
 tD h (fun e h=>mf e h ⟨PySem.F.plainAttrs_list,PySem.F.slot_list_append,PySem.F.type_list_append⟩) fun h=>
 tD h (fun e h=>mf e h ⟨PySem.F.plainAttrs_list,PySem.F.slot_list_extend,PySem.F.type_list_extend⟩) fun h=>
 tD h (fun e h=>of_decide_eq_true e▸QB h) fun h=>
 tD h (fun e h=>mf e h ⟨PySem.F.plainAttrs_list,PySem.F.slot_list_reverse,PySem.F.type_list_reverse⟩) fun h=>
 tD h (fun e h=>mf e h ⟨PySem.F.plainAttrs_list,PySem.F.slot_list_sort,PySem.F.type_list_sort⟩) fun h=>nq h
section
variable {C:Cf} {c:Cx} {n K:Nat}
theorem jW(h:c.glob x=some g):c.names.lookup x=some .globalImplicit/\c.gl.lookup x=some g:=by
 unfold cF.glob at h;generalize c.names.lookup x=o at h ⊢
 induction o using aL with
 |none=>exact nq h
 |some k=>induction k using PySem.NameKind.casesOn with
  |globalImplicit=>exact⟨rfl,h⟩
  |_=>exact nq h
theorem w9(X:ER C c ρ env φ H s.heap)(hg:c.glob x=some g)(hd:(x == ("__debug__" : Str))=false)
  (h:C.wp A (loadGlobal env x) Q E s):C.wp A (eval (.Name x p) env) Q E s:=
 Name_function_global X.kind (X.kinds x _ (jW hg).1) h hd
theorem LM(G:Gl C c.gl K)(hg:c.glob x=some (.val v)):C.SE n c (.Name x p) (fun _ H=>some (v,H)):=fun A env ρ φ H s v' H' Q E R I X e P=>by
 (clear R;injections e)
 exists sO G.env,mg,mb,h1,h2,h3,h4,h5,h6;exists ae (h3 x v (jW hg).2),y,hy,r;refine w9 X hg (G.plain x _ (jW hg).2) (loadGlobal_global (mg:=mg) ?_ hy (P.dS I (Cf.I.Mm I r)));rw[X.glob];exact i6 h1 fun o e=>I.base _ _ e
theorem Wf(G:Gl C c.gl K)(hg:c.glob f=some (.fn g))(hn:K<=n)(h:bZ (fun e m=>notStar e=true/\C.SE n c e (dn m)) es ms) :
  C.SE n c (.Call (.Name f p) es [] pos) (fun ρ H=>ob (denL dn ρ ms H) g):=fun A env ρ φ H s v H' Q E R I X e P=>by
 exists aT (bV e),vs,H₁,e1,e2;exists sO G.env,mg,mb,h1,h2,h3,h4,h5,h6;exists fO (h4 f g (jW hg).2),a,o,fd,hy,ho,hd,hc;refine Call_Name rfl (w9 X hg (G.plain f _ (jW hg).2) (loadGlobal_global (mg:=mg) ?_ hy ?_))
 ·rw[X.glob];exact i6 h1 fun o e=>I.base _ _ e
 ·refine callWith_function (o:=o) (fd:=fd) (si h ?_);refine oj es ms h A env ρ φ H s vs H₁ _ E R I X e1 (fun xs ax ao b7 aA ah aR=>⟨⟨ah.base _ _ ho,hd⟩,?_⟩) pos;exact hc A ax H₁ _ vs xs v H' Q E (R.le hn) ah aR e2 (P.step aA I ah)
theorem Zv(h:th b m=some b'):gR b'=gR b:=by
 induction b using Internal.BI.casesOn with
 |max2=>
  induction q:aF m 2 using aB with
  |true=>
   unfold th at h;rw[q]at h;exact congrArg gR (aH h).symm
  |false=>
   unfold th at h;rw[q]at h;exact(congrArg gR (show b' = .maxl from(aH (guard_some h).2).symm)).trans rfl
 |min2=>exact congrArg gR (aH (guard_some h).2).symm
 |_=>exact congrArg gR (aH (guard_some h).2).symm
theorem Rc(b:BI):(∃x,gR b = .builtin x)\/∃x,gR b = .type x:=by induction b using Internal.BI.casesOn <;> first|exact .inl ⟨_,rfl⟩|exact .inr ⟨_,rfl⟩
theorem Zz(G:Gl C c.gl K)(hg:c.glob f=some (.bi b))(hb:th b m=some b')(h:bZ (fun e m=>notStar e=true/\C.SE n c e (dn m)) es ms) :
  C.SE n c (.Call (.Name f p) es [] pos) (fun ρ H=>ob (denL dn ρ ms H) (cw b')):=fun A env ρ φ H s v H' Q E R I X e P=>by
 exists aT (bV e),vs,H₁,e1,e2;exists sO G.env,mg,mb,h1,h2,h3,h4,h5,h6;exists ak (h5 f b (jW hg).2),hm,hy;refine Call_Name rfl (w9 X hg (G.plain f _ (jW hg).2) (loadGlobal_builtin (mg:=mg) (mb:=mb) ?_ hm ?_ hy ?_))
 ·rw[X.glob];exact i6 h1 fun o e=>I.base _ _ e
 ·rw[X.blt];exact i6 h2 fun o e=>I.base _ _ e
 ·have key:∀pos,C.wp A (spliced (backTo pos (starEach es env))) (fun vs s'=>C.wp A (call (gR b) vs) Q E s') E s:=fun pos=>
   oj es ms h A env ρ φ H s vs H₁ _ E R I X e1 (fun xs ax ao b7 aA ah aR=>by
    have:=C.bi b' (s:={ s with heap:=ao,toks:=b7 }) ah R aR e2 (Q:=Q) (E:=E) (A:=A) (P.step aA I ah);rw[Zv hb]at this;exact this) pos
  have tp:=(zp (pos:=pos) (env:=env) h).1;clear hy hm h6 h5 h4 h3 h2 h1 e2 e1 P e X I R hb hg G;rcases Rc b with⟨x,e⟩|⟨x,e⟩
  ·rw[e]at key ⊢;exact Calls.callWith_builtin tp (si h (key pos))
  ·rw[e]at key ⊢;exact PyProof.Rows.callWith_type tp (si h (key pos))
theorem Uu(h:isRec o=true)(name:Str)(env:Env):attributeBase o name env (eval o env)=eval o env:=by
 induction o using Expr.casesOn <;> first|rfl|exact bf h
theorem Rj(hr:isRec o=true)(hl:aF apos.endLine pos.line=true)(hle:es.length<=4)(hk:y5 name m as=some k)
  (ho:C.SE n c o mo) (h:bZ (fun e m=>notStar e=true/\C.SE n c e (dn m)) es ms) :
  C.SE n c (.Call (.Attribute o name apos) es [] pos) (fun ρ H=>ob (mo ρ H) fun ov H=>guard' (fR k (own H ov)) (ob (denL dn ρ ms H) fun vs H=>eC k ov vs H)):=fun A env ρ φ H s v H' Q E R I X e P=>by
 exists aT (bV e),ov,H₁,e1,e2;exists ak (guard_some e2),e2,e3;exists aT (bV e3),vs,aE,e3,e4;have F:=NL hk;exists ak (zp (pos:=pos) (env:=env) h),K1,tp2;refine wpAny_Call_method_late (trees:=backTo pos (starEach es env)) (Uu hr name env) ?_ (by rw[cY hl];simp) rfl (ho A env ρ φ H s ov H₁ _ E R I X e1 fun vx ax ao b7 aA ah aR=>?_)
 ·have:(backTo pos (starEach es env)).all (fun x=>!x.1)=true:=by
   rw[List.all_eq_true];intro x hx;have:=(List.any_eq_false.mp K1) x hx;simpa using this
  rw[this];rw[show backToKw pos (keywordEach [] env)=[]from rfl];simp
  lia
 ·exists ak (C.U1 (s:={ s with heap:=ao,toks:=b7 }) k ah aR e2),hT,hd;refine⟨nV k,vH k,F.pa,F.slot,F.ty,hT,hd,?_⟩;refine Calls.callWith_builtin K1 (si h ?_);refine oj es ms h A env ρ ax H₁ _ vs aE _ E R ah (X.step aA I) e3 (fun xs bp aV ed aP aC du=>?_) pos;exact C.cO k aC R (aP.vr ah aR) du e4 ((P.step aA I ah).step aP ah aC)
end
end
section
open PySem PySem.Calls PyProof.Rows PySem.W
section
variable {C:Cf} {φ:Ph} {H:Hp} {h h':Heap}
noncomputable def Ph.more(φ:Ph)(F:Addr->Prop):Ph:=⟨φ.f,fun a=>φ.fr a\/F a⟩
theorem Cf.s7(I:C.I φ H h)(k:∀b o,h.get? b=some o->h'.get? b=some o)(hF:∀a,F a->h.get? a=none/\∃o,h'.get? a=some o):C.I (φ.more F) H h'/\St φ H h (φ.more F) H h':=by
 have hM:∀b o',aU (φ.more F) H b->h.get? b=some o'->aU φ H b:=by
  rintro b o' (q|q|q) g
  ·exact .inl q
  ·exact .inr q
  ·rw[(hF b q).1]at g;exact nq g
 refine⟨⟨fun b o e=>k _ _ (I.base b o e),fun e m=>?_,I.nodup,I.inj,I.lt,I.fresh,fun a f=>?_,I.sys⟩,⟨fun b o e _=>k b o e,fun _ _ e=>e,cx _,fun e m=>⟨e,m,rfl,rfl,fun _=>rfl⟩,fun e m=>.inl ⟨e,m,rfl⟩,fun b o e=>⟨o,k b o e⟩,fun _ e=>.inl e,fun a e=>e.imp id fun z=>(hF a z).1⟩⟩
 ·exists b6 (I.objs e m),a,e1,e2,e3;refine⟨a,e1,e2,?_⟩;revert e3;clear e2 e1 m hF I;induction e.obj using Internal.bq.casesOn with
  |list l=>rintro ⟨vs,n,g,r⟩;exact⟨vs,n,k _ _ g,r.mono (fun _ _ e=>e) (fun b o e _=>k b o e) hM⟩
  |dict l=>rintro ⟨vs,n,g,r,d⟩;exact⟨vs,n,k _ _ g,r.mono (fun _ _ e=>e) (fun b o e _=>k b o e) hM,d⟩
 ·clear hM;rcases f with f|f
  ·clear hF;obtain⟨p,q,o,g⟩:=I.cC a f;exact⟨p,q,o,k _ _ g⟩
  ·clear k;obtain⟨g,o,g'⟩:=hF a f;refine⟨?_,fun e m z=>?_,o,g'⟩
   ·clear g' f hF;induction q:C.h₀.get? a using aL with
    |none=>rfl
    |some o'=>rw[I.base _ _ q]at g;exact ns g
   ·exists b6 (I.objs e m),b,e1,e2,e3;rw[show φ.f e.id=some a from z]at e1;exists e1;revert e3;clear e2 z m g' f hF I;induction e.obj using Internal.bq.casesOn with
    |list l=>rintro ⟨_,_,g1,_⟩;rw[g]at g1;exact nq g1
    |dict l=>rintro ⟨_,_,g1,_⟩;rw[g]at g1;exact nq g1
theorem Cf.qo(I:C.I φ H h)(k:∀b o,h.get? b=some o->¬ φ.fr b->h'.get? b=some o)(al:∀a,φ.fr a->∃o,h'.get? a=some o):C.I φ H h':=by
 refine⟨fun b o e=>k _ _ (I.base b o e) (fun f=>by rw[(I.cC b f).1]at e;exact nq e),fun e m=>?_,I.nodup,I.inj,I.lt,I.fresh,fun a f=>⟨(I.cC a f).1,(I.cC a f).2.1,al a f⟩,I.sys⟩;exists b6 (I.objs e m),a,e1,e2,e3;have na:¬ φ.fr a:=fun f=>(I.cC a f).2.1 e m e1;refine⟨a,e1,e2,?_⟩;revert e3;clear e2 e1 m al I;induction e.obj using Internal.bq.casesOn with
 |list l=>rintro ⟨vs,n,g,r⟩;exact⟨vs,n,k _ _ g na,r.mono (fun _ _ e=>e) (fun b o e q=>k b o e fun f=>q (.inr f)) fun _ _ e _=>e⟩
 |dict l=>rintro ⟨vs,n,g,r,d⟩;exact⟨vs,n,k _ _ g na,r.mono (fun _ _ e=>e) (fun b o e q=>k b o e fun f=>q (.inr f)) (fun _ _ e _=>e),d⟩
theorem gf(k:∀b o,h.get? b=some o->¬ φ.fr b->h'.get? b=some o)(r:C.R φ H h v x):C.R φ H h' v x:=r.mono (fun _ _ e=>e) (fun b o e q=>k b o e fun f=>q (.inr f)) fun _ _ e _=>e
structure SZ (Z:Addr->Prop) (φ:Ph) (H:Hp) (h:Heap) (a8:Ph) (H':Hp) (h':Heap):Prop where
 keep:∀b o,h.get? b=some o->¬ gL φ H b->¬ Z b->h'.get? b=some o
 ext:∀n a,φ.f n=some a->a8.f n=some a
 nxt:H.nxt<=H'.nxt
 ids:∀e∈H.es,∃e'∈H'.es,e'.id=e.id/\e'.lock=e.lock/\(e.lock=true->e'.obj=e.obj)
 new:∀e'∈H'.es,(∃e∈H.es,e.id=e'.id)\/(∀a,a8.f e'.id=some a->h.get? a=none)
 alive:∀b o,h.get? b=some o->∃o',h'.get? b=some o'
 dE:∀a,φ.fr a->a8.fr a
 gE:∀a,a8.fr a->φ.fr a\/h.get? a=none
section
variable {Z:Addr->Prop} {a8 qp:Ph} {H' ew:Hp} {h'':Heap}
theorem St.eW(S:St φ H h a8 H' h'):SZ Z φ H h a8 H' h':=⟨fun b o e u _=>S.keep b o e u,S.ext,S.nxt,S.ids,S.new,S.alive,S.dE,S.gE⟩
theorem SZ.Kj(S:SZ Z φ H h a8 H' h')(hz:∀a,Z a->h.get? a=none):St φ H h a8 H' h':=⟨fun b o e u=>S.keep b o e u (fun z=>by rw[hz b z]at e;exact nq e),S.ext,S.nxt,S.ids,S.new,S.alive,S.dE,S.gE⟩
theorem SZ.own(S:SZ Z φ H h a8 H' h')(I:C.I φ H h):∀b o,Own a8 H' b->h.get? b=some o->Own φ H b:=by
 rintro b o ⟨e',m,q⟩ g;rcases S.new e' m with⟨e,me,q'⟩|q'
 ·exists ae (I.objs e me),a,ha,Z0;have:=S.ext _ _ ha;rw[q',q]at this;exact⟨e,me,by rw[ha];exact this.symm⟩
 ·rw[q' b q]at g;exact nq g
theorem SZ.mut(S:SZ Z φ H h a8 H' h')(I:C.I φ H h):∀b o,aU a8 H' b->h.get? b=some o->aU φ H b:=by
 rintro b o (q|q) g
 ·exact .inl (S.own I b o q g)
 ·clear I;rcases S.gE b q with q|q
  ·exact .inr q
  ·rw[q]at g;exact nq g
theorem SZ.kP(S:SZ Z φ H h a8 H' h')(I:C.I φ H h)(N:(H'.es.map (·.id)).Nodup):∀b o,gL a8 H' b->h.get? b=some o->gL φ H b:=by
 rintro b o ⟨e',m,lk,q⟩ g;rcases S.new e' m with⟨e,me,q'⟩|q'
 ·exists ae (I.objs e me),a,ha,Z0;have ea:=S.ext _ _ ha;rw[q',q]at ea
  (clear g q I;exists ea)
  exists dw (S.ids e me),e2,m2,i2,l2,Z0;have:e2=e':=iq N m2 m (i2.trans q');subst this;exact⟨e,me,by rw[<- l2];exact lk,ha⟩
 ·rw[q' b q]at g;exact nq g
theorem SZ.vr(S:SZ Z φ H h a8 H' h')(I:C.I φ H h)(hz:∀b,Z b->φ.fr b)(r:C.R φ H h v x):C.R a8 H' h' v x:=
 r.mono S.ext (fun b o e m=>S.keep b o e (fun u=>m u.mut) fun z=>m (.inr (hz b z))) (S.mut I)
theorem SZ.iz(S:SZ Z φ H h a8 H' h')(I:C.I φ H h)(hz:∀b,Z b->φ.fr b)(r:C.Rs φ H h v x):C.Rs a8 H' h' v x:=
 r.mono S.ext (fun b o e m=>S.keep b o e (fun u=>m u.mut) fun z=>m (.inr (hz b z))) (S.mut I)
theorem SZ.refl(Z:Addr->Prop)(φ:Ph)(H:Hp)(h:Heap):SZ Z φ H h φ H h:=(St.refl φ H h).eW
theorem SZ.trans(S:SZ Z φ H h a8 H' h')(T:SZ Z a8 H' h' qp ew h'')(I:C.I φ H h)(I':C.I a8 H' h'):SZ Z φ H h qp ew h'':=by
 refine⟨fun b o e u z=>T.keep b o (S.keep b o e u z) (fun q=>u (S.kP I I'.nodup b o q e)) z,fun n a e=>T.ext _ _ (S.ext _ _ e),br S.nxt T.nxt,fun e m=>?_,fun yw m=>?_,fun b o e=>?_,fun a e=>T.dE a (S.dE a e),fun a e=>?_⟩
 ·exists dw (S.ids e m),e1,m1,a1,b1,c1;exists dw (T.ids e1 m1),e2,m2,a2,b2,c2;exact⟨e2,m2,a2.trans a1,b2.trans b1,fun q=>(c2 (b1.trans q)).trans (c1 q)⟩
 ·clear I;rcases T.new yw m with⟨e',m',q⟩|q
  ·clear m;rcases S.new e' m' with⟨e,me,q'⟩|q'
   ·exact .inl ⟨e,me,q'.trans q⟩
   ·exists ae (I'.objs e' m'),a',fH,Z0;exists .inr,a,ha;have:=T.ext _ _ fH;rw[q,ha]at this
    (clear ha q m' I' T S;exists this)
    exact q' _ fH
  ·exists .inr,a,ha;clear m I' T;induction g:h.get? a using aL with
   |none=>rfl
   |some o=>
    exists aD (S.alive a o g),o',g';rw[q a ha]at g';exact nq g'
 ·exists aD (S.alive b o e),o',e';exact T.alive b o' e'
 ·clear I' I;rcases T.gE a e with e|e
  ·exact S.gE a e
  ·refine .inr ?_;clear T;induction g:h.get? a using aL with
   |none=>rfl
   |some o=>
    exists aD (S.alive a o g),o',g';rw[e]at g';exact nq g'
theorem SZ.frames(k:∀b o,h.get? b=some o->¬ Z b->h'.get? b=some o)(al:∀b o,h.get? b=some o->∃o',h'.get? b=some o'):SZ Z φ H h φ H h':=
 ⟨fun b o e _ z=>k b o e z,fun _ _ e=>e,cx _,fun e m=>⟨e,m,rfl,rfl,fun _=>rfl⟩,fun e m=>.inl ⟨e,m,rfl⟩,al,fun _ e=>e,fun _ e=>.inl e⟩
end
noncomputable def Zf(c:Cx)(env:Env)(b:Addr):Prop:=b=env.locals\/∃z,c.names.lookup z=some .cell/\env.cells.lookup z=some b
theorem NV(ρ:ai):∀(i j:Nat) {v:V},cI (slotS ρ i none) j=some v->i≠j/\cI ρ j=some v:=by
 induction ρ with
 |nil=>intro i j v e;exact nq e
 |cons x ρ ih=>
  intro i j v e
  induction i using bL with
  |zero=>induction j using bL with
   |zero=>exact nq e
   |succ j=>exact⟨(kb _).symm,e⟩
  |succ i=>induction j using bL with
   |zero=>exact⟨kb _,e⟩
   |succ j=>exact⟨fun z=>(ih i j e).1 (gW z),(ih i j e).2⟩
theorem qC(ρ:ai):∀(i j:Nat) {w v:V},cI (slotS ρ i (some w)) j=some v->(i=j/\v=w)\/(i≠j/\cI ρ j=some v):=by
 induction ρ with
 |nil=>intro i j w v e;exact nq e
 |cons x ρ ih=>
  intro i j w v e
  induction i using bL with
  |zero=>induction j using bL with
   |zero=>exact .inl ⟨rfl,(aH e).symm⟩
   |succ j=>exact .inr ⟨(kb _).symm,e⟩
  |succ i=>induction j using bL with
   |zero=>exact .inr ⟨kb _,e⟩
   |succ j=>exact(ih i j e).imp (fun h=>⟨congrArg Nat.succ h.1,h.2⟩) fun h=>⟨fun z=>h.1 (gW z),h.2⟩
theorem uX(ρ:ai)(is:List Nat):∀(j:Nat) {v:V},cI (slotC ρ is) j=some v->j ∉ is/\cI ρ j=some v:=by
 induction is generalizing ρ with
 |nil=>intro j v e;exact⟨List.not_mem_nil,e⟩
 |cons i is ih=>
  intro j v e;exists ak (ih (slotS ρ i none) j e),a,b;exists ak (NV ρ i j b),c,d;exact⟨fun m=>(aI.mp m).elim (fun z=>c z.symm) a,d⟩
noncomputable def Le(ρ ρ':ai):Prop:=∀i v,cI ρ i=some v->cI ρ' i=some v
theorem ER.weak(X:ER C c ρ' env φ H h)(l:Le ρ ρ'):ER C c ρ env φ H h:=by
 refine⟨X.kind,X.glob,X.blt,X.kinds,?_,fun x i hx hi=>?_,X.iu,X.jS,X.inj,X.ok⟩
 ·exists ae X.loc,m,hn,hm;exact⟨m,hn,fun x i v h1 h2 h3=>hm x i v h1 h2 (l _ _ h3)⟩
 ·exists gN (X.cell x i hx hi),a,ov,e1,e2,e3,e4,e5;exact⟨a,ov,e1,e2,e3,e4,fun v hv=>e5 v (l _ _ hv)⟩
theorem Dm{c:Cx}{x:Str}{i:Nat}(e:c.tgt x=some i):(c.names.lookup x=some .local\/c.names.lookup x=some .cell)/\c.vm.lookup x=some i:=by
 unfold cF.tgt at e;generalize c.names.lookup x=o at e ⊢
 induction o using aL with
 |none=>exact nq e
 |some k=>induction k using PySem.NameKind.casesOn with
  |«local»=>exact⟨.inl rfl,e⟩
  |cell=>exact⟨.inr rfl,e⟩
  |_=>exact nq e
theorem ER.store{c:Cx}{ρ:ai}{env:Env}{A:Around}{s:Shared}{E:Value->Shared->Prop}{Q:Unit->Shared->Prop}{x:Str}{i:Nat}{v:V}{y:Value}(X:ER C c ρ env φ H s.heap)(I:C.I φ H s.heap)
  (ht:c.tgt x=some i) (r:C.R φ H s.heap v y) (hQ:∀h' tk,C.I φ H h'->SZ (Zf c env) φ H s.heap φ H h'->ER C c (slotS ρ i (some v)) env φ H h'->Q () { s with heap:=h',toks:=tk }):C.wp A (storeName env x y) Q E s:=by
 exists ak (Dm ht),hk,hv;clear ht;rcases hk with hk|hk
 ·exists ae X.loc,m,hn,hm;refine wpAny_storeName_local (X.kinds x _ hk) hn (fun h' uM cf=>?_) (by rw[X.kind];rfl);have kl:∀b o,s.heap.get? b=some o->b≠env.locals->h'.get? b=some o:=fun b o e z=>by rw[cf.2 b z];exact e
  have kf:∀b o,s.heap.get? b=some o->¬ φ.fr b->h'.get? b=some o:=fun b o e f=>kl b o e fun z=>f (z▸X.iu);have gY:∀b o,s.heap.get? b=some o->∃o',h'.get? b=some o':=fun b o e=>by
   by_cases z:b=env.locals
   ·rw[z];exact mY uM
   ·exact⟨o,kl b o e z⟩
  have I':=C.qo I kf fun a f=>let ⟨_,_,o,g⟩:=I.cC a f;gY a o g
  refine hQ h' _ I' (SZ.frames (fun b o e z=>kl b o e fun q=>z (.inl q)) gY) ⟨X.kind,X.glob,X.blt,X.kinds,⟨_,uM,fun z j w h1 h2 h3=>?_⟩,fun z j h1 h2=>?_,X.iu,X.jS,X.inj,X.ok⟩
  ·clear I' gY kl cf uM hn hk hQ I;rcases qC ρ i j h3 with⟨rfl,rfl⟩|⟨kr,hw⟩
   ·have:=X.ok.inj z x i h2 hv;clear h3 h2 h1 hm hv X;subst this;exact⟨y,by simp,gf kf r⟩
   ·exists ae (hm z j w h1 h2 hw),val,e1,e2;have tB:z≠x:=fun q=>by
     clear e2 e1 hw h3 h1 kf hm r X;subst q;rw[hv]at h2;exists h2;exact kr rfl
    exact⟨val,by simp [tB,e1],gf kf e2⟩
  ·exists gN (X.cell z j h1 h2),a,ov,e1,e2,e3,e4,e5;refine⟨a,ov,e1,oL e2 fun o e=>kl a o e e4,e3,e4,fun w hw=>?_⟩;clear e4 e3 e2 e1 I' gY kl cf uM hm hn hQ r I;rcases qC ρ i j hw with⟨rfl,rfl⟩|⟨kr,hw⟩
   ·have:=X.ok.inj z x i h2 hv;clear hw e5 h2 kf hv X;subst this;rw[hk]at h1;clear hk;rcases h1 with h1|h1 <;> cases h1
   ·exists ae (e5 w hw),val,q1,q2;exact⟨val,q1,gf kf q2⟩
 ·exists gN (X.cell x i (.inl hk) hv),ca,ov,e1,e2,e3,e4,e5;exists wpAny_storeName_cell X.kind (X.kinds x _ hk) e1 e2,h',iZ,cf;have kl:∀b o,s.heap.get? b=some o->b≠ca->h'.get? b=some o:=fun b o e z=>by rw[cf.2 b z];exact e
  have kf:∀b o,s.heap.get? b=some o->¬ φ.fr b->h'.get? b=some o:=fun b o e f=>kl b o e fun z=>f (z▸e3);have gY:∀b o,s.heap.get? b=some o->∃o',h'.get? b=some o':=fun b o e=>by
   by_cases z:b=ca
   ·rw[z];exact sE iZ
   ·exact⟨o,kl b o e z⟩
  have I':=C.qo I kf fun a f=>let ⟨_,_,o,g⟩:=I.cC a f;gY a o g
  refine hQ h' s.toks I' (SZ.frames (fun b o e z=>kl b o e fun q=>z (.inr ⟨x,hk,by rw[q];exact e1⟩)) gY) ⟨X.kind,X.glob,X.blt,X.kinds,?_,fun z j h1 h2=>?_,X.iu,X.jS,X.inj,X.ok⟩
  ·exists ae X.loc,m,hn,hm;refine⟨m,i6 hn fun o e=>kl _ o e (Ne.symm e4),fun z j w h1 h2 h3=>?_⟩;clear hn I' gY kl cf iZ e5 e4 e3 e2 e1 hQ r I;rcases qC ρ i j h3 with⟨rfl,rfl⟩|⟨kr,hw⟩
   ·have:=X.ok.inj z x i h2 hv;clear h3 h2 hm kf hv X;subst this;rw[hk]at h1;clear hk;cases h1
   ·exists ae (hm z j w h1 h2 hw),val,q1,q2;exact⟨val,q1,gf kf q2⟩
  ·by_cases tB:z=x
   ·clear h1 I' gY kl cf e5 e2 hk hQ I X;subst tB;rw[hv]at h2;exists h2;refine⟨ca,some y,e1,iZ,e3,e4,fun w hw=>?_⟩;clear e1 hv iZ e4 e3;rcases qC ρ i i hw with⟨_,rfl⟩|⟨kr,_⟩
    ·exact⟨y,rfl,gf kf r⟩
    ·exact absurd rfl kr
   ·exists gN (X.cell z j h1 h2),a,Oy,q1,q2,q3,q4,q5;have bN:a≠ca:=fun q=>tB (X.inj z x a q1 (by rw[q];exact e1));refine⟨a,Oy,q1,oL q2 fun o e=>kl a o e bN,q3,q4,fun w hw=>?_⟩;clear bN q4 q3 q2 q1 h1 I' gY kl cf iZ e5 e4 e3 e2 e1 hk hQ r I;rcases qC ρ i j hw with⟨rfl,rfl⟩|⟨kr,hw⟩
    ·exact absurd (X.ok.inj z x i h2 hv) tB
    ·exists ae (q5 w hw),val,p1,p2;exact⟨val,p1,gf kf p2⟩
theorem ER.zf(X:ER C c ρ env φ H h):∀b,Zf c env b->φ.fr b:=by
 rintro b (rfl|⟨z,h1,h2⟩)
 ·exact X.iu
 ·exists aD (X.ok.cells z h1),i,hi;exists ko (X.cell z i (.inl h1) hi),a,Z0,e1,Z0,e3,Z0;rw[h2]at e1;exists e1;exact e3
end
end
section
open PySem PySem.Calls PyProof.Rows PySem.W
section
variable {C:Cf} {φ:Ph} {H:Hp} {h h':Heap} {c:Cx} {env:Env} {A:Around} {s:Shared} {E:Value->Shared->Prop} {n:Nat}
noncomputable def Cf.mX(C:Cf)(c:Cx)(env:Env)(φ:Ph)(H:Hp)(s:Shared)(H':Hp)(ρ':ai)(Q:Unit->Shared->Prop):Prop:=
 ∀a8 h' tk,SZ (Zf c env) φ H s.heap a8 H' h'->C.I a8 H' h'->ER C c ρ' env a8 H' h'->Q () { s with heap:=h',toks:=tk }
theorem Cf.mX.step(P:C.mX c env φ H s H' ρ' Q)(S:SZ (Zf c env) φ H s.heap ax H₁ ao)(I:C.I φ H s.heap)(ah:C.I ax H₁ ao):C.mX c env ax H₁ { s with heap:=ao,toks:=tk₁ } H' ρ' Q:=
 fun a8 h' tk S' I' X=>P a8 h' tk (S.trans S' I ah) I' X
theorem yb(X:ER C c ρ env φ H s.heap)(I:C.I φ H s.heap)(ht:c.tgt x=some i)(r:C.R φ H s.heap v y)(P:C.mX c env φ H s H (slotS ρ i (some v)) Q) :
  C.wp A (assign (.Name x p) env y) Q E s:=by
 rw[arm_assign_Name];unfold bindName;refine a9 (g8 (a9 (dH (wpAny_point (a9 (X.store I ht r fun h' tk I' S X'=>wpAny_point ?_))))));exact P φ h' tk S I' X'
theorem oI(h:nameOf e=some x):∃p,e = .Name x p:=by
 induction e using Expr.casesOn with
 |Name y p=>exact⟨p,congrArg (fun x=>PySem.Expr.Name x p) (aH h)⟩
 |_=>exact nq h
theorem Cm(h:qn e=some l):∃k p,e = .Tuple l k p:=by
 induction e using Expr.casesOn with
 |Tuple y k p=>exact⟨k,p,congrArg (fun x=>PySem.Expr.Tuple x k p) (aH h)⟩
 |_=>exact nq h
theorem I9(h:jA c e=some i):∃x p,e = .Name x p/\c.tgt x=some i:=
 ae (aQ h) fun x hx h=>aD (oI hx) fun p e=>⟨x,p,e,h⟩
set_option tactic.hygienic true in
theorem lL{α β:Type}{f:α->Option β}{a:α}{r:List α}{l:List β}(h:optL f (a::r)=some l):∃b bs,l=b::bs/\f a=some b/\optL f r=some bs:=by
 have h:(match f a with
  |some b=>match optL f r with
   |some bs=>some (b::bs)
   |none=>none
  |none=>none)=some l:=h
 split at h
 ·rename_i b hb;split at h
  ·rename_i bs eJ;exists h;exact⟨b,bs,rfl,hb,eJ⟩
  ·exact nq h
 ·exact nq h
theorem MM:∀{is:List Nat} (env:Env),optL (jA c) es=some is->(assignEach es env).length=es.length/\is.length=es.length/\(assignEach es env).findIdx? (·.1)=none/\(assignEach es env).map (·.2)=es.map fun e=>assign e env:=by
 induction es with
 |nil=>
  intro is env h;exists h;exact⟨rfl,rfl,rfl,rfl⟩
 |cons e es ih=>
  intro is env h;exists cB (lL h),i,is,Wi,h1,h2;clear h;subst Wi;exists aT (I9 h1),x,p,rA,Z0;clear h1;subst rA;exists fu (ih env h2),a1,a2,a3,a4;have e0:assignEach (.Name x p::es) env=(false,assign (.Name x p) env)::assignEach es env:=rfl;rw[e0];refine⟨by simp [a1],by simp [a2],?_,by simp [a4]⟩;rw[List.findIdx?_cons];simp [a3]
theorem OH(es:List PySem.Expr):∀(is:List Nat) (ρ ρ':ai) (l:List V) (vs:List Value) (φ:Ph) (s:Shared) (Q:Unit->Shared->Prop),optL (jA c) es=some is->bindTs ρ is l=some ρ'->C.Rs φ H s.heap l vs->ER C c ρ env φ H s.heap->C.I φ H s.heap->
  C.mX c env φ H s H ρ' Q->C.wp A (assignInOrder (es.map fun e=>assign e env) vs) Q E s:=by
 induction es with
 |nil=>
  intro is ρ ρ' l vs φ s Q h hb rs X I P;exists h
  induction l using aM with
  |nil=>
   exists hb;cases rs;exact assignInOrder_nil (P φ s.heap s.toks (SZ.refl ..) I X)
  |cons=>exact nq hb
 |cons e es ih=>
  intro is ρ ρ' l vs φ s Q h hb rs X I P;exists cB (lL h),i,is,ku,h1,h2;clear h;subst ku;exists aT (I9 h1),x,p,LO,ht;clear h1;subst LO
  induction l using aM with
  |nil=>exact nq hb
  |cons v l=>
   cases rs with
   |cons r1 r2=>
    show C.wp A (assignInOrder (assign (.Name x p) env::es.map fun e=>assign e env) (_::_)) Q E s;refine assignInOrder_cons ?_;exists yb X I ht r1,ax,ao,b7,aA,ah,gJ;exact ih is _ ρ' l _ ax _ Q h2 hb (aA.iz I X.zf r2) gJ ah (P.step aA I ah)
theorem LU(h:bindTs ρ tg [v]=some ρ'):∃i,tg=[i]/\ρ'=slotS ρ i (some v):=by
 induction tg using aM with
 |nil=>exact nq h
 |cons i is=>
  induction is using aM with
  |nil=>exists h;exact⟨i,rfl,rfl⟩
  |cons=>exact nq h
theorem E8(h:compT c t=some (tg,many)):(∃x p i,t = .Name x p/\many=false/\tg=[i]/\c.tgt x=some i)\/∃es k p,t = .Tuple es k p/\many=true/\optL (jA c) es=some tg:=by
 rcases l9 h with⟨x,hx,h⟩|⟨_,h⟩
 ·exists ae (aQ h),i,hi,h;exists aD (oI hx),p,e;exact .inl ⟨x,p,i,e,(congrArg (fun x=>x.2) (aH h)).symm,(congrArg (fun x=>x.1) (aH h)).symm,hi⟩
 ·exists ae (aQ h),es,he,h;exists ae (aQ h),is,hi,h;exists d7 (Cm he),k,p,e;exact .inr ⟨es,k,p,e,(congrArg (fun x=>x.2) (aH h)).symm,hi.trans (congrArg (fun x=>some x.1) (aH h))⟩
set_option tactic.hygienic true in
theorem HA(R:Rm A n)(X:ER C c ρ env φ H s.heap)(I:C.I φ H s.heap)(ht:compT c t=some (tg,many))(hb:eB ρ tg many v=some ρ')(r:C.R φ H s.heap v y)
  (P:C.mX c env φ H s H ρ' Q):C.wp A (assign t env y) Q E s:=by
 rcases E8 ht with⟨x,p,i,rfl,rfl,rfl,hx⟩|⟨es,k,p,rfl,rfl,eF⟩
 ·exists ae (LU hb),j,h1,rL;clear ht hb R;subst rL;cases h1;exact yb X I hx r P
 ·unfold eB at hb;dsimp only at hb;split at hb
  ·rename_i l;exists fO (gp r),a,vs,m,xF,g,Z0,rs;clear r ht;subst xF;exists fu (MM env eF),a1,a2,a3,a4;have hlen:∀(is:List Nat) (l:List V) (ρ:ai),bindTs ρ is l=some ρ'->is.length=l.length:=by
    intro is;clear a4 a3 a2 a1 rs g hb eF P I X R;induction is with
    |nil=>intro l ρ h;induction l using aM with|nil=>rfl|cons=>exact nq h
    |cons i is ih=>intro l ρ h;induction l using aM with|nil=>cases h|cons v l=>simp [ih l _ h]
   have hl:=hlen _ _ _ hb;have:=rs.length;exists assign_Tuple_tuple (items:=vs.toArray) R.handled ⟨_,g,rfl,m,rfl⟩ (by rw[dY];lia) a3,h',hx;rw[a4];have k:∀b o,s.heap.get? b=some o->h'.get? b=some o:=fun b o e=>hx b o (fun z=>by rw[z,cA]at e;exact nq e) e;exists ak (C.grow I k),I',S;exact OH es tg ρ ρ' l _ φ _ Q eF hb (by simpa using S.iz I rs) (X.step S I) I' (P.step S.eW I I')
  ·exact nq hb
end
end
section
set_option backward.match.sparseCases true
open PySem PySem.Calls PyProof.Rows PySem.W
structure Wh (prog:Program) (w:World) (A:Around) (t:PySem.Expr) (I:Addr) (wr dZ:List Addr) (n:Nat) (It:Nat->Heap->Value->Heap->Prop) (J:Nat->Heap->Prop) (Mid:Nat->Value->Heap->Prop):Prop where
 frame:∀i h h',J i h->(∀b o,(b∈wr\/b∈dZ)->h.get? b=some o->h'.get? b=some o)->J i h'
 item:∀i (s:Shared) (Q:Option Value->Shared->Prop) (E:Value->Shared->Prop),i<n->J i s.heap->
  (∀v h' tk,It i s.heap v h'->Mid i v h'->(∀b o,b ∉ wr->s.heap.get? b=some o->h'.get? b=some o)->(∀b∈wr,∃o,h'.get? b=some o)->Q (some v) { s with heap:=h',toks:=tk })->wpAny (model prog w) A (pyNext (.ref I)) Q E s
 go:∀i v (s:Shared) (Q:Unit->Shared->Prop) (E:Value->Shared->Prop),Mid i v s.heap->
  (∀h',J (i+1) h'->(∀b o,b ∉ wr->s.heap.get? b=some o->h'.get? b=some o)->(∀b∈wr,∃o,h'.get? b=some o)->Q () { s with heap:=h' })->wpAny (model prog w) A (letOwnedTupleGo t (.ref I) v) Q E s
 done:∀(s:Shared) (Q:Option Value->Shared->Prop) (E:Value->Shared->Prop),J n s.heap->
  (∀h' tk,(∀b o,b ∉ wr->s.heap.get? b=some o->h'.get? b=some o)->Q none { s with heap:=h',toks:=tk })->wpAny (model prog w) A (pyNext (.ref I)) Q E s
 self:∀i (s:Shared) (Q:Value->Shared->Prop) (E:Value->Shared->Prop),J i s.heap->Q (.ref I) s->wpAny (model prog w) A (pyIter (.ref I)) Q E s
noncomputable def owners:List String:=["enumerate","zip","dict_itemiterator","dict_reverseitemiterator","odict_iterator","itertools.zip_longest","itertools.pairwise"]
theorem GR(ho:s.heap.get? I=some o)(hc:o.cls = .type k)(hk:owners.contains k=false)(h:Q () s) :
  wpAny M A (letOwnedTupleGo t (.ref I) v) Q E s:=by
 have key:∀a,wpAny M A (do
   let o <- load I
   match o.cls,o.data with
   |.type n,.fields vs=>
    if owners.contains n && vs[0]? == some (rawInt a)then
     rule "for.unpacks-the-owned-tuple"
     updateField I 0 .none
   |_,_=>pure ()) Q E s:=fun a=>by
  refine a9 (wpAny_load ho ?_);rw[hc];clear hc ho;induction o.data using PySem.Data.casesOn with
  |fields vs=>
   dsimp only;rw[hk];exact aw h
  |_=>exact aw h
 unfold letOwnedTupleGo;clear hk hc ho;induction t using Expr.casesOn <;> first|exact aw h|skip
 all_goals (induction v using PySem.Value.casesOn <;> first|exact key _|exact aw h)
section
variable {prog:Program} {w:World} {A:Around}
noncomputable def Plain(P:Nat->Value->Prop):Nat->Heap->Value->Heap->Prop:=fun i _ v _=>P i v
theorem Wh.plain{t:PySem.Expr}{I:Addr}{fp dZ:List Addr}{n:Nat}{P:Nat->Value->Prop}{St:Nat->Heap->Prop}(W:Walks prog w A I fp [I] n P St)(k:String)(hk:owners.contains k=false)(hc:∀i h,St i h->∃o,h.get? I=some o/\o.cls = .type k)(hd:∀b∈fp,b=I\/b∈dZ) :
  Wh prog w A t I [I] dZ n (Plain P) St (fun i _ h=>St (i+1) h) where
 frame:=fun i h h' st kp=>W.frame i h h' st fun b hb o e=>kp b o (by clear e kp st hc hk W;rcases hd b hb with rfl|z;exact .inl (.head _);exact .inr z) e
 item:=fun i s Q E hi st hQ=>W.item i s Q E hi st fun v h' tk hP mS kp=>hQ v h' tk hP mS kp fun b hb=>by
  rw[c7.mp hb];exists ae (hc _ _ mS),o,ho,Z0;exact⟨o,ho⟩
 go:=fun i v s Q E st hQ=>by
  exists ae (hc _ _ st),o,ho,d9;exact GR ho d9 hk (hQ s.heap st (fun _ _ _ e=>e) fun b hb=>by rw[c7.mp hb];exact⟨o,ho⟩)
 done:=fun s Q E st hQ=>W.done s Q E st hQ
 self:=fun i s Q E st hQ=>W.self i s Q E st hQ
theorem Wh.list(hh:A.handled=none)(t:PySem.Expr)(I l:Addr)(bN:l≠I)(items:Array Value):Wh prog w A t I [I] [l] items.size (Plain fun i v=>items[i]?=some v) (fun i h=>h.IsListIter I l i/\h.IsList l items) (fun i _ h=>h.IsListIter I l (i+1)/\h.IsList l items):=
 Wh.plain (Walks.list hh I l bN items) "list_iterator" dq (fun i h st=>b6 st.1 fun o ho hc _=>⟨o,ho,hc⟩) fun b hb=>by
  clear bN hh;rcases aI.mp hb with rfl|hb
  ·exact .inl rfl
  ·exact .inr hb
theorem Wh.tuple(hh:A.handled=none)(t:PySem.Expr)(I l:Addr)(bN:l≠I)(items:Array Value):Wh prog w A t I [I] [l] items.size (Plain fun i v=>items[i]?=some v) (fun i h=>h.IsTupleIter I l i/\h.IsTuple l items) (fun i _ h=>h.IsTupleIter I l (i+1)/\h.IsTuple l items):=
 Wh.plain (Walks.tuple hh I l bN items) "tuple_iterator" dq (fun i h st=>b6 st.1 fun o ho hc _=>⟨o,ho,hc⟩) fun b hb=>by
  clear bN hh;rcases aI.mp hb with rfl|hb
  ·exact .inl rfl
  ·exact .inr hb
theorem Wh.range(hh:A.handled=none)(t:PySem.Expr)(I:Addr)(a:Int)(n:Nat):Wh prog w A t I [I] [] n (Plain fun i v=>∃u,v = .int (a+i * 1) u) (fun i h=>IsRangeIter h I (a+(i:Nat) * 1) ((n:Int) - (i:Nat)) 1) (fun i _ h=>IsRangeIter h I (a+((i+1:Nat):Nat) * 1) ((n:Int) - ((i+1:Nat):Nat)) 1):=
 Wh.plain (Walks.range hh I a 1 n) "range_iterator" dq (fun i h st=>⟨_,st,rfl⟩) fun b hb=>.inl (c7.mp hb)
variable {E:Value->Shared->Prop} {s:Shared}
theorem aa1(hit:s.heap.IsKeyIter it d i es.length ep)(qJ:s.heap.get? d=some (cX es ep))(hx:es[i]?=some e)
  (hQ:∀h',h'.IsKeyIter it d (i+1) es.length ep->Heap.SameBut it s.heap h'->Q (some e.key) { s with heap:=h' }) :
  wpAny (model prog w) A (pyNext (.ref it)) Q E s:=by
 exists b6 (id hit),o,ho,hc,hd;have rl:(cX es ep).data = .dict es.toArray ep:=rfl;unfold pyNext;refine a9 (wpAny_attempt (wpAny_callSpecial?_slot (name:=Str.ofString "__next__") hit.typeIs PySem.F.slot_dict_keyiterator_next
  (wpAny_call_entry PySem.F.slot_dict_keyiterator_next hit.typeIs PySem.F.entry_dict_keyiterator_next ?_ (PySem.F.args_dict_keyiterator_next_1 _))))
 refine a9 (aw ?_);refine a9 ?_;refine a9 ?_
 first|refine a9 (wpAny_typeNameOfWhole_keyiter hit.typeIs (aw ?_))|refine a9 (wpAny_typeNameOf_keyiter hit.typeIs (aw ?_))
 refine a9 (wpAny_fieldsOf ho hd ?_);have o8:Builtin.Dict_items.ownsTuple "dict_keyiterator" = false:=by decide
 rw[if_neg (show ¬ (Builtin.Dict_items.ownsTuple "dict_keyiterator" = true)from by rw[o8];exact Bool.false_ne_true)];show wpAny _ _ (if (Value.ref d == Value.none)=true then _ else _) _ _ s;rw[if_neg (show ¬ ((Value.ref d == Value.none)=true)from Bool.false_ne_true)];refine a9 (aw ?_);refine a9 (wpAny_dictEntries qJ rl ?_);have d4:es.toArray.size=es.length:=by simp
 rw[if_neg (by rw[d4];simp)];refine a9 (aw ?_);refine a9 (wpAny_dictEpoch qJ rl ?_);rw[if_neg (by simp)];refine aw ?_;have dB:i<es.length:=(fo.mp hx).1;have Q0:i<es.toArray.size:=by rw[d4];exact dB
 have ta:es.toArray[i].key=e.key:=by
  have:=(fo.mp hx).2;simp [this]
 simp only[show ¬ ((i:Int)<0)from by exact Int.not_ofNat_neg i,if_false,Int.toNat_natCast,Array.getElem?_eq_getElem Q0];refine a9 ?_
 first|refine a9 (wpAny_typeNameOfWhole_keyiter hit.typeIs (aw ?_))|refine a9 (wpAny_typeNameOf_keyiter hit.typeIs (aw ?_))
 refine a9 (wpAny_isOneOf_keyiter hit.typeIs ?_);show wpAny _ _ (setField (.ref it) 1 (rawInt ((i:Int)+1)) >>= _) _ _ s;refine a9 (wpAny_setField ho hd (by simp) ?_);have lH:(s.heap.update it (Obj.mapFields (·.setIfInBounds 1 (rawInt ((i:Int)+1))))).IsKeyIter it d (i+1) es.length ep:=
  ⟨_,Heap.get?_update_self _ ho (Obj.isFreed_of_fields (Obj.data_mapFields hd _)),(Obj.cls_mapFields ..).trans hc,by rw[Obj.data_mapFields hd];simp [rawInt]⟩
 refine a9 (dH ?_);refine a9 (wpAny_isOneOf_keyiter (s:={ s with heap:=s.heap.update it (Obj.mapFields (·.setIfInBounds 1 (rawInt ((i:Int)+1)))) }) lH.typeIs ?_);show wpAny _ _ (pure es.toArray[i].key) _ _ _;rw[ta];exact aw (aw ⟨_,rfl,aw (hQ _ lH (Heap.SameBut.update ..))⟩)
theorem Z9(hh:A.handled=none)(hit:s.heap.IsKeyIter it d i es.length ep)(qJ:s.heap.get? d=some (cX es ep))(hx:es[i]?=none)
  (hQ:∀h',Heap.ExtBut it s.heap h'->Q none { s with heap:=h' }):wpAny (model prog w) A (pyNext (.ref it)) Q E s:=by
 exists b6 (id hit),o,ho,hc,hd;have rl:(cX es ep).data = .dict es.toArray ep:=rfl;unfold pyNext;refine a9 (wpAny_attempt (wpAny_callSpecial?_slot (name:=Str.ofString "__next__") hit.typeIs PySem.F.slot_dict_keyiterator_next
  (wpAny_call_entry PySem.F.slot_dict_keyiterator_next hit.typeIs PySem.F.entry_dict_keyiterator_next ?_ (PySem.F.args_dict_keyiterator_next_1 _))))
 refine a9 (aw ?_);refine a9 ?_;refine a9 ?_
 first|refine a9 (wpAny_typeNameOfWhole_keyiter hit.typeIs (aw ?_))|refine a9 (wpAny_typeNameOf_keyiter hit.typeIs (aw ?_))
 refine a9 (wpAny_fieldsOf ho hd ?_);have o8:Builtin.Dict_items.ownsTuple "dict_keyiterator" = false:=by decide
 rw[if_neg (show ¬ (Builtin.Dict_items.ownsTuple "dict_keyiterator" = true)from by rw[o8];exact Bool.false_ne_true)];show wpAny _ _ (if (Value.ref d == Value.none)=true then _ else _) _ _ s;rw[if_neg (show ¬ ((Value.ref d == Value.none)=true)from Bool.false_ne_true)];refine a9 (aw ?_);refine a9 (wpAny_dictEntries qJ rl ?_);have d4:es.toArray.size=es.length:=by simp
 rw[if_neg (by rw[d4];simp)];refine a9 (aw ?_);refine a9 (wpAny_dictEpoch qJ rl ?_);rw[if_neg (by simp)];refine aw ?_;have Zd:es.toArray.size<=i:=by rw[d4];simpa using hx
 simp only[show ¬ ((i:Int)<0)from by exact Int.not_ofNat_neg i,if_false,Int.toNat_natCast,Array.getElem?_eq_none Zd];refine a9 ?_
 first|refine a9 (wpAny_typeNameOfWhole_keyiter hit.typeIs (aw ?_))|refine a9 (wpAny_typeNameOf_keyiter hit.typeIs (aw ?_))
 show wpAny _ _ (setField (.ref it) 0 .none >>= _) _ _ s;refine a9 (wpAny_setField ho hd (by simp) ?_);show wpAny _ _ (newExc (.type "StopIteration") [] >>= _) _ _ _;refine a9 ?_;simp only[newExc,newTuple];refine a9 (wpAny_newObj_type ?_ (by size_fits));refine a9 (m:=firstArgMember _ _) (wpAny_of_eq (a:=Value.none) (by first|rfl|(simp only[firstArgMember];rfl)) ?_)
 refine wpAny_newObj_type ?_ (by size_fits);unfold raiseNew;refine a9 (wpAny_handled ?_);rw[show A.in1.handled=none from hh];refine a9 (aw (wpAny_throw ?_));refine a9 (wpAny_isInstance (T:="StopIteration") (b:=true) ⟨_,Heap.get?_push_size _ rfl,rfl⟩ isSubtype_stop ?_);exact aw (hQ _ (((Heap.SameBut.update ..).extBut.push _).push _))
theorem KO(hd:(d == sysModules)=false)(g:s.heap.get? d=some (cX es ep))
  (hQ:Q (.ref s.heap.objs.size) { s with heap:=s.heap.push { cls:=.type "dict_keyiterator",data:=.fields #[.ref d,.int 0 0,.int es.length 0,.int ep 0] } }) :
  wpAny (model prog w) A (pyIter (.ref d)) Q E s:=by
 have hT:s.TypeIs (.ref d) "dict":=⟨_,g,rfl⟩;refine wpAny_pyIter_slot hT PySem.F.slot_dict_iter (wpAny_call_entry PySem.F.slot_dict_iter hT PySem.F.entry_dict_iter ?_ (PySem.F.args_dict_iter_1 _));unfold Builtin.«dict.__iter__»;refine a9 ?_;unfold Builtin.Dict.dictSlotNone;refine a9 (wpAny_notOrdered_dict hT ?_);show wpAny _ _ (pure (Value.ref d)) _ _ s;refine aw ?_;show wpAny _ _ (Builtin.Dict.showsAll d >>= _) _ _ s;unfold Builtin.Dict.showsAll;rw[if_neg (by rw[hd];exact Bool.false_ne_true)];refine a9 (aw ?_);refine a9 (wpAny_dictEntries g rfl ?_);refine a9 (wpAny_dictEpoch g rfl ?_);refine a9 (wpAny_newObj_type (aw ⟨_,rfl,"dict_keyiterator",_,⟨_,Heap.get?_push_size _ rfl,rfl⟩,PySem.F.slot_dict_keyiterator_next.lookup,?_⟩));simpa [rawInt]using hQ
theorem Wh.keys(hh:A.handled=none)(t:PySem.Expr)(I d:Addr)(bN:d≠I)(es:List DictEntry)(ep:Nat):Wh prog w A t I [I] [d] es.length (Plain fun i v=>∃e,es[i]?=some e/\v=e.key) (fun i h=>h.IsKeyIter I d i es.length ep/\h.get? d=some (cX es ep)) (fun i _ h=>h.IsKeyIter I d (i+1) es.length ep/\h.get? d=some (cX es ep)) where
 frame:=fun i h h' st kp=>⟨st.1.at fun o e=>kp I o (.inl (.head _)) e,kp d _ (.inr (.head _)) st.2⟩
 item:=fun i s Q E hi st hQ=>by
  have hx:es[i]?=some es[i]:=by simp [hi]
  exists aa1 st.1 st.2 hx,h',lH,cf;refine hQ _ h' s.toks ⟨_,hx,rfl⟩ ⟨lH,by rw[cf.2 d bN];exact st.2⟩ (fun b o hb e=>by rw[cf.2 b fun z=>hb (by simp [z])];exact e) fun b hb=>by
   rw[c7.mp hb];exists ae lH,o,ho,Z0
   try clear lH
   exact⟨o,ho⟩
 go:=fun i v s Q E st hQ=>by
  exists b6 (id st.1),o,ho,d9,Z0;exact GR ho d9 dq (hQ s.heap st (fun _ _ _ e=>e) fun b hb=>by rw[c7.mp hb];exact⟨o,ho⟩)
 done:=fun s Q E st hQ=>Z9 hh st.1 st.2 (by simp) fun h' hx=>hQ h' s.toks fun b o hb e=>hx b o (fun z=>hb (by simp [z])) e
 self:=fun i s Q E st hQ=>wpAny_pyIter_keyiter st.1 hQ
theorem XQ{items}(hit:s.heap.IsTupleIter it l i)
  (hl:s.heap.IsTuple l items) (hx:items[i]?=some x)
  (hQ:∀h',h'.IsTupleIter it l (i+1)->Heap.SameBut it s.heap h'->Q x { s with heap:=h' }) :
  wpAny (model prog w) A (Builtin.SmallTypes.nextOf (.ref it)) Q E s:=by
 exists b6 (id hit),o,ho,hc,hd;obtain⟨ol,r6,_,nl,fv⟩:=hl;unfold Builtin.SmallTypes.nextOf;refine a9 (wpAny_callSpecial?_slot (name:=Str.ofString "__next__") hit.typeIs PySem.F.slot_tuple_iterator_next
  (wpAny_call_entry PySem.F.slot_tuple_iterator_next hit.typeIs PySem.F.entry_tuple_iterator_next ?_ (PySem.F.args_tuple_iterator_next_1 _)))
 show wpAny _ _ (field (.ref it) 0 >>= _) _ _ s;refine a9 (wpAny_field ho hd (x:=.ref l) rfl ?_);refine eG (show ¬ ((Value.ref l == Value.none)=true)from Bool.false_ne_true) ?_;show wpAny _ _ (field (.ref it) 1 >>= _) _ _ s;refine a9 (wpAny_field ho hd (x:=.int i 0) rfl ?_);refine a9 (wpAny_seqItems r6 fv ?_);simp only[Int.toNat_natCast,hx];refine a9 (wpAny_setField ho hd (by simp) (aw ⟨x,rfl,aw (hQ _ ?_ (Heap.SameBut.update ..))⟩));exact⟨_,Heap.get?_update_self _ ho (Obj.isFreed_of_fields (Obj.data_mapFields hd _)),(Obj.cls_mapFields ..).trans hc,by
  rw[Obj.data_mapFields hd];simp [rawInt]⟩
theorem Q3{items}(hh:A.handled=none)
  (hit:s.heap.IsTupleIter it l i) (hl:s.heap.IsTuple l items) (hx:items[i]?=none)
  (hE:∀h' e,Heap.ExtBut it s.heap h'->(∃o,h'.get? e=some o/\o.cls = .type "StopIteration")->E (.ref e) { s with heap:=h' }) :
  wpAny (model prog w) A (Builtin.SmallTypes.nextOf (.ref it)) Q E s:=by
 exists b6 (id hit),o,ho,hc,hd;clear hc;obtain⟨ol,r6,_,nl,fv⟩:=hl;unfold Builtin.SmallTypes.nextOf;refine a9 (wpAny_callSpecial?_slot (name:=Str.ofString "__next__") hit.typeIs PySem.F.slot_tuple_iterator_next
  (wpAny_call_entry PySem.F.slot_tuple_iterator_next hit.typeIs PySem.F.entry_tuple_iterator_next ?_ (PySem.F.args_tuple_iterator_next_1 _)))
 show wpAny _ _ (field (.ref it) 0 >>= _) _ _ s;refine a9 (wpAny_field ho hd (x:=.ref l) rfl ?_);refine eG (show ¬ ((Value.ref l == Value.none)=true)from Bool.false_ne_true) ?_;show wpAny _ _ (field (.ref it) 1 >>= _) _ _ s;refine a9 (wpAny_field ho hd (x:=.int i 0) rfl ?_);refine a9 (wpAny_seqItems r6 fv ?_);simp only[Int.toNat_natCast,hx];refine a9 (wpAny_rule (a9 (wpAny_setField ho hd (by simp) ?_)));refine a9 ?_;simp only[newExc,newTuple];refine a9 (wpAny_newObj_type ?_ (by size_fits));refine a9 (m:=firstArgMember _ _) (wpAny_of_eq (a:=Value.none) (by first|rfl|(simp only[firstArgMember];rfl)) ?_)
 refine wpAny_newObj_type ?_ (by size_fits);unfold raiseNew;refine a9 (wpAny_handled ?_)
 first|rw[show A.in1.handled=none from hh]|rw[hh]
 refine a9 (aw (wpAny_throw ?_));exact hE _ _ (((Heap.SameBut.update ..).extBut.push _).push _) ⟨_,Heap.get?_push_size _ rfl,rfl⟩
theorem Ms(hh:A.handled=none)(it l:Addr)(bN:l≠it)(items:Array Value) :
  Draws prog w A it [it,l] items.size (fun i v=>items[i]?=some v) (fun i h=>h.IsTupleIter it l i/\h.IsTuple l items) where
 live:=fun _ _ st=>ae st.1 fun o ho _=>⟨o,ho⟩
 frame:=fun _ _ _ st hk=>⟨st.1.at fun o e=>hk it (by simp) o e,st.2.at fun o e=>hk l (by simp) o e⟩
 item:=fun i s Q E hi st hQ=>by
  exists XQ st.1 st.2 (x:=items[i]) (by simp [hi]),h',lH,cf;exact hQ _ h' s.toks (by simp [hi]) ⟨lH,st.2.extBut cf.extBut bN⟩ cf
 done:=fun s Q E st hE=>Q3 hh st.1 st.2 (by simp) hE
noncomputable def Eg(P:Nat->Value->Prop):Nat->Heap->Value->Heap->Prop:=fun i h v h'=>∃T u x,v = .ref T/\h.get? T=none/\h'.get? T=some (dc [.int (i:Int) u,x] 0)/\P i x
theorem Wh.enum{it l:Addr}{n:Nat}{P:Nat->Value->Prop}{St:Nat->Heap->Prop}(D:Draws prog w A.in1 it [it,l] n P St)(e:Addr)(ll:e≠it)(je:e≠l)(es:List PySem.Expr)(k:Nat)(p:Pos) :
  Wh prog w A (.Tuple es k p) e [e,it] [l] n (Eg P) (fun i h=>(∃old,IsEnum h e it i old)/\St i h) (fun i v h=>∃T x,v = .ref T/\IsEnumOut h e it ((i:Int)+1) x T/\St (i+1) h) where
 frame:=fun i h h' st kp=>by
  clear je ll;obtain⟨⟨old,he⟩,hs⟩:=st;refine⟨⟨old,kp e _ (.inl (.head _)) he⟩,D.frame _ _ _ hs fun b hb o x=>kp b o ?_ x⟩;clear x he hs kp D;rcases aI.mp hb with rfl|hb
  ·exact .inl (by simp)
  ·exact .inr hb
 item:=fun i s Q E hi st hQ=>by
  obtain⟨⟨old,he⟩,hs⟩:=st;exists wpAny_pyNext_enum_itemD D he hs hi ll (by simp [ll,je]),x,h',tk,hP,ho,cf,hT,d4,hk;exists hQ _ h' (tk+1) ⟨_,tk,x,rfl,cA _,hT,hP⟩ ⟨_,x,rfl,ho,cf⟩ (fun b o hb y=>hk b o (fun e'=>hb (by simp [e'])) (fun e'=>hb (by simp [e'])) y),b,hb;clear hk d4 hT hP he hs hQ hi je ll;rcases aI.mp hb with rfl|hb
  ·exact⟨_,ho⟩
  ·rw[c7.mp hb];exact D.live _ _ cf
 go:=fun i v s Q E st hQ=>by
  exists cB st,T,x,rR,ho,hs
  try clear st
  subst rR;exists wpAny_letOwnedTupleGo_enum ho,h',Ax,cf;have fG:St (i+1) h':=D.frame _ _ _ hs fun b hb o y=>(cf.2 b fun q=>by clear y cf Ax hs ho hQ D;subst q;simp [ll,je]at hb).trans y;exists hQ h' ⟨⟨x,by simpa using Ax⟩,fG⟩ (fun b o hb y=>(cf.2 b fun e'=>hb (by simp [e'])).trans y),b,hb;clear cf hs ho hQ je ll;rcases aI.mp hb with rfl|hb
  ·exact⟨_,Ax⟩
  ·rw[c7.mp hb];exact D.live _ _ fG
 done:=fun s Q E st hQ=>by
  clear je ll;obtain⟨⟨old,he⟩,hs⟩:=st;exact wpAny_pyNext_enum_endD D he hs fun h' hx=>hQ h' s.toks fun b o hb y=>hx b o (fun e'=>hb (by simp [e'])) y
 self:=fun i s Q E st hQ=>by
  clear je ll D;obtain⟨⟨old,he⟩,_⟩:=st;exact wpAny_pyIter_enum he hQ
theorem yY{A:Type}{p:A->Prop}{a b c d e:A}(h1:p a)(h2:p b)(h3:p c)(h4:p d)(h5:p e):∀x∈[a,b,c,d,e],p x:=fun x m=>by
 rcases aI.mp m with q|m
 ·exact q▸h1
 rcases aI.mp m with q|m
 ·exact q▸h2
 rcases aI.mp m with q|m
 ·exact q▸h3
 rcases aI.mp m with q|m
 ·exact q▸h4
 ·exact c7.mp m▸h5
theorem yF{A:Type}{a b c d e x:A}(h:x ∉ [a,b,c,d,e]):x≠a/\x≠b/\x≠c/\x≠d/\x≠e:=
 ⟨fun q=>h (q▸.head _),fun q=>h (q▸.tail _ (.head _)),fun q=>h (q▸.tail _ (.tail _ (.head _))),fun q=>h (q▸.tail _ (.tail _ (.tail _ (.head _)))),fun q=>h (q▸.tail _ (.tail _ (.tail _ (.tail _ (.head _)))))⟩
structure ZI (TI TO i1 i2 l1 l2:Addr) (xs ys:Array Value) (z:Addr) (m:Value) (j:Nat) (h:Heap):Prop where
 z:IsZip h z TI TO m
 t:IsPair h TI (.ref i1) (.ref i2)
 o:∃a b,IsPair h TO a b
 a:h.IsListIter i1 l1 j
 b:h.IsListIter i2 l2 j
 c:h.IsList l1 xs
 d:h.IsList l2 ys
theorem Wh.zip(hh:A.handled=none){z TI TO i1 i2 l1 l2:Addr}(D:ZipApart z TI TO i1 i2 l1 l2)(xs ys:Array Value)(es:List PySem.Expr)(k:Nat)(p:Pos) :
  Wh prog w A (.Tuple es k p) z [z,TI,TO,i1,i2] [l1,l2] (min xs.size ys.size) (fun i h v h'=>∃T x y,v = .ref T/\h.get? T=none/\h'.get? T=some (dc [x,y] 0)/\xs[i]?=some x/\ys[i]?=some y)
   (fun i h=>ZI TI TO i1 i2 l1 l2 xs ys z .none i h) (fun i v h=>∃T,v = .ref T/\ZI TI TO i1 i2 l1 l2 xs ys z (rawInt T) (i+1) h) where
 frame:=fun i h h' S hk=>by
  exists d7 S.o,a,b,gQ;exact⟨hk z _ (.inl (.head _)) S.z,hk TI _ (.inl (.tail _ (.head _))) S.t,⟨a,b,hk TO _ (.inl (.tail _ (.tail _ (.head _)))) gQ⟩,S.a.at fun o e=>hk i1 o (.inl (.tail _ (.tail _ (.tail _ (.head _))))) e,
   S.b.at fun o e=>hk i2 o (.inl (.tail _ (.tail _ (.tail _ (.tail _ (.head _)))))) e,S.c.at fun o e=>hk l1 o (.inr (.head _)) e,S.d.at fun o e=>hk l2 o (.inr (.tail _ (.head _))) e⟩
 item:=fun i s Q E hi S hQ=>by
  exists d7 S.o,a,b,gQ;have hx:=Array.getElem?_eq_getElem (Nat.lt_of_lt_of_le hi (Nat.min_le_left ..));have hy:=Array.getElem?_eq_getElem (Nat.lt_of_lt_of_le hi (Nat.min_le_right ..));exists wpAny_pyNext_zip_item D S.z S.t gQ S.a S.b S.c S.d hx hy,h',a1,a2,a3,a4,a5,a6,hk;have sM:=hk _ _ D.TIz D.TITO D.TIi1 D.TIi2 S.t;exact hQ _ h' s.toks ⟨_,_,_,rfl,cA _,a5,hx,hy⟩
   ⟨_,rfl,a1,sM,⟨_,_,a2⟩,a3,a4,S.c.at fun o e=>hk _ o D.l1z D.l1TO D.l1i1 D.l1i2 e,S.d.at fun o e=>hk _ o D.l2z D.l2TO D.l2i1 D.l2i2 e⟩
   (fun c o hc e=>E6 (yF hc) fun q1 _ q3 q4 q5=>hk c o q1 q3 q4 q5 e) (yY ⟨_,a1⟩ ⟨_,sM⟩ ⟨_,a2⟩ (a3.imp fun _ q=>q.1) (a4.imp fun _ q=>q.1))
 go:=fun i v s Q E hm hQ=>by
  exists ae hm,T,e,S;subst e;exists d7 S.o,a,b,gQ;exists wpAny_letOwnedTupleGo_zip S.z,h',Fq,cf;have sM:=cf.extBut _ _ D.TIz S.t;have ID:=cf.extBut _ _ D.TOz gQ;have Dc:=S.a.extBut cf.extBut D.i1z;have Ec:=S.b.extBut cf.extBut D.i2z;exact hQ h' ⟨Fq,sM,⟨a,b,ID⟩,Dc,Ec,S.c.extBut cf.extBut D.l1z,S.d.extBut cf.extBut D.l2z⟩ (fun c o hc e=>cf.extBut _ _ (yF hc).1 e) (yY ⟨_,Fq⟩ ⟨_,sM⟩ ⟨_,ID⟩ (Dc.imp fun _ q=>q.1) (Ec.imp fun _ q=>q.1))
 done:=fun s Q E S hQ=>by
  exists d7 S.o,a,b,gQ;have aaw:xs[min xs.size ys.size]?=none\/ys[min xs.size ys.size]?=none:=by
   rcases Nat.le_total xs.size ys.size with h|h
   ·exact .inl (by rw[Nat.min_eq_left h];exact Array.getElem?_eq_none (cx _))
   ·exact .inr (by rw[Nat.min_eq_right h];exact Array.getElem?_eq_none (cx _))
  exact wpAny_pyNext_zip_end hh D S.z S.t gQ S.a S.b S.c S.d aaw fun h' hk=>hQ h' s.toks fun c o hc e=>E6 (yF hc) fun q1 _ q3 q4 q5=>hk c o q1 q3 q4 q5 e
 self:=fun i s Q E S hQ=>wpAny_pyIter_zip S.z hQ
end
end
section
open PySem PySem.Calls PyProof.Rows PySem.W
open AutoSeq1 (wpAny_loadPart')
theorem LP(l:Addr)(items:Array Value)(n:Nat) :
  Meets (Builtin.«enumerate.__new__» ⟨[.type "enumerate",.ref l],[]⟩) (fun _ R s=>s.heap.get? l=some { cls:=.type "tuple",dict:=none,data:=.seq items n,slots:=#[] }/\
   R (.ok (.ret (.ref (s.heap.push { cls:=.type "tuple_iterator",data:=.fields #[.ref l,.int 0 0] }).objs.size)))
    { s with heap:=(s.heap.push { cls:=.type "tuple_iterator",data:=.fields #[.ref l,.int 0 0] }).push { cls:=.type "enumerate",data:=.fields #[.none,.bool false,.ref s.heap.objs.size,rawInt 0,.none,.none] } }):=
 .of_wp fun prog w A R s h=>by
  obtain⟨hp,g,d,tk,os⟩:=s;exists ak h,hl,h;have gc:=sub_enumerate;have hL:Heap.IsTuple (Shared.heap ⟨hp,g,d,tk,os⟩) l items:=⟨_,hl,rfl,n,rfl⟩
  wp_walk using wpAny_loadPart' hl
  refine wpAny_stack_any fun st=>aw ?_;generalize PySem.Builtin.SmallTypes.calledThroughType.match_1 (fun _=>Bool) (st.drop 1) (fun c _ _ _ _=>c == Value.type "enumerate") (fun _=>false)=b;clear gc hl;induction b using aB
  ·wp_walk using wpAny_loadPart' hl,wpAny_pyIter_tuple hL
   exact⟨_,rfl,h⟩
  ·wp_walk using wpAny_loadPart' hl,wpAny_pyIter_tuple hL
   exact⟨_,rfl,h⟩
section
variable {prog:Program} {w:World} {A:Around} {E:Value->Shared->Prop} {s:Shared}
theorem L6(hl:s.heap.get? l=some (dc vs n))
  (h:∀h',IsEnum h' (s.heap.objs.size+1) s.heap.objs.size 0 .none->h'.IsTupleIter s.heap.objs.size l 0->(∀b o,s.heap.get? b=some o->h'.get? b=some o)->Q (.ref (s.heap.objs.size+1)) { s with heap:=h' }) :
  wpAny (model prog w) A (call (.type "enumerate") [.ref l]) Q E s:=by
 refine callType_new F.called_enumerate dq (F.typeCall_enumerate_1 _) (F.newCall_enumerate_1 _) (fun obj=>F.args_object_init_2 obj _) F.entry_enumerate_new
  (LP l vs.toArray n) ⟨hl,?_⟩
 have hz:(s.heap.push { cls:=.type "tuple_iterator",data:=.fields #[.ref l,.int 0 0] }).objs.size=s.heap.objs.size+1:=Heap.size_push ..;rw[hz];have he:IsEnum ((s.heap.push { cls:=.type "tuple_iterator",data:=.fields #[.ref l,.int 0 0] }).push
   { cls:=.type "enumerate",data:=.fields #[.none,.bool false,.ref s.heap.objs.size,rawInt 0,.none,.none] }) (s.heap.objs.size+1) s.heap.objs.size 0 .none:=by
  have:=Heap.get?_push_size (s.heap.push { cls:=.type "tuple_iterator",data:=.fields #[.ref l,.int 0 0] })
   (o:={ cls:=.type "enumerate",data:=.fields #[.none,.bool false,.ref s.heap.objs.size,rawInt 0,.none,.none] }) rfl
  rw[hz]at this;exact this
 exact⟨⟨_,he,rfl⟩,h _ he ⟨_,Heap.get?_push_of_some _ (Heap.get?_push_size _ rfl),rfl,rfl⟩ fun b o x=>Heap.get?_push_of_some _ (Heap.get?_push_of_some _ x)⟩
end
structure Wk (C:Cf) (t:PySem.Expr) (I:Addr) (wr dZ:List Addr) (ax:Ph) (H₁:Hp) (ao:Heap) (items:List V) (It:Nat->Heap->Value->Heap->Prop) (J:Nat->Heap->Prop) (Mid:Nat->Value->Heap->Prop):Prop where
 w:∀A,A.handled=none->Wh C.prog C.w A t I wr dZ items.length It J Mid
 fr:∀b∈wr,ax.fr b
 dep:∀b∈dZ,(∃o,ao.get? b=some o)/\¬ gL ax H₁ b/\¬ ax.fr b
 rel:∀i v y h h' φ H,items[i]?=some v->It i h y h'->C.I φ H h->(∀v x,C.R ax H₁ ao v x->C.R φ H h v x)->(∀b o,h.get? b=some o->¬ φ.fr b->h'.get? b=some o)->C.R φ H h' v y
section
variable {C:Cf} {φ:Ph} {H:Hp} {h h':Heap} {c:Cx} {n K:Nat}
noncomputable def Cf.fS(C:Cf)(t:PySem.Expr)(φ:Ph)(H:Hp)(s:Shared)(H₁:Hp)(vs items:List V)(Q:Value->Shared->Prop):Prop:=
 ∀I wr dZ ax ao tk It J Mid,St φ H s.heap ax H₁ ao->C.I ax H₁ ao->Wk C t I wr dZ ax (lockH H₁ vs) ao items It J Mid->J 0 ao->(∀b∈wr,s.heap.get? b=none)->Q (.ref I) { s with heap:=ao,toks:=tk }
theorem Cf.fS.step(P:C.fS t φ H s aE vs items Q)(S:St φ H s.heap ax H₁ ao)(I:C.I φ H s.heap)(ah:C.I ax H₁ ao):C.fS t ax H₁ { s with heap:=ao,toks:=tk₁ } aE vs items Q:=
 fun I' wr dZ bp aV tk It J Mid aP aC W j f=>P I' wr dZ bp aV tk It J Mid (S.trans aP I ah) aC W j fun b hb=>by
  clear j W aC aP ah I P;induction g:s.heap.get? b using aL with
  |none=>rfl
  |some o=>
   exists aD (S.alive b o g),o',g';rw[f b hb]at g';exact nq g'
noncomputable def Seen(H:Hp)(v:V):Prop:=∀k,v = .ref k->∃e∈H.es,e.id=k
theorem zu(e:listView H v=some l):Seen H v:=fun k z=>by
 subst z;unfold listView at e;dsimp only at e;exists ml e,en,hl,e
 ·exists ak (fI hl),m,i;exact⟨en,m,i⟩
theorem LS(e:dictView H v=some l):Seen H v:=fun k z=>by
 subst z;unfold dictView at e;dsimp only at e;exists ml e,en,hl,e
 ·exists ak (fI hl),m,i;exact⟨en,m,i⟩
theorem Dp(e:seqView H v=some l):Seen H v:=by
 induction v using Internal.V.casesOn with
 |tup=>intro k z;clear e;cases z
 |_=>exact zu e
theorem tE(I:C.I φ H h)(r:C.R φ H h v (.ref a))(sn:Seen H v)(hv:v∈vs):(∃o,h.get? a=some o)/\¬ gL φ (lockH H vs) a/\¬ φ.fr a:=by
 have rY:∀{o},h.get? a=some o->¬ aU φ H a->(∃o,h.get? a=some o)/\¬ gL φ (lockH H vs) a/\¬ φ.fr a:=fun g m=>
  ⟨⟨_,g⟩,fun u=>m ((AR vs a).mp u.mut),fun f=>m (.inr f)⟩
 cases r with
 |tup g m _=>exact rY g m
 |lst g m _=>exact rY g m
 |dct g _ m _ _=>exact rY g m
 |@ref k _ hk=>
  exists ae (sn k rfl),e,m,i;exists b6 (I.objs e m),a',h1,Z0,h3;rw[i,hk]at h1;exists h1;refine⟨?_,?_,fun f=>(I.cC a f).2.1 e m (by rw[i];exact hk)⟩
  ·revert h3;clear i m hk hv sn rY I;induction e.obj using Internal.bq.casesOn with
   |list l=>rintro ⟨_,_,g,_⟩;exact⟨_,g⟩
   |dict l=>rintro ⟨_,_,g,_⟩;exact⟨_,g⟩
  ·rintro ⟨e',m',lk,q⟩;exists ae (iD (ki vs H.es) m'),e2,m2,i2;have:e2=e:=iq I.nodup m2 m (I.inj e2 m2 e m (by rw[i2,q,i,hk]));clear m2 q h3 hk sn rY;subst this;exists oJ (sJ vs H.es I.nodup e2 m),e1,m1,a1,Z0,Z0,d1,Z0;have hl:=d1 (by rw[i];exact hv);have N':((mG H.es vs).map (·.id)).Nodup:=by rw[ki];exact I.nodup
   have:e1=e':=iq N' m1 m' (a1.trans i2);clear N' d1 a1 m1 i m i2 m' hv I;subst this;rw[lk]at hl;exact bf hl
theorem An(I:C.I φ H h)(k:∀b o,h.get? b=some o->h'.get? b=some o)(hJ:h.get? J=none)(XS:∃o,h'.get? J=some o):C.I (φ.more (· = J)) H h'/\St φ H h (φ.more (· = J)) H h'/\(φ.more (· = J)).fr J:=
 let ⟨a,b⟩:=C.s7 I k (F:=(· = J)) fun a e=>by clear k I;subst e;exact⟨hJ,XS⟩
 ⟨a,b,.inr rfl⟩
set_option tactic.hygienic true in
theorem ZL(he:C.SE n c e d)(t:PySem.Expr)(R:Rm A n)(I:C.I φ H s.heap)(X:ER C c ρ env φ H s.heap)
  (hd:d ρ H=some (v,H₁)) (hi:Cw H₁ v=some items) (P:C.fS t φ H s H₁ [v] items Q):C.wp A (eval e env) (fun x s'=>C.wp A (pyIter x) Q E s') E s:=by
 exists he A env ρ φ H s v H₁ _ E R I X hd,x,ax,ao,b7,aA,ah,aR;have dk:=P.step (tk₁:=b7) aA I ah;clear P;unfold Cw at hi;split at hi
 ·rename_i l hl;clear aA hd X I R he;cases hi;have sn:=Dp hl;exists dA (q8 ah aR hl),a,vs,m,zY,hg,rs;clear hl;subst zY;have el:=rs.length;have ez:vs.toArray.size=items.length:=by rw[el];simp
  clear el;obtain⟨⟨o,ho⟩,hu,hf⟩:=tE ah aR sn (vs:=[v]) (.head _);have bN:a≠ao.objs.size:=fun z=>by rw[z,cA]at ho;exact nq ho
  have fin:∀(ob:Obj) {It:Nat->Heap->Value->Heap->Prop} {J:Nat->Heap->Prop} {Mid:Nat->Value->Heap->Prop},ob.isFreed=false->J 0 (ao.push ob)->(∀A:Around,A.handled=none->Wh C.prog C.w A t ao.objs.size [ao.objs.size] [a] items.length (Plain fun i v=>vs.toArray[i]?=some v) J Mid)->
    Q (.ref ao.objs.size) { s with heap:=ao.push ob,toks:=b7 }:=by
   intro ob It J Mid CO j W;refine dr (An ah (cS ao ob) (cA ao) ⟨_,Heap.get?_push_size _ CO⟩) fun aC aP jQ=>?_;refine dk _ [ao.objs.size] [a] _ _ b7 (Plain fun i v=>vs.toArray[i]?=some v) J Mid aP aC ⟨W,fun b hb=>by rw[c7.mp hb];exact jQ,fun b hb=>?_,fun i v' y h h' φ H hv hy I' tr kp=>?_⟩ j fun b hb=>by rw[c7.mp hb];exact cA _
   ·rw[c7.mp hb];refine⟨⟨o,cS ao ob _ _ ho⟩,fun u=>hu u,fun f=>?_⟩;clear hb jQ aP aC W j CO hu ho ez aR rs hg sn dk ah;rcases f with f|f
    ·exact hf f
    ·exact bN f
   ·exists ae (rs.get hv),y',m9,r';have hy:vs.toArray[i]?=some y:=hy;rw[List.getElem?_toArray,m9]at hy;clear m9 I' hv jQ aC W j CO bN hf hu ho ez aR rs hg sn dk;cases hy;exact gf kp (tr _ _ (kR [v] (aP.vr ah r')))
  clear hf hu ho aR rs sn dk ah;rcases hg with hg|hg
  ·have hT:ao.IsTuple a vs.toArray:=⟨_,hg,rfl,m,rfl⟩;refine wpAny_pyIter_tuple (s:={ s with heap:=ao,toks:=b7 }) hT ?_;exact fin { cls:=.type "tuple_iterator",data:=.fields #[.ref a,.int 0 0] } (It:=Plain fun i v=>vs.toArray[i]?=some v) (J:=fun i h=>h.IsTupleIter ao.objs.size a i/\h.IsTuple a vs.toArray) (Mid:=fun i _ h=>h.IsTupleIter ao.objs.size a (i+1)/\h.IsTuple a vs.toArray) rfl ⟨⟨_,Heap.get?_push_size _ rfl,rfl,rfl⟩,hT.push _⟩ fun A' hA=>by
    have:=Wh.tuple (prog:=C.prog) (w:=C.w) hA t ao.objs.size a bN vs.toArray;rw[ez]at this;exact this
  ·have hL:ao.IsList a vs.toArray:=⟨_,hg,rfl,m,rfl⟩;refine wpAny_pyIter_list (s:={ s with heap:=ao,toks:=b7 }) hL ?_;exact fin { cls:=.type "list_iterator",data:=.fields #[.ref a,.int 0 0] } (It:=Plain fun i v=>vs.toArray[i]?=some v) (J:=fun i h=>h.IsListIter ao.objs.size a i/\h.IsList a vs.toArray) (Mid:=fun i _ h=>h.IsListIter ao.objs.size a (i+1)/\h.IsList a vs.toArray) rfl ⟨⟨_,Heap.get?_push_size _ rfl,rfl,rfl⟩,hL.push _⟩ fun A' hA=>by
    have:=Wh.list (prog:=C.prog) (w:=C.w) hA t ao.objs.size a bN vs.toArray;rw[ez]at this;exact this
 ·exists B8 hi,l,hl,hi
  ·clear aA hd X I R he;cases hi;have sn:=LS hl;exists jZ (qS ah aR hl),a,es,m,Sa,hg,re,nd,ns;clear nd hl;subst Sa;obtain⟨⟨o,ho⟩,hu,hf⟩:=tE ah aR sn (vs:=[v]) (.head _);have bN:a≠ao.objs.size:=fun z=>by rw[z,cA]at ho;exact nq ho
   have xK:es.length=l.length:=by clear bN hf hu ho aR ns hg sn dk ah;exists ae (EX.of re),xs,px,sg;subst sg;rw[aJ];exact px.length
   refine KO (s:={ s with heap:=ao,toks:=b7 }) (t8 ns) hg ?_;refine dr (An ah (cS ao { cls:=.type "dict_keyiterator",data:=.fields #[.ref a,.int 0 0,.int es.length 0,.int m 0] }) (cA ao) ⟨_,Heap.get?_push_size _ rfl⟩) fun aC aP jQ=>?_;refine dk _ [ao.objs.size] [a] _ _ b7 (Plain fun i v=>∃e,es[i]?=some e/\v=e.key) (fun i h=>h.IsKeyIter ao.objs.size a i es.length m/\h.get? a=some (cX es m)) (fun i _ h=>h.IsKeyIter ao.objs.size a (i+1) es.length m/\h.get? a=some (cX es m)) aP aC
    ⟨fun A' hA=>?_,fun b hb=>by rw[c7.mp hb];exact jQ,fun b hb=>?_,fun i v' y h h' φ H hv hy I' tr kp=>?_⟩ ⟨⟨_,Heap.get?_push_size _ rfl,rfl,rfl⟩,cS ao _ _ _ hg⟩ fun b hb=>by rw[c7.mp hb];exact cA _
   ·have:=Wh.keys (prog:=C.prog) (w:=C.w) hA t ao.objs.size a bN es m;rw[aJ,<- xK];exact this
   ·rw[c7.mp hb];refine⟨⟨o,cS ao _ _ _ ho⟩,fun u=>hu u,fun f=>?_⟩;clear hb jQ aP aC xK hu ho aR ns re hg sn dk ah;rcases f with f|f
    ·exact hf f
    ·exact bN f
   ·exists ae hy,en,he,rL
    try clear hy
    clear I' jQ aC xK bN hf hu ho aR ns hg sn dk;subst rL;have key:∀{l:List (List Int×V)} {es:List DictEntry},C.Es ax H₁ ao l es->∀{i:Nat} {v':V} {en:DictEntry},(l.map fun e=>ofKey e.1)[i]?=some v'->es[i]?=some en->C.R ax H₁ ao v' en.key:=by
     intro l es re;clear kp tr hv aP ah;induction l generalizing es with
     |nil=>intro i v' en hv;simp at hv
     |cons x l ih=>
      intro i v' en hv tT;obtain⟨k',w'⟩:=x;cases re with
      |cons q1 q2 q3 q4 q5=>
       induction i using bL with
       |zero=>
        simp at hv tT;subst hv tT;rw[q1];exact q3
       |succ i=>simp at hv tT;exact ih q5 (by simpa using hv) tT
    exact gf kp (tr _ _ (kR [v] (aP.vr ah (key re hv he))))
end
end
section
open PySem PySem.Calls PyProof.Rows PySem.W
section
variable {C:Cf} {φ:Ph} {H:Hp} {h h':Heap} {c:Cx} {n K:Nat}
theorem tS{lo hi x:Int}(e:inB lo hi x=true):lo<=x/\x<=hi:=by
 unfold inB at e;rw[ilt_eq,ilt_eq]at e;by_cases a:x<lo
 ·rw[decide_eq_true a]at e;exact bf e
 ·rw[decide_eq_false a]at e;by_cases b:hi<x
  ·rw[decide_eq_true b]at e;exact bf e
  ·lia
theorem RR(n:Nat):∀(a:Int) (i:Nat) {v:V},(rangeL a n)[i]?=some v->v = .int (a+i):=by
 induction n with
 |zero=>intro a i v e;exact nq e
 |succ n ih=>
  intro a i v e
  induction i using bL with
  |zero=>rw[<- aH e];simp
  |succ i=>
   rw[ih (a+1) i e];congr 1;push_cast;lia
theorem PS(n:Nat):∀(a:Int),(rangeL a n).length=n:=by
 induction n with
 |zero=>
  intro _;exact rfl
 |succ n ih=>
  intro a;simp [rangeL,ih]
theorem SV(l:List V):∀(j:Int) (i:Nat) {v:V},(enumL j l)[i]?=some v->∃x,l[i]?=some x/\v = .tup [.int (j+i),x]:=by
 induction l with
 |nil=>intro j i v e;exact nq e
 |cons x l ih=>
  intro j i v e
  induction i using bL with
  |zero=>exact⟨x,rfl,by rw[<- aH e];simp⟩
  |succ i=>
   exists ae (ih (j+1) i e),y,h1,h2;refine⟨y,h1,?_⟩;rw[h2];congr 3;push_cast;lia
theorem Oi(l:List V):∀(j:Int),(enumL j l).length=l.length:=by
 induction l with
 |nil=>
  intro _;exact rfl
 |cons x l ih=>
  intro j;simp [enumL,ih]
theorem zip_get(l:List V):∀(m:List V) (i:Nat) {v:V},(zipL l m)[i]?=some v->∃x y,l[i]?=some x/\m[i]?=some y/\v = .tup [x,y]:=by
 induction l with
 |nil=>intro m i v e;exact nq e
 |cons x l ih=>
  intro m i v e
  induction m using aM with
  |nil=>exact nq e
  |cons y m=>induction i using bL with
   |zero=>exact⟨x,y,rfl,rfl,(aH e).symm⟩
   |succ i=>exact ih m i e
theorem Sv(l:List V):∀(m:List V),(zipL l m).length=min l.length m.length:=by
 induction l with
 |nil=>intro m;exact(Nat.zero_min _).symm
 |cons x l ih=>
  intro m
  induction m using aM with
  |nil=>exact(Nat.min_zero _).symm
  |cons y m=>exact(congrArg Nat.succ (ih m)).trans (Nat.succ_min_succ ..).symm
theorem Ht(I:C.I φ H s.heap)(ha : -100000<=a/\a<=100000)(hb : -100000<=b/\b<=100000)
  (hr:IsRange s.heap r a b 1 u v w) (P:C.fS t φ H s H vs (rangeL a (b - a).toNat) Q):C.wp A (pyIter (.ref r)) Q E s:=by
 have d4:Builtin.Range.rangeSize a b 1=((b - a).toNat:Int):=by
  unfold Builtin.Range.rangeSize;simp
  lia
 have g9:∀x:Int,-300000<=x->x<=300000->Builtin.Range.rangeFitsLong x=true:=fun x h1 h2=>by
  unfold Builtin.Range.rangeFitsLong;simp;lia
 have EE:Builtin.Range.small a b 1=true:=by
  unfold Builtin.Range.small;rw[d4,g9 a (by lia) (by lia),g9 b (by lia) (by lia),g9 1 (Int.neg_ofNat_le_ofNat 300000 1) dq,g9 ((b - a).toNat:Int) (Int.neg_ofNat_le_natCast 300000 (b - a).toNat) (by lia)];simp;exact .inr (g9 b (by lia) (by lia))
 refine wpAny_pyIter_range hr EE ?_;rw[d4];refine dr (An I (cS s.heap { cls:=.type "range_iterator",data:=.fields #[rawInt a,rawInt ((b - a).toNat:Int),rawInt 1] }) (cA s.heap) ⟨_,Heap.get?_push_size _ rfl⟩) fun aC aP jQ=>?_;refine P _ [s.heap.objs.size] [] _ _ s.toks (Plain fun i v=>∃u,v = .int (a+i * 1) u) (fun i h=>IsRangeIter h s.heap.objs.size (a+(i:Nat) * 1) (((b - a).toNat:Int) - (i:Nat)) 1)
  (fun i _ h=>IsRangeIter h s.heap.objs.size (a+((i+1:Nat):Nat) * 1) (((b - a).toNat:Int) - ((i+1:Nat):Nat)) 1) aP aC
  ⟨fun A' hA=>?_,fun b hb=>by rw[c7.mp hb];exact jQ,fun b hb=>(nomatch hb),fun i v' y h h' φ H hv hy I' tr kp=>?_⟩ ?_ fun b hb=>by rw[c7.mp hb];exact cA _
 ·have:=Wh.range (prog:=C.prog) (w:=C.w) hA t s.heap.objs.size a (b - a).toNat;rw[PS];exact this
 ·exists aD hy,u,PY
  try clear hy
  clear kp tr I' jQ aP aC EE g9 d4 P hr hb ha I;subst PY;rw[RR _ _ _ hv,Int.mul_one];exact .int _ _
 ·have:=Heap.get?_push_size s.heap (o:={ cls:=.type "range_iterator",data:=.fields #[rawInt a,rawInt ((b - a).toNat:Int),rawInt 1] }) rfl;show _=some _;rw[this];simp
theorem Z0(I:C.I φ H s.heap)(r:C.R φ H s.heap v x)(hl:seqView H v=some l)
  (P:C.fS (.Tuple es k p) φ H s H [v] (enumL 0 l) Q):C.wp A (call (.type "enumerate") [x]) (fun y s'=>C.wp A (pyIter y) Q E s') E s:=by
 exists dA (q8 I r hl),a,vs,m,Y8,hg,rs;subst Y8;have el:=rs.length;have ez:vs.toArray.size=l.length:=by rw[el];simp
 clear el;obtain⟨⟨o,ho⟩,hu,hf⟩:=tE I r (Dp hl) (vs:=[v]) (.head _);have halt:a<s.heap.objs.size:=Heap.lt_size ho;have fin:∀(h':Heap) (St:Nat->Heap->Prop),IsEnum h' (s.heap.objs.size+1) s.heap.objs.size 0 .none->St 0 h'->(∀b o,s.heap.get? b=some o->h'.get? b=some o)->
   (∀A:Around,A.handled=none->Draws C.prog C.w A.in1 s.heap.objs.size [s.heap.objs.size,a] l.length (fun i v=>vs.toArray[i]?=some v) St)->C.wp A (pyIter (.ref (s.heap.objs.size+1))) Q E { s with heap:=h' }:=by
  intro h' St he h0 kp D;refine wpAny_pyIter_enum (s:={ s with heap:=h' }) he ?_;have D0:=D ⟨none,0,none,none,0⟩ rfl;have dP:s.heap.get? (s.heap.objs.size+1)=none:=by
   clear D0 D kp h0 he halt hf hu ho ez rs hg r P hl I;induction q:s.heap.get? (s.heap.objs.size+1)using aL with
   |none=>rfl
   |some o=>exact absurd (Heap.lt_size q) (Nat.not_lt.mpr (eZ _))
  clear ez hg r hl;obtain⟨aC,aP⟩:=C.s7 I kp (F:=fun b=>b=s.heap.objs.size\/b=s.heap.objs.size+1) fun b hb=>by
   clear D kp halt hf hu ho rs P I;rcases hb with rfl|rfl
   ·exact⟨cA _,D0.live _ _ h0⟩
   ·exact⟨dP,_,he⟩
  refine P (s.heap.objs.size+1) [s.heap.objs.size+1,s.heap.objs.size] [a] _ h' s.toks (Eg fun i v=>vs.toArray[i]?=some v) (fun i h=>(∃old,IsEnum h (s.heap.objs.size+1) s.heap.objs.size i old)/\St i h)
   (fun i v h=>∃T x,v = .ref T/\IsEnumOut h (s.heap.objs.size+1) s.heap.objs.size ((i:Int)+1) x T/\St (i+1) h) aP aC ⟨fun A' hA=>?_,fun b hb=>?_,fun b hb=>?_,fun i v' y h h' φ H hv hy I' tr kp=>?_⟩ ⟨⟨_,he⟩,h0⟩ fun b hb=>?_
  ·rw[Oi];exact Wh.enum (D A' hA) (s.heap.objs.size+1) (by simp) (by have:a<s.heap.objs.size+1:=Nat.lt_succ_of_lt halt;exact Nat.ne_of_gt this) es k p
  ·clear aP aC dP D0 D kp h0 he halt hf hu ho rs P I;rcases aI.mp hb with rfl|hb
   ·exact .inr (.inr rfl)
   ·rw[c7.mp hb];exact .inr (.inl rfl)
  ·rw[c7.mp hb];refine⟨⟨o,kp _ _ ho⟩,fun u=>hu u,fun f=>?_⟩;clear hb aP aC dP D0 D kp h0 he hu ho rs P I;rcases f with f|f|f
   ·exact hf f
   ·exact lg _ (f▸halt)
   ·exact lg _ (Nat.lt_trans (Nat.lt_succ_self _) (f▸halt))
  ·clear aC dP D0 D h0 he halt hf hu ho P;obtain⟨T,u,x,rfl,g1,g2,hx⟩:=hy;exists ae (SV _ _ _ hv),w,hw,BJ;subst BJ;clear hv;exists ae (rs.get hw),y',m9,r';rw[List.getElem?_toArray,m9]at hx;clear m9 hw rs;exists hx;refine .tup g2 (wq I' g1) (.cons (by rw[Int.zero_add];exact .int _ _) (.cons (gf kp (tr _ _ (kR [v] (aP.vr I r')))) .nil))
  ·clear aP aC D0 D kp h0 he halt hf hu ho rs P I;rcases aI.mp hb with rfl|hb
   ·exact dP
   ·rw[c7.mp hb];exact cA _
 have bN:a≠s.heap.objs.size:=eV halt;clear halt hf hu ho rs r P hl I;rcases hg with hg|hg
 ·exists L6 hg,h',he,hi,kp;exact fin h' (fun i h=>h.IsTupleIter s.heap.objs.size a i/\h.IsTuple a vs.toArray) he ⟨hi,⟨_,kp _ _ hg,rfl,m,rfl⟩⟩ kp fun A' hA=>by
   have:=Ms (prog:=C.prog) (w:=C.w) (A:=A'.in1) hA s.heap.objs.size a bN vs.toArray;rw[ez]at this;exact this
 ·have hL:s.heap.IsList a vs.toArray:=⟨_,hg,rfl,m,rfl⟩;exists call_enumerate_list hL,h',he,hi,Z0,kp;exact fin h' (fun i h=>h.IsListIter s.heap.objs.size a i/\h.IsList a vs.toArray) he ⟨hi,⟨_,kp _ _ hg,rfl,m,rfl⟩⟩ kp fun A' hA=>by
   have:=Draws.list (prog:=C.prog) (w:=C.w) (A:=A'.in1) hA s.heap.objs.size a bN vs.toArray;rw[ez]at this;exact this
theorem Z7(N a b:Nat)(la:a<N)(lb:b<N):ZipApart (N+4) (N+2) (N+3) N (N+1) a b:=by
 constructor <;> (show(_:Nat)≠(_:Nat)) <;> lia
theorem Zn(I:C.I φ H s.heap)(r:C.R φ H s.heap v x)(r2:C.R φ H s.heap v2 x2)(hl:listView H v=some l)(hl2:listView H v2=some l2)
  (P:C.fS (.Tuple es k p) φ H s H [v,v2] (zipL l l2) Q):C.wp A (call (.type "zip") [x,x2]) (fun y s'=>C.wp A (pyIter y) Q E s') E s:=by
 exists dA (gk I r hl),a,vs,m,TF,hg,rs;subst TF;exists dA (gk I r2 hl2),b,us,m2,OT,q7,qs;subst OT;have e1:=rs.length;have e2:=qs.length;obtain⟨⟨o,ho⟩,hu,hf⟩:=tE I r (zu hl) (vs:=[v,v2]) (.head _);clear r hl;obtain⟨⟨o2,sN⟩,vk,vB⟩:=tE I r2 (zu hl2) (vs:=[v,v2]) (.tail _ (.head _));have la:a<s.heap.objs.size:=Heap.lt_size ho;have lb:b<s.heap.objs.size:=Heap.lt_size sN;have hL:s.heap.IsList a vs.toArray:=⟨_,hg,rfl,m,rfl⟩;have Aj:s.heap.IsList b us.toArray:=⟨_,q7,rfl,m2,rfl⟩;generalize hN:s.heap.objs.size=N at la lb;have dP:∀j,s.heap.get? (N+j)=none:=fun j=>by
  clear lb la Aj hL vB vk sN hf hu ho e2 e1 qs q7 r2 rs hg P hl2 I;induction q:s.heap.get? (N+j)using aL with
  |none=>rfl
  |some o=>have:=Heap.lt_size q;rw[hN]at this;exact absurd this (by have:=Nat.le_add_right N j;exact Nat.not_lt.mpr this)
 have D:=Z7 N a b la lb;exists call_zip_2 hL Aj,h',hz,tq,gQ,h1,h2,Z0,kp;rw[hN]at hz tq gQ h1 h2 ⊢;refine wpAny_pyIter_zip (s:={ s with heap:=h' }) hz ?_;clear Aj hL r2 hl2;obtain⟨aC,aP⟩:=C.s7 I kp (F:=fun b=>b=N+4\/b=N+2\/b=N+3\/b=N\/b=N+1) fun b hb=>by
  clear kp D lb la hN vB vk sN hf hu ho e2 e1 qs q7 rs hg P I;rcases hb with rfl|rfl|rfl|rfl|rfl
  ·exact⟨dP 4,_,hz⟩
  ·exact⟨dP 2,_,tq⟩
  ·exact⟨dP 3,_,gQ⟩
  ·exact⟨dP 0,ae h1 fun o e _=>⟨o,e⟩⟩
  ·exact⟨dP 1,ae h2 fun o e _=>⟨o,e⟩⟩
 refine P (N+4) [N+4,N+2,N+3,N,N+1] [a,b] _ h' s.toks (fun i h v h'=>∃T x y,v = .ref T/\h.get? T=none/\h'.get? T=some (dc [x,y] 0)/\vs.toArray[i]?=some x/\us.toArray[i]?=some y)
  (fun i h=>ZI (N+2) (N+3) N (N+1) a b vs.toArray us.toArray (N+4) .none i h)
  (fun i v h=>∃T,v = .ref T/\ZI (N+2) (N+3) N (N+1) a b vs.toArray us.toArray (N+4) (rawInt T) (i+1) h) aP aC
  ⟨fun A' hA=>?_,fun b hb=>?_,fun b' hb=>?_,fun i v' y h h' φ H hv hy I' tr kp=>?_⟩ ⟨hz,tq,⟨_,_,gQ⟩,h1,h2,⟨_,kp _ _ hg,rfl,m,rfl⟩,⟨_,kp _ _ q7,rfl,m2,rfl⟩⟩ fun b hb=>?_
 ·have:=Wh.zip (prog:=C.prog) (w:=C.w) hA D vs.toArray us.toArray es k p;have ez:min vs.toArray.size us.toArray.size=(zipL l l2).length:=by rw[Sv,e1,e2];simp
  rw[ez]at this;exact this
 ·simp at hb;exact .inr hb
 ·have hb:b'=a\/b'=b:=by simpa using hb
  have apart:∀{x:Nat},x<N->¬ (x=N+4\/x=N+2\/x=N+3\/x=N\/x=N+1):=fun h=>by lia
  clear aP aC h2 h1 gQ tq hz D dP hN e2 e1 qs q7 rs hg P I;rcases hb with rfl|rfl
  ·exact⟨⟨o,kp _ _ ho⟩,fun u=>hu u,fun f=>f.elim hf (apart la)⟩
  ·exact⟨⟨o2,kp _ _ sN⟩,fun u=>vk u,fun f=>f.elim vB (apart lb)⟩
 ·clear aC h2 h1 gQ tq hz D dP lb la hN vB vk sN hf hu ho e2 e1 q7 hg P;obtain⟨T,x,y,rfl,g1,g2,hx,hy⟩:=hy;exists cB (zip_get _ _ _ hv),w1,w2,q1,q2,Ug;subst Ug;clear hv;exists ae (rs.get q1),y1,JL,r1;clear q1 rs;exists ae (qs.get q2),y2,E2,r2;rw[List.getElem?_toArray,JL]at hx;rw[List.getElem?_toArray,E2]at hy;clear E2 JL q2 qs;exists hx;exists hy;exact .tup g2 (wq I' g1) (.cons (gf kp (tr _ _ (kR _ (aP.vr I r1)))) (.cons (gf kp (tr _ _ (kR _ (aP.vr I r2)))) .nil))
 ·exact yY (p:=fun b=>s.heap.get? b=none) (dP 4) (dP 2) (dP 3) (dP 0) (dP 1) b hb
section
variable {A:Around} {s:Shared} {items:List V} {Q:Value->Shared->Prop} {E:Value->Shared->Prop} {t:PySem.Expr} {xs:List Value}
theorem NZ(I:C.I φ H s.heap)(rs:C.Rs φ H s.heap [v] xs)(hi:iterOf H .enum [v]=some items)(P:C.fS (.Tuple es k p) φ H s H [v] items Q) :
  C.wp A (PySem.call (.type "enumerate") xs) (fun x s'=>C.wp A (pyIter x) Q E s') E s:=by
 exists ae (fA rs),x,z,r;subst z;exists g5 (show(match seqView H v with|some l=>some (enumL 0 l)|none=>none)=some items from hi),l,hl,e
 cases aH e;exact Z0 I r hl P
theorem V4(I:C.I φ H s.heap)(rs:C.Rs φ H s.heap [v] xs)(hi:iterOf H .range1 [v]=some items)(P:C.fS t φ H s H [v] items Q) :
  C.wp A (PySem.call (.type "range") xs) (fun x s'=>C.wp A (pyIter x) Q E s') E s:=by
 exists ae (fA rs),x,z,r;subst z
 induction v using Internal.V.casesOn with
 |int b=>
  exists aD (int_at r),u,z;subst z;exists cm (show(match inB (-100000) 100000 b with|true=>some (rangeL 0 b.toNat)|false=>none)=some items from hi),hb,e
  cases aH e;refine call_range_1 ?_;refine ak (C.grow I (cS s.heap { cls:=.type "range",data:=.fields #[.int 0 s.toks,.int b u,.int 1 (s.toks+1)] })) fun aC aP=>?_;refine Ht (t:=t) (vs:=[.int b]) (s:={ s with heap:=s.heap.push { cls:=.type "range",data:=.fields #[.int 0 s.toks,.int b u,.int 1 (s.toks+1)] },toks:=s.toks+1+1 }) aC (tS rfl) (tS hb) (IsRange.new ..) ?_;rw[Int.sub_zero];exact P.step aP I aC
 |_=>exact nq hi
theorem PH(I:C.I φ H s.heap)(rs:C.Rs φ H s.heap [v,v2] xs)(hi:iterOf H .range2 [v,v2]=some items)(P:C.fS t φ H s H [v,v2] items Q) :
  C.wp A (PySem.call (.type "range") xs) (fun x s'=>C.wp A (pyIter x) Q E s') E s:=by
 exists cB (oK rs),x,x2,z,r,r2;subst z
 induction v using Internal.V.casesOn with
 |int a=>
  induction v2 using Internal.V.casesOn with
  |int b=>
   exists aD (int_at r),u,z;subst z;exists aD (int_at r2),u2,z;subst z;exists cm (show(match inB (-100000) 100000 a with|true=>(match inB (-100000) 100000 b with|true=>some (rangeL a (b - a).toNat)|false=>none)|false=>none)=some items from hi),ha,e
   exists cm e,hb,e;cases aH e;refine call_range_2 ?_;refine ak (C.grow I (cS s.heap { cls:=.type "range",data:=.fields #[.int a u,.int b u2,.int 1 s.toks] })) fun aC aP=>?_;refine Ht (t:=t) (vs:=[.int a,.int b]) (s:={ s with heap:=s.heap.push { cls:=.type "range",data:=.fields #[.int a u,.int b u2,.int 1 s.toks] },toks:=s.toks+1 }) aC (tS ha) (tS hb) (IsRange.new ..) ?_;exact P.step aP I aC
  |_=>exact nq hi
 |_=>exact nq hi
theorem RG(I:C.I φ H s.heap)(rs:C.Rs φ H s.heap [v,v2] xs)(hi:iterOf H .zip [v,v2]=some items)(P:C.fS (.Tuple es k p) φ H s H [v,v2] items Q) :
  C.wp A (PySem.call (.type "zip") xs) (fun x s'=>C.wp A (pyIter x) Q E s') E s:=by
 exists cB (oK rs),x,x2,z,r,r2;subst z;have hi:(match listView H v,listView H v2 with|some x,some y=>some (zipL x y)|_,_=>none)=some items:=hi
 induction hl1:listView H v using aL with
 |none=>rw[hl1]at hi;exact nq hi
 |some l=>induction hl2:listView H v2 using aL with
  |none=>rw[hl1,hl2]at hi;exact nq hi
  |some l2=>
   rw[hl1,hl2]at hi;cases aH hi;exact Zn I r r2 hl1 hl2 P
end
theorem RN(G:Gl C c.gl K)(hg:c.glob f=some (.it k))(h:bZ (fun e m=>notStar e=true/\C.SE n c e (dn m)) es ms)
  (hk:(k = .enum/\ms.length=1/\ik = .enum)\/(k = .range1/\ms.length=1/\ik = .range1)\/(k = .range1/\ms.length=2/\ik = .range2)\/(k = .zip/\ms.length=2/\ik = .zip))
  {t:PySem.Expr} (ht:k = .enum\/k = .zip->∃es k p,t = .Tuple es k p) {A:Around} {env:Env} {ρ:ai} {s:Shared} {vs:List V} {H₁:Hp} {items:List V} {Q:Value->Shared->Prop} {E:Value->Shared->Prop} (R:Rm A n) (I:C.I φ H s.heap) (X:ER C c ρ env φ H s.heap)
  (hd:denL dn ρ ms H=some (vs,H₁)) (hi:iterOf H₁ ik vs=some items) (P:C.fS t φ H s H₁ vs items Q):C.wp A (eval (.Call (.Name f p) es [] pos) env) (fun x s'=>C.wp A (pyIter x) Q E s') E s:=by
 exists sO G.env,mg,mb,h1,h2,h3,h4,h5,h6;exists ak (h6 f k (jW hg).2),hm,hy;have hlen:=CK hd;refine Call_Name rfl (w9 X hg (G.plain f _ (jW hg).2) (loadGlobal_builtin (mg:=mg) (mb:=mb) ?_ hm ?_ hy ?_))
 ·rw[X.glob];exact i6 h1 fun o e=>I.base _ _ e
 ·rw[X.blt];exact i6 h2 fun o e=>I.base _ _ e
 ·have tp:=(zp (pos:=pos) (env:=env) h).1;have call:∀T,tC k = .type T->(∀ax ao b7 xs,St φ H s.heap ax H₁ ao->C.I ax H₁ ao->C.Rs ax H₁ ao vs xs->C.fS t ax H₁ { s with heap:=ao,toks:=b7 } H₁ vs items Q->C.wp A (PySem.call (.type T) xs) (fun x s'=>C.wp A (pyIter x) Q E s') E { s with heap:=ao,toks:=b7 })->
    C.wp A (callWith pos (tC k) [] (backTo pos (starEach es env)) []) (fun x s'=>C.wp A (pyIter x) Q E s') E s:=by
   intro T hT hc;rw[hT];refine PyProof.Rows.callWith_type tp (si h ?_);exact oj es ms h A env ρ φ H s vs H₁ _ E R I X hd (fun xs ax ao b7 aA ah aR=>hc ax ao b7 xs aA ah aR (P.step aA I ah)) pos
  clear tp hy hm h6 h5 h4 h3 h2 h1 X I R h hg G;rcases hk with⟨ek,hl,ei⟩|⟨ek,hl,ei⟩|⟨ek,hl,ei⟩|⟨ek,hl,ei⟩
  ·refine call "enumerate" (by rw[ek];rfl) fun ax ao b7 xs aA ah rs dk=>?_;exact aD (xU (hlen.trans hl)) fun v z=>kO (ht (.inl ek)) fun MX k' p' z2=>NZ (s:={ s with heap:=ao,toks:=b7 }) ah (z▸rs) (z▸ei▸hi) (z2▸z▸dk)
  ·refine call "range" (by rw[ek];rfl) fun ax ao b7 xs aA ah rs dk=>?_;exact aD (xU (hlen.trans hl)) fun v z=>V4 (s:={ s with heap:=ao,toks:=b7 }) ah (z▸rs) (z▸ei▸hi) (z▸dk)
  ·refine call "range" (by rw[ek];rfl) fun ax ao b7 xs aA ah rs dk=>?_;exact d7 (ow (hlen.trans hl)) fun v v2 z=>PH (s:={ s with heap:=ao,toks:=b7 }) ah (z▸rs) (z▸ei▸hi) (z▸dk)
  ·refine call "zip" (by rw[ek];rfl) fun ax ao b7 xs aA ah rs dk=>?_;exact d7 (ow (hlen.trans hl)) fun v v2 z=>kO (ht (.inr ek)) fun MX k' p' z2=>RG (s:={ s with heap:=ao,toks:=b7 }) ah (z▸rs) (z▸ei▸hi) (z2▸z▸dk)
end
end
section
open PySem PySem.Calls PyProof.Rows PySem.W
theorem AK:ph l=true->l.Nodup:=by
 induction l with
 |nil=>
  intro _;exact .nil
 |cons a r ih=>
  intro h;dsimp only[ph]at h;rw[cU]at h;refine ee.mpr ⟨fun m=>?_,ih h.2⟩;have:r.any (aF a)=false:=by simpa using h.1
  rw[List.any_eq_false]at this;exact this a m (eu a)
theorem WU:oC l=true->l.Nodup:=by
 induction l with
 |nil=>
  intro _;exact .nil
 |cons a r ih=>
  intro h;dsimp only[oC]at h;rw[cU]at h;refine ee.mpr ⟨fun m=>?_,ih h.2⟩;have:r.contains a=false:=by simpa using h.1
  rw[List.contains_eq_mem]at this;simp [m]at this
theorem gZ{α:Type}:∀{l:List (Str×α)} {x:Str} {a:α},l.lookup x=some a->(x,a)∈l:=fun h=>mem_of_lookup h
theorem aaE{α:Type}{l:List (Str×α)}:∀{x:Str},x ∉ l.map (·.1)->l.lookup x=none:=by
 induction l with
 |nil=>
  intro _ _;exact rfl
 |cons e0 l ih=>
  obtain⟨k,a⟩:=e0;intro x h;rw[lz];have h1:(x == k)=false:=beq_eq_false_iff_ne.mpr fun e=>h (by simp [e]);rw[h1];exact ih fun m=>h (by simp at m ⊢;exact .inr m)
theorem m5{α:Type}{l:List (Str×α)}:∀{x:Str} {a:α},(l.map (·.1)).Nodup->(x,a)∈l->l.lookup x=some a:=by
 induction l with
 |nil=>
  intro x a N m;cases m
 |cons e0 l ih=>
  obtain⟨k,b⟩:=e0;intro x a N m;rw[aO,ee]at N;rw[lz];rcases aI.mp m with e|m
  ·clear m N;cases e;simp
  ·have h1:(x == k)=false:=beq_eq_false_iff_ne.mpr fun e=>N.1 (by rw[<- e];exact cG.mpr ⟨_,m,rfl⟩);rw[h1];exact ih N.2 m
theorem P9:cellHas vm l=true->∀z,(z,NameKind.cell)∈l->∃i,vm.lookup z=some i:=by
 induction l with
 |nil=>
  intro _ z m;cases m
 |cons e0 r ih=>
  obtain⟨y,k⟩:=e0;intro h z m;dsimp only[cellHas]at h;rcases aI.mp m with e|m2
  ·clear m;cases e;rw[cU]at h;exact Option.isSome_iff_exists.mp h.1
  ·split at h
   ·rw[cU]at h;exact ih h.2 z m2
   ·exact ih h z m2
theorem Xv:noDict l=true->∀x i,(x,i)∈l->(x == ("__classdict__" : Str))=false:=by
 induction l with
 |nil=>
  intro _ x i m;cases m
 |cons e0 r ih=>
  obtain⟨y,k⟩:=e0;intro h x i m;dsimp only[noDict]at h;rw[cU]at h;rcases aI.mp m with e|m
  ·clear m;cases e;simpa using h.1
  ·exact ih h.2 x i m
theorem val_inj{l:List (Str×Nat)}:(l.map (·.2)).Nodup->∀{x y:Str} {i:Nat},(x,i)∈l->(y,i)∈l->x=y:=by
 induction l with
 |nil=>
  intro N x y i m m';cases m
 |cons e0 l ih=>
  obtain⟨k,j⟩:=e0;intro N x y i m m';rw[aO,ee]at N;rcases aI.mp m with e|m
  ·clear m;cases e;rcases aI.mp m' with e|m'
   ·clear m' N;cases e;rfl
   ·exact absurd (cG.mpr ⟨_,m',rfl⟩) N.1
  ·rcases aI.mp m' with e|m'
   ·clear m';cases e;exact absurd (cG.mpr ⟨_,m,rfl⟩) N.1
   ·exact ih N.2 m m'
theorem zK{c:Cx}(h:cxOk c=true):JJ c/\(c.names.map (·.1)).Nodup:=by
 unfold cxOk at h;rw[cU,cU,cU]at h;exists fu h,h1,h2,h3,h4
 try clear h
 exact⟨⟨fun z hz=>P9 h4 z (gZ hz),fun x i hx=>Xv h3 x i (gZ hx),fun x y i hx hy=>val_inj (AK h1) (gZ hx) (gZ hy)⟩,WU h2⟩
noncomputable def lQ(cells:List (Str×Addr)):List (Str×NameKind)->List (Str×Addr)->List (Str×Addr)
 |[],acc=>acc
 |(name,kind)::r,acc=>lQ cells r (if kind == .free then (match cells.lookup name with|some a=>(name,a)::acc|none=>acc)else acc)
theorem Wj(f:Str×NameKind->List (Str×Addr)->Sem (ForInStep (List (Str×Addr))))
  (hf:∀name kind cs,f (name,kind) cs=if kind == .free then (do let a <- cellOf env name;pure (.yield ((name,a)::cs)))else pure (.yield cs)) :
  ∀(names:List (Str×NameKind)) (acc:List (Str×Addr)) (s:Shared) (Q:List (Str×Addr)->Shared->Prop),(∀x,(x,NameKind.free)∈names->∃a,env.cells.lookup x=some a)->Q (lQ env.cells names acc) s->wpAny M A (forIn names acc f) Q E s:=by
 intro names
 induction names with
 |nil=>intro acc s Q _ h;rw[List.forIn_nil];exact aw h
 |cons e r ih=>
  obtain⟨name,kind⟩:=e;intro acc s Q hc h;rw[List.forIn_cons,hf];dsimp only[lQ]at h;have hr:∀x,(x,NameKind.free)∈r->∃a,env.cells.lookup x=some a:=fun x m=>hc x (.tail _ m);by_cases hk:(kind == NameKind.free)=true
  ·rw[if_pos hk]at h ⊢;have:kind = .free:=by simpa using hk
   clear hk;subst this;exists aD (hc name (.head _)),a,ha;rw[ha]at h;exact a9 (a9 (wpAny_cellOf ha (aw (ih _ s Q hr h))))
  ·rw[if_neg hk]at h ⊢;exact a9 (aw (ih _ s Q hr h))
theorem DR(cells:List (Str×Addr))(names:List (Str×NameKind)):∀(acc:List (Str×Addr)) (x:Str),(x,NameKind.free) ∉ names->(lQ cells names acc).lookup x=acc.lookup x:=by
 induction names with
 |nil=>exact fun _ _ _=>rfl
 |cons e r ih=>
  obtain⟨n,k⟩:=e;intro acc x h;dsimp only[lQ];rw[ih _ x fun m=>h (.tail _ m)];split
  ·rename_i hk;have:k = .free:=by simpa using hk
   clear hk;subst this;have hx:(x == n)=false:=beq_eq_false_iff_ne.mpr fun e=>h (by rw[e];exact .head _);split
   ·rw[lz,hx]
   ·rfl
  ·rfl
theorem SG(cells:List (Str×Addr))(names:List (Str×NameKind)):∀(acc:List (Str×Addr)) (x:Str),(names.map (·.1)).Nodup->(x,NameKind.free)∈names->(∃a,cells.lookup x=some a)->(lQ cells names acc).lookup x=cells.lookup x:=by
 induction names with
 |nil=>intro _ _ _ m;exact absurd m List.not_mem_nil
 |cons e0 r ih=>
  obtain⟨n,k⟩:=e0;intro acc x N m hx;rw[aO,ee]at N;dsimp only[lQ];rcases aI.mp m with e|m
  ·clear m ih;cases e;exists aD hx,a,ha;rw[DR cells r _ n fun q=>N.1 (cG.mpr ⟨_,q,rfl⟩),ha];simp
  ·exact ih _ x N.2 m hx
theorem vW(names:List (Str×NameKind)):∀(n:Nat) (acc:List (Str×Addr)) (x:Str),(x,NameKind.cell) ∉ names->(cellsFrom n names acc).lookup x=acc.lookup x:=by
 induction names with
 |nil=>
  intro _ _ _ _;exact rfl
 |cons e0 r ih=>
  obtain⟨y,k⟩:=e0;intro n acc x h;unfold cellsFrom;split
  ·rename_i hk;have:k = .cell:=by simpa using hk
   clear hk;subst this;rw[ih _ _ x fun m=>h (.tail _ m),lz];have hx:(x == y)=false:=beq_eq_false_iff_ne.mpr fun e=>h (by rw[e];exact .head _);rw[hx]
  ·exact ih _ _ x fun m=>h (.tail _ m)
theorem vq(names:List (Str×NameKind)):∀(h:Heap) (acc:List (Str×Addr)) (x:Str),(names.map (·.1)).Nodup->(x,NameKind.cell)∈names->∃a,(cellsFrom h.objs.size names acc).lookup x=some a/\h.objs.size<=a/\(pushCells h names).IsCell a none:=by
 induction names with
 |nil=>intros;contradiction
 |cons p r ih=>
  obtain⟨y,k⟩:=p;intro h acc x N m;rw[aO,ee]at N;unfold cellsFrom pushCells;rcases aI.mp m with e|m
  ·clear m ih;cases e;rw[if_pos (by rfl),if_pos (by rfl)];rw[vW r _ _ y fun q=>N.1 (cG.mpr ⟨_,q,rfl⟩)];exact⟨h.objs.size,by simp,cx _,_,pushCells_keeps _ _ _ _ (Heap.get?_push_size _ rfl),rfl⟩
  ·split
   ·refine b6 (ih (h.push { cls:=.type "cell",data:=.cell none }) ((y,h.objs.size)::acc) x N.2 m) fun a h1 h2 h3=>?_;rw[Heap.size_push]at h1 h2;exact⟨a,h1,fh h2,h3⟩
   ·exact ih h acc x N.2 m
theorem RW(names:List (Str×NameKind)):∀(h:Heap) (acc:List (Str×Addr)) (x y:Str) (a:Addr),(names.map (·.1)).Nodup->(x,NameKind.cell)∈names->(y,NameKind.cell)∈names->(cellsFrom h.objs.size names acc).lookup x=some a->(cellsFrom h.objs.size names acc).lookup y=some a->x=y:=by
 induction names with
 |nil=>intros;contradiction
 |cons p r ih=>
  obtain⟨z,k⟩:=p;intro h acc x y a N mx my ex ey;rw[aO,ee]at N;unfold cellsFrom at ex ey;have head:∀{x y:Str},(x,NameKind.cell)=(z,k)->(y,NameKind.cell)∈r->(if (k == NameKind.cell)=true then cellsFrom (h.objs.size+1) r ((z,h.objs.size)::acc)else cellsFrom h.objs.size r acc).lookup x=some a->
    (if (k == NameKind.cell)=true then cellsFrom (h.objs.size+1) r ((z,h.objs.size)::acc)else cellsFrom h.objs.size r acc).lookup y=some a->False:=by
   intro x y e m ex ey;clear my mx ih;cases e;rw[if_pos (by rfl)]at ex ey;rw[vW r _ _ z fun q=>N.1 (cG.mpr ⟨_,q,rfl⟩)]at ex;have ex:h.objs.size=a:=by simpa using ex
   refine b6 (vq r (h.push { cls:=.type "cell",data:=.cell none }) ((z,h.objs.size)::acc) y N.2 m) fun b h1 h2 _=>?_;rw[Heap.size_push]at h1 h2;rw[h1]at ey
   (clear h1 N m;exists ey)
   rw[ex]at h2;exact lg _ h2
  rcases aI.mp mx with e|mx
  ·clear mx N ih;rcases aI.mp my with e'|my
   ·clear head ey ex my;cases e;cases e';rfl
   ·exact(head e my ex ey).elim
  ·rcases aI.mp my with e'|my
   ·exact(head e' mx ey ex).elim
   ·split at ex
    ·rename_i hk;rw[if_pos hk]at ey;have:=ih (h.push { cls:=.type "cell",data:=.cell none }) ((z,h.objs.size)::acc) x y a N.2 mx my;rw[Heap.size_push]at this;exact this ex ey
    ·rename_i hk;rw[if_neg hk]at ey;exact ih h acc x y a N.2 mx my ex ey
end
section
open PySem PySem.Calls PyProof.Rows PySem.W
set_option tactic.hygienic true in
theorem y4(h:c.inner sc=some (c',clr)):sc.kind = .function/\∃fr,freeSlots c sc.names=some fr/\cxOk (innerCx c sc.names fr)=true/\c'=innerCx c sc.names fr/\clr=(ownSlots sc.names c.nx).map (·.2):=by
 unfold cF.inner at h;split at h
 ·rename_i hk;split at h
  ·rename_i fr hf;exists cm h,ho,h
   ·injections h;exact⟨by revert hk;clear ho hf;clear h;induction sc.kind using PySem.ScopeKind.casesOn <;> first|(intro _;rfl)|(intro z;exact bf z),fr,hf,ho,rfl,rfl⟩
  ·exact nq h
 ·exact nq h
theorem Xz(names:List (Str×NameKind)):∀(n:Nat) (x:Str),((x,NameKind.local)∈names\/(x,NameKind.cell)∈names)->∃i,(ownSlots names n).lookup x=some i:=by
 induction names with
 |nil=>
  intro _ _ h;rcases h with h|h <;> cases h
 |cons e0 r ih=>
  obtain⟨y,k⟩:=e0;intro n x h;have step:∀j,((x,NameKind.local)∈r\/(x,NameKind.cell)∈r)->∃i,(((y,j)::ownSlots r (n+1)).lookup x)=some i:=fun j h'=>by
   rw[lz];split
   ·exact⟨j,rfl⟩
   ·exact ih (n+1) x h'
  have tl:(x,NameKind.local)∈(y,k)::r\/(x,NameKind.cell)∈(y,k)::r->(x=y/\(k = .local\/k = .cell))\/((x,NameKind.local)∈r\/(x,NameKind.cell)∈r):=by
   rintro (m|m)
   ·clear step h;rcases aI.mp m with e|m
    ·clear m;cases e;exact .inl ⟨rfl,.inl rfl⟩
    ·exact .inr (.inl m)
   ·clear step h;rcases aI.mp m with e|m
    ·clear m;cases e;exact .inl ⟨rfl,.inr rfl⟩
    ·exact .inr (.inr m)
  dsimp only[ownSlots];rcases tl h with⟨rfl,rfl|rfl⟩|h'
  ·exact⟨n,by simp⟩
  ·exact⟨n,by simp⟩
  ·clear tl h;induction k using PySem.NameKind.casesOn with
   |«local»=>exact step n h'
   |cell=>exact step n h'
   |_=>exact ih n x h'
theorem Ue(names:List (Str×NameKind)):∀(n:Nat) (x:Str) (i:Nat),(x,i)∈ownSlots names n->(x,NameKind.local)∈names\/(x,NameKind.cell)∈names:=by
 induction names with
 |nil=>
  intro n x i m;cases m
 |cons e0 r ih=>
  obtain⟨y,k⟩:=e0;intro n x i m;have lift:(x,NameKind.local)∈r\/(x,NameKind.cell)∈r->(x,NameKind.local)∈(y,k)::r\/(x,NameKind.cell)∈(y,k)::r:=fun h=>h.imp (.tail _) (.tail _)
  induction k using PySem.NameKind.casesOn with
  |«local»=>
   rcases aI.mp m with e|m
   ·clear m lift;cases e;exact .inl (.head _)
   ·exact lift (ih _ x i m)
  |cell=>
   rcases aI.mp m with e|m
   ·clear m lift;cases e;exact .inr (.head _)
   ·exact lift (ih _ x i m)
  |_=>exact lift (ih _ x i m)
set_option tactic.hygienic true in
theorem YG:∀{fr:List (Str×Nat)},freeSlots c names=some fr->(∀x i,(x,i)∈fr->c.freeOk x=some i)/\∀x,(x,NameKind.free)∈names->∃i,c.freeOk x=some i:=by
 induction names with
 |nil=>
  intro fr h;exists h;exact⟨fun x i m=>(nomatch m),fun x m=>(nomatch m)⟩
 |cons e0 r ih=>
  obtain⟨y,k⟩:=e0;intro fr h;have other:freeSlots c r=some fr->k ≠ .free->(∀x i,(x,i)∈fr->c.freeOk x=some i)/\∀x,(x,NameKind.free)∈(y,k)::r->∃i,c.freeOk x=some i:=fun h hk=>by
   exists ak (ih h),a,b;refine⟨a,fun x m=>?_⟩;clear a h;clear h;rcases aI.mp m with e|m
   ·clear m b;cases e;exact absurd rfl hk
   ·exact b x m
  dsimp only[freeSlots]at h;split at h
  ·split at h
   ·rename_i i hi;exists Of h,l,hl,h
    ·(clear other;exists h)
     exists ak (ih hl),a,b;refine⟨fun x j m=>?_,fun x m=>?_⟩
     ·rcases aI.mp m with e|m
      ·clear m a;cases e;exact hi
      ·exact a x j m
     ·rcases aI.mp m with e|m
      ·clear m b;cases e;exact⟨i,hi⟩
      ·exact b x m
   ·exact nq h
  ·rename_i hk;exact other h fun z=>hk z
theorem Wo{c:Cx}{x:Str}{i:Nat}(h:c.freeOk x=some i):(c.names.lookup x=some .cell\/c.names.lookup x=some .free)/\c.vm.lookup x=some i:=by
 unfold cF.freeOk at h;generalize c.names.lookup x=o at h ⊢
 induction o using aL with
 |none=>exact nq h
 |some k=>induction k using PySem.NameKind.casesOn with
  |cell=>exact⟨.inl rfl,h⟩
  |free=>exact⟨.inr rfl,h⟩
  |_=>exact nq h
noncomputable def mapN(env:Env)(names:List (Str×NameKind)):List (Str×NameKind):=names.map fun x=>match x with
 |(n,k)=>if (k == .free && env.scope.kind == .function && env.kindOf n == some .cell)=true then (n,NameKind.cell)else (n,k)
theorem Zw(env:Env)(names:List (Str×NameKind))(x:Str):(mapN env names).lookup x=(names.lookup x).map fun k=>if (k == .free && env.scope.kind == .function && env.kindOf x == some .cell)=true then NameKind.cell else k:=by
 induction names with
 |nil=>rfl
 |cons e0 r ih=>
  obtain⟨n,k⟩:=e0;have e0:mapN env ((n,k)::r)=(n,if (k == .free && env.scope.kind == .function && env.kindOf n == some .cell)=true then NameKind.cell else k)::mapN env r:=congrArg (· :: _) (apply_ite (Prod.mk n) _ _ _).symm;rw[e0,lz,lz];by_cases hx:x=n
  ·clear e0 ih;subst hx;rw[beq_self_eq_true];rfl
  ·rw[beq_eq_false_iff_ne.mpr hx];exact ih
section
variable {C:Cf} {φ:Ph} {H:Hp} {A:Around} {s:Shared} {E:Value->Shared->Prop}
theorem Oa{c c':Cx}{clr:List Nat}{sc:Scope}{env:Env}{ρ:ai}{Q:Env->Shared->Prop}(X:ER C c ρ env φ H s.heap)(I:C.I φ H s.heap)(hc:c.inner sc=some (c',clr))
  (h:∀(cenv ce:Env) h' a8,ce={ cenv with scope:={ sc with names:=mapN env sc.names } }->(∀b o,s.heap.get? b=some o->h'.get? b=some o)->h'.Ns cenv.locals (fun _=>none)->C.I a8 H h'->St φ H s.heap a8 H h'->ER C c' (slotC ρ clr) ce a8 H h'->
   (∀b,Zf c' ce b->s.heap.get? b=none)->(∀x a,ce.cells.lookup x=some a->s.heap.get? a=none\/env.cells.lookup x=some a)->Q cenv { s with heap:=h' }) :
  C.wp A (closureFor sc env) (fun cl s₁=>C.wp A (newFunctionEnv sc env.globals cl [] env.qual none .none (some env)) Q E s₁) E s:=by
 refine ak (y4 hc) fun fc q=>dw q fun fr i7 dz z1 z2=>?_;clear q;subst z1 z2;exists ak (zK dz),eP,b9;have b9:(sc.names.map (·.1)).Nodup:=b9;exists ak (YG i7),f1,f2;have outer:∀x,(x,NameKind.free)∈sc.names->∃i a ov,c.freeOk x=some i/\env.cells.lookup x=some a/\s.heap.IsCell a ov/\φ.fr a/\∀v,cI ρ i=some v->∃val,ov=some val/\C.R φ H s.heap v val:=fun x m=>by
  exists aD (f2 x m),i,hi;exists ak (Wo hi),h1,h2;exists gN (X.cell x i h1 h2),a,ov,e1,e2,e3,Z0,e5;exact⟨i,a,ov,hi,e1,e2,e3,e5⟩
 unfold closureFor;refine a9 (Wj _ (fun name kind cs=>by clear outer f2 f1 b9 eP h hc dz i7 fc I X;clear b9;cases hk:kind == NameKind.free <;> simp [hk]) _ _ _ _ (fun x m=>dA (outer x m) fun _ a _ _ e _=>⟨a,e⟩) (aw ?_));simp only[newFunctionEnv,Option.isSome_some,if_true];refine a9 (wpAny_alloc ?_);refine a9 (wpAny_layCells _ (fun name kind cells=>by clear outer f2 f1 b9 eP h hc dz i7 fc I X;clear b9;cases MB:kind == NameKind.cell <;> simp [MB]) _ _ _ _ ?_);rw[show({ s with heap:=s.heap.push { cls:=.type "dict",data:=.dict #[] } }:Shared).heap.objs.size=(s.heap.push { cls:=.type "dict",data:=.dict #[] }).objs.size from rfl];rw[List.forIn_nil];refine a9 (aw (aw ?_));generalize nT:s.heap.push { cls:=.type "dict",data:=.dict #[] }=h1;have gC:h1.objs.size=s.heap.objs.size+1:=by rw[<- nT];exact Heap.size_push ..
 have k1:∀b o,s.heap.get? b=some o->h1.get? b=some o:=by rw[<- nT];exact cS _ _
 have n1:h1.Ns s.heap.objs.size (fun _=>none):=by rw[<- nT];exact Heap.Ns.new s.heap _
 have k2:=pushCells_keeps sc.names h1;have kp:∀b o,s.heap.get? b=some o->(pushCells h1 sc.names).get? b=some o:=fun b o e=>k2 b o (k1 b o e);have n2:(pushCells h1 sc.names).Ns s.heap.objs.size (fun _=>none):=i6 n1 fun o e=>k2 _ o e;generalize fe:cellsFrom h1.objs.size sc.names (lQ env.cells sc.names [])=cs;have ft:∀x,(x,NameKind.cell)∈sc.names->∃a,cs.lookup x=some a/\h1.objs.size<=a/\(pushCells h1 sc.names).IsCell a none:=fun x m=>by
  rw[<- fe];exact vq sc.names h1 _ x b9 m
 have gm:∀x,(x,NameKind.free)∈sc.names->cs.lookup x=env.cells.lookup x:=fun x m=>by
  rw[<- fe,vW _ _ _ x fun q=>by
   have a1:=m5 b9 m;have a2:=m5 b9 q;rw[a1]at a2;clear a1 q m ft fe n2 kp k2 n1 k1 gC nT outer f2 f1 b9 eP h hc dz i7 fc I X;clear b9;cases a2]
  exists dA (outer x m),Z0,a,Z0,Z0,e,Z0;exact SG env.cells sc.names [] x b9 m ⟨a,e⟩
 have gG:∀x,(x,NameKind.cell) ∉ sc.names->(x,NameKind.free) ∉ sc.names->cs.lookup x=none:=fun x m1 m2=>by
  rw[<- fe,vW _ _ _ x m1,DR _ _ _ x m2];rfl
 have young:∀a,s.heap.objs.size<=a->s.heap.get? a=none:=fun a ha=>by
  clear gG gm ft fe n2 kp k2 n1 k1 gC nT outer f2 f1 b9 eP h hc dz i7 fc I X;clear b9;cases q:s.heap.get? a with
  |none=>rfl
  |some o=>exact absurd (Heap.lt_size q) (Nat.not_lt.mpr ha)
 clear k2 n1 k1 nT f2 hc dz i7;refine ak (C.s7 I kp (F:=fun b=>b=s.heap.objs.size\/∃z,(z,NameKind.cell)∈sc.names/\cs.lookup z=some b) fun b hb=>by
  clear gG gm fe kp outer f1 b9 eP h fc I X;clear b9;rcases hb with rfl|⟨z,hz,hl⟩
  ·exact⟨young _ (cx _),mY n2⟩
  ·exists b6 (ft z hz),a,e1,e2,e3;rw[hl]at e1;clear hl hz ft n2;cases e1;exact⟨young _ (br (by rw[gC];exact eZ _) e2),sE e3⟩) fun I' S'=>?_
 have jP:∀x i,(x,NameKind.local)∈sc.names\/(x,NameKind.cell)∈sc.names->(ownSlots sc.names c.nx++fr).lookup x=some i->i∈(ownSlots sc.names c.nx).map (·.2):=fun x i m hl=>by
  exists aD (Xz sc.names c.nx x m),j,hj;have:(ownSlots sc.names c.nx++fr).lookup x=some j:=by rw[List.lookup_append,hj];rfl
  rw[this]at hl;clear this m S' I' young gG gm ft fe n2 kp gC outer f1 b9 eP h fc I X;clear b9;cases hl;exact cG.mpr ⟨_,gZ hj,rfl⟩
 refine h _ _ _ _ rfl kp n2 I' S' ⟨fc,X.glob,X.blt,fun x k hk=>?_,⟨_,n2,fun x i v hx hi hv=>?_⟩,fun x i hx hi=>?_,.inr (.inl rfl),fun x a hx=>?_,fun x y a hx hy=>?_,eP⟩ (fun b hb=>?_) fun x a hx=>?_
 ·have hk:sc.names.lookup x=some k:=hk;have e:(mapN env sc.names).lookup x=some (if (k == .free && env.scope.kind == .function && env.kindOf x == some .cell)=true then NameKind.cell else k):=by rw[Zw,hk];rfl
  clear hk jP S' I' young gG gm ft fe n2 kp gC outer f1 b9 eP h fc I X;clear hk b9;cases k with
  |free=>
   show(mapN env sc.names).lookup x=some .free\/(mapN env sc.names).lookup x=some .cell;rw[e];split <;> simp
  |«local»=>show(mapN env sc.names).lookup x=some .local;rw[e];rfl
  |cell=>show(mapN env sc.names).lookup x=some .cell;rw[e];rfl
  |globalImplicit=>show(mapN env sc.names).lookup x=some .globalImplicit;rw[e];rfl
  |globalExplicit=>trivial
 ·exact absurd (jP x i (.inl (gZ hx)) hi) (uX ρ _ i hv).1
 ·clear I' young gG fe n2 eP h fc X;rcases hx with hx|hx
  ·have mx:=gZ hx;exists b6 (ft x mx),a,e1,e2,e3;refine⟨a,none,e1,e3,.inr (.inr ⟨x,mx,e1⟩),fun z=>?_,fun v hv=>absurd (jP x i (.inr mx) hi) (uX ρ _ i hv).1⟩;have z:a=s.heap.objs.size:=z;rw[z,gC]at e2;exact lg _ e2
  ·have mx:=gZ hx;exists jZ (outer x mx),j,a,ov,p1,p2,p3,p4,p5;exists aD (sE p3),o,ho;have fX:(ownSlots sc.names c.nx).lookup x=none:=aaE fun m=>by
    clear ho p5 p4 p3 p2 p1 hx hi jP S' gm ft kp gC outer f1 I;obtain⟨⟨x',i'⟩,m2,e2⟩:=cG.mp m;have e2:x'=x:=e2;clear m;subst e2;clear e2;rcases Ue _ _ _ _ m2 with q|q
    ·have a1:=m5 b9 mx;have a2:=m5 b9 q;rw[a1]at a2;clear a1 q mx m2 b9;clear b9;cases a2
    ·have a1:=m5 b9 mx;have a2:=m5 b9 q;rw[a1]at a2;clear a1 q mx m2 b9;clear b9;cases a2
   have hi:(ownSlots sc.names c.nx++fr).lookup x=some i:=hi;rw[List.lookup_append,fX]at hi;have hi:fr.lookup x=some i:=hi;have q1:=f1 x i (gZ hi);rw[p1]at q1;clear hi fX p1 hx jP ft gC outer f1 b9;clear hi b9;cases q1;refine⟨a,ov,by rw[gm x mx];exact p2,oL p3 fun o e=>kp _ o e,.inl p4,fun z=>?_,fun v hv=>?_⟩
   ·have z:a=s.heap.objs.size:=z;rw[z,cA]at ho;exact nq ho
   ·exists ae (p5 v (uX ρ _ _ hv).2),val,e1,r;exact⟨val,e1,S'.vr I r⟩
 ·have hx:cs.lookup x=some a:=hx;by_cases m1:(x,NameKind.cell)∈sc.names
  ·exact .inr (.inr ⟨x,m1,hx⟩)
  ·by_cases m2:(x,NameKind.free)∈sc.names
   ·exists jZ (outer x m2),Z0,b,Z0,Z0,p2,Z0,p4,Z0;rw[gm x m2,p2]at hx;clear p2 m2 m1 jP S' I' young gG gm ft fe n2 kp gC outer f1 b9 eP h fc I X;clear b9;cases hx;exact .inl p4
   ·rw[gG x m1 m2]at hx;exact nq hx
 ·have hx:cs.lookup x=some a:=hx;have hy:cs.lookup y=some a:=hy;have kind:∀x,cs.lookup x=some a->(x,NameKind.cell)∈sc.names\/(x,NameKind.free)∈sc.names:=fun x hx=>by
   by_cases m1:(x,NameKind.cell)∈sc.names
   ·exact .inl m1
   ·by_cases m2:(x,NameKind.free)∈sc.names
    ·exact .inr m2
    ·rw[gG x m1 m2]at hx;exact nq hx
  have mixed:∀x y,(x,NameKind.cell)∈sc.names->(y,NameKind.free)∈sc.names->cs.lookup x=some a->cs.lookup y=some a->False:=fun x y mx my hx hy=>by
   exists b6 (ft x mx),b,e1,e2,Z0;rw[hx]at e1;clear hx mx kind jP S' I' gG ft fe n2 kp f1 b9 eP h fc I X;clear hx b9;cases e1;exists fO (outer y my),Z0,b,Z0,Z0,p2,p3,Z0;rw[gm y my,p2]at hy;cases hy;exists aD (sE p3),o,ho;rw[young a (br (by rw[gC];exact eZ _) e2)]at ho;clear p3 e2 hy young gC;clear hy;cases ho
  clear jP S' I' young gG ft n2 kp gC outer f1 eP h fc I;rcases kind x hx with mx|mx <;> rcases kind y hy with my|my
  ·rw[<- fe]at hx hy;exact RW sc.names h1 _ x y a b9 mx my hx hy
  ·exact(mixed x y mx my hx hy).elim
  ·exact(mixed y x my mx hy hx).elim
  ·rw[gm x mx]at hx;rw[gm y my]at hy;exact X.inj x y a hx hy
 ·clear jP S' I' gG gm fe n2 kp outer f1 b9 eP h fc I X;clear b9;rcases hb with rfl|⟨z,hz,hl⟩
  ·exact young _ (cx _)
  ·exists b6 (ft z (gZ hz)),a,e1,e2,e3;have hl:cs.lookup z=some b:=hl;rw[hl]at e1;clear hl e3 hz ft;cases e1;exact young _ (br (by rw[gC];exact eZ _) e2)
 ·have hx:cs.lookup x=some a:=hx;by_cases m1:(x,NameKind.cell)∈sc.names
  ·exists b6 (ft x m1),b,e1,e2,Z0;rw[hx]at e1;clear m1 hx jP S' I' gG gm ft fe n2 kp outer f1 b9 eP h fc I X;clear hx b9;cases e1;exact .inl (young _ (br (by rw[gC];exact eZ _) e2))
  ·by_cases m2:(x,NameKind.free)∈sc.names
   ·exact .inr ((gm x m2).symm.trans hx)
   ·rw[gG x m1 m2]at hx;exact nq hx
end
end
section
open PySem PySem.Calls PyProof.Rows PySem.W
section
variable {C:Cf} {φ a8:Ph} {H H':Hp} {h h':Heap} {Z Z':Addr->Prop}
theorem SZ.mono(S:SZ Z φ H h a8 H' h')(hz:∀b,Z b->Z' b):SZ Z' φ H h a8 H' h':=⟨fun b o e u z=>S.keep b o e u fun q=>z (hz b q),S.ext,S.nxt,S.ids,S.new,S.alive,S.dE,S.gE⟩
theorem SZ.drop(S:SZ Z' φ H h a8 H' h')(hz:∀b,Z' b->Z b\/h.get? b=none):SZ Z φ H h a8 H' h':=
 ⟨fun b o e u z=>S.keep b o e u (fun q=>(hz b q).elim z fun n=>by rw[n]at e;exact nq e),S.ext,S.nxt,S.ids,S.new,S.alive,S.dE,S.gE⟩
theorem Cf.KJ(I:C.I φ H h)(S:SZ Z φ (lockH H vs) h a8 H' h')(ah:C.I a8 H' h') :
  C.I a8 ⟨H'.nxt,eD H.es H'.es vs⟩ h'/\SZ Z φ H h a8 ⟨H'.nxt,eD H.es H'.es vs⟩ h':=by
 have hi:=xJ H.es vs H'.es;have N':((eD H.es H'.es vs).map (·.id)).Nodup:=by rw[hi];exact ah.nodup
 have back:∀e'∈eD H.es H'.es vs,∃e∈H'.es,e.id=e'.id/\e.obj=e'.obj:=fun e' m'=>by
  exists ae (iD hi m'),e,m,i;exists dw (IW H.es I.nodup vs H'.es ah.nodup e m),e2,m2,h1,h2,Z0;have:e2=e':=iq N' m2 m' (h1.trans i);subst this;exact⟨e,m,i,h2.symm⟩
 refine⟨C.flags ah rfl hi back,⟨fun b o e u z=>S.keep b o e (fun q=>u ?_) z,S.ext,S.nxt,fun e m=>?_,fun e' m'=>?_,S.alive,S.dE,S.gE⟩⟩
 ·exists b6 q,e',m',l,p
  try clear q
  exists dw (AM I.nodup vs e' m'),e,m,i,Z0,hl;exact⟨e,m,hl l,i▸p⟩
 ·exists oJ (sJ vs H.es I.nodup e m),e1,m1,a1,b1,c1,d1,f1;exists dw (S.ids e1 m1),e2,m2,a2,b2,c2;exists dw (IW H.es I.nodup vs H'.es ah.nodup e2 m2),e3,m3,a3,b3,c3;refine⟨e3,m3,a3.trans (a2.trans a1),c3 e m (a1.symm.trans a2.symm) ?_,fun z=>b3.trans ((c2 (c1 z)).trans b1)⟩;by_cases q:(.ref e2.id:V)∈vs
  ·exact .inl q
  ·refine .inr (b2.trans (f1 ?_));rw[<- a1,<- a2];exact q
 ·exists ae (iD hi m'),e,m,i;rcases S.new e m with⟨x,mx,q⟩|q
  ·exists ae (iD (ki vs H.es) mx),y,my,j;exact .inl ⟨y,my,j.trans (q.trans i)⟩
  ·exact .inr fun a ha=>q a (by rw[i];exact ha)
theorem wu(vs:List V)(X:ER C c ρ env φ H h):ER C c ρ env φ (lockH H vs) h:=by
 refine⟨X.kind,X.glob,X.blt,X.kinds,?_,fun x i hx hi=>?_,X.iu,X.jS,X.inj,X.ok⟩
 ·exists ae X.loc,m,hn,hm;exact⟨m,hn,fun x i v h1 h2 h3=>ae (hm x i v h1 h2 h3) fun val e r=>⟨val,e,kR vs r⟩⟩
 ·exists gN (X.cell x i hx hi),a,ov,e1,e2,e3,e4,e5;exact⟨a,ov,e1,e2,e3,e4,fun v hv=>ae (e5 v hv) fun val e r=>⟨val,e,kR vs r⟩⟩
theorem ER.same{c:Cx}{ρ:ai}{env:Env}{K:Hp}(X:ER C c ρ env φ H h)(hm:∀b,aU φ K b->aU φ H b):ER C c ρ env φ K h:=by
 have tr:∀{v x},C.R φ H h v x->C.R φ K h v x:=fun r=>r.mono (fun _ _ e=>e) (fun _ _ e _=>e) fun b _ q _=>hm b q;refine⟨X.kind,X.glob,X.blt,X.kinds,?_,fun x i hx hi=>?_,X.iu,X.jS,X.inj,X.ok⟩
 ·exists ae X.loc,m,hn,hm;exact⟨m,hn,fun x i v h1 h2 h3=>ae (hm x i v h1 h2 h3) fun val e r=>⟨val,e,tr r⟩⟩
 ·exists gN (X.cell x i hx hi),a,ov,e1,e2,e3,e4,e5;exact⟨a,ov,e1,e2,e3,e4,fun v hv=>ae (e5 v hv) fun val e r=>⟨val,e,tr r⟩⟩
noncomputable def Apart(env:Env)(wr:List Addr):Prop:=∀b∈wr,b≠env.locals/\∀x,env.cells.lookup x≠some b
theorem ER.frames(X:ER C c ρ env φ H h)(ap:Apart env wr)(hf:∀b∈wr,φ.fr b)(k:∀b o,b ∉ wr->h.get? b=some o->h'.get? b=some o):ER C c ρ env φ H h':=by
 have kf:∀b o,h.get? b=some o->¬ φ.fr b->h'.get? b=some o:=fun b o e f=>k b o (fun m=>f (hf b m)) e;refine⟨X.kind,X.glob,X.blt,X.kinds,?_,fun x i hx hi=>?_,X.iu,X.jS,X.inj,X.ok⟩
 ·exists ae X.loc,m,hn,hm;exact⟨m,i6 hn fun o e=>k _ o (fun q=>(ap _ q).1 rfl) e,fun x i v h1 h2 h3=>ae (hm x i v h1 h2 h3) fun val e r=>⟨val,e,gf kf r⟩⟩
 ·exists gN (X.cell x i hx hi),a,ov,e1,e2,e3,e4,e5;exact⟨a,ov,e1,oL e2 fun o e=>k _ o (fun q=>(ap _ q).2 x e1) e,e3,e4,fun v hv=>ae (e5 v hv) fun val e r=>⟨val,e,gf kf r⟩⟩
theorem KH(ap:Apart env wr):∀b∈wr,¬ Zf c env b:=fun b m z=>by
 rcases z with rfl|⟨x,_,hx⟩
 ·exact(ap _ m).1 rfl
 ·exact(ap _ m).2 x hx
theorem qq(X:ER C c ρ env φ H h)(I:C.I φ H h)(hw:∀b∈wr,h.get? b=none):Apart env wr:=fun b m=>by
 refine⟨fun z=>?_,fun x hx=>?_⟩
 ·exists ae X.loc,Z0,hn,Z0;exists aD (mY hn),o,ho;rw[<- z,hw b m]at ho;exact nq ho
 ·obtain⟨_,_,o,ho⟩:=I.cC b (X.jS x b hx);rw[hw b m]at ho;exact nq ho
section
variable {t:PySem.Expr} {J0:Addr} {wr dZ:List Addr} {ax:Ph} {H₁:Hp} {ao:Heap} {items:List V} {It:Nat->Heap->Value->Heap->Prop} {J:Nat->Heap->Prop} {Mid:Nat->Value->Heap->Prop}
theorem Wk.body(W:Wk C t J0 wr dZ ax H₁ ao items It J Mid)(ah:C.I ax H₁ ao)(gJ:ER C c ρ' env ax H₁ ao)(ap:Apart env wr)(S:SZ (fun b=>Zf c env b\/b∈wr) ax H₁ ao φ H h)(I:C.I φ H h)(T:SZ (Zf c env) φ H h a8 H' h')(j:J i h):J i h':=by
 exists(W.w ⟨none,0,none,none,0⟩ rfl).frame i h h' j,b,o,hb,e;rcases hb with hb|hb
 ·refine T.keep b o e (fun u=>?_) (KH ap b hb);exists b6 u,en,m,Z0,q
  try clear u
  exact(I.cC b (S.dE b (W.fr b hb))).2.1 en m q
 ·obtain⟨⟨o1,h1⟩,h2,h3⟩:=W.dep b hb;exact T.keep b o e (fun u=>h2 (S.kP ah I.nodup b o1 u h1)) fun z=>h3 (gJ.zf b z)
theorem Wk.tr(W:Wk C t J0 wr dZ ax H₁ ao items It J Mid)(ah:C.I ax H₁ ao)(gJ:ER C c ρ' env ax H₁ ao)(S:SZ (fun b=>Zf c env b\/b∈wr) ax H₁ ao φ H h):∀v x,C.R ax H₁ ao v x->C.R φ H h v x:=
 fun _ _ r=>S.vr ah (fun b z=>z.elim (gJ.zf b) (W.fr b)) r
end
end
end
section
set_option backward.match.sparseCases true
open PySem PySem.Calls PyProof.Rows PySem.W
noncomputable def ifsW(ifs:List PySem.Expr)(env:Env):Sem Bool:=forIn ifs true fun c ok=>if ok=true then do
  let b <- PySem.isTrue c env (eval c env)
  pure (ForInStep.yield b)
 else pure (ForInStep.yield ok)
noncomputable def pH(elt:PySem.Expr)(acc:Value)(env:Env):Sem Unit:=do
 let x <- eval elt env
 let _ <- call (.builtin "list.append") [acc,x]
 pure ()
noncomputable def pM(k v:PySem.Expr)(acc:Value)(env:Env):Sem Unit:=do
 let kv <- eval k env
 let vv <- holding [kv] (eval v env)
 match acc with
 |.ref d=>do
  standAt { k.pos with endLine:=v.pos.endLine,endCol:=v.pos.endCol }
  holding [kv,vv] (dictSet d kv vv)
 |_=>unsupported "internal:dictcomp"
noncomputable def lF(M:Model)(A:Around)(e:PySem.Expr)(gens:List PySem.Comprehension)(acc:Value)(env:Env)(emit:Sem Unit)(d:Nat)(K:Shared->Prop)(E:Value->Shared->Prop)(s:Shared):Prop:=match gens[d+1]? with
 |some g'=>g'.is_async=0/\wpAny M A (eval g'.iter env) (fun x s₁=>wpAny M A (foldedSetIterable g'.iter env x) (fun x s₂=>wpAny M A (pyIter x) (fun it s₃=>wpAny M A (runOwn (.compStart e (d+1) it acc env) env) (fun _ s₄=>K s₄) E s₃) E s₂) E s₁) E s
 |none=>wpAny M A emit (fun _ s₁=>K s₁) E s
noncomputable def zX(M:Model)(e:PySem.Expr)(gens:List PySem.Comprehension)(acc:Value)(env:Env)(emit:Sem Unit):Prop:=∀(A:Around) (d:Nat) (it:Value) (g:PySem.Comprehension) (R:Fin->Shared->Prop) (E:Value->Shared->Prop) (s:Shared),gens[d]?=some g->g.is_async=0->
 wpAny M A (pyNext it) (fun r s₁=>match r with
  |none=>R (.done .next) s₁
  |some v=>wpAny M A (letOwnedTupleGo g.target it v) (fun _ s₂=>wpAny M A (assign g.target env v) (fun _ s₃=>wpAny M A (ifsW g.ifs env) (fun ok s₄=>match ok with
   |true=>lF M A e gens acc env emit d (R (.again (.compLoop e d it acc env))) E s₄
   |false=>R (.again (.compLoop e d it acc env)) s₄) E s₃) E s₂) E s₁) E s->wpAny M A (compTurn e d it acc env) R E s
theorem Xi(M:Model)(elt:PySem.Expr)(gens:List PySem.Comprehension)(sc:Scope)(p:Pos)(acc:Value)(env:Env):zX M (.ListComp elt gens sc p) gens acc env (pH elt acc env):=by
 intro A d it g R E s hg ha h;unfold compTurn;dsimp only;rw[hg];dsimp only;rw[ha];refine a9 (g8 ?_);show wpAny M A (pyNext it >>= _) R E s;refine a9 (cu h (fun r s₁ ao=>?_) fun _ _ x=>x)
 induction r using aL with
 |none=>exact aw ao
 |some v=>
  refine a9 (cu ao (fun _ s₂ aV=>?_) fun _ _ x=>x);refine a9 (cu aV (fun _ s₃ cR=>?_) fun _ _ x=>x);refine a9 (m:=ifsW g.ifs env) (cu cR (fun ok s₄ h₄=>?_) fun _ _ x=>x)
  induction ok using aB with
  |false=>exact aw h₄
  |true=>
   have h₄:lF M A (.ListComp elt gens sc p) gens acc env (pH elt acc env) d (R (.again (.compLoop (.ListComp elt gens sc p) d it acc env))) E s₄:=h₄;refine g6 rfl ?_;unfold lF at h₄;split at h₄
   ·rename_i g' rn;exists ak h₄,fH,h₄;rw[rn];dsimp only;rw[fH];refine a9 (cu h₄ (fun x pJ jg=>?_) fun _ _ x=>x);refine a9 (g8 ?_);refine eG dq ?_;refine a9 (cu jg (fun x Vq A5=>?_) fun _ _ x=>x);refine a9 (dH ?_);refine eG dq ?_;refine cu A5 (fun jR aaB Ay=>?_) fun _ _ x=>x;exact a9 (cu Ay (fun _ Mf yT=>aw yT) fun _ _ x=>x)
   ·rename_i hn;rw[hn];exact a9 (m:=pH elt acc env) (cu h₄ (fun _ pJ jg=>aw jg) fun _ _ x=>x)
theorem Xd(M:Model)(k v:PySem.Expr)(gens:List PySem.Comprehension)(sc:Scope)(p:Pos)(acc:Value)(env:Env):zX M (.DictComp k v gens sc p) gens acc env (pM k v acc env):=by
 intro A d it g R E s hg ha h;unfold compTurn;dsimp only;rw[hg];dsimp only;rw[ha];refine a9 (g8 ?_);show wpAny M A (pyNext it >>= _) R E s;refine a9 (cu h (fun r s₁ ao=>?_) fun _ _ x=>x)
 induction r using aL with
 |none=>exact aw ao
 |some x₀=>
  refine a9 (cu ao (fun _ s₂ aV=>?_) fun _ _ x=>x);refine a9 (cu aV (fun _ s₃ cR=>?_) fun _ _ x=>x);refine a9 (m:=ifsW g.ifs env) (cu cR (fun ok s₄ h₄=>?_) fun _ _ x=>x)
  induction ok using aB with
  |false=>exact aw h₄
  |true=>
   have h₄:lF M A (.DictComp k v gens sc p) gens acc env (pM k v acc env) d (R (.again (.compLoop (.DictComp k v gens sc p) d it acc env))) E s₄:=h₄;refine g6 rfl ?_;unfold lF at h₄;split at h₄
   ·rename_i g' rn;exists ak h₄,fH,h₄;rw[rn];dsimp only;rw[fH];refine a9 (cu h₄ (fun x pJ jg=>?_) fun _ _ x=>x);refine a9 (g8 ?_);refine eG dq ?_;refine a9 (cu jg (fun x Vq A5=>?_) fun _ _ x=>x);refine a9 (dH ?_);refine eG dq ?_;refine cu A5 (fun jR aaB Ay=>?_) fun _ _ x=>x;exact a9 (cu Ay (fun _ Mf yT=>aw yT) fun _ _ x=>x)
   ·rename_i hn;rw[hn];exact a9 (m:=pM k v acc env) (cu h₄ (fun _ pJ jg=>aw jg) fun _ _ x=>x)
theorem VO(elt:PySem.Expr)(gens:List PySem.Comprehension)(sc:Scope)(p:Pos)(d:Nat)(it acc:Value)(env:Env)(hM:∀c,M.den c=denote table c)(hg:gens[d]?=some g)(ha:g.is_async=0)
  (h0:codeAny M A (.compLoop (.ListComp elt gens sc p) d it acc env) R s) (h:wpAny M A (pyIter it) (fun jR s'=>codeAny M A (.compLoop (.ListComp elt gens sc p) d jR acc env) R s') (notedBy M A env fun x s'=>R (.error x) s') s) :
  codeAny M A (.compStart (.ListComp elt gens sc p) d it acc env) R s:=by
 refine codeAny_of_tree ?_;rw[hM];show wpAny _ _ ((compStart (.ListComp elt gens sc p) d it acc env).onRaise (fun x=>do noteFrame x env;standAt theWindowsPlace)) _ _ s;refine wpAny_notedAt ?_;unfold compStart;have je:(((clausesOf (.ListComp elt gens sc p))[d]?).elim false fun x=>x.is_async != 0)=false:=by
  show((gens[d]?).elim false fun x=>x.is_async != 0)=false;rw[hg];show(g.is_async != 0)=false;rw[ha];rfl
 refine eG (by rw[je];simp) ?_;show wpAny _ _ (ask >>= _) _ _ s;refine a9 (wpAny_askSetting (wpAny_ite ?_));split
 ·first
   |exact a9 (aw (aw (And.intro rfl h0)))
   |exact aw (And.intro rfl h0)
 ·refine a9 (wpAny_rule ?_);have d9:(clausesOf (.ListComp elt gens sc p))[d]?=some g:=hg;rw[d9];exact a9 (g8 (a9 (cu h (fun jR s' h'=>aw (And.intro rfl h')) fun _ _ x=>x)))
theorem SD(elt:PySem.Expr)(gens:List PySem.Comprehension)(sc:Scope)(p:Pos)(d:Nat)(it acc:Value)(env:Env)(hM:∀c,M.den c=denote table c)(I:Nat->Shared->Prop)
  (turn:∀n s,I n s->wpAny M A (compTurn (.ListComp elt gens sc p) d it acc env) (fun fin s'=>match fin with|.done f=>R (.ok f) s'|.again c'=>c' = .compLoop (.ListComp elt gens sc p) d it acc env/\∃m,m<n/\I m s') (fun _ _=>False) s) (n:Nat) (h:I n s) :
  codeAny M A (.compLoop (.ListComp elt gens sc p) d it acc env) R s:=by
 refine codeAny_loop rfl I (fun n s hI=>?_) n h;rw[hM];show wpAny _ _ ((compTurn (.ListComp elt gens sc p) d it acc env).onRaise (fun x=>do noteFrame x env;theTreesLotGoes x)) _ _ s;refine wpAny_noted ?_;exact cu (turn n s hI) (fun fin s' hf=>hf) fun _ _ x=>x.elim
theorem Zq(k v:PySem.Expr)(gens:List PySem.Comprehension)(sc:Scope)(p:Pos)(d:Nat)(it acc:Value)(env:Env)(hM:∀c,M.den c=denote table c)(hg:gens[d]?=some g)(ha:g.is_async=0)
  (h0:codeAny M A (.compLoop (.DictComp k v gens sc p) d it acc env) R s) (h:wpAny M A (pyIter it) (fun jR s'=>codeAny M A (.compLoop (.DictComp k v gens sc p) d jR acc env) R s') (notedBy M A env fun x s'=>R (.error x) s') s) :
  codeAny M A (.compStart (.DictComp k v gens sc p) d it acc env) R s:=by
 refine codeAny_of_tree ?_;rw[hM];show wpAny _ _ ((compStart (.DictComp k v gens sc p) d it acc env).onRaise (fun x=>do noteFrame x env;standAt theWindowsPlace)) _ _ s;refine wpAny_notedAt ?_;unfold compStart;have je:(((clausesOf (.DictComp k v gens sc p))[d]?).elim false fun x=>x.is_async != 0)=false:=by
  show((gens[d]?).elim false fun x=>x.is_async != 0)=false;rw[hg];show(g.is_async != 0)=false;rw[ha];rfl
 refine eG (by rw[je];simp) ?_;show wpAny _ _ (ask >>= _) _ _ s;refine a9 (wpAny_askSetting (wpAny_ite ?_));split
 ·first
   |exact a9 (aw (aw (And.intro rfl h0)))
   |exact aw (And.intro rfl h0)
 ·refine a9 (wpAny_rule ?_);have d9:(clausesOf (.DictComp k v gens sc p))[d]?=some g:=hg;rw[d9];exact a9 (g8 (a9 (cu h (fun jR s' h'=>aw (And.intro rfl h')) fun _ _ x=>x)))
theorem MP(k v:PySem.Expr)(gens:List PySem.Comprehension)(sc:Scope)(p:Pos)(d:Nat)(it acc:Value)(env:Env)(hM:∀c,M.den c=denote table c)(I:Nat->Shared->Prop)
  (turn:∀n s,I n s->wpAny M A (compTurn (.DictComp k v gens sc p) d it acc env) (fun fin s'=>match fin with|.done f=>R (.ok f) s'|.again c'=>c' = .compLoop (.DictComp k v gens sc p) d it acc env/\∃m,m<n/\I m s') (fun _ _=>False) s) (n:Nat) (h:I n s) :
  codeAny M A (.compLoop (.DictComp k v gens sc p) d it acc env) R s:=by
 refine codeAny_loop rfl I (fun n s hI=>?_) n h;rw[hM];show wpAny _ _ ((compTurn (.DictComp k v gens sc p) d it acc env).onRaise (fun x=>do noteFrame x env;theTreesLotGoes x)) _ _ s;refine wpAny_noted ?_;exact cu (turn n s hI) (fun fin s' hf=>hf) fun _ _ x=>x.elim
end
section
open PySem PySem.Calls PyProof.Rows PySem.W
section
variable {C:Cf} {φ a8 ax:Ph} {H H' H₁:Hp} {h h' h'' ao:Heap} {c:Cx} {env:Env} {ρ:ai}
noncomputable def Ph.less(φ:Ph)(wr:List Addr):Ph:=⟨φ.f,fun a=>φ.fr a/\a ∉ wr⟩
theorem less_mut(b:Addr)(q:aU (φ.less wr) H b):aU φ H b:=q.imp id And.left
theorem less_keep{wr:List Addr}(hf:∀b∈wr,φ.fr b)(k:∀b o,b ∉ wr->h.get? b=some o->h'.get? b=some o):∀b o,h.get? b=some o->¬ aU φ H b->h'.get? b=some o:=
 fun b o e m=>k b o (fun w=>m (.inr (hf b w))) e
theorem IJ{wr:List Addr}(hf:∀b∈wr,φ.fr b)(k:∀b o,b ∉ wr->h.get? b=some o->h'.get? b=some o){v:V}{x:Value}(r:C.R φ H h v x):C.R (φ.less wr) H h' v x:=
 r.mono (fun _ _ e=>e) (less_keep hf k) fun b _ q _=>less_mut b q
theorem Cf.Vo{wr:List Addr}(I:C.I φ H h)(hf:∀b∈wr,φ.fr b)(k:∀b o,b ∉ wr->h.get? b=some o->h'.get? b=some o):C.I (φ.less wr) H h':=by
 refine⟨fun b o e=>k _ _ (fun w=>?_) (I.base b o e),fun e m=>?_,I.nodup,I.inj,I.lt,I.fresh,fun a f=>?_,I.sys⟩
 ·rw[(I.cC b (hf b w)).1]at e;exact nq e
 ·exists b6 (I.objs e m),a,e1,e2,e3;have na:a ∉ wr:=fun w=>(I.cC a (hf a w)).2.1 e m e1;refine⟨a,e1,e2,?_⟩;revert e3
  induction e.obj using Internal.bq.casesOn with
  |list l=>rintro ⟨vs,n,g,r⟩;exact⟨vs,n,k _ _ na g,r.mono (fun _ _ e=>e) (less_keep hf k) fun b _ q _=>less_mut b q⟩
  |dict l=>rintro ⟨vs,n,g,r,d⟩;exact⟨vs,n,k _ _ na g,r.mono (fun _ _ e=>e) (less_keep hf k) (fun b _ q _=>less_mut b q),d⟩
 ·obtain⟨p,q,o,g⟩:=I.cC a f.1;exact⟨p,q,o,k _ _ f.2 g⟩
theorem ER.less(X:ER C c ρ env φ H h)(ap:Apart env wr)(hf:∀b∈wr,φ.fr b)(k:∀b o,b ∉ wr->h.get? b=some o->h'.get? b=some o):ER C c ρ env (φ.less wr) H h':=by
 refine⟨X.kind,X.glob,X.blt,X.kinds,?_,fun x i hx hi=>?_,⟨X.iu,fun w=>(ap _ w).1 rfl⟩,fun x a e=>⟨X.jS x a e,fun w=>(ap _ w).2 x e⟩,X.inj,X.ok⟩
 ·exists ae X.loc,m,hn,hm;exact⟨m,i6 hn fun o e=>k _ o (fun w=>(ap _ w).1 rfl) e,fun x i v h1 h2 h3=>ae (hm x i v h1 h2 h3) fun val e r=>⟨val,e,IJ hf k r⟩⟩
 ·exists gN (X.cell x i hx hi),a,ov,e1,e2,e3,e4,e5;have na:a ∉ wr:=fun w=>(ap _ w).2 x e1;exact⟨a,ov,e1,oL e2 fun o e=>k _ o na e,⟨e3,na⟩,e4,fun v hv=>ae (e5 v hv) fun val e r=>⟨val,e,IJ hf k r⟩⟩
theorem Cf.finish(I:C.I φ H h)(S:St φ H h ax H₁ ao)(ah:C.I ax H₁ ao)(fw:∀b∈wr,h.get? b=none)(hf:∀b∈wr,ax.fr b)
  (S':SZ (fun b=>Z b\/b∈wr) ax (lockH H₁ vs) ao a8 H' h') (I':C.I a8 H' h') (k:∀b o,b ∉ wr->h'.get? b=some o->h''.get? b=some o) :
  C.I (a8.less wr) ⟨H'.nxt,eD H₁.es H'.es vs⟩ h''/\SZ Z φ H h (a8.less wr) ⟨H'.nxt,eD H₁.es H'.es vs⟩ h''/\
   ∀c ρ env,Apart env wr->ER C c ρ env a8 H' h'->ER C c ρ env (a8.less wr) ⟨H'.nxt,eD H₁.es H'.es vs⟩ h'':=by
 exists ak (C.KJ ah S' I'),aC,aP;have IQ:∀b∈wr,a8.fr b:=fun b m=>S'.dE b (hf b m);have T:SZ (fun b=>Z b\/b∈wr) φ H h a8 ⟨H'.nxt,eD H₁.es H'.es vs⟩ h':=S.eW.trans aP I ah;have nw:∀b o,h.get? b=some o->b ∉ wr:=fun b o e w=>by rw[fw b w]at e;exact nq e
 have nf:∀a,φ.fr a->a ∉ wr:=fun a f=>let ⟨_,_,o,g⟩:=I.cC a f;nw a o g
 refine⟨C.Vo aC IQ k,⟨fun b o e u z=>k b o (nw b o e) (T.keep b o e u fun q=>q.elim z (nw b o e)),T.ext,T.nxt,T.ids,T.new,fun b o e=>?_,fun a f=>⟨T.dE a f,nf a f⟩,fun a f=>T.gE a f.1⟩,fun c ρ env ap X=>?_⟩
 ·exists aD (T.alive b o e),o',g;exact⟨o',k b o' (nw b o e) g⟩
 ·refine(X.same fun b q=>?_).less ap IQ k;refine q.imp (fun q=>?_) id;exists ae q,e,m,p
  try clear q
  exists ae (iD (xJ H₁.es vs H'.es) m),e',m',i;exact⟨e',m',by rw[i];exact p⟩
section
variable {t:PySem.Expr} {I0:Addr} {wr dZ:List Addr} {items:List V} {It:Nat->Heap->Value->Heap->Prop} {J:Nat->Heap->Prop} {Mid:Nat->Value->Heap->Prop} {n:Nat} {A:Around} {s:Shared} {E:Value->Shared->Prop}
theorem Wk.turn{ρ₁ ρ':ai}{tg:List Nat}{many:Bool}{v:V}{i:Nat}{K:Shared->Prop}{Q:Unit->Shared->Prop}(W:Wk C t I0 wr dZ ax H₁ ao items It J Mid)(ah:C.I ax H₁ ao)(gJ:ER C c ρ₁ env ax H₁ ao)(ap:Apart env wr)(R:Rm A n)
  (S:SZ (fun b=>Zf c env b\/b∈wr) ax H₁ ao φ H s.heap) (I:C.I φ H s.heap) (X:ER C c ρ env φ H s.heap) (j:J i s.heap) (hv:items[i]?=some v) (ht:compT c t=some (tg,many)) (hb:eB ρ tg many v=some ρ')
  (P:∀a8 h' tk,SZ (fun b=>Zf c env b\/b∈wr) ax H₁ ao a8 H h'->C.I a8 H h'->ER C c ρ' env a8 H h'->J (i+1) h'->Q () { s with heap:=h',toks:=tk }) :
  C.wp A (pyNext (.ref I0)) (fun r s₁=>match r with
   |none=>K s₁
   |some y=>C.wp A (letOwnedTupleGo t (.ref I0) y) (fun _ s₂=>C.wp A (assign t env y) Q E s₂) E s₁) E s:=by
 have hf:∀b∈wr,φ.fr b:=fun b hb=>S.dE b (W.fr b hb);have W':=W.w A R.handled;have step:∀{h h':Heap},C.I φ H h->ER C c ρ env φ H h->(∀b o,b ∉ wr->h.get? b=some o->h'.get? b=some o)->(∀b∈wr,∃o,h'.get? b=some o)->
   C.I φ H h'/\ER C c ρ env φ H h'/\SZ (fun b=>Zf c env b\/b∈wr) φ H h φ H h'/\∀b o,h.get? b=some o->¬ φ.fr b->h'.get? b=some o:=fun{h h'} I X k al=>by
  have kf:∀b o,h.get? b=some o->¬ φ.fr b->h'.get? b=some o:=fun b o e f=>k b o (fun m=>f (hf b m)) e;have gY:∀b o,h.get? b=some o->∃o',h'.get? b=some o':=fun b o e=>by
   by_cases m:b∈wr
   ·exact al b m
   ·exact⟨o,k b o m e⟩
  exact⟨C.qo I kf fun a f=>let ⟨_,_,o,g⟩:=I.cC a f;gY a o g,X.frames ap hf k,SZ.frames (fun b o e z=>k b o (fun m=>z (.inr m)) e) gY,kf⟩
 exists W'.item i s _ E (fo.mp hv).1 j,y,h2,tk,LY,YR,k,al;exists fu (step I X k al),I2,X2,S2,Lk;have r:=W.rel i v y s.heap h2 φ H hv LY I (W.tr ah gJ S) Lk;have T2:=S.trans S2 ah I;dsimp only;exists W'.go i y { s with heap:=h2,toks:=tk } _ E YR,h3,j3,k3,Yc;exists fu (step I2 X2 k3 Yc),I3,X3,S3,OF;have T3:=T2.trans S3 ah I2;exists HA (s:={ s with heap:=h3,toks:=tk }) R X3 I3 ht hb (gf OF r),qQ,h4,t4,S4,I4,X4;exact P qQ h4 t4 (T3.trans (S4.mono fun b z=>.inl z) ah I3) I4 X4 (W.body ah gJ ap T3 I3 S4 j3)
end
end
end
section
open PySem PySem.Calls PyProof.Rows PySem.W
section
variable {C:Cf} {φ a8 ax:Ph} {H H' H₁:Hp} {h h' h'' ao:Heap} {c:Cx} {env:Env} {ρ:ai} {n:Nat} {A:Around} {s:Shared} {E:Value->Shared->Prop}
theorem RU(ifs:List PySem.Expr)(h:Q false s):wpAny M A (forIn ifs false fun c ok=>if ok=true then do
  let b <- PySem.isTrue c env (eval c env)
  pure (ForInStep.yield b)
 else pure (ForInStep.yield ok)) Q E s:=by
 induction ifs with
 |nil=>rw[List.forIn_nil];exact aw h
 |cons e es ih=>
  rw[List.forIn_cons];rw[if_neg dq];exact a9 (aw ih)
theorem RZ(es:List PySem.Expr)(ms:List ME)(h:bZ (fun e m=>C.SB n c e (dn m)) es ms):∀(φ:Ph) (H:Hp) (s:Shared) (b:Bool) (H':Hp) (Q:Bool->Shared->Prop),Rm A n->C.I φ H s.heap->ER C c ρ env φ H s.heap->denIfs dn ρ ms H=some (b,H')->
  C.Po φ H s H' (fun _ _ x=>x=b) Q->C.wp A (ifsW es env) Q E s:=by
 induction h with
 |nil=>
  intro φ H s b H' Q R I X e P
  (clear X R;injections e)
  unfold ifsW;rw[List.forIn_nil];exact aw (P.dS I rfl)
 |@cons e m es ms h1 h2 ih=>
   intro φ H s b H' Q R I X e' P;have e':cL (dn m ρ H) (fun b H=>match b with
    |true=>denIfs dn ρ ms H
    |false=>some (false,H))=some (b,H'):=e'
   exists aT (nF e'),b1,H₁,e1,e2;unfold ifsW;rw[List.forIn_cons];rw[if_pos rfl];refine a9 (a9 (h1 A env ρ φ H s b1 H₁ _ E R I X e1 fun x ax ao b7 aA ah aR=>?_));clear e1 e' h1;clear e' h2;subst aR;refine aw ?_;dsimp only
   induction x using aB with
   |true=>exact ih ax H₁ _ b H' Q R ah (X.step aA I) e2 (P.step aA I ah)
   |false=>
    injections e2;exact RU es ((P.step aA I ah).dS ah rfl)
structure lN (M:Model) (e:PySem.Expr) (gens:List PySem.Comprehension) (eS:Value->Env->Sem Unit):Prop where
 turn:∀acc env,zX M e gens acc env (eS acc env)
 start:∀{A:Around} {R:Result->Shared->Prop} {s:Shared} (d:Nat) (it acc:Value) (env:Env) {g:PySem.Comprehension},gens[d]?=some g->g.is_async=0->codeAny M A (.compLoop e d it acc env) R s->
  wpAny M A (pyIter it) (fun jR s'=>codeAny M A (.compLoop e d jR acc env) R s') (notedBy M A env fun x s'=>R (.error x) s') s->codeAny M A (.compStart e d it acc env) R s
 loop:∀{A:Around} {R:Result->Shared->Prop} {s:Shared} (d:Nat) (it acc:Value) (env:Env) (I:Nat->Shared->Prop),
  (∀n s,I n s->wpAny M A (compTurn e d it acc env) (fun fin s'=>match fin with|.done f=>R (.ok f) s'|.again c'=>c' = .compLoop e d it acc env/\∃m,m<n/\I m s') (fun _ _=>False) s)->
  ∀n,I n s->codeAny M A (.compLoop e d it acc env) R s
theorem Hg(hM:∀c,M.den c=denote table c)(elt:PySem.Expr)(gens:List PySem.Comprehension)(sc:Scope)(p:Pos):lN M (.ListComp elt gens sc p) gens (pH elt) where
 turn:=fun acc env=>Xi M elt gens sc p acc env
 start:=fun d it acc env _ hg ha h0 h=>VO elt gens sc p d it acc env hM hg ha h0 h
 loop:=fun d it acc env I t n h=>SD elt gens sc p d it acc env hM I t n h
theorem F4(hM:∀c,M.den c=denote table c)(k v:PySem.Expr)(gens:List PySem.Comprehension)(sc:Scope)(p:Pos):lN M (.DictComp k v gens sc p) gens (pM k v) where
 turn:=fun acc env=>Xd M k v gens sc p acc env
 start:=fun d it acc env _ hg ha h0 h=>Zq k v gens sc p d it acc env hM hg ha h0 h
 loop:=fun d it acc env I t n h=>MP k v gens sc p d it acc env hM I t n h
noncomputable def Cf.SI(C:Cf)(n:Nat)(c:Cx)(t e:PySem.Expr)(d:ai->Hp->Option (List V×Hp))(ik:IK):Prop:=∀A env ρ φ H s vs H₁ items Q E,Rm A n->C.I φ H s.heap->ER C c ρ env φ H s.heap->d ρ H=some (vs,H₁)->iterOf H₁ ik vs=some items->
 C.fS t φ H s H₁ vs items Q->C.wp A (eval e env) (fun x s'=>C.wp A (pyIter x) Q E s') E s
structure eO (C:Cf) (n:Nat) (c out:Cx) (dn:DN) (g:PySem.Comprehension) (m:Gen):Prop where
 async:g.is_async=0
 tgt:compT c g.target=some (m.1,m.2.1)
 set:∀env x,foldedSetIterable g.iter env x=pure x
 it:C.SI n out g.target g.iter (fun ρ H=>denL dn ρ m.2.2.2.1 H) m.2.2.1
 ifs:bZ (fun e m=>C.SB n c e (dn m)) g.ifs m.2.2.2.2
noncomputable def Cf.Eh(C:Cf)(n:Nat)(c:Cx)(e:PySem.Expr)(gens:List PySem.Comprehension)(eS:Value->Env->Sem Unit)(d na:Nat)(f:ai->Hp->Option Hp)(ts:List Nat):Prop:=
 ∀A env ρ φ H s aa H' K E,Rm A n->C.I φ H s.heap->ER C c ρ env φ H s.heap->φ.f na=some aa->(∀i∈ts,cI ρ i=none)->f ρ H=some H'->
  (∀a8 h' tk,SZ (Zf c env) φ H s.heap a8 H' h'->C.I a8 H' h'->ER C c ρ env a8 H' h'->K { s with heap:=h',toks:=tk })->
  lF (model C.prog C.w) A e gens (.ref aa) env (eS (.ref aa) env) d K E s
theorem slotS_other(ρ:ai):∀(i j:Nat) (x:Option V),i≠j->cI (slotS ρ i x) j=cI ρ j:=by
 induction ρ with
 |nil=>intros;rfl
 |cons y ρ ih=>
  intro i j x kr
  induction i using bL with
  |zero=>induction j using bL with
   |zero=>exact absurd rfl kr
   |succ j=>rfl
  |succ i=>induction j using bL with
   |zero=>rfl
   |succ j=>exact ih i j x fun z=>kr (by rw[z])
theorem MO(tg:List Nat):∀(l:List V) (ρ ρ':ai),bindTs ρ tg l=some ρ'->(∀i∈tg,cI ρ i=none)->tg.Nodup->Le ρ ρ':=by
 induction tg with
 |nil=>
  intro l ρ ρ' e _ _
  induction l using aM with
  |nil=>rw[<- aH e];exact fun _ _ h=>h
  |cons=>exact nq e
 |cons i is ih=>
  intro l ρ ρ' e fX b9 j w hj
  induction l using aM with
  |nil=>exact nq e
  |cons v l=>
   rw[ee]at b9;have bN:i≠j:=fun z=>by rw[<- z,fX i (.head _)]at hj;exact nq hj
   refine ih l (slotS ρ i (some v)) ρ' e (fun k hk=>?_) b9.2 j w ?_
   ·rw[slotS_other ρ i k _ fun z=>b9.1 (z▸hk)];exact fX k (.tail _ hk)
   ·rw[slotS_other ρ i j _ bN];exact hj
theorem QQ(tg:List Nat):∀(l:List V) (ρ ρ':ai),bindTs ρ tg l=some ρ'->∀j,j ∉ tg->cI ρ' j=cI ρ j:=by
 induction tg with
 |nil=>
  intro l ρ ρ' e j _
  induction l using aM with
  |nil=>rw[<- aH e]
  |cons=>exact nq e
 |cons i is ih=>
  intro l ρ ρ' e j hj
  induction l using aM with
  |nil=>exact nq e
  |cons v l=>rw[ih l _ ρ' e j fun m=>hj (.tail _ m),slotS_other ρ i j _ fun z=>hj (by rw[z];exact .head _)]
theorem NB(h:eB ρ tg many v=some ρ'):∃l,bindTs ρ tg l=some ρ':=by
 unfold eB at h;split at h
 ·exact⟨_,h⟩
 ·split at h
  ·exact⟨_,h⟩
  ·exact nq h
set_option tactic.hygienic true in
theorem Su(h:Internal.turn dn tg many ifs go ρ v H=some H'):∃ρ' b H₁,eB ρ tg many v=some ρ'/\denIfs dn ρ' ifs H=some (b,H₁)/\(match b with
  |true=>go ρ' H₁=some H'
  |false=>H'=H₁):=by
 unfold Internal.turn at h;split at h
 ·rename_i ρ' hb
  induction hd:denIfs dn ρ' ifs H using aL with
  |none=>rw[hd]at h;exact nq h
  |some p=>
   obtain⟨b,H₁⟩:=p;rw[hd]at h;refine⟨ρ',b,H₁,hb,hd,?_⟩;clear hd hb;induction b using aB with
   |true=>exact h
   |false=>exact(aH h).symm
 ·exact nq h
structure FI (C:Cf) (c:Cx) (env:Env) (Z:Addr->Prop) (ax:Ph) (L:Hp) (ao:Heap) (go:Nat->ai->Hp->Heap->Prop) (i:Nat) (a8:Ph) (h':Heap) (ρ₁:ai) (H':Hp):Prop where
 S:SZ Z ax L ao a8 H' h'
 I:C.I a8 H' h'
 X:ER C c ρ₁ env a8 H' h'
 f:go i ρ₁ H' h'
noncomputable def Fp(C:Cf)(c:Cx)(env:Env)(Z:Addr->Prop)(s:Shared)(ax:Ph)(L:Hp)(ao:Heap)(go:Nat->ai->Hp->Heap->Prop)(k:Nat)(s':Shared):Prop:=∃a8 h' tk ρ₁ H',s'={ s with heap:=h',toks:=tk }/\FI C c env Z ax L ao go k a8 h' ρ₁ H'
noncomputable def Iq(C:Cf)(c:Cx)(env:Env)(Z:Addr->Prop)(s:Shared)(ax:Ph)(L:Hp)(ao:Heap)(ρ:ai)(go:Nat->ai->Hp->Heap->Prop)(k:Nat)(s':Shared):Prop:=∃a8 h' tk H',s'={ s with heap:=h',toks:=tk }/\FI C c env Z ax L ao go k a8 h' ρ H'
noncomputable def CG(f:V->Hp->Option Hp)(items:List V)(J:Nat->Heap->Prop)(r:Hp)(k:Nat)(_:ai)(H:Hp)(h:Heap):Prop:=∃i,k+i=items.length/\J i h/\forItems f (items.drop i) H=some r
set_option tactic.hygienic true in
theorem HH(hM:M=model C.prog C.w)
  {I0 aa:Addr} {wr dZ:List Addr} {items:List V} {It:Nat->Heap->Value->Heap->Prop} {J:Nat->Heap->Prop} {Mid:Nat->Value->Heap->Prop} {Rr:Result->Shared->Prop} {aE:Hp}
  (CR:lN M e gens eS) (hg:gens[d]?=some g) (ha:g.is_async=0) (ht:compT c g.target=some (tg,many)) (lJ:bZ (fun e m=>C.SB n c e (dn m)) g.ifs ifs) (hn:C.Eh n c e gens eS d na go ts)
  (EH:(tg++ts).Nodup) (fX:∀i∈tg++ts,cI ρ i=none) (W:Wk C g.target I0 wr dZ ax H₁ s.heap items It J Mid) (R:Rm A n) (ah:C.I ax H₁ s.heap) (X:ER C c ρ env ax H₁ s.heap) (ap:Apart env wr) (fF:ax.f na=some aa) (j:J 0 s.heap)
  (hf:forItems (Internal.turn dn tg many ifs go ρ) items H₁=some aE)
  (P:∀a8 h' h'' tk,SZ (fun b=>Zf c env b\/b∈wr) ax H₁ s.heap a8 aE h'->C.I a8 aE h'->ER C c ρ env a8 aE h'->(∀b o,b ∉ wr->h'.get? b=some o->h''.get? b=some o)->Rr (.ok .next) { s with heap:=h'',toks:=tk }) :
  codeAny M A (.compLoop e d (.ref I0) (.ref aa) env) Rr s:=by
 refine CR.loop d (.ref I0) (.ref aa) env (Iq C c env (fun b=>Zf c env b\/b∈wr) s ax H₁ s.heap ρ (CG (Internal.turn dn tg many ifs go ρ) items J aE)) (fun k s' hk=>?_) items.length ⟨ax,s.heap,s.toks,H₁,rfl,SZ.refl ..,ah,X,0,rfl,j,hf⟩;exists DD hk,a8,h',tk,H',z,F;clear hk j;subst z;exists cps,P0,k0;obtain⟨S,I,X',f0⟩:=F;exists b6 f0,i,hk,j',hf;clear f0
 induction hv:items[i]? using aL with
 |none=>
  have hi:i=items.length:=by
   have:=List.getElem?_eq_none_iff.mp hv
   lia
  subst hi;rw[List.drop_length]at hf;exists hf;refine k0 (CR.turn _ _ A d (.ref I0) g _ _ _ hg ha ?_);subst hM;exact(W.w A R.handled).done { s with heap:=h',toks:=tk } _ _ j' fun h'' Aw k=>P a8 h' h'' Aw S I X' k
 |some v=>
  exists aD (fo.mp hv),hi,sX;rw[List.drop_eq_getElem_cons hi,sX]at hf;have hf:(match Internal.turn dn tg many ifs go ρ v H' with
   |some H=>forItems (Internal.turn dn tg many ifs go ρ) (items.drop (i+1)) H
   |none=>none)=some aE:=hf
  split at hf
  ·rename_i H3 Ln;exists dA (Su Ln),ρ',b,H4,hb,hd,jw;exists aD (NB hb),l,cv;have hle:=MO tg l ρ ρ' cv (fun i m=>fX i (List.mem_append_left _ m)) (List.nodup_append.mp EH).1;have fin:∀iS h5 t5,SZ (fun b=>Zf c env b\/b∈wr) ax H₁ s.heap iS H3 h5->C.I iS H3 h5->ER C c ρ' env iS H3 h5->J (i+1) h5->Code.compLoop e d (.ref I0) (.ref aa) env = .compLoop e d (.ref I0) (.ref aa) env/\
     ∃m,m<k/\Iq C c env (fun b=>Zf c env b\/b∈wr) s ax H₁ s.heap ρ (CG (Internal.turn dn tg many ifs go ρ) items J aE) m { s with heap:=h5,toks:=t5 }:=
    fun iS h5 t5 S5 I5 X5 j5=>⟨rfl,k - 1,by lia,iS,h5,t5,H3,rfl,S5,I5,X5.weak hle,i+1,by lia,j5,hf⟩
   refine k0 (CR.turn _ _ A d (.ref I0) g _ _ _ hg ha ?_);subst hM;clear k0;exists W.turn (s:={ s with heap:=h',toks:=tk }) ah X ap R S I X' j' hv ht hb,qQ,h4,t4,S4,I4,X4,j4;exists RZ g.ifs ifs lJ qQ H' { s with heap:=h4,toks:=t4 } b H4 _ R I4 X4 hd,b',iS,h5,t5,S5,I5,dN;subst dN;have T5:=S4.trans S5.eW ah I4;have X5:=X4.step S5 I4;have j5:=W.body ah X ap S4 I4 (S5.eW (Z:=Zf c env)) j4;clear S5 j4 X4 I4 S4;induction b' using aB with
   |false=>
    have jw:H3=H4:=jw;subst jw;exact fin iS h5 t5 T5 I5 X5 j5
   |true=>
    refine hn A env ρ' iS H4 { s with heap:=h5,toks:=t5 } aa H3 _ _ R I5 X5 (T5.ext _ _ fF) (fun i hi=>?_) jw fun Ut h6 t6 S6 I6 X6=>?_
    ·rw[QQ tg l ρ ρ' cv i fun m=>(List.nodup_append.mp EH).2.2 i m i hi rfl];exact fX i (List.mem_append_right _ hi)
    ·exact fin Ut h6 t6 (T5.trans (S6.mono fun b z=>.inl z) ah I5) I6 X6 (W.body ah X ap T5 I5 S6 j5)
  ·exact nq hf
end
end
section
open PySem PySem.Calls PyProof.Rows PySem.W
section
variable {C:Cf} {φ a8 ax bp:Ph} {H H' H₁ aE:Hp} {h h' h'' ao aV:Heap} {c:Cx} {env:Env} {ρ:ai} {n:Nat} {A:Around} {s:Shared} {E:Value->Shared->Prop}
theorem Wk.later(W:Wk C t I0 wr dZ ax (lockH H₁ vs) ao items It J Mid)(ah:C.I ax H₁ ao)(S:St ax H₁ ao bp aE aV)(aC:C.I bp aE aV)
  (k:∀b o,ao.get? b=some o->aV.get? b=some o):Wk C t I0 wr dZ bp (lockH aE vs) aV items It J Mid:=by
 refine⟨W.w,fun b hb=>S.dE b (W.fr b hb),fun b hb=>?_,fun i v y h h' φ H hv hi I tr kp=>W.rel i v y h h' φ H hv hi I (fun v x r=>tr v x (kR vs (S.vr ah (r.mono (fun _ _ e=>e) (fun _ _ e _=>e) fun _ _ q _=>(AR vs _).mpr q)))) kp⟩;obtain⟨⟨o,ho⟩,nu,nf⟩:=W.dep b hb;refine⟨⟨o,k b o ho⟩,?_,fun f=>?_⟩
 ·rintro ⟨e',m',lk,q⟩;exists dw (AM aC.nodup vs e' m'),e0,m0,i0,Z0,l0;exists oJ (sJ vs aE.es aC.nodup e0 m0),e1,m1,a1,b1,c1,d1,f1;have N':((mG aE.es vs).map (·.id)).Nodup:=by rw[ki];exact aC.nodup
  have:e1=e':=iq N' m1 m' (a1.trans i0);clear N' f1 c1 b1 m1 i0 m' nf hb k W;subst this;have Tr:(.ref e0.id:V) ∉ vs:=fun z=>by rw[d1 z]at lk;exact bt lk
  clear d1;rcases S.new e0 m0 with⟨x,mx,ix⟩|z
  ·exists ae (ah.objs x mx),a,ha,Z0;have fH:=S.ext _ _ ha;rw[ix,<- a1,q]at fH
   (clear q a1 ho;exists fH)
   exists dw (S.ids x mx),x2,mx2,j1,j2,Z0;have:x2=e0:=iq aC.nodup mx2 m0 (j1.trans ix);subst this;exists oJ (sJ vs H₁.es ah.nodup x mx),y,my,p1,Z0,Z0,Z0,p6;refine nu ⟨y,my,?_,by rw[p1];exact ha⟩;rw[p6 (by rw[ix];exact Tr),<- j2];exact l0 lk
  ·rw[<- a1]at z;rw[z b q]at ho;exact nq ho
 ·clear nu hb k aC ah W;rcases S.gE b f with f|f
  ·exact nf f
  ·rw[f]at ho;exact nq ho
noncomputable def Cf.lT(C:Cf)(n:Nat)(c:Cx)(eS:Value->Env->Sem Unit)(na:Nat)(emit:ai->Hp->Option Hp):Prop:=∀A env ρ φ H s aa H' Q E,Rm A n->C.I φ H s.heap->ER C c ρ env φ H s.heap->φ.f na=some aa->emit ρ H=some H'->
 (∀a8 h' tk,St φ H s.heap a8 H' h'->C.I a8 H' h'->Q () { s with heap:=h',toks:=tk })->C.wp A (eS (.ref aa) env) Q E s
set_option tactic.hygienic true in
theorem QX(CR:lN (model C.prog C.w) e gens eS)(leaf:C.lT n c eS na emit) :
  ∀(gs:List PySem.Comprehension) (ms:List Gen) (d:Nat),gens.drop (d+1)=gs->bZ (eO C n c c dn) gs ms->(lq ms).Nodup->C.Eh n c e gens eS d na (runGens dn emit ms) (lq ms):=by
 intro gs ms d hd cT
 induction cT generalizing d with
 |nil=>
  intro _ A env ρ φ H s aa H' K E R I X fF fX e' P;have hn:gens[d+1]?=none:=by
   rw[List.getElem?_eq_none_iff];exact List.drop_eq_nil_iff.mp hd
  unfold lF;rw[hn];exact leaf A env ρ φ H s aa H' _ E R I X fF e' fun a8 h' tk S' I'=>P a8 h' tk S'.eW I' (X.step S' I)
 |@cons g m gs ms G Gs eK=>
   intro b9 A env ρ φ H s aa H' K E R I X fF fX e' P;have hg:gens[d+1]?=some g:=by
    rw[<- List.head?_drop,hd];rfl
   have kB:gens.drop (d+1+1)=gs:=by
    rw[<- List.drop_drop,hd];rfl
   clear hd;obtain⟨tg,many,ik,es,ifs⟩:=m;have b9:(tg++lq ms).Nodup:=b9;have ih:=eK (d+1) kB (List.nodup_append.mp b9).2.1;unfold lF;rw[hg];refine⟨G.async,?_⟩;have e':(ob (denL dn ρ es H) fun vs H=>match iterOf H ik vs with
    |some items=>unlH H.es vs (forItems (Internal.turn dn tg many ifs (runGens dn emit ms) ρ) items (lockH H vs))
    |none=>none)=some H':=e'
   clear kB Gs leaf;induction fv:denL dn ρ es H using aL with
   |none=>rw[fv]at e';exact nq e'
   |some p=>
    obtain⟨vs,H₁⟩:=p;rw[fv]at e';have e':(match iterOf H₁ ik vs with
     |some items=>unlH H₁.es vs (forItems (Internal.turn dn tg many ifs (runGens dn emit ms) ρ) items (lockH H₁ vs))
     |none=>none)=some H':=e'
    split at e'
    ·rename_i items hit;exists ae (Ir e'),aE,hf,ku;clear e';subst ku;refine cu (G.it A env ρ φ H s vs H₁ items (fun it s₃=>C.wp A (runOwn (.compStart e (d+1) it (.ref aa) env) env) (fun _ s₄=>K s₄) E s₃) E R I X fv hit fun I0 wr dZ ax ao tk It J Mid aA ah W j fw=>?_) (fun x s' hx=>by rw[G.set env x];exact aw hx) fun _ _ x=>x;refine wpAny_runOwn (env:=env) ?_ (by intro x;exact nq x);have L:=HH (s:={ s with heap:=ao,toks:=tk }) (Rr:=fun r s'=>match r with
       |.ok f=>K s'
       |.error e=>cameBackBy (model C.prog C.w) A env E e s') (wr:=wr) (ρ:=ρ) (c:=c) (A:=A) rfl CR hg G.async G.tgt G.ifs ih b9 fX W R (C.zy ah vs) (wu vs (X.step aA I)) (qq X I fw) (aA.ext _ _ fF) j hf fun a8 h' h'' lK S' I' X' k=>by
      exists dr (C.finish I aA ah fw W.fr S' I' k),I3,S3,X3;exact P _ h'' lK S3 I3 (X3 c ρ env (qq X I fw) X')
     exact CR.start (d+1) (.ref I0) (.ref aa) env hg G.async L ((W.w A R.handled).self 0 _ _ _ j L)
    ·exact nq e'
end
end
section
open PySem PySem.Calls PyProof.Rows PySem.W
noncomputable def CompEnd(M:Model)(A:Around)(E:Value->Shared->Prop)(use:Option (Value->Sem Unit))(Q:Value->Shared->Prop)(acc:Value)(L:Addr)(s':Shared):Prop:=match use with
 |none=>∃m,s'.heap.Ns L m/\∀h',Heap.SameBut L s'.heap h'->(∃m',h'.Ns L m')->Q acc { s' with heap:=h' }
 |some u=>wpAny M A (u acc) (fun _ sI=>∃m,sI.heap.Ns L m/\∀h',Heap.SameBut L sI.heap h'->(∃m',h'.Ns L m')->Q .none { sI with heap:=h' }) E s'
theorem U6
  {Q:Value->Shared->Prop}
  (d9:clausesOf e=g::gs) (hs:∀x,foldedSetIterable g.iter env x=pure x)
  (xR:scope.kind = .function) (zr:∀x∈scope.names,x.2 = .local->scope.names.lookup x.1=some .local)
  (h:wpAny M A first (fun x s₁=>wpAny M A (pyIter x) (fun it s₂=>wpAny M A hC (fun acc s₃=>wpAny M A (closureFor scope env) (fun cl s₄=>
   wpAny M A (newFunctionEnv scope env.globals cl [] env.qual none .none (some env)) (fun cenv pJ=>
    codeAny M A (.compStart e 0 it acc { cenv with scope:=relabel scope env }) (fun r s'=>match r with
     |.ok _=>CompEnd M A E use Q acc cenv.locals s'
     |.error _=>False) pJ) E s₄) E s₃) E s₂) E s₁) E s) :
  wpAny M A (comprehension e scope env pos hC false first use) Q E s:=by
 unfold comprehension;rw[d9];refine a9 (cu h (fun x s₁ ao=>a9 (g8 (a9 (wpAny_of_eq (hs x) (a9 (dH (cu ao (fun it s₂ aV=>
  wpAny_standIf (a9 (cu aV (fun acc s₃ cR=>a9 (cu cR (fun cl s₄ h₄=>a9 (cu h₄ (fun cenv pJ jg=>?_) fun _ _ h'=>h')) fun _ _ h'=>h')) fun _ _ h'=>h')))
   fun _ _ h'=>h'))))))) fun _ _ h'=>h')
 dsimp only;have hv:∀x∈(scope.names.filter fun x=>(x.2 == .local ||x.2 == .cell) && x.1 != (".0" : Str)).reverse,x.2 = .local->
   Env.kindOf { cenv with scope:=relabel scope env } x.1=some .local:=fun x hx hl=>lookup_relabel_local (zr x (List.mem_filter.mp (List.mem_reverse.mp hx)).1 hl)
 have sX:∀x∈(scope.names.filter fun x=>(x.2 == .local ||x.2 == .cell) && x.1 != (".0" : Str)).reverse.drop 1++(scope.names.filter fun x=>(x.2 == .local ||x.2 == .cell) && x.1 != (".0" : Str)).reverse.take 1,
   x.2 = .local->Env.kindOf { cenv with scope:=relabel scope env } x.1=some .local:=fun x hx hl=>by
  clear jg h₄ cR aV ao h zr xR hs d9;rcases l7.mp hx with h1|h1
  ·exact hv x (List.mem_of_mem_drop h1) hl
  ·exact hv x (List.mem_of_mem_take h1) hl
 refine dH (a9 (wpAny_attempt (dH (wpAny_run (codeAny_mono jg fun r s' hr=>?_)))));clear jg h₄ cR aV ao h zr hs d9;induction r using Except.casesOn with
 |ok f=>
  induction use using aL with
  |none=>
   exists ae hr,m,hn,hr;exact a9 (dH (wpAny_comp_letGo (cenv:={ cenv with scope:=relabel scope env }) xR _ s' m hv hn fun h' m' iE cf=>aw (hr h' cf ⟨m',iE⟩)))
  |some u=>
   refine a9 (wpAny_rule (a9 (dH (cu hr (fun _ sI CE=>?_) fun _ _ h'=>h'))));exists ae CE,m,hn,CE;exact a9 (wpAny_comp_letGo (cenv:={ cenv with scope:=relabel scope env }) xR _ sI m sX hn fun h' m' iE cf=>aw (CE h' cf ⟨m',iE⟩))
 |error x=>exact hr.elim
section
variable {C:Cf} {φ a8 ax bp:Ph} {H H' H₁ aE:Hp} {h h' h'' ao aV:Heap} {c c':Cx} {env:Env} {ρ:ai} {n:Nat} {A:Around} {s:Shared} {E:Value->Shared->Prop}
noncomputable def Cf.pj(C:Cf)(hC:Sem Value)(o:bq):Prop:=∀(A:Around) φ H (s:Shared) (Q:Value->Shared->Prop) E,C.I φ H s.heap->
 (∀a8 h' aa tk,St φ H s.heap a8 (Internal.newObj H o).2 h'->C.I a8 (Internal.newObj H o).2 h'->(∀b x,s.heap.get? b=some x->h'.get? b=some x)->a8.f H.nxt=some aa->Q (.ref aa) { s with heap:=h',toks:=tk })->C.wp A hC Q E s
theorem I8:C.pj (PySem.newList []) (.list []):=fun A φ H s Q E I P=>by
 refine wpAny_newObj_type ?_;obtain⟨I',S,r⟩:=C.fresh I (cS s.heap _) (cA _) (o:=.list []) ⟨[],_,Heap.get?_push_size _ rfl,.nil⟩;cases r with
 |ref hr=>exact P _ _ _ s.toks S I' (cS s.heap _) hr
theorem En:C.pj PySem.newDict (.dict []):=fun A φ H s Q E I P=>by
 refine wpAny_newObj_type ?_;refine dr (C.fresh I (cS s.heap _) (cA _) (o:=.dict []) ⟨[],0,Heap.get?_push_size _ rfl,.nil,by simp⟩) fun I' S r=>?_;clear I;cases r with
 |ref hr=>exact P _ _ _ s.toks S I' (cS s.heap _) hr
theorem NH:∀(is:List Nat) (ρ:ai) (i:Nat),i∈is->cI (slotC ρ is) i=none:=fun is ρ i m=>by
 induction h:cI (slotC ρ is) i using aL with
 |none=>rfl
 |some v=>exact absurd m (uX ρ is i h).1
theorem Rn(h:j0 clr gs=true):(lq gs).Nodup/\∀i∈lq gs,i∈clr:=by
 exists ak ((cU _ _).mp h),h1,h2;refine⟨AK h1,fun i m=>?_⟩;have:=List.all_eq_true.mp h2 i m;exists ae (List.any_eq_true.mp this),j,hj,e;rw[cY e];exact hj
theorem Sb{e:PySem.Expr}{eS:Value->Env->Sem Unit}{emit:Nat->ai->Hp->Option Hp}{hC:Sem Value}{o:bq}{clr:List Nat}{sc:Scope}{pos:Pos}{use:Option (Value->Sem Unit)}{g:PySem.Comprehension}{gs:List PySem.Comprehension}{tg:List Nat}{many:Bool}{ik:IK}{es ifs:List ME}{vs items:List V}{ms:List Gen}{dn:DN}
  {Q:Value->Shared->Prop} {v:V}
  (d9:clausesOf e=g::gs) (CR:lN (model C.prog C.w) e (g::gs) eS) (leaf:∀na,C.lT n c' eS na (emit na)) (dJ:C.pj hC o) (bX:c.inner sc=some (c',clr))
  (pf:∀x,foldedSetIterable g.iter env x=pure x) (ha:g.is_async=0) (pW:compT c' g.target=some (tg,many)) (lJ:bZ (fun e m=>C.SB n c' e (dn m)) g.ifs ifs)
  (hit:∀Q,C.fS g.target φ H s H₁ vs items Q->C.wp A (eval g.iter env) (fun x s'=>C.wp A (pyIter x) Q E s') E s)
  (Gs:bZ (eO C n c' c' dn) gs ms) (fy:j0 clr ((tg,many,ik,es,ifs)::ms)=true) (R:Rm A n) (I:C.I φ H s.heap) (X:ER C c ρ env φ H s.heap)
  (hd:compGo H₁.nxt (Internal.turn dn tg many ifs (runGens dn (emit H₁.nxt) ms) (slotC ρ clr)) items vs (Internal.newObj H₁ o).2=some (v,H'))
  (P:∀a8 h' tk aa L,St φ H s.heap a8 H' h'->C.I a8 H' h'->C.R a8 H' h' v (.ref aa)->s.heap.get? L=none->a8.fr L->(∃m,h'.Ns L m)->CompEnd (model C.prog C.w) A E use Q (.ref aa) L { s with heap:=h',toks:=tk }) :
  C.wp A (comprehension e sc env pos hC false (eval g.iter env) use) Q E s:=by
 obtain⟨fc,fr,i7,dz,iZ,Jr⟩:=y4 bX;exists ak (zK dz),Z0,wa;have wa:(sc.names.map (·.1)).Nodup:=wa;exists ak (Rn fy),mV,pn;refine U6 d9 pf fc (fun x hx hl=>?_) ?_
 ·clear pn mV Jr iZ dz i7 fc P hd X I R fy Gs hit lJ pW ha pf bX dJ leaf CR d9;obtain⟨x,k⟩:=x;have hl:k = .local:=hl;subst hl;exact m5 wa hx
 have hd:dC H₁.nxt (unlH (Internal.newObj H₁ o).2.es vs (forItems (Internal.turn dn tg many ifs (runGens dn (emit H₁.nxt) ms) (slotC ρ clr)) items (lockH (Internal.newObj H₁ o).2 vs)))=some (v,H'):=hd;clear wa Jr iZ dz i7 fc fy pf d9;induction hu:unlH (Internal.newObj H₁ o).2.es vs (forItems (Internal.turn dn tg many ifs (runGens dn (emit H₁.nxt) ms) (slotC ρ clr)) items (lockH (Internal.newObj H₁ o).2 vs))using aL with
 |none=>rw[hu]at hd;exact nq hd
 |some Hu=>
  rw[hu]at hd;injections hd;exists ae (Ir hu),aE,hf,ku;subst ku;exists hit _,I0,wr,dZ,ax,ao,tk,It,J,Mid,aA,ah,W,j,fw;exists dJ A ax H₁ { s with heap:=ao,toks:=tk } _ E ah,bp,aV,aa,EG,aP,aC,k₂,fF;have fB:=aA.trans aP I ah;exists Oa (s:={ s with heap:=aV,toks:=EG }) (X.step fB I) aC bX,cenv,ce,cR,qM,dj,pg,fi,cK,de,iK,fresh,cells;have mA:=fB.trans de I aC;have pT:=(W.later ah aP aC k₂).later aC de cK pg;have oY:J 0 cR:=(W.w A R.handled).frame 0 ao cR j fun b x _ e=>pg b x (k₂ b x e);have uV:∀b∈wr,∃x,aV.get? b=some x:=fun b hb=>by
   clear oY pT mA cells fresh iK de cK fi pg dj fB fF aC aP fw j aA P hf pn mV X I R Gs hit lJ pW ha bX dJ leaf CR;obtain⟨_,_,x,hx⟩:=ah.cC b (W.fr b hb);exact⟨x,k₂ b x hx⟩
  have Bh:=qq X I fw;have ap:Apart ce wr:=fun b hb=>by
   exists aD (uV b hb),x,hx;refine⟨fun z=>?_,fun y hy=>?_⟩
   ·have:aV.get? b=none:=fresh b (.inl z);rw[this]at hx;exact nq hx
   ·clear uV oY pT mA fresh iK de cK fi pg dj fB fF k₂ aC aP fw j W ah aA P hf pn mV X I R Gs hit lJ pW ha bX dJ leaf CR;rcases cells y b hy with q|q
    ·have q:aV.get? b=none:=q;rw[q]at hx;exact nq hx
    ·exact(Bh b hb).2 y q
  have Bg:ce={ cenv with scope:=relabel sc env }:=dj;rw[<- Bg];have eL:cenv.locals=ce.locals:=by rw[dj]
  have NX:=QX (na:=H₁.nxt) CR (leaf H₁.nxt) gs ms 0 rfl Gs (List.nodup_append.mp mV).2.1;have L:=HH (s:={ s with heap:=cR,toks:=EG }) (Rr:=fun r s'=>match r with
    |.ok _=>CompEnd (model C.prog C.w) A E use Q (.ref aa) cenv.locals s'
    |.error _=>False) (wr:=wr) (ρ:=slotC ρ clr) (c:=c') (A:=A) (env:=ce) rfl CR (d:=0) rfl ha pW lJ NX mV (fun i hi=>NH clr ρ i (pn i hi)) pT R (C.zy cK vs) (wu vs iK) ap (de.ext _ _ fF) oY hf fun a8 h' h'' lK S' I' X' k=>by
   exists dr (C.finish (I) mA cK fw pT.fr S' I' k),I4,S4,X4;have X4:=X4 c' (slotC ρ clr) ce ap X';exists ae X4.loc,mm,jE,Z0;have S5:St φ H s.heap (a8.less wr) _ h'':=S4.Kj fun b hb=>by
    have hb:aV.get? b=none:=fresh b hb;clear jE X4 S4 I4 k X' I' S' NX eL Bg ap Bh uV oY pT mA cells fresh iK de cK fi pg dj fF k₂ aC aP fw j W ah aA P hf pn mV X I R Gs hit lJ pW ha bX dJ leaf CR;induction q:s.heap.get? b using aL with
    |none=>rfl
    |some x=>
     exists aD (fB.alive b x q),x',q';rw[hb]at q';exact nq q'
   refine P _ h'' lK aa cenv.locals S5 I4 ?_ ?_ ?_ ⟨mm,by rw[eL];exact jE⟩
   ·exact .ref (S'.ext _ _ (de.ext _ _ fF))
   ·have hb:aV.get? ce.locals=none:=fresh _ (.inl rfl);rw[eL];clear S5 jE X4 S4 I4 k X' I' S' NX eL Bg ap Bh uV oY pT mA cells fresh iK de cK fi pg dj fF k₂ aC aP fw j W ah aA P hf pn mV X I R Gs hit lJ pW ha bX dJ leaf CR;induction q:s.heap.get? ce.locals using aL with
    |none=>rfl
    |some x=>
     exists aD (fB.alive _ x q),x',q';rw[hb]at q';exact nq q'
   ·rw[eL];exact X4.iu
  exact CR.start 0 (.ref I0) (.ref aa) ce rfl ha L ((W.w A R.handled).self 0 _ _ _ oY L)
theorem EZ
  {Q:Value->Shared->Prop} {v:V}
  (d9:clausesOf e=g::gs) (CR:lN (model C.prog C.w) e (g::gs) eS) (leaf:∀na,C.lT n c' eS na (emit na)) (dJ:C.pj hC o) (bX:c.inner sc=some (c',clr))
  (G0:eO C n c' c dn g m) (Gs:bZ (eO C n c' c' dn) gs ms) (fy:j0 clr (m::ms)=true) (R:Rm A n) (I:C.I φ H s.heap) (X:ER C c ρ env φ H s.heap) (hd:qm emit o clr (m::ms) dn ρ H=some (v,H'))
  (P:∀a8 h' tk aa L,St φ H s.heap a8 H' h'->C.I a8 H' h'->C.R a8 H' h' v (.ref aa)->s.heap.get? L=none->a8.fr L->(∃m,h'.Ns L m)->CompEnd (model C.prog C.w) A E use Q (.ref aa) L { s with heap:=h',toks:=tk }) :
  C.wp A (comprehension e sc env pos hC false (eval g.iter env) use) Q E s:=by
 obtain⟨tg,many,ik,es,ifs⟩:=m;have hd:(ob (denL dn ρ es H) fun vs H=>match iterOf H ik vs with
  |some items=>compGo H.nxt (Internal.turn dn tg many ifs (runGens dn (emit H.nxt) ms) (slotC ρ clr)) items vs (Internal.newObj H o).2
  |none=>none)=some (v,H'):=hd
 exists aT (bV hd),vs,H₁,fv,hd;exists g5 hd,items,hit,hd
 ·exact Sb d9 CR leaf dJ bX (G0.set env) G0.async G0.tgt G0.ifs (fun Q P=>G0.it A env ρ φ H s vs H₁ items Q E R I X fv hit P) Gs fy R I X hd P
end
end
section
open PySem PySem.Calls PyProof.Rows PySem.W
section
variable {C:Cf} {φ a8 ax bp:Ph} {H H' H₁ aE:Hp} {h h' h'' ao aV:Heap} {c c':Cx} {env:Env} {ρ:ai} {n:Nat} {A:Around} {s:Shared} {E:Value->Shared->Prop}
set_option tactic.hygienic true in
theorem EY(he:C.SE n c elt (dn e))(na:Nat):C.lT n c (pH elt) na (ck na e dn):=fun A env ρ φ H s aa H' Q E R I X fF hd P=>by
 obtain⟨v,H₁,e1,e2⟩:=bV (show ob (dn e ρ H) (fun v H=>match own H (.ref na)with
  |some p=>match p with
   |(_,o)=>match o with
    |.list l=>guard' (lenOk l) (some (setObj H na (.list (l++[v]))))
    |.dict _=>none
  |none=>none)=some H' from hd)
 split at e2
 ·rename_i p hp;clear hd;obtain⟨k,o⟩:=p;exists ak (qa hp),hk,m;clear hp;cases hk
  induction o using Internal.bq.casesOn with
  |dict=>exact nq e2
  |list l=>
   exists ak (guard_some e2),g1,g2;exists g2;unfold pH;refine a9 (he A env ρ φ H s v H₁ _ E R I X e1 fun y ax ao b7 aA ah aR=>?_);refine a9 (IH (s:={ s with heap:=ao,toks:=b7 }) ah m (aA.ext _ _ fF) aR (v:=.none) (H':=setObj H₁ na (.list (l++[v]))) (by unfold yA;rw[g1];rfl) fun z bp aV ed aP aC _=>?_);exact aw (P bp aV ed (aA.trans aP I ah) aC)
 ·exact nq e2
theorem dict_set(I:C.I φ H s.heap)(R:Rm A n)(m:(⟨k,false,.dict l⟩:Ent)∈H.es)(ha:φ.f k=some a)(ri:C.R φ H s.heap (.tup (ky.map .int)) y)(rv:C.R φ H s.heap v z)(hl:lenOk l=true)
  (P:∀h' tk,St φ H s.heap φ (setObj H k (.dict (dset l ky v))) h'->C.I φ (setObj H k (.dict (dset l ky v))) h'->Q () { s with heap:=h',toks:=tk }):C.wp A (dictSet a y z) Q E s:=by
 exists aD (oS ri),ka,RH;subst RH;exists ko (vP I m ha),es,c,g,re,nd,ns;exists ae (EX.dict g re nd),xs,px,D;refine wpAny_dictSet_heap (knd:=C.knd) (R.u) (lh ri) D (fun h' D' hs=>?_) (by rw[px.length];exact jl (dR hl));exists aD (vA D'),c',g';clear D' D ns re g hl R;obtain⟨I',S⟩:=C.upd I m ha (fun b ob hb e=>by rw[hs.2 b hb];exact e) (o':=.dict (dset l ky v)) ⟨_,c',g',(px.set nd ri rv).es,yZ nd _ _⟩;exact P h' _ S I'
set_option tactic.hygienic true in
theorem Fs(hd:iX na k v dn ρ H=some H'):∃kv H₁ vv aE ky l,dn k ρ H=some (kv,H₁)/\dn v ρ H₁=some (vv,aE)/\kv = .tup (ky.map .int)/\(⟨na,false,.dict l⟩:Ent)∈aE.es/\lenOk l=true/\H'=setObj aE na (.dict (dset l ky vv)):=by
 obtain⟨kv,H₁,e1,e2⟩:=bV (show ob (dn k ρ H) (fun kv H=>ob (dn v ρ H) fun v H=>match kg kv with
 |some k=>match own H (.ref na)with
  |some p=>match p with
   |(_,o)=>match o with
    |.dict l=>guard' (lenOk l) (some (setObj H na (.dict (dset l k v))))
    |.list _=>none
  |none=>none
 |none=>none)=some H' from hd)
 clear hd;exists aT (bV e2),vv,aE,e3,e4;split at e4
 ·rename_i ky Fm;split at e4
  ·rename_i p hp;clear e2;obtain⟨k',o⟩:=p;exists ak (qa hp),hk,m;clear hp;cases hk
   induction o using Internal.bq.casesOn with
   |list=>cases e4
   |dict l=>
    exists ak (guard_some e4),g1,g2;clear e4;cases g2;exact⟨kv,H₁,vv,aE,ky,l,e1,e3,sa Fm,m,g1,rfl⟩
  ·clear Fm e3 e2 e1;cases e4
 ·clear e3 e2 e1;cases e4
theorem JO(hk:C.SE n c kx (dn k))(hv:C.SE n c vx (dn v))(na:Nat):C.lT n c (pM kx vx) na (iX na k v dn):=fun A env ρ φ H s aa H' Q E R I X fF hd P=>by
 exists Io (Fs hd),kv,H₁,vv,aE,ky,l,e1,e2,NI,m,g1,Pp;clear hd;subst NI;subst Pp;unfold pM;refine a9 (hk A env ρ φ H s _ H₁ _ E R I X e1 fun y ax ao b7 aA ah aR=>?_);refine a9 (dH (hv A env ρ ax H₁ { s with heap:=ao,toks:=b7 } vv aE _ E R ah (X.step aA I) e2 fun z bp aV ed aP aC du=>?_));have fB:=aA.trans aP I ah;refine a9 (g8 (dH ?_));exact dict_set (s:={ s with heap:=aV,toks:=ed }) aC R m (fB.ext _ _ fF) (aP.vr ah aR) du g1 fun cR k8 de cK=>P bp cR k8 (fB.trans de I aC) cK
theorem YM(hk:C.SE n c kx (dn k))(hv:C.SE n c vx (dn v)):C.SE n c (.Dict [some kx] [vx] p) (fun ρ H=>dC H.nxt (iX H.nxt k v dn ρ (Internal.newObj H (.dict [])).2)):=fun A env ρ φ H s w H' Q E R I X hd P=>by
 have hd:dC H.nxt (iX H.nxt k v dn ρ (Internal.newObj H (.dict [])).2)=some (w,H'):=hd
 induction hu:iX H.nxt k v dn ρ (Internal.newObj H (.dict [])).2 using aL with
 |none=>rw[hu]at hd;exact nq hd
 |some Hu=>
  rw[hu]at hd;injections hd;exists Io (Fs hu),kv,H₁,vv,aE,ky,l,e1,e2,MN,m,g1,Ww;clear hd hu;subst MN;subst Ww;rw[arm_eval_Dict];rw[show(evalEachOpt [some kx] env).zip ((evalEach [vx] env).map fun v=>do let x <- v;standAt p;pure x)=[(eval kx env,(do let x <- eval vx env;standAt p;pure x:Sem Value))].map fun p=>(some p.1,p.2)from rfl];rw[dictDisplay_pairs _ (by simp) (by simp)];refine a9 (g8 (a9 ?_));unfold subDict;refine a9 (wpAny_alloc ?_);refine dr (C.fresh I (cS s.heap { cls:=.type "dict",data:=.dict #[] }) (cA _) (o:=.dict []) ⟨[],0,Heap.get?_push_size _ rfl,.nil,by simp⟩) fun I0 S0 r0=>?_;refine a9 (dH ?_);refine g6 (by simp) ?_;refine a9 (evalPairs_cons ?_);refine hk A env ρ _ _ { s with heap:=s.heap.push { cls:=.type "dict",data:=.dict #[] } } _ H₁ _ E R I0 (X.step S0 I) e1 fun y ax ao b7 aA ah aR=>?_;refine a9 (hv A env ρ ax H₁ { s with heap:=ao,toks:=b7 } vv aE _ E R ah ((X.step S0 I).step aA I0) e2 fun z bp aV ed aP aC du=>?_);refine a9 (g8 (aw ?_));refine evalPairs_nil ?_;have fB:=aA.trans aP I0 ah;refine dH ?_;rw[List.forIn_cons];clear aA e1 e2 X hv hk;cases r0 with
  |ref hr=>
   refine a9 (a9 (a9 (dict_set (s:={ s with heap:=aV,toks:=ed }) aC R m (fB.ext _ _ hr) (aP.vr ah aR) du g1 fun cR k8 de cK=>?_)));refine aw ?_;dsimp only;rw[List.forIn_nil];refine aw (aw (aw ?_));refine aw ?_;exact P _ bp cR k8 ((S0.trans fB I I0).trans de I aC) cK (.ref (fB.ext _ _ hr))
theorem HP
  {Q:Value->Shared->Prop} {v:V}
  (d9:clausesOf e=g::gs) (CR:lN (model C.prog C.w) e (g::gs) eS) (leaf:∀na,C.lT n c' eS na (emit na)) (dJ:C.pj hC o) (bX:c.inner sc=some (c',clr))
  (G0:eO C n c' c dn g m) (Gs:bZ (eO C n c' c' dn) gs ms) (fy:j0 clr (m::ms)=true) (R:Rm A n) (I:C.I φ H s.heap) (X:ER C c ρ env φ H s.heap) (hd:qm emit o clr (m::ms) dn ρ H=some (v,H'))
  (P:C.Po φ H s H' (fun a8 h' x=>C.R a8 H' h' v x) Q) :
  C.wp A (comprehension e sc env pos hC false (eval g.iter env) none) Q E s:=by
 exists EZ d9 CR leaf dJ bX G0 Gs fy R I X hd,a8,h',tk,aa,L,S,I',r,hL,fL,hm;exists aD hm,mm,jE
 try clear hm
 refine⟨mm,jE,fun h'' hs iE=>?_⟩;have kf:∀b o,h'.get? b=some o->¬ a8.fr b->h''.get? b=some o:=fun b o e f=>by rw[hs.2 b fun z=>f (z▸fL)];exact e
 have al:∀b o,h'.get? b=some o->∃o',h''.get? b=some o':=fun b o e=>by
  by_cases z:b=L
  ·rw[z];clear z e kf hs jE fL hL r I' S P hd X I R fy Gs G0 bX dJ leaf CR d9;exists aD iE,m',iE;exact mY iE
  ·exact⟨o,by rw[hs.2 b z];exact e⟩
 have MD:=C.qo I' kf fun a f=>let ⟨_,_,o,g⟩:=I'.cC a f;al a o g
 have T:SZ (· = L) a8 H' h' a8 H' h'':=SZ.frames (fun b o e z=>by rw[hs.2 b z];exact e) al;have T2:=((S.eW (Z:=(· = L))).trans T I I').Kj fun a z=>by rw[z];exact hL
 exact P (.ref aa) a8 h'' tk T2 MD (gf kf r)
theorem XW(hM:∀c,(model C.prog C.w).den c=denote table c)(he:C.SE n c' elt (dn e))(bX:c.inner sc=some (c',clr))
  (G0:eO C n c' c dn g m) (Gs:bZ (eO C n c' c' dn) gs ms) (fy:j0 clr (m::ms)=true):C.SE n c (.ListComp elt (g::gs) sc p) (Fh clr e (m::ms) dn):=fun A env ρ φ H s v H' Q E R I X hd P=>by
 rw[arm_eval_ListComp];obtain⟨t,it,ifs,a⟩:=g;have ha:a=0:=G0.async;subst ha;exact HP (e:=.ListComp elt (⟨t,it,ifs,0⟩::gs) sc p) rfl (Hg hM elt _ sc p) (EY he) I8 bX G0 Gs fy R I X hd P
theorem X9(hM:∀c,(model C.prog C.w).den c=denote table c)(hk:C.SE n c' kx (dn k))(hv:C.SE n c' vx (dn w))(bX:c.inner sc=some (c',clr))
  (G0:eO C n c' c dn g m) (Gs:bZ (eO C n c' c' dn) gs ms) (fy:j0 clr (m::ms)=true):C.SE n c (.DictComp kx vx (g::gs) sc p) (Hn clr k w (m::ms) dn):=fun A env ρ φ H s v H' Q E R I X hd P=>by
 rw[arm_eval_DictComp];obtain⟨t,it,ifs,a⟩:=g;have ha:a=0:=G0.async;subst ha;exact HP (e:=.DictComp kx vx (⟨t,it,ifs,0⟩::gs) sc p) rfl (F4 hM kx vx _ sc p) (JO hk hv) En bX G0 Gs fy R I X hd P
end
end
section
open PySem PySem.Calls PyProof.Rows PySem.W
section
variable {C:Cf} {n K:Nat}
structure eM (C:Cf) (n:Nat) (c:Cx) (e:PySem.Expr) (m:ME):Prop where
 star:notStar e=true
 iw:∀env x,foldedSetIterable e env x=pure x
 se:∀f,C.SE n c e (den f m)
 sb:∀f,C.SB n c e (den f m)
theorem eM.of(star:notStar e=true)(iw:∀env x,foldedSetIterable e env x=pure x)(se:∀f,C.SE n c e (n9 m (den f)))(sb:∀f,C.SB n c e (n9 m (den f))):eM C n c e m where
 star:=star
 iw:=iw
 se:=fun f=>by
  clear sb iw star;induction f using bL with
  |zero=>exact fun A env ρ φ H s v H' Q E R I X e=>by exact nq e
  |succ f=>exact se f
 sb:=fun f=>by
  clear se iw star;induction f using bL with
  |zero=>exact fun A env ρ φ H s v H' Q E R I X e=>by exact nq e
  |succ f=>exact sb f
theorem eM.plain(star:notStar e=true)(iw:∀env x,foldedSetIterable e env x=pure x)(hb:vz e=true)(se:∀f,C.SE n c e (n9 m (den f))):eM C n c e m:=
 .of star iw se fun f=>LC hb (se f)
theorem qG{α β:Type}{f:α->Option β}{P:α->β->Prop}(h:∀a b,f a=some b->P a b){as:List α}:∀{bs:List β},optL f as=some bs->bZ P as bs:=by
 induction as with
 |nil=>intro bs e;clear h;cases aH e;exact .nil
 |cons a as ih=>
  intro bs e;exists cB (lL e),b,bs,n7,e1,e2;clear e;subst n7;exact .cons (h a b e1) (ih e2)
theorem bZ.imp{α β:Type}{P Q:α->β->Prop}(h:∀a b,P a b->Q a b){as:List α}{bs:List β}(x:bZ P as bs):bZ Q as bs:=by
 induction x with
 |nil=>exact .nil
 |cons a _ ih=>exact .cons (h _ _ a) ih
theorem JQ(h:callE e=some q):∃p,e = .Call q.1 q.2.1 q.2.2 p:=by
 induction e using Expr.casesOn with
 |Call f as kws p=>exact⟨p,congrArg (fun q:PySem.Expr×List PySem.Expr×List PySem.Keyword=>PySem.Expr.Call q.1 q.2.1 q.2.2 p) (aH h)⟩
 |_=>exact nq h
theorem Nl(h:Jl e=some q):∃p pos,e = .Call (.Name q.1 p) q.2 [] pos:=by
 exists ae (aQ h),r,hr,h;exists ak (guard_some h),h1,h;exists ae (aQ h),x,hx,h;exists aD (JQ hr),pos,e;exists aD (oI hx),p,e2;exact⟨p,pos,by rw[e,oF h1,e2,<- aH h]⟩
theorem Mh(h:EJ g=some k):g = .it k:=by
 induction g using Internal.iM.casesOn with
 |it k'=>exact congrArg _ (aH h)
 |_=>exact nn h
theorem Qp(h:uC k n=some ik):(k = .enum/\n=1/\ik = .enum)\/(k = .range1/\n=1/\ik = .range1)\/(k = .range1/\n=2/\ik = .range2)\/(k = .zip/\n=2/\ik = .zip):=by
 induction k using Internal.IK.casesOn with
 |enum=>
  exists ak (guard_some h),h1,h2;exact .inl ⟨rfl,cY h1,(aH h2).symm⟩
 |range1=>
  induction q:aF n 1 using aB with
  |true=>
   unfold uC at h;rw[q]at h;exact .inr (.inl ⟨rfl,cY q,(aH h).symm⟩)
  |false=>
   unfold uC at h;rw[q]at h;exists ak (guard_some h),h1,h2;exact .inr (.inr (.inl ⟨rfl,cY h1,(aH h2).symm⟩))
 |zip=>
  exists ak (guard_some h),h1,h2;exact .inr (.inr (.inr ⟨rfl,cY h1,(aH h2).symm⟩))
 |_=>exact nn h
theorem UI(h:compIt c ce e=some (ik,ms)) :
  (∃m,ce e=some m/\ik = .seq/\ms=[m])\/∃f p es pos k,e = .Call (.Name f p) es [] pos/\c.glob f=some (.it k)/\optL ce es=some ms/\
   ((k = .enum/\ms.length=1/\ik = .enum)\/(k = .range1/\ms.length=1/\ik = .range1)\/(k = .range1/\ms.length=2/\ik = .range2)\/(k = .zip/\ms.length=2/\ik = .zip)):=by
 rcases l9 h with⟨q,h1,h2⟩|⟨_,h2⟩
 ·exists ae (aQ h1),a,ha,h1;exists ae (aQ h1),g,hg,h1;exists ae (aQ h1),k,hk,h1;clear h;cases aH h1;exists ae (aQ h2),l,hl,h2;exists ae (aQ h2),i,hi,h2;clear h1;cases aH h2;exists d7 (Nl ha),p,pos,ku;clear h2 ha;subst ku;exact .inr ⟨a.1,p,a.2,pos,k,rfl,Mh hk▸hg,hl,Qp hi⟩
 ·exists ae (aQ h2),m,hm,h2;clear h;cases aH h2;exact .inl ⟨m,hm,rfl,rfl⟩
theorem z0{c:Cx}{ce:PySem.Expr->Option ME}(G:Gl C c.gl K)(dj:∀e m,ce e=some m->eM C n c e m){e t:PySem.Expr}{tg:List Nat}{ct:Cx}{many:Bool}{ik:IK}{ms:List ME}(f:Nat)(h:compIt c ce e=some (ik,ms))(ht:compT ct t=some (tg,many))(dz:okIt ik many=true) :
  C.SI n c t e (fun ρ H=>denL (den f) ρ ms H) ik/\∀env x,foldedSetIterable e env x=pure x:=by
 rcases UI h with⟨m,hm,rfl,rfl⟩|⟨g,p,es,pos,k,rfl,hg,eF,hk⟩
 ·have O:=dj e m hm;refine⟨fun A env ρ φ H s vs H₁ items Q E R I X hd hi P=>?_,O.iw⟩;exists aT (bV (show ob (den f m ρ H) (fun v H=>ob (some ([],H)) fun vs H=>some (v::vs,H))=some (vs,H₁)from hd)),v,H2,e1,e2
  (clear hd h dz hm ht dj G;injections e2)
  exact ZL (O.se f) t R I X e1 hi P
 ·refine⟨fun A env ρ φ H s vs H₁ items Q E R I X hd hi P=>?_,fun _ _=>rfl⟩;refine RN G hg ((qG dj eF).imp fun e m O=>⟨O.star,O.se f⟩) hk (fun z=>?_) R I X hd hi P;have hm:many=true:=by
   clear P hi hd X I R eF hg h ht dj G;rcases hk with⟨rfl,_,rfl⟩|⟨rfl,_,rfl⟩|⟨rfl,_,rfl⟩|⟨rfl,_,rfl⟩
   ·exact dz
   ·clear dz;rcases z with z|z <;> cases z
   ·clear dz;rcases z with z|z <;> cases z
   ·exact dz
  clear z P hi hd X I R hk eF hg h dz dj G;rcases E8 ht with⟨x,p,i,rfl,q,_⟩|⟨es,k,p,rfl,_⟩
  ·rw[hm]at q;exact bt q
  ·exact⟨es,k,p,rfl⟩
theorem Be(dj:∀c' e m,c'.gl=c.gl->ce c' e=some m->eM C n c' e m)(f:Nat)(G:Gl C c.gl K)(ho:out.gl=c.gl)(h:compGens ce c out (g::r)=some ms) :
  ∃m gs,ms=m::gs/\eO C n c out (den f) g m/\compGens ce c c r=some gs:=by
 exists ak (guard_some h),h1,h;exists ae (aQ h),t,h2,h;exists ae (aQ h),k,h3,h;exists ae (aQ h),fs,h4,h;exists ak (guard_some h),dz,h;exists ae (aQ h),gs,iB,h;exists ak (z0 (C:=C) (n:=n) (ho▸G) (fun e m he=>dj out e m ho he) f h3 h2 dz),s1,s2;exact⟨_,gs,(aH h).symm,⟨of_decide_eq_true h1,h2,s2,s1,(qG (fun e m he=>dj c e m rfl he) h4).imp fun e m O=>O.sb f⟩,iB⟩
theorem PD(dj:∀c' e m,c'.gl=c.gl->ce c' e=some m->eM C n c' e m)(f:Nat)(G:Gl C c.gl K):∀{ms:List Gen},compGens ce c c gs=some ms->bZ (eO C n c c (den f)) gs ms:=by
 induction gs with
 |nil=>intro ms h;clear G dj;cases aH h;exact .nil
 |cons g r ih=>
  intro ms h;exists cB (Be dj f G rfl h),m,gs,qR,h1,h2;clear h G dj;subst qR;exact .cons h1 (ih h2)
end
end
section
open PySem PySem.Calls PyProof.Rows PySem.W
section
variable {C:Cf} {n K:Nat}
theorem aaM(h:decide (x=Str.ofString "__debug__")=false):(x == ("__debug__" : Str))=false:=by
 have:=of_decide_eq_false h;exact beq_eq_false_iff_ne.mpr this
theorem pP{c c':Cx}{sc:Scope}{clr:List Nat}(h:c.inner sc=some (c',clr)):c'.gl=c.gl:=by
 obtain⟨_,fr,_,_,rfl,_⟩:=y4 h;rfl
noncomputable def Sound(C:Cf)(n K k:Nat):Prop:=∀(c:Cx) (e:PySem.Expr) (m:ME),Gl C c.gl K->compE k c e=some m->eM C n c e m
theorem IP{k:Nat}{c c':Cx}{sc:Scope}{clr:List Nat}{gens:List PySem.Comprehension}{ms:List Gen}(ih:Sound C n K k)(G:Gl C c.gl K)(bX:c.inner sc=some (c',clr))(iB:compGens (compE k) c' c gens=some ms)(hg:gsOk clr ms=true) :
  ∃g gs g' eI,ms=g::gs/\gens=g'::eI/\j0 clr (g::gs)=true/\∀f,eO C n c' c (den f) g' g/\bZ (eO C n c' c' (den f)) eI gs:=by
 have G':Gl C c'.gl K:=pP bX▸G;have dj:∀(sS:Cx) e m,sS.gl=c'.gl->compE k sS e=some m->eM C n sS e m:=fun sS e m hc he=>ih sS e m (hc▸G') he;clear G ih;induction gens using aM with
 |nil=>clear dj G' bX;cases aH iB;exact nomatch hg
 |cons g' eI=>
  exists cB (Be dj 0 G' (pP bX).symm iB),g,gs,BJ,Z0,h2;subst BJ;refine⟨g,gs,g',eI,rfl,rfl,hg,fun f=>?_⟩;exists cB (Be dj f G' (pP bX).symm iB),g2,gs2,e2,h1,Z0;clear iB hg bX;cases e2;exact⟨h1,PD dj f G' h2⟩
theorem Gm{k:Nat}{c:Cx}(ih:Sound C n K k)(G:Gl C c.gl K){elt:PySem.Expr}{gens:List PySem.Comprehension}{sc:Scope}{p:Pos}{m:ME}(h:compE (k+1) c (.ListComp elt gens sc p)=some m) :
  ∃c' clr me g gs g' eI,m = .lcomp clr me (g::gs)/\gens=g'::eI/\c.inner sc=some (c',clr)/\j0 clr (g::gs)=true/\(∀f,C.SE n c' elt (den f me))/\∀f,eO C n c' c (den f) g' g/\bZ (eO C n c' c' (den f)) eI gs:=by
 exists ae (aQ h),q,bX,h;exists ae (aQ h),me,he,h;exists ae (aQ h),ms,iB,h;exists ak (guard_some h),hg,hm;exists GX (IP ih G bX iB hg),g,gs,g',eI,CS,RB,h1,h2;clear hg h iB;clear h;subst CS;clear h;subst RB;exact⟨q.1,q.2,me,g,gs,g',eI,(aH hm).symm,rfl,bX,h1,(ih _ _ _ (pP bX▸G) he).se,h2⟩
theorem Eu{k:Nat}{c:Cx}(ih:Sound C n K k)(G:Gl C c.gl K){kx vx:PySem.Expr}{gens:List PySem.Comprehension}{sc:Scope}{p:Pos}{m:ME}(h:compE (k+1) c (.DictComp kx vx gens sc p)=some m) :
  ∃c' clr mk mv g gs g' eI,m = .dcomp clr mk mv (g::gs)/\gens=g'::eI/\c.inner sc=some (c',clr)/\j0 clr (g::gs)=true/\(∀f,C.SE n c' kx (den f mk))/\(∀f,C.SE n c' vx (den f mv))/\∀f,eO C n c' c (den f) g' g/\bZ (eO C n c' c' (den f)) eI gs:=by
 exists ae (aQ h),q,bX,h;exists ae (aQ h),mk,hk,h;exists ae (aQ h),mv,hv,h;exists ae (aQ h),ms,iB,h;exists ak (guard_some h),hg,hm;exists GX (IP ih G bX iB hg),g,gs,g',eI,O7,Xl,h1,h2;clear hg h iB;clear h;subst O7;clear h;subst Xl;exact⟨q.1,q.2,mk,mv,g,gs,g',eI,(aH hm).symm,rfl,bX,h1,(ih _ _ _ (pP bX▸G) hk).se,(ih _ _ _ (pP bX▸G) hv).se,h2⟩
theorem UG(h:valOf g=some v):g = .val v:=by
 induction g using Internal.iM.casesOn with
 |val v'=>exact congrArg _ (aH h)
 |_=>exact nn h
theorem LA(h:E7 e=some q):∃p,e = .Subscript q.1 q.2 p:=by
 induction e using Expr.casesOn with
 |Subscript a i p=>exact⟨p,congrArg (fun q:PySem.Expr×PySem.Expr=>PySem.Expr.Subscript q.1 q.2 p) (aH h)⟩
 |_=>exact nq h
theorem SF(h:DY e=some q):e = .Attribute q.1 q.2.1 q.2.2:=by
 induction e using Expr.casesOn with
 |Attribute a x p=>cases aH h;rfl
 |_=>exact nn h
theorem V7(h:sliceOf e=some q):∃p,e = .Slice q.1 q.2.1 q.2.2 p:=by
 induction e using Expr.casesOn with
 |Slice a b d p=>cases aH h;exact⟨p,rfl⟩
 |_=>exact nn h
theorem LD(h:sliceOf e=none)(a b d:Option PySem.Expr)(p:Pos):e ≠ .Slice a b d p:=fun z=>by rw[z]at h;exact nomatch h
theorem Mn(h:Gr e=some q):∃p,e = .UnaryOp q.1 q.2 p:=by
 induction e using Expr.casesOn with
 |UnaryOp op a p=>cases aH h;exact⟨p,rfl⟩
 |_=>exact nn h
theorem WW(h:intOf e=some i):∃u p,e = .Constant (.int i) u p:=by
 induction e using Expr.casesOn with
 |Constant k u p=>induction k using PySem.Const.casesOn with
  |int j=>cases aH h;exact⟨u,p,rfl⟩
  |_=>exact nn h
 |_=>exact nn h
theorem N7(h:Kw e=some x):∃u p q,e = .UnaryOp .USub (.Constant (.int 1) u p) q:=by
 obtain⟨⟨op,a⟩,h1,h⟩:=aQ h;exists ak (guard_some h),h2,h;exists ae (aQ h),i,h3,h;cases of_decide_eq_true (guard_some h).1;exists aD (Mn h1),q,AV;clear h h1;clear h;subst AV;exists d7 (WW h3),u,p,e3;clear h3;clear h;induction op using PySem.UnaryOp.casesOn with
 |USub=>exact⟨u,p,q,congrArg (fun a=>PySem.Expr.UnaryOp .USub a q) e3⟩
 |_=>exact nomatch h2
theorem pl(h:some m0=some m)(star:notStar e=true)(iw:∀env x,foldedSetIterable e env x=pure x)(hb:vz e=true)(se:∀f,C.SE n c e (n9 m0 (den f))):eM C n c e m:=aH h▸eM.plain star iw hb se
theorem pb(h:some m0=some m)(star:notStar e=true)(iw:∀env x,foldedSetIterable e env x=pure x)(se:∀f,C.SE n c e (n9 m0 (den f)))(sb:∀f,C.SB n c e (n9 m0 (den f))):eM C n c e m:=aH h▸eM.of star iw se sb
theorem not_of(h:(!b)=true):b=false:=by induction b using aB with|false=>rfl|true=>exact nomatch h
theorem UK{c:Cx}{ce:PySem.Expr->Option ME}(ih:∀{e m},ce e=some m->eM C n c e m){a:PySem.Expr}{x m:ME}(hx:eM C n c a x){lo hi st:Option PySem.Expr}{q p:Pos}(h:cSlice ce x lo hi st=some m):eM C n c (.Subscript a (.Slice lo hi st q) p) m:=by
 induction st using aL with
 |some st=>
  exists ae (aQ h),Z0,h1,h;clear ih;induction lo using aL with
  |some _=>exact nn h
  |none=>induction hi using aL with
   |some _=>exact nn h
   |none=>
    exists kO (N7 h1),u,p2,q2,z;subst z;exact pl h rfl (fun _ _=>rfl) rfl fun f=>PL (hx.se f)
 |none=>induction lo using aL with
  |none=>
   exists ae (aQ h),b,z,h;clear h;subst z;exists ae (aQ h),y,hy,h;exact pl h rfl (fun _ _=>rfl) rfl fun f=>Rl (hx.se f) ((ih hy).se f)
  |some b=>induction hi using aL with
   |some _=>exact nn h
   |none=>
    exists ae (aQ h),y,hy,h;exact pl h rfl (fun _ _=>rfl) rfl fun f=>W9 (hx.se f) ((ih hy).se f)
theorem vo(hM:∀c,(model C.prog C.w).den c=denote table c)(df:K<=n)(k:Nat):Sound C n K k:=by
 induction k with
 |zero=>exact fun c e m G h=>nn h
 |succ k eK=>
 intro c e m G h;have ih:∀{e m},compE k c e=some m->eM C n c e m:=fun h=>eK c _ _ G h;have ihL:∀{es ms},optL (compE k c) es=some ms->bZ (eM C n c) es ms:=fun h=>qG (P:=eM C n c) (fun _ _ h=>ih h) h;have args:∀{es ms},optL (compE k c) es=some ms->∀f,bZ (fun e m=>notStar e=true/\C.SE n c e (den f m)) es ms:=fun h f=>(ihL h).imp fun e m O=>⟨O.star,O.se f⟩
 induction e using Expr.casesOn with
 |Constant kk u p=>
  clear args ihL ih G eK df hM;induction kk using PySem.Const.casesOn with
  |none=>exact pl h rfl (fun _ _=>rfl) rfl fun f=>se_none
  |bool b=>exact pl h rfl (fun _ _=>rfl) rfl fun f=>se_bool
  |int i=>exact pl h rfl (fun _ _=>rfl) rfl fun f=>se_int
  |str s=>exact pl h rfl (fun _ _=>rfl) rfl fun f=>se_str
  |_=>exact nn h
 |Name x p=>
  exists ak (guard_some h),h1,h;have hd:=aaM (not_of h1);clear h1 args ihL ih eK df hM;rcases l9 h with⟨i,hi,h⟩|⟨_,h⟩
  ·exact pl h rfl (fun _ _=>rfl) rfl fun f=>Z2 hi hd
  ·exists ae (aQ h),g,hg,h;exists ae (aQ h),v,hv,h;exact pl h rfl (fun _ _=>rfl) rfl fun f=>LM G (UG hv▸hg)
 |BinOp a op b p=>
  exists ae (aQ h),x,hx,h;exists ae (aQ h),y,hy,h;exact pl h rfl (fun _ _=>rfl) rfl fun f=>Sj ((ih hx).se f) ((ih hy).se f)
 |UnaryOp op a p=>
  exists ae (aQ h),x,hx,h;clear args ihL G eK df hM;induction op using PySem.UnaryOp.casesOn with
  |USub=>exact pl h rfl (fun _ _=>rfl) rfl fun f=>se_neg ((ih hx).se f)
  |Not=>exact pb h rfl (fun _ _=>rfl) (fun f=>se_not ((ih hx).se f)) fun f=>sb_not ((ih hx).sb f)
  |_=>exact nn h
 |BoolOp op l p=>
  exists ae (aQ h),ms,hms,h;clear args ih G eK df hM;induction op using PySem.BoolOp.casesOn with
  |And=>exact pb h rfl (fun _ _=>rfl) (fun f=>se_and p l ms ((ihL hms).imp fun e m O=>O.se f)) fun f=>sb_and p ((ihL hms).imp fun e m O=>O.sb f)
  |Or=>exact pb h rfl (fun _ _=>rfl) (fun f=>se_or p l ms ((ihL hms).imp fun e m O=>O.se f)) fun f=>sb_or p ((ihL hms).imp fun e m O=>O.sb f)
 |Compare a ops bs p=>
  exists ae (aQ h),op,h1,h;exists ae (aQ h),b,h2,h;clear h args ihL G eK df hM;clear h;cases ua h1;clear h1;cases ua h2;exists ae (aQ h),x,hx,h;exists ae (aQ h),y,hy,h;exists ak (guard_some h),hm,h;exact pb h rfl (fun _ _=>rfl) (fun f=>ZH ((ih hx).se f) ((ih hy).se f) (not_of hm)) fun f=>UY ((ih hx).se f) ((ih hy).se f) (not_of hm)
 |IfExp t a b p=>
  exists ae (aQ h),x,ht,h;exists ae (aQ h),y,ha,h;exists ae (aQ h),z,hb,h;exact pb h rfl (fun _ _=>rfl) (fun f=>Vv ((ih ht).sb f) ((ih ha).se f) ((ih hb).se f)) fun f=>US ((ih ht).sb f) ((ih ha).sb f) ((ih hb).sb f)
 |Tuple l u p=>
  exists ak (guard_some h),hl,h;exists ae (aQ h),ms,hms,h;exact pl h rfl (fun _ _=>rfl) rfl fun f=>Vg (bC hl) (args hms f)
 |List l p=>
  exists ak (guard_some h),hl,h;exists ae (aQ h),ms,hms,h;exact pl h rfl (fun _ _=>rfl) rfl fun f=>QP (bC hl) (args hms f)
 |ListComp elt gens sc p=>
  exists DB (Gm eK G h),c',clr,me,g,gs,g',eI,WB,WZ,bX,h1,he,hg;clear h args ihL ih G eK df;subst WB;subst WZ;exact .plain rfl (fun _ _=>rfl) rfl fun f=>XW hM (he f) bX (hg f).1 (hg f).2 h1
 |DictComp kx vx gens sc p=>
  exists Kq (Eu eK G h),c',clr,mk,mv,g,gs,g',eI,YW,Pl,bX,h1,hk,hv,hg;clear h args ihL ih G eK df;subst YW;subst Pl;exact .plain rfl (fun _ _=>rfl) rfl fun f=>X9 hM (hk f) (hv f) bX (hg f).1 (hg f).2 h1
 |Dict ks vs p=>
  clear args ihL G eK df hM;induction ks using aM with
  |nil=>
   exists ak (guard_some h),h1,h9;clear h;clear ih;cases oF h1;have h:=h9;exact pl h rfl (fun _ _=>rfl) rfl fun f=>Rb
  |cons o r=>
   exists ak (guard_some h),h1,h9;clear h;cases oF h1;have h:=h9;exists ae (aQ h),kx,h0,h;exists ae (aQ h),vx,h2,h;exists ae (aQ h),mk,hk,h;exists ae (aQ h),mv,hv,h5;clear h h1 h9;clear h;subst h0;clear h;cases ua h2;exact pl h5 rfl (fun _ _=>rfl) rfl fun f=>YM ((ih hk).se f) ((ih hv).se f)
 |Call fn es kws p=>
  exists ak (guard_some h),h1,h9;exists ak ((cU _ _).mp h1),h1,hl;clear h;clear ihL eK hM;cases oF h1;exists ae (aQ h9),ms,hms,h;clear h1 h9;clear h1;rcases l9 h with⟨x,hx,h⟩|⟨_,h⟩
  ·exists aD (oI hx),q,MG;clear h hx hl ih;subst MG;exists ae (aQ h),g,hg,h
   induction g using Internal.iM.casesOn with
   |fn g=>exact pl h rfl (fun _ _=>rfl) rfl fun f=>Wf G hg df (args hms f)
   |bi b=>
    exists ae (aQ h),b',hb,h;exact pl h rfl (fun _ _=>rfl) rfl fun f=>Zz G hg hb (args hms f)
   |_=>exact nn h
  ·clear G df;obtain⟨⟨o,x,q⟩,hq,h⟩:=aQ h;clear h;cases SF hq;exists ak (guard_some h),h1,h;exists ak ((cU _ _).mp h1),h2,h3;exists ae (aQ h),mo,ho,h;exists ae (aQ h),kk,hk,h;exact pl h rfl (fun _ _=>rfl) rfl fun f=>Rj h2 h3 (bC hl) hk ((ih ho).se f) (args hms f)
 |Subscript a i p=>
  exists ae (aQ h),x,hx,h;clear args ihL G eK df hM;rcases l9 h with⟨s,hq,h⟩|⟨hq,h⟩
  ·exact aD (V7 hq) fun q z=>z▸UK ih (ih hx) h
  ·exists ae (aQ h),y,hy,h;exact pl h rfl (fun _ _=>rfl) rfl fun f=>RY ((ih hx).se f) ((ih hy).se f) (LD hq)
 |_=>exact nn h
end
end
section
open PySem PySem.Calls PyProof.Rows PySem.W
inductive mI (C:Cf) (φ:Ph) (H:Hp) (h:Heap):Fl->Flow->Prop
 |next:mI C φ H h .next .next
 |cont:mI C φ H h .cont .cont
 |ret {v:V} {x:Value}:C.R φ H h v x->mI C φ H h (.ret v) (.ret x)
noncomputable def Cf.pL(C:Cf)(c:Cx)(env:Env)(φ:Ph)(H:Hp)(s:Shared)(fl:Fl)(ρ':ai)(H':Hp)(Q:Flow->Shared->Prop):Prop:=
 ∀a8 h' tk x,SZ (Zf c env) φ H s.heap a8 H' h'->C.I a8 H' h'->ER C c ρ' env a8 H' h'->mI C a8 H' h' fl x->Q x { s with heap:=h',toks:=tk }
noncomputable def Cf.SS(C:Cf)(n:Nat)(c:Cx)(st:PySem.Stmt)(f:ai->Hp->Option (Fl×ai×Hp)):Prop:=∀A env ρ φ H s fl ρ' H' Q E,Rm A n->C.I φ H s.heap->ER C c ρ env φ H s.heap->f ρ H=some (fl,ρ',H')->
 C.pL c env φ H s fl ρ' H' Q->C.wp A (exec st env) Q E s
noncomputable def Cf.jK(C:Cf)(n:Nat)(c:Cx)(st:List PySem.Stmt)(f:ai->Hp->Option (Fl×ai×Hp)):Prop:=∀A env ρ φ H s fl ρ' H' Q E,Rm A n->C.I φ H s.heap->ER C c ρ env φ H s.heap->f ρ H=some (fl,ρ',H')->
 C.pL c env φ H s fl ρ' H' Q->C.wp A (execs st env) Q E s
section
variable {C:Cf} {n:Nat} {c:Cx} {φ ax:Ph} {H H₁:Hp} {s:Shared} {env:Env} {ρ:ai}
theorem Cf.pL.step(P:C.pL c env φ H s fl ρ' H' Q)(S:SZ (Zf c env) φ H s.heap ax H₁ ao)(I:C.I φ H s.heap)(ah:C.I ax H₁ ao):C.pL c env ax H₁ { s with heap:=ao,toks:=tk₁ } fl ρ' H' Q:=
 fun a8 h' tk x S' I' X' r=>P a8 h' tk x (S.trans S' I ah) I' X' r
theorem uz(e:Internal.sb x f=some r):∃a ρ H,x=some (a,ρ,H)/\f a ρ H=some r:=by
 induction x using aL with
 |none=>exact nq e
 |some p=>obtain⟨a,ρ,H⟩:=p;exact⟨a,ρ,H,rfl,e⟩
theorem M8(he:C.SE n c e d):C.SS n c (.Return (some e) p) (fun ρ H=>ob (d ρ H) fun v H=>some (.ret v,ρ,H)):=fun A env ρ φ H s fl ρ' H' Q E R I X hd P=>by
 exists aT (bV hd),v,H₁,e1,e2;clear hd;cases e2;exact wpAny_Return_some (he A env ρ φ H s v H' _ E R I X e1 fun x a8 h' tk S' I' r=>P a8 h' tk _ S'.eW I' (X.step S' I) (.ret r))
theorem Pb:C.SS n c (.Continue p) (fun ρ H=>some (.cont,ρ,H)):=fun A env ρ φ H s fl ρ' H' Q E R I X hd P=>by
 (clear R;exists jq hd,zJ,AE,BO;clear hd;subst zJ;subst AE;subst BO)
 exact wpAny_Continue (P φ s.heap s.toks _ (SZ.refl ..) I X .cont)
theorem OX(he:C.SE n c (.Call f es kws q) d):C.SS n c (.Expr (.Call f es kws q) p) (fun ρ H=>ob (d ρ H) fun _ H=>some (.next,ρ,H)):=fun A env ρ φ H s fl ρ' H' Q E R I X hd P=>by
 exists aT (bV hd),v,H₁,e1,e2;clear hd;cases e2;exact wpAny_Expr_any (he A env ρ φ H s v H' _ E R I X e1 fun x a8 h' tk S' I' r=>P a8 h' tk _ S'.eW I' (X.step S' I) .next) (by unfold interactive;rw[X.kind];rfl) rfl
theorem aah:C.jK n c [] (fun ρ H=>some (.next,ρ,H)):=fun A env ρ φ H s fl ρ' H' Q E R I X hd P=>by
 (clear R;exists jq hd,za3,Td,Yb;clear hd;subst za3;subst Td;subst Yb)
 exact wpAny_execs_nil (P φ s.heap s.toks _ (SZ.refl ..) I X .next)
theorem aac{st:PySem.Stmt}{r:List PySem.Stmt}{d ds:ai->Hp->Option (Fl×ai×Hp)}(h1:C.SS n c st d)(h2:C.jK n c r ds):C.jK n c (st::r) (fun ρ H=>Internal.sb (d ρ H) fun f ρ H=>match f with
  |.next=>ds ρ H
  |.cont=>some (.cont,ρ,H)
  |.ret v=>some (.ret v,ρ,H)):=fun A env ρ φ H s fl ρ' H' Q E R I X hd P=>by
 exists nH (uz hd),f,ρ₁,H₁,e1,e2;rw[arm_execs_cons];refine a9 (h1 A env ρ φ H s f ρ₁ H₁ _ E R I X e1 fun a8 h' tk x S' I' X' r'=>?_);clear e1 hd X h1;cases r' with
 |next=>exact h2 A env ρ₁ a8 H₁ { s with heap:=h',toks:=tk } fl ρ' H' Q E R I' X' e2 (P.step S' I I')
 |cont=>(exists jq e2,Pz,QN,OY;clear e2;subst Pz;subst QN;subst OY);exact aw (P a8 h' tk _ S' I' X' .cont)
 |ret r=>(exists jq e2,Px,Pf,QZ;clear e2;subst Px;subst Pf;subst QZ);exact aw (P a8 h' tk _ S' I' X' (.ret r))
theorem FT:∀{l:List PySem.Stmt} {ms:List MS},bZ (fun st m=>C.SS n c st (ds m)) l ms->C.jK n c l (denSs ds ms):=fun h=>by
 induction h with
 |nil=>exact aah
 |cons a _ ih=>exact aac a ih
theorem S8(ht:C.SB n c t dt)(ha:C.jK n c a da)(hb:C.jK n c b db):C.SS n c (.If t a b p) (fun ρ H=>cL (dt ρ H) fun c H=>match c with
  |true=>da ρ H
  |false=>db ρ H):=fun A env ρ φ H s fl ρ' H' Q E R I X hd P=>by
 exists aT (nF hd),bb,H₁,e1,e2;refine wpAny_If (ht A env ρ φ H s bb H₁ _ E R I X e1 fun x a8 h' tk S' I' hx=>?_);clear e1 hd ht;subst hx
 induction x using aB with
 |true=>exact ha A env ρ a8 H₁ { s with heap:=h',toks:=tk } fl ρ' H' Q E R I' (X.step S' I) e2 (P.step S'.eW I I')
 |false=>exact hb A env ρ a8 H₁ { s with heap:=h',toks:=tk } fl ρ' H' Q E R I' (X.step S' I) e2 (P.step S'.eW I I')
theorem OV(he:C.SE n c e d1)(ho:C.SE n c o d2)(hi:C.SE n c i d3):C.SS n c (.Assign [.Subscript o i q] e p) (fun ρ H=>ob (d1 ρ H) fun v H=>ob (d2 ρ H) fun ov H=>ob (d3 ρ H) fun iv H=>tK ρ (jb H ov iv v)):=fun A env ρ φ H s fl ρ' H' Q E R I X hd P=>by
 exists aT (bV hd),v,H₁,e1,hd;exists aT (bV hd),ov,aE,e2,hd;exists aT (bV hd),iv,pD,e3,hd
 induction hs:jb pD ov iv v using aL with
 |none=>rw[hs]at hd;exact nq hd
 |some H4=>
  rw[hs]at hd
  (exists jq hd,UD,P8,M3;clear hd;clear hd;subst UD;clear hd;subst P8;clear hd;subst M3)
  refine wpAny_Assign_Subscript (he A env ρ φ H s v H₁ _ E R I X e1 fun x ax ao b7 aA ah aR=>?_) ?_
  ·exists ho A env ρ ax H₁ { s with heap:=ao,toks:=b7 } ov aE _ E R ah (X.step aA I) e2,y,bp,aV,ed,aP,aC,du;have fB:=aA.trans aP I ah;exists hi A env ρ bp aE { s with heap:=aV,toks:=ed } iv pD _ E R aC (X.step fB I) e3,z,qM,cR,k8,de,cK,ic;have mA:=fB.trans de I aC;exists C.store (s:={ s with heap:=cR,toks:=k8 }) cK R (de.vr aC du) ic ((aP.trans de ah aC).vr ah aR) hs,Z0,R9,h₄,O6,Ys,Yu,Z0;have Fx:=mA.trans Ys I cK;exact P R9 h₄ O6 _ Fx.eW Yu (X.step Fx I) .next
  ·induction e using Expr.casesOn <;> rfl
set_option tactic.hygienic true in
theorem XA(ht:c.tgt x=some i)(he:C.SE n c e d):C.SS n c (.AugAssign (.Name x q) .Add e p) (fun ρ H=>match cI ρ i with
  |some x=>ob (d ρ H) fun y H=>ob (augV .Add x y H) fun r H=>some (.next,slotS ρ i (some r),H)
  |none=>none):=fun A env ρ φ H s fl ρ' H' Q E R I X hd P=>by
 dsimp only at hd;exists jY hd,v,hv,hd
 ·exists aT (bV hd),y,H₁,e1,hd;exists aT (bV hd),r,aE,e2,hd
  (exists jq hd,Zb,RJ,TC;clear hd;subst Zb;subst RJ;subst TC)
  have hs:c.slot x=some i:=by
   exists ak (Dm ht),h1,h2;unfold cF.slot;clear hd P e2 e1 hv X I R he ht;rcases h1 with h1|h1 <;> rw[h1] <;> exact h2
  unfold augV at e2;split at e2
  ·split at e2
   ·rename_i a b
    (clear hd;injections e2)
    refine wpAny_AugAssign_Name (Jk X hs hv fun z rz=>?_);exists aD (int_at rz),t,Ar;clear rz hd hv hs;subst Ar;exists he A env ρ φ H s _ _ _ E R I X e1,z,ax,ao,b7,aA,ah,aR;exists aD (int_at aR),u,Na;clear aR e1 R he;subst Na;refine iadd_int (s:={ s with heap:=ao,toks:=b7 }) ?_;exists(X.step aA I).store (s:={ s with heap:=ao,toks:=b7+1 }) ah ht (.int _ _),h',tk,I',S',X';exact P ax h' tk _ ((aA.eW).trans S' I ah) I' X' .next
   ·exact nq e2
  ·exact nq e2
end
end
section
open PySem PySem.Calls PyProof.Rows PySem.W
section
variable {C:Cf} {n:Nat} {c:Cx} {φ ax:Ph} {H H₁:Hp} {s:Shared} {env:Env} {ρ:ai} {A:Around} {E:Value->Shared->Prop}
noncomputable def Ek(e:PySem.Expr):Bool:=match e with
 |.ListComp _ _ _ _=>true
 |.SetComp _ _ _ _=>true
 |.DictComp _ _ _ _ _=>true
 |_=>false
def HK(e:PySem.Expr):Prop:=(∃a gs sc p,e = .ListComp a gs sc p)\/(∃a gs sc p,e = .SetComp a gs sc p)\/∃k v gs sc p,e = .DictComp k v gs sc p
theorem VJ(h:Ek e=true):HK e:=by
 induction e using Expr.casesOn with
 |ListComp=>exact .inl ⟨_,_,_,_,rfl⟩
 |SetComp=>exact .inr (.inl ⟨_,_,_,_,rfl⟩)
 |DictComp=>exact .inr (.inr ⟨_,_,_,_,_,rfl⟩)
 |_=>exact bf h
theorem Qu(e:PySem.Expr)(x:Str)(q:Pos)(line:Nat)(env:Env):∃b,swapsWith e (some (.Name x q)) line env=pure (bB (Ek e) b):=by
 induction e using Expr.casesOn with
 |ListComp=>exact⟨_,rfl⟩
 |SetComp=>exact⟨_,rfl⟩
 |DictComp=>exact⟨_,rfl⟩
 |_=>exact⟨true,rfl⟩
theorem Lb(e:PySem.Expr)(x:Str)(q:Pos)(line:Nat)(env:Env):∃b,swapsWith e (some (.Name x q)) line env=pure b/\(b=true->HK e):=
 aD (Qu e x q line env) fun b h=>⟨_,h,fun z=>VJ (nJ z).1⟩
theorem Ul(ht:c.tgt x=some i)(he:C.SE n c e d)(R:Rm A n)(I:C.I φ H s.heap)(X:ER C c ρ env φ H s.heap)
  (hd:ob (d ρ H) (fun v H=>some (Fl.next,slotS ρ i (some v),H))=some (fl,ρ',H')) (P:C.pL c env φ H s fl ρ' H' Q) (hs:swapsWith e (some (.Name x q)) p.line env=pure false):C.wp A (exec (.Assign [.Name x q] e p) env) Q E s:=by
 exists aT (bV hd),v,H₁,e1,e2;clear hd;cases e2;refine wpAny_Assign_Name (he A env ρ φ H s v H' _ E R I X e1 fun y ax ao b7 aA ah aR=>?_) hs;exists(X.step aA I).store (s:={ s with heap:=ao,toks:=b7 }) ah ht aR,h',tk,I',S',X';exact P ax h' tk _ (aA.eW.trans S' I ah) I' X' .next
theorem Jd
  {Q:Value->Shared->Prop} {x:Str} {i:Nat} {v:V} {H':Hp}
  (d9:clausesOf e=g::gs) (CR:lN (model C.prog C.w) e (g::gs) eS) (leaf:∀na,C.lT n c' eS na (emit na)) (dJ:C.pj hC o) (bX:c.inner sc=some (c',clr))
  (G0:eO C n c' c dn g m) (Gs:bZ (eO C n c' c' dn) gs ms) (fy:j0 clr (m::ms)=true) (R:Rm A n) (I:C.I φ H s.heap) (X:ER C c ρ env φ H s.heap) (hd:qm emit o clr (m::ms) dn ρ H=some (v,H')) (ht:c.tgt x=some i)
  (P:∀a8 h' tk,SZ (Zf c env) φ H s.heap a8 H' h'->C.I a8 H' h'->ER C c (slotS ρ i (some v)) env a8 H' h'->Q .none { s with heap:=h',toks:=tk }) :
  C.wp A (comprehension e sc env pos hC false (eval g.iter env) (some fun v=>assignAll v ((assignEach [.Name x q] env).map (·.2)))) Q E s:=by
 exists EZ d9 CR leaf dJ bX G0 Gs fy R I X hd,a8,h',tk,aa,L,S,I',r,hL,fL,hm;exists aD hm,mm,jE
 try clear hm
 have X':=X.step S I;have nL:¬ Zf c env L:=fun z=>by
  clear X' jE fL r I' S P ht hd R fy Gs G0 bX dJ leaf CR d9;obtain⟨_,_,o,g⟩:=I.cC L (X.zf L z);rw[hL]at g;exact nq g
 show C.wp A (assign (.Name x q) env (.ref aa)) _ E { s with heap:=h',toks:=tk };exists yb (s:={ s with heap:=h',toks:=tk }) X' I' ht r,bp,aV,ed,aP,aC,yc;have kL:∀o,h'.get? L=some o->aV.get? L=some o:=fun o e=>aP.keep L o e (fun u=>by
  exists b6 u,en,m,Z0,q
  try clear u
  exact(I'.cC L fL).2.1 en m q) nL
 refine⟨mm,i6 jE kL,fun cR hs iE=>?_⟩;have B9:=aP.dE L fL;have kf:∀b o,aV.get? b=some o->¬ bp.fr b->cR.get? b=some o:=fun b o e f=>by rw[hs.2 b fun z=>f (z▸B9)];exact e
 have al:∀b o,aV.get? b=some o->∃o',cR.get? b=some o':=fun b o e=>by
  by_cases z:b=L
  ·rw[z];clear z e kf B9 hs kL yc aC aP nL X' jE fL hL r I' S P ht hd X I R fy Gs G0 bX dJ leaf CR d9;obtain⟨m',iE⟩:=iE;exact mY iE
  ·exact⟨o,by rw[hs.2 b z];exact e⟩
 have cK:=C.qo aC kf fun a f=>let ⟨_,_,o,g⟩:=aC.cC a f;al a o g
 have ap:Apart env [L]:=qq X I fun b hb=>by rw[c7.mp hb];exact hL
 have iK:=yc.frames ap (h':=cR) (fun b hb=>by rw[c7.mp hb];exact B9) fun b o nb e=>by rw[hs.2 b fun z=>nb (by rw[z];exact .head _)];exact e
 have T:SZ (fun b=>Zf c env b\/b=L) bp H' aV bp H' cR:=SZ.frames (fun b o e z=>by rw[hs.2 b fun q=>z (.inr q)];exact e) al;have T2:=((S.eW (Z:=fun b=>Zf c env b\/b=L)).trans (aP.mono fun b z=>.inl z) I I').trans T I aC;exact P bp cR ed (T2.drop fun b z=>z.imp id fun z=>by rw[z];exact hL) cK iK
theorem Wv(ρ:ai):∀(i j:Nat) (v w:Option V),i≠j->slotS (slotS ρ i v) j w=slotS (slotS ρ j w) i v:=by
 induction ρ with
 |nil=>intros;rfl
 |cons x ρ ih=>
  intro i j v w h
  induction i using bL with
  |zero=>induction j using bL with
   |zero=>exact absurd rfl h
   |succ j=>rfl
  |succ i=>induction j using bL with
   |zero=>rfl
   |succ j=>exact congrArg (x :: ·) (ih i j v w fun z=>h (by rw[z]))
theorem SW(is:List Nat):∀(l:List V) (ρ ρ':ai) (i:Nat) (v:V),i ∉ is->bindTs (slotS ρ i (some v)) is l=some ρ'->∃ρ₁,bindTs ρ is l=some ρ₁/\ρ'=slotS ρ₁ i (some v):=by
 induction is with
 |nil=>
  intro l ρ ρ' i v _ e
  induction l using aM with
  |nil=>exact⟨ρ,rfl,(aH e).symm⟩
  |cons=>exact nq e
 |cons j is ih=>
  intro l ρ ρ' i v h e
  induction l using aM with
  |nil=>exact nq e
  |cons w l=>
   have e:bindTs (slotS (slotS ρ i (some v)) j (some w)) is l=some ρ':=e;rw[Wv ρ i j _ _ fun z=>h (by rw[z];exact .head _)]at e;exact ih l _ ρ' i v (fun m=>h (.tail _ m)) e
theorem Ye(is:List Nat):∀(l:List V) (ρ ρ₁:ai) (i:Nat) (v:V),bindTs ρ is l=some ρ₁->bindTs ρ (is++[i]) (l++[v])=some (slotS ρ₁ i (some v)):=by
 induction is with
 |nil=>
  intro l ρ ρ₁ i v e
  induction l using aM with
  |nil=>rw[<- aH e];rfl
  |cons=>exact nq e
 |cons j is ih=>
  intro l ρ ρ₁ i v e
  induction l using aM with
  |nil=>exact nq e
  |cons w l=>exact ih l _ ρ₁ i v e
theorem YS(is:List Nat):∀(l:List V) (ρ ρ':ai),is.Nodup->bindTs ρ is l=some ρ'->bindTs ρ is.reverse l.reverse=some ρ':=by
 induction is with
 |nil=>
  intro l ρ ρ' _ e
  induction l using aM with
  |nil=>exact e
  |cons=>exact nq e
 |cons i is ih=>
  intro l ρ ρ' nd e
  induction l using aM with
  |nil=>exact nq e
  |cons v l=>
   rw[ee]at nd;exists ae (SW is l ρ ρ' i v nd.1 e),ρ₁,e1,zP;clear e;subst zP;rw[List.reverse_cons,List.reverse_cons];exact Ye _ _ _ _ _ _ (ih l ρ ρ₁ nd.2 e1)
theorem XC(ns:List Str):∀(is:List Nat) (ρ ρ':ai) (l:List V) (vs:List Value) (φ:Ph) (s:Shared) (Q:Unit->Shared->Prop),optL c.tgt ns=some is->bindTs ρ is l=some ρ'->C.Rs φ H s.heap l vs->ER C c ρ env φ H s.heap->C.I φ H s.heap->
  C.mX c env φ H s H ρ' Q->C.wp A (assignInOrder (ns.map fun n=>bindName env n) vs) Q E s:=by
 induction ns with
 |nil=>
  intro is ρ ρ' l vs φ s Q h hb rs X I P;exists h
  induction l using aM with
  |nil=>
   exists hb;cases rs;exact assignInOrder_nil (P φ s.heap s.toks (SZ.refl ..) I X)
  |cons=>exact nq hb
 |cons x ns ih=>
  intro is ρ ρ' l vs φ s Q h hb rs X I P;exists cB (lL h),i,is,XT,ht,h2;clear h;subst XT
  induction l using aM with
  |nil=>exact nq hb
  |cons v l=>
   cases rs with
   |cons r1 r2=>
    show C.wp A (assignInOrder (bindName env x::ns.map fun n=>bindName env n) (_::_)) Q E s;refine assignInOrder_cons (bindName_ (X.store I ht r1 fun ao b7 ah aA gJ=>?_));exact ih is _ ρ' l _ φ _ Q h2 hb (aA.iz I X.zf r2) gJ ah (P.step aA I ah)
theorem Tw{α β:Type}{f:α->Option β}{as:List α}:∀{bs:List α} {xs ys:List β},optL f as=some xs->optL f bs=some ys->optL f (as++bs)=some (xs++ys):=by
 induction as with
 |nil=>
  intro bs xs ys e1 e2;exists e1;exact e2
 |cons a as eK=>
  intro bs xs ys e1 e2;exists cB (lL e1),b,xs,rL,h1,h2;clear e1;subst rL;have ih:=eK h2 e2;show(match f a with
   |some b=>match optL f (as++bs)with
    |some bs=>some (b::bs)
    |none=>none
   |none=>none)=_
  rw[h1,ih];rfl
theorem Sn{α β:Type}{f:α->Option β}{as:List α}:∀{xs:List β},optL f as=some xs->optL f as.reverse=some xs.reverse:=by
 induction as with
 |nil=>
  intro xs e;exists e;rfl
 |cons a as ih=>
  intro xs e;exists cB (lL e),b,xs,AA,h1,h2;clear e;subst AA;rw[List.reverse_cons,List.reverse_cons];refine Tw (ih h2) ?_;show(match f a with
   |some b=>some [b]
   |none=>none)=_
  rw[h1]
theorem ZR(f:PySem.Expr->Option Str)(hf:∀e y,f e=some y->∃p,e = .Name y p)(es:List PySem.Expr):∀(is:List Nat),optL (jA c) es=some is->(es.filterMap f).length=es.length->optL c.tgt (es.filterMap f)=some is:=by
 induction es with
 |nil=>intro is h _;exact h
 |cons e es ih=>
  intro is h hl;exists cB (lL h),i,is,YK,h1,h2;clear h;subst YK
  induction rO:f e using aL with
  |none=>
   rw[List.filterMap_cons_none rO]at hl;have:=List.length_filterMap_le f es;rw[hl]at this;exact absurd this (Nat.not_succ_le_self _)
  |some y=>
   rw[List.filterMap_cons_some rO]at hl ⊢;exists aD (hf e y rO),p,Cu;subst Cu;have ih:=ih is h2 (gW hl);have h1:c.tgt y=some i:=h1;dsimp only[optL];rw[h1,ih]
theorem Uv(h:qn e=none):swappedStores [.Tuple es k q] e env=pure none:=by
 induction e using Expr.casesOn with
 |Tuple=>exact ns h
 |_=>rfl
noncomputable def Va(c:Cx)(is:List Nat)(z:PySem.Sem (Option (List Str))):Prop:=z=pure none\/∃ns,z=pure (some ns)/\optL c.tgt ns=some is
theorem vU{A:Type}{c:Prop}[Decidable c]{a b:A}{P:A->Prop}(h1:P a)(h2:¬c->P b):P (if c then a else b):=if h:c then if_pos h▸h1 else if_neg h▸h2 h
theorem ite_sm{A:Type}{c:Prop}[Decidable c]{a b:A}(h:(if c then some a else none)=some b):a=b:=if k:c then aH ((if_pos k).symm.trans h)else nq ((if_neg k).symm.trans h)
theorem Zr(es:List PySem.Expr)(is:List Nat)(k:Nat)(q:Pos)(e:PySem.Expr)(env:Env)(he:optL (jA c) es=some is)(hs:wV e=true) :
  swappedStores [.Tuple es k q] e env=pure none\/∃ns,swappedStores [.Tuple es k q] e env=pure (some ns)/\optL c.tgt ns=some is:=by
 induction ht:qn e using aL with
 |none=>exact .inl (Uv ht)
 |some vs=>
 exists d7 (Cm ht),k',p',z;clear ht;subst z;have hs:(match vs.all (PySem.constantsAlone 8)with
  |true=>vs.all (PySem.foldedForSure 8)
  |false=>true)=true:=hs
 refine vU (P:=Va c is) (.inl rfl) fun _=>vU (.inl rfl) fun _=>vU (.inl rfl) fun h3=>vU (.inl rfl) fun h4=>?_
 induction h5:vs.all (PySem.constantsAlone 8)using aB with
 |true=>
  rw[h5]at hs;exact absurd hs h4
 |false=>
  refine .inr ⟨_,rfl,?_⟩;refine ZR _ (fun e y h=>?_) es is he (Decidable.byContradiction fun z=>h3 (by rw[Bool.or_eq_true];exact .inl (bne_iff_ne.mpr z)))
  induction e using Expr.casesOn with
  |Name a p=>exact⟨p,congrArg (PySem.Expr.Name · p) (ite_sm h)⟩
  |_=>exact nq h
end
end
section
open PySem PySem.Calls PyProof.Rows PySem.W
section
variable {C:Cf} {n K:Nat} {c:Cx}
theorem WH{α β:Type}{f:α->Option β}{as:List α}:∀{bs:List β},optL f as=some bs->bs.length=as.length:=by
 induction as with
 |nil=>intro bs e;cases aH e;rfl
 |cons a as ih=>
  intro bs e;exists cB (lL e),b,bs,Aq,Z0,h2;clear e;subst Aq;rw[fV,fV,ih h2]
theorem Sw(h:compE k c (.SetComp elt gens sc p)=some m):False:=by
 induction k using bL with
 |zero=>exact nq h
 |succ k=>have h:(none:Option ME)=some m:=h;exact nq h
theorem aaA(hM:∀c,(model C.prog C.w).den c=denote table c)(df:K<=n)(G:Gl C c.gl K)(h:compE k c e=some m)(ht:c.tgt x=some i)(q p:Pos)(f:Nat) :
  C.SS n c (.Assign [.Name x q] e p) (fun ρ H=>ob (den f m ρ H) fun v H=>some (.next,slotS ρ i (some v),H)):=fun A env ρ φ H s fl ρ' H' Q E R I X hd P=>by
 exists ae (Lb e x q p.line env),b,hs,hb
 induction b using aB with
 |false=>exact Ul ht ((vo hM df k c e m G h).se f) R I X hd P hs
 |true=>
  exists aT (bV hd),v,H₁,e1,e2
  (clear hd;exists jq e2,zB,Am,BR;clear e2;subst zB;subst Am;subst BR)
  induction f using bL with
  |zero=>exact nq e1
  |succ f=>
  have fin:C.wp A (evalThenUse e env (fun v=>assignAll v ((assignEach [.Name x q] env).map (·.2)))) (fun _ s'=>Q .next s') E s->C.wp A (exec (.Assign [.Name x q] e p) env) Q E s:=fun hm=>by
   rw[arm_exec_Assign];refine a9 (g8 ?_);rw[show swapsWithSole [.Name x q] e p.line env=pure true from hs];refine a9 (aw ?_);refine g6 rfl ?_;exact a9 (cu hm (fun _ s' h'=>aw h') fun _ _ x=>x)
  refine fin ?_
  induction k using bL with
  |zero=>exact nn h
  |succ k=>
  rcases hb rfl with⟨elt,gens,sc,pc,rfl⟩|⟨elt,gens,sc,pc,rfl⟩|⟨kx,vx,gens,sc,pc,rfl⟩
  ·exists DB (Gm (vo hM df k) G h),c',clr,me,g,gs,g',eI,RI,NG,bX,h1,he,hg;clear h hb G df;subst RI;subst NG;exists ak (hg f),G0,Gs;clear hg;obtain⟨t,it,ifs,a⟩:=g';have ha:a=0:=G0.async;subst ha;rw[arm_evalThenUse_ListComp];refine a9 ?_;exact Jd (e:=.ListComp elt (⟨t,it,ifs,0⟩::eI) sc pc) rfl (Hg hM elt _ sc pc) (EY (he f)) I8 bX G0 Gs h1 R I X e1 ht fun a8 h' tk S' I' X'=>aw (P a8 h' tk _ S' I' X' .next)
  ·exact(Sw h).elim
  ·exists Kq (Eu (vo hM df k) G h),c',clr,mk,mv,g,gs,g',eI,Np,WL,bX,h1,hk,hv,hg;clear h hb G df;subst Np;subst WL;exists ak (hg f),G0,Gs;clear hg;obtain⟨t,it,ifs,a⟩:=g';have ha:a=0:=G0.async;subst ha;rw[arm_evalThenUse_DictComp];refine a9 ?_;exact Jd (e:=.DictComp kx vx (⟨t,it,ifs,0⟩::eI) sc pc) rfl (F4 hM kx vx _ sc pc) (JO (hk f) (hv f)) En bX G0 Gs h1 R I X e1 ht fun a8 h' tk S' I' X'=>aw (P a8 h' tk _ S' I' X' .next)
set_option tactic.hygienic true in
theorem Qz(ht:optL (jA c) es=some is)(b9:is.Nodup)(hs:wV e=true)(he:C.SE n c e d) :
  C.SS n c (.Assign [.Tuple es u q] e p) (fun ρ H=>ob (d ρ H) fun v H=>tU (eB ρ is true v) H):=fun A env ρ φ H s fl ρ' H' Q E R I X hd P=>by
 exists aT (bV hd),v,H₁,e1,e2;clear hd;induction hb:eB ρ is true v using aL with
 |none=>rw[hb]at e2;exact nq e2
 |some ρ₁=>
  rw[hb]at e2;cases e2;have yJ:swapsWithSole [.Tuple es u q] e p.line env=pure false:=by clear e1 hb P X I R he hs b9 ht;cases e <;> rfl
  have Dd:compT c (.Tuple es u q)=some (is,true):=by
   show oo (optL (jA c) es) _=_;rw[ht];rfl
  rcases Zr (c:=c) es is u q e env ht hs with hw|⟨ns,hw,fi⟩
  ·refine Assign_Tuple (he A env ρ φ H s v H' _ E R I X e1 fun y ax ao b7 aA ah aR=>?_) yJ hw;exists HA (s:={ s with heap:=ao,toks:=b7 }) R (X.step aA I) ah Dd hb aR,a8,h',tk,S',I',X';exact P a8 h' tk _ (aA.eW.trans S' I ah) I' X' .next
  ·refine Assign_Tuple_swapped (names:=ns) (he A env ρ φ H s v H' _ E R I X e1 fun y ax ao b7 aA ah aR=>?_) yJ hw;unfold eB at hb;dsimp only at hb;split at hb
   ·rename_i l;exists fO (gp aR),a,vs,m,LK,g,Z0,rs;clear aR e1 hw Dd yJ he hs ht;subst LK;have hlen:∀(is:List Nat) (l:List V) (ρ:ai),bindTs ρ is l=some ρ'->is.length=l.length:=by
     intro is;clear rs g hb ah aA fi P X I R b9;induction is with
     |nil=>intro l ρ h;cases l with|nil=>rfl|cons=>exact nq h
     |cons i is ih=>intro l ρ h;cases l with|nil=>cases h|cons v l=>simp [ih l _ h]
    have hl:=hlen _ _ _ hb;have hl2:=rs.length;have D6:ns.length=is.length:=(WH fi).symm;have d4:vs.toArray.size=ns.length:=by rw[dY];lia
    have U:=unpackItems_tuple (A:=A) (E:=E) (prog:=C.prog) (w:=C.w) (s:={ s with heap:=ao,toks:=b7 }) (t:=a) (items:=vs.toArray) (Q:=fun items s₂=>C.wp A (assignInOrder (ns.reverse.map fun n=>bindName env n) items.reverse) (fun _=>Q .next) E s₂) R.handled ⟨_,g,rfl,m,rfl⟩ fun aV hx=>?_
    ·rw[d4]at U;exact U
    ·have k:∀b o,ao.get? b=some o->aV.get? b=some o:=fun b o e=>hx b o (fun z=>by
      have z:b=ao.objs.size:=z;rw[z,cA]at e;clear z hx d4 D6 hl2 hl hlen rs g hb ah aA fi P X I R b9;cases e) e
     clear hx d4 D6 hl2 hl hlen g R;exists ak (C.grow ah k),aC,aP;exists XC (s:={ s with heap:=aV,toks:=b7 }) ns.reverse is.reverse ρ ρ' l.reverse _ ax _ (Sn fi) (YS is l ρ ρ' b9 hb) (by simpa using(aP.iz ah rs).reverse) ((X.step aA I).step aP ah) aC,a8,h',tk,S',I',X';exact P a8 h' tk _ ((aA.trans aP I ah).eW.trans S' I aC) I' X' .next
   ·exact nq hb
end
end
section
open PySem PySem.Calls PyProof.Rows PySem.W
section
variable {prog:Program} {w:World} {A:Around} {s:Shared}
theorem PX(I:Nat->Shared->Prop)
  (turn:∀n s,I n s->wpAny (model prog w) A (pyNext it) (fun r s₁=>match r with
   |none=>R (.ok .next) s₁
   |some v=>wpAny (model prog w) A (letOwnedTupleGo target it v) (fun _ s₂=>wpAny (model prog w) A (assign target env v) (fun _ s₃=>wpAny (model prog w) A (execs body env) (fun f s₄=>match f with
     |.next=>∃m,m<n/\I m s₄
     |.cont=>∃m,m<n/\I m s₄
     |.brk=>False
     |.ret v=>R (.ok (.ret v)) s₄) (fun _ _=>False) s₃) (fun _ _=>False) s₂) (fun _ _=>False) s₁) (fun _ _=>False) s)
  (n:Nat) (h:I n s):codeAny (model prog w) A (.forLoop target it body [] env) R s:=by
 refine codeAny_loop' rfl I (fun n s hI=>?_) n h;show wpAny _ _ ((forTurn target it body [] env).onRaise (fun x=>do noteFrame x env;theTreesLotGoes x)) _ _ s;refine wpAny_noted ?_;unfold forTurn;refine a9 (g8 (a9 (wpAny_onRaise (cu (turn n s hI) (fun r s₁ ao=>?_) fun _ _ h'=>h'.elim))));clear hI h turn;induction r using aL with
 |none=>exact aw (.inr ⟨rfl,codeAny_block (wpAny_execs_nil ao)⟩)
 |some v=>
  refine a9 (cu ao (fun _ s₂ aV=>?_) fun _ _ h'=>h'.elim);refine a9 (cu aV (fun _ s₃ cR=>a9 (cu cR (fun f s₄ h₄=>?_) fun _ _ h'=>h'.elim)) fun _ _ h'=>h'.elim);clear cR aV ao;induction f using PySem.Flow.casesOn with
  |next=>exact aw (.inl ⟨rfl,h₄⟩)
  |cont=>exact aw (.inl ⟨rfl,h₄⟩)
  |brk=>exact h₄.elim
  |ret v=>exact aw h₄
end
section
variable {C:Cf} {n K:Nat} {c:Cx}
noncomputable def WG(dt:DE)(db:ai->Hp->Option (Fl×ai×Hp))(r:Fl×ai×Hp)(k:Nat)(ρ:ai)(H:Hp)(_:Heap):Prop:=fq dt db k ρ H=some r
noncomputable def FG(tg:List Nat)(many:Bool)(db:ai->Hp->Option (Fl×ai×Hp))(items:List V)(J:Nat->Heap->Prop)(r:Fl×ai×Hp)(k:Nat)(ρ:ai)(H:Hp)(h:Heap):Prop:=∃i,k+i=items.length/\J i h/\loopF tg many db (items.drop i) ρ H=some r
theorem MH(ht:C.SB n c t dt)(hb:C.jK n c b db):C.SS n c (.While t b [] p) (fun ρ H=>fq dt db 1000 ρ H):=fun A env ρ φ H s fl ρ' H' Q E R I X hd P=>by
 refine wpAny_While ?_;show codeAny (model C.prog C.w) A _ _ s;refine codeAny_whileLoop (Fp C c env (Zf c env) s φ H s.heap (WG dt db (fl,ρ',H'))) (fun k s' hk=>?_) 1000 ⟨φ,s.heap,s.toks,ρ,H,rfl,SZ.refl ..,I,X,hd⟩;exists FN hk,a8,h',tk,ρ₁,H₁,z,F;clear hk hd X;subst z;exists cps,P0,k0;obtain⟨S,I',X',hl⟩:=F
 induction k using bL with
 |zero=>exact nq hl
 |succ k=>
  have hl:cL (dt ρ₁ H₁) (fun c H=>match c with
   |true=>Internal.sb (db ρ₁ H) fun f ρ H=>match f with
    |.next=>fq dt db k ρ H
    |.cont=>fq dt db k ρ H
    |.ret v=>some (.ret v,ρ,H)
   |false=>some (.next,ρ₁,H))=some (fl,ρ',H'):=hl
  exists aT (nF hl),bb,aE,e1,e2;refine k0 ?_;clear k0;exists ht A env ρ₁ a8 H₁ { s with heap:=h',toks:=tk } bb aE _ _ R I' X' e1,x,bp,aV,ed,aP,aC,hx;clear e1 hl ht;subst hx;have S2:=S.trans aP.eW I I';clear S;induction x using aB with
  |false=>
   (exists jq e2,zB,Am,BR;clear e2;subst zB;subst Am;subst BR)
   rw[if_neg dq];exact wpAny_execs_nil (P bp aV ed _ S2 aC (X'.step aP I') .next)
  |true=>
   rw[if_pos rfl];exists nH (uz e2),f,oV,pD,e3,e4;exists hb A env ρ₁ bp aE { s with heap:=aV,toks:=ed } f oV pD _ _ R aC (X'.step aP I') e3,qM,cR,k8,y,de,cK,iK,ic;have S3:=S2.trans de I aC;cases ic with
   |next=>exact⟨k,Nat.lt_succ_self k,qM,cR,k8,oV,pD,rfl,S3,cK,iK,e4⟩
   |cont=>exact⟨k,Nat.lt_succ_self k,qM,cR,k8,oV,pD,rfl,S3,cK,iK,e4⟩
   |ret r=>(exists jq e4,zJ,AE,BO;clear e4;subst zJ;subst AE;subst BO);exact P qM cR k8 _ S3 cK iK (.ret r)
theorem ret_same(r:C.R φ H h v x)(hf:a8.f=φ.f)(hk:∀b o,h.get? b=some o->¬ aU φ H b->h'.get? b=some o)(hm:∀b,aU a8 H' b->aU φ H b):C.R a8 H' h' v x:=
 r.mono (fun n a e=>by rw[hf];exact e) hk fun b _ q _=>hm b q
set_option tactic.hygienic true in
theorem aaP(hit:C.SI n c t it (fun ρ H=>denL dn ρ es H) ik)(pf:∀env x,foldedSetIterable it env x=pure x)(ht:compT c t=some (tg,many))(hb:C.jK n c b db) :
  C.SS n c (.For t it b [] p) (fun ρ H=>ob (denL dn ρ es H) fun vs H=>match iterOf H ik vs with
   |some items=>sunl H.es vs (loopF tg many db items ρ (lockH H vs))
   |none=>none):=fun A env ρ φ H s fl ρ' H' Q E R I X hd P=>by
 exists aT (bV hd),vs,H₁,fv,hd;exists g5 hd,items,Dx,hd
 ·exists nH (uz (show Internal.sb (loopF tg many db items ρ (lockH H₁ vs)) (fun f ρ H=>some (f,ρ,⟨H.nxt,eD H₁.es H.es vs⟩))=some (fl,ρ',H')from hd)),fl',oV,aE,Il,e2;clear hd;clear hd;cases e2;refine wpAny_For ?_ (pf env);exists hit A env ρ φ H s vs H₁ items _ E R I X fv Dx,I0,wr,dZ,ax,ao,tk,It,J,Mid,aA,ah,W,j,fw;show codeAny (model C.prog C.w) A _ _ _;have gJ:=X.step aA I;have ap:=qq X I fw;have IL:=C.zy ah vs;have XL:=wu vs gJ;refine PX (Fp C c env (fun b=>Zf c env b\/b∈wr) s ax (lockH H₁ vs) ao (FG tg many db items J (fl,ρ',aE))) (fun k s' hk=>?_) items.length ⟨ax,ao,tk,ρ,lockH H₁ vs,rfl,SZ.refl ..,IL,XL,0,rfl,j,Il⟩;exists FN hk,a8,h',lK,ρ₁,H',z,F;clear hk;clear gJ j hd Il Dx fv X pf hit;subst z;exists cps,P0,k0;obtain⟨S,I',X',f0⟩:=F;exists b6 f0,i,hki,j',hf;clear f0
  induction hv:items[i]? using aL with
  |none=>
   have hi:i=items.length:=by
    have:=List.getElem?_eq_none_iff.mp hv
    lia
   subst hi;rw[List.drop_length]at hf;cases hf;refine k0 ?_;exists(W.w A R.handled).done { s with heap:=h',toks:=lK } _ _ j',h'',Aw,k;clear j' R;clear k0;exists dr (C.finish I aA ah fw W.fr S I' k),I3,S3,X3;exact P _ h'' Aw _ S3 I3 (X3 c _ env ap X') .next
  |some v=>
   exists aD (fo.mp hv),hi,sX;rw[List.drop_eq_getElem_cons hi,sX]at hf;have hf:(match eB ρ₁ tg many v with
    |some ρ=>Internal.sb (db ρ H') fun f ρ H=>match f with
     |.next=>loopF tg many db (items.drop (i+1)) ρ H
     |.cont=>loopF tg many db (items.drop (i+1)) ρ H
     |.ret v=>some (.ret v,ρ,H)
    |none=>none)=some (fl,ρ',aE):=hf
   split at hf
   ·rename_i Om mq;exists nH (uz hf),f,wI,H4,e3,e4;refine k0 ?_;exists W.turn (s:={ s with heap:=h',toks:=lK }) IL XL ap R S I' X' j' hv ht mq,qQ,h4,t4,S4,I4,X4,j4;exists hb A env Om qQ H' { s with heap:=h4,toks:=t4 } f wI H4 _ _ R I4 X4 e3,iS,h5,t5,y,S5,I5,X5,r5;have T5:=S4.trans (S5.mono fun b z=>.inl z) IL I4;have j5:=W.body IL XL ap S4 I4 S5 j4;cases r5 with
    |next=>exact⟨k - 1,by lia,iS,h5,t5,wI,H4,rfl,T5,I5,X5,i+1,by lia,j5,e4⟩
    |cont=>exact⟨k - 1,by lia,iS,h5,t5,wI,H4,rfl,T5,I5,X5,i+1,by lia,j5,e4⟩
    |@ret v' x' r=>
     cases e4;exists dr (C.finish I aA ah fw W.fr T5 I5 (h'':=h5) fun b o _ e=>e),I3,S3,X3;refine P _ h5 t5 _ S3 I3 (X3 c _ env ap X5) (.ret (ret_same r rfl (fun _ _ e _=>e) fun b q=>?_));refine(less_mut b q).imp (fun q=>?_) id;clear X3 S3 I3 X5 r T5 I5 P ap fw W ah aA I;exists ae q,e,m,p;clear q;clear q;exists ae (iD (xJ H₁.es vs aE.es) m),e',m',i;exact⟨e',m',by rw[i];exact p⟩
   ·exact nq hf
end
end
section
open PySem PySem.Calls PyProof.Rows PySem.W
section
variable {C:Cf} {n K:Nat}
theorem iI{c:Cx}{st:PySem.Stmt}{m0 m:MS}(e:some m0=some m)(h:∀f,C.SS n c st (IS m0 (den f) (denS f)))(f:Nat):C.SS n c st (denS f m):=by
 cases aH e;clear e;induction f using bL with
 |zero=>exact fun A env ρ φ H s fl ρ' H' Q E R I X e=>nn e
 |succ f=>exact h f
theorem Og(hM:∀c,(model C.prog C.w).den c=denote table c)(df:K<=n)(k:Nat):∀(c:Cx) (st:PySem.Stmt) (m:MS),Gl C c.gl K->compS k c st=some m->∀f,C.SS n c st (denS f m):=by
 induction k with
 |zero=>exact fun c st m G h=>nn h
 |succ k eK=>
 intro c st m G h;have iY:∀{e m},compE k c e=some m->eM C n c e m:=fun h=>vo hM df k c _ _ G h;have ihL:∀{b ms},optL (compS k c) b=some ms->∀f,C.jK n c b (denSs (denS f) ms):=fun h f=>FT (qG (P:=fun st m=>C.SS n c st (denS f m)) (fun st m h=>eK c st m G h f) h);clear eK;induction st using Stmt.casesOn with
 |Assign ts e p=>
  exists ae (aQ h),t,h1,h;clear h ihL;cases ua h1;exists ae (aQ h),me,he,h;clear h1;rcases l9 h with⟨x,hx,h⟩|⟨_,h⟩
  ·exists ae (aQ h),i,hi,h;exact aD (oI hx) fun q z=>z▸iI h fun f=>aaA hM df G he hi q p f
  ·clear G df hM;rcases l9 h with⟨es,hx,h⟩|⟨_,h⟩
   ·exists ae (aQ h),is,eF,h;exists ak (guard_some h),h1,h;exists ak ((cU _ _).mp h1),h3,h4;exact d7 (Cm hx) fun u q z=>z▸iI h fun f=>Qz eF (AK h3) h4 ((iY he).se f)
   ·exists ae (aQ h),r,hr,h;rcases l9 h with⟨_,_,h⟩|⟨hs,h⟩
    ·exact nn h
    ·exists ae (aQ h),mo,h2,h;exists ae (aQ h),mi,h3,h;exact aD (LA hr) fun q z=>z▸iI h fun f=>OV ((iY he).se f) ((iY h2).se f) ((iY h3).se f)
 |AugAssign t op e p=>
  exists ae (aQ h),x,hx,h;exists aD (oI hx),q,Uo;clear h hx ihL G df hM;subst Uo;exists ae (aQ h),i,hi,h;exists ae (aQ h),me,he,h;exists ak (guard_some h),h1,h;have z:=xY h1;clear h1;subst z;exact iI h fun f=>XA hi ((iY he).se f)
 |Expr e p=>
  exists ae (aQ h),r,hr,h;exists ae (aQ h),me,he,h5;exists aD (JQ hr),q,z;clear h hr;clear h ihL G df hM;subst z;exact iI h5 fun f=>OX ((iY he).se f)
 |If t a b p=>
  exists ae (aQ h),mt,h1,h;exists ae (aQ h),ma,h2,h;exists ae (aQ h),mb,h3,h;exact iI h fun f=>S8 ((iY h1).sb f) (ihL h2 f) (ihL h3 f)
 |While t b o p=>
  exists ak (guard_some h),h0,h9;clear h;clear G df hM;cases oF h0;have h:=h9;exists ae (aQ h),mt,h1,h;exists ae (aQ h),mb,h2,h;exact iI h fun f=>MH ((iY h1).sb f) (ihL h2 f)
 |For t it b o p=>
  exists ak (guard_some h),h0,h9;clear h;clear df hM;cases oF h0;have h:=h9;clear h0 h9;obtain⟨⟨tg,many⟩,h1,h⟩:=aQ h;obtain⟨⟨ik,es⟩,h2,h⟩:=aQ h;exists ae (aQ h),mb,h3,h;exists ak (guard_some h),dz,h;exact iI h fun f=>aaP (z0 (C:=C) (n:=n) G (fun _ _ he=>iY he) f h2 h1 dz).1 (z0 (C:=C) (n:=n) G (fun _ _ he=>iY he) f h2 h1 dz).2 h1 (ihL h3 f)
 |Return e p=>
  exists ae (aQ h),e',h1,h;exists ae (aQ h),me,he,h5;clear h ihL G df hM;subst h1;exact iI h5 fun f=>M8 ((iY he).se f)
 |Continue p=>exact iI h fun f=>Pb
 |Raise a b p=>exact iI h fun f A env ρ φ H s fl ρ' H' Q E R I X e=>nn e
 |_=>exact nn h
end
end
section
open PySem PySem.Calls PyProof.Rows PySem.W
theorem k7:∀{e:Ent},e∈dropNew n₀ l->e∈l/\e.id<n₀:=by
 induction l with
 |nil=>
  intro e m;cases m
 |cons x l ih=>
  intro e m;dsimp only[dropNew]at m;split at m
  ·exists ak (ih m),a,b;exact⟨.tail _ a,b⟩
  ·rename_i h;rcases aI.mp m with rfl|m
   ·refine⟨.head _,Nat.lt_of_not_le fun z=>?_⟩;rw[fj z]at h;exact bt h
   ·exists ak (ih m),a,b;exact⟨.tail _ a,b⟩
theorem CD:∀{e:Ent},e∈l->e.id<n₀->e∈dropNew n₀ l:=by
 induction l with
 |nil=>
  intro e m _;cases m
 |cons x l ih=>
  intro e m h;dsimp only[dropNew];split
  ·rename_i hb;rcases aI.mp m with rfl|m
   ·exact absurd (bC hb) (Nat.not_le.mpr h)
   ·exact ih m h
  ·rcases aI.mp m with rfl|m
   ·exact .head _
   ·exact .tail _ (ih m h)
theorem zd(n₀:Nat)(l:List Ent):(dropNew n₀ l).Sublist l:=by
 induction l with
 |nil=>exact .slnil
 |cons x l ih=>
  show List.Sublist (match b8 n₀ x.id with
   |true=>dropNew n₀ l
   |false=>x::dropNew n₀ l) _
  induction b8 n₀ x.id using aB with
  |true=>exact .cons _ ih
  |false=>exact List.Sublist.cons_cons _ ih
section
variable {C:Cf} {φ bp:Ph} {H aE:Hp} {h aV:Heap}
theorem Cf.leaveI(I:C.I φ H h)(S:SZ Z φ H h bp aE aV)(aC:C.I bp aE aV)(hz:∀b,Z b->h.get? b=none)(es:List Ent)(eF:∀e∈es,e∈aE.es)(hold:∀e∈aE.es,e.id<H.nxt->e∈es)(nd:(es.map (·.id)).Nodup) :
  C.I ⟨bp.f,φ.fr⟩ ⟨aE.nxt,es⟩ aV/\St φ H h ⟨bp.f,φ.fr⟩ ⟨aE.nxt,es⟩ aV/\∀b,aU ⟨bp.f,φ.fr⟩ ⟨aE.nxt,es⟩ b->aU bp aE b:=by
 have hm:∀b,aU ⟨bp.f,φ.fr⟩ ⟨aE.nxt,es⟩ b->aU bp aE b:=by
  rintro b (⟨e,m,q⟩|f)
  ·exact .inl ⟨e,eF e m,q⟩
  ·exact .inr (S.dE b f)
 refine⟨⟨aC.base,fun e m=>?_,nd,fun e m e' m' q=>aC.inj e (eF e m) e' (eF e' m') q,fun e m=>aC.lt e (eF e m),aC.fresh,fun a f=>?_,aC.sys⟩,
  ⟨fun b o e u=>S.keep b o e u fun z=>(by rw[hz b z]at e;exact nq e),S.ext,S.nxt,fun e m=>?_,fun e' m'=>S.new e' (eF e' m'),S.alive,fun _ f=>f,fun _ f=>.inl f⟩,hm⟩
 ·exists b6 (aC.objs e (eF e m)),a,e1,e2,e3;refine⟨a,e1,e2,?_⟩;revert e3;clear e2 e1 m nd hold eF hz aC S I;induction e.obj using Internal.bq.casesOn with
  |list l=>rintro ⟨vs,n,g,r⟩;exact⟨vs,n,g,r.mono (fun _ _ e=>e) (fun _ _ e _=>e) fun b _ q _=>hm b q⟩
  |dict l=>rintro ⟨vs,n,g,r,d⟩;exact⟨vs,n,g,r.mono (fun _ _ e=>e) (fun _ _ e _=>e) (fun b _ q _=>hm b q),d⟩
 ·clear hm nd hold hz I;obtain⟨p,q,o,g⟩:=aC.cC a (S.dE a f);exact⟨p,fun e m=>q e (eF e m),o,g⟩
 ·exists dw (S.ids e m),e',m',a,b,c;exact⟨e',hold e' m' (by rw[a];exact I.lt e m),a,b,c⟩
set_option tactic.hygienic true in
theorem Zg(aC:C.I bp aE aV)(eF:∀e∈es,e∈aE.es/\e.id<n₀)(hm:∀b,aU ⟨bp.f,fr⟩ ⟨aE.nxt,es⟩ b->aU bp aE b)(i7:∀b,fr b->bp.fr b) :
  ∀(k:Nat) (v:V) (x:Value),C.R bp aE aV v x->C.R ⟨bp.f,fr⟩ ⟨aE.nxt,es⟩ aV (freezeV aE.es n₀ k v) x:=by
 have base:∀{v x},C.R bp aE aV v x->C.R ⟨bp.f,fr⟩ ⟨aE.nxt,es⟩ aV v x:=fun r=>r.mono (fun _ _ e=>e) (fun _ _ e _=>e) fun b _ q _=>hm b q;intro k
 induction k with
 |zero=>intro v x r;exact base r
 |succ k ih=>
  have ihL:∀(l:List V) (vs:List Value),C.Rs bp aE aV l vs->C.Rs ⟨bp.f,fr⟩ ⟨aE.nxt,es⟩ aV (l.map (freezeV aE.es n₀ k)) vs:=by
   intro l;clear base i7 hm eF aC;induction l with
   |nil=>intro vs r;cases r;exact .nil
   |cons a l oT=>intro vs r;cases r with|cons r1 r2=>exact .cons (ih _ _ r1) (oT _ r2)
  intro v x r;clear ih;induction v using Internal.V.casesOn with
  |ref n=>
   show C.R _ _ _ (match b8 n₀ n with
    |true=>match look aE.es n with
     |some e=>match e.obj with
      |.list l=>.lst (l.map (freezeV aE.es n₀ k))
      |.dict l=>.dct l
     |none=>.ref n
    |false=>.ref n) x
   split
   ·rename_i hb;split
    ·rename_i e hl;exists ak (fI hl),m,Ow;subst Ow;cases r with
     |@ref _ a hr=>
     exists b6 (aC.objs e m),a',e1,e2,e3;rw[hr]at e1;exists e1;have nm:¬ aU ⟨bp.f,fr⟩ ⟨aE.nxt,es⟩ a:=by
      rintro (⟨e',m',q⟩|f)
      ·exists ak (eF e' m'),m2,lt;have:=aC.inj e' m2 e m (by rw[hr];exact q);have:=bC hb
       lia
      ·exact(aC.cC a (i7 a f)).2.1 e m hr
     revert e3
     induction e.obj using Internal.bq.casesOn with
     |list l=>rintro ⟨vs,c,g,rs⟩;exact .lst g nm (ihL l vs rs)
     |dict l=>
      rintro ⟨ds,c,g,rs,nd⟩;refine .dct g (fun z=>?_) nm (rs.mono (fun _ _ e=>e) (fun _ _ e _=>e) fun b _ q _=>hm b q) nd;exists aD aC.sys,o,ho;rw[<- z,e2]at ho;exact nq ho
    ·exact base r
   ·exact base r
  |tup l=>
   cases r with
   |tup g m rs=>exact .tup g (fun q=>m (hm _ q)) (ihL l _ rs)
  |none=>exact base r
  |bool b=>exact base r
  |int i=>exact base r
  |str q=>exact base r
  |lst l=>exact base r
  |dct l=>exact base r
set_option tactic.hygienic true in
theorem Cf.leave(I:C.I φ H h)(S:SZ Z φ H h bp aE aV)(aC:C.I bp aE aV)(hz:∀b,Z b->h.get? b=none)(keep:Bool)(r:C.R bp aE aV v x)(e:Internal.leave keep H aE v=(v',H')) :
  C.I ⟨bp.f,φ.fr⟩ H' aV/\St φ H h ⟨bp.f,φ.fr⟩ H' aV/\C.R ⟨bp.f,φ.fr⟩ H' aV v' x:=by
 have frozen:leaveF H aE v=(v',H')->C.I ⟨bp.f,φ.fr⟩ H' aV/\St φ H h ⟨bp.f,φ.fr⟩ H' aV/\C.R ⟨bp.f,φ.fr⟩ H' aV v' x:=fun e=>by
  cases e;exists dr (C.leaveI I S aC hz (dropNew H.nxt aE.es) (fun e m=>(k7 m).1) (fun e m l=>CD m l) (((zd H.nxt aE.es).map _).nodup aC.nodup)),a,b,c;exact⟨a,b,Zg aC (fun e m=>k7 m) c (fun b f=>S.dE b f) 3 v x r⟩
 unfold Internal.leave at e;split at e
 ·exact frozen e
 ·split at e
  ·rename_i n;split at e
   ·rename_i hb;unfold EA at e;split at e
    ·rename_i en hl;clear frozen;cases e;exists ak (fI hl),m,Qq;have hn:(en::dropNew H.nxt aE.es).map (·.id) |>.Nodup:=by
      rw[aO,ee];refine⟨fun z=>?_,((zd H.nxt aE.es).map _).nodup aC.nodup⟩;exists ae (cG.mp z),e',m',q;have:=(k7 m').2;have:=bC hb
      lia
     clear Qq hl hb;obtain⟨a,b,c⟩:=C.leaveI I S aC hz (en::dropNew H.nxt aE.es) (fun e m'=>by
      clear hn r hz aC S I;rcases aI.mp m' with rfl|m'
      ·exact m
      ·exact(k7 m').1) (fun e m l=>.tail _ (CD m l)) hn
     exact⟨a,b,r.mono (fun _ _ e=>e) (fun _ _ e _=>e) fun b _ q _=>c b q⟩
    ·clear hb frozen;cases e;exists dr (C.leaveI I S aC hz (dropNew H.nxt aE.es) (fun e m=>(k7 m).1) (fun e m l=>CD m l) (((zd H.nxt aE.es).map _).nodup aC.nodup)),a,b,c;exact⟨a,b,r.mono (fun _ _ e=>e) (fun _ _ e _=>e) fun b _ q _=>c b q⟩
   ·exact frozen e
  ·exact frozen e
end
end
section
open PySem PySem.Calls PyProof.Rows PySem.W
theorem Oo(kd:Str->Option NameKind)(x:Str)(ps:List Str):∀(vals:List Value) (m:Str->Option Value),x ∉ ps->bindL kd (ps.zip vals) m x=m x:=by
 induction ps with
 |nil=>intro vals m _;induction vals using aM <;> rfl
 |cons p ps ih=>
  intro vals m h
  induction vals using aM with
  |nil=>rfl
  |cons v vals=>
   show bindL kd (ps.zip vals) (if kd p=some .local then fun y=>if y=p then some v else m y else m) x=m x;rw[ih vals _ fun q=>h (.tail _ q)];split
   ·exact if_neg fun z=>h (by rw[z];exact .head _)
   ·rfl
theorem UX(kd:Str->Option NameKind)(x:Str)(ps:List Str):∀(vals:List Value) (m:Str->Option Value),x ∉ ps->bindC kd (ps.zip vals) m x=m x:=by
 induction ps with
 |nil=>intro vals m _;induction vals using aM <;> rfl
 |cons p ps ih=>
  intro vals m h
  induction vals using aM with
  |nil=>rfl
  |cons v vals=>
   show bindC kd (ps.zip vals) (if kd p=some .local then m else fun y=>if y=p then some v else m y) x=m x;rw[ih vals _ fun q=>h (.tail _ q)];split
   ·rfl
   ·exact if_neg fun z=>h (by rw[z];exact .head _)
theorem ZJ(kd:Str->Option NameKind)(x:Str)(hk:kd x=some .local)(ps:List Str):∀(vals:List Value) (m:Str->Option Value) (i:Nat) (v:Value),ps.Nodup->ps[i]?=some x->vals[i]?=some v->bindL kd (ps.zip vals) m x=some v:=by
 induction ps with
 |nil=>exact fun _ _ _ _ _ h=>nq h
 |cons p ps ih=>
  intro vals m i v nd h1 h2
  induction vals using aM with
  |nil=>exact nq h2
  |cons w vals=>
  rw[ee]at nd;show bindL kd (ps.zip vals) (if kd p=some .local then fun y=>if y=p then some w else m y else m) x=some v
  induction i using bL with
  |zero=>
   simp at h1 h2;subst h1 h2;rw[Oo kd _ ps vals _ nd.1,if_pos hk];simp
  |succ i=>
   simp at h1 h2;exact ih vals _ i v nd.2 h1 h2
theorem Pq(kd:Str->Option NameKind)(x:Str)(hk:kd x≠some .local)(ps:List Str):∀(vals:List Value) (m:Str->Option Value) (i:Nat) (v:Value),ps.Nodup->ps[i]?=some x->vals[i]?=some v->bindC kd (ps.zip vals) m x=some v:=by
 induction ps with
 |nil=>intro vals m i v _ h _;exact nq h
 |cons p ps ih=>
  intro vals m i v nd h1 h2
  induction vals using aM with
  |nil=>exact nq h2
  |cons w vals=>
   rw[ee]at nd;show bindC kd (ps.zip vals) (if kd p=some .local then m else fun y=>if y=p then some w else m y) x=some v
   induction i using bL with
   |zero=>
    have h1:=aH h1;have h2:=aH h2;subst h1 h2;rw[UX kd _ ps vals _ nd.1,if_neg hk,if_pos rfl]
   |succ i=>exact ih vals _ i v nd.2 h1 h2
set_option tactic.hygienic true in
theorem Ss(l:List V):∀(k n:Nat) (ρ:ai),rU l k n=some ρ->l.length=k/\∀i v,cI ρ i=some v->l[i]?=some v:=by
 induction l with
 |nil=>
  intro k n ρ e
  induction k using bL with
  |succ=>exact nq e
  |zero=>
  exists e;refine⟨rfl,fun i v h=>?_⟩;exfalso
  induction n generalizing i with
  |zero=>exact nq h
  |succ n ih=>induction i using bL with
   |zero=>exact nq h
   |succ i=>exact ih i h
 |cons a l ih=>
  intro k n ρ e
  induction k using bL with
  |zero=>exact nq e
  |succ k=>
  have e:(match rU l k n with
   |some ρ=>some (some a::ρ)
   |none=>none)=some ρ:=e
  split at e
  ·rename_i ρ' h';exists e;exists ak (ih k n ρ' h'),a1,a2;refine⟨by rw[fV,a1],fun i v h=>?_⟩
   induction i using bL with
   |zero=>exists h;rfl
   |succ i=>exact a2 i v h
  ·exact nq e
theorem Mw(l:List Str):∀(k:Nat) (x:Str) (i:Nat),(l.zipIdx k).lookup x=some i->k<=i/\l[i - k]?=some x:=by
 induction l with
 |nil=>
  intro k x i e;exact nq e
 |cons y l ih=>
  intro k x i e;rw[List.zipIdx_cons,lz]at e;split at e
  ·rename_i h;exists e;have:=eq_of_beq h;subst this;exact⟨cx _,by simp⟩
  ·exists ak (ih (k+1) x i e),a,b;refine⟨by exact fh a,?_⟩;have:i - k=(i - (k+1))+1:=by lia
   rw[this];simpa using b
structure DK (C:Cf) (a:Addr) (o:Obj) (fd:FuncData) (params:List Str) (body:List PySem.Stmt):Prop where
 ho:C.h₀.get? a=some o
 data:o.data = .func fd
 code:C.h₀.CodeRec fd.code fd.qualname
 lim:C.h₀.NoLimit
 body:fd.body = .stmts body
 clo:fd.closure=[]
 binds:∀(s:Shared) (vals:List Value),(∀b o,C.h₀.get? b=some o->s.heap.get? b=some o)->vals.length=params.length->BindsTo s fd ⟨vals,[]⟩ (params.zip vals)
 glob:fd.globals=mainGlobals
 blt:fd.builtins=builtinsNs
 co:fd.scope.isCoroutine=false
 gen:fd.scope.isGenerator=false
 kind:fd.scope.kind = .function
 nd:params.Nodup
 par:∀p∈params,fd.scope.names.lookup p=some .local\/fd.scope.names.lookup p=some .cell
 FX:∀x,fd.scope.names.lookup x≠some .free
section
variable {C:Cf} {n K:Nat}
theorem mI.inv(r:mI C φ H h fl x):Fl.rec (motive:=fun _=>Prop) (x = .next) (x = .cont) (fun w=>∃y,x = .ret y/\C.R φ H h w y) fl:=mI.rec rfl rfl (fun r=>⟨_,rfl,r⟩) r
theorem QR(e:mkEnd keep H x=some (v,H')):∃fl ρ aE,x=some (fl,ρ,aE)/\((∃w,fl = .ret w/\Internal.leave keep H aE w=(v,H'))\/(fl = .next/\Internal.leave keep H aE .none=(v,H'))):=by
 induction x using aL with
 |none=>exact nq e
 |some p=>
  obtain⟨fl,ρ,aE⟩:=p;refine⟨fl,ρ,aE,rfl,?_⟩
  induction fl using Internal.Fl.casesOn with
  |next=>exact .inr ⟨rfl,aH e⟩
  |cont=>exact nq e
  |ret w=>exact .inl ⟨w,rfl,aH e⟩
theorem L1(F:DK C a o fd params body)(eP:cxOk (iF gl params fd.scope.names)=true)(hb:C.jK n (iF gl params fd.scope.names) body (denSs (denS 20) ms)) :
  C.fJ (n+1) (bz params.length slots ms keep) a:=fun A φ H s args vals v H' Q E R I rs e P=>by
 have e:(match rU args params.length slots with
  |some ρ=>mkEnd keep H (denSs (denS 20) ms ρ H)
  |none=>none)=some (v,H'):=e
 split at e
 ·rename_i ρ Bt;exists ak (Ss args params.length slots ρ Bt),al,ag;exists nH (QR e),fl,oV,aE,e1,e2;have Qf:vals.length=params.length:=by rw[<- rs.length,al]
  exists ak (zK eP),dz,b9;have b9:(fd.scope.names.map (·.1)).Nodup:=b9;refine wpAny_call ?_;have jT:s.heap.NoLimit:=F.lim.at fun o e=>I.base _ _ e;have GF:s.heap.CodeRec fd.code fd.qualname:=tw F.code fun c o vs t h1 h2 h3=>⟨c,o,vs,t,h1,I.base _ _ h2,h3⟩;refine codeAny_call_function (by have:=R.depth;exact Nat.lt_of_add_right_lt this) (I.base _ _ F.ho) F.data F.co F.gen F.body GF (F.binds s vals (fun b o e=>I.base b o e) Qf _ _ _ _ ?_);rw[F.clo];refine wpAny_newFunctionEnv_cells F.kind (fun x hx=>?_) fun env he s₁ x=>?_
  ·have hp:x.1∈params:=(List.of_mem_zip hx).1;rcases F.par x.1 hp with h|h
   ·exact .inl h
   ·refine .inr ⟨h,?_⟩;refine ae (vq fd.scope.names (s.heap.push { cls:=.type "frame",data:=.dict #[] }) [] x.1 b9 (gZ h)) fun b dN _=>?_;rw[Heap.size_push]at dN;rw[dN];rfl
  ·have dj:env.cells=cellsFrom (s.heap.objs.size+1) fd.scope.names []:=by rw[he];rfl
   have MT:env.scope=fd.scope:=by rw[he];rfl
   have t7:env.globals=fd.globals:=by rw[he];rfl
   have cv:env.builtins=fd.builtins:=by rw[he];rfl
   have ij:∀y,env.kindOf y=fd.scope.names.lookup y:=fun y=>by rw[he];rfl
   have young:∀b,s.heap.objs.size<=b->s.heap.get? b=none:=fun b dN=>by
    induction q:s.heap.get? b using aL with
    |none=>rfl
    |some o=>exact absurd (Heap.lt_size q) (Nat.not_lt.mpr dN)
   have fL:s.heap.get? env.locals=none:=young _ x.toInCall.fresh;have fC:∀z b,env.cells.lookup z=some b->env.locals<b/\s.heap.get? b=none:=fun z b hz=>by
    have:=x.above z b (mem_of_lookup hz);exact⟨this,young _ (Nat.le_of_lt (Nat.lt_of_le_of_lt x.toInCall.fresh this))⟩
   have fi:=x.toInCall.ns;have d9:=x.cell;have Pm:=x.apart;have Gy:=x.toInCall.keep;exists d7 x.toInCall.same,ao,b7,yC;subst yC;refine⟨jT.keeps Gy,codeAny_func ?_⟩;obtain⟨ah,aA⟩:=C.s7 I Gy (F:=fun b=>b=env.locals\/∃z,env.cells.lookup z=some b) fun b dN=>by
    rcases dN with rfl|⟨z,hz⟩
    ·exact⟨fL,mY fi⟩
    ·exact⟨(fC z b hz).2,sE (d9 z b hz)⟩
   have slot:∀y i w,(iF gl params fd.scope.names).vm.lookup y=some i->cI ρ i=some w->params[i]?=some y/\∃val,vals[i]?=some val/\C.R (φ.more fun b=>b=env.locals\/∃z,env.cells.lookup z=some b) H ao w val:=fun y i w hy hw=>by
    exists ak (Mw _ 0 y i hy),Z0,h2;have h3:=ag i w hw;exists ae (rs.get h3),val,h4,r;have hi:i<params.length:=by rw[<- al];exact(fo.mp h3).1
    rw[Nat.sub_zero,List.getElem?_append_left hi]at h2;exact⟨h2,val,h4,aA.vr I r⟩
   have X:ER C (iF gl params fd.scope.names) ρ env (φ.more fun b=>b=env.locals\/∃z,env.cells.lookup z=some b) H ao:=by
    refine⟨by rw[MT];exact F.kind,by rw[t7];exact F.glob,by rw[cv];exact F.blt,fun y k hy=>?_,⟨_,fi,fun y i w h1 h2 h3=>?_⟩,fun y i h1 h2=>?_,.inr (.inl rfl),fun y b hy=>.inr (.inr ⟨y,hy⟩),fun y z b hy hz=>name_of_addr Pm (mem_of_lookup hy) (mem_of_lookup hz),dz⟩
    ·have hy:fd.scope.names.lookup y=some k:=hy
     induction k using PySem.NameKind.casesOn with
     |«local»=>show env.kindOf y=_;rw[ij];exact hy
     |cell=>show env.kindOf y=_;rw[ij];exact hy
     |free=>exact(F.FX y hy).elim
     |globalImplicit=>show env.kindOf y=_;rw[ij];exact hy
     |globalExplicit=>trivial
    ·obtain⟨hp,val,hv,r⟩:=slot y i w h2 h3;exact⟨val,ZJ _ y (by rw[ij];exact h1) params vals _ i val F.nd hp hv,r⟩
    ·have h1:fd.scope.names.lookup y=some .cell:=h1.elim id fun z=>(F.FX y z).elim;refine ae (vq fd.scope.names (s.heap.push { cls:=.type "frame",data:=.dict #[] }) [] y b9 (gZ h1)) fun b dN _=>?_;rw[Heap.size_push,<- dj]at dN;refine⟨b,_,dN,d9 y b dN,.inr (.inr ⟨y,dN⟩),fun z=>?_,fun w hw=>?_⟩
     ·have:=(fC y b dN).1;rw[z]at this;exact lg _ this
     ·obtain⟨hp,val,hv,r⟩:=slot y i w h2 hw;exact⟨val,Pq _ y (by rw[ij,h1];decide) params vals _ i val F.nd hp hv,r⟩
   have R':Rm (A.deeper env) n:=⟨R.handled,by have:=R.depth;show A.depth+1+n<_;lia,by have:=R.units;show A.units+3+12 * n+200<_;lia⟩;exists hb (A.deeper env) env ρ _ H { s with heap:=ao,toks:=b7 } fl oV aE _ _ R' ah X e1,bp,aV,ed,y,aP,aC,yc,du;have T:=(aA.eW (Z:=Zf (iF gl params fd.scope.names) env)).trans aP I ah;have hz:∀b,Zf (iF gl params fd.scope.names) env b->s.heap.get? b=none:=fun b dN=>by
    rcases dN with rfl|⟨z,_,hz⟩
    ·exact fL
    ·exact(fC z b hz).2
   rcases e2 with⟨w,rfl,e2⟩|⟨rfl,e2⟩
   ·exists ae du.inv,q,r3,r;subst r3;exists dr (C.leave I T aC hz keep r e2),a1,a2,a3;exact P _ _ aV ed a2 a1 a3
   ·have r3:=du.inv;subst r3;exists dr (C.leave I T aC hz keep (.none:C.R bp aE aV .none .none) e2),a1,a2,a3;exact P _ _ aV ed a2 a1 a3
 ·exact nq e
end
end
section
open PySem PySem.Calls PyProof.Rows PySem.W
section
variable {C:Cf}
theorem UO(T:Top p loose mean mg mb C.h₀)(hd:d∈recsOf p)(params:List Str)
  (r4:∀pm code doc vals,vals.length=params.length->bindArgs (docDef d.name d.params d.body d.scope pm code doc) ⟨vals,[]⟩=pure (params.zip vals))
  (Ae:d.scope.isCoroutine=false) (zz:d.scope.isGenerator=false) (hk:d.scope.kind = .function) (b9:params.Nodup) (zN:∀p∈params,d.scope.names.lookup p=some .local\/d.scope.names.lookup p=some .cell) (y7:∀x,d.scope.names.lookup x≠some .free) :
  ∃a o fd,mg d.name=some (.ref a)/\C.h₀.get? a=some o/\o.data = .func fd/\fd.scope=d.scope/\DK C a o fd params d.body:=by
 exists Tv (T.fn d hd),a,o,pm,code,doc,h1,h2,h3,h4;exact⟨a,o,_,h1,h2,h3,rfl,⟨h2,h3,h4,T.nolimit,rfl,rfl,fun s vals _ hl=>.of_eq (r4 pm code doc vals hl),rfl,rfl,Ae,zz,hk,b9,zN,y7⟩⟩
end
end
section
open PySem PySem.Calls PyProof.Rows PySem.W
section
variable {C:Cf}
theorem Cf.fJ.more(c:C.fJ n g a)(h:n<=m):C.fJ m g a:=fun A φ H s args vals v H' Q E R I rs e P=>c A φ H s args vals v H' Q E (R.le h) I rs e P
end
end
section
open PySem PySem.Calls PyProof.Rows PySem.W
section
variable {C:Cf} {mg mb:Str->Option Value} {K:Nat}
noncomputable def az(C:Cf)(mg mb:Str->Option Value)(K:Nat)(x:Str)(g:GI):Prop:=(x == ("__debug__" : Str))=false/\match g with
 |.val v=>∃y,mg x=some y/\VR C.kh (fun _=>none) (fun _=>False) C.h₀ v y
 |.fn g=>∃a o fd,mg x=some (.ref a)/\C.h₀.get? a=some o/\o.data = .func fd/\C.fJ K g a
 |.bi b=>mg x=none/\mb x=some (gR b)
 |.it k=>mg x=none/\mb x=some (tC k)
theorem az.more(e:az C mg mb K x g)(h:K<=K'):az C mg mb K' x g:=by
 refine⟨e.1,?_⟩;have e:=e.2
 induction g using Internal.iM.casesOn with
 |val v=>exact e
 |fn g=>obtain⟨a,o,fd,h1,h2,h3,h4⟩:=e;exact⟨a,o,fd,h1,h2,h3,h4.more h⟩
 |bi b=>exact e
 |it k=>exact e
theorem Zo(hg:C.h₀.Ns mainGlobals mg)(hb:C.h₀.Ns builtinsNs mb)(h:∀e∈l,az C mg mb K e.1 e.2):Gl C l K:=
 ⟨⟨mg,mb,hg,hb,fun _ _ e=>(h _ (mem_of_lookup e)).2,fun _ _ e=>(h _ (mem_of_lookup e)).2,fun _ _ e=>(h _ (mem_of_lookup e)).2,fun _ _ e=>(h _ (mem_of_lookup e)).2⟩,fun _ _ e=>(h _ (mem_of_lookup e)).1⟩
theorem Ud(hM:∀c,(model C.prog C.w).den c=denote table c)(T:Top p loose mean mg mb C.h₀)(t7:∀e∈gl,az C mg mb K e.1 e.2)(hd:d∈recsOf p)(params:List Str)
  (r4:∀pm code doc vals,vals.length=params.length->bindArgs (docDef d.name d.params d.body d.scope pm code doc) ⟨vals,[]⟩=pure (params.zip vals))
  (Ae:d.scope.isCoroutine=false) (zz:d.scope.isGenerator=false) (hk:d.scope.kind = .function) (b9:params.Nodup) (zN:∀p∈params,d.scope.names.lookup p=some .local\/d.scope.names.lookup p=some .cell) (y7:∀x,d.scope.names.lookup x≠some .free)
  {ms:List MS} {slots:Nat} {keep:Bool} (eP:cxOk (iF gl params d.scope.names)=true) (hc:optL (compS 20 (iF gl params d.scope.names)) d.body=some ms) (hn:(d.name == ("__debug__" : Str))=false) :
  az C mg mb (K+1) d.name (.fn (bz params.length slots ms keep)):=by
 exists jZ (UO T hd params r4 Ae zz hk b9 zN y7),a,o,fd,h1,h2,h3,h4,F;refine⟨hn,a,o,fd,h1,h2,h3,L1 F (gl:=gl) (by rw[h4];exact eP) ?_⟩;rw[h4];exact FT (qG (fun st m h=>Og hM (cx K) 20 _ st m (show Gl C (iF gl params d.scope.names).gl K from Zo T.g T.b t7) h 20) hc)
theorem az.bT(e:az C mg mb K x (.fn g))(h:∀a,C.fJ K g a->C.fJ K g' a):az C mg mb K x (.fn g'):=by
 obtain⟨h0,a,o,fd,h1,h2,h3,h4⟩:=e;exact⟨h0,a,o,fd,h1,h2,h3,h a h4⟩
end
end
section
open PySem PySem.Calls PyProof.Rows PySem.W
structure Bs (C:Cf) (mg mb:Str->Option Value):Prop where
 hM:∀c,(model C.prog C.w).den c=denote table c
 T:∃mean,Top vw (looseW vw []) mean mg mb C.h₀
 X:Says C.h₀
section
variable {C:Cf} {mg mb:Str->Option Value}
theorem Bs.g(B:Bs C mg mb):C.h₀.Ns mainGlobals mg:=aD B.T fun _ T=>T.g
theorem Bs.b(B:Bs C mg mb):C.h₀.Ns builtinsNs mb:=aD B.T fun _ T=>T.b
theorem UW(h:vInt v=some i):∃t,v = .int i t:=by
 induction v using PySem.Value.casesOn with
 |int j t=>cases aH h;exact⟨t,rfl⟩
 |_=>exact nq h
theorem Yh(h:vRef v=some a):v = .ref a:=by
 induction v using PySem.Value.casesOn with
 |ref b=>exact congrArg _ (aH h)
 |_=>exact nq h
theorem I7{A:Type}{l:List A}(h:lNil l=true):l=[]:=by
 induction l using aM with
 |nil=>rfl
 |cons=>exact bf h
theorem Ej{A:Type}{x:Option A}(h:Ba x=true):x=none:=by
 induction x using aL with
 |none=>rfl
 |some=>exact bf h
theorem Yq(h:isTup o=true):o.cls = .type "tuple":=by
 unfold isTup at h;generalize o.cls=c at h ⊢
 induction c using PySem.Value.casesOn with
 |type t=>rw[eq_of_beq h]
 |_=>exact bf h
theorem Sy(h:seq0 o=some l):o.data = .seq l.toArray 0:=by
 unfold seq0 at h;generalize o.data=d at h ⊢
 induction d using PySem.Data.casesOn with
 |seq a n=>induction n using bL with
  |zero=>rw[<- aH h]
  |succ=>exact nq h
 |_=>exact nq h
theorem Ac(h:isI v i=true):∃t,v = .int i t:=by
 exists ae (jH h),p,h1,h2;cases eq_of_beq h2;exact UW h1
theorem Zm(h1:o.cls = .type "tuple")(h2:o.dict=none)(h3:o.slots.toList=[])(h4:o.data = .seq l.toArray 0):o=dc l 0:=by
 induction o using PySem.Obj.casesOn with
 |mk c d da sl=>
  subst h1;subst h2;subst h4;cases Array.toList_eq_nil_iff.mp h3;rfl
theorem aaG(h:twoL l i j=true):∃t u,l=[.int i t,.int j u]:=by
 induction l using aM with
 |nil=>exact bf h
 |cons x l=>
  induction l using aM with
  |nil=>exact bf h
  |cons y l=>
   exists ak (nJ h),h1,h;exists ak (nJ h),h2,h3;cases I7 h1;exists aD (Ac h2),t,e1;exists aD (Ac h3),u,e2;exact⟨t,u,by rw[e1,e2]⟩
theorem Bs.no(B:Bs C mg mb)(m:x∈wb):mg x=none:=by
 exists ae B.X,K,i,c;have c:=List.all_eq_true.mp (nh.mp (nh.mp c).1).1 x m;exists ae (jH c),r,q,h;rw[Ej h]at q;exact mg_none_of i B.g q
theorem Bs.int(B:Bs C mg mb)(m:(x,i)∈xy):∃t,mg x=some (.int i t):=by
 exists ae B.X,K,k,c;have c:=List.all_eq_true.mp (nh.mp (nh.mp c).1).2 _ m;exists ae (jH c),r,q,h;exists ae (jH h),v,q2,h;exists aD (Ac h),t,e;rw[q2,e]at q;exact⟨t,mg_of k B.g q⟩
theorem Bs.two(B:Bs C mg mb)(m:(x,i,j)∈B5):∃a t u,mg x=some (.ref a)/\C.h₀.get? a=some (dc [.int i t,.int j u] 0):=by
 exists ae B.X,K,k,c;have c:=List.all_eq_true.mp (nh.mp c).2 _ m;exists ae (jH c),r,q,h;exists ae (jH h),v,q2,h;exists ae (jH h),a,q3,h;exists ae (jH h),o,q4,h;exists ak (nJ h),h1,h;exists ae (jH h),l,h2,h;exists ak (nJ h1),h3,h1;exists ak (nJ h1),h4,h5;exists d7 (aaG h),t,u,e;rw[q2,Yh q3]at q;have g:=Zm (Yq h3) (Ej h4) (I7 h5) (Sy h2);rw[e]at g;exact⟨a,t,u,mg_of k B.g q,k _ _ (g▸q4)⟩
theorem jv(B:Bs C mg mb)(x:Str)(b:BI)(m:x∈wb)(h2:bootBuiltins x=some (gR b))(h3:x ≠ "__name__")(h4:(x == ("__debug__" : Str))=false):az C mg mb 0 x (.bi b):=
 let ⟨_,T⟩:=B.T
 ⟨h4,B.no m,(T.builtins x h3).trans h2⟩
theorem wF(B:Bs C mg mb)(x:Str)(k:IK)(m:x∈wb)(h2:bootBuiltins x=some (tC k))(h3:x ≠ "__name__")(h4:(x == ("__debug__" : Str))=false):az C mg mb 0 x (.it k):=
 let ⟨_,T⟩:=B.T
 ⟨h4,B.no m,(T.builtins x h3).trans h2⟩
theorem wY(B:Bs C mg mb)(x:Str)(i:Int)(m:(x,i)∈xy)(h4:(x == ("__debug__" : Str))=false):az C mg mb 0 x (.val (.int i)):=
 let ⟨t,e⟩:=B.int m
 ⟨h4,_,e,.int i t⟩
theorem Iy(B:Bs C mg mb)(x:Str)(i j:Int)(m:(x,i,j)∈B5)(h4:(x == ("__debug__" : Str))=false):az C mg mb 0 x (.val (.tup [.int i,.int j])):=
 let ⟨_,t,u,e,g⟩:=B.two m
 ⟨h4,_,e,.tup g (fun h=>h) (.cons (.int i t) (.cons (.int j u) .nil))⟩
theorem jD(B:Bs C mg mb):az C mg mb 0 "len" (.bi .len):=jv B _ _ (by decide +kernel) (by decide +kernel) (by decide +kernel) (by decide +kernel)
theorem C6(B:Bs C mg mb):az C mg mb 0 "sum" (.bi .sum):=jv B _ _ (by decide +kernel) (by decide +kernel) (by decide +kernel) (by decide +kernel)
theorem wi(B:Bs C mg mb):az C mg mb 0 "max" (.bi .max2):=jv B _ _ (by decide +kernel) (by decide +kernel) (by decide +kernel) (by decide +kernel)
theorem EI(B:Bs C mg mb):az C mg mb 0 "min" (.bi .min2):=jv B _ _ (by decide +kernel) (by decide +kernel) (by decide +kernel) (by decide +kernel)
theorem H8(B:Bs C mg mb):az C mg mb 0 "abs" (.bi .abs):=jv B _ _ (by decide +kernel) (by decide +kernel) (by decide +kernel) (by decide +kernel)
theorem Sk(B:Bs C mg mb):az C mg mb 0 "any" (.bi .any):=jv B _ _ (by decide +kernel) (by decide +kernel) (by decide +kernel) (by decide +kernel)
theorem KY(B:Bs C mg mb):az C mg mb 0 "sorted" (.bi .sorted):=jv B _ _ (by decide +kernel) (by decide +kernel) (by decide +kernel) (by decide +kernel)
theorem qw(B:Bs C mg mb):az C mg mb 0 "tuple" (.bi .tuple):=jv B _ _ (by decide +kernel) (by decide +kernel) (by decide +kernel) (by decide +kernel)
theorem wx(B:Bs C mg mb):az C mg mb 0 "dict" (.bi .dict):=jv B _ _ (by decide +kernel) (by decide +kernel) (by decide +kernel) (by decide +kernel)
theorem Y9(B:Bs C mg mb):az C mg mb 0 "int" (.bi .int):=jv B _ _ (by decide +kernel) (by decide +kernel) (by decide +kernel) (by decide +kernel)
theorem gX(B:Bs C mg mb):az C mg mb 0 "enumerate" (.it .enum):=wF B _ _ (by decide +kernel) (by decide +kernel) (by decide +kernel) (by decide +kernel)
theorem mD(B:Bs C mg mb):az C mg mb 0 "range" (.it .range1):=wF B _ _ (by decide +kernel) (by decide +kernel) (by decide +kernel) (by decide +kernel)
theorem Qh(B:Bs C mg mb):az C mg mb 0 "zip" (.it .zip):=wF B _ _ (by decide +kernel) (by decide +kernel) (by decide +kernel) (by decide +kernel)
theorem pR(B:Bs C mg mb):az C mg mb 0 "R0" (.val (.tup [.int 0,.int 1])):=Iy B _ 0 1 (by decide +kernel) (by decide +kernel)
theorem AG(B:Bs C mg mb):az C mg mb 0 "R1" (.val (.tup [.int 1,.int 1])):=Iy B _ 1 1 (by decide +kernel) (by decide +kernel)
theorem Yx(B:Bs C mg mb):az C mg mb 0 "MOST_BITS" (.val (.int 200000)):=wY B _ _ (by decide +kernel) (by decide +kernel)
theorem L9(B:Bs C mg mb):az C mg mb 0 "MOST_FAR" (.val (.int 20000)):=wY B _ _ (by decide +kernel) (by decide +kernel)
theorem TJ(B:Bs C mg mb):az C mg mb 0 "MOST_WORK" (.val (.int 3000000)):=wY B _ _ (by decide +kernel) (by decide +kernel)
end
theorem N4:(recsOf vw).length=53:=by decide +kernel
end
section
open PySem PySem.Calls PyProof.Rows PySem.W
def dd(i:Nat)(h:i<53):DefRec:=(recsOf vw)[i]'(by rw[N4];exact h)
theorem bI(i:Nat)(h:i<53):dd i h∈recsOf vw:=List.getElem_mem _
noncomputable def isFree:NameKind->Bool
 |.free=>true
 |_=>false
noncomputable def isLoc:Option NameKind->Bool
 |some .local=>true
 |some .cell=>true
 |_=>false
def DT(sc:Scope)(params:List Str):Bool:=
 band (!sc.isCoroutine) (band (!sc.isGenerator) (band (isFn sc.kind) (band (oC params) (band (params.all fun p=>isLoc (sc.names.lookup p)) (sc.names.all fun e=>!isFree e.2)))))
theorem oA(h:band a b=true):a=true/\b=true:=by induction a using aB <;> induction b using aB <;> simp_all [band]
theorem NT:oC l=true->l.Nodup:=by
 induction l with
 |nil=>
  intro _;exact List.nodup_nil
 |cons a r ih=>
  intro h;exists ak (oA h),h1,h2;refine ee.mpr ⟨fun m=>?_,ih h2⟩;rw[List.contains_iff_mem.mpr m]at h1;exact bf h1
theorem Ot(h:DT sc params=true):sc.isCoroutine=false/\sc.isGenerator=false/\sc.kind = .function/\params.Nodup/\(∀p∈params,sc.names.lookup p=some .local\/sc.names.lookup p=some .cell)/\∀x,sc.names.lookup x≠some .free:=by
 exists ak (oA h),h1,h;exists ak (oA h),h2,h;exists ak (oA h),h3,h;exists ak (oA h),h4,h;exists ak (oA h),h5,h6;refine⟨by simpa using h1,by simpa using h2,?_,NT h4,fun p m=>?_,fun x e=>?_⟩
 ·revert h3;induction sc.kind using PySem.ScopeKind.casesOn <;> simp [isFn]
 ·have:=List.all_eq_true.mp h5 p m;revert this
  induction sc.names.lookup p using aL with
  |none=>simp [isLoc]
  |some k=>induction k using PySem.NameKind.casesOn <;> simp [isLoc]
 ·have:=List.all_eq_true.mp h6 _ (mem_of_lookup e);simp [isFree]at this
section
variable {C:Cf} {mg mb:Str->Option Value} {K:Nat}
theorem bG(B:Bs C mg mb)(t7:∀e∈gl,az C mg mb K e.1 e.2)(hd:d∈recsOf vw)(x:Str)(hx:d.name=x)(params:List Str)
  (r4:∀pm code doc vals,vals.length=params.length->bindArgs (docDef d.name d.params d.body d.scope pm code doc) ⟨vals,[]⟩=pure (params.zip vals))
  (hs:DT d.scope params=true)
  (n:Nat) (O8:params.length=n) {ms:List MS} {slots:Nat} {keep:Bool} (eP:cxOk (iF gl params d.scope.names)=true) (hc:optL (compS 20 (iF gl params d.scope.names)) d.body=some ms) (hn:(x == ("__debug__" : Str))=false) :
  az C mg mb (K+1) x (.fn (bz n slots ms keep)):=by
 exists aD B.T,Z0,T;exists VZ (Ot hs),h1,h2,h3,h4,h5,h6;subst hx O8;exact Ud B.hM T t7 hd params r4 h1 h2 h3 h4 h5 h6 eP hc hn
theorem b1{P:List Value->Prop}(h:∀a,P [a]):∀vals,vals.length=1->P vals:=fun vals=>vals.casesOn (fun e=>nomatch e) fun a r=>r.casesOn (fun _=>h a) fun _ _ e=>nomatch e
theorem uS{P:List Value->Prop}{n:Nat}(h:∀a vals,vals.length=n->P (a::vals)):∀vals,vals.length=n+1->P vals:=fun vals=>vals.casesOn (fun e=>nomatch e) fun a r e=>h a r (gW e)
theorem b2{P:List Value->Prop}(h:∀a b,P [a,b]):∀vals,vals.length=2->P vals:=uS fun a=>b1 (h a)
theorem b3{P:List Value->Prop}(h:∀a b c,P [a,b,c]):∀vals,vals.length=3->P vals:=uS fun a=>b2 (h a)
theorem b4{P:List Value->Prop}(h:∀a b c d,P [a,b,c,d]):∀vals,vals.length=4->P vals:=uS fun a=>b3 (h a)
theorem b5{P:List Value->Prop}(h:∀a b c d e,P [a,b,c,d,e]):∀vals,vals.length=5->P vals:=uS fun a=>b4 (h a)
theorem bJ:∀e∈([]:List (Str×GI)),az C mg mb K e.1 e.2:=fun _ h=>nomatch h
theorem au(a:az C mg mb k x g)(h:∀e∈l,az C mg mb K e.1 e.2)(hk:k<=K):∀e∈(x,g)::l,az C mg mb K e.1 e.2:=
 jj.mpr ⟨a.more hk,h⟩
end
end
section
open PySem PySem.Calls PyProof.Rows PySem.W
mutual
inductive NR:V->Prop
 |none:NR .none
 |bool (b:Bool):NR (.bool b)
 |int (i:Int):NR (.int i)
 |str (s:List Nat):NR (.str s)
 |tup {l:List V}:NRs l->NR (.tup l)
 |lst {l:List V}:NRs l->NR (.lst l)
 |dct {l:List (List Int×V)}:iJ l->NR (.dct l)
inductive NRs:List V->Prop
 |nil:NRs []
 |cons {v:V} {l:List V}:NR v->NRs l->NRs (v::l)
inductive iJ:List (List Int×V)->Prop
 |nil:iJ []
 |cons {k:List Int} {v:V} {l:List (List Int×V)}:NR v->iJ l->iJ ((k,v)::l)
end
mutual
inductive FL:V->Prop
 |none:FL .none
 |bool (b:Bool):FL (.bool b)
 |int (i:Int):FL (.int i)
 |str (s:List Nat):FL (.str s)
 |tup {l:List V}:ip l->FL (.tup l)
inductive ip:List V->Prop
 |nil:ip []
 |cons {v:V} {l:List V}:FL v->ip l->ip (v::l)
end
section
variable {kh:List Int->Int} {φ a8:Nat->Option Addr} {M M':Addr->Prop} {h h':Heap}
theorem FL.vu(f:FL (.tup l)):ip l:=by cases f;assumption
theorem ip.cons_inv(f:ip (v::l)):FL v/\ip l:=by cases f;exact⟨‹_›,‹_›⟩
theorem NR.vu(f:NR (.tup l)):NRs l:=by cases f;assumption
theorem NR.lst_inv(f:NR (.lst l)):NRs l:=by cases f;assumption
theorem NR.IT(f:NR (.dct l)):iJ l:=by cases f;assumption
theorem NR.FA{n:Nat}{P:Prop}(f:NR (.ref n)):P:=nomatch f
theorem NRs.cons_inv(f:NRs (v::l)):NR v/\NRs l:=by cases f;exact⟨‹_›,‹_›⟩
theorem iJ.cons_inv(f:iJ ((k,v)::l)):NR v/\iJ l:=by cases f;exact⟨‹_›,‹_›⟩
theorem FL.nr(f:FL v):NR v:=FL.rec (motive_1:=fun v _=>NR v) (motive_2:=fun l _=>NRs l) .none .bool .int .str (fun _ h=>.tup h) .nil (fun _ _ a b=>.cons a b) f
theorem ip.nr(f:ip l):NRs l:=(NR.vu (FL.nr (.tup f)))
theorem fls_key(k:List Int):ip (k.map .int):=by
 induction k with
 |nil=>exact .nil
 |cons i r ih=>exact .cons (.int i) ih
theorem W8(hc:∀b vs n,h.get? b=some (dc vs n)->¬ M b->h'.get? b=some (dc vs n)/\¬ M' b):Go φ a8 M M' h h' FL ip (fun _=>False):=
 ⟨fun _ f=>f.vu,fun _ f=>(nomatch f),fun _ f=>(nomatch f),fun _ _ f=>f.cons_inv,fun _ _ _ f=>f.elim,fun _ _ f=>(nomatch f),fun _ b vs n _=>hc b vs n,fun _ _ _ _ f=>(nomatch f),fun _ _ _ _ f=>(nomatch f)⟩
theorem vr_fl(hc:∀b vs n,h.get? b=some (dc vs n)->¬ M b->h'.get? b=some (dc vs n)/\¬ M' b)(r:VR kh φ M h v x):FL v->VR kh a8 M' h' v x:=zM (W8 hc) r
theorem zL(hc:∀b o,h.get? b=some o->¬ M b->h'.get? b=some o/\¬ M' b):Go φ a8 M M' h h' NR NRs iJ:=
 ⟨fun _ f=>f.vu,fun _ f=>f.lst_inv,fun _ f=>f.IT,fun _ _ f=>f.cons_inv,fun k _ _ f=>⟨.tup (fls_key k).nr,f.cons_inv⟩,fun _ _ f=>f.FA,fun _ b _ _ _=>hc b _,fun _ b _ _ _=>hc b _,fun _ b _ _ _=>hc b _⟩
theorem kX(hc:∀b o,h.get? b=some o->¬ M b->h'.get? b=some o/\¬ M' b)(r:VR kh φ M h v x):NR v->VR kh a8 M' h' v x:=zM (zL hc) r
theorem Cj(hc:∀b o,h.get? b=some o->¬ M b->h'.get? b=some o/\¬ M' b)(r:bD kh φ M h l vs):NRs l->bD kh a8 M' h' l vs:=Jw (zL hc) r
theorem Ma(hc:∀b o,h.get? b=some o->¬ M b->h'.get? b=some o/\¬ M' b)(r:d6 kh φ M h l es):iJ l->d6 kh a8 M' h' l es:=K7 (zL hc) r
end
theorem no_ref{k:Nat}{l:List V}:NRs l->V.ref k∈l->False:=by
 induction l with
 |nil=>exact fun _ m=>nomatch m
 |cons v l ih=>
  intro f m;rcases aI.mp m with e|m
  ·exact(show NR (.ref k)from e▸f.cons_inv.1).FA
  ·exact ih f.cons_inv.2 m
def frz(H:Hp):V->V
 |.ref n=>match look H.es n with
  |some e=>match e.obj with
   |.list l=>.lst l
   |.dict l=>.dct l
  |none=>.ref n
 |v=>v
theorem vn(h:NR v):frz H v=v:=by cases h <;> rfl
theorem Q7:NRs l->l.map (frz H)=l:=by
 induction l with
 |nil=>exact fun _=>rfl
 |cons v l ih=>exact fun h=>by rw[aO,vn h.cons_inv.1,ih h.cons_inv.2]
section
variable {C:Cf} {n:Nat}
theorem F0:f9 vs n≠dc ws m:=fun h=>by
 have:("list" : String) = "tuple":=by injection h with h;injection h
 exact absurd this dq
theorem JK:cX vs n≠dc ws m:=fun h=>by
 have:("dict" : String) = "tuple":=by injection h with h;injection h
 exact absurd this dq
noncomputable def Fz(φ:Ph)(args:List V)(a:Addr):Prop:=∃k,V.ref k∈args/\φ.f k=some a
set_option tactic.hygienic true in
theorem M6(I:C.I φ H h)(r:C.R φ H h v x)(hM:∀b,oz b->aU φ H b)(hr:∀k a,v = .ref k->φ.f k=some a->¬ oz a)(nr:NR (frz H v)) :
  VR C.kh (fun _=>none) oz h (frz H v) x:=by
 have hc:∀b o,h.get? b=some o->¬ aU φ H b->h.get? b=some o/\¬ oz b:=fun b o e m=>⟨e,fun q=>m (hM b q)⟩;clear hM;cases r with
 |@ref k a hk=>
  unfold frz at nr ⊢;dsimp only at nr ⊢;split at nr
  ·rename_i e hl;exists ak (fI hl),me,wD;subst wD;exists b6 (I.objs e me),a',h1,h2,h3;rw[hk]at h1;exists h1;revert h3 nr;clear me;induction e.obj using Internal.bq.casesOn with
   |list l=>
    rintro nr ⟨vs,c,g,rs⟩;exact .lst g (hr _ _ rfl hk) (Cj hc rs nr.lst_inv)
   |dict l=>
    rintro nr ⟨ds,c,g,rs,nd⟩;exact .dct g (xB I h2) (hr _ _ rfl hk) (Ma hc rs nr.IT) nd
  ·cases nr
 |none=>exact .none
 |bool b=>exact .bool b
 |int i t=>exact .int i t
 |str y t=>exact .str y t
 |tup e m r=>exact kX hc (.tup e m r) nr
 |lst e m r=>exact kX hc (.lst e m r) nr
 |dct e z m r d=>exact kX hc (.dct e z m r d) nr
theorem Dl(I:C.I φ H h)(hM:∀b,oz b->aU φ H b):∀{xs:List Value},C.Rs φ H h l xs->(∀k a,V.ref k∈l->φ.f k=some a->¬ oz a)->NRs (l.map (frz H))->bD C.kh (fun _=>none) oz h (l.map (frz H)) xs:=by
 induction l with
 |nil=>intro xs r _ _;cases r;exact .nil
 |cons v l ih=>
  intro xs r hr f;cases r with
  |cons a r=>
  exact .cons (M6 I a hM (fun k b e q=>hr k b (e▸.head _) q) f.cons_inv.1) (ih r (fun k b m q=>hr k b (.tail _ m) q) f.cons_inv.2)
theorem yQ(I:C.I φ H h)(P:Addr->Prop)(hP:∀a,P a->aU φ H a):C.I ⟨fun _=>none,P⟩ ⟨0,[]⟩ h where
 base:=I.base
 objs:=fun _ m=>by clear hP I;cases m
 nodup:=List.nodup_nil
 inj:=fun _ m=>by clear hP I;cases m
 lt:=fun _ m=>by clear hP I;cases m
 fresh:=fun _ _=>rfl
 cC:=fun a f=>by
  refine⟨?_,(fun _ m=>by clear f hP I;cases m),?_⟩
  ·rcases hP a f with⟨e,m,q⟩|f
   ·exists b6 (I.objs e m),a',h1,h2,h3;rw[q]at h1;exists h1;exact h2
   ·exact(I.cC a f).1
  ·rcases hP a f with⟨e,m,q⟩|f
   ·exists b6 (I.objs e m),a',h1,h2,h3;rw[q]at h1;exists h1;revert h3;clear h2 q m f hP I;cases e.obj with
    |list l=>rintro ⟨vs,c,g,_⟩;exact⟨_,g⟩
    |dict l=>rintro ⟨vs,c,g,_⟩;exact⟨_,g⟩
   ·exact(I.cC a f).2.2
 sys:=I.sys
set_option tactic.hygienic true in
theorem Fc(I:C.I φ H h)(nr:NRs (args.map (frz H)))(f:Fz φ args a):(∃vs n,h.get? a=some (f9 vs n))\/(∃vs n,h.get? a=some (cX vs n)):=by
 exists ae f,k,m,hk
 try clear f
 induction args with
 |nil=>clear nr hk I;cases m
 |cons v l ih=>
  cases nr with
  |cons n1 n2=>
  rcases aI.mp m with rfl|m
  ·unfold frz at n1;dsimp only at n1;split at n1
   ·rename_i e hl;exists ak (fI hl),me,qE;clear n1 hl m n2 ih;subst qE;exists b6 (I.objs e me),a',h1,h2,h3;rw[hk]at h1;exists h1;revert h3;clear h2 hk me I;induction e.obj using Internal.bq.casesOn with
    |list l=>rintro ⟨vs,c,g,_⟩;exact .inl ⟨_,_,g⟩
    |dict l=>rintro ⟨vs,c,g,_⟩;exact .inr ⟨_,_,g⟩
   ·clear m n2 ih hk I;cases n1
  ·exact ih n2 m
open Classical in
def bM(c:CF):CF:=fun args H=>match c (args.map (frz H)) ⟨0,[]⟩with
 |some (v,_)=>if NRs (args.map (frz H))/\(FL v\/(args.map (frz H)=args/\NR v))then some (v,H)else none
 |none=>none
theorem dX(e:c (args.map (frz H)) ⟨0,[]⟩=some (v,H'))(n1:NRs (args.map (frz H)))(n2:FL v):bM c args H=some (v,H):=by
 unfold bM;rw[e];exact if_pos ⟨n1,.inl n2⟩
theorem eT(e:c args ⟨0,[]⟩=some (v,H'))(n1:NRs args)(n2:NR v):bM c args H=some (v,H):=by
 unfold bM;rw[Q7 n1,e];exact if_pos ⟨n1,.inr ⟨rfl,n2⟩⟩
set_option tactic.hygienic true in
theorem Vw(e:bM c args H=some (v,H₁)):H₁=H/\(∃H',c (args.map (frz H)) ⟨0,[]⟩=some (v,H'))/\NRs (args.map (frz H))/\(FL v\/(args.map (frz H)=args/\NR v)):=by
 unfold bM at e;split at e
 ·rename_i v' H' q;split at e
  ·rename_i z;injections e;exact⟨rfl,⟨H',q⟩,z.1,z.2⟩
  ·exact nq e
 ·exact nq e
theorem bY(hc:C.fJ n g a):C.fJ n (bM g) a:=fun A φ H s args vals v H₁ Q E R I rs e P=>by
 obtain⟨rfl,⟨H',e⟩,nr,hv⟩:=Vw e;have I0:=yQ I (fun b=>aU φ H₁ b/\¬ Fz φ args b) fun _ m=>m.1;have lU:∀b,aU ⟨fun _=>none,fun b=>aU φ H₁ b/\¬ Fz φ args b⟩ ⟨0,[]⟩ b↔aU φ H₁ b/\¬ Fz φ args b:=fun b=>⟨fun m=>m.elim (fun⟨_,m,_⟩=>nomatch m) id,.inr⟩;refine hc A ⟨fun _=>none,fun b=>aU φ H₁ b/\¬ Fz φ args b⟩ ⟨0,[]⟩ s (args.map (frz H₁)) vals v H' Q E R I0 ?_ e ?_
 ·exact Dl I (fun b m=>((lU b).mp m).1) rs (fun k b m q z=>((lU b).mp z).2 ⟨k,m,q⟩) nr
 ·intro x a8 h' tk S I' r;have keep:∀b o,s.heap.get? b=some o->h'.get? b=some o:=fun b o e=>S.keep b o e fun⟨_,m,_⟩=>nomatch m
  exists ak (Cf.grow I keep),J,T;refine P x φ h' tk T J ?_;have big:∀b,aU φ H₁ b->¬ Fz φ args b->aU a8 H' b:=fun b m f=>.inr (S.dE b ⟨m,f⟩);clear T J I' S lU I0 e P rs R hc;rcases hv with fl|⟨hz,hn⟩
  ·refine vr_fl (fun b vs c g m=>⟨g,fun q=>?_⟩) r fl;by_cases f:Fz φ args b
   ·clear q m fl big r;rcases Fc I nr f with⟨ws,d,g'⟩|⟨ws,d,g'⟩
    ·have:=keep _ _ g';rw[g]at this;exact F0 (aH this).symm
    ·have:=keep _ _ g';rw[g]at this;exact JK (aH this).symm
   ·exact m (big b q f)
  ·refine kX (fun b o g m=>⟨g,fun q=>m (big b q ?_)⟩) r hn;rintro ⟨k,mk,_⟩;rw[hz]at nr;exact no_ref nr mk
end
end
section
open PySem PySem.Calls PyProof.Rows PySem.W
section
variable {C:Cf} {n:Nat} {φ:Ph} {H:Hp} {h h':Heap}
inductive FLe:List (List Int×V)->Prop
 |nil:FLe []
 |cons {k:List Int} {v:V} {l:List (List Int×V)}:FL v->FLe l->FLe ((k,v)::l)
theorem FLe.cons_inv(f:FLe ((k,v)::l)):FL v/\FLe l:=by cases f;exact⟨‹_›,‹_›⟩
theorem HS{kh:List Int->Int}{φ a8:Nat->Option Addr}{M M':Addr->Prop}(hc:∀b vs n,h.get? b=some (dc vs n)->¬ M b->h'.get? b=some (dc vs n)/\¬ M' b){l:List (List Int×V)}:∀{es:List DictEntry},d6 kh φ M h l es->FLe l->d6 kh a8 M' h' l es:=by
 induction l with
 |nil=>intro es r _;clear hc;cases r;exact .nil
 |cons e l ih=>
  intro es r f;cases r with
  |cons e1 e2 k v r=>exact .cons e1 e2 (vr_fl hc k (.tup (fls_key _))) (vr_fl hc v f.cons_inv.1) (ih r f.cons_inv.2)
def dictAt(v:V)(H:Hp):Option (List (List Int×V)):=match v with
 |.ref k=>match look H.es k with
  |some e=>match e.obj with
   |.dict l=>some l
   |.list _=>none
  |none=>none
 |_=>none
set_option tactic.hygienic true in
theorem EU(e:dictAt v H=some l):∃k e,v = .ref k/\e∈H.es/\e.id=k/\e.obj = .dict l:=by
 unfold dictAt at e;split at e
 ·rename_i k;exists ml e,en,hl,e
  ·exists ak (fI hl),m,q;split at e
   ·rename_i l' ho
    (clear hl;exists e)
    exact⟨k,en,rfl,m,q,ho⟩
   ·exact nq e
 ·exact nq e
open Classical in
def ng(c:CF):CF:=fun args H=>match c (args.map (frz H)) ⟨0,[]⟩with
 |some (v,H')=>match dictAt v H' with
  |some l=>if NRs (args.map (frz H))/\FLe l then some (newObj H (.dict l))else none
  |none=>none
 |none=>none
theorem Gw(e:c (args.map (frz H)) ⟨0,[]⟩=some (v,H'))(e2:dictAt v H'=some l)(n1:NRs (args.map (frz H)))(n2:FLe l):ng c args H=some (newObj H (.dict l)):=by
 unfold ng;rw[e];dsimp only;rw[e2];exact if_pos ⟨n1,n2⟩
set_option tactic.hygienic true in
theorem Lu(e:ng c args H=some (v,H₁)):∃w H' l,c (args.map (frz H)) ⟨0,[]⟩=some (w,H')/\dictAt w H'=some l/\NRs (args.map (frz H))/\FLe l/\newObj H (.dict l)=(v,H₁):=by
 unfold ng at e;split at e
 ·rename_i w H' q;exists B8 e,l,q2,e
  ·split at e
   ·rename_i z;exact⟨w,H',l,q,q2,z.1,z.2,aH e⟩
   ·exact nq e
 ·exact nq e
theorem HY{g:CF}{a:Addr}(hc:C.fJ n g a):C.fJ n (ng g) a:=fun A φ H s args vals v H₁ Q E R I rs e P=>by
 exists jZ (Lu e),w,H',l,e,e2,nr,fl,e3;have I0:=yQ I (fun b=>aU φ H b/\¬ Fz φ args b) fun _ m=>m.1;have lU:∀b,aU ⟨fun _=>none,fun b=>aU φ H b/\¬ Fz φ args b⟩ ⟨0,[]⟩ b↔aU φ H b/\¬ Fz φ args b:=fun b=>⟨fun m=>m.elim (fun⟨_,m,_⟩=>nomatch m) id,.inr⟩;refine hc A ⟨fun _=>none,fun b=>aU φ H b/\¬ Fz φ args b⟩ ⟨0,[]⟩ s (args.map (frz H)) vals w H' Q E R I0 ?_ e ?_
 ·exact Dl I (fun b m=>((lU b).mp m).1) rs (fun k b m q z=>((lU b).mp z).2 ⟨k,m,q⟩) nr
 ·intro x a8 h' tk S I' r;have keep:∀b o,s.heap.get? b=some o->h'.get? b=some o:=fun b o e=>S.keep b o e fun⟨_,m,_⟩=>nomatch m
  exists ko (EU e2),k,en,qR,m,Nk,ho;clear lU I0 e2 e rs R hc;clear e;subst qR;subst Nk;cases r with
  |@ref _ D hD=>
  exists b6 (I'.objs en m),a',h1,h2,h3;rw[hD]at h1;exists h1;rw[ho]at h3;exists cB h3,es,c,gD,er,nd
  try clear h3
  have om:s.heap.get? D=none:=by
   rcases S.new en m with⟨e',m',_⟩|q
   ·clear hD m S;cases m'
   ·exact q D hD
  have o8:aU a8 H' D:=.inl ⟨en,m,hD⟩;have big:∀b,aU φ H b->¬ Fz φ args b->aU a8 H' b:=fun b m f=>.inr (S.dE b ⟨m,f⟩);have hr:OR C.kh (eo φ H.nxt D).f (aU (eo φ H.nxt D) (newObj H (.dict l)).2) h' (.dict l) D:=by
   refine⟨es,c,gD,HS (fun b vs d g mb=>⟨g,fun q=>?_⟩) er fl,nd⟩;have hb:b=D\/aU φ H b:=by
    rcases q with⟨e',m',q⟩|q
    ·rcases aI.mp m' with rfl|m'
     ·left;unfold eo at q;dsimp only at q;rw[if_pos rfl]at q;exact(aH q).symm
     ·right;unfold eo at q;dsimp only at q;rw[if_neg (eV (I.lt e' m'))]at q;exact .inl ⟨e',m',q⟩
    ·exact .inr (.inr q)
   rcases hb with rfl|hb
   ·exact mb o8
   ·by_cases f:Fz φ args b
    ·clear hb mb big o8;rcases Fc I nr f with⟨ws,d,g'⟩|⟨ws,d,g'⟩
     ·have:=keep _ _ g';rw[g]at this;exact F0 (aH this).symm
     ·have:=keep _ _ g';rw[g]at this;exact JK (aH this).symm
    ·exact mb (big b hb f)
  exists dr (Cf.JB I keep om h2 hr),J,T,r;have q1:v=(newObj H (.dict l)).1:=by rw[e3]
  have q2:H₁=(newObj H (.dict l)).2:=by rw[e3]
  subst q1 q2;exact P _ _ h' tk T J r
noncomputable def refOf(v:V):Option Nat:=match v with
 |.ref n=>some n
 |_=>none
theorem Ds(h:refOf v=some n):v = .ref n:=by
 induction v using Internal.V.casesOn with
 |ref k=>exact congrArg _ (aH h)
 |_=>exact nq h
def D9(l:List V):Option (V×Nat×V):=match l with
 |[]=>none
 |x::r=>match r with
  |[]=>none
  |y::r=>match r with
   |[]=>none
   |z::r=>match r with
    |[]=>oo (refOf y) fun n=>some (x,n,z)
    |_::_=>none
theorem Yn(e:D9 args=some (x,k,o)):args=[x,.ref k,o]:=by
 induction args using aM with
 |nil=>exact nq e
 |cons a r=>induction r using aM with
  |nil=>exact nq e
  |cons b r=>induction r using aM with
   |nil=>exact nq e
   |cons c r=>induction r using aM with
    |cons=>exact nq e
    |nil=>
     exists ae (aQ e),n,h,e;rw[Ds h];exact jq e fun a b c=>by rw[a,b,c]
def lP(H:Hp)(k:Nat):Option (List V):=match look H.es k with
 |some e=>match e.obj with
  |.list l=>some l
  |.dict _=>none
 |none=>none
set_option tactic.hygienic true in
theorem Ql(e:lP H k=some l):∃e∈H.es,e.id=k/\e.obj = .list l:=by
 exists ml e,en,hl,e
 ·exists ak (fI hl),m,q;split at e
  ·rename_i l' ho
   (clear hl;exists e)
   exact⟨en,m,q,ho⟩
  ·exact nq e
noncomputable def D8(D:Addr):Nat->Option Addr
 |0=>some D
 |_+1=>none
open Classical in
def oq(c:CF):CF:=fun args H=>match D9 args with
 |some (x,k,o)=>match lP H k with
  |some l=>match c [x,.ref 0,o] ⟨1,[⟨0,true,.list l⟩]⟩with
   |some (v,_)=>if NR x/\NR o/\NRs l/\NR v then some (v,H)else none
   |none=>none
  |none=>none
 |none=>bM c args H
open Classical in
theorem JD(hl:lP H k=some l)(e:c [x,.ref 0,o] ⟨1,[⟨0,true,.list l⟩]⟩=some (v,H'))(n1:NR x)(n2:NR o)(n3:NRs l)(n4:NR v):oq c [x,.ref k,o] H=some (v,H):=by
 show(match lP H k with
  |some l=>match c [x,.ref 0,o] ⟨1,[⟨0,true,.list l⟩]⟩with
   |some (v,_)=>if NR x/\NR o/\NRs l/\NR v then some (v,H)else none
   |none=>none
  |none=>none)=_
 rw[hl];dsimp only;rw[e];exact if_pos ⟨n1,n2,n3,n4⟩
set_option tactic.hygienic true in
theorem M7(e:oq c args H=some (v,H₁)):(bM c args H=some (v,H₁))\/∃x k o l H',args=[x,.ref k,o]/\lP H k=some l/\c [x,.ref 0,o] ⟨1,[⟨0,true,.list l⟩]⟩=some (v,H')/\NR x/\NR o/\NRs l/\NR v/\H₁=H:=by
 unfold oq at e;split at e
 ·rename_i x k o q;exists g5 e,l,q2,e
  ·split at e
   ·rename_i w H' q3;split at e
    ·rename_i z;injections e;exact .inr ⟨x,k,o,l,H',Yn q,q2,q3,z.1,z.2.1,z.2.2.1,z.2.2.2,rfl⟩
    ·exact nq e
   ·exact nq e
 ·exact .inl e
def oW(φ:Ph)(H:Hp)(D:Addr):Ph:=⟨D8 D,fun b=>aU φ H b/\b≠D⟩
noncomputable def nI(o:bq):Hp:=⟨1,[⟨0,true,o⟩]⟩
theorem nM(m:e∈(nI o).es):e=⟨0,true,o⟩:=c7.mp m
theorem HU(hD:aU φ H D):aU (oW φ H D) (nI o) b↔aU φ H b:=by
 constructor
 ·intro z;rcases z with z|z
  ·exists ae z,e,m,q;rw[nM m]at q;exact aH (show some D=some b from q)▸hD
  ·exact z.1
 ·intro m;by_cases hb:b=D
  ·exact .inl ⟨_,.head _,by rw[hb];rfl⟩
  ·exact .inr ⟨m,hb⟩
theorem HR(I:C.I φ H h)(hb:C.h₀.get? D=none)(r:OR C.kh (D8 D) (aU (oW φ H D) (nI o)) h o D):C.I (oW φ H D) (nI o) h:=by
 have J0:=yQ I (fun b=>aU φ H b/\b≠D) fun _ m=>m.1;refine⟨I.base,fun e m=>?_,ee.mpr ⟨(fun m=>nomatch m),List.nodup_nil⟩,fun e m e' m' _=>congrArg (fun e:Ent=>e.id) ((nM m).trans (nM m').symm),fun e m=>?_,fun i hi=>?_,fun b f=>?_,I.sys⟩
 ·rw[nM m];exact⟨D,rfl,hb,r⟩
 ·rw[nM m];exact Nat.zero_lt_one
 ·have hi:1<=i:=hi
  induction i using bL with
  |zero=>exact absurd hi dq
  |succ i=>rfl
 ·refine dr (J0.cC b f) fun p _ q=>⟨p,fun e m z=>?_,q⟩;rw[nM m]at z;exact f.2 (aH (show some D=some b from z)).symm
theorem GJ(h1:φ.f k=some D)(r:C.R φ H h (.ref k) x):x = .ref D:=by
 cases r with
 |ref Rt=>exact congrArg _ (aH (Rt.symm.trans h1))
theorem Dg{s:Shared}{D:Addr}{o:bq}{a8:Ph}{H':Hp}{h':Heap}(S:St (oW φ H D) (nI o) s.heap a8 H' h'):(∀b o,s.heap.get? b=some o->h'.get? b=some o)/\∀b,aU φ H b->aU a8 H' b:=by
 refine⟨fun b o' e=>S.keep b o' e fun z=>?_,fun b q=>?_⟩
 ·exists b6 z,e',m,lk,Z0;rw[nM m]at lk;exact bt lk
 ·by_cases hb:b=D
  ·exists dw (S.ids _ (.head _)),e',m',i',Z0,Z0;have i':e'.id=0:=i';exact .inl ⟨e',m',by rw[i',hb];exact S.ext _ _ rfl⟩
  ·exact .inr (S.dE b ⟨q,hb⟩)
theorem RC(hc:C.fJ n g a):C.fJ n (oq g) a:=fun A φ H s args vals v H₁ Q E R I rs e P=>by
 rcases M7 e with e|⟨x,k,o,l,H',rfl,hl,ec,n1,n2,n3,n4,rfl⟩
 ·exact bY hc A φ H s args vals v H₁ Q E R I rs e P
 clear e;exists b6 (Ql hl),en,me,z,ho;subst z;exists b6 (I.objs en me),D,h1,h2,h3;rw[ho]at h3;have AO:aU φ H₁ D:=.inl ⟨en,me,h1⟩;have kM:∀b o,s.heap.get? b=some o->¬ aU φ H₁ b->s.heap.get? b=some o/\¬ aU (oW φ H₁ D) (nI (.list l)) b:=fun b o e m=>⟨e,fun q=>m ((HU AO).mp q)⟩;have I0:=HR I h2 (o:=.list l) (aT h3 fun ws cn gD mT=>⟨ws,cn,gD,Cj kM mT n3⟩);clear hl h3 ho h2 me;refine hc A _ _ s [x,.ref 0,o] vals v H' Q E R I0 ?_ ec fun y a8 h' tk S I' r=>?_
 ·cases rs with
  |cons r1 rs=>
  cases rs with
  |cons r2 rs=>
  cases rs with
  |cons r3 rs=>
  cases rs;rw[GJ h1 r2];exact .cons (kX kM r1 n1) (.cons (.ref rfl) (.cons (kX kM r3 n2) .nil))
 ·exists ak (Dg S),keep,back;exists ak (Cf.grow I keep),J,T;exact P y φ h' tk T J (kX (fun b o g m=>⟨g,fun q=>m (back b q)⟩) r n4)
def K8(l:List V):Option (Nat×List V):=match l with
 |[]=>none
 |x::r=>oo (refOf x) fun n=>some (n,r)
theorem Ux(e:K8 args=some (k,r)):args = .ref k::r:=by
 induction args using aM with
 |nil=>exact nq e
 |cons a l=>
  exists ae (aQ e),n,h,e;rw[Ds h];exact sp2 e fun a b=>by rw[a,b]
open Classical in
def oi(c:CF):CF:=fun args H=>match K8 args with
 |some (k,r)=>match dictAt (.ref k) H with
  |some l=>match c (.ref 0::r) ⟨1,[⟨0,true,.dict l⟩]⟩with
   |some (v,_)=>if NRs r/\FLe l/\NR v then some (v,H)else none
   |none=>none
  |none=>none
 |none=>oq c args H
open Classical in
theorem Ki(hl:dictAt (.ref k) H=some l)(e:c (.ref 0::r) ⟨1,[⟨0,true,.dict l⟩]⟩=some (v,H'))(n1:NRs r)(n3:FLe l)(n4:NR v):oi c (.ref k::r) H=some (v,H):=by
 show(match dictAt (.ref k) H with
  |some l=>match c (.ref 0::r) ⟨1,[⟨0,true,.dict l⟩]⟩with
   |some (v,_)=>if NRs r/\FLe l/\NR v then some (v,H)else none
   |none=>none
  |none=>none)=_
 rw[hl];dsimp only;rw[e];exact if_pos ⟨n1,n3,n4⟩
set_option tactic.hygienic true in
theorem Sm(e:oi c args H=some (v,H₁)):(oq c args H=some (v,H₁))\/∃k r l H',args = .ref k::r/\dictAt (.ref k) H=some l/\c (.ref 0::r) ⟨1,[⟨0,true,.dict l⟩]⟩=some (v,H')/\NRs r/\FLe l/\NR v/\H₁=H:=by
 unfold oi at e;split at e
 ·rename_i k r q;exists B8 e,l,q2,e
  ·split at e
   ·rename_i w H' q3;split at e
    ·rename_i z;injections e;exact .inr ⟨k,r,l,H',Ux q,q2,q3,z.1,z.2.1,z.2.2,rfl⟩
    ·exact nq e
   ·exact nq e
 ·exact .inl e
theorem K5(hc:C.fJ n g a):C.fJ n (oi g) a:=fun A φ H s args vals v H₁ Q E R I rs e P=>by
 rcases Sm e with e|⟨k,r,l,H',rfl,hl,ec,n1,n3,n4,rfl⟩
 ·exact RC hc A φ H s args vals v H₁ Q E R I rs e P
 clear e;exists ko (EU hl),k',en,hk,me,z,ho;subst z;cases hk;exists b6 (I.objs en me),D,h1,h2,h3;rw[ho]at h3;have AO:aU φ H₁ D:=.inl ⟨en,me,h1⟩;have kM:∀b o,s.heap.get? b=some o->¬ aU φ H₁ b->s.heap.get? b=some o/\¬ aU (oW φ H₁ D) (nI (.dict l)) b:=fun b o e m=>⟨e,fun q=>m ((HU AO).mp q)⟩;have I0:=HR I h2 (o:=.dict l) (cB h3 fun ws cn gD mT nd=>⟨ws,cn,gD,HS (fun b vs d g m=>kM b _ g m) mT n3,nd⟩);clear hl h3 ho h2 me;refine hc A _ _ s (.ref 0::r) vals v H' Q E R I0 ?_ ec fun y a8 h' tk S I' r=>?_
 ·cases rs with
  |cons r1 rs=>
  rw[GJ h1 r1];exact .cons (.ref rfl) (Cj kM rs n1)
 ·exists ak (Dg S),keep,back;exists ak (Cf.grow I keep),J,T;exact P y φ h' tk T J (kX (fun b o g m=>⟨g,fun q=>m (back b q)⟩) r n4)
end
end
section
open PySem PySem.Calls PyProof.Rows PySem.W
noncomputable def Fn:List MS:=[(.if_ (.cmp .Eq (.var 0) (.const (.str [108,101,120]))) [(.ret (.var 1))] []),(.if_ (.cmp .Eq (.var 0) (.const (.str [103,114,108,101,120]))) [(.ret (.bin .Add (.tup [(.bi .sum [(.var 1)])]) (.var 1)))] []),(.if_ (.cmp .Eq (.var 0) (.const (.str [103,114,101,118,108,101,120]))) [(.ret (.bin .Add (.tup [(.bi .sum [(.var 1)])]) (.bi .tuple [(.lcomp [2,3] (.neg (.var 3)) [([3],false,.seq,[(.rev (.var 1))],[])])])))] []),.stuck]
def zO:CF:=bz 2 14 Fn false
def jX:CF:=bM zO
noncomputable def Vl:List MS:=[(.ret (.bi .tuple [(.lcomp [2,3,4] (.bin .Add (.var 4) (.sub (.var 1) (.var 3))) [([3,4],true,.enum,[(.var 0)],[])])]))]
def aaI:CF:=bz 2 14 Vl false
def yp:CF:=bM aaI
noncomputable def Ic:List MS:=[(.for_ [2,3] true .enum [(.var 0)] [(.if_ (.cmp .Gt (.var 3) (.sub (.var 1) (.var 2))) [(.ret (.const (.bool false)))] [])]),(.ret (.const (.bool true)))]
def Ce:CF:=bz 2 16 Ic false
def oU:CF:=bM Ce
noncomputable def ZM:List MS:=[(.ret (.bi .tuple [(.lcomp [2,3,4] (.bin .Sub (.var 4) (.sub (.var 1) (.var 3))) [([3,4],true,.enum,[(.var 0)],[])])]))]
def IZ:CF:=bz 2 14 ZM false
def nS:CF:=bM IZ
noncomputable def W7:List MS:=[(.ret (.bi .tuple [(.lcomp [2,3,4] (.bi .max2 [(.var 4),(.sub (.var 1) (.var 3))]) [([3,4],true,.enum,[(.var 0)],[])])]))]
def IM:CF:=bz 2 14 W7 false
def qh:CF:=bM IM
noncomputable def Pa:List MS:=[(.ret (.bi .tuple [(.lcomp [2,3,4] (.bi .min2 [(.var 4),(.sub (.var 1) (.var 3))]) [([3,4],true,.enum,[(.var 0)],[])])]))]
def J1:CF:=bz 2 14 Pa false
def zE:CF:=bM J1
def Jy:List MS:=[(.ret (.cmp .Eq (.bi .sum [(.call zE [(.var 0),(.var 1)])]) (.const (.int 0))))]
def BK:CF:=bz 2 14 Jy false
def CQ:CF:=bM BK
noncomputable def Hi:List MS:=[(.unpack [0,1] (.tup [(.bi .abs [(.var 0)]),(.bi .abs [(.var 1)])])),(.while_ (.cmp .NotEq (.var 1) (.const (.int 0))) [(.unpack [0,1] (.tup [(.var 1),(.bin .Mod (.var 0) (.var 1))]))]),(.ret (.var 0))]
def CV:CF:=bz 2 14 Hi false
def ud:CF:=bM CV
noncomputable def V8:List MS:=[(.assign 1 (.const (.int 0))),(.for_ [2] false .seq [(.tup [(.const (.int 4096)),(.const (.int 64)),(.const (.int 1))])] [(.assign 3 (.bin .Pow (.const (.int 2)) (.var 2))),(.while_ (.cmp .GtE (.var 0) (.var 3)) [(.unpack [0,1] (.tup [(.bin .FloorDiv (.var 0) (.var 3)),(.bin .Add (.var 1) (.var 2))]))])]),(.ret (.bin .Add (.var 1) (.var 0)))]
def XR:CF:=bz 1 16 V8 false
def Ep:CF:=bM XR
def Im:List MS:=[(.if_ (.cmp .Eq (.var 1) (.const (.int 0))) [.stuck] []),(.assign 2 (.ite (.cmp .Gt (.var 1) (.const (.int 0))) (.call ud [(.var 0),(.var 1)]) (.bin .Sub (.const (.int 0)) (.call ud [(.var 0),(.var 1)])))),(.ret (.tup [(.bin .FloorDiv (.var 0) (.var 2)),(.bin .FloorDiv (.var 1) (.var 2))]))]
def xb:CF:=bz 2 15 Im false
def pV:CF:=bM xb
def Dk:List MS:=[(.ret (.call pV [(.bin .Add (.bin .Mult (.sub (.var 0) (.const (.int 0))) (.sub (.var 1) (.const (.int 1)))) (.bin .Mult (.sub (.var 1) (.const (.int 0))) (.sub (.var 0) (.const (.int 1))))),(.bin .Mult (.sub (.var 0) (.const (.int 1))) (.sub (.var 1) (.const (.int 1))))]))]
def yM:CF:=bz 2 14 Dk false
def hV:CF:=bM yM
def FF:List MS:=[(.ret (.call pV [(.bin .Mult (.sub (.var 0) (.const (.int 0))) (.sub (.var 1) (.const (.int 0)))),(.bin .Mult (.sub (.var 0) (.const (.int 1))) (.sub (.var 1) (.const (.int 1))))]))]
def Cz:CF:=bz 2 14 FF false
def iL:CF:=bM Cz
def DZ:List MS:=[(.ret (.call pV [(.bin .Mult (.sub (.var 0) (.const (.int 0))) (.sub (.var 1) (.const (.int 1)))),(.bin .Mult (.sub (.var 0) (.const (.int 1))) (.sub (.var 1) (.const (.int 0))))]))]
def Bf:CF:=bz 2 14 DZ false
def oh:CF:=bM Bf
noncomputable def GY:List MS:=[(.ret (.tup [(.bin .Sub (.const (.int 0)) (.sub (.var 0) (.const (.int 0)))),(.sub (.var 0) (.const (.int 1)))]))]
def yR:CF:=bz 1 13 GY false
def oX:CF:=bM yR
def GC:List MS:=[(.ret (.call pV [(.sub (.var 0) (.const (.int 1))),(.sub (.var 0) (.const (.int 0)))]))]
def BH:CF:=bz 1 13 GC false
def qF:CF:=bM BH
def Gq:List MS:=[(.assign 1 (.bi .max2 [(.bi .abs [(.sub (.var 0) (.const (.int 0)))]),(.sub (.var 0) (.const (.int 1)))])),(.ret (.kS [(.cmp .GtE (.var 1) (.bin .Pow (.const (.int 2)) (.const (.int 64)))),(.cmp .Gt (.call Ep [(.var 1)]) (.const (.int 200000)))]))]
def yr:CF:=bz 1 14 Gq false
def te:CF:=bM yr
def Ho:List MS:=[(.assign 3 (.ite (.cmp .In (.var 1) (.var 0)) (.call hV [(.sub (.var 0) (.var 1)),(.var 2)]) (.var 2))),(.if_ (.cmp .Eq (.var 3) (.const (.tup [(.int 0),(.int 1)]))) [(.expr (.cO .dpopN (.var 0) [(.var 1),(.const .none)]))] [(.store (.var 0) (.var 1) (.var 3))])]
def Dw:CF:=bz 3 16 Ho false
def nt:CF:=Dw
def HZ:List MS:=[(.assign 2 (.bi .dict [(.var 0)])),(.for_ [3] false .seq [(.var 1)] [(.expr (.call nt [(.var 2),(.var 3),(.sub (.var 1) (.var 3))]))]),(.ret (.var 2))]
def AN:CF:=bz 2 16 HZ true
def BV:CF:=ng AN
def E4:List MS:=[(.ret (.dcomp [1,2] (.var 2) (.call oX [(.sub (.var 0) (.var 2))]) [([2],false,.seq,[(.var 0)],[])]))]
def E0:CF:=bz 1 13 E4 false
def yj:CF:=bM E0
def Fg:List MS:=[(.ret (.call BV [(.var 0),(.call yj [(.var 1)])]))]
def z4:CF:=bz 2 14 Fg true
def rQ:CF:=ng z4
def G9:List MS:=[(.if_ (.cmp .Eq (.var 1) (.const (.tup [(.int 0),(.int 1)]))) [(.ret .jM)] []),(.ret (.dcomp [2,3] (.var 3) (.call iL [(.sub (.var 0) (.var 3)),(.var 1)]) [([3],false,.seq,[(.var 0)],[])]))]
def He:CF:=bz 2 14 G9 false
def BN:CF:=bM He
def FP:List MS:=[(.if_ (.cmp .Eq (.var 2) (.const (.tup [(.int 0),(.int 1)]))) [(.ret .jM)] []),(.ret (.dcomp [3,4] (.call yp [(.var 4),(.var 1)]) (.call iL [(.sub (.var 0) (.var 4)),(.var 2)]) [([4],false,.seq,[(.var 0)],[])]))]
def Ke:CF:=bz 3 15 FP false
def oO:CF:=bM Ke
def Ga:List MS:=[(.unpack [2,3] (.tup [(.const .none),(.const .none)])),(.for_ [4] false .seq [(.var 0)] [(.assign 5 (.call jX [(.var 1),(.var 4)])),(.if_ (.eU [(.cmp .Is (.var 2) (.const .none)),(.cmp .Gt (.var 5) (.var 3))]) [(.unpack [2,3] (.tup [(.var 4),(.var 5)]))] [])]),(.ret (.ite (.cmp .Is (.var 2) (.const .none)) (.const .none) (.tup [(.var 2),(.sub (.var 0) (.var 2))])))]
def B4:CF:=bz 2 18 Ga false
def cV:CF:=bM B4
def Fo:List MS:=[(.assign 2 (.call cV [(.var 0),(.var 1)])),(.ret (.ite (.cmp .Is (.var 2) (.const .none)) .jM (.call BN [(.var 0),(.call qF [(.sub (.var 2) (.const (.int 1)))])])))]
def wA:CF:=bz 2 15 Fo false
def jn:CF:=bM wA
def Jp:List MS:=[(.for_ [2,3] true .enum [(.var 1)] [(.if_ (.kS [(.cmp .IsNot (.var 3) (.const .none)),(.call oU [(.sub (.var 3) (.const (.int 0))),(.var 0)])]) [(.ret (.var 2))] [])]),(.ret (.neg (.const (.int 1))))]
def yB:CF:=bz 2 16 Jp false
def pC:CF:=bM yB
def Gd:List MS:=[(.assign 3 (.lcomp [14,15] (.call cV [(.var 15),(.var 2)]) [([15],false,.seq,[(.var 1)],[])])),(.assign 4 (.lcomp [14,15] .jM [([15],false,.seq,[(.var 1)],[])])),(.unpack [5,6,7] (.tup [.jM,(.bi .dict [(.var 0)]),(.const (.int 0))])),(.assign 9 (.bi .maxl [(.bin .Add (.list [(.const (.int 20000))]) (.lcomp [14,15,16] (.var 16) [([15],false,.seq,[(.var 0)],[]),([16],false,.seq,[(.var 15)],[])]))])),(.while_ (.cmp .Gt (.bi .len [(.var 6)]) (.const (.int 0))) [(.unpack [8,10] (.call cV [(.var 6),(.var 2)])),(.aug 7 .Add (.bi .len [(.var 6)])),(.if_ (.eU [(.cmp .Gt (.var 7) (.const (.int 3000000))),(.call te [(.var 10)]),(.bi .any [(.lcomp [14,15] (.cmp .Gt (.var 15) (.var 9)) [([15],false,.seq,[(.var 8)],[])])])]) [.stuck] []),(.assign 11 (.call pC [(.var 8),(.var 3)])),(.if_ (.cmp .Lt (.var 11) (.const (.int 0))) [(.store (.var 5) (.var 8) (.var 10)),(.expr (.cO .dpop1 (.var 6) [(.var 8)])),.cont] []),(.unpack [12,13] (.tup [(.call nS [(.var 8),(.sub (.sub (.var 3) (.var 11)) (.const (.int 0)))]),(.call oh [(.var 10),(.sub (.sub (.var 3) (.var 11)) (.const (.int 1)))])])),(.expr (.call nt [(.sub (.var 4) (.var 11)),(.var 12),(.var 13)])),(.assign 6 (.call rQ [(.var 6),(.call oO [(.sub (.var 1) (.var 11)),(.var 12),(.var 13)])]))]),(.ret (.tup [(.var 4),(.var 5)]))]
def zS:CF:=bz 3 26 Gd false
def v8:CF:=oi zS
def CA:List MS:=[(.ret (.sub (.call v8 [(.var 0),(.var 1),(.var 2)]) (.const (.int 1))))]
def BC:CF:=bz 3 15 CA false
def kn:CF:=oi BC
def Gf:List MS:=[(.unpack [3,4] (.tup [(.call cV [(.var 0),(.var 2)]),(.call cV [(.var 1),(.var 2)])])),(.assign 5 (.call qh [(.sub (.var 3) (.const (.int 0))),(.sub (.var 4) (.const (.int 0)))])),(.assign 6 (.call oO [(.var 0),(.call nS [(.var 5),(.sub (.var 3) (.const (.int 0)))]),(.call qF [(.sub (.var 3) (.const (.int 1)))])])),(.ret (.call rQ [(.var 6),(.call oO [(.var 1),(.call nS [(.var 5),(.sub (.var 4) (.const (.int 0)))]),(.call qF [(.sub (.var 4) (.const (.int 1)))])])]))]
def Ia:CF:=bz 3 19 Gf false
def tJ:CF:=bM Ia
def J3:List MS:=[(.ret (.cmp .GtE (.call pC [(.var 0),(.lcomp [2,3] (.tup [(.var 3),(.const (.tup [(.int 1),(.int 1)]))]) [([3],false,.seq,[(.var 1)],[])])]) (.const (.int 0))))]
def wy:CF:=bz 2 14 J3 false
def pN:CF:=bM wy
def Ee:List MS:=[(.assign 3 (.lcomp [9,10] (.sub (.call cV [(.var 10),(.var 1)]) (.const (.int 0))) [([10],false,.seq,[(.var 0)],[])])),(.unpack [4,5,6] (.tup [(.list []),(.list [(.bin .Mult (.tup [(.const (.int 0))]) (.var 2))]),.jM])),(.while_ (.cmp .Gt (.bi .len [(.var 5)]) (.const (.int 0))) [(.assign 7 (.cO .jV (.var 5) [])),(.if_ (.eU [(.cmp .In (.var 7) (.var 6)),(.call pN [(.var 7),(.var 3)])]) [.cont] []),(.store (.var 6) (.var 7) (.const (.bool true))),(.expr (.cO .append (.var 4) [(.var 7)])),(.for_ [8] false .range1 [(.var 2)] [(.expr (.cO .append (.var 5) [(.bin .Add (.bin .Add (.slice true (.var 7) (.var 8)) (.tup [(.bin .Add (.sub (.var 7) (.var 8)) (.const (.int 1)))])) (.slice false (.var 7) (.bin .Add (.var 8) (.const (.int 1)))))]))])]),(.ret (.bi .sorted [(.var 4)]))]
def xG:CF:=bz 3 21 Ee false
def uQ:CF:=bM xG
noncomputable def Ah:List MS:=[(.ret (.tup [(.bi .len [(.var 0)]),(.ite (.cmp .Gt (.bi .len [(.var 0)]) (.const (.int 0))) (.bi .len [(.sub (.var 0) (.const (.int 0)))]) (.const (.int 0)))]))]
def ym:CF:=bz 1 13 Ah false
def iN:CF:=ym
noncomputable def KC:List MS:=[(.if_ (.kY (.var 0)) [.stuck] [])]
def OL:CF:=bz 2 14 KC false
def pS:CF:=bM OL
noncomputable def Wl:List MS:=[(.ret (.lcomp [1,2] (.lcomp [3,4] (.ite (.cmp .Eq (.var 2) (.var 4)) (.const (.tup [(.int 1),(.int 1)])) (.const (.tup [(.int 0),(.int 1)]))) [([4],false,.range1,[(.var 0)],[])]) [([2],false,.range1,[(.var 0)],[])]))]
def Cc:CF:=bz 1 13 Wl false
def sY:CF:=bM Cc
def SQ:List MS:=[(.ret (.lcomp [1,2] (.lcomp [3,4] (.sub (.var 4) (.var 2)) [([4],false,.seq,[(.var 0)],[])]) [([2],false,.range1,[(.sub (.call iN [(.var 0)]) (.const (.int 1)))],[])]))]
def xI:CF:=bz 1 13 SQ false
def wg:CF:=bM xI
def Fe:List MS:=[(.assign 2 (.const (.tup [(.int 0),(.int 1)]))),(.for_ [3,4] true .enum [(.var 0)] [(.assign 2 (.call hV [(.var 2),(.call iL [(.var 4),(.sub (.var 1) (.var 3))])]))]),(.ret (.var 2))]
def BX:CF:=bz 2 17 Fe false
def oZ:CF:=bM BX
def Gv:List MS:=[(.expr (.call pS [(.cmp .Eq (.call iN [(.var 0)]) (.call iN [(.var 1)])),(.const (.str [97,32,115,117,109,32,111,102,32,117,110,108,105,107,101,32,115,104,97,112,101,115]))])),(.ret (.lcomp [2,3,4] (.lcomp [5,6,7] (.call hV [(.var 7),(.sub (.sub (.var 1) (.var 3)) (.var 6))]) [([6,7],true,.enum,[(.var 4)],[])]) [([3,4],true,.enum,[(.var 0)],[])]))]
def GO:CF:=bz 2 14 Gv false
def uk:CF:=bM GO
def JT:List MS:=[(.ret (.lcomp [2,3] (.lcomp [4,5] (.call iL [(.var 5),(.var 1)]) [([5],false,.seq,[(.var 3)],[])]) [([3],false,.seq,[(.var 0)],[])]))]
def H7:CF:=bz 2 14 JT false
def vl:CF:=bM H7
def Jm:List MS:=[(.expr (.call pS [(.cmp .Eq (.sub (.call iN [(.var 0)]) (.const (.int 1))) (.bi .len [(.var 1)])),(.const (.str [97,32,112,114,111,100,117,99,116,32,111,102,32,117,110,108,105,107,101,32,115,104,97,112,101,115]))])),(.assign 2 (.call wg [(.var 1)])),(.ret (.lcomp [3,4] (.lcomp [5,6] (.call oZ [(.var 4),(.var 6)]) [([6],false,.seq,[(.var 2)],[])]) [([4],false,.seq,[(.var 0)],[])]))]
def DV:CF:=bz 2 15 Jm false
def tn:CF:=DV
def Iw:List MS:=[(.expr (.call pS [(.cmp .Eq (.bi .len [(.var 0)]) (.sub (.call iN [(.var 0)]) (.const (.int 1)))),(.const (.str [97,32,116,114,97,99,101,32,111,102,32,110,111,32,115,113,117,97,114,101]))])),(.assign 1 (.const (.tup [(.int 0),(.int 1)]))),(.for_ [2] false .range1 [(.bi .len [(.var 0)])] [(.assign 1 (.call hV [(.var 1),(.sub (.sub (.var 0) (.var 2)) (.var 2))]))]),(.ret (.var 1))]
def K0:CF:=bz 1 15 Iw false
def uE:CF:=bM K0
def Jc:List MS:=[(.assign 1 (.bi .len [(.var 0)])),(.expr (.call pS [(.cmp .Eq (.var 1) (.sub (.call iN [(.var 0)]) (.const (.int 1)))),(.const (.str [97,32,112,111,108,121,110,111,109,105,97,108,32,111,102,32,110,111,32,115,113,117,97,114,101]))])),(.unpack [2,3] (.tup [(.list [(.const (.tup [(.int 1),(.int 1)]))]),(.call sY [(.var 1)])])),(.for_ [4] false .range2 [(.const (.int 1)),(.bin .Add (.var 1) (.const (.int 1)))] [(.assign 3 (.call tn [(.var 0),(.var 3)])),(.assign 5 (.call oX [(.call oh [(.call uE [(.var 3)]),(.tup [(.var 4),(.const (.int 1))])])])),(.expr (.cO .append (.var 2) [(.var 5)])),(.assign 3 (.call uk [(.var 3),(.call vl [(.call sY [(.var 1)]),(.var 5)])]))]),(.expr (.cO .reverse (.var 2) [])),(.ret (.var 2))]
def Ja:CF:=bz 1 18 Jc false
def rN:CF:=Ja
def Ge:List MS:=[(.assign 3 (.call qh [(.sub (.var 1) (.sub (.var 0) (.const (.int 0)))),(.sub (.var 1) (.sub (.var 0) (.const (.int 1))))])),(.ret (.tup [(.call jX [(.var 2),(.var 3)]),(.var 0)]))]
def A3:CF:=bz 3 16 Ge false
def u4:CF:=bM A3
def JC:List MS:=[(.unpack [3,4] (.var 0)),(.if_ (.call CQ [(.sub (.var 2) (.var 3)),(.sub (.var 2) (.var 4))]) [(.ret (.const (.bool true)))] []),(.assign 5 (.call qh [(.sub (.var 2) (.var 3)),(.sub (.var 2) (.var 4))])),(.for_ [6,7] true .enum [(.var 2)] [(.if_ (.eU [(.cmp .In (.var 6) (.var 0)),(.kY (.call oU [(.var 7),(.var 5)]))]) [.cont] []),(.if_ (.kS [(.cmp .NotIn (.tup [(.bi .min2 [(.var 3),(.var 6)]),(.bi .max2 [(.var 3),(.var 6)])]) (.var 1)),(.cmp .NotIn (.tup [(.bi .min2 [(.var 4),(.var 6)]),(.bi .max2 [(.var 4),(.var 6)])]) (.var 1))]) [(.ret (.const (.bool true)))] [])]),(.ret (.const (.bool false)))]
def zH:CF:=bz 3 20 JC false
def tQ:CF:=bM zH
def DF:List MS:=[(.unpack [3,4] (.tup [(.const .none),(.const .none)])),(.for_ [5] false .seq [(.var 0)] [(.assign 6 (.call u4 [(.var 5),(.var 1),(.var 2)])),(.if_ (.eU [(.cmp .Is (.var 3) (.const .none)),(.cmp .Lt (.var 6) (.var 4))]) [(.unpack [3,4] (.tup [(.var 5),(.var 6)]))] [])]),(.ret (.var 3))]
def xW:CF:=bz 3 19 DF false
def vO:CF:=bM xW
def Hx:List MS:=[(.assign 3 (.lcomp [9,10] (.call jn [(.var 10),(.var 1)]) [([10],false,.seq,[(.var 0)],[(.cmp .Gt (.bi .len [(.var 10)]) (.const (.int 0)))])])),(.assign 4 (.lcomp [9,10] (.sub (.call cV [(.var 10),(.var 1)]) (.const (.int 0))) [([10],false,.seq,[(.var 3)],[])])),(.assign 5 (.lcomp [9,10,11] (.tup [(.var 11),(.var 10)]) [([10],false,.range1,[(.bi .len [(.var 3)])],[]),([11],false,.range1,[(.var 10)],[])])),(.assign 6 (.const (.int 0))),(.while_ (.cmp .Gt (.bi .len [(.var 5)]) (.const (.int 0))) [(.assign 7 (.call vO [(.var 5),(.var 4),(.var 1)])),(.assign 5 (.lcomp [9,10] (.var 10) [([10],false,.seq,[(.var 5)],[(.cmp .NotEq (.var 10) (.var 7))])])),(.if_ (.call tQ [(.var 7),(.var 5),(.var 4)]) [.cont] []),(.aug 6 .Add (.const (.int 1))),(.if_ (.cmp .Gt (.var 6) (.var 2)) [.stuck] []),(.assign 8 (.call kn [(.call tJ [(.sub (.var 3) (.sub (.var 7) (.const (.int 0)))),(.sub (.var 3) (.sub (.var 7) (.const (.int 1)))),(.var 1)]),(.var 3),(.var 1)])),(.if_ (.cmp .Gt (.bi .len [(.var 8)]) (.const (.int 0))) [(.expr (.cO .extend (.var 5) [(.lcomp [9,10] (.tup [(.var 10),(.bi .len [(.var 3)])]) [([10],false,.range1,[(.bi .len [(.var 3)])],[])])])),(.expr (.cO .append (.var 3) [(.call jn [(.var 8),(.var 1)])])),(.expr (.cO .append (.var 4) [(.sub (.call cV [(.var 8),(.var 1)]) (.const (.int 0)))]))] [])]),(.ret (.var 3))]
def yl:CF:=bz 3 21 Hx false
def zt:CF:=bM yl
def GH:List MS:=[(.assign 2 (.lcomp [8,9] (.var 9) [([9],false,.seq,[(.var 0)],[(.cmp .Gt (.bi .len [(.var 9)]) (.const (.int 0)))])])),(.assign 3 (.lcomp [8,9] (.sub (.call cV [(.var 9),(.var 1)]) (.const (.int 0))) [([9],false,.seq,[(.var 2)],[])])),(.assign 4 (.list [])),(.for_ [5,6] true .enum [(.var 3)] [(.assign 7 (.bin .Add (.slice true (.var 3) (.var 5)) (.lcomp [8,9] (.var 9) [([9],false,.seq,[(.slice false (.var 3) (.bin .Add (.var 5) (.const (.int 1))))],[(.cmp .NotEq (.var 9) (.var 6))])]))),(.if_ (.kY (.call pN [(.var 6),(.var 7)])) [(.expr (.cO .append (.var 4) [(.sub (.var 2) (.var 5))]))] [])]),(.ret (.var 4))]
def AI:CF:=bz 2 20 GH false
def yO:CF:=bM AI
def Km:List MS:=[(.assign 2 (.call yO [(.var 0),(.var 1)])),(.assign 4 (.lcomp [7,8,9] (.tup [(.call jX [(.var 1),(.sub (.call cV [(.var 9),(.var 1)]) (.const (.int 0)))]),(.var 8)]) [([8,9],true,.enum,[(.var 2)],[])])),(.expr (.cO .sort (.var 4) [])),(.assign 5 (.list [])),(.for_ [6,3] true .seq [(.var 4)] [(.expr (.cO .append (.var 5) [(.call jn [(.call kn [(.sub (.var 2) (.var 3)),(.var 5),(.var 1)]),(.var 1)])]))]),(.ret (.var 5))]
def Bz:CF:=bz 2 19 Km false
def xT:CF:=bM Bz
def Jt:List MS:=[(.ret (.call xT [(.call zt [(.var 0),(.var 1),(.var 2)]),(.var 1)]))]
def J5:CF:=bz 3 15 Jt false
def wh:CF:=bM J5
noncomputable def Cr:List MS:=[(.store (.var 0) (.const (.int 1)) (.bin .Add (.sub (.var 0) (.const (.int 1))) (.const (.int 1)))),(.if_ (.cmp .NotEq (.sub (.var 0) (.const (.int 0))) (.list [])) [(.ret (.bin .Mod (.cO .pop0 (.sub (.var 0) (.const (.int 0))) [(.const (.int 0))]) (.var 1)))] []),(.ret (.bin .Mod (.bin .Add (.bin .Mult (.const (.int 5)) (.sub (.var 0) (.const (.int 1)))) (.bin .FloorDiv (.sub (.var 0) (.const (.int 1))) (.const (.int 3)))) (.var 1)))]
def AU:CF:=bz 2 14 Cr false
def dD:CF:=AU
noncomputable def Hz:List MS:=[(.ret (.bi .dict [(.lcomp [1,2,3] (.tup [(.var 2),(.tup [(.var 3),(.const (.int 1))])]) [([2,3],true,.seq,[(.var 0)],[(.cmp .NotEq (.var 3) (.const (.int 0)))])])]))]
def Kh:CF:=bz 1 13 Hz false
def ju:CF:=Kh
def wM:List MS:=[(.unpack [1,2,3] (.tup [(.bin .Sub (.const (.int 1)) (.call dD [(.var 0),(.const (.int 2))])),(.bin .Sub (.call dD [(.var 0),(.const (.int 5))]) (.const (.int 2))),(.bin .Sub (.call dD [(.var 0),(.const (.int 5))]) (.const (.int 2)))])),(.if_ (.cmp .Eq (.var 1) (.const (.int 1))) [(.assign 4 (.list [(.tup [(.tup [(.const (.int 2)),(.const (.int 0))]),(.const (.int 1)),(.tup [(.const (.int 1)),(.const (.int 0))]),(.bin .Sub (.const (.int 0)) (.var 2))]),(.tup [(.tup [(.const (.int 1)),(.const (.int 1))]),(.const (.int 1)),(.tup [(.const (.int 0)),(.const (.int 0))]),(.const (.int 0))]),(.tup [(.tup [(.const (.int 0)),(.const (.int 2))]),(.const (.int 1)),(.tup [(.const (.int 0)),(.const (.int 1))]),(.bin .Sub (.const (.int 0)) (.var 3))])])),(.assign 5 (.lcomp [9,10,11,12,13] (.call ju [(.list [(.tup [(.var 10),(.var 11)]),(.tup [(.var 12),(.var 13)])])]) [([10,11,12,13],true,.seq,[(.var 4)],[])])),(.ret (.tup [(.var 5),(.list [(.tup [(.const (.int 0)),(.const (.int 0))]),(.tup [(.var 2),(.const (.int 0))]),(.tup [(.const (.int 0)),(.var 3)])])]))] []),(.unpack [6,7] (.tup [(.bin .Sub (.call dD [(.var 0),(.const (.int 3))]) (.const (.int 1))),(.bin .Sub (.call dD [(.var 0),(.const (.int 3))]) (.const (.int 1)))])),(.assign 8 (.call ju [(.list [(.tup [(.tup [(.const (.int 2)),(.const (.int 0))]),(.const (.int 1))]),(.tup [(.tup [(.const (.int 1)),(.const (.int 0))]),(.bin .Sub (.bin .Sub (.const (.int 0)) (.var 2)) (.var 3))]),(.tup [(.tup [(.const (.int 0)),(.const (.int 0))]),(.bin .Mult (.var 2) (.var 3))])])])),(.ret (.tup [(.list [(.var 8),(.call ju [(.list [(.tup [(.tup [(.const (.int 0)),(.const (.int 1))]),(.const (.int 1))]),(.tup [(.tup [(.const (.int 1)),(.const (.int 0))]),(.bin .Sub (.const (.int 0)) (.var 7))]),(.tup [(.tup [(.const (.int 0)),(.const (.int 0))]),(.bin .Sub (.const (.int 0)) (.var 6))])])])]),(.list [(.tup [(.var 2),(.bin .Add (.var 6) (.bin .Mult (.var 7) (.var 2)))]),(.tup [(.var 3),(.bin .Add (.var 6) (.bin .Mult (.var 7) (.var 3)))])])]))]
def zw:CF:=bz 1 21 wM false
def nz:CF:=zw
def HN:List MS:=[(.assign 4 (.list [])),(.for_ [5] false .seq [(.var 1)] [(.assign 6 (.call kn [(.nC (.tup [(.bin .Sub (.bin .Add (.sub (.var 5) (.const (.int 0))) (.const (.int 1))) (.var 0)),(.bin .Add (.sub (.var 5) (.const (.int 1))) (.var 0))]) (.tup [(.const (.int 1)),(.const (.int 1))])),(.var 2),(.var 3)])),(.if_ (.cmp .NotEq (.lcomp [7,8] (.var 8) [([8],false,.seq,[(.var 6)],[(.eU [(.cmp .NotIn (.var 8) (.var 1)),(.cmp .NotEq (.sub (.sub (.var 6) (.var 8)) (.const (.int 1))) (.const (.int 1)))])])]) (.list [])) [(.ret (.list []))] []),(.expr (.cO .append (.var 4) [(.lcomp [7,8] (.ite (.cmp .In (.var 8) (.var 6)) (.sub (.sub (.var 6) (.var 8)) (.const (.int 0))) (.const (.int 0))) [([8],false,.seq,[(.var 1)],[])])]))]),(.ret (.var 4))]
def zh:CF:=bz 4 19 HN false
def kN:CF:=bM zh
noncomputable def EL:List MS:=[(.ret (.lcomp [2,3] (.lcomp [4,5] (.bi .sum [(.lcomp [6,7,8] (.bin .Mult (.var 8) (.sub (.sub (.var 1) (.var 7)) (.var 5))) [([7,8],true,.enum,[(.var 3)],[])])]) [([5],false,.range1,[(.bi .len [(.var 1)])],[])]) [([3],false,.seq,[(.var 0)],[])]))]
def Jg:CF:=bz 2 14 EL false
def pI:CF:=bM Jg
def Gh:List MS:=[(.assign 1 (.list [(.lcomp [15,16] (.bi .int [(.var 16)]) [([16],false,.seq,[(.slice true (.var 0) (.const (.int 9)))],[])]),(.const (.int 0))])),(.unpack [2,3] (.call nz [(.var 1)])),(.unpack [4,5,6] (.tup [(.sub (.tup [(.const (.str [108,101,120])),(.const (.str [103,114,108,101,120])),(.const (.str [103,114,101,118,108,101,120]))]) (.call dD [(.var 1),(.const (.int 3))])),(.bin .Add (.const (.int 1)) (.call dD [(.var 1),(.const (.int 2))])),(.bin .Sub (.call dD [(.var 1),(.const (.int 3))]) (.const (.int 1)))])),(.assign 7 (.call wh [(.var 2),(.var 4),(.const (.int 40))])),(.assign 8 (.call uQ [(.var 7),(.var 4),(.const (.int 2))])),(.if_ (.cmp .NotEq (.bi .len [(.var 8)]) (.bi .len [(.var 3)])) [(.ret (.const (.bool false)))] []),(.unpack [9,10] (.tup [(.call kN [(.const (.int 0)),(.var 8),(.var 7),(.var 4)]),(.call kN [(.const (.int 1)),(.var 8),(.var 7),(.var 4)])])),(.if_ (.eU [(.cmp .Eq (.var 9) (.list [])),(.cmp .Eq (.var 10) (.list [])),(.cmp .NotEq (.call pI [(.var 9),(.var 10)]) (.call pI [(.var 10),(.var 9)]))]) [(.ret (.const (.bool false)))] []),(.assign 11 (.lcomp [15,16,17] (.lcomp [18,19,20] (.tup [(.bin .Add (.bin .Mult (.var 5) (.var 20)) (.bin .Mult (.var 6) (.sub (.sub (.var 10) (.var 16)) (.var 19)))),(.const (.int 1))]) [([19,20],true,.enum,[(.var 17)],[])]) [([16,17],true,.enum,[(.var 9)],[])])),(.assign 12 (.list [(.const (.int 1))])),(.for_ [13,14] true .seq [(.var 3)] [(.assign 12 (.lcomp [15,16,17] (.bin .Sub (.var 16) (.bin .Mult (.bin .Add (.bin .Mult (.var 5) (.var 13)) (.bin .Mult (.var 6) (.var 14))) (.var 17))) [([16,17],true,.zip,[(.bin .Add (.list [(.const (.int 0))]) (.var 12)),(.bin .Add (.var 12) (.list [(.const (.int 0))]))],[])]))]),(.ret (.cmp .Eq (.call rN [(.var 11)]) (.lcomp [15,16] (.tup [(.var 16),(.const (.int 1))]) [([16],false,.seq,[(.var 12)],[])])))]
def tH:CF:=bz 1 27 Gh false
def Js:CF:=tH
end
section
open PySem
section
variable {n:Nat} {ρ:ai} {H:Hp}
theorem aG{A B:Type}{a:A}{f:A->Hp->Option B}:ob (some (a,H)) f=f a H:=rfl
theorem fx{B:Type}{b:Bool}{f:Bool->Hp->Option B}:cL (some (.bool b,H)) f=f b H:=rfl
theorem aS:sb (some (a,ρ,H)) f=f a ρ H:=rfl
theorem bk:qI (some v) H=some (v,H):=rfl
theorem fN:retB (some v) H=some (.bool v,H):=rfl
theorem Ci:retI (some v) H=some (.int v,H):=rfl
theorem cD:den (n+1) (.const v) ρ H=some (v,H):=rfl
theorem bo:den (n+1) (.var i) ρ H=qI (cI ρ i) H:=rfl
theorem gn:den (n+1) (.bin op a b) ρ H=ob (den n a ρ H) fun x H=>ob (den n b ρ H) fun y H=>binOp op x y H:=rfl
theorem Bi:den (n+1) (.neg a) ρ H=ob (den n a ρ H) vf:=rfl
theorem yg:den (n+1) (.kY a) ρ H=ob (den n a ρ H) pz:=rfl
noncomputable def A0(f:Hp->Option (V×Hp))(b:Bool)(H:Hp):Option (V×Hp):=match b with
 |true=>f H
 |false=>some (.bool false,H)
noncomputable def Bn(f:Hp->Option (V×Hp))(b:Bool)(H:Hp):Option (V×Hp):=match b with
 |false=>f H
 |true=>some (.bool true,H)
noncomputable def zg(b:Bool)(H:Hp):Option (V×Hp):=some (.bool b,H)
noncomputable def wz(f g:Hp->Option (V×Hp))(v:V)(H:Hp):Option (V×Hp):=match v with
 |.bool c=>match c with
  |true=>f H
  |false=>g H
 |_=>none
theorem yi:A0 f true H=f H:=rfl
theorem xe:A0 f false H=some (.bool false,H):=rfl
theorem yS:Bn f true H=some (.bool true,H):=rfl
theorem pB:Bn f false H=f H:=rfl
theorem nX:zg b H=some (.bool b,H):=rfl
theorem Bq:wz f g (.bool true) H=f H:=rfl
theorem yH:wz f g (.bool false) H=g H:=rfl
theorem Ao:den (n+1) (.kS l) ρ H=j9 (den n) ρ l H:=rfl
theorem pe:den (n+1) (.eU l) ρ H=iQ (den n) ρ l H:=rfl
theorem wH:j9 dn ρ [e] H=cL (dn e ρ H) zg:=rfl
theorem xm:j9 dn ρ (e::e'::r) H=cL (dn e ρ H) (A0 (j9 dn ρ (e'::r))):=by
 show cL _ _=cL _ _;congr 1
theorem oQ:iQ dn ρ [e] H=cL (dn e ρ H) zg:=rfl
theorem nW:iQ dn ρ (e::e'::r) H=cL (dn e ρ H) (Bn (iQ dn ρ (e'::r))):=by
 show cL _ _=cL _ _;congr 1
theorem fK:den (n+1) (.cmp op a b) ρ H=ob (den n a ρ H) fun x H=>ob (den n b ρ H) fun y H=>retB (bu op x y H) H:=rfl
theorem z5:den (n+1) (.ite t a b) ρ H=ob (den n t ρ H) (wz (den n a ρ) (den n b ρ)):=by
 have e:den (n+1) (.ite t a b) ρ H=ob (den n t ρ H) fun v H=>match v with
  |.bool c=>match c with
   |true=>den n a ρ H
   |false=>den n b ρ H
  |_=>none:=rfl
 exact e.trans (congrArg (ob (den n t ρ H)) (by funext v H;induction v using Internal.V.casesOn <;> rfl))
theorem cH:den (n+1) (.call g as) ρ H=ob (denL (den n) ρ as H) g:=rfl
theorem jB:den (n+1) (.bi b as) ρ H=ob (denL (den n) ρ as H) (cw b):=rfl
theorem kI:den (n+1) (.cO m o as) ρ H=ob (den n o ρ H) fun ov H=>guard' (fR m (own H ov)) (ob (denL (den n) ρ as H) fun vs H=>eC m ov vs H):=rfl
theorem mF:den (n+1) (.sub a i) ρ H=ob (den n a ρ H) fun x H=>ob (den n i ρ H) fun y H=>qI (subs H x y) H:=rfl
theorem qN:den (n+1) (.slice up a b) ρ H=ob (den n a ρ H) fun x H=>ob (den n b ρ H) fun y H=>ja up x (nat? y) H:=rfl
theorem C0:den (n+1) (.rev a) ρ H=ob (den n a ρ H) qy:=rfl
theorem fk:den (n+1) (.tup l) ρ H=ob (denL (den n) ρ l H) fun vs H=>some (.tup vs,H):=rfl
theorem fg:den (n+1) (.list l) ρ H=ob (denL (den n) ρ l H) fun vs H=>some (newObj H (.list vs)):=rfl
theorem tv:den (n+1) .jM ρ H=some (newObj H (.dict [])):=rfl
theorem gw:den (n+1) (.lcomp clr e ((tg,many,ik,es,ifs)::gs)) ρ H =
  ob (denL (den n) ρ es H) fun vs H=>match iterOf H ik vs with
   |some items=>compGo H.nxt (turn (den n) tg many ifs (runGens (den n) (ck H.nxt e (den n)) gs) (slotC ρ clr)) items vs (newObj H (.list [])).2
   |none=>none:=rfl
theorem zo:den (n+1) (.dcomp clr k e ((tg,many,ik,es,ifs)::gs)) ρ H =
  ob (denL (den n) ρ es H) fun vs H=>match iterOf H ik vs with
   |some items=>compGo H.nxt (turn (den n) tg many ifs (runGens (den n) (iX H.nxt k e (den n)) gs) (slotC ρ clr)) items vs (newObj H (.dict [])).2
   |none=>none:=rfl
theorem bj:denL dn ρ [] H=some ([],H):=rfl
theorem bA:denL dn ρ (e::r) H=ob (dn e ρ H) fun v H=>ob (denL dn ρ r H) fun vs H=>some (v::vs,H):=rfl
noncomputable def nextK(f:ai->Hp->Option (Fl×ai×Hp))(fl:Fl)(ρ:ai)(H:Hp):Option (Fl×ai×Hp):=match fl with
 |.next=>f ρ H
 |.cont=>some (.cont,ρ,H)
 |.ret v=>some (.ret v,ρ,H)
theorem bc:nextK f .next ρ H=f ρ H:=rfl
theorem yX:nextK f .cont ρ H=some (.cont,ρ,H):=rfl
theorem l8:nextK f (.ret v) ρ H=some (.ret v,ρ,H):=rfl
theorem gj:denSs ds [] ρ H=some (.next,ρ,H):=rfl
theorem aN:denSs ds (s::r) ρ H=sb (ds s ρ H) (nextK (denSs ds r)):=by
 have e:denSs ds (s::r) ρ H=sb (ds s ρ H) fun f ρ H=>match f with
  |.next=>denSs ds r ρ H
  |.cont=>some (.cont,ρ,H)
  |.ret v=>some (.ret v,ρ,H):=rfl
 exact e.trans (congrArg (sb (ds s ρ H)) (by funext f ρ H;induction f using Internal.Fl.casesOn <;> rfl))
theorem cg:denS (n+1) (.assign i e) ρ H=ob (den n e ρ H) fun v H=>some (.next,slotS ρ i (some v),H):=rfl
theorem gM:denS (n+1) (.unpack is e) ρ H=ob (den n e ρ H) fun v H=>tU (eB ρ is true v) H:=rfl
theorem gV:tU (some ρ') H=some (.next,ρ',H):=rfl
theorem vt:denS (n+1) (.store o i e) ρ H=ob (den n e ρ H) fun v H=>ob (den n o ρ H) fun ov H=>ob (den n i ρ H) fun iv H=>tK ρ (jb H ov iv v):=rfl
theorem uB:tK ρ (some H')=some (.next,ρ,H'):=rfl
def GP(i:Nat)(op:Operator)(e:Option (V×Hp))(x:Option V)(ρ:ai):Option (Fl×ai×Hp):=match x with
 |some x=>ob e fun y H=>ob (augV op x y H) fun r H=>some (.next,slotS ρ i (some r),H)
 |none=>none
theorem rp:denS (n+1) (.aug i op e) ρ H=GP i op (den n e ρ H) (cI ρ i) ρ:=rfl
theorem qU:GP i op e (some x) ρ=ob e fun y H=>ob (augV op x y H) fun r H=>some (.next,slotS ρ i (some r),H):=rfl
theorem jF:denS (n+1) (.expr e) ρ H=ob (den n e ρ H) fun _ H=>some (.next,ρ,H):=rfl
noncomputable def BA(a b:ai->Hp->Option (Fl×ai×Hp))(ρ:ai)(c:Bool)(H:Hp):Option (Fl×ai×Hp):=match c with
 |true=>a ρ H
 |false=>b ρ H
theorem uc:BA a b ρ true H=a ρ H:=rfl
theorem iO:BA a b ρ false H=b ρ H:=rfl
theorem hX:denS (n+1) (.if_ t a b) ρ H=cL (den n t ρ H) (BA (denSs (denS n) a) (denSs (denS n) b) ρ):=by
 have e:denS (n+1) (.if_ t a b) ρ H=cL (den n t ρ H) fun c H=>match c with
  |true=>denSs (denS n) a ρ H
  |false=>denSs (denS n) b ρ H:=rfl
 exact e.trans (congrArg (cL (den n t ρ H)) (by funext c H;induction c using aB <;> rfl))
theorem o9:denS (n+1) (.while_ t b) ρ H=fq (den n t) (denSs (denS n) b) 1000 ρ H:=rfl
theorem kU:denS (n+1) (.for_ tg many ik es b) ρ H=ob (denL (den n) ρ es H) fun vs H=>match iterOf H ik vs with
  |some items=>sunl H.es vs (loopF tg many (denSs (denS n) b) items ρ (lockH H vs))
  |none=>none:=rfl
theorem iU:denS (n+1) (.ret e) ρ H=ob (den n e ρ H) fun v H=>some (.ret v,ρ,H):=rfl
theorem Aa:denS (n+1) .cont ρ H=some (.cont,ρ,H):=rfl
def vD(f:ai->Hp->Option (Fl×ai×Hp))(g:ai->Hp->Option (Fl×ai×Hp))(ρ:ai)(c:Bool)(H:Hp):Option (Fl×ai×Hp):=match c with
 |true=>sb (f ρ H) fun fl ρ H=>match fl with
  |.next=>g ρ H
  |.cont=>g ρ H
  |.ret v=>some (.ret v,ρ,H)
 |false=>some (.next,ρ,H)
theorem qb:fq t b (n+1) ρ H=cL (t ρ H) (vD b (fq t b n) ρ):=by
 show cL _ _=cL _ _;congr 1
noncomputable def pA(g:ai->Hp->Option (Fl×ai×Hp))(fl:Fl)(ρ:ai)(H:Hp):Option (Fl×ai×Hp):=match fl with
 |.next=>g ρ H
 |.cont=>g ρ H
 |.ret v=>some (.ret v,ρ,H)
theorem jI:pA f .next ρ H=f ρ H:=rfl
theorem mZ:pA f .cont ρ H=f ρ H:=rfl
theorem zA:pA f (.ret v) ρ H=some (.ret v,ρ,H):=rfl
theorem nP:vD f g ρ true H=sb (f ρ H) (pA g):=by
 have e:vD f g ρ true H=sb (f ρ H) fun fl ρ H=>match fl with
  |.next=>g ρ H
  |.cont=>g ρ H
  |.ret v=>some (.ret v,ρ,H):=rfl
 exact e.trans (congrArg (sb (f ρ H)) (by funext c ρ H;induction c using Internal.Fl.casesOn <;> rfl))
theorem tA:vD f g ρ false H=some (.next,ρ,H):=rfl
theorem AX:loopF tg many b [] ρ H=some (.next,ρ,H):=rfl
def Ez(b g:ai->Hp->Option (Fl×ai×Hp))(H:Hp)(x:Option ai):Option (Fl×ai×Hp):=match x with
 |some ρ=>sb (b ρ H) (pA g)
 |none=>none
theorem lY:Ez b g H (some ρ')=sb (b ρ' H) (pA g):=rfl
theorem fz:loopF tg many b (v::r) ρ H=Ez b (loopF tg many b r) H (eB ρ tg many v):=by
 show(match eB ρ tg many v with
  |some ρ=>sb (b ρ H) fun f ρ H=>match f with
   |.next=>loopF tg many b r ρ H
   |.cont=>loopF tg many b r ρ H
   |.ret v=>some (.ret v,ρ,H)
  |none=>none)=_
 induction eB ρ tg many v using aL with
 |none=>rfl
 |some ρ'=>
  show sb _ _=sb _ _;congr 1
theorem sD:eB ρ [i] false v=some (slotS ρ i (some v)):=rfl
theorem jo:eB ρ [i,j] true (.tup [v,w])=some (slotS (slotS ρ i (some v)) j (some w)):=rfl
theorem lx:eB ρ [i,j,k] true (.tup [v,w,x])=some (slotS (slotS (slotS ρ i (some v)) j (some w)) k (some x)):=rfl
theorem bg:cI (x::r) 0=x:=rfl
theorem bh:cI (x::r) (n+1)=cI r n:=rfl
theorem aY:slotS (x::r) 0 v=v::r:=rfl
theorem aZ:slotS (x::r) (n+1) v=x::slotS r n v:=rfl
theorem gh:slotC ρ []=ρ:=rfl
theorem gF:slotC ρ (i::is)=slotC (slotS ρ i none) is:=rfl
theorem lR{B:Type}{x:Option B}:guard' true x=x:=rfl
theorem hO:bz 1 b body keep [x] H=mkEnd keep H (denSs (denS 20) body (some x::cq b none) H):=rfl
theorem dQ:bz 2 b body keep [x,y] H=mkEnd keep H (denSs (denS 20) body (some x::some y::cq b none) H):=rfl
theorem iA:bz 3 b body keep [x,y,z] H=mkEnd keep H (denSs (denS 20) body (some x::some y::some z::cq b none) H):=rfl
theorem Ws:bz 4 b body keep [x,y,z,w] H=mkEnd keep H (denSs (denS 20) body (some x::some y::some z::some w::cq b none) H):=rfl
theorem pZ:mkEnd keep H (some (.ret v,ρ,H'))=some (leave keep H H' v):=rfl
theorem AB:mkEnd keep H (some (.next,ρ,H'))=some (leave keep H H' .none):=rfl
theorem mw:turn dn [i] false [] go ρ v H=go (slotS ρ i (some v)) H:=rfl
theorem rH:turn dn [i,j] true [] go ρ (.tup [v,w]) H=go (slotS (slotS ρ i (some v)) j (some w)) H:=rfl
theorem A4:turn dn [i] false [c] go ρ v H=cL (dn c (slotS ρ i (some v)) H) (rF (go (slotS ρ i (some v)))):=by
 show ob (cL (dn c (slotS ρ i (some v)) H) _) _=_
 induction dn c (slotS ρ i (some v)) H using aL with
 |none=>rfl
 |some p=>
  obtain⟨v,H⟩:=p
  induction v using Internal.V.casesOn with
  |bool b=>induction b using aB <;> rfl
  |_=>rfl
theorem tM:turn dn [i,j] true [c] go ρ (.tup [v,w]) H=cL (dn c (slotS (slotS ρ i (some v)) j (some w)) H) (rF (go (slotS (slotS ρ i (some v)) j (some w)))):=by
 show ob (cL (dn c (slotS (slotS ρ i (some v)) j (some w)) H) _) _=_
 induction dn c (slotS (slotS ρ i (some v)) j (some w)) H using aL with
 |none=>rfl
 |some p=>
  obtain⟨v,H⟩:=p
  induction v using Internal.V.casesOn with
  |bool b=>induction b using aB <;> rfl
  |_=>rfl
theorem uh:rF go true H=go H:=rfl
theorem ifGo_f:rF go false H=some H:=rfl
theorem dO:runGens dn emit []=emit:=rfl
def F8(k:Nat)(kv v:V)(H:Hp):Option Hp:=match kg kv with
 |some q=>match own H (.ref k)with
  |some p=>match p with
   |(_,o)=>match o with
    |.dict l=>guard' (lenOk l) (some (setObj H k (.dict (dset l q v))))
    |.list _=>none
  |none=>none
 |none=>none
def kz(k:Nat)(v:V)(H:Hp):Option Hp:=match own H (.ref k)with
 |some p=>match p with
  |(_,o)=>match o with
   |.list l=>guard' (lenOk l) (some (setObj H k (.list (l++[v]))))
   |.dict _=>none
 |none=>none
theorem xv:iX k a b dn ρ H=ob (dn a ρ H) fun kv H=>ob (dn b ρ H) (F8 k kv):=by
 unfold iX;congr 1
theorem jJ:ck k a dn ρ H=ob (dn a ρ H) (kz k):=by
 unfold ck;congr 1
theorem uL:(newObj ⟨n,es⟩ o).2=⟨n+1,⟨n,false,o⟩::es⟩:=rfl
theorem yU:(newObj ⟨n,es⟩ o).1 = .ref n:=rfl
theorem jh:newObj ⟨n,es⟩ o=(.ref n,⟨n+1,⟨n,false,o⟩::es⟩):=rfl
theorem rep0:cq 0 (none:Option V)=[]:=rfl
theorem rep1:cq (n+1) (none:Option V)=none::cq n none:=rfl
end
end
local macro_rules
  |`(tactic|simp! only[$ls,*]) => do
    let r := ("aG fx aS bk fN Ci cD bo gn Bi yg yi xe yS pB nX Bq yH Ao pe wH xm oQ nW fK z5 cH jB kI mF qN C0 fk fg tv gw zo bj bA bc yX l8 gj aN cg gM gV vt uB rp qU jF uc iO hX o9 kU iU Aa jI mZ zA nP tA AX fz lY sD jo lx bg bh aY aZ gh gF lR pZ AB mw rH A4 tM uh ifGo_f dO xv jJ uL yU jh Nat.zero_add Nat.reduceAdd rep0 rep1".splitOn " ").toArray.map fun s => Lean.mkIdent (s.toName)
    `(tactic|simp only[$[$r:ident],*, $ls,*])
section
open PySem
noncomputable def isZ'(n:Int):Bool:=match n with
 |.ofNat a=>aF a 0
 |.negSucc _=>false
noncomputable def ff(n:Int)(g:Nat):Int:=match n with
 |.ofNat a=>.ofNat (Nat.div a g)
 |.negSucc a=>Int.negOfNat (Nat.div (Nat.succ a) g)
def T1(n:Int)(d g:Nat):Int×Nat:=(ff n g,Nat.div d g)
def fU(n:Int)(d:Nat):Int×Nat:=match aF d 1 with
 |true=>(n,1)
 |false=>T1 n d (cc n.natAbs d)
def rh(n d:Int):Int×Nat:=match d with
 |.ofNat b=>fU n b
 |.negSucc b=>fU (-n) (Nat.succ b)
noncomputable def aW(n:Int)(d:Nat):V:=.tup [.int n,.int (.ofNat d)]
def i8(q:Int×Nat):V:=aW q.1 q.2
theorem qA(n:Int):isZ' n=decide (n=0):=by
 induction n using kE with
 |ofNat a=>
  show aF a 0=decide (Int.ofNat a=0);rw[fT,Nat.beq_eq];simp
 |negSucc a=>simp [isZ']
theorem fits_of(h:x.natAbs<=18446744073709551616):fits x=true:=by
 unfold fits;rw[fj h]
theorem uF(hg:0<g)(h:n.natAbs=g * k):(ff n g) * g=n:=by
 induction n using kE with
 |ofNat a=>
  have h:a=g * k:=h;subst h;show(Int.ofNat (g * k / g)) * _=_;rw[Nat.mul_div_cancel_left k hg];simp [Int.mul_comm]
 |negSucc a=>
  have h:a+1=g * k:=h;show(Int.negOfNat ((a+1) / g)) * _=_;rw[h,Nat.mul_div_cancel_left k hg,Int.negOfNat_eq];have:Int.negSucc a = -((a+1:Nat):Int):=rfl;rw[this,h];simp [Int.mul_comm,Int.mul_neg]
theorem FU{n q d:Int}(hd:d≠0)(h:q * d=n):n.fdiv d=q:=by
 rw[<- h];exact Int.mul_fdiv_cancel q hd
theorem natAbs_dvd{n:Int}{g:Nat}(h:g∣n.natAbs):∃k,n.natAbs=g * k:=h
theorem Gu{n:Int}{d:Nat}(hd:0<d):n.fdiv (Int.ofNat (cc n.natAbs d))=(fU n d).1/\(Int.ofNat d).fdiv (Int.ofNat (cc n.natAbs d))=Int.ofNat (fU n d).2:=by
 have hg:0<cc n.natAbs d:=Nat.gcd_pos_of_pos_right _ hd;have hz:(Int.ofNat (cc n.natAbs d))≠0:=by simp;exact fun a=>Nat.ne_zero_of_lt hd
 exists aD (natAbs_dvd (Nat.gcd_dvd_left n.natAbs d)),k,hk;exists aD (Nat.gcd_dvd_right n.natAbs d),j,hj;have h1:n.fdiv (Int.ofNat (cc n.natAbs d))=ff n (cc n.natAbs d):=FU hz (uF hg hk);have h2:(Int.ofNat d).fdiv (Int.ofNat (cc n.natAbs d))=Int.ofNat (d / (cc n.natAbs d)):=by
  refine FU hz ?_;have:d / (cc n.natAbs d) * (cc n.natAbs d)=d:=Nat.div_mul_cancel (Nat.gcd_dvd_right n.natAbs d);have:=congrArg Int.ofNat this;simpa using this
 unfold fU;split
 ·rename_i h;have:d=1:=cY h;clear h hj hk hz hg;subst this;rw[h1,h2];have:=uF (n:=n) (g:=1) (k:=n.natAbs) Nat.one_pos (Eq.symm (Nat.one_mul n.natAbs));rw[Nat.gcd_one_right];exact⟨by simpa using this,rfl⟩
 ·exact⟨h1,h2⟩
theorem YI(hr:0<x % y)(hy:0<y):2 * (y % (x % y))<y:=by
 have h1:x % y<y:=Nat.mod_lt _ hy;have h2:y % (x % y)<x % y:=Nat.mod_lt _ hr;by_cases h:2 * (x % y)<=y
 ·lia
 ·have h3:y % (x % y)=y - x % y:=by
   rw[Nat.mod_eq_sub_mod (fh h1),Nat.mod_eq_of_lt (by lia)]
  lia
section
variable {H:Hp}
theorem Hm:bu .NotEq (V.int (.ofNat y)) (V.int 0) H=some (!(aF y 0)):=rfl
theorem QE(hy:0<y):binOp .Mod (.int (.ofNat x)) (.int (.ofNat y)) H=some (V.int (.ofNat (x % y)),H):=by
 show guard' (!ieq (.ofNat y) 0) (some (V.int ((Int.ofNat x).fmod (.ofNat y)),H))=_;have h1:ieq (Int.ofNat y) 0=false:=by
  rw[ieq_eq];simp;exact Nat.ne_zero_of_lt hy
 rw[h1];show some (V.int _,H)=_;have e:(Int.ofNat x).fmod (Int.ofNat y)=Int.ofNat (x % y):=by
  rw[Int.fmod_eq_emod_of_nonneg _ (by simp)];rfl
 rw[e]
theorem EB(hy:0<y):fq (den (dn+8) (.cmp .NotEq (.var 1) (.const (V.int 0)))) (denSs (denS (dn+8)) [(.unpack [0,1] (.tup [(.var 1),(.bin .Mod (.var 0) (.var 1))]))]) (n+1) (some (V.int (.ofNat x))::some (V.int (.ofNat y))::r) H =
  fq (den (dn+8) (.cmp .NotEq (.var 1) (.const (V.int 0)))) (denSs (denS (dn+8)) [(.unpack [0,1] (.tup [(.var 1),(.bin .Mod (.var 0) (.var 1))]))]) n (some (V.int (.ofNat y))::some (V.int (.ofNat (x % y)))::r) H:=by
 have h:aF y 0=false:=by induction y using bL with
  |zero=>lia
  |succ y=>rfl
 rw[qb];simp! only[Hm,h,Bool.not_false,QE hy]
theorem AY:fq (den (dn+8) (.cmp .NotEq (.var 1) (.const (V.int 0)))) (denSs (denS (dn+8)) [(.unpack [0,1] (.tup [(.var 1),(.bin .Mod (.var 0) (.var 1))]))]) (n+1) (some (V.int (.ofNat x))::some (V.int (.ofNat 0))::r) H =
  some (.next,some (V.int (.ofNat x))::some (V.int (.ofNat 0))::r,H):=by
 rw[qb];simp! only[Hm,eu,Bool.not_true]
theorem N6:∀(j x y n:Nat),y<2 ^ j->2 * j+1<=n->fq (den (dn+8) (.cmp .NotEq (.var 1) (.const (V.int 0)))) (denSs (denS (dn+8)) [(.unpack [0,1] (.tup [(.var 1),(.bin .Mod (.var 0) (.var 1))]))]) n (some (V.int (.ofNat x))::some (V.int (.ofNat y))::r) H =
  some (.next,some (V.int (.ofNat (cc x y)))::some (V.int (.ofNat 0))::r,H):=by
 intro j
 induction j with
 |zero=>
  intro x y n h1 h2;have:y=0:=by simpa using h1
  clear h1;subst this;obtain⟨n,rfl⟩:∃m,n=m+1:=⟨n - 1,by exact(fun{b a c} h=>(Nat.sub_eq_iff_eq_add h).mp) h2 rfl⟩;rw[AY,Nat.gcd_zero_right]
 |succ j ih=>
  intro x y n h1 h2;obtain⟨n,rfl⟩:∃m,n=m+1:=⟨n - 1,by lia⟩;rcases Nat.eq_zero_or_pos y with rfl|hy
  ·rw[AY,Nat.gcd_zero_right]
  rw[EB hy];obtain⟨n,rfl⟩:∃m,n=m+1:=⟨n - 1,by lia⟩;have hg:cc x y=cc y (x % y):=by rw[Nat.gcd_comm x y,Nat.gcd_rec y x,Nat.gcd_comm]
  rw[hg];clear hg;rcases Nat.eq_zero_or_pos (x % y)with h0|hr
  ·rw[h0,AY,Nat.gcd_zero_right]
  rw[EB hr];have hh:=YI hr hy;have hg:cc y (x % y)=cc (x % y) (y % (x % y)):=by rw[Nat.gcd_comm y (x % y),Nat.gcd_rec (x % y) y,Nat.gcd_comm]
  rw[hg];refine ih _ _ _ ?_ (by lia);rw[Nat.pow_succ]at h1
  lia
theorem Ft:cw .abs [.int x] H=some (V.int (.ofNat x.natAbs),H):=by
 induction x using kE with
 |ofNat a=>
  show some (V.int (match c9 a 0 with|true=>-(Int.ofNat a)|false=>Int.ofNat a),H)=_
  have:c9 a 0=false:=by induction a using bL <;> rfl
  rw[this];rfl
 |negSucc a=>rfl
theorem TL(hb:b.natAbs<2 ^ 200):CV [.int a,.int b] ⟨0,[]⟩=some (V.int (.ofNat (cc a.natAbs b.natAbs)),⟨0,[]⟩):=by
 unfold CV Hi;rw[dQ];simp! only[Ft];rw[N6 200 _ _ 1000 hb dq];simp! only[];rfl
theorem EK(hb:b.natAbs<2 ^ 200):ud [.int a,.int b] H=some (V.int (.ofNat (cc a.natAbs b.natAbs)),H):=
 dX (args:=[.int a,.int b]) (TL hb) (.cons (.int _) (.cons (.int _) .nil)) (.int _)
theorem fm(hx:x.natAbs<=18446744073709551616)(hy:y.natAbs<=18446744073709551616):binOp .Mult (V.int x) (V.int y) H=some (V.int (x * y),H):=by
 show guard' (band (fits x) (fits y)) (some (V.int (x * y),H))=_;rw[fits_of hx,fits_of hy];rfl
theorem qB(h:y≠0)(hx:x.natAbs<=18446744073709551616)(hy:y.natAbs<=18446744073709551616):binOp .FloorDiv (V.int x) (V.int y) H=some (V.int (x.fdiv y),H):=by
 show guard' (band (!ieq y 0) (band (fits x) (fits y))) (some (V.int (x.fdiv y),H))=_;have:ieq y 0=false:=by rw[ieq_eq];simpa using h
 rw[fits_of hx,fits_of hy,this];rfl
theorem qk:binOp .Add (V.int x) (V.int y) H=some (V.int (x+y),H):=rfl
theorem oE:binOp .Sub (V.int x) (V.int y) H=some (V.int (x - y),H):=rfl
theorem P4(h:x≠0):bu .Eq (V.int x) (V.int 0) H=some false:=by
 show some (ieq x 0)=_;rw[ieq_eq];simpa using h
theorem Mq(h:0<x):bu .Gt (V.int x) (V.int 0) H=some true:=by
 show some (ilt 0 x)=_;rw[ilt_eq];simpa using h
theorem Ts(h:x<0):bu .Gt (V.int x) (V.int 0) H=some false:=by
 show some (ilt 0 x)=_;rw[ilt_eq];simp;exact Int.le_of_lt h
theorem VF(hb:0<b):cc a b<=b:=Nat.le_of_dvd hb (Nat.gcd_dvd_right _ _)
theorem Yg(hd:d≠0)(hn:n.natAbs<=18446744073709551616)(hd2:d.natAbs<=18446744073709551616):xb [.int n,.int d] ⟨0,[]⟩=some (i8 (rh n d),⟨0,[]⟩):=by
 have dB:d.natAbs<2 ^ 200:=Nat.lt_of_le_of_lt hd2 dq;have gi:0<d.natAbs:=Int.natAbs_pos.mpr hd;have yL:cc n.natAbs d.natAbs<=d.natAbs:=VF gi;have DJ:0<cc n.natAbs d.natAbs:=Nat.gcd_pos_of_pos_right _ gi;unfold xb Im;rw[dQ];simp! only[P4 hd];clear hd;induction d using kE with
 |ofNat b=>
  have hb:0<b:=gi;have BB:0<Int.ofNat b:=by simpa using hb
  have hz:Int.ofNat (cc n.natAbs b)≠0:=by
   have:0<cc n.natAbs b:=DJ;simp;exact fun a=>Nat.ne_zero_of_lt gi
  have tf:(Int.ofNat (cc n.natAbs b)).natAbs<=18446744073709551616:=br yL hd2;exists ak (Gu (n:=n) hb),e1,e2;simp! only[Mq BB,EK dB,show(Int.ofNat b).natAbs=b from rfl,qB hz hn tf,qB hz hd2 tf,e1,e2];rfl
 |negSucc b=>
  have BB:Int.negSucc b<0:=Int.negSucc_lt_zero b;have gO:(Int.negSucc b).natAbs=b+1:=rfl;rw[gO]at yL DJ;have hz:(0:Int) - Int.ofNat (cc n.natAbs (b+1))≠0:=by
   have:(Int.ofNat (cc n.natAbs (b+1)))=((cc n.natAbs (b+1):Nat):Int):=rfl
   lia
  have tf:((0:Int) - Int.ofNat (cc n.natAbs (b+1))).natAbs<=18446744073709551616:=by
   have:((0:Int) - Int.ofNat (cc n.natAbs (b+1))).natAbs=cc n.natAbs (b+1):=by simp
   rw[this];exact br yL hd2
  exists ak (Gu (n:=-n) (d:=b+1) (Nat.succ_pos b)),e1,e2;rw[Int.natAbs_neg]at e1 e2;have f1:n.fdiv ((0:Int) - Int.ofNat (cc n.natAbs (b+1)))=(fU (-n) (b+1)).1:=by
   rw[<- e1];have:(0:Int) - Int.ofNat (cc n.natAbs (b+1)) = -Int.ofNat (cc n.natAbs (b+1)):=by simp
   rw[this,<- Int.neg_fdiv_neg,Int.neg_neg]
  have f2:(Int.negSucc b).fdiv ((0:Int) - Int.ofNat (cc n.natAbs (b+1)))=Int.ofNat (fU (-n) (b+1)).2:=by
   rw[<- e2];have:(0:Int) - Int.ofNat (cc n.natAbs (b+1)) = -Int.ofNat (cc n.natAbs (b+1)):=by simp
   rw[this,<- Int.neg_fdiv_neg,Int.neg_neg];rfl
  simp! only[Ts BB,EK dB,gO,oE,qB hz hn tf,qB hz hd2 tf,f1,f2];rfl
theorem vX(hd:d≠0)(hn:n.natAbs<=18446744073709551616)(hd2:d.natAbs<=18446744073709551616):pV [.int n,.int d] H=some (i8 (rh n d),H):=
 dX (args:=[.int n,.int d]) (Yg hd hn hd2) (.cons (.int _) (.cons (.int _) .nil)) (.tup (.cons (.int _) (.cons (.int _) .nil)))
end
end
section
open PySem
noncomputable def cM(n:Int)(d:Nat):Prop:=n.natAbs<=1000000000/\0<d/\d<=1000
def addQ(n:Int)(d:Nat)(n':Int)(d':Nat):Int×Nat:=match aF (Nat.mul d d') 1 with
 |true=>(n+n',1)
 |false=>fU (n * Int.ofNat d'+n' * Int.ofNat d) (Nat.mul d d')
def mulQ(n:Int)(d:Nat)(n':Int)(d':Nat):Int×Nat:=fU (n * n') (Nat.mul d d')
def divQ(n:Int)(d:Nat)(n':Int)(d':Nat):Int×Nat:=rh (n * Int.ofNat d') (Int.ofNat d * n')
def invQ(n:Int)(d:Nat):Int×Nat:=rh (Int.ofNat d) n
theorem addQ_eq:addQ n d n' d'=rh (n * Int.ofNat d'+n' * Int.ofNat d) (Int.ofNat d * Int.ofNat d'):=by
 have h:Int.ofNat d * Int.ofNat d'=Int.ofNat (Nat.mul d d'):=rfl;rw[h];show addQ n d n' d'=fU _ _;unfold addQ;split
 ·rename_i e;have e:d * d'=1:=cY e;obtain⟨rfl,rfl⟩:d=1/\d'=1:=⟨Nat.eq_one_of_mul_eq_one_right e,Nat.eq_one_of_mul_eq_one_left e⟩;show(n+n',1)=(n * 1+n' * 1,1);rw[Int.mul_one,Int.mul_one]
 ·rfl
theorem mE{x y:Int}{a b:Nat}(hx:x.natAbs<=a)(hy:y.natAbs<=b):(x * y).natAbs<=a * b:=by
 rw[Int.natAbs_mul];exact Nat.mul_le_mul hx hy
theorem S7{x y:Int}{a b:Nat}(hx:x.natAbs<=a)(hy:y.natAbs<=b):(x+y).natAbs<=a+b:=br (Int.natAbs_add_le x y) (Nat.add_le_add hx hy)
section
variable {H:Hp} {n n':Int} {d d':Nat}
theorem g7:NR (aW n d):=.tup (.cons (.int _) (.cons (.int _) .nil))
theorem l6:FL (aW n d):=.tup (.cons (.int _) (.cons (.int _) .nil))
theorem mO:subs H (aW n d) (V.int 0)=some (V.int n):=rfl
theorem oG:subs H (aW n d) (V.int 1)=some (V.int (.ofNat d)):=rfl
theorem m6(h:cM n d):n.natAbs<=18446744073709551616:=br h.1 dq
theorem ke(h:cM n d):(Int.ofNat d).natAbs<=18446744073709551616:=br h.2.2 dq
theorem xH(h:cM n d):Int.ofNat d≠0:=by
 have:=h.2.1;simp;lia
theorem Hb(h:cM n d)(h':cM n' d'):Int.ofNat d * Int.ofNat d'≠0:=Int.mul_ne_zero (xH h) (xH h')
theorem Jq(h:cM n d)(h':cM n' d'):hV [aW n d,aW n' d'] H=some (i8 (addQ n d n' d'),H):=by
 refine dX (args:=[aW n d,aW n' d']) (H':=⟨0,[]⟩) ?_ (.cons g7 (.cons g7 .nil)) l6;show yM [aW n d,aW n' d'] ⟨0,[]⟩=_;unfold yM Dk;rw[dQ];have b1:(n * Int.ofNat d'+n' * Int.ofNat d).natAbs<=18446744073709551616:=br (S7 (mE h.1 h'.2.2) (mE h'.1 h.2.2)) dq;have b2:(Int.ofNat d * Int.ofNat d').natAbs<=18446744073709551616:=br (mE h.2.2 h'.2.2) dq;simp! only[mO,oG,fm (m6 h) (ke h'),fm (m6 h') (ke h),fm (ke h) (ke h'),qk,vX (Hb h h') b1 b2,addQ_eq];rfl
theorem y3(h:cM n d)(h':cM n' d'):iL [aW n d,aW n' d'] H=some (i8 (mulQ n d n' d'),H):=by
 refine dX (args:=[aW n d,aW n' d']) (H':=⟨0,[]⟩) ?_ (.cons g7 (.cons g7 .nil)) l6;show Cz [aW n d,aW n' d'] ⟨0,[]⟩=_;unfold Cz FF;rw[dQ];have b1:(n * n').natAbs<=18446744073709551616:=br (mE h.1 h'.1) dq;have b2:(Int.ofNat d * Int.ofNat d').natAbs<=18446744073709551616:=br (mE h.2.2 h'.2.2) dq;simp! only[mO,oG,fm (m6 h) (m6 h'),fm (ke h) (ke h'),vX (Hb h h') b1 b2];rfl
theorem EV(h:cM n d)(h':cM n' d')(hz:n'≠0):oh [aW n d,aW n' d'] H=some (i8 (divQ n d n' d'),H):=by
 refine dX (args:=[aW n d,aW n' d']) (H':=⟨0,[]⟩) ?_ (.cons g7 (.cons g7 .nil)) l6;show Bf [aW n d,aW n' d'] ⟨0,[]⟩=_;unfold Bf DZ;rw[dQ];have b1:(n * Int.ofNat d').natAbs<=18446744073709551616:=br (mE h.1 h'.2.2) dq;have b2:(Int.ofNat d * n').natAbs<=18446744073709551616:=br (mE h.2.2 h'.1) dq;simp! only[mO,oG,fm (m6 h) (ke h'),fm (ke h) (m6 h'),vX (Int.mul_ne_zero (xH h) hz) b1 b2];rfl
theorem HQ:oX [aW n d] H=some (aW (-n) d,H):=by
 refine dX (args:=[aW n d]) (H':=⟨0,[]⟩) ?_ (.cons g7 .nil) l6;show yR [aW n d] ⟨0,[]⟩=_;unfold yR GY;rw[hO];simp! only[mO,oG,oE,Int.zero_sub];rfl
theorem yu(h:cM n d)(hz:n≠0):qF [aW n d] H=some (i8 (invQ n d),H):=by
 refine dX (args:=[aW n d]) (H':=⟨0,[]⟩) ?_ (.cons g7 .nil) l6;show BH [aW n d] ⟨0,[]⟩=_;unfold BH GC;rw[hO];simp! only[mO,oG,vX hz (ke h) (m6 h)];rfl
theorem T7:cw .max2 [V.int x,V.int y] H=some (V.int (imax x y),H):=rfl
theorem aak:binOp .Pow (V.int 2) (V.int 64) H=some (V.int 18446744073709551616,H):=rfl
theorem T8(h:x<y):bu .GtE (V.int x) (V.int y) H=some false:=by
 show some (!ilt x y)=_;rw[ilt_eq];simpa using h
theorem S9(h:cM n d):te [aW n d] H=some (.bool false,H):=by
 refine dX (args:=[aW n d]) (H':=⟨0,[]⟩) ?_ (.cons g7 .nil) (.bool _);show yr [aW n d] ⟨0,[]⟩=_;unfold yr Gq;rw[hO];have b:imax (Int.ofNat n.natAbs) (Int.ofNat d)<18446744073709551616:=by
  have h1:=h.1;have h2:=h.2.2;unfold imax;split
  ·have:(Int.ofNat d)=(d:Int):=rfl
   lia
  ·have:(Int.ofNat n.natAbs)=((n.natAbs:Nat):Int):=rfl
   lia
 simp! only[mO,oG,Ft,T7,aak,T8 b];rfl
end
end
section
open PySem
noncomputable def encM(x y:Nat):V:=.tup [.int (.ofNat x),.int (.ofNat y)]
noncomputable def bU(x y:Nat):List Int:=[.ofNat x,.ofNat y]
set_option genCtorIdx true in
inductive Od where
 |lex|iR|grevlex
noncomputable def gr:Od->Bool
 |.lex=>false
 |_=>true
noncomputable def aK:Od->V
 |.lex=>.str [108,101,120]
 |.iR=>.str [103,114,108,101,120]
 |.grevlex=>.str [103,114,101,118,108,101,120]
def keyV:Od->Nat->Nat->V
 |.lex,x,y=>encM x y
 |.iR,x,y=>.tup [.int (.ofNat (x+y)),.int (.ofNat x),.int (.ofNat y)]
 |.grevlex,x,y=>.tup [.int (.ofNat (x+y)),.int (-.ofNat y),.int (-.ofNat x)]
noncomputable def gtM(o:Bool)(x y x' y':Nat):Bool:=match o with
 |false=>match aF x x' with
  |true=>c9 y' y
  |false=>c9 x' x
 |true=>match aF (Nat.add x y) (Nat.add x' y')with
  |true=>c9 x' x
  |false=>c9 (Nat.add x' y') (Nat.add x y)
noncomputable def dvd'(x y x' y':Nat):Bool:=match b8 x x' with
 |true=>b8 y y'
 |false=>false
section
variable {H:Hp} {x y x' y':Nat}
theorem eR:NR (encM x y):=.tup (.cons (.int _) (.cons (.int _) .nil))
theorem lO:FL (encM x y):=.tup (.cons (.int _) (.cons (.int _) .nil))
theorem fb:∀{o:Od},NR (aK o)
 |.lex=>.str _
 |.iR=>.str _
 |.grevlex=>.str _
theorem Jo:∀{o:Od},FL (keyV o x y)
 |.lex=>lO
 |.iR=>.tup (.cons (.int _) (.cons (.int _) (.cons (.int _) .nil)))
 |.grevlex=>.tup (.cons (.int _) (.cons (.int _) (.cons (.int _) .nil)))
theorem zm(hx:x<=1000)(hy:y<=1000):cw .sum [encM x y] H=some (V.int (.ofNat (x+y)),H):=by
 show guard' true (retI (sumI [.int (.ofNat x),.int (.ofNat y)]) H)=_;have h:∀{z:Nat},z<=1000->inB (-1000000000) 1000000000 (.ofNat z)=true:=fun{z} hz=>by
  unfold inB;have h1:ilt (.ofNat z) (-1000000000)=false:=rfl;have h2:ilt 1000000000 (.ofNat z)=false:=by
   rw[ilt_eq];simp;lia
  rw[h1,h2]
 simp only[sumI,h hx,h hy];rfl
theorem sG:lockH H [.lst l]=H:=rfl
theorem FY:lockH H [.dct l]=H:=rfl
theorem mW:sunl es [.lst l] (some (f,ρ,H))=some (f,ρ,H):=rfl
theorem wZ:sunl es [.dct l] (some (f,ρ,H))=some (f,ρ,H):=rfl
theorem OZ(o:Od)(hx:x<=1000)(hy:y<=1000):∃H',zO [aK o,encM x y] ⟨0,[]⟩=some (keyV o x y,H'):=by
 unfold zO Fn;rw[dQ]
 induction o using Internal.Od.casesOn with
 |lex=>
  refine⟨⟨0,[]⟩,?_⟩;have e:∀H,bu .Eq (aK .lex) (V.str [108,101,120]) H=some true:=fun _=>rfl;simp! only[e];rfl
 |iR=>
  refine⟨⟨0,[]⟩,?_⟩;have e:∀H,bu .Eq (aK .iR) (V.str [108,101,120]) H=some false:=fun _=>rfl;have e2:∀H,bu .Eq (aK .iR) (V.str [103,114,108,101,120]) H=some true:=fun _=>rfl;simp! only[e,e2,zm hx hy];rfl
 |grevlex=>
  refine⟨⟨1,[]⟩,?_⟩;have e:∀H,bu .Eq (aK .grevlex) (V.str [108,101,120]) H=some false:=fun _=>rfl;have e2:∀H,bu .Eq (aK .grevlex) (V.str [103,114,108,101,120]) H=some false:=fun _=>rfl;have e3:∀H,bu .Eq (aK .grevlex) (V.str [103,114,101,118,108,101,120]) H=some true:=fun _=>rfl;simp! only[e,e2,e3,zm hx hy];rfl
theorem vT(hx:x<=1000)(hy:y<=1000):jX [aK o,encM x y] H=some (keyV o x y,H):=by
 exists aD (OZ o hx hy),H',e;refine dX (args:=[aK o,encM x y]) (H':=H') ?_ ?_ Jo
 ·induction o using Internal.Od.casesOn <;> exact e
 ·induction o using Internal.Od.casesOn <;> exact .cons (.str _) (.cons eR .nil)
theorem Yy:yp [encM x y,encM x' y'] H=some (encM (x+x') (y+y'),H):=
 dX (args:=[encM x y,encM x' y']) (H':=⟨1,[]⟩) rfl (.cons eR (.cons eR .nil)) lO
theorem xV(hx:x'<=x)(hy:y'<=y):nS [encM x y,encM x' y'] H=some (encM (x - x') (y - y'),H):=by
 have e:IZ [encM x y,encM x' y'] ⟨0,[]⟩=some (.tup [.int (Int.ofNat x - Int.ofNat x'),.int (Int.ofNat y - Int.ofNat y')],⟨1,[]⟩):=rfl;have e1:Int.ofNat x - Int.ofNat x'=Int.ofNat (x - x'):=by
  have:(Int.ofNat (x - x'))=((x - x':Nat):Int):=rfl;rw[this];simp;exact Eq.symm (Int.ofNat_sub hx)
 have e2:Int.ofNat y - Int.ofNat y'=Int.ofNat (y - y'):=by
  have:(Int.ofNat (y - y'))=((y - y':Nat):Int):=rfl;rw[this];simp;exact Eq.symm (Int.ofNat_sub hy)
 rw[e1,e2]at e;exact dX (args:=[encM x y,encM x' y']) e (.cons eR (.cons eR .nil)) lO
theorem zQ:imax (.ofNat x) (.ofNat y) = .ofNat (max x y):=by
 unfold imax;rw[ilt_eq];split
 ·rename_i h;have h:(x:Int)<y:=by simpa using h
  rw[Nat.max_eq_right (by lia)]
 ·rename_i h;have h:¬ (x:Int)<y:=by simpa using h
  rw[Nat.max_eq_left (by lia)]
theorem BG:mP (.ofNat x) (.ofNat y) = .ofNat (min x y):=by
 unfold mP;rw[ilt_eq];split
 ·rename_i h;have h:(y:Int)<x:=by simpa using h
  rw[Nat.min_eq_right (by lia)]
 ·rename_i h;have h:¬ (y:Int)<x:=by simpa using h
  rw[Nat.min_eq_left (by lia)]
theorem wR:qh [encM x y,encM x' y'] H=some (encM (max x x') (max y y'),H):=by
 have e:IM [encM x y,encM x' y'] ⟨0,[]⟩=some (.tup [.int (imax (.ofNat x) (.ofNat x')),.int (imax (.ofNat y) (.ofNat y'))],⟨1,[]⟩):=rfl;rw[zQ,zQ]at e;exact dX (args:=[encM x y,encM x' y']) e (.cons eR (.cons eR .nil)) lO
theorem Yk:zE [encM x y,encM x' y'] H=some (encM (min x x') (min y y'),H):=by
 have e:J1 [encM x y,encM x' y'] ⟨0,[]⟩=some (.tup [.int (mP (.ofNat x) (.ofNat x')),.int (mP (.ofNat y) (.ofNat y'))],⟨1,[]⟩):=rfl;rw[BG,BG]at e;exact dX (args:=[encM x y,encM x' y']) e (.cons eR (.cons eR .nil)) lO
theorem Ls(a b:Nat):c9 a b = !b8 b a:=by
 induction h:b8 b a using aB with
 |true=>
  have:b<=a:=bC h;exact gS.mpr fun q=>by
   have:a+1<=b:=bC q
   lia
 |false=>
  have:¬ b<=a:=fun q=>by rw[fj q]at h;exact bt h
  exact fj (W.X.blt_false h)
theorem Et:oU [encM x y,encM x' y'] H=some (.bool (dvd' x y x' y'),H):=by
 refine dX (args:=[encM x y,encM x' y']) (H':=⟨0,[]⟩) ?_ (.cons eR (.cons eR .nil)) (.bool _);show Ce [encM x y,encM x' y'] ⟨0,[]⟩=_;unfold Ce Ic;rw[dQ];have it:∀H,iterOf H .enum [encM x y]=some [.tup [.int 0,.int (.ofNat x)],.tup [.int 1,.int (.ofNat y)]]:=fun _=>rfl;have l1:∀H,lockH H [encM x y]=H:=fun _=>rfl;have sl:∀es f ρ H,sunl es [encM x y] (some (f,ρ,H))=some (f,ρ,H):=fun _ _ _ _=>rfl;have s0:∀H,subs H (encM x' y') (V.int 0)=some (V.int (.ofNat x')):=fun _=>rfl;have s1:∀H,subs H (encM x' y') (V.int 1)=some (V.int (.ofNat y')):=fun _=>rfl;have c:∀a b H,bu .Gt (V.int (.ofNat a)) (V.int (.ofNat b)) H=some (!b8 a b):=fun a b H=>by
  rw[<- Ls];rfl
 simp! only[it,l1,s0,s1,c];unfold dvd'
 induction h1:b8 x x' using aB with
 |false=>simp! only[Bool.not_false,sl];rfl
 |true=>
  induction h2:b8 y y' using aB with
  |false=>simp! only[Bool.not_true,Bool.not_false,it,l1,s0,s1,c,h2,sl];rfl
  |true=>simp! only[Bool.not_true,it,l1,s0,s1,c,h2,sl];rfl
theorem Vt(hx:x<=1000)(hy:y<=1000):CQ [encM x y,encM x' y'] H=some (.bool (aF (min x x'+min y y') 0),H):=by
 refine dX (args:=[encM x y,encM x' y']) (H':=⟨0,[]⟩) ?_ (.cons eR (.cons eR .nil)) (.bool _);show BK [encM x y,encM x' y'] ⟨0,[]⟩=_;unfold BK Jy;rw[dQ];have h1:min x x'<=1000:=br (Nat.min_le_left _ _) hx;have h2:min y y'<=1000:=br (Nat.min_le_left _ _) hy;simp! only[Yk,zm h1 h2];rfl
theorem O0:bu .Gt (V.tup [.int a,.int b]) (V.tup [.int c,.int d]) H=some (if a=c then (if b=d then false else decide (d<b))else decide (c<a)):=by
 show fE true (tcmp true 7) [.int a,.int b] [.int c,.int d]=_;show(match ieq a c with
  |true=>(match ieq b d with
   |true=>some false
   |false=>some (ilt d b))
  |false=>some (ilt c a))=_
 rw[ieq_eq,ieq_eq,ilt_eq,ilt_eq];by_cases h:a=c
 ·rw[if_pos h,decide_eq_true h];dsimp only;by_cases h:b=d
  ·rw[if_pos h,decide_eq_true h]
  ·rw[if_neg h,decide_eq_false h]
 ·rw[if_neg h,decide_eq_false h]
theorem DG:bu .Gt (V.tup [.int a,.int b,.int c]) (V.tup [.int a',.int b',.int c']) H=some (if a=a' then (if b=b' then (if c=c' then false else decide (c'<c))else decide (b'<b))else decide (a'<a)):=by
 show(match ieq a a' with
  |true=>(match ieq b b' with
   |true=>(match ieq c c' with
    |true=>some false
    |false=>some (ilt c' c))
   |false=>some (ilt b' b))
  |false=>some (ilt a' a))=_
 rw[ieq_eq,ieq_eq,ieq_eq,ilt_eq,ilt_eq,ilt_eq];by_cases h:a=a'
 ·rw[if_pos h,decide_eq_true h];dsimp only;by_cases h:b=b'
  ·rw[if_pos h,decide_eq_true h];dsimp only;by_cases h:c=c'
   ·rw[if_pos h,decide_eq_true h]
   ·rw[if_neg h,decide_eq_false h]
  ·rw[if_neg h,decide_eq_false h]
 ·rw[if_neg h,decide_eq_false h]
theorem tZ(o:Bool):gtM o x y x' y'=true↔(match o with
  |false=>x'<x\/(x=x'/\y'<y)
  |true=>x'+y'<x+y\/(x+y=x'+y'/\x'<x)):=by
 induction o using aB with
 |false=>
  unfold gtM;dsimp only
  induction h:aF x x' using aB with
  |true=>
   rw[Nat.beq_eq]at h;simp [c9];lia
  |false=>
   have:x≠x':=fun q=>by rw[q,eu]at h;exact bt h
   simp [c9];lia
 |true=>
  unfold gtM;dsimp only
  induction h:aF (Nat.add x y) (Nat.add x' y')using aB with
  |true=>
   rw[Nat.beq_eq]at h;have h:x+y=x'+y':=h;simp [c9];lia
  |false=>
   have:x+y≠x'+y':=fun q=>by
    have q:Nat.add x y=Nat.add x' y':=q;rw[q,eu]at h;exact bt h
   simp only[c9,Nat.add_eq,Nat.ble_eq]
   lia
theorem DQ(o:Od):bu .Gt (keyV o x y) (keyV o x' y') H=some (gtM (gr o) x y x' y'):=by
 induction o using Internal.Od.casesOn with
 |lex=>
  refine O0.trans (congrArg some ?_);rw[fT];refine Iff.trans ?_ (tZ false).symm;dsimp only;split
  ·split <;> simp at * <;> lia
  ·simp at *;lia
 |iR=>
  refine DG.trans (congrArg some ?_);rw[fT];refine Iff.trans ?_ (tZ true).symm;dsimp only;split
  ·split
   ·split <;> simp at * <;> lia
   ·simp at *;lia
  ·simp at *;lia
 |grevlex=>
  refine DG.trans (congrArg some ?_);rw[fT];refine Iff.trans ?_ (tZ true).symm;dsimp only;split
  ·split
   ·split <;> simp at * <;> lia
   ·simp at *;lia
  ·simp at *;lia
end
end
section
open PySem
structure T where
 x:Nat
 y:Nat
 n:Int
 d:Nat
noncomputable abbrev Po:=List T
theorem kj{B:Type}{x:Option Po}{f:Po->Option B}{b:B}{P:Prop}(h:(match x with|none=>none|some a=>f a)=some b)(k:∀a,x=some a->f a=some b->P):P:=by induction x using aL with|none=>exact nq h|some a=>exact k a rfl h
theorem LQ{B:Type}{x:Option T}{f:T->Option B}{b:B}{P:Prop}(h:(match x with|some a=>f a|none=>none)=some b)(k:∀a,x=some a->f a=some b->P):P:=by induction x using aL with|none=>exact nq h|some a=>exact k a rfl h
theorem KA{B:Type}{x:Option T}{f:T->Option B}{b:B}{P:Prop}(h:(match x with|none=>none|some a=>f a)=some b)(k:∀a,x=some a->f a=some b->P):P:=by induction x using aL with|none=>exact nq h|some a=>exact k a rfl h
theorem Nc{B:Type}{x:Option (List Po)}{f:List Po->Option B}{b:B}{P:Prop}(h:(match x with|none=>none|some a=>f a)=some b)(k:∀a,x=some a->f a=some b->P):P:=by induction x using aL with|none=>exact nq h|some a=>exact k a rfl h
def encT(t:T):List Int×V:=(bU t.x t.y,aW t.n t.d)
def aj(p:Po):List (List Int×V):=p.map encT
noncomputable def bH(x y x' y':Nat):Bool:=match aF x x' with
 |true=>aF y y'
 |false=>false
noncomputable def getT:Po->Nat->Nat->Option T
 |[],_,_=>none
 |t::r,x,y=>match bH t.x t.y x y with
  |true=>some t
  |false=>getT r x y
noncomputable def setT:Po->T->Po
 |[],t=>[t]
 |h::r,t=>match bH h.x h.y t.x t.y with
  |true=>⟨h.x,h.y,t.n,t.d⟩::r
  |false=>h::setT r t
noncomputable def delT:Po->Nat->Nat->Po
 |[],_,_=>[]
 |h::r,x,y=>match bH h.x h.y x y with
  |true=>r
  |false=>h::delT r x y
def addZ(h:T)(r:Po)(q:Int×Nat):Po:=match isZ' q.1 with
 |true=>r
 |false=>⟨h.x,h.y,q.1,q.2⟩::r
noncomputable def addT:Po->T->Po
 |[],t=>[t]
 |h::r,t=>match bH h.x h.y t.x t.y with
  |true=>addZ h r (addQ h.n h.d t.n t.d)
  |false=>h::addT r t
noncomputable def addP(a:Po):Po->Po
 |[]=>a
 |t::r=>addP (addT a t) r
noncomputable def negT(t:T):T:=⟨t.x,t.y,-t.n,t.d⟩
def mulT(x y:Nat)(n:Int)(d:Nat)(t:T):T:=let q:=mulQ t.n t.d n d;⟨Nat.add t.x x,Nat.add t.y y,q.1,q.2⟩
noncomputable def Nd(p:Po):Prop:=p.Pairwise fun a b=>¬ (a.x=b.x/\a.y=b.y)
noncomputable def q9(t:T):Prop:=t.x<=8/\t.y<=8/\cM t.n t.d/\t.n≠0
noncomputable def aX(p:Po):Prop:=p.length<=1000/\(∀t∈p,q9 t)/\Nd p
theorem i3(x y x' y':Nat):bH x y x' y'=true↔x=x'/\y=y':=by
 unfold bH
 induction h:aF x x' using aB with
 |true=>rw[Nat.beq_eq]at h;simp [h]
 |false=>
  have:x≠x':=fun q=>by rw[q,eu]at h;exact bt h
  simp [this]
theorem sQ(x y x' y':Nat):keq (bU x y) (bU x' y')=bH x y x' y':=by
 rw[fT,keq_iff,i3];unfold bU;simp
 lia
theorem mN(p:Po):∀(x y:Nat),dget (aj p) (bU x y)=(getT p x y).map fun t=>aW t.n t.d:=by
 induction p with
 |nil=>
  intro _ _;exact rfl
 |cons t r ih=>
  intro x y;show(match keq (bU t.x t.y) (bU x y)with
   |true=>some (aW t.n t.d)
   |false=>dget (aj r) (bU x y))=_
  rw[sQ];dsimp only[getT]
  induction bH t.x t.y x y using aB with
  |true=>rfl
  |false=>exact ih x y
theorem td(p:Po):∀(x y:Nat) (n:Int) (d:Nat),dset (aj p) (bU x y) (aW n d)=aj (setT p ⟨x,y,n,d⟩):=by
 induction p with
 |nil=>
  intro _ _ _ _;exact rfl
 |cons t r ih=>
  intro x y n d;show(match keq (bU t.x t.y) (bU x y)with
   |true=>(bU t.x t.y,aW n d)::aj r
   |false=>encT t::dset (aj r) (bU x y) (aW n d))=_
  rw[sQ];dsimp only[setT]
  induction bH t.x t.y x y using aB with
  |true=>rfl
  |false=>show encT t::_=_;rw[ih];rfl
theorem EW(p:Po):∀(x y:Nat),ddel (aj p) (bU x y)=aj (delT p x y):=by
 induction p with
 |nil=>
  intro _ _;exact rfl
 |cons t r ih=>
  intro x y;show(match keq (bU t.x t.y) (bU x y)with
   |true=>aj r
   |false=>encT t::ddel (aj r) (bU x y))=_
  rw[sQ];dsimp only[delT]
  induction bH t.x t.y x y using aB with
  |true=>rfl
  |false=>show encT t::_=_;rw[ih];rfl
theorem TU:∀{x y:Nat} {t:T},getT p x y=some t->t∈p/\t.x=x/\t.y=y:=by
 induction p with
 |nil=>
  intro _ _ _ e;exact nq e
 |cons h r ih=>
  intro x y t e;dsimp only[getT]at e;split at e
  ·rename_i q;exists e;exists ak ((i3 _ _ _ _).mp q),a,b;exact⟨.head _,a,b⟩
  ·exists ak (ih e),a,b;exact⟨.tail _ a,b⟩
theorem qZ(e:bH h.x h.y t.x t.y=false):setT (h::r) t=h::setT r t:=by
 show(match bH h.x h.y t.x t.y with
  |true=>(⟨h.x,h.y,t.n,t.d⟩:T)::r
  |false=>h::setT r t)=_
 rw[e]
theorem UJ(e:bH h.x h.y x y=false):delT (h::r) x y=h::delT r x y:=by
 show(match bH h.x h.y x y with
  |true=>r
  |false=>h::delT r x y)=_
 rw[e]
theorem addT_eq(p:Po):∀(t:T),addT p t=match getT p t.x t.y with
  |none=>setT p t
  |some h=>match isZ' (addQ h.n h.d t.n t.d).1 with
   |true=>delT p t.x t.y
   |false=>setT p ⟨t.x,t.y,(addQ h.n h.d t.n t.d).1,(addQ h.n h.d t.n t.d).2⟩:=by
 induction p with
 |nil=>
  intro t;exact rfl
 |cons h r ih=>
  intro t;dsimp only[addT,getT]
  induction e:bH h.x h.y t.x t.y using aB with
  |true=>
   dsimp only;unfold addZ
   induction isZ' (addQ h.n h.d t.n t.d).1 using aB with
   |true=>dsimp only;dsimp only[delT];rw[e]
   |false=>dsimp only;unfold setT;dsimp only;rw[e]
  |false=>
   dsimp only;rw[ih t]
   induction getT r t.x t.y using aL with
   |none=>exact(qZ e).symm
   |some g=>
    dsimp only
    induction isZ' (addQ g.n g.d t.n t.d).1 using aB with
    |true=>exact(UJ e).symm
    |false=>
     dsimp only;exact(qZ (t:=⟨t.x,t.y,(addQ g.n g.d t.n t.d).1,(addQ g.n g.d t.n t.d).2⟩) e).symm
theorem Tj(h:¬ (t.x=x/\t.y=y)):getT (addT p t) x y=getT p x y:=by
 induction p with
 |nil=>
  show(match bH t.x t.y x y with
   |true=>some t
   |false=>getT [] x y)=_
  have:bH t.x t.y x y=false:=gS.mpr fun q=>h ((i3 _ _ _ _).mp q);rw[this]
 |cons a r ih=>
  dsimp only[addT]
  induction e:bH a.x a.y t.x t.y using aB with
  |true=>
   exists ak ((i3 _ _ _ _).mp e),e1,e2;have e3:bH a.x a.y x y=false:=gS.mpr fun q=>h (by
    exists ak ((i3 _ _ _ _).mp q),q1,q2;exact⟨e1.symm.trans q1,e2.symm.trans q2⟩)
   dsimp only;unfold addZ;split
   ·rw[getT.eq_2,e3]
   ·rw[getT.eq_2,getT.eq_2];dsimp only;rw[e3]
  |false=>
   dsimp only;rw[getT.eq_2,getT.eq_2];clear e h;induction bH a.x a.y x y using aB with
   |true=>rfl
   |false=>exact ih
theorem Nb:(addZ h r q).length<=r.length+1:=by
 unfold addZ;split <;> simp
theorem OK:(addT p t).length<=p.length+1:=by
 induction p with
 |nil=>exact cx _
 |cons a r ih=>
  dsimp only[addT];split
  ·exact br Nb (by simp)
  ·simpa using ih
noncomputable def WF(H:Hp):Prop:=∀e∈H.es,e.id<H.nxt
theorem Ai:(∀e∈es,e.id<n)->dropNew n es=es:=by
 induction es with
 |nil=>
  intro _;exact rfl
 |cons e r ih=>
  intro h;dsimp only[dropNew];have h1:=h e (.head _);have:b8 n e.id=false:=gS.mpr fun q=>by
   have:=bC q
   lia
  rw[this];dsimp only;rw[ih fun e m=>h e (.tail _ m)]
theorem xg(h:∀e∈es,e.id<n):∀e∈put es k lk o,e.id<n:=fun e m=>by
 have:e.id∈(put es k lk o).map (·.id):=List.mem_map_of_mem m;rw[put_ids]at this;exists ae (cG.mp this),e',m',q;rw[<- q];exact h e' m'
theorem WF.set(h:WF H):WF (setObj H k o):=xg h
theorem WF.new(h:WF H):WF (newObj H o).2:=fun e m=>by
 rcases aI.mp m with rfl|m
 ·exact Nat.lt_succ_self _
 ·exact Nat.lt_succ_of_lt (h e m)
theorem Sz(hn:H'.nxt=H.nxt)(h:WF H'):leave false H H' .none=(.none,H'):=by
 show(V.none,(⟨H'.nxt,dropNew H.nxt H'.es⟩:Hp))=_;rw[Ai (by rw[<- hn];exact h)]
theorem BW(h:WF H):leave false H (setObj H k o) .none=(.none,setObj H k o):=Sz rfl h.set
section
variable {H:Hp} {k:Nat} {l:List (List Int×V)}
noncomputable def bS(H:Hp)(k:Nat)(l:List (List Int×V)):Prop:=look H.es k=some ⟨k,false,.dict l⟩
noncomputable def aq(H:Hp)(k:Nat)(l:List V):Prop:=look H.es k=some ⟨k,false,.list l⟩
theorem bS.view(h:bS H k l):dictView H (.ref k)=some l:=by
 show(match look H.es k with|some e=>(match e.obj with|.dict l=>some l|.list _=>none)|none=>none)=_
 rw[h]
theorem bS.own(h:bS H k l):own H (.ref k)=some (k,.dict l):=by
 show(match look H.es k with|some e=>(match e.lock with|true=>none|false=>some (k,e.obj))|none=>none)=_
 rw[h]
theorem aq.view{l:List V}(h:aq H k l):listView H (.ref k)=some l:=by
 show(match look H.es k with|some e=>(match e.obj with|.list l=>some l|.dict _=>none)|none=>none)=_
 rw[h]
theorem aq.own{l:List V}(h:aq H k l):own H (.ref k)=some (k,.list l):=by
 show(match look H.es k with|some e=>(match e.lock with|true=>none|false=>some (k,e.obj))|none=>none)=_
 rw[h]
theorem vj(h:dictView H v=some l):bu .In (encM x y) v H=some (dget l (bU x y)).isSome:=by
 show(match dictView H v with|some l=>inD l (encM x y)|none=>inS H (encM x y) v)=_
 rw[h];rfl
theorem xk(h:dictView H v=some l):subs H v (encM x y)=dget l (bU x y):=by
 show(match dictView H v with|some l=>subD l (encM x y)|none=>_)=_
 rw[h];rfl
theorem cW{A:Type}{l:List A}(h:l.length<=100000):lenOk l=true:=fj (br h dq)
theorem Se(h:bS H k l)(hl:l.length<=100000)(hg:dget l (bU x y)=some v)(d:V):eC .dpopN (.ref k) [encM x y,d] H=some (v,setObj H k (.dict (ddel l (bU x y)))):=by
 unfold eC;rw[h.own];show guard' (lenOk l) (yI (some d) k l (bU x y) H (dget l (bU x y)))=_;rw[cW hl,hg];rfl
theorem MU(h:bS H k l)(hl:l.length<=100000)(hg:dget l (bU x y)=some v):eC .dpop1 (.ref k) [encM x y] H=some (v,setObj H k (.dict (ddel l (bU x y)))):=by
 unfold eC;rw[h.own];show guard' (lenOk l) (yI none k l (bU x y) H (dget l (bU x y)))=_;rw[cW hl,hg];rfl
theorem uI(h:bS H k l)(hl:l.length<=100000):jb H (.ref k) (encM x y) v=some (setObj H k (.dict (dset l (bU x y) v))):=by
 unfold jb;rw[h.own];show guard' (lenOk l) _=_;rw[cW hl];rfl
theorem Qs(h:bS H k l):fR .dpopN (own H (.ref k))=true:=by rw[h.own];rfl
theorem OS(h:bS H k l):fR .dpop1 (own H (.ref k))=true:=by rw[h.own];rfl
theorem y6(h:n=0->d=1):bu .Eq (aW n d) (V.tup [.int 0,.int 1]) H=some (isZ' n):=by
 show some (match ieq n 0 with
  |true=>(match aF d 1 with
   |true=>true
   |false=>false)
  |false=>false)=_
 rw[ieq_eq,qA];by_cases hn:n=0
 ·rw[h hn,decide_eq_true hn]
 ·rw[decide_eq_false hn]
theorem WX(hd:0<d)(h:(fU n d).1=0):(fU n d).2=1:=by
 unfold fU at h ⊢;split
 ·rfl
 ·rename_i e;rw[e]at h;dsimp only at h;have hg:0<cc n.natAbs d:=Nat.gcd_pos_of_pos_right _ hd;exists aD (natAbs_dvd (Nat.gcd_dvd_left n.natAbs d)),j,hj;have h2:=uF hg hj;have h3:ff n (cc n.natAbs d)=0:=h;rw[h3]at h2;have hn:n=0:=by rw[<- h2,Int.zero_mul]
  clear h3 h2 hj hg e h;subst hn;show d / cc 0 d=1;rw[Nat.gcd_zero_left,Nat.div_self hd]
theorem YQ(h:cM n d)(h':cM n' d')(e:(addQ n d n' d').1=0):(addQ n d n' d').2=1:=by
 unfold addQ at e ⊢;split
 ·rfl
 ·rename_i q;rw[q]at e;exact WX (Nat.mul_pos h.2.1 h'.2.1) e
theorem EM(h:bS H k (aj p))(w:WF H)(hl:p.length<=10000)(hp:∀g,getT p t.x t.y=some g->cM g.n g.d)(ht:cM t.n t.d)(hz:t.n≠0) :
  nt [.ref k,encM t.x t.y,aW t.n t.d] H=some (.none,setObj H k (.dict (aj (addT p t)))):=by
 have hlen:(aj p).length<=100000:=by unfold aj;rw[aJ];lia
 unfold nt Dw Ho;rw[iA,addT_eq];have hi:bu .In (encM t.x t.y) (.ref k) H=some (getT p t.x t.y).isSome:=by
  rw[vj h.view,mN];clear hlen hz ht hp hl w h;induction getT p t.x t.y using aL <;> rfl
 clear hl;induction e:getT p t.x t.y using aL with
 |none=>
  rw[e]at hi;have hr:∀H,bu .Eq (aW t.n t.d) (V.tup [.int 0,.int 1]) H=some false:=fun H=>by
   rw[y6 fun q=>(hz q).elim,qA,decide_eq_false hz]
  simp! only[hi,Option.isSome_none,hr,uI h hlen,td];rw[BW w]
 |some g=>
  rw[e]at hi;have hs:subs H (.ref k) (encM t.x t.y)=some (aW g.n g.d):=by
   rw[xk h.view,mN,e];rfl
  have hg:=hp g e;have hr:∀H,bu .Eq (i8 (addQ g.n g.d t.n t.d)) (V.tup [.int 0,.int 1]) H=some (isZ' (addQ g.n g.d t.n t.d).1):=fun H=>y6 (YQ hg ht);simp! only[hi,Option.isSome_some,hs,Jq hg ht,hr]
  induction isZ' (addQ g.n g.d t.n t.d).1 using aB with
  |true=>
   have hd:dget (aj p) (bU t.x t.y)=some (aW g.n g.d):=by rw[mN,e];rfl
   simp! only[Qs h,Se h hlen hd,EW];rw[BW w]
  |false=>
   simp! only[uI h hlen,i8,td];rw[BW w]
end
end
section
open PySem
section
variable {H:Hp}
theorem wd(p:Po):FLe (aj p):=by
 induction p with
 |nil=>
  exact .nil
 |cons t r ih=>
  exact .cons l6 (ih)
theorem Ub(p:Po):iJ (aj p):=by
 induction p with
 |nil=>
  exact .nil
 |cons t r ih=>
  exact .cons g7 (ih)
theorem dG:NR (.dct (aj p)):=.dct (Ub p)
theorem Br(h:Nd (t::r)):(∀u∈r,¬ (t.x=u.x/\t.y=u.y))/\Nd r:=List.pairwise_cons.mp h
theorem L3:∀{x y:Nat},(∀u∈p,¬ (u.x=x/\u.y=y))->getT p x y=none:=by
 induction p with
 |nil=>
  intro _ _ _;exact rfl
 |cons t r ih=>
  intro x y h;have h1:bH t.x t.y x y=false:=gS.mpr fun q=>h t (.head _) ((i3 _ _ _ _).mp q);rw[getT.eq_2,h1];exact ih fun u m=>h u (.tail _ m)
theorem Dz:Nd p->∀{t:T},t∈p->getT p t.x t.y=some t:=by
 induction p with
 |nil=>
  intro _ _ m;cases m
 |cons a r ih=>
  intro h t m;exists ak (Br h),h1,h2;rcases aI.mp m with rfl|m
  ·rw[getT.eq_2,(i3 _ _ _ _).mpr ⟨rfl,rfl⟩]
  ·have h3:bH a.x a.y t.x t.y=false:=gS.mpr fun q=>h1 t m ((i3 _ _ _ _).mp q);rw[getT.eq_2,h3];exact ih h2 m
theorem GK(h:∀t∈p,q9 t):smallKeys (aj p)=true:=by
 induction p with
 |nil=>rfl
 |cons t r ih=>
  have ht:=h t (.head _);show(match band (b8 t.x 8) (b8 t.y 8)with
   |true=>smallKeys (aj r)
   |false=>false)=true
  rw[fj ht.1,fj ht.2.1];exact ih fun u m=>h u (.tail _ m)
theorem gK:(aj p).length=p.length:=aJ _
theorem wN(h:p.length<=100000):lenOk (aj p)=true:=cW (by rw[gK];exact h)
theorem pQ:iterOf H .seq [.dct (aj p)]=some (p.map fun t=>encM t.x t.y):=by
 show some ((aj p).map fun e=>ofKey e.1)=_;unfold aj;rw[d5];rfl
theorem oH(hp:Nd p)(m:t∈p):subs H (.dct (aj p)) (encM t.x t.y)=some (aW t.n t.d):=by
 rw[xk (l:=aj p) rfl,mN,Dz hp m];rfl
theorem PW(hb:Nd b)(hq:∀t∈b,cM t.n t.d/\t.n≠0):∀(s:Po) (a:Po) (o:Option V),(∀t∈s,t∈b)->Nd s->a.length+s.length<=10000->(∀t∈s,∀g,getT a t.x t.y=some g->cM g.n g.d)->
  ∃o',loopF [3] false (denSs (denS 19) [.expr (.call nt [.var 2,.var 3,.sub (.var 1) (.var 3)])]) (s.map fun t=>encM t.x t.y) (x0::some (.dct (aj b))::some (.ref 0)::o::r) ⟨1,[⟨0,false,.dict (aj a)⟩]⟩ =
   some (.next,x0::some (.dct (aj b))::some (.ref 0)::o'::r,⟨1,[⟨0,false,.dict (aj (addP a s))⟩]⟩):=by
 intro s
 induction s with
 |nil=>intro a o _ _ _ _;exact⟨o,rfl⟩
 |cons t s ih=>
  intro a o hs hn hl hg;exists ak (Br hn),rX,gu;have hl:a.length+(s.length+1)<=10000:=hl;have gc:∀H,subs H (.dct (aj b)) (encM t.x t.y)=some (aW t.n t.d):=fun H=>oH hb (hs t (.head _));have OI:=EM (H:=⟨1,[⟨0,false,.dict (aj a)⟩]⟩) (k:=0) (p:=a) (t:=t) rfl (fun e m=>by cases c7.mp m;exact Nat.zero_lt_one) (by lia) (hg t (.head _)) (hq t (hs t (.head _))).1 (hq t (hs t (.head _))).2;obtain⟨o',e⟩:=ih (addT a t) (some (encM t.x t.y)) (fun u m=>hs u (.tail _ m)) gu (by have:=OK (p:=a) (t:=t);lia) (fun u m g e=>by
   rw[Tj (rX u m)]at e;exact hg u (.tail _ m) g e)
  refine⟨o',?_⟩;rw[aO,fz];simp! only[gc,OI];exact e
theorem Ti(ha:aX a)(hb:aX b):AN [.dct (aj a),.dct (aj b)] ⟨0,[]⟩=some (.ref 0,⟨1,[⟨0,false,.dict (aj (addP a b))⟩]⟩):=by
 unfold AN HZ;rw[dQ];have h1:cw .dict [.dct (aj a)] ⟨0,[]⟩=some (.ref 0,⟨1,[⟨0,false,.dict (aj a)⟩]⟩):=by
  show guard' (band (lenOk (aj a)) (smallKeys (aj a))) _=_;rw[wN (br ha.1 dq),GK ha.2.1];rfl
 obtain⟨o',e⟩:=PW hb.2.2 (fun t m=>⟨(hb.2.1 t m).2.2.1,(hb.2.1 t m).2.2.2⟩) (x0:=some (.dct (aj a))) (r:=cq 14 none) b a none (fun _ m=>m) hb.2.2 (by have:=ha.1;have:=hb.1;lia) (fun t m g e=>(ha.2.1 g (TU e).1).2.2.1);simp only[rep0,rep1]at e;simp! only[h1,pQ,FY];rw[e];simp! only[wZ];rfl
theorem SX(h:frz H av = .dct (aj a))(ha:aX a)(hb:aX b):BV [av,.dct (aj b)] H=some (newObj H (.dict (aj (addP a b)))):=
 Gw (args:=[av,.dct (aj b)]) (by rw[aO,h];exact Ti ha hb) rfl (by rw[aO,h];exact .cons dG (.cons dG .nil)) (wd _)
theorem ve(h:bS H k l)(hl:lenOk l=true):F8 k (encM x y) v H=some (setObj H k (.dict (dset l (bU x y) v))):=by
 show(match own H (.ref k)with
  |some p=>match p with
   |(_,o)=>match o with
    |.dict l=>guard' (lenOk l) (some (setObj H k (.dict (dset l (bU x y) v))))
    |.list _=>none
  |none=>none)=_
 rw[h.own];dsimp only;rw[hl];rfl
theorem uu(h:aq H k l)(hl:lenOk l=true):kz k v H=some (setObj H k (.list (l++[v]))):=by
 unfold kz;rw[h.own];dsimp only;rw[hl];rfl
theorem Ka(h:getT p t.x t.y=none):setT p t=p++[t]:=by
 induction p with
 |nil=>rfl
 |cons a r ih=>
  have h:(match bH a.x a.y t.x t.y with
   |true=>some a
   |false=>getT r t.x t.y)=none:=h
  induction e:bH a.x a.y t.x t.y using aB with
  |true=>rw[e]at h;exact ns h
  |false=>
   rw[e]at h;rw[qZ e,ih h];rfl
theorem Cs(F:T->T):∀(s acc:Po),(∀t∈s,∀acc:List (List Int×V),lenOk acc=true->f (encM t.x t.y) ⟨1,[⟨0,false,.dict acc⟩]⟩=some ⟨1,[⟨0,false,.dict (dset acc (bU (F t).x (F t).y) (aW (F t).n (F t).d))⟩]⟩)->
  Nd (s.map F)->(∀t∈s,getT acc (F t).x (F t).y=none)->acc.length+s.length<=100000->
  forItems f (s.map fun t=>encM t.x t.y) ⟨1,[⟨0,false,.dict (aj acc)⟩]⟩=some ⟨1,[⟨0,false,.dict (aj (acc++s.map F))⟩]⟩:=by
 intro s
 induction s with
 |nil=>intro acc _ _ _ _;rw[List.map_nil,List.map_nil,g4];rfl
 |cons t s ih=>
  intro acc hf hn hg hl;have hl:acc.length+(s.length+1)<=100000:=hl;exists ak (Br hn),rX,gu;rw[aO];show(match f (encM t.x t.y) ⟨1,[⟨0,false,.dict (aj acc)⟩]⟩with
   |some H=>forItems f (s.map fun t:T=>encM t.x t.y) H
   |none=>none)=_
  rw[hf t (.head _) _ (wN (by lia)),td,Ka (t:=⟨(F t).x,(F t).y,(F t).n,(F t).d⟩) (hg t (.head _))];dsimp only;rw[ih (acc++[F t]) (fun u m=>hf u (.tail _ m)) gu (fun u m=>?_) (by rw[d8];show acc.length+1+s.length<=_;lia)]
  ·rw[jt];rfl
  ·exists L3,v,mv,q;rcases l7.mp mv with mv|mv
   ·have:=hg u (.tail _ m);have h3:∀(p:Po) x y,getT p x y=none->∀v∈p,¬ (v.x=x/\v.y=y):=by
     intro p x y
     induction p with
     |nil=>intro _ v m;cases m
     |cons a r ih=>
      intro h v m;have h:(match bH a.x a.y x y with
       |true=>some a
       |false=>getT r x y)=none:=h
      induction e:bH a.x a.y x y using aB with
      |true=>rw[e]at h;exact ns h
      |false=>
       rw[e]at h;rcases aI.mp m with rfl|m
       ·intro q;rw[(i3 _ _ _ _).mpr q]at e;exact bt e
       ·exact ih h v m
    exact h3 _ _ _ this v mv q
   ·cases c7.mp mv;exact rX (F u) (List.mem_map_of_mem m) q
theorem BP(h:forItems f items ⟨1,[⟨0,false,.dict []⟩]⟩=some ⟨1,[⟨0,false,.dict (aj p)⟩]⟩):compGo 0 f items [.dct c] ⟨1,[⟨0,false,.dict []⟩]⟩=some (.ref 0,⟨1,[⟨0,false,.dict (aj p)⟩]⟩):=by
 show dC 0 (unlH _ [.dct c] (forItems f items ⟨1,[⟨0,false,.dict []⟩]⟩))=_;rw[h];rfl
theorem ui(F:T->T)(hF:∀t u,(F t).x=(F u).x/\(F t).y=(F u).y->t.x=u.x/\t.y=u.y)(h:Nd p):Nd (p.map F):=List.Pairwise.map F (fun a b q z=>q (hF a b z)) h
theorem EP(h:Nd p):Nd (p.map negT):=ui negT (fun _ _ q=>q) h
theorem uJ(h:Nd p):Nd (p.map (mulT x y n d)):=ui _ (fun t u q=>by
 have q1:t.x+x=u.x+x:=q.1;have q2:t.y+y=u.y+y:=q.2
 lia) h
theorem QY(hp:Nd p)(hl:p.length<=10000):yj [.dct (aj p)] H=some (.dct (aj (p.map negT)),H):=by
 refine eT (H':=⟨1,[]⟩) ?_ (.cons dG .nil) dG;unfold E0 E4;rw[hO];simp! only[pQ];rw[BP (p:=p.map negT) (Cs negT p [] (fun t m acc ha=>?_) (EP hp) (fun _ _=>rfl) (by show 0+p.length<=_;lia))]
 ·simp! only[];rfl
 ·have gc:∀H,subs H (.dct (aj p)) (encM t.x t.y)=some (aW t.n t.d):=fun H=>oH hp m;simp! only[gc,HQ];exact ve rfl ha
end
end
section
open PySem
def t9(n:Int)(d:Nat)(t:T):T:=let q:=mulQ t.n t.d n d;⟨t.x,t.y,q.1,q.2⟩
noncomputable def leadG(o:Bool)(b:T):Po->T
 |[]=>b
 |t::r=>match gtM o t.x t.y b.x b.y with
  |true=>leadG o t r
  |false=>leadG o b r
def lead(o:Bool)(p:Po):Option T:=match p with
 |[]=>none
 |t::r=>some (leadG o t r)
def bW(t:Option T):V:=match t with
 |none=>.none
 |some t=>.tup [encM t.x t.y,aW t.n t.d]
def lu(o:Bool)(p:Po):Po:=match lead o p with
 |none=>[]
 |some t=>p.map (t9 (invQ t.n t.d).1 (invQ t.n t.d).2)
theorem Jf(o:Bool)(r:Po):∀(b:T),leadG o b r∈b::r:=by
 induction r with
 |nil=>intro b;exact .head _
 |cons t r ih=>
  intro b;show(match gtM o t.x t.y b.x b.y with
   |true=>leadG o t r
   |false=>leadG o b r)∈_
  induction gtM o t.x t.y b.x b.y using aB with
  |true=>exact .tail _ (ih t)
  |false=>
   rcases aI.mp (ih b)with h|h
   ·show leadG o b r∈_;rw[h];exact .head _
   ·exact .tail _ (.tail _ h)
theorem gB(h:lead o p=some t):t∈p:=by
 induction p using aM with
 |nil=>exact nq h
 |cons a r=>exists h;exact Jf o r a
section
variable {H:Hp}
theorem YN(h:aX p):aX (p.map negT):=by
 refine⟨by rw[aJ];exact h.1,fun t m=>?_,EP h.2.2⟩;exists ae (cG.mp m),u,mu,n7;subst n7;exists fu (h.2.1 u mu),a,b,c,d;refine⟨a,b,⟨?_,c.2⟩,fun q=>d ?_⟩
 ·show(-u.n).natAbs<=_;rw[Int.natAbs_neg];exact c.1
 ·have q : -u.n=0:=q
  lia
theorem Kp(h:frz H av = .dct (aj a))(ha:aX a)(hb:aX b):rQ [av,.dct (aj b)] H=some (newObj H (.dict (aj (addP a (b.map negT))))):=by
 have e:z4 [.dct (aj a),.dct (aj b)] ⟨0,[]⟩=some (.ref 0,⟨1,[⟨0,false,.dict (aj (addP a (b.map negT)))⟩]⟩):=by
  unfold z4 Fg;rw[dQ];simp! only[QY hb.2.2 (br hb.1 dq),SX (av:=.dct (aj a)) rfl ha (YN hb)];rfl
 exact Gw (args:=[av,.dct (aj b)]) (by rw[aO,h];exact e) rfl (by rw[aO,h];exact .cons dG (.cons dG .nil)) (wd _)
theorem Ef(h:n≠0):bu .Eq (aW n d) (V.tup [.int 0,.int 1]) H=some false:=by
 rw[y6 fun q=>(h q).elim,qA,decide_eq_false h]
theorem Mj(hp:aX p)(hq:cM n d)(hz:n≠0):BN [.dct (aj p),aW n d] H=some (.dct (aj (p.map (t9 n d))),H):=by
 refine eT (H':=⟨1,[]⟩) ?_ (.cons dG (.cons g7 .nil)) dG;unfold He G9;rw[dQ];simp! only[pQ,Ef hz];rw[BP (p:=p.map (t9 n d)) (Cs (t9 n d) p [] (fun t m acc ha=>?_) (ui _ (fun _ _ q=>q) hp.2.2) (fun _ _=>rfl) (by show 0+p.length<=_;have:=hp.1;lia))]
 ·simp! only[];rfl
 ·have gc:∀H,subs H (.dct (aj p)) (encM t.x t.y)=some (aW t.n t.d):=fun H=>oH hp.2.2 m;simp! only[gc,y3 (hp.2.1 t m).2.2.1 hq];exact ve rfl ha
theorem CT(hp:aX p)(hq:cM n d)(hz:n≠0):oO [.dct (aj p),encM x y,aW n d] H=some (.dct (aj (p.map (mulT x y n d))),H):=by
 refine eT (H':=⟨1,[]⟩) ?_ (.cons dG (.cons eR (.cons g7 .nil))) dG;unfold Ke FP;rw[iA];simp! only[pQ,Ef hz];rw[BP (p:=p.map (mulT x y n d)) (Cs (mulT x y n d) p [] (fun t m acc ha=>?_) (uJ hp.2.2) (fun _ _=>rfl) (by show 0+p.length<=_;have:=hp.1;lia))]
 ·simp! only[];rfl
 ·have gc:∀H,subs H (.dct (aj p)) (encM t.x t.y)=some (aW t.n t.d):=fun H=>oH hp.2.2 m;simp! only[gc,y3 (hp.2.1 t m).2.2.1 hq,Yy];exact ve rfl ha
theorem is_none:bu .Is v .none H=some (isNone v):=rfl
theorem Ak:isNone (encM x y)=false:=rfl
theorem RX:isNone (.tup l)=false:=rfl
def CP:List MS:=[.assign 5 (.call jX [.var 1,.var 4]),.if_ (.eU [.cmp .Is (.var 2) (.const .none),.cmp .Gt (.var 5) (.var 3)]) [.unpack [2,3] (.tup [.var 4,.var 5])] []]
theorem Th(o:Od):∀(s:Po) (b:T) (o4 o5:Option V),(∀t∈s,t.x<=1000/\t.y<=1000)->
  ∃jU nk,loopF [4] false (denSs (denS 19) CP) (s.map fun t=>encM t.x t.y) (x0::some (aK o)::some (encM b.x b.y)::some (keyV o b.x b.y)::o4::o5::r) H =
   some (.next,x0::some (aK o)::some (encM (leadG (gr o) b s).x (leadG (gr o) b s).y)::some (keyV o (leadG (gr o) b s).x (leadG (gr o) b s).y)::jU::nk::r,H):=by
 intro s
 induction s with
 |nil=>intro b o4 o5 _;exact⟨o4,o5,rfl⟩
 |cons t s ih=>
  intro b o4 o5 hs;have ht:=hs t (.head _);rw[aO,fz];unfold CP;simp! only[vT ht.1 ht.2,is_none,Ak,DQ,leadG]
  induction gtM (gr o) t.x t.y b.x b.y using aB with
  |true=>
   simp! only[];exact ih t _ _ fun u m=>hs u (.tail _ m)
  |false=>
   simp! only[];exact ih b _ _ fun u m=>hs u (.tail _ m)
theorem Oc(hp:Nd p)(hs:∀t∈p,t.x<=1000/\t.y<=1000):B4 [.dct (aj p),aK o] ⟨0,[]⟩=some (bW (lead (gr o) p),⟨0,[]⟩):=by
 unfold B4 Ga;rw[dQ];simp! only[pQ,FY]
 induction p using aM with
 |nil=>
  simp! only[List.map_nil,wZ,is_none];rfl
 |cons t s=>
  have ht:=hs t (.head _);exists d7 (Th (H:=⟨0,[]⟩) o (x0:=some (.dct (aj (t::s)))) (r:=cq 14 none) s t (some (encM t.x t.y)) (some (keyV o t.x t.y)) fun u m=>hs u (.tail _ m)),o4,o5,e;unfold CP at e;simp only[rep0,rep1]at e;have hm:leadG (gr o) t s∈t::s:=Jf _ _ _;have gc:∀H,subs H (.dct (aj (t::s))) (encM (leadG (gr o) t s).x (leadG (gr o) t s).y)=some (aW (leadG (gr o) t s).n (leadG (gr o) t s).d):=fun H=>oH hp hm;rw[aO];simp! only[vT ht.1 ht.2,is_none,show isNone V.none=true from rfl];rw[e];simp! only[wZ,is_none,Ak,gc];rfl
theorem Iv:∀{t:Option T},FL (bW t)
 |none=>.none
 |some _=>.tup (.cons lO (.cons l6 .nil))
theorem ji(h:frz H av = .dct (aj p))(hp:Nd p)(hs:∀t∈p,t.x<=1000/\t.y<=1000):cV [av,aK o] H=some (bW (lead (gr o) p),H):=by
 have hz:frz H (aK o)=aK o:=vn fb;exact dX (args:=[av,aK o]) (by rw[aO,aO,h,hz];exact Oc hp hs) (by rw[aO,aO,h,hz];exact .cons dG (.cons fb .nil)) Iv
theorem jL(h:aX p):∀t∈p,t.x<=1000/\t.y<=1000:=fun t m=>⟨br (h.2.1 t m).1 dq,br (h.2.1 t m).2.1 dq⟩
theorem Tt(hp:aX p)(hq:∀t,lead (gr o) p=some t->cM (invQ t.n t.d).1 (invQ t.n t.d).2/\(invQ t.n t.d).1≠0):jn [.dct (aj p),aK o] H=some (.dct (aj (lu (gr o) p)),H):=by
 have e:∃H',wA [.dct (aj p),aK o] ⟨0,[]⟩=some (.dct (aj (lu (gr o) p)),H'):=by
  unfold wA Fo;rw[dQ];simp! only[ji (av:=.dct (aj p)) rfl hp.2.2 (jL hp)];unfold lu
  induction e:lead (gr o) p using aL with
  |none=>
   simp! only[bW,is_none,show isNone V.none=true from rfl];exact⟨_,rfl⟩
  |some t=>
   exists ak (hq t e),q1,q2;have ht:=(hp.2.1 t (gB e)).2.2;simp! only[bW,is_none,RX,show ∀H,subs H (V.tup [encM t.x t.y,aW t.n t.d]) (.int 1)=some (aW t.n t.d)from fun _=>rfl,yu ht.1 ht.2,i8,Mj hp q1 q2];exact⟨_,rfl⟩
 exists aD e,H',e;exact eT e (.cons dG (.cons fb .nil)) dG
end
end
section
open PySem
theorem yW(h:a≠b):aF a b=false:=gS.mpr fun q=>h (cY q)
theorem iC:look (⟨k,lk,o⟩::es) k=some ⟨k,lk,o⟩:=by
 show(match aF k k with
  |true=>some (⟨k,lk,o⟩:Ent)
  |false=>look es k)=_
 rw[eu]
theorem dm(h:k≠j):look (⟨k,lk,o⟩::es) j=look es j:=by
 show(match aF k j with
  |true=>some (⟨k,lk,o⟩:Ent)
  |false=>look es j)=_
 rw[yW h]
theorem jd:put (⟨k,lk,o⟩::es) k lk' o'=⟨k,lk',o'⟩::es:=by
 show(match aF k k with
  |true=>(⟨k,lk',o'⟩:Ent)::es
  |false=>_::put es k lk' o')=_
 rw[eu]
theorem eQ(h:k≠j):put (⟨k,lk,o⟩::es) j lk' o'=⟨k,lk,o⟩::put es j lk' o':=by
 show(match aF k j with
  |true=>(⟨j,lk',o'⟩:Ent)::es
  |false=>_::put es j lk' o')=_
 rw[yW h]
theorem eH:j≠k->look (put es k lk o) j=look es j:=by
 induction es with
 |nil=>
  intro _;exact rfl
 |cons e0 r ih=>
  obtain⟨i,l,p⟩:=e0;intro h;by_cases e:i=k
  ·subst e;rw[jd,dm (fun q=>h q.symm),dm (fun q=>h q.symm)]
  ·rw[eQ e];by_cases e2:i=j
   ·subst e2;rw[iC,iC]
   ·rw[dm e2,dm e2];exact ih h
theorem m7:look es k=some e->look (put es k lk o) k=some ⟨k,lk,o⟩:=by
 induction es with
 |nil=>
  intro h;exact nq h
 |cons e0 r ih=>
  obtain⟨i,l,p⟩:=e0;intro h;by_cases q:i=k
  ·subst q;rw[jd,iC]
  ·rw[eQ q,dm q];rw[dm q]at h;exact ih h
theorem nK:look es k=some ⟨k,lk,o⟩->put es k lk o=es:=by
 induction es with
 |nil=>
  intro h;exact nq h
 |cons e0 r ih=>
  obtain⟨i,l,p⟩:=e0;intro h;by_cases q:i=k
  ·subst q;rw[iC]at h;cases h;exact jd
  ·rw[dm q]at h;rw[eQ q,ih h]
section
variable {H:Hp} {k:Nat}
theorem cP(w:WF H)(h:look H.es k=some e):k<H.nxt:=by
 exists ak (fI h),m,q;rw[<- q];exact w e m
theorem fD(w:WF H)(h:look H.es k=some e):look (newObj H o).2.es k=some e:=by
 have:=cP w h;exact(dm (Ne.symm (eV this))).trans h
theorem bS.new(w:WF H)(h:bS H k l):bS (newObj H o).2 k l:=fD w h
theorem aq.new(w:WF H)(h:aq H k l):aq (newObj H o).2 k l:=fD w h
theorem bS.c8:bS (newObj H (.dict l)).2 H.nxt l:=iC
theorem aq.c8:aq (newObj H (.list l)).2 H.nxt l:=iC
theorem bS.set(h:bS H k l)(q:k≠j):bS (setObj H j o) k l:=(eH q).trans h
theorem aq.set(h:aq H k l)(q:k≠j):aq (setObj H j o) k l:=(eH q).trans h
theorem bS.fW(h:bS H k l):bS (setObj H k (.dict l')) k l':=m7 h
theorem aq.fW(h:aq H k l):aq (setObj H k (.list l')) k l':=m7 h
theorem bS.ne(h:bS H k l)(h':aq H j l'):j≠k:=fun q=>by
 subst q;have h:look H.es j=_:=h;have h':look H.es j=_:=h';exact bf (aH (congrArg (Option.map fun e:Ent=>e.obj.rec (motive:=fun _=>Bool) (fun _=>true) fun _=>false) (h.symm.trans h')))
theorem bS.frz(h:bS H k l):frz H (.ref k) = .dct l:=by
 show(match look H.es k with|some e=>(match e.obj with|.list l=>V.lst l|.dict l=>.dct l)|none=>.ref k)=_
 rw[h]
theorem aq.frz(h:aq H k l):frz H (.ref k) = .lst l:=by
 show(match look H.es k with|some e=>(match e.obj with|.list l=>V.lst l|.dict l=>.dct l)|none=>.ref k)=_
 rw[h]
theorem xQ:setObj ⟨n,⟨k,lk,o⟩::es⟩ k o'=⟨n,⟨k,false,o'⟩::es⟩:=by
 show(⟨n,put _ k false o'⟩:Hp)=_;rw[jd]
theorem aq.hd:aq ⟨n,⟨k,false,.list l⟩::es⟩ k l:=iC
theorem bS.hd:bS ⟨n,⟨k,false,.dict l⟩::es⟩ k l:=iC
theorem dK{A:Type}{f:V->Hp->Option Hp}{enc:A->V}{n:Nat}{es:List Ent}(F:A->List V):∀(s:List A) (acc:List V),(∀a∈s,∀acc:List V,acc.length<=90000->f (enc a) ⟨n,⟨k,false,.list acc⟩::es⟩=some ⟨n,⟨k,false,.list (acc++F a)⟩::es⟩)->
  acc.length+(s.flatMap F).length<=90000->forItems f (s.map enc) ⟨n,⟨k,false,.list acc⟩::es⟩=some ⟨n,⟨k,false,.list (acc++s.flatMap F)⟩::es⟩:=by
 intro s
 induction s with
 |nil=>intro acc _ _;simp only[List.map_nil,List.flatMap_nil,g4];rfl
 |cons a s ih=>
  intro acc hf hl;rw[iT,d8]at hl;rw[aO,iT];show(match f (enc a) ⟨n,⟨k,false,.list acc⟩::es⟩with
   |some H=>forItems f (s.map enc) H
   |none=>none)=_
  rw[hf a (.head _) acc (Nat.le_of_add_right_le hl)];dsimp only;rw[ih (acc++F a) (fun b m=>hf b (.tail _ m)) (by rw[d8];lia),jt]
theorem dg(hl:l.length<=90000):kz k v ⟨n,⟨k,false,.list l⟩::es⟩=some ⟨n,⟨k,false,.list (l++[v])⟩::es⟩:=by
 rw[uu aq.hd (cW (by lia)),xQ]
noncomputable def Bv(bv:V)(l:List V)(H:Hp):Prop:=bv = .lst l\/(bv = .ref 0/\look H.es 0=some ⟨0,true,.list l⟩)
theorem Bv.view(h:Bv bv l H):listView H bv=some l:=by
 rcases h with rfl|⟨rfl,h⟩
 ·rfl
 ·show(match look H.es 0 with|some e=>(match e.obj with|.list l=>some l|.dict _=>none)|none=>none)=_
  rw[h]
theorem Bv.seq(h:Bv bv l H):seqView H bv=some l:=by
 have:=h.view;rcases h with rfl|⟨rfl,h⟩ <;> exact this
theorem Bv.it(h:Bv bv l H):iterOf H .seq [bv]=some l:=by
 show(match seqView H bv with|some l=>some l|none=>_)=_;rw[h.seq]
theorem vR(h:look es n=some e):cN es (.ref n)=put es n true e.obj:=by
 unfold cN;dsimp only;rw[h]
theorem s6(h0:look dU n=some e)(h:look es n=some f):gT dU es (.ref n)=put es n e.lock f.obj:=by
 show vI es n (look dU n) (look es n)=_;rw[h0,h];rfl
theorem Bv.lock(h:Bv bv l H):lockH H [bv]=H:=by
 rcases h with rfl|⟨rfl,h⟩
 ·rfl
 ·show(⟨H.nxt,cN H.es (.ref 0)⟩:Hp)=_;unfold cN;dsimp only;rw[h];dsimp only;rw[nK h]
theorem Bv.kP(h:Bv bv l H)(h':Bv bv l H'):(⟨H'.nxt,eD H.es H'.es [bv]⟩:Hp)=H':=by
 rcases h with rfl|⟨rfl,h⟩
 ·rfl
 ·rcases h' with q|⟨_,h'⟩
  ·cases q
  show(⟨H'.nxt,vI H'.es 0 (look H.es 0) (look H'.es 0)⟩:Hp)=_;rw[h,h'];show(⟨H'.nxt,put H'.es 0 _ _⟩:Hp)=_;rw[nK h']
theorem Bv.new(h:Bv bv l H)(w:WF H):Bv bv l (newObj H o).2:=h.imp id fun q=>⟨q.1,fD w q.2⟩
theorem Bv.set(h:Bv bv l H)(q:j≠0):Bv bv l (setObj H j o):=h.imp id fun z=>⟨z.1,(eH fun e=>q e.symm).trans z.2⟩
theorem Bv.hd(h:Bv bv l ⟨n,es⟩)(q:e.id≠0):Bv bv l ⟨n+1,e::es⟩:=h.imp id fun z=>⟨z.1,(dm (k:=e.id) q).trans z.2⟩
noncomputable def firstD(x y:Nat):Nat->List (Option T)->Option (Nat×T)
 |_,[]=>none
 |i,l::r=>match l with
  |none=>firstD x y (Nat.succ i) r
  |some t=>match dvd' t.x t.y x y with
   |true=>some (i,t)
   |false=>firstD x y (Nat.succ i) r
noncomputable def lX:Option (Nat×T)->V
 |none=>.int (-1)
 |some q=>.int (.ofNat q.1)
def wt:List MS:=[.if_ (.kS [.cmp .IsNot (.var 3) (.const .none),.call oU [.sub (.var 3) (.const (.int 0)),.var 0]]) [.ret (.var 2)] []]
theorem Gp:bu .IsNot v .none H=some (!isNone v):=rfl
end
end
section
open PySem
section
variable {H:Hp}
theorem ly:subs H (bW (some t)) (V.int 0)=some (encM t.x t.y):=rfl
theorem Ju:subs H (bW (some t)) (V.int 1)=some (aW t.n t.d):=rfl
theorem KU:isNone (bW (some t))=false:=rfl
noncomputable def xD(ρ:ai)(H:Hp):Option (Nat×T)->Option (Fl×ai×Hp)
 |none=>some (.next,ρ,H)
 |some q=>some (.ret (.int (.ofNat q.1)),ρ,H)
theorem Xk:∀(ls:List (Option T)) (i:Nat) (o2 o3:Option V),
  ∃ρ,loopF [2,3] true (denSs (denS 19) wt) (enumL (Int.ofNat i) (ls.map bW)) (some (encM x y)::x1::o2::o3::r) H=xD ρ H (firstD x y i ls):=by
 intro ls
 induction ls with
 |nil=>intro i o2 o3;exact⟨_,rfl⟩
 |cons l ls ih=>
  intro i o2 o3;exists aD (ih (i+1) (some (.int (.ofNat i))) (some (bW l))),ρ,e;rw[aO];show ∃ρ,loopF _ _ _ (V.tup [.int (.ofNat i),bW l]::enumL (Int.ofNat (i+1)) (ls.map bW)) _ _=_;rw[fz];dsimp only[wt,firstD];unfold wt at e
  induction l using aL with
  |none=>
   simp! only[Gp,show isNone (bW none)=true from rfl,Bool.not_true];exact⟨ρ,e⟩
  |some t=>
   simp! only[Gp,KU,Bool.not_false,ly,Et]
   induction dvd' t.x t.y x y using aB with
   |true=>
    simp! only[];exact⟨_,rfl⟩
   |false=>
    simp! only[];exact⟨ρ,e⟩
theorem VK:NR (bW t):=Iv.nr
theorem Xj{ls:List (Option T)}:NRs (ls.map bW):=by
 induction ls with
 |nil=>
  exact .nil
 |cons _ _ ih=>
  exact .cons VK ih
theorem TN:yB [encM x y,.lst (ls.map bW)] ⟨0,[]⟩=some (lX (firstD x y 0 ls),⟨0,[]⟩):=by
 unfold yB Jp;rw[dQ];have it:∀H,iterOf H .enum [.lst (ls.map bW)]=some (enumL (Int.ofNat 0) (ls.map bW)):=fun _=>rfl;simp! only[it,sG];exists aD (Xk (H:=⟨0,[]⟩) (x:=x) (y:=y) (x1:=some (.lst (ls.map bW))) (r:=cq 14 none) ls 0 none none),ρ,e;unfold wt at e;simp only[rep0,rep1]at e;rw[e]
 induction firstD x y 0 ls using aL with
 |none=>
  simp! only[xD,mW];rfl
 |some q=>
  simp! only[xD,mW];rfl
theorem U0:FL (lX q):=by induction q using aL <;> exact .int _
theorem E3(h:frz H lv = .lst (ls.map bW)):pC [encM x y,lv] H=some (lX (firstD x y 0 ls),H):=
 dX (args:=[encM x y,lv]) (by rw[aO,aO,h];exact TN) (by rw[aO,aO,h];exact .cons eR (.cons (.lst Xj) .nil)) U0
noncomputable def pd(m:Nat×Nat):T:=⟨m.1,m.2,1,1⟩
def encN(m:Nat×Nat):V:=encM m.1 m.2
noncomputable def anyD(x y:Nat):List (Nat×Nat)->Bool
 |[]=>false
 |l::r=>match dvd' l.1 l.2 x y with
  |true=>true
  |false=>anyD x y r
theorem XX(ls:List (Nat×Nat)):∀(i:Nat),(firstD x y i (ls.map fun l=>some (pd l))).isSome=anyD x y ls:=by
 induction ls with
 |nil=>
  intro _;exact rfl
 |cons l r ih=>
  intro i;rw[aO];show(match dvd' l.1 l.2 x y with
   |true=>some (i,pd l)
   |false=>firstD x y (Nat.succ i) (r.map fun l=>some (pd l))).isSome=(match dvd' l.1 l.2 x y with
   |true=>true
   |false=>anyD x y r)
  induction dvd' l.1 l.2 x y using aB with
  |true=>rfl
  |false=>exact ih (Nat.succ i)
theorem ES{ls:List (Nat×Nat)}:NRs (ls.map encN):=by
 induction ls with
 |nil=>
  exact .nil
 |cons _ _ ih=>
  exact .cons eR ih
theorem jc(h:forItems f items ⟨n,⟨k,false,.list []⟩::es⟩=some ⟨n,⟨k,false,.list l⟩::es⟩):compGo k f items [.lst c] ⟨n,⟨k,false,.list []⟩::es⟩=some (.ref k,⟨n,⟨k,false,.list l⟩::es⟩):=by
 show dC k (unlH _ [.lst c] (forItems f items ⟨n,⟨k,false,.list []⟩::es⟩))=_;rw[h];rfl
theorem Vm(h:forItems f items ⟨n,⟨k,false,.list []⟩::es⟩=some ⟨n,⟨k,false,.list l⟩::es⟩):compGo k f items [.tup c] ⟨n,⟨k,false,.list []⟩::es⟩=some (.ref k,⟨n,⟨k,false,.list l⟩::es⟩):=by
 show dC k (unlH _ [.tup c] (forItems f items ⟨n,⟨k,false,.list []⟩::es⟩))=_;rw[h];rfl
theorem M9(h:forItems f items ⟨n,⟨k,false,.list []⟩::es⟩=some ⟨n,⟨k,false,.list l⟩::es⟩):compGo k f items [.dct c] ⟨n,⟨k,false,.list []⟩::es⟩=some (.ref k,⟨n,⟨k,false,.list l⟩::es⟩):=by
 show dC k (unlH _ [.dct c] (forItems f items ⟨n,⟨k,false,.list []⟩::es⟩))=_;rw[h];rfl
theorem eN{A B:Type}(g:A->B)(s:List A):s.flatMap (fun a=>[g a])=s.map g:=by
 induction s with
 |nil=>rfl
 |cons a s ih=>rw[iT,aO,ih];rfl
theorem eY{A B:Type}(g:A->B)(s:List A):(s.flatMap (fun a=>[g a])).length=s.length:=by rw[eN,aJ]
theorem aam(hl:ls.length<=1000):wy [encM x y,.lst (ls.map encN)] ⟨0,[]⟩=some (.bool (anyD x y ls),⟨1,[]⟩):=by
 unfold wy J3;rw[dQ];have it:∀H,iterOf H .seq [.lst (ls.map encN)]=some (ls.map encN):=fun _=>rfl;simp! only[it];rw[jc (l:=(ls.map fun l=>some (pd l)).map bW) (by
  have:=dK (k:=0) (n:=1) (es:=[]) (enc:=encN) (f:=turn (den 16) [3] false [] (ck 0 (.tup [.var 3,.const (V.tup [.int 1,.int 1])]) (den 16)) (some (encM x y)::some (.lst (ls.map encN))::cq 14 none)) (fun l=>[bW (some (pd l))]) ls [] (fun a m acc ha=>by
   simp! only[rep0,rep1];exact dg ha) (by rw[eY];show 0+ls.length<=_;lia)
  rw[eN,dp]at this;simp only[rep0,rep1]at this;rw[d5];exact this)]
 simp! only[E3 (aq.hd.frz)];rw[<- XX ls 0]
 induction firstD x y 0 (ls.map fun l=>some (pd l))using aL with
 |none=>rfl
 |some q=>rfl
theorem A1(hl:ls.length<=1000)(h:frz H lv = .lst (ls.map encN)):pN [encM x y,lv] H=some (.bool (anyD x y ls),H):=
 dX (args:=[encM x y,lv]) (by rw[aO,aO,h];exact aam hl) (by rw[aO,aO,h];exact .cons eR (.cons (.lst ES) .nil)) (.bool _)
end
end
section
open PySem
def bndQ(n:Int)(d:Nat):Bool:=match b8 n.natAbs 1000000000 with
 |true=>match b8 1 d with
  |true=>match b8 d 1000 with
   |true=>match isZ' n with
    |true=>false
    |false=>true
   |false=>false
  |false=>false
 |false=>false
def uK(t:T):Bool:=match b8 t.x 8 with
 |true=>match b8 t.y 8 with
  |true=>bndQ t.n t.d
  |false=>false
 |false=>false
noncomputable def bndL:Po->Bool
 |[]=>true
 |t::r=>match uK t with
  |true=>bndL r
  |false=>false
def iG(p:Po):Bool:=match bndL p with
 |true=>b8 p.length 1000
 |false=>false
theorem n8(h:bndQ n d=true):cM n d/\n≠0:=by
 unfold bndQ at h;split at h
 ·rename_i h1;split at h
  ·rename_i h2;split at h
   ·rename_i h3;split at h
    ·exact bf h
    ·rename_i h4;rw[qA]at h4;exact⟨⟨bC h1,bC h2,bC h3⟩,by simpa using h4⟩
   ·exact bf h
  ·exact bf h
 ·exact bf h
theorem Jz(h:uK t=true):q9 t:=by
 unfold uK at h;split at h
 ·rename_i h1;exists kb2 h,h2,h
  ·exact⟨bC h1,bC h2,(n8 h).1,(n8 h).2⟩
 ·exact bf h
theorem Yi:bndL p=true->∀t∈p,q9 t:=by
 induction p with
 |nil=>
  intro _ _ m;cases m
 |cons a r ih=>
  intro h t m;exists kb2 h,h1,h
  ·rcases aI.mp m with rfl|m
   ·exact Jz h1
   ·exact ih h t m
theorem km(h:iG p=true)(hn:Nd p):aX p:=by
 exists kb2 h,h1,h
 ·exact⟨bC h,Yi h1,hn⟩
noncomputable def pk(p:Po)(x y:Nat):Prop:=∃v∈p,v.x=x/\v.y=y
theorem rG:Nd (t::r)↔¬ pk r t.x t.y/\Nd r:=by
 unfold Nd;rw[List.pairwise_cons];refine and_congr ⟨fun h ⟨v,m,a,b⟩=>h v m ⟨a.symm,b.symm⟩,fun h v m q=>h ⟨v,m,q.1.symm,q.2.symm⟩⟩ Iff.rfl
theorem mM:pk (a::r) x y↔(a.x=x/\a.y=y)\/pk r x y:=by
 unfold pk;simp only[aI];constructor
 ·rintro ⟨v,rfl|m,q⟩
  ·exact .inl q
  ·exact .inr ⟨v,m,q⟩
 ·rintro (q|⟨v,m,q⟩)
  ·exact⟨a,.inl rfl,q⟩
  ·exact⟨v,.inr m,q⟩
theorem Yw(h:pk (setT p t) x y):pk p x y\/(t.x=x/\t.y=y):=by
 induction p with
 |nil=>
  rcases mM.mp h with q|⟨v,m,_⟩
  ·exact .inr q
  ·clear h;cases m
 |cons a r ih=>
  induction e:bH a.x a.y t.x t.y using aB with
  |true=>
   have:setT (a::r) t=⟨a.x,a.y,t.n,t.d⟩::r:=by dsimp only[setT];rw[e]
   rw[this]at h;clear this e ih;rcases mM.mp h with q|q
   ·exact .inl (mM.mpr (.inl q))
   ·exact .inl (mM.mpr (.inr q))
  |false=>
   rw[qZ e]at h;clear e;rcases mM.mp h with q|h
   ·exact .inl (mM.mpr (.inl q))
   ·exact(ih h).imp (fun q=>mM.mpr (.inr q)) id
theorem tY(h:Nd p):Nd (setT p t):=by
 induction p with
 |nil=>exact rG.mpr ⟨(fun⟨v,m,_⟩=>by clear h;cases m),List.Pairwise.nil⟩
 |cons a r ih=>
  exists ak (rG.mp h),h1,h2;clear h;cases e:bH a.x a.y t.x t.y with
  |true=>
   have:setT (a::r) t=⟨a.x,a.y,t.n,t.d⟩::r:=by dsimp only[setT];rw[e]
   rw[this];exact rG.mpr ⟨h1,h2⟩
  |false=>
   rw[qZ e];refine rG.mpr ⟨fun q=>?_,ih h2⟩;rcases Yw q with q|q
   ·exact h1 q
   ·rw[(i3 _ _ _ _).mpr ⟨q.1.symm,q.2.symm⟩]at e;exact bt e
theorem wX(x y:Nat)(p:Po):(delT p x y).Sublist p:=by
 induction p with
 |nil=>exact .slnil
 |cons a r ih=>
  show List.Sublist (match bH a.x a.y x y with
   |true=>r
   |false=>a::delT r x y) _
  induction bH a.x a.y x y using aB with
  |true=>exact .cons _ (List.Sublist.refl r)
  |false=>exact List.Sublist.cons_cons _ ih
theorem JV(h:Nd p):Nd (delT p x y):=List.Pairwise.sublist (wX x y p) h
theorem Ur(h:aX p):aX (delT p x y):=⟨br (wX x y p).length_le h.1,fun t m=>h.2.1 t ((wX x y p).subset m),JV h.2.2⟩
theorem Sq(h:Nd p):Nd (addT p t):=by
 rw[addT_eq]
 induction getT p t.x t.y using aL with
 |none=>exact tY h
 |some g=>
  dsimp only;split
  ·exact JV h
  ·exact tY h
theorem Bm:∀{b a:Po},Nd a->Nd (addP a b)
 |[],_,h=>h
 |t::r,a,h=>Bm (b:=r) (Sq (t:=t) h)
theorem GZ:(setT p t).length<=p.length+1:=by
 induction p with
 |nil=>exact cx _
 |cons a r ih=>
  dsimp only[setT];split
  ·simp
  ·simpa using ih
section
variable (bs:List Po) (ls:List (Option T)) (go:List Po->Po->Po->Option Po) (qs:List Po) (rest left:Po)
def CJ(i:Nat)(q:Po)(sx sy:Nat)(f:Int×Nat)(ig:Po):Option Po:=match iG ig with
 |true=>go (qs.set i (q++[⟨sx,sy,f.1,f.2⟩])) rest ig
 |false=>none
def Cq(i:Nat)(q:Po)(sx sy:Nat)(f:Int×Nat)(s:Po):Option Po:=match iG s with
 |true=>CJ go qs rest i q sx sy f (addP left (s.map negT))
 |false=>none
def BY(i:Nat)(g q:Po)(sx sy:Nat)(f:Int×Nat):Option Po:=match bndQ f.1 f.2 with
 |true=>Cq go qs rest left i q sx sy f (g.map (mulT sx sy f.1 f.2))
 |false=>none
def divC(t:T)(i:Nat)(l:T):Option Po:=match bs[i]? with
 |none=>none
 |some g=>match qs[i]? with
  |none=>none
  |some q=>match getT q (Nat.sub t.x l.x) (Nat.sub t.y l.y)with
   |some _=>none
   |none=>BY go qs rest left i g q (Nat.sub t.x l.x) (Nat.sub t.y l.y) (divQ t.n t.d l.n l.d)
def y8(t:T)(d:Option (Nat×T)):Option Po:=match d with
 |none=>go qs (setT rest t) (delT left t.x t.y)
 |some d=>divC bs go qs rest left t d.1 d.2
def uO(t:Option T):Option Po:=match t with
 |none=>some rest
 |some t=>y8 bs go qs rest left t (firstD t.x t.y 0 ls)
end
noncomputable def kC(o:Bool)(bs:List Po)(ls:List (Option T)):Nat->List Po->Po->Po->Option Po
 |0,_,_,_=>none
 |k+1,qs,rest,left=>uO bs ls (kC o bs ls k) qs rest left (lead o left)
def restOf(o:Bool)(f:Po)(bs:List Po):Option Po:=kC o bs (bs.map (lead o)) 100 (bs.map fun _=>[]) [] f
set_option tactic.hygienic true in
theorem IX:∀{i:Nat} {q:Nat×T},firstD x y i ls=some q->i<=q.1/\ls[q.1 - i]?=some (some q.2)/\q.2.x<=x/\q.2.y<=y:=by
 induction ls with
 |nil=>
  intro _ _ h;exact nq h
 |cons l r ih=>
  intro i q h;dsimp only[firstD]at h;have tail:firstD x y (Nat.succ i) r=some q->i<=q.1/\(l::r)[q.1 - i]?=some (some q.2)/\q.2.x<=x/\q.2.y<=y:=fun h=>by
   exists fu (ih h),a,b,c,d;have a:i+1<=q.1:=a;refine⟨by lia,?_,c,d⟩;have:q.1 - i=(q.1 - Nat.succ i)+1:=by lia
   rw[this];simpa using b
  split at h
  ·exact tail h
  ·rename_i t;split at h
   ·rename_i hd
    (clear tail;injections h)
    exists kb2 hd,h1,hd
    ·exact⟨cx _,by simp,bC h1,bC hd⟩
   ·exact tail h
end
section
open PySem
structure DI (n0:Nat) (bv:V) (bs:List Po) (ls:List (Option T)) (L QL R F:Nat) (qi:List Nat) (qs:List Po) (rest left:Po) (H:Hp):Prop where
 wf:WF H
 b:Bv bv (bs.map fun p=>.dct (aj p)) H
 l:aq H L (ls.map bW)
 ql:aq H QL (qi.map V.ref)
 q:∀(i j:Nat) (p:Po),qi[i]?=some j->qs[i]?=some p->bS H j (aj p)
 r:bS H R (aj rest)
 f:bS H F (aj left)
 nq:qi.Nodup
 len:qi.length=qs.length
 qr:R ∉ qi
 qf:F ∉ qi
 rf:R≠F
 lo:n0<=QL/\n0<=R/\∀j∈qi,n0<=j
section
variable {n0:Nat} {bv:V} {bs:List Po} {ls:List (Option T)} {L QL R F:Nat} {qi:List Nat} {qs:List Po} {rest left:Po} {H:Hp}
theorem Bv.Bo(h:Bv bv l H)(hd:bS H j d):Bv bv l (setObj H j o):=by
 rcases h with rfl|⟨rfl,h⟩
 ·exact .inl rfl
 ·refine .inr ⟨rfl,(eH fun e=>?_).trans h⟩;subst e;have hd:look H.es 0=_:=hd;rw[h]at hd;cases hd
theorem DI.new(D:DI n0 bv bs ls L QL R F qi qs rest left H)(o:bq):DI n0 bv bs ls L QL R F qi qs rest left (newObj H o).2:=
 ⟨D.wf.new,D.b.new D.wf,D.l.new D.wf,D.ql.new D.wf,fun i j p a b=>(D.q i j p a b).new D.wf,D.r.new D.wf,D.f.new D.wf,D.nq,D.len,D.qr,D.qf,D.rf,D.lo⟩
theorem DI.Qn(D:DI n0 bv bs ls L QL R F qi qs rest left H)(FJ:Po):DI n0 bv bs ls L QL R F qi qs FJ left (setObj H R (.dict (aj FJ))):=
 ⟨D.wf.set,D.b.Bo D.r,D.l.set (D.r.ne D.l),D.ql.set (D.r.ne D.ql),fun i j p a b=>(D.q i j p a b).set fun e=>D.qr (e▸eA a),D.r.fW,D.f.set D.rf.symm,D.nq,D.len,D.qr,D.qf,D.rf,D.lo⟩
theorem DI.N5(D:DI n0 bv bs ls L QL R F qi qs rest left H)(ig:Po):DI n0 bv bs ls L QL R F qi qs rest ig (setObj H F (.dict (aj ig))):=
 ⟨D.wf.set,D.b.Bo D.f,D.l.set (D.f.ne D.l),D.ql.set (D.f.ne D.ql),fun i j p a b=>(D.q i j p a b).set fun e=>D.qf (e▸eA a),D.r.set D.rf,D.f.fW,D.nq,D.len,D.qr,D.qf,D.rf,D.lo⟩
theorem DI.Tq(D:DI n0 bv bs ls L QL R F qi qs rest left H)(ig:Po):DI n0 bv bs ls L QL R H.nxt qi qs rest ig (newObj H (.dict (aj ig))).2:=by
 have D':=D.new (.dict (aj ig));refine⟨D'.wf,D'.b,D'.l,D'.ql,D'.q,D'.r,bS.c8,D.nq,D.len,D.qr,fun m=>?_,fun e=>?_,D.lo⟩
 ·exists aD (List.mem_iff_getElem?.mp m),i,hi;have qD:i<qs.length:=by rw[<- D.len];exact(fo.mp hi).1
  have:=cP D.wf (D.q i _ (qs[i]) hi (List.getElem?_eq_getElem qD))
  lia
 ·have:=cP D.wf D.r
  lia
theorem DI.SY(D:DI n0 bv bs ls L QL R F qi qs rest left H)(hj:qi[i]?=some j)(hp:qs[i]?=some p):DI n0 bv bs ls L QL R F qi (qs.set i p') rest left (setObj H j (.dict (aj p'))):=by
 have hd:=D.q i j p hj hp;have mj:=eA hj;refine⟨D.wf.set,D.b.Bo hd,D.l.set (hd.ne D.l),D.ql.set (hd.ne D.ql),fun i' j' p2 a b=>?_,D.r.set fun e=>D.qr (e▸mj),D.f.set fun e=>D.qf (e▸mj),D.nq,by rw[List.length_set];exact D.len,D.qr,D.qf,D.rf,D.lo⟩;by_cases e:i'=i
 ·subst e;rw[hj]at a;exists a;have qD:i'<qs.length:=(fo.mp hp).1;rw[List.getElem?_set_self qD]at b;exists b;exact hd.fW
 ·rw[List.getElem?_set_ne (fun q=>e q.symm)]at b;refine(D.q i' j' p2 a b).set fun q=>e ?_;subst q;exists aD (fo.mp a),h1,Z0;exact(List.getElem?_inj h1 D.nq).mp (a.trans hj.symm)
noncomputable def sV:ME:=.bi .any [.lcomp [14,15] (.cmp .Gt (.var 15) (.var 9)) [([15],false,.seq,[.var 8],[])]]
theorem MK(hx:x<=8)(hy:y<=8) :
  den (n+8) sV (x0::x1::x2::x3::x4::x5::x6::x7::some (encM x y)::some (.int 20000)::x10::x11::x12::x13::x14::x15::r) H=some (.bool false,(newObj H (.list [.bool false,.bool false])).2):=by
 have it:∀H,iterOf H .seq [encM x y]=some [V.int (.ofNat x),V.int (.ofNat y)]:=fun _=>rfl;have c:∀z H,z<=8->bu .Gt (V.int (.ofNat z)) (V.int 20000) H=some false:=fun z H hz=>by
  show some (c9 20000 z)=_;have:c9 20000 z=false:=gS.mpr fun q=>by
   have:20001<=z:=bC q
   lia
  rw[this]
 unfold sV;simp! only[it];rw[show compGo H.nxt _ [V.int (.ofNat x),V.int (.ofNat y)] [encM x y] (newObj H (.list [])).2=some (.ref H.nxt,(newObj H (.list [.bool false,.bool false])).2)from Vm (by
  show(match turn _ _ _ _ _ _ _ _ with
   |some H=>(match turn _ _ _ _ _ _ _ H with
    |some H=>some H
    |none=>none)
   |none=>none)=_
  simp! only[c _ _ hx,c _ _ hy];rw[dg dq];dsimp only;rw[dg dq];rfl)]
 simp! only[];show(match listView _ (V.ref H.nxt)with
  |some l=>retB (anyB l) _
  |none=>none)=_
 rw[aq.view aq.c8];rfl
end
end
section
open PySem
def kc:List MS:=[(.unpack [8,10] (.call cV [(.var 6),(.var 2)])),(.aug 7 .Add (.bi .len [(.var 6)])),(.if_ (.eU [(.cmp .Gt (.var 7) (.const (.int 3000000))),(.call te [(.var 10)]),sV]) [.stuck] []),(.assign 11 (.call pC [(.var 8),(.var 3)])),(.if_ (.cmp .Lt (.var 11) (.const (.int 0))) [(.store (.var 5) (.var 8) (.var 10)),(.expr (.cO .dpop1 (.var 6) [(.var 8)])),.cont] []),(.unpack [12,13] (.tup [(.call nS [(.var 8),(.sub (.sub (.var 3) (.var 11)) (.const (.int 0)))]),(.call oh [(.var 10),(.sub (.sub (.var 3) (.var 11)) (.const (.int 1)))])])),(.expr (.call nt [(.sub (.var 4) (.var 11)),(.var 12),(.var 13)])),(.assign 6 (.call rQ [(.var 6),(.call oO [(.sub (.var 1) (.var 11)),(.var 12),(.var 13)])]))]
section
variable {n0:Nat} {bv:V} {bs:List Po} {ls:List (Option T)} {L QL R F:Nat} {qi:List Nat} {qs:List Po} {rest left:Po} {H:Hp}
theorem FQ(h:bS H k l)(hl:l.length<=100000):cw .len [V.ref k] H=some (V.int (.ofNat l.length),H):=by
 have h1:seqView H (.ref k)=none:=by
  show(match look H.es k with|some e=>(match e.obj with|.list l=>some l|.dict _=>none)|none=>none)=_
  rw[h]
 show(match seqView H (.ref k)with
  |some l=>guard' (lenOk l) (some (V.int (.ofNat l.length),H))
  |none=>match dictView H (.ref k)with
   |some l=>guard' (lenOk l) (some (V.int (.ofNat l.length),H))
   |none=>none)=_
 rw[h1,h.view];dsimp only;rw[cW hl];rfl
theorem lW(h:aq H k l)(hl:l.length<=100000):cw .len [V.ref k] H=some (V.int (.ofNat l.length),H):=by
 have h1:seqView H (.ref k)=some l:=h.view;show(match seqView H (.ref k)with
  |some l=>guard' (lenOk l) (some (V.int (.ofNat l.length),H))
  |none=>_)=_
 rw[h1];dsimp only;rw[cW hl];rfl
theorem jz(h:aq H k l)(hl:l.length<=100000)(e:l[i]?=some v):subs H (V.ref k) (V.int (.ofNat i))=some v:=by
 have h1:dictView H (.ref k)=none:=by
  show(match look H.es k with|some e=>(match e.obj with|.dict l=>some l|.list _=>none)|none=>none)=_
  rw[h]
 show(match dictView H (.ref k)with
  |some l=>subD l _
  |none=>match seqView H (.ref k)with
   |some l=>subL l (V.int (.ofNat i))
   |none=>none)=_
 rw[h1,show seqView H (.ref k)=some l from h.view];show guard' (lenOk l) l[i]?=_;rw[cW hl,e];rfl
theorem Ml(h:Bv bv l H)(hl:l.length<=100000)(e:l[i]?=some v):subs H bv (V.int (.ofNat i))=some v:=by
 rcases h with rfl|⟨rfl,h⟩
 ·show guard' (lenOk l) l[i]?=_;rw[cW hl,e];rfl
 ·show(match (match look H.es 0 with|some e=>(match e.obj with|.dict l=>some l|.list _=>none)|none=>none)with
   |some l=>subD l _
   |none=>match seqView H (.ref 0)with
    |some l=>subL l (V.int (.ofNat i))
    |none=>none)=_
  rw[h];show(match (match look H.es 0 with|some e=>(match e.obj with|.list l=>some l|.dict _=>none)|none=>none)with
    |some l=>subL l (V.int (.ofNat i))
    |none=>none)=_
  rw[h];show guard' (lenOk l) l[i]?=_;rw[cW hl,e];rfl
theorem YJ(h:w<=3000000):bu .Gt (V.int (.ofNat w)) (V.int 3000000) H=some false:=by
 show some (c9 3000000 w)=_;have:c9 3000000 w=false:=gS.mpr fun q=>by
  have:3000001<=w:=bC q
  lia
 rw[this]
theorem MV:augV .Add (V.int (.ofNat a)) (V.int (.ofNat b)) H=some (V.int (.ofNat (a+b)),H):=rfl
theorem L4:bW (some t)=V.tup [encM t.x t.y,aW t.n t.d]:=rfl
theorem Vr:bu .Lt (V.int (-1)) (V.int 0) H=some true:=rfl
theorem Pj:bu .Lt (V.int (.ofNat i)) (V.int 0) H=some false:=by
 show some (c9 i 0)=_;rfl
def gH(bv:V)(o:Od)(L QL R F w:Nat)(x0 x8 x10 x11 x12 x13:Option V)(r:ai):ai:=
 x0::some bv::some (aK o)::some (.ref L)::some (.ref QL)::some (.ref R)::some (.ref F)::some (.int (.ofNat w))::x8::some (.int 20000)::x10::x11::x12::x13::none::none::r
theorem F5(D:DI n0 bv bs ls L QL R F qi qs rest left H)(hp:aX left)(ht:lead (gr o) left=some t)(hw:w+left.length<=3000000) :
  denSs (denS 19) kc (gH bv o L QL R F w x0 x8 x10 x11 x12 x13 r) H =
  denSs (denS 19) (kc.drop 4) (gH bv o L QL R F (w+left.length) x0 (some (encM t.x t.y)) (some (aW t.n t.d)) (some (lX (firstD t.x t.y 0 ls))) x12 x13 r) (newObj H (.list [.bool false,.bool false])).2:=by
 have tm:=hp.2.1 t (gB ht);have h1:cV [V.ref F,aK o] H=some (bW (lead (gr o) left),H):=ji D.f.frz hp.2.2 (jL hp);have h2:=FQ D.f (by rw[gK];have:=hp.1;lia);rw[gK]at h2;have h3:∀H,bu .Gt (V.int (.ofNat (w+left.length))) (V.int 3000000) H=some false:=fun H=>YJ hw;have h4:∀H,te [aW t.n t.d] H=some (.bool false,H):=fun H=>S9 tm.2.2.1;have D1:=D.new (.list [.bool false,.bool false]);have h5:pC [encM t.x t.y,V.ref L] (newObj H (.list [.bool false,.bool false])).2=some (lX (firstD t.x t.y 0 ls),(newObj H (.list [.bool false,.bool false])).2):=E3 D1.l.frz;have h6:∀{x6 x7 x11 x12 x13},den 17 sV (x0::some bv::some (aK o)::some (.ref L)::some (.ref QL)::some (.ref R)::x6::x7::some (encM t.x t.y)::some (.int 20000)::some (aW t.n t.d)::x11::x12::x13::none::none::r) H=some (.bool false,(newObj H (.list [.bool false,.bool false])).2):=fun{_ _ _ _ _}=>MK (n:=9) tm.1 tm.2.1;unfold kc;show denSs (denS 19) [_,_,_,_,_,_,_,_] _ _=denSs (denS 19) [_,_,_,_] _ _;unfold gH;refine aN.trans ?_;simp only[gM,cH,bj,bA,bo,bg,bh,bk,aG,h1,ht,L4,jo,aY,aZ,gV,aS,bc];refine aN.trans ?_;simp only[rp,qU,jB,bj,bA,bo,bg,bh,bk,aG,h2,MV,aY,aZ,aS,bc];refine aN.trans ?_;simp only[hX,pe,oQ,nW,fK,cD,cH,bj,bA,bo,bg,bh,bk,fN,aG,fx,pB,nX,iO,gj,h3,h4,h6,aY,aZ,aS,bc];refine aN.trans ?_;simp only[cg,cH,bj,bA,bo,bg,bh,bk,aG,h5,aY,aZ,aS,bc]
theorem aaR(D:DI n0 bv bs ls L QL R F qi qs rest left H)(hp:aX left)(hr:rest.length<=10000)(ht:lead (gr o) left=some t)(hw:w+left.length<=3000000)(hf:firstD t.x t.y 0 ls=none) :
  ∃mn qj qz H',denSs (denS 19) kc (gH bv o L QL R F w x0 x8 x10 x11 x12 x13 r) H=some (.cont,gH bv o L QL R F (w+left.length) x0 mn qj qz x12 x13 r,H')/\DI n0 bv bs ls L QL R F qi qs (setT rest t) (delT left t.x t.y) H':=by
 have hlen:(aj rest).length<=100000:=by rw[gK];lia
 have oR:(aj left).length<=100000:=by rw[gK];have:=hp.1;lia
 have D1:=D.new (.list [.bool false,.bool false]);have e1:=uI (x:=t.x) (y:=t.y) (v:=aW t.n t.d) D1.r hlen;rw[td]at e1;have D2:=D1.Qn (setT rest t);have hg:dget (aj left) (bU t.x t.y)=some (aW t.n t.d):=by rw[mN,Dz hp.2.2 (gB ht)];rfl
 have e2:=MU D2.f oR hg;rw[EW]at e2;have e3:=OS D2.f;have D3:=D2.N5 (delT left t.x t.y);refine⟨some (encM t.x t.y),some (aW t.n t.d),some (.int (-1)),_,?_,D3⟩;rw[F5 D hp ht hw,hf];unfold kc;show denSs (denS 19) [_,_,_,_] _ _=_;unfold gH;refine aN.trans ?_;simp! only[lX,Vr,e1,e2,e3]
end
end
section
open PySem
section
variable {n0:Nat} {bv:V} {bs:List Po} {ls:List (Option T)} {L QL R F:Nat} {qi:List Nat} {qs:List Po} {rest left:Po} {H:Hp}
theorem WS{o:Od}{w:Nat}{x0 x8 x10 x11 x12 x13:Option V}{r:ai}{t l:T}{i j:Nat}{g q:Po}{f:Int×Nat}(D:DI n0 bv bs ls L QL R F qi qs rest left H)(hp:aX left)(ht:lead (gr o) left=some t)(hw:w+left.length<=3000000)(hf:firstD t.x t.y 0 ls=some (i,l))
  (hl:cM l.n l.d/\l.n≠0) (cv:bs.length<=1000) (oR:ls.length<=1000) (uN:qi.length<=1000) (hg:bs[i]?=some g) (jw:aX g) (hj:qi[i]?=some j) (hq:qs[i]?=some q) (pX:getT q (t.x - l.x) (t.y - l.y)=none) (aa6:q.length<=9000)
  (rO:f=divQ t.n t.d l.n l.d) (mH:cM f.1 f.2/\f.1≠0) (nD:aX (g.map (mulT (t.x - l.x) (t.y - l.y) f.1 f.2))) :
  ∃F' mn qj qz DH Gk H',denSs (denS 19) kc (gH bv o L QL R F w x0 x8 x10 x11 x12 x13 r) H=some (.next,gH bv o L QL R F' (w+left.length) x0 mn qj qz DH Gk r,H')/\
   DI n0 bv bs ls L QL R F' qi (qs.set i (q++[⟨t.x - l.x,t.y - l.y,f.1,f.2⟩])) rest (addP left ((g.map (mulT (t.x - l.x) (t.y - l.y) f.1 f.2)).map negT)) H':=by
 exists fu (IX hf),Z0,lM,hx,hy;have lM:ls[i]?=some (some l):=lM;have hx:l.x<=t.x:=hx;have hy:l.y<=t.y:=hy;have tm:=hp.2.1 t (gB ht);have D1:=D.new (.list [.bool false,.bool false]);have e1:=jz (v:=bW (some l)) (i:=i) D1.l (by rw[aJ];lia) (by rw[dM,lM];rfl);have e2:=xV (H:=(newObj H (.list [.bool false,.bool false])).2) hx hy;have e3:=EV (H:=(newObj H (.list [.bool false,.bool false])).2) tm.2.2.1 hl.1 hl.2;rw[<- rO]at e3;have e4:=jz (v:=.ref j) (i:=i) D1.ql (by rw[aJ];lia) (by rw[dM,hj];rfl);have e5:=EM (t:=⟨t.x - l.x,t.y - l.y,f.1,f.2⟩) (D1.q i j q hj hq) D1.wf (by lia) (fun g' e=>by rw[pX]at e;exact nq e) mH.1 mH.2;have ea:addT q ⟨t.x - l.x,t.y - l.y,f.1,f.2⟩=q++[⟨t.x - l.x,t.y - l.y,f.1,f.2⟩]:=by
  rw[addT_eq];dsimp only;rw[pX];exact Ka pX
 rw[ea]at e5;dsimp only at e5;have D2:=D1.SY (p':=q++[⟨t.x - l.x,t.y - l.y,f.1,f.2⟩]) hj hq;have e6:=Ml (v:=.dct (aj g)) (i:=i) D2.b (by rw[aJ];lia) (by rw[dM,hg];rfl);have e7:=CT (H:=setObj (newObj H (.list [.bool false,.bool false])).2 j (.dict (aj (q++[⟨t.x - l.x,t.y - l.y,f.1,f.2⟩])))) (x:=t.x - l.x) (y:=t.y - l.y) jw mH.1 mH.2;have e8:=Kp (av:=.ref F) D2.f.frz hp nD;have D3:=D2.Tq (addP left ((g.map (mulT (t.x - l.x) (t.y - l.y) f.1 f.2)).map negT));refine⟨_,some (encM t.x t.y),some (aW t.n t.d),some (.int (.ofNat i)),some (encM (t.x - l.x) (t.y - l.y)),some (aW f.1 f.2),_,?_,D3⟩;rw[F5 D hp ht hw,hf];unfold kc;show denSs (denS 19) [_,_,_,_] _ _=_;unfold gH;refine aN.trans ?_;simp! only[lX,Pj];simp! only[e1,ly,Ju,e2,e3,i8,e4,e5,e6,e7,e8];rfl
theorem KN{o:Od}{w:Nat}{x0 x8 x10 x11 x12 x13:Option V}{r:ai}{n:Nat}(D:DI n0 bv bs ls L QL R F qi qs rest left H)(hp:aX left):den 19 (.cmp .Gt (.bi .len [.var 6]) (.const (V.int 0))) (gH bv o L QL R F w x0 x8 x10 x11 x12 x13 r) H=some (.bool (c9 0 left.length),H):=by
 have h2:=FQ D.f (by rw[gK];have:=hp.1;lia);rw[gK]at h2;have h3:∀a H,bu .Gt (V.int (.ofNat a)) (V.int 0) H=some (c9 0 a):=fun _ _=>rfl;unfold gH;simp! only[h2,h3]
theorem Hw{o:Bool}{p:Po}(h:lead o p=none):p=[]:=by
 induction p using aM with
 |nil=>rfl
 |cons a r=>exact ns h
theorem kZ{n:Nat}(h:0<n):c9 0 n=true:=fj h
set_option tactic.hygienic true in
theorem WD{o:Od}{x0:Option V}{r:ai}(rM:∀(i:Nat) (l:T),ls[i]?=some (some l)->cM l.n l.d/\l.n≠0)(eJ:∀g∈bs,aX g)(cv:bs.length<=1000)(oR:ls.length<=1000)(uN:qi.length<=1000)(res:Po):∀(k:Nat) (qs:List Po) (rest left:Po) (F w n:Nat) (H:Hp) (x8 x10 x11 x12 x13:Option V),
  kC (gr o) bs ls k qs rest left=some res->DI n0 bv bs ls L QL R F qi qs rest left H->aX left->(∀q∈qs,q.length+k<=8000)->rest.length+k<=8000->w+1000 * k<=3000000->k<n->
  ∃F' ρ H' H9 ig,fq (den 19 (.cmp .Gt (.bi .len [.var 6]) (.const (V.int 0)))) (denSs (denS 19) kc) n (gH bv o L QL R F w x0 x8 x10 x11 x12 x13 r) H=some (.next,x0::some bv::some (aK o)::some (.ref L)::some (.ref QL)::some (.ref R)::ρ,H')/\DI n0 bv bs ls L QL R F' qi H9 res ig H':=by
 intro k
 induction k with
 |zero=>intro _ _ _ _ _ _ _ _ _ _ _ _ e;exact nq e
 |succ k ih=>
  intro qs rest left F w n H x8 x10 x11 x12 x13 e D hp hq hr hw hn;obtain⟨n,rfl⟩:∃m,n=m+1:=⟨n - 1,by lia⟩;have hlen:=hp.1;rw[qb,KN (n:=0) D hp,fx];have e:uO bs ls (kC (gr o) bs ls k) qs rest left (lead (gr o) left)=some res:=e
  induction ht:lead (gr o) left using aL with
  |none=>
   rw[ht]at e;have e:some rest=some res:=e
   (clear hlen hn hw hr hq hp ih uN oR cv eJ rM;exists e)
   rw[Hw ht];rw[Hw ht]at D;exact⟨F,_,H,qs,[],rfl,D⟩
  |some t=>
   rw[ht]at e;have gi:0<left.length:=List.length_pos_of_mem (gB ht);rw[kZ gi,nP];have e:y8 bs (kC (gr o) bs ls k) qs rest left t (firstD t.x t.y 0 ls)=some res:=e
   induction hf:firstD t.x t.y 0 ls using aL with
   |none=>
    rw[hf]at e;have e:kC (gr o) bs ls k qs (setT rest t) (delT left t.x t.y)=some res:=e;exists DD (aaR (x0:=x0) (x8:=x8) (x10:=x10) (x11:=x11) (x12:=x12) (x13:=x13) (r:=r) (o:=o) (w:=w) D hp (by lia) ht (by lia) hf),mn,qj,qz,H',e1,D';rw[e1,aS,mZ];exact ih qs (setT rest t) (delT left t.x t.y) F (w+left.length) n H' _ _ _ _ _ e D' (Ur hp) (fun q m=>by have:=hq q m;lia) (by have:=GZ (p:=rest) (t:=t);lia) (by lia) (by lia)
   |some d=>
    obtain⟨i,l⟩:=d;rw[hf]at e;have e:divC bs (kC (gr o) bs ls k) qs rest left t i l=some res:=e;unfold divC at e;split at e
    ·exact nq e
    ·rename_i g hg;split at e
     ·exact nq e
     ·rename_i q ux;split at e
      ·exact nq e
      ·rename_i pX;unfold BY at e;exists cm e,kQ,e
       ·unfold Cq at e;exists cm e,kq,e
        ·unfold CJ at e;exists cm e,mq,e
         ·have jw:=eJ g (eA hg);have nD:=km kq (uJ jw.2.2);have mH:=n8 kQ;have oD:=rM i l (IX hf).2.1;have hi:i<qi.length:=by rw[D.len];exact(fo.mp ux).1
          have hqm:=hq q (eA ux);refine uR (WS (x0:=x0) (x8:=x8) (x10:=x10) (x11:=x11) (x12:=x12) (x13:=x13) (r:=r) (o:=o) (w:=w) D hp ht (by lia) hf oD cv oR uN hg jw (List.getElem?_eq_getElem hi) ux pX (by lia) rfl mH nD) fun F' mn qj qz DH Gk H' e1 D'=>?_;rw[e1,aS,jI];refine ih _ rest _ F' (w+left.length) n H' _ _ _ _ _ e D' (km mq (Bm hp.2.2)) (fun q' m=>?_) (by lia) (by lia) (by lia);clear D' e1 hi oD mH nD jw e mq kq kQ pX ux hg hf gi ht hlen hn hw hr hp D ih uN oR cv eJ rM;clear e;rcases List.mem_or_eq_of_mem_set m with m|m
          ·have:=hq q' m;lia
          ·rw[m,d8];show q.length+1+k<=_
           lia
end
end
section
open PySem
section
variable {H:Hp}
theorem qO:dC k (some H)=some (V.ref k,H):=rfl
theorem Ik(h:forItems f items H=some H')(b:Bv bv l H)(b':Bv bv l H'):compGo k f items [bv] H=some (.ref k,H'):=by
 show dC k (unlH H.es [bv] (forItems f items (lockH H [bv])))=_;rw[b.lock,h];show dC k (some ⟨H'.nxt,eD H.es H'.es [bv]⟩)=_;rw[b.kP b',qO]
theorem Yl(hf:∀v H,f v H=kz k (V.ref H.nxt) (newObj H (.dict [])).2):∀(s:List V) (acc:List Nat) (H:Hp),WF H->aq H k (acc.map V.ref)->(∀j∈acc,bS H j [])->acc.Nodup->acc.length+s.length<=50000->
  ∃qi H',forItems f s H=some H'/\WF H'/\aq H' k ((acc++qi).map V.ref)/\(∀j∈acc++qi,bS H' j [])/\(acc++qi).Nodup/\qi.length=s.length/\(∀j∈qi,H.nxt<=j)/\H.nxt<=H'.nxt/\(∀j e,look H.es j=some e->j≠k->look H'.es j=some e):=by
 intro s
 induction s with
 |nil=>
  intro acc H w hk hd hn _;refine⟨[],H,rfl,w,?_,?_,?_,rfl,(fun j m=>nomatch m),cx _,fun j e h _=>h⟩
  ·rw[g4];exact hk
  ·rw[g4];exact hd
  ·rw[g4];exact hn
 |cons v s ih=>
  intro acc H w hk hd hn hl;have hl:acc.length+(s.length+1)<=50000:=hl;have rB:=hk.new w (o:=.dict []);have uZ:=uu (v:=.ref H.nxt) rB (cW (by rw[aJ];lia));have w7:H.nxt≠k:=fun e=>by have:=cP w hk;lia
  have kW:bS (setObj (newObj H (.dict [])).2 k (.list (acc.map V.ref++[.ref H.nxt]))) H.nxt []:=(bS.c8 (H:=H) (l:=[])).set w7;have kA:aq (setObj (newObj H (.dict [])).2 k (.list (acc.map V.ref++[.ref H.nxt]))) k ((acc++[H.nxt]).map V.ref):=by
   rw[gI];exact rB.fW
  have hd2:∀j∈acc++[H.nxt],bS (setObj (newObj H (.dict [])).2 k (.list (acc.map V.ref++[.ref H.nxt]))) j []:=fun j m=>by
   clear kA w7 uZ rB hl hn ih hf;rcases l7.mp m with m|m
   ·exact((hd j m).new w).set fun e=>(hd j m).ne hk e.symm
   ·clear hd hk w;cases c7.mp m;exact kW
  have gu:(acc++[H.nxt]).Nodup:=by
   rw[List.nodup_append];refine⟨hn,by simp,fun a ma b mb e=>?_⟩;clear hd2 kA kW w7 uZ rB hl hn hk ih hf;cases c7.mp mb;clear mb;subst e;have:=cP w (hd _ ma)
   lia
  clear kW w7 rB hn hd hk;obtain⟨qi,H',e1,e2,e3,e4,e5,e6,e7,e8,e9⟩:=ih (acc++[H.nxt]) _ w.new.set kA hd2 gu (by rw[d8];show acc.length+1+s.length<=_;lia);refine⟨H.nxt::qi,H',?_,e2,?_,?_,?_,?_,fun j m=>?_,?_,fun j e hj bN=>?_⟩
  ·show(match f v H with
    |some H=>forItems f s H
    |none=>none)=_
   rw[hf,uZ];exact e1
  ·rw[jt]at e3;exact e3
  ·rw[jt]at e4;exact e4
  ·rw[jt]at e5;exact e5
  ·rw[fV,e6];rfl
  ·clear e9 e8 e6 e5 e4 e3 e2 e1 gu hd2 kA uZ hl w ih hf;rcases aI.mp m with rfl|m
   ·exact cx _
   ·have:H.nxt+1<=j:=e7 j m;exact fh (e7 j m)
  ·have:H.nxt+1<=H'.nxt:=e8;exact fh e8
  ·exact e9 j e ((eH bN).trans (fD w hj)) bN
theorem AP(h:look es j=some ⟨j,false,.dict l⟩)(hn:n0<=j):freezeV es n0 (k+1) (.ref j) = .dct l:=by
 show(match b8 n0 j with
  |true=>match look es j with
   |some e=>match e.obj with
    |.list l=>V.lst (l.map (freezeV es n0 k))
    |.dict l=>.dct l
   |none=>.ref j
  |false=>.ref j)=_
 rw[fj hn,h]
theorem j6(h:look es j=some ⟨j,false,.list l⟩)(hn:n0<=j):freezeV es n0 (k+1) (.ref j) = .lst (l.map (freezeV es n0 k)):=by
 show(match b8 n0 j with
  |true=>match look es j with
   |some e=>match e.obj with
    |.list l=>V.lst (l.map (freezeV es n0 k))
    |.dict l=>.dct l
   |none=>.ref j
  |false=>.ref j)=_
 rw[fj hn,h]
theorem Qx(l:List V):(∀v∈l,∃z:Nat,z<=8/\v = .int (.ofNat z))->maxI 20000 l=some 20000:=by
 induction l with
 |nil=>
  intro _;exact rfl
 |cons v l ih=>
  intro h;exists ae (h v (.head _)),z,hz,Aq;subst Aq;show(match c9 20000 z with
   |true=>maxI (.ofNat z) l
   |false=>maxI 20000 l)=_
  have:c9 20000 z=false:=gS.mpr fun q=>by
   have:20001<=z:=bC q
   lia
  rw[this];exact ih fun v m=>h v (.tail _ m)
noncomputable def Dv(dv:V)(l:List (List Int×V))(H:Hp):Prop:=dv = .dct l\/(dv = .ref 0/\look H.es 0=some ⟨0,true,.dict l⟩)
theorem Dv.view(h:Dv dv l H):dictView H dv=some l:=by
 rcases h with rfl|⟨rfl,h⟩
 ·rfl
 ·show(match look H.es 0 with|some e=>(match e.obj with|.dict l=>some l|.list _=>none)|none=>none)=_
  rw[h]
theorem Dv.seq(h:Dv dv l H):seqView H dv=none:=by
 rcases h with rfl|⟨rfl,h⟩
 ·rfl
 ·show(match look H.es 0 with|some e=>(match e.obj with|.list l=>some l|.dict _=>none)|none=>none)=_
  rw[h]
theorem Dv.it(h:Dv dv (aj p) H):iterOf H .seq [dv]=some (p.map fun t=>encM t.x t.y):=by
 show(match seqView H dv with
  |some l=>some l
  |none=>match dictView H dv with
   |some l=>some (l.map fun e:List Int×V=>ofKey e.1)
   |none=>none)=_
 rw[h.seq,h.view];show some ((aj p).map fun e=>ofKey e.1)=_;unfold aj;rw[d5];rfl
theorem Dv.lock(h:Dv dv l H):lockH H [dv]=H:=by
 rcases h with rfl|⟨rfl,h⟩
 ·rfl
 ·show(⟨H.nxt,cN H.es (.ref 0)⟩:Hp)=_;unfold cN;dsimp only;rw[h];dsimp only;rw[nK h]
theorem Dv.kP(h:Dv dv l H)(h':Dv dv l H'):(⟨H'.nxt,eD H.es H'.es [dv]⟩:Hp)=H':=by
 rcases h with rfl|⟨rfl,h⟩
 ·rfl
 ·rcases h' with q|⟨_,h'⟩
  ·clear h;cases q
  show(⟨H'.nxt,vI H'.es 0 (look H.es 0) (look H'.es 0)⟩:Hp)=_;rw[h,h'];show(⟨H'.nxt,put H'.es 0 _ _⟩:Hp)=_;rw[nK h']
theorem Dv.new(h:Dv dv l H)(w:WF H):Dv dv l (newObj H o).2:=h.imp id fun q=>⟨q.1,fD w q.2⟩
theorem LL(h:forItems f items H=some H')(b:Dv dv l H)(b':Dv dv l H'):compGo k f items [dv] H=some (.ref k,H'):=by
 show dC k (unlH H.es [dv] (forItems f items (lockH H [dv])))=_;rw[b.lock,h];show dC k (some ⟨H'.nxt,eD H.es H'.es [dv]⟩)=_;rw[b.kP b',qO]
theorem Mz(h:Dv dv (aj f) H)(hf:aX f):cw .dict [dv] H=some (newObj H (.dict (aj f))):=by
 show(match dictView H dv with
  |some l=>guard' (band (lenOk l) (smallKeys l)) (some (newObj H (.dict l)))
  |none=>match listView H dv with
   |some l=>guard' (lenOk l) (vp (pairsOf l []) H)
   |none=>none)=_
 rw[h.view];dsimp only;rw[wN (br hf.1 dq),GK hf.2.1];rfl
noncomputable def gz(t:T):List V:=[.int (.ofNat t.x),.int (.ofNat t.y)]
noncomputable def C8:ME:=.bi .maxl [.bin .Add (.list [.const (.int 20000)]) (.lcomp [14,15,16] (.var 16) [([15],false,.seq,[.var 0],[]),([16],false,.seq,[.var 15],[])])]
theorem FW:runGens dn emit ((tg,many,ik,es,ifs)::gs) ρ H=ob (denL dn ρ es H) fun vs H=>match iterOf H ik vs with
  |some items=>unlH H.es vs (forItems (turn dn tg many ifs (runGens dn emit gs) ρ) items (lockH H vs))
  |none=>none:=rfl
theorem RE(hf:aX f)(hd:Dv dv (aj f) H)(wf:WF H) :
  den (n+9) C8 (some dv::x1::x2::x3::x4::x5::x6::x7::x8::x9::x10::x11::x12::x13::x14::x15::x16::r) H =
   some (.int 20000,(newObj (newObj (newObj H (.list [.int 20000])).2 (.list (f.flatMap gz))).2 (.list (.int 20000::f.flatMap gz))).2):=by
 have hlen:(f.flatMap gz).length<=2 * f.length:=by
  clear hf hd;clear wf;induction f with
  |nil=>exact cx _
  |cons a f ih=>
   rw[iT,d8];show 2+_<=2 * (f.length+1)
   lia
 have R8:=hf.1;unfold C8;obtain⟨nx,es⟩:=H;have vC:Dv dv (aj f) ⟨nx+1,⟨nx,false,.list [.int 20000]⟩::es⟩:=hd.new wf;have xM:WF ⟨nx+1,⟨nx,false,.list [.int 20000]⟩::es⟩:=WF.new (H:=⟨nx,es⟩) wf;simp! only[vC.it];have this:=dK (k:=nx+1) (n:=nx+1+1) (es:=⟨nx,false,.list [.int 20000]⟩::es) (enc:=fun t:T=>encM t.x t.y) (f:=turn (den (n+6)) [15] false [] (runGens (den (n+6)) (ck (nx+1) (.var 16) (den (n+6))) [([16],false,.seq,[.var 15],[])]) (some dv::x1::x2::x3::x4::x5::x6::x7::x8::x9::x10::x11::x12::x13::none::none::none::r)) gz f [] (fun t m acc ha=>by
   have it:∀H,iterOf H .seq [encM t.x t.y]=some [V.int (.ofNat t.x),V.int (.ofNat t.y)]:=fun _=>rfl;have lk:∀H,lockH H [encM t.x t.y]=H:=fun _=>rfl;simp! only[FW,it,lk];show unlH _ _ (match turn _ _ _ _ _ _ _ _ with
    |some H=>(match turn _ _ _ _ _ _ _ H with
     |some H=>some H
     |none=>none)
    |none=>none)=_
   simp! only[];rw[dg ha];dsimp only;rw[uu (l:=acc++[V.int (Int.ofNat t.x)]) aq.hd (cW (by rw[d8];show acc.length+1<=_;lia)),xQ,jt];rfl) (by show 0+_<=_;lia)
 rw[dp]at this;rw[LL this (vC.new xM (o:=.list [])) (vC.new xM (o:=.list _))];simp! only[];have rV:listView ⟨nx+1+1,⟨nx+1,false,.list (f.flatMap gz)⟩::⟨nx,false,.list [.int 20000]⟩::es⟩ (.ref nx)=some [.int 20000]:=by
  show(match look _ nx with|some e=>(match e.obj with|.list l=>some l|.dict _=>none)|none=>none)=_
  rw[dm (Ne.symm (Nat.ne_add_one nx)),iC]
 have E9:listView ⟨nx+1+1,⟨nx+1,false,.list (f.flatMap gz)⟩::⟨nx,false,.list [.int 20000]⟩::es⟩ (.ref (nx+1))=some (f.flatMap gz):=aq.view aq.hd;have hb:binOp .Add (.ref nx) (.ref (nx+1)) ⟨nx+1+1,⟨nx+1,false,.list (f.flatMap gz)⟩::⟨nx,false,.list [.int 20000]⟩::es⟩=some (newObj ⟨nx+1+1,⟨nx+1,false,.list (f.flatMap gz)⟩::⟨nx,false,.list [.int 20000]⟩::es⟩ (.list ([.int 20000]++f.flatMap gz))):=by
  show(match listView _ (V.ref nx)with
   |some x=>match listView _ (V.ref (nx+1))with
    |some y=>guard' (band (lenOk x) (lenOk y)) (some (newObj _ (.list (x++y))))
    |none=>none
   |none=>none)=_
  rw[rV,E9];dsimp only;rw[cW (l:=f.flatMap gz) (by lia)];rfl
 simp! only[hb];show(match listView _ (V.ref (nx+1+1))with
  |some l=>retI (maxL l) _
  |none=>none)=_
 rw[aq.view aq.hd];show retI (maxI 20000 (f.flatMap gz)) _=_;rw[Qx _ fun v m=>?_]
 ·rfl
 ·exists ae (List.mem_flatMap.mp m),t,mt,mv;have ht:=hf.2.1 t mt;clear mt m hb E9 rV this xM vC wf hd R8 hlen hf;rcases aI.mp mv with rfl|mv
  ·exact⟨t.x,ht.1,rfl⟩
  ·cases c7.mp mv;exact⟨t.y,ht.2.1,rfl⟩
end
end
section
open PySem
section
variable {H:Hp}
theorem dF{B:Type}{o:bq}{f:V->Hp->Option B}:ob (some (newObj H o)) f=f (.ref H.nxt) (newObj H o).2:=rfl
theorem QK{qi:List Nat}:∀{qs:List Po},qi.length=qs.length->(∀(i j:Nat) (p:Po),qi[i]?=some j->qs[i]?=some p->look es j=some ⟨j,false,.dict (aj p)⟩)->(∀j∈qi,n0<=j)->NRs ((qi.map V.ref).map (freezeV es n0 1)):=by
 induction qi with
 |nil=>intros;exact .nil
 |cons j qi ih=>
  intro qs h hq hn
  induction qs using aM with
  |nil=>exact absurd h (kb _)
  |cons p qs=>
   have h2:freezeV es n0 (0+1) (.ref j) = .dct (aj p):=AP (hq 0 j p rfl rfl) (hn j (.head _));rw[aO,aO,h2];exact .cons dG (ih (gW h) (fun i j' p' a b=>hq (i+1) j' p' a b) fun j' m=>hn j' (.tail _ m))
def ar(bs:List Po):List V:=bs.map fun p=>.dct (aj p)
theorem gq:NRs (ar bs):=by
 induction bs with
 |nil=>
  exact .nil
 |cons _ _ ih=>
  exact .cons dG ih
theorem Kn{o:Od}{f res:Po}{bs:List Po}{bv dv:V}{H₀:Hp}(hd:Dv dv (aj f) H₀)(hb:Bv bv (ar bs) H₀)(w:WF H₀)(hf:aX f)(eJ:∀g∈bs,aX g)(cv:bs.length<=1000)(e:restOf (gr o) f bs=some res) :
  ∃qv H',NR qv/\zS [dv,bv,aK o] H₀=some (.tup [qv,.dct (aj res)],H'):=by
 obtain⟨n0,i9⟩:=H₀;have h1:∀{x0 x3 x4 x5 x6 x7 x8 x9 x10 x11 x12 x13 x14 x15:Option V} {r:ai},den 19 (.lcomp [14,15] (.call cV [.var 15,.var 2]) [([15],false,.seq,[.var 1],[])]) (x0::some bv::some (aK o)::x3::x4::x5::x6::x7::x8::x9::x10::x11::x12::x13::x14::x15::r) ⟨n0,i9⟩=some (.ref n0,⟨n0+1,⟨n0,false,.list ((bs.map (lead (gr o))).map bW)⟩::i9⟩):=by
  intro x0 x3 x4 x5 x6 x7 x8 x9 x10 x11 x12 x13 x14 x15 r;simp! only[hb.it];refine Ik ?_ (hb.new w (o:=.list [])) (hb.new w (o:=.list _));have:=dK (k:=n0) (n:=n0+1) (es:=i9) (enc:=fun p:Po=>V.dct (aj p)) (f:=turn (den 18) [15] false [] (ck n0 (.call cV [.var 15,.var 2]) (den 18)) (x0::some bv::some (aK o)::x3::x4::x5::x6::x7::x8::x9::x10::x11::x12::x13::none::none::r)) (fun p=>[bW (lead (gr o) p)]) bs [] (fun p m acc ha=>by
   simp! only[ji (av:=.dct (aj p)) rfl (eJ p m).2.2 (jL (eJ p m))];exact dg ha) (by rw[eY];show 0+bs.length<=_;lia)
  rw[eN,dp]at this;rw[d5];exact this
 have w1:WF ⟨n0+1,⟨n0,false,.list ((bs.map (lead (gr o))).map bW)⟩::i9⟩:=WF.new (H:=⟨n0,i9⟩) w;have kQ:Bv bv (ar bs) ⟨n0+1,⟨n0,false,.list ((bs.map (lead (gr o))).map bW)⟩::i9⟩:=hb.new w;have l1:aq ⟨n0+1,⟨n0,false,.list ((bs.map (lead (gr o))).map bW)⟩::i9⟩ n0 ((bs.map (lead (gr o))).map bW):=aq.hd;have hq:∃(qi:List Nat) (H2:Hp),(∀{x0 x2 x3 x4 x5 x6 x7 x8 x9 x10 x11 x12 x13 x14 x15:Option V} {r:ai},den 19 (.lcomp [14,15] .jM [([15],false,.seq,[.var 1],[])]) (x0::some bv::x2::x3::x4::x5::x6::x7::x8::x9::x10::x11::x12::x13::x14::x15::r) ⟨n0+1,⟨n0,false,.list ((bs.map (lead (gr o))).map bW)⟩::i9⟩=some (.ref (n0+1),H2))/\
   WF H2/\Bv bv (ar bs) H2/\Dv dv (aj f) H2/\aq H2 n0 ((bs.map (lead (gr o))).map bW)/\aq H2 (n0+1) (qi.map V.ref)/\(∀j∈qi,bS H2 j [])/\qi.Nodup/\qi.length=bs.length/\(∀j∈qi,n0+2<=j)/\n0+2<=H2.nxt:=by
  obtain⟨qi,H2,e1,e2,e3,e4,e5,e6,e7,e8,e9⟩:=Yl (k:=n0+1) (f:=fun v H=>kz (n0+1) (V.ref H.nxt) (newObj H (.dict [])).2) (fun _ _=>rfl) (ar bs) [] ⟨n0+1+1,⟨n0+1,false,.list []⟩::⟨n0,false,.list ((bs.map (lead (gr o))).map bW)⟩::i9⟩ (WF.new (H:=⟨n0+1,_⟩) w1) aq.hd (fun j m=>nomatch m) List.nodup_nil (by unfold ar;rw[aJ];show 0+bs.length<=_;lia);have kq:Bv bv (ar bs) ⟨n0+1+1,⟨n0+1,false,.list []⟩::⟨n0,false,.list ((bs.map (lead (gr o))).map bW)⟩::i9⟩:=kQ.new w1;have mq:Bv bv (ar bs) H2:=kq.imp id fun z=>⟨z.1,e9 _ _ z.2 (Nat.zero_ne_add_one n0)⟩;have hd2:Dv dv (aj f) ⟨n0+1+1,⟨n0+1,false,.list []⟩::⟨n0,false,.list ((bs.map (lead (gr o))).map bW)⟩::i9⟩:=(hd.new w (o:=.list _)).new w1;have hd3:Dv dv (aj f) H2:=hd2.imp id fun z=>⟨z.1,e9 _ _ z.2 (Nat.zero_ne_add_one n0)⟩;have l2:aq ⟨n0+1+1,⟨n0+1,false,.list []⟩::⟨n0,false,.list ((bs.map (lead (gr o))).map bW)⟩::i9⟩ n0 ((bs.map (lead (gr o))).map bW):=l1.new w1;refine⟨qi,H2,?_,e2,mq,hd3,e9 _ _ l2 (Nat.ne_add_one n0),e3,e4,e5,by rw[e6];unfold ar;rw[aJ],e7,e8⟩;intro x0 x2 x3 x4 x5 x6 x7 x8 x9 x10 x11 x12 x13 x14 x15 r;simp! only[kQ.it];refine Ik ?_ kq mq;rw[<- e1];congr 1
 exists Ox hq,qi,H2,h2,w2,kq,hd2,l2,W0,q2,nq,Ih,Kl,QF
 try clear hq
 have h3:=Mz (hd2.new w2 (o:=.dict [])) hf;have w3:=w2.new (o:=.dict []);have D4:DI n0 bv bs (bs.map (lead (gr o))) n0 (n0+1) H2.nxt (H2.nxt+1) qi (bs.map fun _=>[]) [] f (newObj (newObj H2 (.dict [])).2 (.dict (aj f))).2:=by
  refine⟨w3.new,(kq.new w2).new w3,(l2.new w2).new w3,(W0.new w2).new w3,fun i j p a b=>?_,(bS.c8 (H:=H2) (l:=[])).new w3,bS.c8 (H:=(newObj H2 (.dict [])).2),nq,by rw[Ih,aJ],fun m=>?_,fun m=>?_,by exact Nat.ne_add_one H2.nxt,by exact Nat.le_add_right n0 1,by exact Nat.le_of_add_right_le QF,fun j m=>by have:=Kl j m;exact Nat.le_of_add_right_le (Kl j m)⟩
  ·have hp:p=[]:=by
    rw[dM]at b
    induction q:bs[i]? using aL with
    |none=>rw[q]at b;cases b
    |some c=>rw[q]at b;exists b;rfl
   subst hp;exact((q2 j (eA a)).new w2).new w3
  ·have:=cP w2 (q2 _ m);lia
  ·have:=cP w2 (q2 _ m);lia
 have D7:=((D4.new (.list [.int 20000])).new (.list (f.flatMap gz))).new (.list (.int 20000::f.flatMap gz));have rM:∀(i:Nat) (l:T),(bs.map (lead (gr o)))[i]?=some (some l)->cM l.n l.d/\l.n≠0:=fun i l q=>by
  rw[dM]at q
  induction q':bs[i]? using aL with
  |none=>rw[q']at q;cases q
  |some g=>
   rw[q']at q;have q:some (lead (gr o) g)=some (some l):=q;have:=(eJ g (eA q')).2.1 l (gB (aH q));exact this.2.2
 obtain⟨F',ρ,H',H9,ig,e4,D⟩:=WD (x0:=some dv) (r:=cq 13 none) rM eJ cv (by rw[aJ];exact cv) (by rw[Ih];exact cv) res 100 (bs.map fun _=>[]) [] f (H2.nxt+1) 0 1000 _ none none none none none e D7 hf
  (fun q m=>by exists ae (cG.mp m),c,Z0,Ll;subst Ll;decide) dq dq dq
 refine⟨.lst ((qi.map V.ref).map (freezeV H'.es n0 1)),⟨H'.nxt,dropNew n0 H'.es⟩,.lst (QK D.len D.q D.lo.2.2),?_⟩;unfold zS Gd;rw[iA];unfold gH kc sV at e4;simp only[rep0,rep1]at e4;rw[aN];simp only[cg,h1,rep0,rep1,aG,aY,aZ,aS,bc];rw[aN];simp only[cg,h2,aG,aY,aZ,aS,bc];rw[aN];simp only[gM,fk,tv,jB,bj,bA,bo,cD,bg,bh,bk,aG,dF,h3,show ∀o,(newObj H2 o).2.nxt=H2.nxt+1 from fun _=>rfl,lx,gV,aY,aZ,aS,bc];rw[aN];have h5:=fun{x1 x2 x3 x4 x5 x6 x7 x8 x9 x10 x11 x12 x13 x14 x15 x16:Option V} {r:ai}=>RE (H:=(newObj (newObj H2 (.dict [])).2 (.dict (aj f))).2) hf ((hd2.new w2).new w3) w3.new (n:=10) (x1:=x1) (x2:=x2) (x3:=x3) (x4:=x4) (x5:=x5) (x6:=x6) (x7:=x7) (x8:=x8) (x9:=x9) (x10:=x10) (x11:=x11) (x12:=x12) (x13:=x13) (x14:=x14) (x15:=x15) (x16:=x16) (r:=r);unfold C8 at h5;simp only[Nat.reduceAdd]at h5;simp only[cg,h5,aG,aY,aZ,aS,bc];rw[aN];simp only[o9];rw[show(V.int 0)=V.int (Int.ofNat 0)from rfl]at *;rw[e4];simp! only[];show some (freezeV H'.es n0 3 (.tup [.ref (n0+1),.ref H2.nxt]),(⟨H'.nxt,dropNew n0 H'.es⟩:Hp))=_;show some (V.tup [freezeV H'.es n0 2 (.ref (n0+1)),freezeV H'.es n0 2 (.ref H2.nxt)],(⟨H'.nxt,dropNew n0 H'.es⟩:Hp))=_;rw[j6 D.ql D.lo.1,AP D.r D.lo.2.1]
end
end
section
open PySem
section
variable {H:Hp}
theorem Qi{o:Od}{f res:Po}{bs:List Po}{k:Nat}(hk:lP H k=some (ar bs))(hf:aX f)(eJ:∀g∈bs,aX g)(cv:bs.length<=1000)(e:restOf (gr o) f bs=some res) :
  ∃qv,NR qv/\v8 [.dct (aj f),.ref k,aK o] H=some (.tup [qv,.dct (aj res)],H):=by
 obtain⟨qv,H',h1,h2⟩:=Kn (H₀:=⟨1,[⟨0,true,.list (ar bs)⟩]⟩) (dv:=.dct (aj f)) (bv:=.ref 0) (.inl rfl) (.inr ⟨rfl,rfl⟩) (fun e m=>by clear cv eJ hf hk;cases c7.mp m;exact Nat.zero_lt_one) hf eJ cv e;exact⟨qv,h1,JD hk h2 dG fb gq (.tup (.cons h1 (.cons dG .nil)))⟩
theorem Kz:subs H (.tup [a,b]) (V.int 1)=some b:=rfl
theorem Fb{o:Od}{f res:Po}{bs:List Po}{k:Nat}(hk:lP H k=some (ar bs))(hf:aX f)(eJ:∀g∈bs,aX g)(cv:bs.length<=1000)(e:restOf (gr o) f bs=some res) :
  kn [.dct (aj f),.ref k,aK o] H=some (.dct (aj res),H):=by
 exists ae (Qi (H:=⟨1,[⟨0,true,.list (ar bs)⟩]⟩) (k:=0) rfl hf eJ cv e),qv,h1,h2;refine JD (H':=⟨1,[⟨0,true,.list (ar bs)⟩]⟩) hk ?_ dG fb gq dG;unfold BC CA;rw[iA];simp! only[h2,Kz];rfl
theorem OE{o:Od}{f res:Po}{bs:List Po}{k:Nat}(hk:dictAt (.ref k) H=some (aj f))(hf:aX f)(eJ:∀g∈bs,aX g)(cv:bs.length<=1000)(e:restOf (gr o) f bs=some res) :
  ∃qv,NR qv/\v8 [.ref k,.lst (ar bs),aK o] H=some (.tup [qv,.dct (aj res)],H):=by
 obtain⟨qv,H',h1,h2⟩:=Kn (H₀:=⟨1,[⟨0,true,.dict (aj f)⟩]⟩) (dv:=.ref 0) (bv:=.lst (ar bs)) (.inr ⟨rfl,rfl⟩) (.inl rfl) (fun e m=>by clear cv eJ hf hk;cases c7.mp m;exact Nat.zero_lt_one) hf eJ cv e;exact⟨qv,h1,Ki hk h2 (.cons (.lst gq) (.cons fb .nil)) (wd _) (.tup (.cons h1 (.cons dG .nil)))⟩
theorem LF{o:Od}{f res:Po}{bs:List Po}{k:Nat}(hk:dictAt (.ref k) H=some (aj f))(hf:aX f)(eJ:∀g∈bs,aX g)(cv:bs.length<=1000)(e:restOf (gr o) f bs=some res) :
  kn [.ref k,.lst (ar bs),aK o] H=some (.dct (aj res),H):=by
 exists ae (OE (H:=⟨1,[⟨0,true,.dict (aj f)⟩]⟩) (k:=0) rfl hf eJ cv e),qv,h1,h2;refine Ki (H':=⟨1,[⟨0,true,.dict (aj f)⟩]⟩) hk ?_ (.cons (.lst gq) (.cons fb .nil)) (wd _) dG;unfold BC CA;rw[iA];simp! only[h2,Kz];rfl
theorem aq.at(h:aq H k l):lP H k=some l:=by
 show(match look H.es k with|some e=>(match e.obj with|.list l=>some l|.dict _=>none)|none=>none)=_
 rw[h]
end
def sPolyD(r:Po):Option Po:=match iG r with
 |true=>some r
 |false=>none
def sPolyC(s1 s2:Po):Option Po:=match iG s1 with
 |true=>match iG s2 with
  |true=>sPolyD (addP s1 (s2.map negT))
  |false=>none
 |false=>none
def sPolyB(f g:Po)(a b:T)(jx jy:Nat)(p q:Int×Nat):Option Po:=match bndQ p.1 p.2 with
 |true=>match bndQ q.1 q.2 with
  |true=>sPolyC (f.map (mulT (Nat.sub jx a.x) (Nat.sub jy a.y) p.1 p.2)) (g.map (mulT (Nat.sub jx b.x) (Nat.sub jy b.y) q.1 q.2))
  |false=>none
 |false=>none
noncomputable def nmax(a b:Nat):Nat:=match b8 a b with
 |true=>b
 |false=>a
theorem nmax_eq(a b:Nat):nmax a b=max a b:=by
 unfold nmax
 induction h:b8 a b using aB with
 |true=>rw[Nat.max_eq_right (bC h)]
 |false=>
  have:¬ a<=b:=fun q=>by rw[fj q]at h;exact bt h
  rw[Nat.max_eq_left (Nat.le_of_not_ge this)]
noncomputable def pY(a b:Nat):Nat:=match b8 a b with
 |true=>a
 |false=>b
theorem nmin_eq(a b:Nat):pY a b=min a b:=by
 unfold pY
 induction h:b8 a b using aB with
 |true=>rw[Nat.min_eq_left (bC h)]
 |false=>
  have:¬ a<=b:=fun q=>by rw[fj q]at h;exact bt h
  rw[Nat.min_eq_right (Nat.le_of_not_ge this)]
def G8(f g:Po)(a b:Option T):Option Po:=match a with
 |some a=>match b with
  |some b=>sPolyB f g a b (nmax a.x b.x) (nmax a.y b.y) (invQ a.n a.d) (invQ b.n b.d)
  |none=>none
 |none=>none
def sPoly(o:Bool)(f g:Po):Option Po:=G8 f g (lead o f) (lead o g)
section
variable {H:Hp}
set_option tactic.hygienic true in
theorem Lw(hf:aX f)(hg:aX g)(e:sPoly (gr o) f g=some s):aX s/\tJ [.dct (aj f),.dct (aj g),aK o] H=some (.dct (aj s),H):=by
 unfold sPoly G8 at e;split at e
 ·rename_i a ha;exists LQ e,b,hb,e
  ·unfold sPolyB at e;split at e
   ·rename_i hp;exists cm e,hq,e
    ·unfold sPolyC at e;split at e
     ·rename_i h1;exists cm e,h2,e
      ·unfold sPolyD at e;exists cm e,h3,e
       ·exists e;rw[nmax_eq,nmax_eq]at h1 h2 h3 ⊢;have k1:aX (f.map (mulT (max a.x b.x - a.x) (max a.y b.y - a.y) (invQ a.n a.d).1 (invQ a.n a.d).2)):=km h1 (uJ hf.2.2);have k2:aX (g.map (mulT (max a.x b.x - b.x) (max a.y b.y - b.y) (invQ b.n b.d).1 (invQ b.n b.d).2)):=km h2 (uJ hg.2.2);have k3:=km h3 (Bm k1.2.2);refine⟨k3,?_⟩;have a1:=(hf.2.1 a (gB ha)).2.2;have b1:=(hg.2.1 b (gB hb)).2.2;have p1:=n8 hp;have q1:=n8 hq;have m1:=ji (H:=⟨0,[]⟩) (o:=o) (av:=.dct (aj f)) rfl hf.2.2 (jL hf);have m2:=ji (H:=⟨0,[]⟩) (o:=o) (av:=.dct (aj g)) rfl hg.2.2 (jL hg);rw[ha]at m1;rw[hb]at m2;have l1:a.x<=max a.x b.x:=Nat.le_max_left _ _;have l2:a.y<=max a.y b.y:=Nat.le_max_left _ _;have l3:b.x<=max a.x b.x:=Nat.le_max_right _ _;have l4:b.y<=max a.y b.y:=Nat.le_max_right _ _;have e1:=CT (H:=⟨0,[]⟩) (x:=max a.x b.x - a.x) (y:=max a.y b.y - a.y) hf p1.1 p1.2;have e2:=CT (H:=⟨0,[]⟩) (x:=max a.x b.x - b.x) (y:=max a.y b.y - b.y) hg q1.1 q1.2;have e3:=Kp (H:=⟨0,[]⟩) (av:=.dct (aj (f.map (mulT (max a.x b.x - a.x) (max a.y b.y - a.y) (invQ a.n a.d).1 (invQ a.n a.d).2)))) rfl k1 k2;refine eT (H':=⟨1,[]⟩) ?_ (.cons dG (.cons dG (.cons fb .nil))) dG;unfold Ia Gf;rw[iA];simp! only[m1,m2,ly,Ju,wR,xV l1 l2,xV l3 l4,yu a1.1 a1.2,yu b1.1 b1.2,i8,e1,e2,e3];rfl
     ·exact nq e
   ·exact nq e
 ·exact nq e
end
end
section
open PySem
noncomputable abbrev Pr:=Nat×Nat
theorem pG{B:Type}{x:Option Pr}{f:Pr->Option B}{b:B}{P:Prop}(h:(match x with|some a=>f a|none=>none)=some b)(k:∀a,x=some a->f a=some b->P):P:=by induction x using aL with|none=>exact nq h|some a=>exact k a rfl h
theorem OQ{B:Type}{x:Option Pr}{f:Pr->Option B}{b:B}{P:Prop}(h:(match x with|none=>none|some a=>f a)=some b)(k:∀a,x=some a->f a=some b->P):P:=by induction x using aL with|none=>exact nq h|some a=>exact k a rfl h
theorem kG{B:Type}{x:Option (List Pr)}{f:List Pr->Option B}{b:B}{P:Prop}(h:(match x with|none=>none|some a=>f a)=some b)(k:∀a,x=some a->f a=some b->P):P:=by induction x using aL with|none=>exact nq h|some a=>exact k a rfl h
def A6(o:Bool)(x y i j x' y' i' j':Nat):Bool:=match bH x y x' y' with
 |true=>gtM false i' j' i j
 |false=>gtM o x' y' x y
section
variable {H:Hp}
theorem fZ(hl:l.length<=100000)(e:l[i]?=some v):subs H (.lst l) (V.int (.ofNat i))=some v:=by
 show guard' (lenOk l) l[i]?=_;rw[cW hl,e];rfl
theorem M0:subs H (encM x y) (V.int 0)=some (V.int (.ofNat x)):=rfl
theorem M1:subs H (encM x y) (V.int 1)=some (V.int (.ofNat y)):=rfl
noncomputable def hY(l:List Pr):Prop:=∀m∈l,m.1<=1000/\m.2<=1000
theorem mB{ls:List Pr}:NR (.lst (ls.map encN)):=.lst ES
theorem VA(hl:ls.length<=1000)(h:hY ls)(ha:ls[i]?=some a)(hb:ls[j]?=some b):∃H',A3 [encM i j,.lst (ls.map encN),aK o] ⟨0,[]⟩=some (.tup [keyV o (max a.1 b.1) (max a.2 b.2),encM i j],H'):=by
 have hlen:(ls.map encN).length<=100000:=by rw[aJ];lia
 have h1:(ls.map encN)[i]?=some (encN a):=by rw[dM,ha];rfl
 have h2:(ls.map encN)[j]?=some (encN b):=by rw[dM,hb];rfl
 have ba:=h a (eA ha);have bb:=h b (eA hb);refine⟨⟨0,[]⟩,?_⟩;unfold A3 Ge;rw[iA];simp! only[M0,M1,fZ hlen h1,fZ hlen h2,encN,wR,vT (x:=max a.1 b.1) (y:=max a.2 b.2) (Nat.max_le.mpr ⟨ba.1,bb.1⟩) (Nat.max_le.mpr ⟨ba.2,bb.2⟩)];clear bb ba h2 h1 hlen hb ha h hl;induction o using Internal.Od.casesOn <;> rfl
theorem FV(hv:frz H lv = .lst (ls.map encN))(hl:ls.length<=1000)(h:hY ls)(ha:ls[i]?=some a)(hb:ls[j]?=some b) :
  u4 [encM i j,lv,aK o] H=some (.tup [keyV o (max a.1 b.1) (max a.2 b.2),encM i j],H):=by
 exists aD (VA (o:=o) hl h ha hb),H',e;have hz:frz H (aK o)=aK o:=vn fb;have he:[encM i j,lv,aK o].map (frz H)=[encM i j,.lst (ls.map encN),aK o]:=by
  rw[aO,aO,aO,hv,hz];rfl
 exact dX (by rw[he];exact e) (by rw[he];exact .cons eR (.cons mB (.cons fb .nil))) (.tup (.cons Jo (.cons lO .nil)))
theorem uW:teq (n+2) (keyV o x y) (keyV o x' y')=bH x y x' y':=by
 have e1:∀a b:Nat,ieq (-Int.ofNat a) (-Int.ofNat b)=aF a b:=fun a b=>by
  rw[ieq_eq,fT,Nat.beq_eq];simp;exact Int.ofNat_inj
 unfold bH
 induction o using Internal.Od.casesOn with
 |lex=>
  show(match aF x x' with
   |true=>(match aF y y' with|true=>true|false=>false)
   |false=>false)=_
  clear e1;induction aF x x' using aB with
  |true=>induction aF y y' using aB <;> rfl
  |false=>rfl
 |iR=>
  show(match aF (x+y) (x'+y')with
   |true=>(match aF x x' with
    |true=>(match aF y y' with|true=>true|false=>false)
    |false=>false)
   |false=>false)=_
  clear e1;induction hx:aF x x' using aB with
  |true=>
   induction hy:aF y y' using aB with
   |true=>rw[cY hx,cY hy,eu]
   |false=>clear hy hx;induction aF (x+y) (x'+y')using aB <;> rfl
  |false=>clear hx;induction aF (x+y) (x'+y')using aB <;> rfl
 |grevlex=>
  show(match aF (x+y) (x'+y')with
   |true=>(match ieq (-Int.ofNat y) (-Int.ofNat y')with
    |true=>(match ieq (-Int.ofNat x) (-Int.ofNat x')with|true=>true|false=>false)
    |false=>false)
   |false=>false)=_
  rw[e1,e1];clear e1;induction hx:aF x x' using aB with
  |true=>
   induction hy:aF y y' using aB with
   |true=>rw[cY hx,cY hy,eu]
   |false=>clear hy hx;induction aF (x+y) (x'+y')using aB <;> rfl
  |false=>clear hx;induction hy:aF y y' using aB <;> induction aF (x+y) (x'+y')using aB <;> rfl
theorem Z3:∀(n:Nat) (l l':List Int) (f:V->V->Option Bool) (f':V->V->Option Bool),l.length=l'.length->(∀a b:Int,f (.int a) (.int b)=f' (.int b) (.int a))->fE false f (l.map .int) (l'.map .int)=fE true f' (l'.map .int) (l.map .int):=by
 intro n l
 induction l with
 |nil=>intro l' f f' h _;induction l' using aM with
  |nil=>rfl
  |cons=>cases h
 |cons a l ih=>
  intro l' f f' h hf
  induction l' using aM with
  |nil=>clear hf ih;cases h
  |cons b l'=>
   show(match ieq a b with
    |true=>fE false f (l.map .int) (l'.map .int)
    |false=>f (.int a) (.int b))=(match ieq b a with
    |true=>fE true f' (l'.map .int) (l.map .int)
    |false=>f' (.int b) (.int a))
   have hc:ieq b a=ieq a b:=by rw[ieq_eq,ieq_eq,fT];simp;exact eq_comm
   rw[hc,ih l' f f' (gW h) hf,hf a b]
noncomputable def sz:Od->Nat->Nat->List Int
 |.lex,x,y=>[.ofNat x,.ofNat y]
 |.iR,x,y=>[.ofNat (x+y),.ofNat x,.ofNat y]
 |.grevlex,x,y=>[Int.ofNat (x+y),-Int.ofNat y,-Int.ofNat x]
theorem IC:keyV o x y = .tup ((sz o x y).map .int):=by induction o using Internal.Od.casesOn <;> rfl
theorem NU:(sz o x y).length=(sz o x' y').length:=by induction o using Internal.Od.casesOn <;> rfl
theorem tN(n:Nat):tcmp false (n+2) (keyV o x y) (keyV o x' y')=some (gtM (gr o) x' y' x y):=by
 have h:=DQ (H:=e0) (x:=x') (y:=y') (x':=x) (y':=y) o;have h2:bu .Gt (keyV o x' y') (keyV o x y) e0=fE true (tcmp true 7) ((sz o x' y').map .int) ((sz o x y).map .int):=by clear h;induction o using Internal.Od.casesOn <;> rfl
 rw[h2]at h;rw[<- h,IC,IC];show fE false (tcmp false (n+1)) _ _=_;exact Z3 0 _ _ _ _ NU fun _ _=>rfl
theorem ZZ:bu .Lt (.tup [keyV o x y,encM i j]) (.tup [keyV o x' y',encM i' j']) H=some (A6 (gr o) x y i j x' y' i' j'):=by
 have h0:bu .Lt (.tup [keyV o x y,encM i j]) (.tup [keyV o x' y',encM i' j']) H=fE false (tcmp false 7) [keyV o x y,encM i j] [keyV o x' y',encM i' j']:=by induction o using Internal.Od.casesOn <;> rfl
 rw[h0];show(match teq 8 (keyV o x y) (keyV o x' y')with
  |true=>(match teq 8 (encM i j) (encM i' j')with
   |true=>some false
   |false=>tcmp false 7 (encM i j) (encM i' j'))
  |false=>tcmp false 7 (keyV o x y) (keyV o x' y'))=_
 rw[uW (n:=6),tN 5,show teq 8 (encM i j) (encM i' j')=bH i j i' j' from uW (o:=.lex) (n:=6),show tcmp false 7 (encM i j) (encM i' j')=_ from tN (o:=.lex) 5];unfold A6;clear h0;induction bH x y x' y' using aB with
 |false=>rfl
 |true=>
  dsimp only
  induction h:bH i j i' j' using aB with
  |false=>rfl
  |true=>
   exists ak ((i3 _ _ _ _).mp h),Nf,AS;clear h;subst Nf;subst AS;dsimp only;have:gtM false i j i j=false:=gS.mpr fun q=>by
    have:=(tZ false).mp q;dsimp only at this
    lia
   rw[this]
def rI(leads:List Pr)(p:Pr):Option Pr:=match leads[p.1]? with
 |some a=>match leads[p.2]? with
  |some b=>some (nmax a.1 b.1,nmax a.2 b.2)
  |none=>none
 |none=>none
set_option tactic.hygienic true in
theorem FK(h:rI leads p=some k):∃a b,leads[p.1]?=some a/\leads[p.2]?=some b/\k=(max a.1 b.1,max a.2 b.2):=by
 unfold rI at h;split at h
 ·rename_i a ha;exists pG h,b,hb,h
  ·exists h;rw[nmax_eq,nmax_eq];exact⟨a,b,ha,hb,rfl⟩
 ·exact nq h
def K9(go:Pr->Pr->Option Pr)(o:Bool)(b j p:Pr)(k:Option Pr):Option Pr:=match k with
 |some k=>match A6 o k.1 k.2 p.1 p.2 j.1 j.2 b.1 b.2 with
  |true=>go p k
  |false=>go b j
 |none=>none
noncomputable def leastG(o:Bool)(leads:List Pr):List Pr->Pr->Pr->Option Pr
 |[],b,_=>some b
 |p::r,b,j=>K9 (leastG o leads r) o b j p (rI leads p)
def least(o:Bool)(leads:List Pr)(w:List Pr):Option Pr:=match w with
 |[]=>none
 |p::r=>match rI leads p with
  |some k=>leastG o leads r p k
  |none=>none
def tO:List MS:=[(.assign 6 (.call u4 [(.var 5),(.var 1),(.var 2)])),(.if_ (.eU [(.cmp .Is (.var 3) (.const .none)),(.cmp .Lt (.var 6) (.var 4))]) [(.unpack [3,4] (.tup [(.var 5),(.var 6)]))] [])]
theorem MJ(hl:ls.length<=1000)(h:hY ls):∀(w:List Pr) (b j res:Pr) (o5 o6:Option V),leastG (gr o) ls w b j=some res->
  ∃v nk PU,loopF [5] false (denSs (denS 19) tO) (w.map encN) (x0::some (.lst (ls.map encN))::some (aK o)::some (encN b)::some (.tup [keyV o j.1 j.2,encN b])::o5::o6::r) H =
   some (.next,x0::some (.lst (ls.map encN))::some (aK o)::some (encN res)::v::nk::PU::r,H):=by
 intro w
 induction w with
 |nil=>intro b j res o5 o6 e;exists e;exact⟨_,o5,o6,rfl⟩
 |cons p w ih=>
  intro b j res o5 o6 e;have e:K9 (leastG (gr o) ls w) (gr o) b j p (rI ls p)=some res:=e;exists pG e,k,hk,e
  ·exists cB (FK hk),a,c,ha,hc,CS;clear hk;subst CS;rw[aO,fz];unfold tO;have e1:=FV (H:=H) (o:=o) (lv:=.lst (ls.map encN)) rfl hl h ha hc;simp! only[encN,e1,is_none,Ak,ZZ];unfold tO encN at ih;split at e
   ·rename_i q;simp! only[q];exact ih p _ res _ _ e
   ·rename_i q;simp! only[q];exact ih b _ res _ _ e
set_option tactic.hygienic true in
theorem Rd{o:Od}{ls w:List Pr}{res:Pr}(hl:ls.length<=1000)(h:hY ls)(e:least (gr o) ls w=some res):xW [.lst (w.map encN),.lst (ls.map encN),aK o] ⟨0,[]⟩=some (encN res,⟨0,[]⟩):=by
 unfold least at e;split at e
 ·exact nq e
 ·rename_i p w;exists pG e,k,hk,e
  ·exists cB (FK hk),a,c,ha,hc,Zj;clear hk;subst Zj;have e1:=FV (H:=⟨0,[]⟩) (o:=o) (lv:=.lst (ls.map encN)) rfl hl h ha hc;have it:∀H,iterOf H .seq [.lst ((p::w).map encN)]=some ((p::w).map encN):=fun _=>rfl;exists kO (MJ (H:=⟨0,[]⟩) hl h (x0:=some (.lst ((p::w).map encN))) (r:=cq 15 none) w p _ res (some (encN p)) (some (.tup [keyV o (max a.1 c.1) (max a.2 c.2),encN p])) e),v,o5,o6,el;unfold xW DF;rw[iA];simp! only[it,sG];rw[aO,fz];unfold tO at el;simp only[rep0,rep1]at el;simp only[encN]at el e1;simp! only[encN,e1,is_none,show isNone V.none=true from rfl];rw[aO]at el;simp only[encN]at el;rw[el];simp! only[mW];rfl
theorem Nh{o:Od}{ls w:List Pr}{res:Pr}{wv lv:V}(hw:frz H wv = .lst (w.map encN))(hv:frz H lv = .lst (ls.map encN))(hl:ls.length<=1000)(h:hY ls)(e:least (gr o) ls w=some res):vO [wv,lv,aK o] H=some (encN res,H):=by
 have hz:frz H (aK o)=aK o:=vn fb;have he:[wv,lv,aK o].map (frz H)=[.lst (w.map encN),.lst (ls.map encN),aK o]:=by
  rw[aO,aO,aO,hw,hv,hz];rfl
 exact dX (by rw[he];exact Rd hl h e) (by rw[he];exact .cons mB (.cons mB (.cons fb .nil))) lO
end
end
section
open PySem
noncomputable def memP(i j:Nat):List Pr->Bool
 |[]=>false
 |q::r=>match bH q.1 q.2 i j with
  |true=>true
  |false=>memP i j r
section
variable {H:Hp}
theorem Eb:res H (k+2) (encM i j)=some (encM i j):=rfl
theorem WN(w:List Pr):resL (res H (k+2)) (w.map encN)=some (w.map encN):=by
 induction w with
 |nil=>
  exact rfl
 |cons a w ih=>
  show(match res H (k+2) (encN a)with
   |some b=>match resL (res H (k+2)) (w.map encN)with
    |some s=>some (b::s)
    |none=>none
   |none=>none)=_
  rw[show res H (k+2) (encN a)=some (encN a)from Eb,ih];rfl
theorem Ji:teq (n+2) (encM i j) (encM i' j')=bH i j i' j':=uW (o:=.lex)
theorem O5(w:List Pr):tmem (encM i j) (w.map encN)=memP i j w:=by
 induction w with
 |nil=>
  exact rfl
 |cons a w ih=>
  show(match teq deepN (encN a) (encM i j)with
   |true=>true
   |false=>tmem (encM i j) (w.map encN))=_
  rw[show teq deepN (encN a) (encM i j)=bH a.1 a.2 i j from Ji (n:=6),ih];rfl
theorem yv(h:w.length<=10000):bu .NotIn (encM i j) (.lst (w.map encN)) H=some (!memP i j w):=by
 show jG (guard' (lenOk (w.map encN)) (sR H (encM i j) (w.map encN)))=_;rw[cW (by rw[aJ];lia)];show jG (match res H 7 (encM i j)with
  |some x=>match resL (res H 7) (w.map encN)with
   |some l=>some (tmem x l)
   |none=>none
  |none=>none)=_
 rw[Eb (k:=5),WN (k:=5)];show jG (some (tmem (encM i j) (w.map encN)))=_;rw[O5];rfl
theorem My:bu .In (V.int (.ofNat k)) (encM i j) H=some (match aF i k with|true=>true|false=>aF j k):=by
 show some (match aF i k with
  |true=>true
  |false=>(match aF j k with
   |true=>true
   |false=>false))=_
 induction aF i k using aB with
 |true=>rfl
 |false=>induction aF j k using aB <;> rfl
theorem Zy:eB ρ [a,b] true (encM i j)=some (slotS (slotS ρ a (some (.int (.ofNat i)))) b (some (.int (.ofNat j)))):=rfl
theorem Dy:cw .min2 [V.int (.ofNat i),V.int (.ofNat j)] H=some (V.int (.ofNat (min i j)),H):=by rw[<- BG];rfl
theorem IF:cw .max2 [V.int (.ofNat i),V.int (.ofNat j)] H=some (V.int (.ofNat (max i j)),H):=by rw[<- zQ];rfl
theorem EC:pz (.bool b) H=some (.bool (!b),H):=rfl
theorem encM_eq:V.tup [V.int (Int.ofNat i),V.int (Int.ofNat j)]=encM i j:=rfl
def GG(go:Bool)(i j k:Nat)(w:List Pr):Bool:=match memP (pY i k) (nmax i k) w with
 |true=>go
 |false=>match memP (pY j k) (nmax j k) w with
  |true=>go
  |false=>true
def Dr(go:Bool)(i j k:Nat)(w:List Pr)(d:Bool):Bool:=match aF i k with
 |true=>go
 |false=>match aF j k with
  |true=>go
  |false=>match d with
   |false=>go
   |true=>GG go i j k w
noncomputable def sW(i j jx jy:Nat)(w:List Pr):Nat->List Pr->Bool
 |_,[]=>false
 |k,l::r=>Dr (sW i j jx jy w (Nat.succ k) r) i j k w (dvd' l.1 l.2 jx jy)
def uH:List MS:=[(.if_ (.eU [(.cmp .In (.var 6) (.var 0)),(.kY (.call oU [(.var 7),(.var 5)]))]) [.cont] []),(.if_ (.kS [(.cmp .NotIn (.tup [(.bi .min2 [(.var 3),(.var 6)]),(.bi .max2 [(.var 3),(.var 6)])]) (.var 1)),(.cmp .NotIn (.tup [(.bi .min2 [(.var 4),(.var 6)]),(.bi .max2 [(.var 4),(.var 6)])]) (.var 1))]) [(.ret (.const (.bool true)))] [])]
noncomputable def CH(ρ:ai)(H:Hp)(b:Bool):Option (Fl×ai×Hp):=match b with
 |false=>some (.next,ρ,H)
 |true=>some (.ret (.bool true),ρ,H)
theorem XO(hw:w.length<=10000):∀(ls:List Pr) (k:Nat) (o6 o7:Option V),
  ∃ρ,loopF [6,7] true (denSs (denS 19) uH) (enumL (Int.ofNat k) (ls.map encN)) (some (encM i j)::some (.lst (w.map encN))::x2::some (.int (.ofNat i))::some (.int (.ofNat j))::some (encM jx jy)::o6::o7::r) H=CH ρ H (sW i j jx jy w k ls):=by
 intro ls
 induction ls with
 |nil=>intro k o6 o7;exact⟨_,rfl⟩
 |cons l ls ih=>
  intro k o6 o7;exists aD (ih (k+1) (some (.int (.ofNat k))) (some (encN l))),ρ,e;rw[aO];show ∃ρ,loopF _ _ _ (V.tup [.int (.ofNat k),encN l]::enumL (Int.ofNat (k+1)) (ls.map encN)) _ _=_;rw[fz];unfold uH;unfold uH encN at e;dsimp only[sW,Dr];simp! only[encN,My]
  induction aF i k using aB with
  |true=>
   simp! only[];exact⟨ρ,e⟩
  |false=>
   induction aF j k using aB with
   |true=>
    simp! only[];exact⟨ρ,e⟩
   |false=>
    simp! only[Et,EC]
    induction dvd' l.1 l.2 jx jy using aB with
    |false=>
     simp! only[Bool.not_false];exact⟨ρ,e⟩
    |true=>
     unfold GG;rw[nmin_eq,nmax_eq,nmin_eq,nmax_eq];simp! only[Bool.not_true,Dy,IF,encM_eq,yv hw]
     induction memP (min i k) (max i k) w using aB with
     |true=>
      simp! only[Bool.not_true];exact⟨ρ,e⟩
     |false=>
      simp! only[Bool.not_false,Dy,IF,encM_eq,yv hw]
      induction memP (min j k) (max j k) w using aB with
      |true=>
       simp! only[Bool.not_true];exact⟨ρ,e⟩
      |false=>
       simp! only[Bool.not_false];exact⟨_,rfl⟩
def needlessA(p:Pr)(w ls:List Pr)(a b:Pr):Bool:=match aF (Nat.add (pY a.1 b.1) (pY a.2 b.2)) 0 with
 |true=>true
 |false=>sW p.1 p.2 (nmax a.1 b.1) (nmax a.2 b.2) w 0 ls
def nO(p:Pr)(w ls:List Pr):Option Bool:=match ls[p.1]? with
 |some a=>match ls[p.2]? with
  |some b=>some (needlessA p w ls a b)
  |none=>none
 |none=>none
set_option tactic.hygienic true in
theorem Lv(hw:w.length<=10000)(hl:ls.length<=1000)(h:hY ls)(e:nO p w ls=some r):∃H',zH [encN p,.lst (w.map encN),.lst (ls.map encN)] ⟨0,[]⟩=some (.bool r,H'):=by
 refine⟨⟨0,[]⟩,?_⟩;unfold nO at e;split at e
 ·rename_i a ha;exists pG e,b,hb,e
  ·exists e;have hlen:(ls.map encN).length<=100000:=by rw[aJ];lia
   have h1:(ls.map encN)[p.1]?=some (encN a):=by rw[dM,ha];rfl
   have h2:(ls.map encN)[p.2]?=some (encN b):=by rw[dM,hb];rfl
   have ba:=h a (eA ha);unfold needlessA;rw[nmin_eq,nmin_eq,nmax_eq,nmax_eq];have e3:=Vt (H:=⟨0,[]⟩) (x:=a.1) (y:=a.2) (x':=b.1) (y':=b.2) ba.1 ba.2;have it:∀H,iterOf H .enum [.lst (ls.map encN)]=some (enumL (Int.ofNat 0) (ls.map encN)):=fun _=>rfl;exists aD (XO (H:=⟨0,[]⟩) (i:=p.1) (j:=p.2) (jx:=max a.1 b.1) (jy:=max a.2 b.2) hw (x2:=some (.lst (ls.map encN))) (r:=cq 15 none) ls 0 none none),ρ,el;unfold zH JC;rw[iA];unfold uH at el;simp only[rep0,rep1,encN]at el;simp only[encN]at h1 h2 hlen it;simp! only[encN,Zy,fZ hlen h1,fZ hlen h2,e3];show _=some (V.bool (match aF (min a.1 b.1+min a.2 b.2) 0 with|true=>true|false=>_),_)
   induction aF (min a.1 b.1+min a.2 b.2) 0 using aB with
   |true=>
    simp! only[];rfl
   |false=>
    simp! only[fZ hlen h1,fZ hlen h2,wR,it,sG];rw[el]
    induction sW p.1 p.2 (max a.1 b.1) (max a.2 b.2) w 0 ls using aB with
    |true=>
     simp! only[CH,mW];rfl
    |false=>
     simp! only[CH,mW];rfl
 ·exact nq e
theorem Fi(UR:frz H wv = .lst (w.map encN))(hv:frz H lv = .lst (ls.map encN))(hw:w.length<=10000)(hl:ls.length<=1000)(h:hY ls)(e:nO p w ls=some r):tQ [encN p,wv,lv] H=some (.bool r,H):=by
 exists aD (Lv hw hl h e),H',e;have he:[encN p,wv,lv].map (frz H)=[encN p,.lst (w.map encN),.lst (ls.map encN)]:=by
  rw[aO,aO,aO,UR,hv];rfl
 exact dX (by rw[he];exact e) (by rw[he];exact .cons eR (.cons mB (.cons mB .nil))) (.bool _)
end
end
section
open PySem
section
variable {H:Hp}
theorem B3:put (put es k a o) k b p=put es k b p:=by
 induction es with
 |nil=>
  exact rfl
 |cons e0 r ih=>
  obtain⟨i,l,q⟩:=e0;by_cases e:i=k
  ·subst e;rw[jd,jd,jd]
  ·rw[eQ e,eQ e,eQ e,ih]
theorem mR(hc:look es c=some ⟨c,false,o⟩)(hk:k≠c)(h:forItems f items ⟨n,⟨k,false,.list []⟩::put es c true o⟩=some ⟨n,⟨k,false,.list l⟩::put es c true o⟩) :
  compGo k f items [.ref c] ⟨n,⟨k,false,.list []⟩::es⟩=some (.ref k,⟨n,⟨k,false,.list l⟩::es⟩):=by
 have hl:lockH ⟨n,⟨k,false,.list []⟩::es⟩ [.ref c]=⟨n,⟨k,false,.list []⟩::put es c true o⟩:=by
  show(⟨n,cN (⟨k,false,.list []⟩::es) (.ref c)⟩:Hp)=_;rw[vR ((dm hk).trans hc),eQ hk]
 show dC k (unlH (⟨k,false,.list []⟩::es) [.ref c] (forItems f items (lockH ⟨n,⟨k,false,.list []⟩::es⟩ [.ref c])))=_;rw[hl,h];show dC k (some ⟨n,gT (⟨k,false,.list []⟩::es) (⟨k,false,.list l⟩::put es c true o) (.ref c)⟩)=_;rw[s6 ((dm hk).trans hc) ((dm hk).trans (m7 hc)),eQ hk,B3,nK hc,qO]
theorem HE(h:forItems f items ⟨n,⟨k,false,.list []⟩::es⟩=some ⟨n,⟨k,false,.list l⟩::es⟩):compGo k f items [.int i] ⟨n,⟨k,false,.list []⟩::es⟩=some (.ref k,⟨n,⟨k,false,.list l⟩::es⟩):=by
 show dC k (unlH _ [.int i] (forItems f items ⟨n,⟨k,false,.list []⟩::es⟩))=_;rw[h];rfl
noncomputable def ay(i:Nat):V:=.int (.ofNat i)
theorem range_eq(n:Nat):∀(a:Nat),rangeL (Int.ofNat a) n=(eE a n).map ay:=by
 induction n with
 |zero=>
  intro _;exact rfl
 |succ n ih=>
  intro a;show V.int (.ofNat a)::rangeL (Int.ofNat (a+1)) n=_;rw[ih (a+1)];rfl
theorem ti(h:n<=1000):iterOf H .range1 [V.int (.ofNat n)]=some ((eE 0 n).map ay):=by
 show(match inB (-100000) 100000 (.ofNat n)with
  |true=>some (rangeL 0 n)
  |false=>none)=_
 have:inB (-100000) 100000 (.ofNat n)=true:=by
  unfold inB;have h1:ilt (.ofNat n) (-100000)=false:=rfl;have h2:ilt 100000 (.ofNat n)=false:=by
   rw[ilt_eq];simp;lia
  rw[h1,h2]
 rw[this];exact congrArg some (range_eq n 0)
theorem yk(hl:l.length<=100000):cw .len [V.dct l] H=some (V.int (.ofNat l.length),H):=by
 show guard' (lenOk l) (some (V.int (.ofNat l.length),H))=_;rw[cW hl];rfl
theorem n5(hl:l.length<=100000):cw .len [V.lst l] H=some (V.int (.ofNat l.length),H):=by
 show guard' (lenOk l) (some (V.int (.ofNat l.length),H))=_;rw[cW hl];rfl
theorem lC:bu .Gt (V.int (.ofNat n)) (V.int 0) H=some (c9 0 n):=rfl
theorem JI:bu .NotEq (encM i j) (encM i' j') H=some (!bH i j i' j'):=by
 show some (!teq 8 (encM i j) (encM i' j'))=_;rw[Ji (n:=6)]
theorem u7(bs:List Po):(ar bs).map (freezeV es n0 k)=ar bs:=by
 induction bs with
 |nil=>
  exact rfl
 |cons p r ih=>
  show freezeV es n0 k (.dct (aj p))::(ar r).map (freezeV es n0 k)=_;rw[ih,show freezeV es n0 k (.dct (aj p)) = .dct (aj p) by clear ih;induction k using bL <;> rfl];rfl
end
def BF(r:Po):Option Po:=match iG r with
 |true=>some r
 |false=>none
def xN(p:Po)(q:Int×Nat):Option Po:=match bndQ q.1 q.2 with
 |true=>BF (p.map (t9 q.1 q.2))
 |false=>none
def C7(p:Po)(t:Option T):Option Po:=match t with
 |none=>none
 |some t=>xN p (invQ t.n t.d)
def mon(o:Bool)(p:Po):Option Po:=C7 p (lead o p)
theorem vi(hp:aX p)(e:mon o p=some r):∃t,lead o p=some t/\cM (invQ t.n t.d).1 (invQ t.n t.d).2/\(invQ t.n t.d).1≠0/\lu o p=r/\aX r:=by
 unfold mon C7 at e;exists KA e,t,ht,e
 ·unfold xN at e;exists cm e,hq,e
  ·unfold BF at e;exists cm e,hr,e
   ·exists e;refine⟨t,ht,(n8 hq).1,(n8 hq).2,?_,km hr (ui _ (fun _ _ q=>q) hp.2.2)⟩;unfold lu;rw[ht]
theorem xl(hp:aX p)(e:mon (gr o) p=some r):aX r/\jn [.dct (aj p),aK o] H=some (.dct (aj r),H):=by
 exists mC (vi hp e),t,ht,h1,h2,UM,h4;clear e;subst UM;exact⟨h4,Tt hp fun t' e'=>by rw[ht]at e';exists e';exact⟨h1,h2⟩⟩
noncomputable def mons(o:Bool):List Po->Option (List Po)
 |[]=>some []
 |p::r=>match mon o p with
  |none=>none
  |some q=>match mons o r with
   |none=>none
   |some s=>some (q::s)
set_option tactic.hygienic true in
theorem HG:∀{b:List Po},mons o s=some b->s.length=b.length/\(∀p∈s,∃q,mon o p=some q)/\b=s.map (lu o)/\((∀p∈s,aX p)->∀q∈b,aX q):=by
 induction s with
 |nil=>
  intro b e;exists e;exact⟨rfl,fun p m=>(by cases m),rfl,fun _ q m=>by cases m⟩
 |cons p r ih=>
  intro b e;dsimp only[mons]at e;split at e
  ·exact nq e
  ·rename_i q hq;exists Nc e,s,hs,e
   ·exists e;exists fu (ih hs),h1,h2,h3,h4;refine⟨by rw[fV,fV,h1],fun p' m=>?_,?_,fun hp q' m=>?_⟩
    ·rcases aI.mp m with rfl|m
     ·exact⟨q,hq⟩
     ·exact h2 p' m
    ·rw[aO,<- h3];congr 1;have:=hq;unfold mon C7 at this;exists KA this,t,ht,this
     ·unfold xN at this;exists cm this,Z0,this
      ·unfold BF at this;exists cm this,Z0,this
       ·exists this;unfold lu;rw[ht]
    ·rcases aI.mp m with rfl|m
     ·exists mC (vi (hp p (.head _)) hq),Z0,Z0,Z0,Z0,Z0,h;exact h
     ·exact h4 (fun p m=>hp p (.tail _ m)) q' m
noncomputable def leadsP(o:Bool):List Po->Option (List Pr)
 |[]=>some []
 |p::r=>match lead o p with
  |none=>none
  |some t=>match leadsP o r with
   |none=>none
   |some s=>some ((t.x,t.y)::s)
set_option tactic.hygienic true in
theorem tx:∀{ls:List Pr},leadsP o b=some ls->b.length=ls.length/\(∀p∈b,∃t,lead o p=some t)/\ls=b.map (fun p=>match lead o p with|none=>(0,0)|some t=>(t.x,t.y))/\((∀p∈b,aX p)->hY ls):=by
 induction b with
 |nil=>
  intro ls e;exists e;exact⟨rfl,fun p m=>(by cases m),rfl,fun _ q m=>by cases m⟩
 |cons p r ih=>
  intro ls e;dsimp only[leadsP]at e;split at e
  ·exact nq e
  ·rename_i t ht;exists kG e,s,hs,e
   ·exists e;exists fu (ih hs),h1,h2,h3,h4;refine⟨by rw[fV,fV,h1],fun p' m=>?_,?_,fun hp q' m=>?_⟩
    ·rcases aI.mp m with rfl|m
     ·exact⟨t,ht⟩
     ·exact h2 p' m
    ·rw[aO,ht,<- h3]
    ·rcases aI.mp m with rfl|m
     ·have:=(hp p (.head _)).2.1 t (gB ht);exact⟨br this.1 dq,br this.2.1 dq⟩
     ·exact h4 (fun p m=>hp p (.tail _ m)) q' m
end
section
open PySem
noncomputable def pairsTo(n:Nat):List Pr:=(eE 0 n).map fun i=>(i,n)
def allP(n:Nat):List Pr:=(eE 0 n).flatMap pairsTo
section
variable {H:Hp}
theorem pairs_len:(pairsTo n).length=n:=by unfold pairsTo;rw[aJ,k9]
theorem F2{A B:Type}{f:A->List B}{m:Nat}(s:List A):(∀a∈s,(f a).length<=m)->(s.flatMap f).length<=s.length * m:=by
 induction s with
 |nil=>
  intro _;exact Nat.le_of_eq (by simp)
 |cons a s ih=>
  intro h;rw[iT,d8,fV,Nat.succ_mul];have:=ih fun b m=>h b (.tail _ m);have:=h a (.head _)
  lia
theorem mem_range(h:i∈eE 0 n):i<n:=by
 have:=List.mem_range'.mp h
 lia
theorem Tf{A:Type}{k:Nat}{f:V->Hp->Option Hp}{enc:A->V}{n:Nat}{es:List Ent}(F:A->List V):∀(s:List A) (acc:List V),(∀a∈s,∀acc:List V,acc.length+(F a).length<=90000->f (enc a) ⟨n,⟨k,false,.list acc⟩::es⟩=some ⟨n,⟨k,false,.list (acc++F a)⟩::es⟩)->
  acc.length+(s.flatMap F).length<=90000->forItems f (s.map enc) ⟨n,⟨k,false,.list acc⟩::es⟩=some ⟨n,⟨k,false,.list (acc++s.flatMap F)⟩::es⟩:=by
 intro s
 induction s with
 |nil=>intro acc _ _;simp only[List.map_nil,List.flatMap_nil,g4];rfl
 |cons a s ih=>
  intro acc hf hl;rw[iT,d8]at hl;rw[aO,iT];show(match f (enc a) ⟨n,⟨k,false,.list acc⟩::es⟩with
   |some H=>forItems f (s.map enc) H
   |none=>none)=_
  rw[hf a (.head _) acc (by lia)];dsimp only;rw[ih (acc++F a) (fun b m=>hf b (.tail _ m)) (by rw[d8];lia),jt]
theorem yy(hs:∀p∈s,aX p)(hb:mons (gr o) s=some b)(hl:leadsP (gr o) b=some ls)(hlen:s.length<=40) :
  (den 19 (.lcomp [9,10] (.call jn [(.var 10),(.var 1)]) [([10],false,.seq,[(.var 0)],[(.cmp .Gt (.bi .len [(.var 10)]) (.const (.int 0)))])]) (some (.lst (ar s))::some (aK o)::x2::x3::x4::x5::x6::x7::x8::x9::x10::x11::r) ⟨0,[]⟩=some (.ref 0,⟨1,[⟨0,false,.list (ar b)⟩]⟩))/\
  (den 19 (.lcomp [9,10] (.sub (.call cV [(.var 10),(.var 1)]) (.const (.int 0))) [([10],false,.seq,[(.var 3)],[])]) (some (.lst (ar s))::some (aK o)::x2::some (.ref 0)::x4::x5::x6::x7::x8::x9::x10::x11::r) ⟨1,[⟨0,false,.list (ar b)⟩]⟩=some (.ref 1,⟨2,[⟨1,false,.list (ls.map encN)⟩,⟨0,false,.list (ar b)⟩]⟩))/\
  (den 19 (.lcomp [9,10,11] (.tup [(.var 11),(.var 10)]) [([10],false,.range1,[(.bi .len [(.var 3)])],[]),([11],false,.range1,[(.var 10)],[])]) (some (.lst (ar s))::some (aK o)::x2::some (.ref 0)::x4::x5::x6::x7::x8::x9::x10::x11::r) ⟨2,[⟨1,false,.list (ls.map encN)⟩,⟨0,false,.list (ar b)⟩]⟩ =
   some (.ref 2,⟨3,[⟨2,false,.list ((allP b.length).map encN)⟩,⟨1,false,.list (ls.map encN)⟩,⟨0,false,.list (ar b)⟩]⟩)):=by
 exists fu (HG hb),m1,m2,m3,m4;exists fu (tx hl),n1,n2,n3,n4;have jm:=m4 hs;refine⟨?_,?_,?_⟩
 ·have it:∀H,iterOf H .seq [.lst (ar s)]=some (ar s):=fun _=>rfl;simp! only[it];refine jc ?_;have:=dK (k:=0) (n:=1) (es:=[]) (enc:=fun p:Po=>V.dct (aj p)) (f:=turn (den 18) [10] false [.cmp .Gt (.bi .len [.var 10]) (.const (.int 0))] (ck 0 (.call jn [.var 10,.var 1]) (den 18)) (some (.lst (ar s))::some (aK o)::x2::x3::x4::x5::x6::x7::x8::none::none::x11::r)) (fun p=>[.dct (aj (lu (gr o) p))]) s [] (fun p m acc ha=>by
   exists aD (m2 p m),q,hq;exists mC (vi (hs p m) hq),t,ht,Z0,Z0,he,Z0;have gi:0<p.length:=List.length_pos_of_mem (gB ht);have hle:=(hs p m).1;have e1:∀H,cw .len [V.dct (aj p)] H=some (V.int (.ofNat p.length),H):=fun H=>by
    have:=yk (H:=H) (l:=aj p) (by rw[gK];lia);rw[gK]at this;exact this
   simp! only[e1,lC,kZ gi,(xl (hs p m) hq).2];rw[he];exact dg ha) (by rw[eY];show 0+s.length<=_;lia)
  rw[eN,dp]at this;show forItems _ (s.map _) _=_;rw[this,m3];unfold ar;rw[d5];rfl
 ·have it:∀H,aq H 0 (ar b)->iterOf H .seq [.ref 0]=some (ar b):=fun H h=>by
   show(match seqView H (.ref 0)with|some l=>some l|none=>_)=_
   rw[show seqView H (.ref 0)=some (ar b)from h.view]
  simp! only[it _ aq.hd];refine mR (o:=.list (ar b)) rfl dq ?_;have:=dK (k:=1) (n:=2) (es:=put [⟨0,false,.list (ar b)⟩] 0 true (.list (ar b))) (enc:=fun p:Po=>V.dct (aj p)) (f:=turn (den 18) [10] false [] (ck 1 (.sub (.call cV [.var 10,.var 1]) (.const (.int 0))) (den 18)) (some (.lst (ar s))::some (aK o)::x2::some (.ref 0)::x4::x5::x6::x7::x8::none::none::x11::r)) (fun p=>[encN (match lead (gr o) p with|none=>(0,0)|some t=>(t.x,t.y))]) b [] (fun p m acc ha=>by
   exists aD (n2 p m),t,ht;have e1:∀H,cV [.dct (aj p),aK o] H=some (bW (lead (gr o) p),H):=fun H=>ji (av:=.dct (aj p)) rfl (jm p m).2.2 (jL (jm p m));rw[ht]at e1;rw[ht];simp! only[e1,ly];exact dg ha) (by rw[eY];show 0+b.length<=_;lia)
  rw[eN,dp]at this;show forItems _ (b.map _) _=_;rw[this,n3,d5];rfl
 ·have hn:b.length<=1000:=by lia
  have e1:∀(H:Hp),aq H 0 (ar b)->cw .len [V.ref 0] H=some (V.int (.ofNat b.length),H):=fun H h=>by
   have:=lW h (by unfold ar;rw[aJ];lia);unfold ar at this;rw[aJ]at this;exact this
  have sh:aq ⟨2,[⟨1,false,.list (ls.map encN)⟩,⟨0,false,.list (ar b)⟩]⟩ 0 (ar b):=rfl;simp! only[e1 _ sh,ti hn];refine HE ?_;have hp:∀a∈eE 0 b.length,((pairsTo a).map encN).length<=40:=fun a m=>by
   have:=mem_range m;rw[aJ,pairs_len];lia
  have:=Tf (k:=2) (n:=3) (es:=[⟨1,false,.list (ls.map encN)⟩,⟨0,false,.list (ar b)⟩]) (enc:=ay) (f:=turn (den 18) [10] false [] (runGens (den 18) (ck 2 (.tup [.var 11,.var 10]) (den 18)) [([11],false,.range1,[.var 10],[])]) (some (.lst (ar s))::some (aK o)::x2::some (.ref 0)::x4::x5::x6::x7::x8::none::none::none::r)) (fun j=>(pairsTo j).map encN) (eE 0 b.length) [] (fun j m acc ha=>by
   have hj:=mem_range m;have nQ:∀H,lockH H [ay j]=H:=fun _=>rfl;simp! only[FW,show ∀H,iterOf H .range1 [ay j]=some ((eE 0 j).map ay)from fun H=>ti (by lia),nQ];have:=dK (k:=2) (n:=3) (es:=[⟨1,false,.list (ls.map encN)⟩,⟨0,false,.list (ar b)⟩]) (enc:=ay) (f:=turn (den 18) [11] false [] (ck 2 (.tup [.var 11,.var 10]) (den 18)) (some (.lst (ar s))::some (aK o)::x2::some (.ref 0)::x4::x5::x6::x7::x8::none::some (ay j)::none::r)) (fun i=>[encM i j]) (eE 0 j) acc (fun i m acc ha=>by
    simp! only[];exact dg ha) (by rw[eY,k9];rw[aJ,pairs_len]at ha;exact ha)
   rw[eN]at this;rw[this];unfold pairsTo;rw[d5];rfl) (by have:=F2 (m:=40) (f:=fun j=>(pairsTo j).map encN) _ hp;rw[k9]at this;show 0+_<=_;lia)
  rw[dp]at this;rw[this];unfold allP;rw[List.map_flatMap]
end
end
section
open PySem
noncomputable def dropP(p:Pr):List Pr->List Pr
 |[]=>[]
 |q::r=>match bH q.1 q.2 p.1 p.2 with
  |true=>dropP p r
  |false=>q::dropP p r
section
variable (go:List Po->List Pr->List Pr->Option (List Po)) (o:Bool) (basis:List Po) (leads w:List Pr)
def Jh(m:Option Po)(t:Option T):Option (List Po):=match m with
 |none=>none
 |some m=>match t with
  |none=>none
  |some t=>go (basis++[m]) (leads++[(t.x,t.y)]) (w++pairsTo basis.length)
def grE2(r:Po):Option (List Po):=match iG r with
 |true=>Jh go basis leads w (mon o r) (lead o r)
 |false=>none
def Ie(r:Option Po):Option (List Po):=match r with
 |none=>none
 |some r=>match r with
  |[]=>go basis leads w
  |t::r=>grE2 go o basis leads w (t::r)
def grD(s:Option Po):Option (List Po):=match s with
 |none=>none
 |some s=>Ie go o basis leads w (restOf o s basis)
def grC(f g:Option Po):Option (List Po):=match f with
 |none=>none
 |some f=>match g with
  |none=>none
  |some g=>grD go o basis leads w (sPoly o f g)
def Kv(p:Pr)(nd:Option Bool):Option (List Po):=match nd with
 |none=>none
 |some b=>match b with
  |true=>go basis leads w
  |false=>grC go o basis leads w basis[p.1]? basis[p.2]?
def grA(p:Option Pr):Option (List Po):=match p with
 |none=>none
 |some p=>Kv go o basis leads (dropP p w) p (nO p (dropP p w) leads)
end
noncomputable def grG(o:Bool):Nat->List Po->List Pr->List Pr->Option (List Po)
 |0,_,_,_=>none
 |k+1,basis,leads,w=>match w with
  |[]=>some basis
  |_::_=>grA (grG o k) o basis leads w (least o leads w)
def Eo(o:Bool)(b:Option (List Po)):Option (List Po):=match b with
 |none=>none
 |some b=>match leadsP o b with
  |none=>none
  |some ls=>grG o 40 b ls (allP b.length)
def vM(o:Bool)(s:List Po):Option (List Po):=Eo o (mons o s)
structure dW (B L W:Nat) (basis:List Po) (leads w:List Pr) (H:Hp):Prop where
 wf:WF H
 b:aq H B (ar basis)
 l:aq H L (leads.map encN)
 w:aq H W (w.map encN)
 bl:B≠L
 bw:B≠W
 lw:L≠W
section
variable {B L W:Nat} {basis:List Po} {leads w:List Pr} {H:Hp}
theorem dW.new(G:dW B L W basis leads w H)(o:bq):dW B L W basis leads w (newObj H o).2:=⟨G.wf.new,G.b.new G.wf,G.l.new G.wf,G.w.new G.wf,G.bl,G.bw,G.lw⟩
theorem dW.Oj(G:dW B L W basis leads w H)(w':List Pr):dW B L H.nxt basis leads w' (newObj H (.list (w'.map encN))).2:=by
 have G':=G.new (.list (w'.map encN));exact⟨G'.wf,G'.b,G'.l,aq.c8,G.bl,fun e=>by have:=cP G.wf G.b;lia,fun e=>by have:=cP G.wf G.l;lia⟩
theorem dW.Vk(G:dW B L W basis leads w H)(w':List Pr):dW B L W basis leads w' (setObj H W (.list (w'.map encN))):=⟨G.wf.set,G.b.set G.bw,G.l.set G.lw,G.w.fW,G.bl,G.bw,G.lw⟩
theorem dW.setB(G:dW B L W basis leads w H)(b':List Po):dW B L W b' leads w (setObj H B (.list (ar b'))):=⟨G.wf.set,G.b.fW,G.l.set G.bl.symm,G.w.set G.bw.symm,G.bl,G.bw,G.lw⟩
theorem dW.Yz(G:dW B L W basis leads w H)(l':List Pr):dW B L W basis l' w (setObj H L (.list (l'.map encN))):=⟨G.wf.set,G.b.set G.bl,G.l.fW,G.w.set G.lw.symm,G.bl,G.bw,G.lw⟩
theorem lG(h:aq H k l)(hl:l.length<=100000):eC .append (.ref k) [v] H=some (.none,setObj H k (.list (l++[v]))):=by
 unfold eC;rw[h.own];show guard' (lenOk l) _=_;rw[cW hl];rfl
theorem V0(h:aq H k l)(h':aq H j x)(hl:l.length<=100000)(hx:x.length<=100000)(hj:j≠k):eC .extend (.ref k) [.ref j] H=some (.none,setObj H k (.list (l++x))):=by
 unfold eC;rw[h.own];show(match listView H (.ref j)with
  |some x=>guard' (band (!aF j k) (band (lenOk l) (lenOk x))) (some (V.none,setObj H k (.list (l++x))))
  |none=>none)=_
 rw[h'.view,yW hj];dsimp only;rw[cW hl,cW hx];rfl
theorem lZ(h:aq H k l):fR .append (own H (.ref k))=true:=by rw[h.own];rfl
theorem QG(h:aq H k l):fR .extend (own H (.ref k))=true:=by rw[h.own];rfl
theorem lI(h:aq H k l):iterOf H .seq [.ref k]=some l:=by
 show(match seqView H (.ref k)with|some l=>some l|none=>_)=_
 rw[show seqView H (.ref k)=some l from h.view]
def pU(p q:Pr):List V:=match bH q.1 q.2 p.1 p.2 with
 |true=>[]
 |false=>[encN q]
theorem vF(w:List Pr):w.flatMap (pU p)=(dropP p w).map encN:=by
 induction w with
 |nil=>
  exact rfl
 |cons q r ih=>
  have hd:dropP p (q::r)=match bH q.1 q.2 p.1 p.2 with
   |true=>dropP p r
   |false=>q::dropP p r:=rfl
  rw[iT,ih,hd];unfold pU
  induction bH q.1 q.2 p.1 p.2 using aB <;> rfl
theorem v9(w:List Pr):(dropP p w).length<=w.length:=by
 induction w with
 |nil=>
  exact cx _
 |cons q r ih=>
  dsimp only[dropP];split
  ·exact br (ih) (eZ _)
  ·exact Nat.succ_le_succ (ih)
noncomputable def tu:ME:=.lcomp [9,10] (.var 10) [([10],false,.seq,[(.var 5)],[(.cmp .NotEq (.var 10) (.var 7))])]
theorem aa0(wf:WF H)(hw:aq H W (w.map encN))(hl:w.length<=10000) :
  den (n+6) tu (x0::x1::x2::x3::x4::some (.ref W)::x6::some (encN p)::x8::x9::x10::r) H=some (.ref H.nxt,(newObj H (.list ((dropP p w).map encN))).2):=by
 have hW:=cP wf hw;unfold tu;obtain⟨nx,es⟩:=H;simp! only[lI hw];refine mR (o:=.list (w.map encN)) hw (fun e=>by have hW:W<nx:=hW;lia) ?_;have:=dK (k:=nx) (n:=nx+1) (es:=put es W true (.list (w.map encN))) (enc:=encN) (f:=turn (den (n+5)) [10] false [.cmp .NotEq (.var 10) (.var 7)] (ck nx (.var 10) (den (n+5))) (x0::x1::x2::x3::x4::some (.ref W)::x6::some (encN p)::x8::none::none::r)) (pU p) w [] (fun q m acc ha=>by
  unfold pU;simp! only[encN,JI]
  induction bH q.1 q.2 p.1 p.2 using aB with
  |true=>simp! only[Bool.not_true,g4]
  |false=>
   simp! only[Bool.not_false];exact dg ha) (by rw[vF,aJ];have:=v9 (p:=p) w;show 0+_<=_;lia)
 rw[vF,dp]at this;exact this
noncomputable def sd:ME:=.lcomp [9,10] (.tup [(.var 10),(.bi .len [(.var 3)])]) [([10],false,.range1,[(.bi .len [(.var 3)])],[])]
theorem Gg(h:aq H k (ar basis))(hl:basis.length<=1000):cw .len [V.ref k] H=some (V.int (.ofNat basis.length),H):=by
 have:=lW h (by unfold ar;rw[aJ];lia);unfold ar at this;rw[aJ]at this;exact this
theorem Lm(wf:WF H)(hb:aq H B (ar basis))(hl:basis.length<=1000) :
  den (n+8) sd (x0::x1::x2::some (.ref B)::x4::x5::x6::x7::x8::x9::x10::r) H=some (.ref H.nxt,(newObj H (.list ((pairsTo basis.length).map encN))).2):=by
 have hB:=cP wf hb;unfold sd;obtain⟨nx,es⟩:=H;have hB:B<nx:=hB;simp! only[Gg hb hl,ti hl];refine HE ?_;have:=dK (k:=nx) (n:=nx+1) (es:=es) (enc:=ay) (f:=turn (den (n+7)) [10] false [] (ck nx (.tup [.var 10,.bi .len [.var 3]]) (den (n+7))) (x0::x1::x2::some (.ref B)::x4::x5::x6::x7::x8::none::none::r)) (fun i=>[encM i basis.length]) (eE 0 basis.length) [] (fun i m acc ha=>by
  have dN:aq ⟨nx+1,⟨nx,false,.list acc⟩::es⟩ B (ar basis):=(dm (by lia)).trans hb;simp! only[Gg dN hl];exact dg ha) (by rw[eY,k9];show 0+_<=_;lia)
 rw[eN,dp]at this;rw[this];unfold pairsTo;rw[d5];rfl
end
end
section
open PySem
set_option tactic.hygienic true in
theorem YH(k:Nat):∀(qs:List Po) (rest left res:Po),kC o bs ls k qs rest left=some res->Nd rest->Nd res/\res.length<=rest.length+k:=by
 induction k with
 |zero=>
  intro _ _ _ _ e _;exact nq e
 |succ k ih=>
  intro qs rest left res e h;have e:uO bs ls (kC o bs ls k) qs rest left (lead o left)=some res:=e;unfold uO at e;split at e
  ·exists e;exact⟨h,Nat.le_add_right _ _⟩
  ·rename_i t ht;unfold y8 at e;split at e
   ·exists ak (ih _ _ _ _ e (tY h)),a,b;have:=GZ (p:=rest) (t:=t);exact⟨a,by lia⟩
   ·unfold divC at e;exists kj e,Z0,Z0,e
    ·exists kj e,Z0,Z0,e
     ·split at e
      ·exact nq e
      ·unfold BY at e;exists cm e,Z0,e
       ·unfold Cq at e;exists cm e,Z0,e
        ·unfold CJ at e;exists cm e,Z0,e
         ·exists ak (ih _ _ _ _ e h),a,b;exact⟨a,by exact Nat.le_succ_of_le b⟩
theorem CU{o:Bool}{f res:Po}{bs:List Po}(e:restOf o f bs=some res):Nd res/\res.length<=100:=by
 exists ak (YH 100 _ _ _ _ e List.Pairwise.nil),a,b;exact⟨a,by have b:res.length<=0+100:=b;assumption⟩
def hK:List MS:=[(.if_ (.call tQ [(.var 7),(.var 5),(.var 4)]) [.cont] []),(.aug 6 .Add (.const (.int 1))),(.if_ (.cmp .Gt (.var 6) (.var 2)) [.stuck] []),(.assign 8 (.call kn [(.call tJ [(.sub (.var 3) (.sub (.var 7) (.const (.int 0)))),(.sub (.var 3) (.sub (.var 7) (.const (.int 1)))),(.var 1)]),(.var 3),(.var 1)])),(.if_ (.cmp .Gt (.bi .len [(.var 8)]) (.const (.int 0))) [(.expr (.cO .extend (.var 5) [sd])),(.expr (.cO .append (.var 3) [(.call jn [(.var 8),(.var 1)])])),(.expr (.cO .append (.var 4) [(.sub (.call cV [(.var 8),(.var 1)]) (.const (.int 0)))]))] [])]
def vG:List MS:=(.assign 7 (.call vO [(.var 5),(.var 4),(.var 1)]))::(.assign 5 tu)::hK
def eX(x0:Option V)(o:Od)(B L W d:Nat)(x7 x8:Option V)(r:ai):ai:=
 x0::some (aK o)::some (.int 40)::some (.ref B)::some (.ref L)::some (.ref W)::some (.int (.ofNat d))::x7::x8::none::none::r
section
variable {B L W:Nat} {basis:List Po} {leads w:List Pr} {H:Hp} {o:Od} {d:Nat} {x0 x7 x8:Option V} {r:ai}
theorem KR(G:dW B L W basis leads w H)(hl:leads.length<=1000)(hle:hY leads)(hw:w.length<=10000)(hp:least (gr o) leads w=some p) :
  denSs (denS 19) vG (eX x0 o B L W d x7 x8 r) H=denSs (denS 19) hK (eX x0 o B L H.nxt d (some (encN p)) x8 r) (newObj H (.list ((dropP p w).map encN))).2:=by
 have e1:=Nh (H:=H) (o:=o) (wv:=.ref W) (lv:=.ref L) G.w.frz G.l.frz hl hle hp;have e2:∀{x0 x1 x2 x3 x4 x6 x8 x9 x10:Option V} {r:ai},den 18 tu (x0::x1::x2::x3::x4::some (.ref W)::x6::some (encN p)::x8::x9::x10::r) H=_:=fun{_ _ _ _ _ _ _ _ _ _}=>aa0 (n:=12) G.wf G.w hw;unfold vG eX;refine aN.trans ?_;simp only[cg,cH,bj,bA,bo,bg,bh,bk,aG,e1,aY,aZ,aS,bc];refine aN.trans ?_;simp only[cg,e2,aG,aY,aZ,aS,bc]
theorem Xe(G:dW B L W basis leads w H)(hl:leads.length<=1000)(hle:hY leads)(hw:w.length<=10000)(hn:nO p w leads=some true) :
  denSs (denS 19) hK (eX x0 o B L W d (some (encN p)) x8 r) H=some (.cont,eX x0 o B L W d (some (encN p)) x8 r,H):=by
 have e1:=Fi (H:=H) (wv:=.ref W) (lv:=.ref L) G.w.frz G.l.frz hw hl hle hn;unfold hK eX;refine aN.trans ?_;simp! only[e1]
theorem ZC:augV .Add (V.int (.ofNat a)) (V.int 1) H=some (V.int (.ofNat (a+1)),H):=rfl
theorem aaF(h:a<=40):bu .Gt (V.int (.ofNat a)) (V.int 40) H=some false:=by
 show some (c9 40 a)=_;have:c9 40 a=false:=gS.mpr fun q=>by
  have:41<=a:=bC q
  lia
 rw[this]
theorem XK{p:Pr}{f g s res:Po}(G:dW B L W basis leads w H)(hl:leads.length<=1000)(hle:hY leads)(hw:w.length<=10000)(hn:nO p w leads=some false)(hd:d+1<=40)(hb:basis.length<=1000)(jm:∀p∈basis,aX p)
  (hf:basis[p.1]?=some f) (hg:basis[p.2]?=some g) (hs:sPoly (gr o) f g=some s) (hr:restOf (gr o) s basis=some res) :
  denSs (denS 19) hK (eX x0 o B L W d (some (encN p)) x8 r) H=denSs (denS 19) (hK.drop 4) (eX x0 o B L W (d+1) (some (encN p)) (some (.dct (aj res))) r) H:=by
 have e1:=Fi (H:=H) (wv:=.ref W) (lv:=.ref L) G.w.frz G.l.frz hw hl hle hn;exists ak (Lw (H:=H) (jm f (eA hf)) (jm g (eA hg)) hs),k3,e2;have e3:=Fb (H:=H) (k:=B) G.b.at k3 jm hb hr;have hlen:(ar basis).length<=100000:=by unfold ar;rw[aJ];lia
 have e4:=jz (v:=.dct (aj f)) (i:=p.1) G.b hlen (by unfold ar;rw[dM,hf];rfl);have e5:=jz (v:=.dct (aj g)) (i:=p.2) G.b hlen (by unfold ar;rw[dM,hg];rfl);have e6:=aaF (H:=H) hd;unfold hK;show _=denSs (denS 19) [_] _ _;unfold eX;refine aN.trans ?_;simp only[hX,cH,bj,bA,bo,bg,bh,bk,aG,fx,e1,iO,gj,aS,bc];refine aN.trans ?_;simp only[rp,qU,cD,bg,bh,aG,ZC,aY,aZ,aS,bc];refine aN.trans ?_;simp only[hX,fK,bo,bg,bh,bk,fN,aG,fx,e6,iO,gj,aS,bc];refine aN.trans ?_;simp only[cg,cH,mF,cD,bj,bA,bo,bg,bh,bk,aG,encN,M0,M1,e2,e3,e4,e5,aY,aZ,aS,bc]
theorem Wy:denSs (denS 19) (hK.drop 4) (eX x0 o B L W d (some (encN p)) (some (.dct (aj []))) r) H=some (.next,eX x0 o B L W d (some (encN p)) (some (.dct (aj []))) r,H):=by
 have e1:cw .len [V.dct (aj [])] H=some (V.int (.ofNat 0),H):=rfl;unfold hK;show denSs (denS 19) [_] _ _=_;unfold eX;refine aN.trans ?_;simp! only[e1,lC,show c9 0 0=false from rfl]
theorem VY{p:Pr}{res m:Po}{t:T}(G:dW B L W basis leads w H)(hl:leads.length<=1000)(hw:w.length<=10000)(hb:basis.length<=1000)(ho:aX res)(hm:mon (gr o) res=some m)(ht:lead (gr o) res=some t) :
  ∃H',denSs (denS 19) (hK.drop 4) (eX x0 o B L W d (some (encN p)) (some (.dct (aj res))) r) H=some (.next,eX x0 o B L W d (some (encN p)) (some (.dct (aj res))) r,H')/\dW B L W (basis++[m]) (leads++[(t.x,t.y)]) (w++pairsTo basis.length) H':=by
 have gi:0<res.length:=List.length_pos_of_mem (gB ht);have hle:=ho.1;have e1:cw .len [V.dct (aj res)] H=some (V.int (.ofNat res.length),H):=by
  have:=yk (H:=H) (l:=aj res) (by rw[gK];lia);rw[gK]at this;exact this
 have e2:∀{x0 x1 x2 x4 x5 x6 x7 x8 x9 x10:Option V} {r:ai},den 16 sd (x0::x1::x2::some (.ref B)::x4::x5::x6::x7::x8::x9::x10::r) H=_:=fun{_ _ _ _ _ _ _ _ _ _ _}=>Lm (n:=8) G.wf G.b hb;have G1:=G.new (.list ((pairsTo basis.length).map encN));have bN:H.nxt≠W:=fun e=>by have:=cP G.wf G.w;lia
 have e3:=V0 (j:=H.nxt) (x:=(pairsTo basis.length).map encN) G1.w aq.c8 (by rw[aJ];lia) (by rw[aJ,pairs_len];lia) bN;rw[<- gI]at e3;have G2:=G1.Vk (w++pairsTo basis.length);exists ak (xl (H:=setObj (newObj H (.list ((pairsTo basis.length).map encN))).2 W (.list ((w++pairsTo basis.length).map encN))) ho hm),mo,e4;have e5:=lG (v:=.dct (aj m)) G2.b (by unfold ar;rw[aJ];lia);have hd:ar basis++[.dct (aj m)]=ar (basis++[m]):=by unfold ar;rw[gI];rfl
 rw[hd]at e5;have G3:=G2.setB (basis++[m]);have e6:=ji (o:=o) (av:=.dct (aj res)) (H:=setObj (setObj (newObj H (.list ((pairsTo basis.length).map encN))).2 W (.list ((w++pairsTo basis.length).map encN))) B (.list (ar (basis++[m])))) rfl ho.2.2 (jL ho);rw[ht]at e6;have e7:=lG (v:=encM t.x t.y) G3.l (by rw[aJ];lia);have hd2:leads.map encN++[encM t.x t.y]=(leads++[(t.x,t.y)]).map encN:=by rw[gI];rfl
 rw[hd2]at e7;have G4:=G3.Yz (leads++[(t.x,t.y)]);refine⟨_,?_,G4⟩;unfold hK;show denSs (denS 19) [_] _ _=_;unfold eX;refine aN.trans ?_;simp! only[e1,lC,kZ gi,QG G.w,e2,e3,lZ G2.b,e4,e5,lZ G3.l,e6,ly,e7]
end
end
section
open PySem
section
variable {B L:Nat} {o:Od} {x0:Option V} {r:ai}
theorem TR(G:dW B L W basis leads w H)(hw:w.length<=10000) :
  den 19 (.cmp .Gt (.bi .len [.var 5]) (.const (.int 0))) (eX x0 o B L W d x7 x8 r) H=some (.bool (c9 0 w.length),H):=by
 have e1:cw .len [V.ref W] H=some (V.int (.ofNat w.length),H):=by
  have:=lW G.w (by rw[aJ];lia);rw[aJ]at this;exact this
 unfold eX;simp! only[e1,lC]
set_option tactic.hygienic true in
theorem Vp(res:List Po):∀(k:Nat) (basis:List Po) (leads w:List Pr) (W d n:Nat) (H:Hp) (x7 x8:Option V),grG (gr o) k basis leads w=some res->dW B L W basis leads w H->(∀p∈basis,aX p)->hY leads->leads.length=basis.length->
  basis.length+k<=100->w.length+100 * k<=10000->d+k<=40->k<n->
  ∃ρ H',fq (den 19 (.cmp .Gt (.bi .len [.var 5]) (.const (.int 0)))) (denSs (denS 19) vG) n (eX x0 o B L W d x7 x8 r) H=some (.next,x0::some (aK o)::some (.int 40)::some (.ref B)::ρ,H')/\aq H' B (ar res)/\∀p∈res,aX p:=by
 intro k
 induction k with
 |zero=>intro _ _ _ _ _ _ _ _ _ e;exact nq e
 |succ k ih=>
  intro basis leads w W d n H x7 x8 e G hb hle hl hk hw hd hn;obtain⟨n,rfl⟩:∃m,n=m+1:=⟨n - 1,by lia⟩;rw[qb,TR G (Nat.le_of_add_right_le hw),fx];dsimp only[grG]at e;split at e
  ·(clear hw hn hd hk hl hle ih;exists e)
   rw[show c9 0 ([]:List Pr).length=false from rfl,tA];exact⟨_,H,rfl,G.b,hb⟩
  ·rename_i q w;rw[show c9 0 (q::w).length=true from kZ (Nat.succ_pos _),nP];unfold grA at e;exists OQ e,p,hp,e
   ·rw[KR G (by lia) hle (Nat.le_of_add_right_le hw) hp];have fv:=v9 (p:=p) (q::w);have G1:=G.Oj (dropP p (q::w));unfold Kv at e;exists kB1 e,nd,b9,e
    ·split at e
     ·rw[Xe G1 (by lia) hle (by lia) b9,aS,mZ];exact ih basis leads _ _ d n _ _ _ e G1 hb hle hl (by lia) (by lia) (by lia) (by lia)
     ·unfold grC at e;split at e
      ·exact nq e
      ·rename_i f hf;exists kj e,g,hg,e
       ·unfold grD at e;exists kj e,s,hs,e
        ·unfold Ie at e;exists kj e,rr,hr,e
         ·rw[XK G1 (by lia) hle (by lia) b9 (by lia) (by lia) hb hf hg hs hr];split at e
          ·rw[Wy,aS,jI];exact ih basis leads _ _ (d+1) n _ _ _ e G1 hb hle hl (by lia) (by lia) (by lia) (by lia)
          ·rename_i t rest;unfold grE2 at e;exists cm e,wO,e
           ·unfold Jh at e;split at e
            ·exact nq e
            ·rename_i m hm;split at e
             ·exact nq e
             ·rename_i t' ht;have ho:=km wO (CU hr).1;exists ae (VY (x0:=x0) (r:=r) (d:=d+1) (p:=p) G1 (by lia) (by lia) (by lia) ho hm ht),H',e1,G2;rw[e1,aS,jI];refine ih _ _ _ _ (d+1) n _ _ _ e G2 (fun p' m'=>?_) (fun q' m'=>?_) ?_ ?_ ?_ (by lia) (by lia)
              ·clear G2 e1 e ht wO hr hs hg hf b9 G1 fv hp hw G hn hd hk hl hle ih;rcases l7.mp m' with m'|m'
               ·exact hb p' m'
               ·clear hb;cases c7.mp m';exists mC (vi ho hm),Z0,Z0,Z0,Z0,Z0,h;exact h
              ·clear G2 e1 e hm wO hr hs hg hf b9 G1 fv hp hw G hn hd hk hl hb ih;rcases l7.mp m' with m'|m'
               ·exact hle q' m'
               ·clear hle;cases c7.mp m';have:=ho.2.1 t' (gB ht);exact⟨br this.1 dq,br this.2.1 dq⟩
              ·rw[d8,d8,hl];rfl
              ·rw[d8];show basis.length+1+k<=_;lia
              ·rw[d8,pairs_len];lia
theorem Yp(h:n<=40):(allP n).length<=1600:=by
 have:=F2 (m:=40) (f:=pairsTo) (eE 0 n) fun a m=>by
  have:=mem_range m;rw[pairs_len];lia
 rw[k9]at this;unfold allP
 lia
set_option tactic.hygienic true in
theorem PN{s res:List Po}(hs:∀p∈s,aX p)(hlen:s.length<=40)(e:vM (gr o) s=some res):(∀p∈res,aX p)/\∃H',yl [.lst (ar s),aK o,.int 40] ⟨0,[]⟩=some (.lst (ar res),H'):=by
 unfold vM Eo at e;split at e
 ·exact nq e
 ·rename_i b hb;exists kG e,ls,hl,e
  ·exists fu (HG hb),m1,Z0,Z0,m4;exists fu (tx hl),n1,Z0,Z0,n4;have jm:=m4 hs;have ha:=Yp (n:=b.length) (le_of_eq_of_le (id (Eq.symm m1)) hlen);have G:dW 0 1 2 b ls (allP b.length) ⟨3,[⟨2,false,.list ((allP b.length).map encN)⟩,⟨1,false,.list (ls.map encN)⟩,⟨0,false,.list (ar b)⟩]⟩:=by
    refine⟨fun e m=>?_,rfl,rfl,rfl,by decide,by decide,by decide⟩;clear ha jm n4 n1 m4 m1 hl hb hlen hs;rcases aI.mp m with rfl|m
    ·exact(by decide:2<3)
    ·rcases aI.mp m with rfl|m
     ·exact(by decide:1<3)
     ·cases c7.mp m;exact(by decide:0<3)
   exists cB (Vp (o:=o) (x0:=some (.lst (ar s))) (r:=cq 13 none) res 40 b ls (allP b.length) 2 0 1000 _ none none e G jm (n4 jm) n1.symm (by lia) (by lia) dq dq),ρ,H',el,lk,ho;refine⟨ho,⟨H'.nxt,dropNew 0 H'.es⟩,?_⟩;have h1:=fun{x2 x3 x4 x5 x6 x7 x8 x9 x10 x11:Option V} {r:ai}=>(@yy s o b ls x2 x3 x4 x5 x6 x7 x8 x9 x10 x11 r hs hb hl hlen).1;have h2:=fun{x2 x4 x5 x6 x7 x8 x9 x10 x11:Option V} {r:ai}=>(@yy s o b ls x2 none x4 x5 x6 x7 x8 x9 x10 x11 r hs hb hl hlen).2.1;have h3:=fun{x2 x4 x5 x6 x7 x8 x9 x10 x11:Option V} {r:ai}=>(@yy s o b ls x2 none x4 x5 x6 x7 x8 x9 x10 x11 r hs hb hl hlen).2.2;unfold yl Hx;rw[iA];unfold eX vG hK tu sd at el;simp only[rep0,rep1]at el;rw[aN];simp only[cg,h1,rep0,rep1,aG,aY,aZ,aS,bc];rw[aN];simp only[cg,h2,aG,aY,aZ,aS,bc];rw[aN];simp only[cg,h3,aG,aY,aZ,aS,bc];rw[aN];simp only[cg,cD,aG,aY,aZ,aS,bc];rw[aN];simp only[o9];rw[show(V.int 0)=V.int (Int.ofNat 0)from rfl]at *;rw[el];simp! only[];show some (freezeV H'.es 0 3 (.ref 0),(⟨H'.nxt,dropNew 0 H'.es⟩:Hp))=_;rw[j6 lk (cx _),u7]
theorem Wq{s res:List Po}{H:Hp}(hs:∀p∈s,aX p)(hlen:s.length<=40)(e:vM (gr o) s=some res):(∀p∈res,aX p)/\zt [.lst (ar s),aK o,.int 40] H=some (.lst (ar res),H):=by
 obtain⟨h,H',e⟩:=PN hs hlen e;exact⟨h,eT e (.cons (.lst gq) (.cons fb (.cons (.int _) .nil))) (.lst gq)⟩
end
end
section
open PySem
noncomputable def minG(ls:List Pr):Nat->List Po->List Pr->List Po
 |i,p::ps,l::r=>match anyD l.1 l.2 (ls.take i++dropP l r)with
  |true=>minG ls (Nat.succ i) ps r
  |false=>p::minG ls (Nat.succ i) ps r
 |_,_,_=>[]
noncomputable def jO(H:Hp)(k:Nat)(l:List V):Prop:=look H.es k=some ⟨k,true,.list l⟩
section
variable {H:Hp}
theorem jO.view(h:jO H k l):listView H (.ref k)=some l:=by
 show(match look H.es k with|some e=>(match e.obj with|.list l=>some l|.dict _=>none)|none=>none)=_
 rw[h]
theorem jO.new(w:WF H)(h:jO H k l):jO (newObj H o).2 k l:=fD w h
theorem jO.set(h:jO H k l)(q:k≠j):jO (setObj H j o) k l:=(eH q).trans h
theorem F1(h:i<=100000):nat? (V.int (.ofNat i))=some i:=by
 show(match b8 i 100000 with|true=>some i|false=>none)=_;rw[fj h]
theorem F3(hv:∀q,v ≠ .tup q)(h:listView H v=some l)(hl:l.length<=100000):ja true v (some n) H=some (newObj H (.list (l.take n))):=by
 have:gU true v n H=(match listView H v with
  |some l=>upL l n H
  |none=>none):=by
  clear hl h;induction v using Internal.V.casesOn with
  |tup q=>exact(hv q rfl).elim
  |_=>rfl
 show gU true v n H=_;rw[this,h];show guard' (lenOk l) _=_;rw[cW hl];rfl
theorem O2(hv:∀q,v ≠ .tup q)(h:listView H v=some l)(hl:l.length<=100000)(hn:n<=l.length):ja false v (some n) H=some (newObj H (.list (l.drop n))):=by
 have:gU false v n H=(match listView H v with
  |some l=>fromL l n H
  |none=>none):=by
  clear hn hl h;induction v using Internal.V.casesOn with
  |tup q=>exact(hv q rfl).elim
  |_=>rfl
 show gU false v n H=_;rw[this,h];show guard' (band (lenOk l) (b8 n l.length)) _=_;rw[cW hl,fj hn];rfl
theorem xw(ha:∀i,a ≠ .int i)(ha2:∀q,a ≠ .tup q)(h1:listView H a=some x)(h2:listView H b=some y)(hx:x.length<=100000)(hy:y.length<=100000):binOp .Add a b H=some (newObj H (.list (x++y))):=by
 have:binOp .Add a b H=qT a b H:=by
  clear hy hx h2 h1;induction a using Internal.V.casesOn with
  |int i=>exact(ha i rfl).elim
  |tup q=>exact(ha2 q rfl).elim
  |_=>rfl
 rw[this];show(match listView H a with
  |some x=>match listView H b with
   |some y=>guard' (band (lenOk x) (lenOk y)) (some (newObj H (.list (x++y))))
   |none=>none
  |none=>none)=_
 rw[h1,h2];dsimp only;rw[cW hx,cW hy];rfl
noncomputable def qt:ME:=.bin .Add (.slice true (.var 3) (.var 5)) (.lcomp [8,9] (.var 9) [([9],false,.seq,[(.slice false (.var 3) (.bin .Add (.var 5) (.const (.int 1))))],[(.cmp .NotEq (.var 9) (.var 6))])])
theorem rC:∀q,V.ref k ≠ .tup q:=fun _ h=>nomatch h
theorem zW:∀i,V.ref k ≠ .int i:=fun _ h=>nomatch h
theorem aaz{n c i:Nat}{l:Pr}{ls r:List Pr}(wf:WF H)(hv:jO H c (ls.map encN))(hl:ls.length<=1000)(hi:i<ls.length)(hr:ls.drop (i+1)=r){x0 x1 x2 x4 x7 x8 x9:Option V}{ρ:ai} :
  den (n+8) qt (x0::x1::x2::some (.ref c)::x4::some (ay i)::some (encN l)::x7::x8::x9::ρ) H =
   some (.ref (H.nxt+3),(newObj (newObj (newObj (newObj H (.list ((ls.take i).map encN))).2 (.list (r.map encN))).2 (.list ((dropP l r).map encN))).2 (.list ((ls.take i++dropP l r).map encN))).2):=by
 have hlen:(ls.map encN).length<=100000:=by rw[aJ];lia
 have e1:=F3 (n:=i) rC hv.view hlen;rw[<- List.map_take]at e1;have rV:=hv.new wf (o:=.list ((ls.take i).map encN));have e2:=O2 (n:=i+1) rC rV.view hlen (by rw[aJ];assumption);rw[<- List.map_drop,hr]at e2;have dF:∀{B:Type} {o:bq} {f:V->Hp->Option B} {H:Hp},ob (some (newObj H o)) f=f (.ref H.nxt) (newObj H o).2:=rfl;have ha:∀H,binOp .Add (ay i) (V.int 1) H=some (V.int (.ofNat (i+1)),H):=fun _=>rfl;have w1:=wf.new (o:=.list ((ls.take i).map encN));have w2:=w1.new (o:=.list (r.map encN));have w3:=w2.new (o:=.list ((dropP l r).map encN));have l2:aq (newObj (newObj H (.list ((ls.take i).map encN))).2 (.list (r.map encN))).2 (H.nxt+1) (r.map encN):=aq.c8;have FR:r.length<=1000:=by rw[<- hr,List.length_drop];lia
 have fv:=v9 (p:=l) r;unfold qt;simp only[gn,qN,gw,bo,cD,bj,bA,bg,bh,bk,aG,show nat? (ay i)=some i from F1 (by lia),e1,dF,ha,F1 (show i+1<=100000 by lia),e2,gh,gF,aY,aZ];simp only[show ∀o,(newObj H o).2.nxt=H.nxt+1 from fun _=>rfl,lI l2];clear w3 ha dF e2 rV e1 hlen hr hv wf;obtain⟨nx,es⟩:=H;rw[show compGo (newObj (newObj ⟨nx,es⟩ (.list ((ls.take i).map encN))).2 (.list (r.map encN))).2.nxt _ (r.map encN) [V.ref (nx+1)] (newObj (newObj (newObj ⟨nx,es⟩ (.list ((ls.take i).map encN))).2 (.list (r.map encN))).2 (.list [])).2=some (V.ref (nx+2),(newObj (newObj (newObj ⟨nx,es⟩ (.list ((ls.take i).map encN))).2 (.list (r.map encN))).2 (.list ((dropP l r).map encN))).2)from by
  refine mR (o:=.list (r.map encN)) l2 (fun e=>by have e:nx+2=nx+1:=e;lia) ?_;have:=dK (k:=nx+2) (n:=nx+3) (es:=put (newObj (newObj ⟨nx,es⟩ (.list ((ls.take i).map encN))).2 (.list (r.map encN))).2.es (nx+1) true (.list (r.map encN))) (enc:=encN) (f:=turn (den (n+6)) [9] false [.cmp .NotEq (.var 9) (.var 6)] (ck (nx+2) (.var 9) (den (n+6))) (x0::x1::x2::some (.ref c)::x4::some (ay i)::some (encN l)::x7::none::none::ρ)) (pU l) r [] (fun q m acc ha=>by
   unfold pU;simp! only[encN,JI];clear m l2 w2 w1 fv FR hi hl;induction bH q.1 q.2 l.1 l.2 using aB with
   |true=>simp! only[Bool.not_true,g4]
   |false=>
    simp! only[Bool.not_false];exact dg ha) (by rw[vF,aJ];show 0+_<=_;lia)
  rw[vF,dp]at this;exact this]
 have v1:aq (newObj (newObj (newObj ⟨nx,es⟩ (.list ((ls.take i).map encN))).2 (.list (r.map encN))).2 (.list ((dropP l r).map encN))).2 nx ((ls.take i).map encN):=(aq.c8 (H:=⟨nx,es⟩).new w1).new w2;have v2:aq (newObj (newObj (newObj ⟨nx,es⟩ (.list ((ls.take i).map encN))).2 (.list (r.map encN))).2 (.list ((dropP l r).map encN))).2 (nx+2) ((dropP l r).map encN):=aq.c8;have e3:=xw zW rC v1.view v2.view (by rw[aJ,List.length_take];lia) (by rw[aJ];lia);rw[<- gI]at e3;simp only[aG];exact e3
end
end
section
open PySem
structure MI (b:List Po) (ls:List Pr) (kept:List Po) (H:Hp):Prop where
 wf:WF H
 b:aq H 0 (ar b)
 l:jO H 1 (ls.map encN)
 k:aq H 2 (ar kept)
def v5:List MS:=[(.assign 7 qt),(.if_ (.kY (.call pN [(.var 6),(.var 7)])) [(.expr (.cO .append (.var 4) [(.sub (.var 2) (.var 5))]))] [])]
section
variable {H:Hp}
theorem MI.new{b:List Po}{ls:List Pr}{kept:List Po}(M:MI b ls kept H)(o:bq):MI b ls kept (newObj H o).2:=⟨M.wf.new,M.b.new M.wf,M.l.new M.wf,M.k.new M.wf⟩
theorem MI.set{b:List Po}{ls:List Pr}{kept:List Po}(M:MI b ls kept H)(k':List Po):MI b ls k' (setObj H 2 (.list (ar k'))):=⟨M.wf.set,M.b.set dq,M.l.set dq,M.k.fW⟩
theorem HW:ar b++[.dct (aj m)]=ar (b++[m]):=by unfold ar;rw[gI];rfl
theorem w8:(ar b).length=b.length:=by unfold ar;rw[aJ]
theorem J4{b:List Po}{i:Nat}{p:Po}(h:b[i]?=some p):(ar b)[i]?=some (.dct (aj p)):=by unfold ar;rw[dM,h];rfl
theorem xq{A:Type}{l r:List A}{a:A}{i:Nat}(h:l.drop i=a::r):l[i]?=some a/\l.drop (i+1)=r/\i<l.length:=by
 have h1:l[i]?=some a:=by
  have:=List.getElem?_drop (xs:=l) (i:=i) (j:=0);rw[h]at this;simpa using this.symm
 refine⟨h1,?_,(fo.mp h1).1⟩;have:=List.drop_drop (i:=1) (j:=i) (l:=l);rw[h]at this;rw[<- this];rfl
theorem Qg{b:List Po}{ls:List Pr}(hb:b.length<=1000)(hl:ls.length<=1000){x0 x1:Option V}{r:ai}:∀(ps:List Po) (rs:List Pr) (i:Nat) (kept:List Po) (H:Hp) (o5 o6 o7:Option V),b.drop i=ps->ls.drop i=rs->ps.length=rs.length->kept.length<=i->MI b ls kept H->
  ∃ρ H',loopF [5,6] true (denSs (denS 19) v5) (enumL (Int.ofNat i) (rs.map encN)) (x0::x1::some (.ref 0)::some (.ref 1)::some (.ref 2)::o5::o6::o7::none::none::r) H=some (.next,x0::x1::some (.ref 0)::some (.ref 1)::some (.ref 2)::ρ,H')/\MI b ls (kept++minG ls i ps rs) H':=by
 intro ps
 induction ps with
 |nil=>
  intro rs i kept H o5 o6 o7 _ _ e _ M
  induction rs using aM with
  |nil=>exact⟨_,H,rfl,by dsimp only[minG];rw[g4];exact M⟩
  |cons=>cases e
 |cons p ps ih=>
  intro rs i kept H o5 o6 o7 h1 h2 e hk M
  induction rs using aM with
  |nil=>cases e
  |cons l rs=>
   exists dr (xq h1),g1,g2,g3;exists dr (xq h2),f1,f2,f3;rw[aO];show ∃ρ H',loopF _ _ _ (V.tup [ay i,encN l]::enumL (Int.ofNat (i+1)) (rs.map encN)) _ _=_/\_;rw[fz];have M4:=(((M.new (.list ((ls.take i).map encN))).new (.list (rs.map encN))).new (.list ((dropP l rs).map encN))).new (.list ((ls.take i++dropP l rs).map encN));have e1:∀{x0 x1 x2 x4 x7 x8 x9:Option V} {ρ:ai},den 18 qt (x0::x1::x2::some (.ref 1)::x4::some (ay i)::some (encN l)::x7::x8::x9::ρ) H=_:=fun{_ _ _ _ _ _ _ _}=>aaz (n:=10) M.wf M.l hl f3 f2;have r6:(ls.take i++dropP l rs).length<=1000:=by
    have:=v9 (p:=l) rs;have h3:rs.length=ls.length - (i+1):=by rw[<- f2,List.length_drop]
    rw[d8,List.length_take];lia
   have lk:aq (newObj (newObj (newObj (newObj H (.list ((ls.take i).map encN))).2 (.list (rs.map encN))).2 (.list ((dropP l rs).map encN))).2 (.list ((ls.take i++dropP l rs).map encN))).2 (H.nxt+3) ((ls.take i++dropP l rs).map encN):=aq.c8;have e2:=A1 (x:=l.1) (y:=l.2) (lv:=.ref (H.nxt+3)) r6 lk.frz;rw[show encM l.1 l.2=encN l from rfl]at e2;have e3:=jz (i:=i) M4.b (by rw[w8];lia) (J4 g1);have e4:=lG (v:=.dct (aj p)) M4.k (by rw[w8];lia);rw[HW]at e4;have M5:=M4.set (kept++[p]);unfold v5;unfold v5 at ih;dsimp only[minG];simp only[jo,lY,aY,aZ];rw[aN];simp only[cg,e1,aG,aY,aZ,aS,bc];simp! only[e2,EC]
   induction anyD l.1 l.2 (ls.take i++dropP l rs)using aB with
   |true=>
    simp! only[Bool.not_true];exists aT (ih rs (i+1) kept _ (some (ay i)) (some (encN l)) (some (.ref (H.nxt+3))) g2 f2 (gW e) (Nat.le_add_right_of_le hk) M4),ρ,H',a1,a2;exact⟨ρ,H',a1,a2⟩
   |false=>
    simp! only[Bool.not_false,lZ M4.k,show ∀H,subs H (V.ref 0) (ay i)=subs H (V.ref 0) (V.int (.ofNat i))from fun _=>rfl,e3,e4];obtain⟨ρ,H',a1,a2⟩:=ih rs (i+1) (kept++[p]) _ (some (ay i)) (some (encN l)) (some (.ref (H.nxt+3))) g2 f2 (gW e) (by rw[d8];show kept.length+1<=_;exact Nat.add_le_add_right hk 1) M5;refine⟨ρ,H',a1,?_⟩;rw[jt]at a2;exact a2
theorem Qm(hs:∀p∈b,aX p)(hl:leadsP (gr o) b=some ls)(hlen:b.length<=1000):∃H',AI [.lst (ar b),aK o] ⟨0,[]⟩=some (.lst (ar (minG ls 0 b ls)),H'):=by
 exists fu (tx hl),n1,n2,n3,n4;have h1:∀{x2 x3 x4 x5 x6 x7 x8 x9:Option V} {r:ai},den 19 (.lcomp [8,9] (.var 9) [([9],false,.seq,[(.var 0)],[(.cmp .Gt (.bi .len [(.var 9)]) (.const (.int 0)))])]) (some (.lst (ar b))::some (aK o)::x2::x3::x4::x5::x6::x7::x8::x9::r) ⟨0,[]⟩=some (.ref 0,⟨1,[⟨0,false,.list (ar b)⟩]⟩):=by
  intro x2 x3 x4 x5 x6 x7 x8 x9 r;have it:∀H,iterOf H .seq [.lst (ar b)]=some (ar b):=fun _=>rfl;simp! only[it];refine jc ?_;have:=dK (k:=0) (n:=1) (es:=[]) (enc:=fun p:Po=>V.dct (aj p)) (f:=turn (den 18) [9] false [.cmp .Gt (.bi .len [.var 9]) (.const (.int 0))] (ck 0 (.var 9) (den 18)) (some (.lst (ar b))::some (aK o)::x2::x3::x4::x5::x6::x7::none::none::r)) (fun p=>[.dct (aj p)]) b [] (fun p m acc ha=>by
   exists aD (n2 p m),t,ht;have gi:0<p.length:=List.length_pos_of_mem (gB ht);have hle:=(hs p m).1;have e1:∀H,cw .len [V.dct (aj p)] H=some (V.int (.ofNat p.length),H):=fun H=>by
    have:=yk (H:=H) (l:=aj p) (by rw[gK];lia);rw[gK]at this;exact this
   simp! only[e1,lC,kZ gi];exact dg ha) (by rw[eY];show 0+b.length<=_;lia)
  rw[eN,dp]at this;exact this
 have h2:∀{x3 x4 x5 x6 x7 x8 x9:Option V} {r:ai},den 19 (.lcomp [8,9] (.sub (.call cV [(.var 9),(.var 1)]) (.const (.int 0))) [([9],false,.seq,[(.var 2)],[])]) (some (.lst (ar b))::some (aK o)::some (.ref 0)::x3::x4::x5::x6::x7::x8::x9::r) ⟨1,[⟨0,false,.list (ar b)⟩]⟩=some (.ref 1,⟨2,[⟨1,false,.list (ls.map encN)⟩,⟨0,false,.list (ar b)⟩]⟩):=by
  intro x3 x4 x5 x6 x7 x8 x9 r;have lk:aq ⟨1,[⟨0,false,.list (ar b)⟩]⟩ 0 (ar b):=rfl;simp! only[lI lk];refine mR (o:=.list (ar b)) rfl dq ?_;have:=dK (k:=1) (n:=2) (es:=put [⟨0,false,.list (ar b)⟩] 0 true (.list (ar b))) (enc:=fun p:Po=>V.dct (aj p)) (f:=turn (den 18) [9] false [] (ck 1 (.sub (.call cV [.var 9,.var 1]) (.const (.int 0))) (den 18)) (some (.lst (ar b))::some (aK o)::some (.ref 0)::x3::x4::x5::x6::x7::none::none::r)) (fun p=>[encN (match lead (gr o) p with|none=>(0,0)|some t=>(t.x,t.y))]) b [] (fun p m acc ha=>by
   exists aD (n2 p m),t,ht;have e1:∀H,cV [.dct (aj p),aK o] H=some (bW (lead (gr o) p),H):=fun H=>ji (av:=.dct (aj p)) rfl (hs p m).2.2 (jL (hs p m));rw[ht]at e1;rw[ht];simp! only[e1,ly];exact dg ha) (by rw[eY];show 0+b.length<=_;lia)
  rw[eN,dp]at this;show forItems _ (b.map _) _=_;rw[this,n3,d5];rfl
 have cN:aq ⟨3,[⟨2,false,.list []⟩,⟨1,false,.list (ls.map encN)⟩,⟨0,false,.list (ar b)⟩]⟩ 1 (ls.map encN):=rfl;have it:iterOf ⟨3,[⟨2,false,.list []⟩,⟨1,false,.list (ls.map encN)⟩,⟨0,false,.list (ar b)⟩]⟩ .enum [.ref 1]=some (enumL (Int.ofNat 0) (ls.map encN)):=rfl;have lk:lockH ⟨3,[⟨2,false,.list []⟩,⟨1,false,.list (ls.map encN)⟩,⟨0,false,.list (ar b)⟩]⟩ [.ref 1]=⟨3,[⟨2,false,.list []⟩,⟨1,true,.list (ls.map encN)⟩,⟨0,false,.list (ar b)⟩]⟩:=rfl;have M:MI b ls [] ⟨3,[⟨2,false,.list []⟩,⟨1,true,.list (ls.map encN)⟩,⟨0,false,.list (ar b)⟩]⟩:=by
  refine⟨fun e m=>?_,rfl,rfl,rfl⟩;rcases aI.mp m with rfl|m
  ·exact(by decide:2<3)
  ·rcases aI.mp m with rfl|m
   ·exact(by decide:1<3)
   ·cases c7.mp m;exact(by decide:0<3)
 exists aT (Qg hlen (le_of_eq_of_le (id (Eq.symm n1)) hlen) (x0:=some (.lst (ar b))) (x1:=some (aK o)) (r:=cq 12 none) b ls 0 [] _ none none none rfl rfl n1 (cx _) M),ρ,H',el,M';rw[dp]at M';have hu:∀ρ,sunl [⟨2,false,.list []⟩,⟨1,false,.list (ls.map encN)⟩,⟨0,false,.list (ar b)⟩] [.ref 1] (some (.next,ρ,H'))=some (.next,ρ,⟨H'.nxt,put H'.es 1 false (.list (ls.map encN))⟩):=fun ρ=>by
  show some (Fl.next,ρ,(⟨H'.nxt,gT [⟨2,false,.list []⟩,⟨1,false,.list (ls.map encN)⟩,⟨0,false,.list (ar b)⟩] H'.es (.ref 1)⟩:Hp))=_;rw[s6 rfl M'.l]
 refine⟨⟨H'.nxt,dropNew 0 (put H'.es 1 false (.list (ls.map encN)))⟩,?_⟩;unfold AI GH;rw[dQ];unfold v5 qt at el;simp only[rep0,rep1]at el;rw[aN];simp only[cg,h1,rep0,rep1,aG,aY,aZ,aS,bc];rw[aN];simp only[cg,h2,aG,aY,aZ,aS,bc];rw[aN];simp only[cg,fg,bj,aG,jh,Nat.reduceAdd,aY,aZ,aS,bc];rw[aN];simp only[kU,bo,bj,bA,bg,bh,bk,aG,it,lk];rw[el,hu];simp! only[];show some (freezeV (put H'.es 1 false (.list (ls.map encN))) 0 3 (.ref 2),(⟨H'.nxt,_⟩:Hp))=_;rw[j6 (eH dq |>.trans M'.k) (f6 _),u7]
theorem Vi(hs:∀p∈b,aX p)(hl:leadsP (gr o) b=some ls)(hlen:b.length<=1000):yO [.lst (ar b),aK o] H=some (.lst (ar (minG ls 0 b ls)),H):=by
 exists aD (Qm hs hl hlen),H',e;exact eT e (.cons (.lst gq) (.cons fb .nil)) (.lst gq)
theorem aae(ps:List Po):∀(i:Nat) (rs:List Pr),(minG ls i ps rs).Sublist ps:=by
 induction ps with
 |nil=>intro i rs;induction rs using aM <;> exact .slnil
 |cons p ps ih=>
  intro i rs
  induction rs using aM with
  |nil=>exact List.nil_sublist _
  |cons l rs=>
   show List.Sublist (match anyD l.1 l.2 (ls.take i++dropP l rs)with
    |true=>minG ls (Nat.succ i) ps rs
    |false=>p::minG ls (Nat.succ i) ps rs) _
   induction anyD l.1 l.2 (ls.take i++dropP l rs)using aB with
   |true=>exact .cons _ (ih _ rs)
   |false=>exact List.Sublist.cons_cons _ (ih _ rs)
end
end
section
open PySem
def ltI(o:Bool)(x y i x' y' j:Nat):Bool:=match bH x y x' y' with
 |true=>c9 i j
 |false=>gtM o x' y' x y
def askG(o:Bool)(ls:List Pr)(i j:Nat):Option Bool:=match ls[i]? with
 |some a=>match ls[j]? with
  |some b=>some (ltI o a.1 a.2 i b.1 b.2 j)
  |none=>none
 |none=>none
noncomputable def outN(r:Option (Array Nat)):Option (List Nat):=match r with
 |some p=>some p.toList
 |none=>none
def BS(o:Bool)(ls:List Pr):Option (List Nat):=match ls with
 |[]=>some []
 |a::r=>match r with
  |[]=>some [0]
  |b::s=>outN (treeRun (askG o (a::b::s)) (PySem.W.kas_sort (a::b::s).length))
noncomputable def cE(o:Od):Nat->List Pr->List V
 |_,[]=>[]
 |i,a::r=>.tup [keyV o a.1 a.2,ay i]::cE o (i+1) r
theorem XG(ls:List Pr):∀(i:Nat),(cE o i ls).length=ls.length:=by
 induction ls with
 |nil=>
  intro _;exact rfl
 |cons a r ih=>
  intro i;show(cE o (i+1) r).length+1=_;rw[ih];rfl
theorem yK(ls:List Pr):∀(i j:Nat) (a:Pr),ls[j]?=some a->(cE o i ls)[j]?=some (.tup [keyV o a.1 a.2,ay (i+j)]):=by
 induction ls with
 |nil=>intro i j a h;exact nq h
 |cons b r ih=>
  intro i j a h
  induction j using bL with
  |zero=>exists h;rfl
  |succ j=>
   have:=ih (i+1) j a h;show(cE o (i+1) r)[j]?=_;rw[this,Nat.add_right_comm i 1 j];rfl
theorem Dn{α:Type}{f g:Nat->Nat->Option Bool}(h:∀i j c,g i j=some c->f i j=some c):∀(t:PySem.W.KasT α) (r:α),treeRun g t=some r->treeRun f t=some r:=by
 intro t
 induction t with
 |ret a=>intro r e;exact e
 |ask i j k ih=>
  intro r e;have e:(match g i j with
   |some c=>treeRun g (k c)
   |none=>none)=some r:=e
  show(match f i j with
   |some c=>treeRun f (k c)
   |none=>none)=some r
  exists sT e,c,hc,e
  ·rw[h i j c hc];exact ih c r e
theorem aad:jk false e0 (.tup [keyV o x y,ay i]) (.tup [keyV o x' y',ay j])=some (ltI (gr o) x y i x' y' j):=by
 have h0:jk false e0 (.tup [keyV o x y,ay i]) (.tup [keyV o x' y',ay j])=fE false (tcmp false 7) [keyV o x y,ay i] [keyV o x' y',ay j]:=by induction o using Internal.Od.casesOn <;> rfl
 rw[h0];show(match teq 8 (keyV o x y) (keyV o x' y')with
  |true=>(match aF i j with
   |true=>some false
   |false=>some (c9 i j))
  |false=>tcmp false 7 (keyV o x y) (keyV o x' y'))=_
 rw[uW (n:=6),tN 5];unfold ltI;clear h0;induction bH x y x' y' using aB with
 |false=>rfl
 |true=>
  dsimp only
  induction h:aF i j using aB with
  |false=>rfl
  |true=>
   have:=cY h;clear h;subst this;dsimp only;have:c9 i i=false:=gS.mpr fun q=>by
    have:i+1<=i:=bC q
    lia
   rw[this]
set_option tactic.hygienic true in
theorem ON(h:askG (gr o) ls i j=some c):iH (cE o 0 ls) i j=some c:=by
 unfold askG at h;split at h
 ·rename_i a ha;exists pG h,b,hb,h
  ·exists h;have h1:=yK (o:=o) ls 0 i a ha;have h2:=yK (o:=o) ls 0 j b hb;rw[Nat.zero_add]at h1 h2;unfold iH cQ;rw[j7,j7,h1,h2];exact aad
 ·exact nq h
theorem QU(ls:List Pr):∀(i:Nat),allKind 2 (cE o i ls)=true:=by
 induction ls with
 |nil=>
  intro _;exact rfl
 |cons a r ih=>
  intro i;show(match aF (headKind (.tup [keyV o a.1 a.2,ay i])) 2 with
   |true=>allKind 2 (cE o (i+1) r)
   |false=>false)=true
  rw[show headKind (.tup [keyV o a.1 a.2,ay i])=2 by clear ih;induction o using Internal.Od.casesOn <;> rfl,eu];exact ih (i+1)
set_option tactic.hygienic true in
theorem O9(hl:ls.length<=60)(h:BS (gr o) ls=some p):vsort (cE o 0 ls)=some (p.map (cQ (cE o 0 ls))):=by
 unfold BS at h;split at h
 ·(clear hl;exists h);rfl
 ·rename_i a r;split at h
  ·(clear hl;exists h);rfl
  ·rename_i b s;exists Bl h,q,hq,h
   ·exists h;have hlen:=XG (o:=o) (a::b::s) 0;show guard' (b8 (cE o 0 (a::b::s)).length 60) (sortGo (cE o 0 (a::b::s)) (headKind (.tup [keyV o a.1 a.2,ay 0])))=_;rw[hlen,fj hl,show headKind (.tup [keyV o a.1 a.2,ay 0])=2 by clear hlen hq hl;induction o using Internal.Od.casesOn <;> rfl];show guard' (allKind 2 (cE o 0 (a::b::s))) (xA (cE o 0 (a::b::s)) (treeRun (iH (cE o 0 (a::b::s))) (PySem.W.kas_sort (cE o 0 (a::b::s)).length)))=_;rw[QU,hlen,Dn (fun i j c=>ON) _ _ hq];rfl
noncomputable def F6(go:List Po->Option (List Po))(found:List Po)(m:Option Po):Option (List Po):=match m with
 |none=>none
 |some m=>go (found++[m])
def Fy(go:List Po->Option (List Po))(o:Bool)(found:List Po)(q:Po):Option (List Po):=match iG q with
 |true=>F6 go found (mon o q)
 |false=>none
def redA(go:List Po->Option (List Po))(o:Bool)(found:List Po)(q:Option Po):Option (List Po):=match q with
 |none=>none
 |some q=>Fy go o found q
noncomputable def redG(o:Bool)(kept:List Po):List Nat->List Po->Option (List Po)
 |[],found=>some found
 |i::r,found=>match kept[i]? with
  |none=>none
  |some p=>redA (redG o kept r) o found (restOf o p found)
def Jn(o:Bool)(kept:List Po)(p:Option (List Nat)):Option (List Po):=match p with
 |none=>none
 |some p=>match b8 p.length 900 with
  |true=>redG o kept p []
  |false=>none
def Iu(o:Bool)(kept:List Po)(ls:Option (List Pr)):Option (List Po):=match ls with
 |none=>none
 |some ls=>Jn o kept (BS o ls)
def redF(o:Bool)(b:List Po)(ls:Option (List Pr)):Option (List Po):=match ls with
 |none=>none
 |some ls=>Iu o (minG ls 0 b ls) (leadsP o (minG ls 0 b ls))
def Ib(o:Bool)(b:Option (List Po)):Option (List Po):=match b with
 |none=>none
 |some b=>match b8 b.length 60 with
  |true=>redF o b (leadsP o b)
  |false=>none
def s9(o:Bool)(s:List Po):Option (List Po):=Ib o (vM o s)
def ug:List MS:=[(.expr (.cO .append (.var 5) [(.call jn [(.call kn [(.sub (.var 2) (.var 3)),(.var 5),(.var 1)]),(.var 1)])]))]
noncomputable def kJ:Nat->List Po->List (Nat×Po)
 |_,[]=>[]
 |i,p::r=>(i,p)::kJ (i+1) r
def zq(a:Nat×Po):V:=.tup [ay a.1,.dct (aj a.2)]
theorem X8(b:List Po):∀(i:Nat),enumL (Int.ofNat i) (ar b)=(kJ i b).map zq:=by
 induction b with
 |nil=>
  intro _;exact rfl
 |cons p r ih=>
  intro i;show V.tup [ay i,.dct (aj p)]::enumL (Int.ofNat (i+1)) (ar r)=_;rw[ih (i+1)];rfl
theorem ZW:∀{i:Nat} {a:Nat×Po},a∈kJ i b->a.2∈b:=by
 induction b with
 |nil=>
  intro _ _ m;cases m
 |cons p r ih=>
  intro i a m;rcases aI.mp m with rfl|m
  ·exact .head _
  ·exact .tail _ (ih m)
def i4(o:Bool)(p:Po):Pr:=match lead o p with
 |none=>(0,0)
 |some t=>(t.x,t.y)
set_option tactic.hygienic true in
theorem Je:∀{ls:List Pr},leadsP o b=some ls->ls=b.map (i4 o):=by
 induction b with
 |nil=>
  intro ls e;exists e;rfl
 |cons p r ih=>
  intro ls e;dsimp only[leadsP]at e;split at e
  ·exact nq e
  ·rename_i t ht;exists kG e,s,hs,e
   ·exists e;rw[aO,<- ih hs];unfold i4;rw[ht]
theorem VP(b:List Po):∀(i:Nat),(kJ i b).map (fun a=>V.tup [keyV o (i4 (gr o) a.2).1 (i4 (gr o) a.2).2,ay a.1])=cE o i (b.map (i4 (gr o))):=by
 induction b with
 |nil=>
  intro _;exact rfl
 |cons p r ih=>
  intro i;show _::(kJ (i+1) r).map _=_;rw[ih (i+1)];rfl
theorem Qj(b:List Po):∀(i:Nat),(kJ i b).length=b.length:=by
 induction b with
 |nil=>
  intro _;exact rfl
 |cons p r ih=>
  intro i;show(kJ (i+1) r).length+1=_;rw[ih];rfl
section
variable {H:Hp}
theorem Wc(hl:ls.length=kept.length)(hk:∀p∈kept,aX p)(hlen:kept.length<=1000)(res:List Po):∀(p:List Nat) (found:List Po) (o3 o6:Option V),redG (gr o) kept p found=some res->(∀q∈found,aX q)->found.length+p.length<=1000->
  ∃ρ,loopF [6,3] true (denSs (denS 19) ug) (p.map (cQ (cE o 0 ls))) (x0::some (aK o)::some (.lst (ar kept))::o3::x4::some (.ref 1)::o6::r) ⟨2,[⟨1,false,.list (ar found)⟩,⟨0,true,.list ks⟩]⟩ =
   some (.next,x0::some (aK o)::some (.lst (ar kept))::ρ,⟨2,[⟨1,false,.list (ar res)⟩,⟨0,true,.list ks⟩]⟩)/\(∃a b c s,ρ=a::b::some (.ref 1)::c::s)/\∀q∈res,aX q:=by
 intro p
 induction p with
 |nil=>intro found o3 o6 e hf _;exists e;exact⟨_,rfl,⟨_,_,_,_,rfl⟩,hf⟩
 |cons i p ih=>
  intro found o3 o6 e hf fY;have fY:found.length+(p.length+1)<=1000:=fY;exists kj e,f,lM,e
  ·unfold redA at e;exists kj e,q,hq,e
   ·unfold Fy at e;exists cm e,hb,e
    ·unfold F6 at e;exists kj e,m,hm,e
     ·have IU:=km hb (CU hq).1;exists ak (xl (H:=⟨2,[⟨1,false,.list (ar found)⟩,⟨0,true,.list ks⟩]⟩) IU hm),WA,e2;have lk:aq ⟨2,[⟨1,false,.list (ar found)⟩,⟨0,true,.list ks⟩]⟩ 1 (ar found):=rfl;have e1:=Fb (o:=o) lk.at (hk f (eA lM)) hf (by lia) hq;have e3:=lG (v:=.dct (aj m)) lk (by rw[w8];lia);rw[HW]at e3;have e4:∀H,subs H (.lst (ar kept)) (ay i)=some (.dct (aj f)):=fun H=>fZ (by rw[w8];lia) (J4 lM);have qu:i<kept.length:=(fo.mp lM).1;have FE:ls[i]?=some (ls[i]'(Nat.lt_of_lt_of_eq qu (id (Eq.symm hl)))):=List.getElem?_eq_getElem (Nat.lt_of_lt_of_eq qu (id (Eq.symm hl)));have e5:cQ (cE o 0 ls) i = .tup [keyV o (ls[i]'(by lia)).1 (ls[i]'(by lia)).2,ay i]:=by
       have:=yK (o:=o) ls 0 i _ FE;rw[Nat.zero_add]at this;unfold cQ;rw[j7,this];rfl
      clear FE IU hm hb hq lM hlen hk;obtain⟨ρ,a1,a2,a3⟩:=ih (found++[m]) (some (ay i)) (some (keyV o (ls[i]'(Nat.lt_of_lt_of_eq qu (id (Eq.symm hl)))).1 (ls[i]'(Nat.lt_of_lt_of_eq qu (id (Eq.symm hl)))).2)) e (fun q' m'=>by
       clear e5 qu e4 e3 e1 lk e2 e fY ih hl;clear e fY;rcases l7.mp m' with m'|m'
       ·exact hf q' m'
       ·clear hf;cases c7.mp m';exact WA) (by rw[d8];show found.length+1+p.length<=_;lia)
      refine⟨ρ,?_,a2,a3⟩;rw[aO,e5,fz];unfold ug;unfold ug at a1;simp! only[lZ lk,e4,e1,e2,e3];exact a1
set_option tactic.hygienic true in
theorem XD{o:Od}{b res:List Po}(hb:∀p∈b,aX p)(hlen:b.length<=60)(e:redF (gr o) b (leadsP (gr o) b)=some res):(∀p∈res,aX p)/\∃H',Bz [.lst (ar b),aK o] ⟨0,[]⟩=some (.lst (ar res),H'):=by
 unfold redF at e;exists kG e,ls,hl,e
 ·have gc:=aae (ls:=ls) b 0 ls;have nQ:(minG ls 0 b ls).length<=b.length:=gc.length_le;have ij:∀p∈minG ls 0 b ls,aX p:=fun p m=>hb p (gc.subset m);have e0:=Vi (H:=⟨0,[]⟩) hb hl (by lia);unfold Iu at e;exists kG e,gA,hl2,e
  ·unfold Jn at e;split at e
   ·exact nq e
   ·rename_i p hp;exists cm e,lp,e;have lp:=bC lp;generalize minG ls 0 b ls=kept at *;exists fu (tx hl2),n1,n2,n3,n4;have hN:=Je hl2;have hle:=n4 ij;have h1:∀{x3 x4 x5 x6 x7 x8 x9:Option V} {r:ai},den 19 (.lcomp [7,8,9] (.tup [(.call jX [(.var 1),(.sub (.call cV [(.var 9),(.var 1)]) (.const (.int 0)))]),(.var 8)]) [([8,9],true,.enum,[(.var 2)],[])]) (some (.lst (ar b))::some (aK o)::some (.lst (ar kept))::x3::x4::x5::x6::x7::x8::x9::r) ⟨0,[]⟩=some (.ref 0,⟨1,[⟨0,false,.list (cE o 0 gA)⟩]⟩):=by
     intro x3 x4 x5 x6 x7 x8 x9 r;have it:∀H,iterOf H .enum [.lst (ar kept)]=some (enumL (Int.ofNat 0) (ar kept)):=fun _=>rfl;simp! only[it];refine jc ?_;rw[X8];have:=dK (k:=0) (n:=1) (es:=[]) (enc:=zq) (f:=turn (den 18) [8,9] true [] (ck 0 (.tup [(.call jX [(.var 1),(.sub (.call cV [(.var 9),(.var 1)]) (.const (.int 0)))]),(.var 8)]) (den 18)) (some (.lst (ar b))::some (aK o)::some (.lst (ar kept))::x3::x4::x5::x6::none::none::none::r)) (fun a=>[V.tup [keyV o (i4 (gr o) a.2).1 (i4 (gr o) a.2).2,ay a.1]]) (kJ 0 kept) [] (fun a m acc ha=>by
      have mp:=ZW m;exists aD (n2 a.2 mp),t,ht;have Ky:=(ij a.2 mp).2.1 t (gB ht);have e1:∀H,cV [.dct (aj a.2),aK o] H=some (bW (lead (gr o) a.2),H):=fun H=>ji (av:=.dct (aj a.2)) rfl (ij a.2 mp).2.2 (jL (ij a.2 mp));rw[ht]at e1;have e2:∀H,jX [aK o,encM t.x t.y] H=some (keyV o t.x t.y,H):=fun H=>vT (br Ky.1 dq) (br Ky.2.1 dq);have e3:i4 (gr o) a.2=(t.x,t.y):=by unfold i4;rw[ht]
      rw[e3];unfold zq;simp! only[e1,ly,e2];exact dg ha) (by rw[eY,Qj];show 0+_<=_;lia)
     rw[eN,dp,VP,<- hN]at this;exact this
    have hs:=O9 (o:=o) (by lia) hp;have h2:eC .sort (.ref 0) [] ⟨1,[⟨0,false,.list (cE o 0 gA)⟩]⟩=some (.none,⟨1,[⟨0,false,.list (p.map (cQ (cE o 0 gA)))⟩]⟩):=by
     show(match vsort (cE o 0 gA)with
      |some s=>some (V.none,setObj ⟨1,[⟨0,false,.list (cE o 0 gA)⟩]⟩ 0 (.list s))
      |none=>none)=_
     rw[hs];rfl
    have LJ:fR .sort (own ⟨1,[⟨0,false,.list (cE o 0 gA)⟩]⟩ (.ref 0))=true:=rfl;clear hs hle hN n4 n3 n2 hl2 gc hp hl hb;obtain⟨ρ,el,⟨a,b',c,s,Bt⟩,sf⟩:=Wc (o:=o) (ks:=p.map (cQ (cE o 0 gA))) n1.symm ij (by lia) res (x0:=some (.lst (ar b))) (x4:=some (.ref 0)) (r:=cq 14 none) p [] none none e (fun q m=>nomatch m) (by show 0+p.length<=_;lia);refine⟨sf,⟨2,[]⟩,?_⟩;clear sf n1 e ij nQ lp hlen;clear e lp;subst Bt;have it:iterOf ⟨2,[⟨1,false,.list []⟩,⟨0,false,.list (p.map (cQ (cE o 0 gA)))⟩]⟩ .seq [.ref 0]=some (p.map (cQ (cE o 0 gA))):=rfl;have lk:lockH ⟨2,[⟨1,false,.list []⟩,⟨0,false,.list (p.map (cQ (cE o 0 gA)))⟩]⟩ [.ref 0]=⟨2,[⟨1,false,.list (ar [])⟩,⟨0,true,.list (p.map (cQ (cE o 0 gA)))⟩]⟩:=rfl;unfold Bz Km;rw[dQ];unfold ug at el;simp only[rep0,rep1]at el;rw[aN];simp only[cg,cH,bo,bj,bA,rep0,rep1,bg,bh,bk,aG,e0,aY,aZ,aS,bc];rw[aN];simp only[cg,h1,aG,aY,aZ,aS,bc];rw[aN];simp only[jF,kI,bo,bj,bg,bh,bk,aG,LJ,lR,h2,aS,bc];rw[aN];simp only[cg,fg,bj,aG,jh,Nat.reduceAdd,aY,aZ,aS,bc];rw[aN];simp only[kU,bo,bj,bA,bg,bh,bk,aG,it,lk];rw[el];have hu:∀ρ,sunl [⟨1,false,.list []⟩,⟨0,false,.list (p.map (cQ (cE o 0 gA)))⟩] [.ref 0] (some (.next,ρ,⟨2,[⟨1,false,.list (ar res)⟩,⟨0,true,.list (p.map (cQ (cE o 0 gA)))⟩]⟩))=some (.next,ρ,⟨2,[⟨1,false,.list (ar res)⟩,⟨0,false,.list (p.map (cQ (cE o 0 gA)))⟩]⟩):=fun ρ=>rfl;rw[hu];simp! only[];show some (V.lst ((ar res).map _),(⟨2,[]⟩:Hp))=_;rw[u7]
end
end
section
open PySem
section
variable {H:Hp}
theorem VH{o:Od}{b res:List Po}(hb:∀p∈b,aX p)(hlen:b.length<=60)(e:redF (gr o) b (leadsP (gr o) b)=some res):(∀p∈res,aX p)/\xT [.lst (ar b),aK o] H=some (.lst (ar res),H):=by
 obtain⟨h,H',e⟩:=XD hb hlen e;exact⟨h,eT e (.cons (.lst gq) (.cons fb .nil)) (.lst gq)⟩
set_option tactic.hygienic true in
theorem Q2{o:Od}{s res:List Po}(hs:∀p∈s,aX p)(hlen:s.length<=40)(e:s9 (gr o) s=some res):(∀p∈res,aX p)/\wh [.lst (ar s),aK o,.int 40] H=some (.lst (ar res),H):=by
 unfold s9 Ib at e;split at e
 ·exact nq e
 ·rename_i b hb;exists cm e,cv,e;have cv:=bC cv;exists ak (Wq (H:=⟨0,[]⟩) hs hlen hb),h1,e1;exists ak (VH (H:=⟨0,[]⟩) h1 cv e),h2,e2;refine⟨h2,eT (H':=⟨0,[]⟩) ?_ (.cons (.lst gq) (.cons fb (.cons (.int _) .nil))) (.lst gq)⟩;unfold J5 Jt;rw[iA];simp! only[e1,e2];rfl
end
def stdA(go:List Pr->List Pr->Option (List Pr))(found w:List Pr)(p:Pr)(ls:List Pr):Option (List Pr):=match memP p.1 p.2 found with
 |true=>go found w
 |false=>match anyD p.1 p.2 ls with
  |true=>go found w
  |false=>go (found++[p]) ((p.1,Nat.succ p.2)::(Nat.succ p.1,p.2)::w)
noncomputable def stdG(ls:List Pr):Nat->List Pr->List Pr->Option (List Pr)
 |0,_,_=>none
 |k+1,found,w=>match w with
  |[]=>some found
  |p::w=>stdA (stdG ls k) found w p ls
def askN(ls:List Pr)(i j:Nat):Option Bool:=match ls[i]? with
 |some a=>match ls[j]? with
  |some b=>some (gtM false b.1 b.2 a.1 a.2)
  |none=>none
 |none=>none
def yG(ls:List Pr):Option (List Nat):=match ls with
 |[]=>some []
 |a::r=>match r with
  |[]=>some [0]
  |b::s=>outN (treeRun (askN (a::b::s)) (PySem.W.kas_sort (a::b::s).length))
noncomputable def pick(ls:List Pr):List Nat->Option (List Pr)
 |[]=>some []
 |i::r=>match ls[i]? with
  |none=>none
  |some a=>match pick ls r with
   |none=>none
   |some s=>some (a::s)
def Kd(found:List Pr)(p:Option (List Nat)):Option (List Pr):=match p with
 |none=>none
 |some p=>match b8 found.length 60 with
  |true=>pick found p
  |false=>none
def Hj(f:Option (List Pr)):Option (List Pr):=match f with
 |none=>none
 |some f=>Kd f (yG f)
def F9(ls:Option (List Pr)):Option (List Pr):=match ls with
 |none=>none
 |some ls=>Hj (stdG ls 100 [] [(0,0)])
def std(o:Bool)(b:List Po):Option (List Pr):=F9 (leadsP o b)
set_option tactic.hygienic true in
theorem aa3(h:askN ls i j=some c):iH (ls.map encN) i j=some c:=by
 unfold askN at h;split at h
 ·rename_i a ha;exists pG h,b,hb,h
  ·exists h;unfold iH cQ;rw[j7,j7,dM,dM,ha,hb];exact tN (o:=.lex) 6
 ·exact nq h
theorem Q4(ls:List Pr):allKind 1 (ls.map encN)=true:=by
 induction ls with
 |nil=>
  exact rfl
 |cons a r ih=>
  exact ih
set_option tactic.hygienic true in
theorem ZA(hl:ls.length<=60)(h:yG ls=some p):vsort (ls.map encN)=some (p.map (cQ (ls.map encN))):=by
 unfold yG at h;split at h
 ·(clear hl;exists h);rfl
 ·rename_i a r;split at h
  ·(clear hl;exists h);rfl
  ·rename_i b s;exists Bl h,q,hq,h
   ·exists h;have hlen:((a::b::s).map encN).length=(a::b::s).length:=aJ _;show guard' (b8 ((a::b::s).map encN).length 60) (guard' (allKind 1 ((a::b::s).map encN)) (xA ((a::b::s).map encN) (treeRun (iH ((a::b::s).map encN)) (PySem.W.kas_sort ((a::b::s).map encN).length))))=_;rw[hlen,fj hl,Q4,Dn (fun i j c=>aa3) _ _ hq];rfl
set_option tactic.hygienic true in
theorem Mv:∀{r:List Pr},pick ls p=some r->p.map (cQ (ls.map encN))=r.map encN:=by
 induction p with
 |nil=>
  intro r e;exists e;rfl
 |cons i p ih=>
  intro r e;dsimp only[pick]at e;split at e
  ·exact nq e
  ·rename_i a ha;exists kG e,s,hs,e
   ·exists e;rw[aO,aO,ih hs];congr 1;unfold cQ;rw[j7,dM,ha];rfl
def known(f:List Pr):List (List Int×V):=f.map fun m=>(bU m.1 m.2,V.bool true)
theorem De(f:List Pr):(dget (known f) (bU i j)).isSome=memP i j f:=by
 induction f with
 |nil=>
  exact rfl
 |cons a r ih=>
  show(match keq (bU a.1 a.2) (bU i j)with
   |true=>some (V.bool true)
   |false=>dget (known r) (bU i j)).isSome=(match bH a.1 a.2 i j with
   |true=>true
   |false=>memP i j r)
  rw[sQ]
  induction bH a.1 a.2 i j using aB with
  |true=>rfl
  |false=>exact ih
theorem aa2(f:List Pr):memP i j f=false->dset (known f) (bU i j) (.bool true)=known (f++[(i,j)]):=by
 induction f with
 |nil=>
  intro _;exact rfl
 |cons a r ih=>
  intro h;have h:(match bH a.1 a.2 i j with
   |true=>true
   |false=>memP i j r)=false:=h
  show(match keq (bU a.1 a.2) (bU i j)with
   |true=>(bU a.1 a.2,V.bool true)::known r
   |false=>(bU a.1 a.2,V.bool true)::dset (known r) (bU i j) (.bool true))=_
  rw[sQ]
  induction e:bH a.1 a.2 i j using aB with
  |true=>rw[e]at h;exact bt h
  |false=>
   rw[e]at h;dsimp only;rw[ih h];rfl
def stH(f w ls:List Pr):Hp:=⟨4,[⟨3,false,.dict (known f)⟩,⟨2,false,.list (w.reverse.map encN)⟩,⟨1,false,.list (f.map encN)⟩,⟨0,false,.list (ls.map encN)⟩]⟩
def pE:List MS:=[(.assign 7 (.cO .jV (.var 5) [])),(.if_ (.eU [(.cmp .In (.var 7) (.var 6)),(.call pN [(.var 7),(.var 3)])]) [.cont] []),(.store (.var 6) (.var 7) (.const (.bool true))),(.expr (.cO .append (.var 4) [(.var 7)])),(.for_ [8] false .range1 [(.var 2)] [(.expr (.cO .append (.var 5) [(.bin .Add (.bin .Add (.slice true (.var 7) (.var 8)) (.tup [(.bin .Add (.sub (.var 7) (.var 8)) (.const (.int 1)))])) (.slice false (.var 7) (.bin .Add (.var 8) (.const (.int 1)))))]))])]
section
variable {x0 x1 x8:Option V} {r:ai}
noncomputable def j8(x0 x1 x7 x8:Option V)(r:ai):ai:=x0::x1::some (.int 2)::some (.ref 0)::some (.ref 1)::some (.ref 2)::some (.ref 3)::x7::x8::r
theorem IE(hw:w.length<=1000):eC .jV (.ref 2) [] (stH f (p::w) ls)=some (encN p,stH f w ls):=by
 show(match ((p::w).reverse.map encN).getLast? with
  |some x=>guard' (lenOk ((p::w).reverse.map encN)) (some (x,setObj (stH f (p::w) ls) 2 (.list ((p::w).reverse.map encN).dropLast)))
  |none=>none)=_
 have h1:(p::w).reverse.map encN=w.reverse.map encN++[encN p]:=by rw[List.reverse_cons,gI];rfl
 rw[h1,List.getLast?_append];show guard' (lenOk (w.reverse.map encN++[encN p])) (some (encN p,setObj (stH f (p::w) ls) 2 (.list (w.reverse.map encN++[encN p]).dropLast)))=_;rw[cW (by rw[d8,aJ,List.length_reverse];show w.length+1<=_;lia),List.dropLast_concat];rfl
theorem Kf(hw:w.length<=1000):eC .append (.ref 2) [encN p] (stH f w ls)=some (.none,stH f (p::w) ls):=by
 have lk:aq (stH f w ls) 2 (w.reverse.map encN):=rfl;rw[lG lk (by rw[aJ,List.length_reverse];lia)];show some (V.none,(⟨4,_⟩:Hp))=some (V.none,stH f (p::w) ls);unfold stH;rw[List.reverse_cons,gI];rfl
theorem EN(hw:w.length<=1000)(hl:ls.length<=1000)(h:memP p.1 p.2 f=true\/anyD p.1 p.2 ls=true) :
  denSs (denS 19) pE (j8 x0 x1 x7 x8 r) (stH f (p::w) ls)=some (.cont,j8 x0 x1 (some (encN p)) x8 r,stH f w ls):=by
 have e1:=IE (f:=f) (ls:=ls) (p:=p) hw;have pK:fR .jV (own (stH f (p::w) ls) (.ref 2))=true:=rfl;have e2:bu .In (encN p) (.ref 3) (stH f w ls)=some (memP p.1 p.2 f):=by
  rw[<- De];exact vj (l:=known f) rfl
 have e3:=A1 (H:=stH f w ls) (x:=p.1) (y:=p.2) (lv:=.ref 0) hl rfl;rw[show encM p.1 p.2=encN p from rfl]at e3;unfold pE j8;simp! only[pK,e1,e2];clear e2 pK e1 hl hw;induction hm:memP p.1 p.2 f using aB with
 |true=>simp! only[]
 |false=>
  rw[hm]at h;simp! only[e3,h.resolve_left dq]
theorem KS(hf:f.length<=1000)(hw:w.length<=900)(hl:ls.length<=1000)(h1:memP p.1 p.2 f=false)(h2:anyD p.1 p.2 ls=false) :
  denSs (denS 19) pE (j8 x0 x1 x7 x8 r) (stH f (p::w) ls)=some (.next,j8 x0 x1 (some (encN p)) (some (.int 1)) r,stH (f++[p]) ((p.1,Nat.succ p.2)::(Nat.succ p.1,p.2)::w) ls):=by
 have e1:=IE (f:=f) (ls:=ls) (p:=p) (w:=w) (by lia);have pK:fR .jV (own (stH f (p::w) ls) (.ref 2))=true:=rfl;have e2:bu .In (encN p) (.ref 3) (stH f w ls)=some (memP p.1 p.2 f):=by
  rw[<- De];exact vj (l:=known f) rfl
 have e3:=A1 (H:=stH f w ls) (x:=p.1) (y:=p.2) (lv:=.ref 0) hl rfl;rw[show encM p.1 p.2=encN p from rfl]at e3;have vK:bS (stH f w ls) 3 (known f):=rfl;have e4:=uI (x:=p.1) (y:=p.2) (v:=.bool true) vK (by unfold known;rw[aJ];lia);rw[aa2 f h1,show encM p.1 p.2=encN p from rfl]at e4;have cN:aq (setObj (stH f w ls) 3 (.dict (known (f++[(p.1,p.2)])))) 1 (f.map encN):=rfl;have e5:=lG (v:=encN p) cN (by rw[aJ];lia);have hH:setObj (setObj (stH f w ls) 3 (.dict (known (f++[(p.1,p.2)])))) 1 (.list (f.map encN++[encN p]))=stH (f++[p]) w ls:=by
  unfold stH;rw[gI];rfl
 rw[hH]at e5;have XF:=lZ cN;have it:∀H,iterOf H .range1 [V.int 2]=some [V.int 0,V.int 1]:=fun _=>rfl;have Qw:∀H,lockH H [V.int 2]=H:=fun _=>rfl;have su:∀es f ρ H,sunl es [V.int 2] (some (f,ρ,H))=some (f,ρ,H):=fun _ _ _ _=>rfl;have u0:∀H,ja true (encN p) (nat? (V.int 0)) H=some (.tup [],H):=fun _=>rfl;have u1:∀H,ja true (encN p) (nat? (V.int 1)) H=some (.tup [V.int (.ofNat p.1)],H):=fun _=>rfl;have d0:∀H,ja false (encN p) (nat? (V.int 1)) H=some (.tup [V.int (.ofNat p.2)],H):=fun _=>rfl;have d1:∀H,ja false (encN p) (nat? (V.int 2)) H=some (.tup [],H):=fun _=>rfl;have a0:∀H,binOp .Add (V.int 0) (V.int 1) H=some (V.int 1,H):=fun _=>rfl;have a1:∀H,binOp .Add (V.int 1) (V.int 1) H=some (V.int 2,H):=fun _=>rfl;have b0:∀H,subs H (encN p) (V.int 0)=some (V.int (.ofNat p.1)):=fun _=>rfl;have b1:∀H,subs H (encN p) (V.int 1)=some (V.int (.ofNat p.2)):=fun _=>rfl;have c0:∀a H,binOp .Add (V.int (.ofNat a)) (V.int 1) H=some (V.int (.ofNat (a+1)),H):=fun _ _=>rfl;have g0:∀H,binOp .Add (.tup []) (.tup [V.int (.ofNat (p.1+1))]) H=some (.tup [V.int (.ofNat (p.1+1))],H):=fun _=>rfl;have g1:∀H,binOp .Add (.tup [V.int (.ofNat (p.1+1))]) (.tup [V.int (.ofNat p.2)]) H=some (encN (Nat.succ p.1,p.2),H):=fun _=>rfl;have g2:∀H,binOp .Add (.tup [V.int (.ofNat p.1)]) (.tup [V.int (.ofNat (p.2+1))]) H=some (.tup [V.int (.ofNat p.1),V.int (.ofNat (p.2+1))],H):=fun _=>rfl;have g3:∀H,binOp .Add (.tup [V.int (.ofNat p.1),V.int (.ofNat (p.2+1))]) (.tup []) H=some (encN (p.1,Nat.succ p.2),H):=fun _=>rfl;have p1:=Kf (f:=f++[p]) (w:=w) (ls:=ls) (p:=(Nat.succ p.1,p.2)) (by lia);have p2:=Kf (f:=f++[p]) (w:=(Nat.succ p.1,p.2)::w) (ls:=ls) (p:=(p.1,Nat.succ p.2)) (by show w.length+1<=_;lia);have uj:∀w,fR .append (own (stH (f++[p]) w ls) (.ref 2))=true:=fun _=>rfl;unfold pE j8;refine aN.trans ?_;simp only[cg,kI,bo,bj,bg,bh,bk,aG,pK,lR,e1,aY,aZ,aS,bc];refine aN.trans ?_;simp only[hX,pe,oQ,nW,fK,cH,bj,bA,bo,bg,bh,bk,fN,aG,fx,e2,h1,pB,nX,e3,h2,iO,gj,aS,bc];refine aN.trans ?_;simp only[vt,cD,bo,bg,bh,bk,aG,e4,uB,aS,bc];refine aN.trans ?_;simp only[jF,kI,bo,bj,bA,bg,bh,bk,aG,XF,lR,e5,aS,bc];refine aN.trans ?_;simp! only[it,Qw,uj,u0,u1,d0,d1,a0,a1,b0,b1,c0,g0,g1,g2,g3,p1,p2,su]
end
end
section
open PySem
section
variable {H:Hp}
theorem OU(hw:w.length<=1000):den 19 (.cmp .Gt (.bi .len [.var 5]) (.const (.int 0))) (j8 x0 x1 x7 x8 r) (stH f w ls)=some (.bool (c9 0 w.length),stH f w ls):=by
 have lk:aq (stH f w ls) 2 (w.reverse.map encN):=rfl;have e1:=lW lk (by rw[aJ,List.length_reverse];lia);rw[aJ,List.length_reverse]at e1;unfold j8;simp! only[e1,lC]
set_option tactic.hygienic true in
theorem Wg(hl:ls.length<=1000)(res:List Pr):∀(k:Nat) (f w:List Pr) (n:Nat) (x7 x8:Option V),stdG ls k f w=some res->f.length+k<=500->w.length+2 * k<=500->k<n->
  ∃Za mn,fq (den 19 (.cmp .Gt (.bi .len [.var 5]) (.const (.int 0)))) (denSs (denS 19) pE) n (j8 x0 x1 x7 x8 r) (stH f w ls)=some (.next,j8 x0 x1 Za mn r,stH res [] ls):=by
 intro k
 induction k with
 |zero=>intro _ _ _ _ _ e;exact nq e
 |succ k ih=>
  intro f w n x7 x8 e hf hw hn;obtain⟨n,rfl⟩:∃m,n=m+1:=⟨n - 1,by lia⟩;rw[qb,OU (by lia),fx];dsimp only[stdG]at e;split at e
  ·(clear hw hn hf ih hl;exists e)
   rw[show c9 0 ([]:List Pr).length=false from rfl,tA];exact⟨x7,x8,rfl⟩
  ·rename_i p w;have hw:w.length+1+2 * (k+1)<=500:=hw;rw[show c9 0 (p::w).length=true from kZ (Nat.succ_pos _),nP];unfold stdA at e;split at e
   ·rename_i hm;rw[EN (by lia) hl (.inl hm),aS,mZ];exact ih f w n _ _ e (by lia) (by lia) (by lia)
   ·rename_i hm;split at e
    ·rename_i ha;rw[EN (by lia) hl (.inr ha),aS,mZ];exact ih f w n _ _ e (by lia) (by lia) (by lia)
    ·rename_i ha;rw[KS (by lia) (by lia) hl hm ha,aS,jI];exact ih _ _ n _ _ e (by rw[d8];show f.length+1+k<=_;lia) (by show w.length+1+1+2 * k<=_;lia) (by lia)
theorem Sp{o:Od}{b:List Po}{res:List Pr}(hs:∀p∈b,aX p)(hlen:b.length<=1000)(e:std (gr o) b=some res):∃H',xG [.lst (ar b),aK o,.int 2] ⟨0,[]⟩=some (.lst (res.map encN),H'):=by
 unfold std F9 at e;exists kG e,ls,hl,e
 ·unfold Hj at e;exists kG e,f,hf,e
  ·unfold Kd at e;split at e
   ·exact nq e
   ·rename_i p hp;exists cm e,fY,e;have fY:=bC fY;exists fu (tx hl),n1,n2,n3,n4;have h1:∀{x2 x3 x4 x5 x6 x7 x8 x9 x10:Option V} {r:ai},den 19 (.lcomp [9,10] (.sub (.call cV [(.var 10),(.var 1)]) (.const (.int 0))) [([10],false,.seq,[(.var 0)],[])]) (some (.lst (ar b))::some (aK o)::x2::x3::x4::x5::x6::x7::x8::x9::x10::r) ⟨0,[]⟩=some (.ref 0,⟨1,[⟨0,false,.list (ls.map encN)⟩]⟩):=by
     intro x2 x3 x4 x5 x6 x7 x8 x9 x10 r;have it:∀H,iterOf H .seq [.lst (ar b)]=some (ar b):=fun _=>rfl;simp! only[it];refine jc ?_;have:=dK (k:=0) (n:=1) (es:=[]) (enc:=fun p:Po=>V.dct (aj p)) (f:=turn (den 18) [10] false [] (ck 0 (.sub (.call cV [.var 10,.var 1]) (.const (.int 0))) (den 18)) (some (.lst (ar b))::some (aK o)::x2::x3::x4::x5::x6::x7::x8::none::none::r)) (fun p=>[encN (i4 (gr o) p)]) b [] (fun p m acc ha=>by
      exists aD (n2 p m),t,ht;have e1:∀H,cV [.dct (aj p),aK o] H=some (bW (lead (gr o) p),H):=fun H=>ji (av:=.dct (aj p)) rfl (hs p m).2.2 (jL (hs p m));rw[ht]at e1;have e3:i4 (gr o) p=(t.x,t.y):=by unfold i4;rw[ht]
      rw[e3];simp! only[e1,ly];exact dg ha) (by rw[eY];show 0+b.length<=_;lia)
     rw[eN,dp]at this;show forItems _ (b.map _) _=_;rw[this,Je hl,d5];rfl
    exists d7 (Wg (x0:=some (.lst (ar b))) (x1:=some (aK o)) (r:=cq 15 none) (ls:=ls) (le_of_eq_of_le (id (Eq.symm n1)) hlen) f 100 [] [(0,0)] 1000 none none hf dq dq dq),x7,x8,el;have hv:=ZA fY hp;rw[Mv e]at hv;have nD:cw .sorted [V.ref 1] (stH f [] ls)=some (newObj (stH f [] ls) (.list (res.map encN))):=by
     show(match listView (stH f [] ls) (.ref 1)with
      |some l=>retL (vsort l) (stH f [] ls)
      |none=>none)=_
     rw[show listView (stH f [] ls) (.ref 1)=some (f.map encN)from rfl];dsimp only;rw[hv];rfl
    refine⟨⟨5,[]⟩,?_⟩;have hm:∀H,binOp .Mult (V.tup [V.int 0]) (V.int 2) H=some (.tup [V.int 0,V.int 0],H):=fun _=>rfl;unfold xG Ee;rw[iA];unfold j8 pE at el;simp only[rep0,rep1]at el;rw[aN];simp only[cg,h1,rep0,rep1,aG,aY,aZ,aS,bc];rw[aN];simp only[gM,fk,fg,gn,tv,bo,cD,bj,bA,bg,bh,bk,aG,hm,jh,Nat.reduceAdd,lx,gV,aY,aZ,aS,bc];rw[aN];simp only[o9];rw[show(⟨4,[⟨3,false,.dict []⟩,⟨2,false,.list [V.tup [V.int 0,V.int 0]]⟩,⟨1,false,.list []⟩,⟨0,false,.list (ls.map encN)⟩]⟩:Hp)=stH [] [(0,0)] ls from rfl];rw[el];simp! only[nD];show some (freezeV (newObj (stH f [] ls) (.list (res.map encN))).2.es 0 3 (.ref 4),(⟨5,[]⟩:Hp))=_;rw[j6 (l:=res.map encN) rfl (f6 _)];have:∀(es:List Ent) (l:List Pr),(l.map encN).map (freezeV es 0 2)=l.map encN:=by
     intro es l;clear hm nD hv el h1 n4 n3 n2 n1 fY e hp hf hl hlen hs;induction l with
     |nil=>rfl
     |cons a l ih=>show freezeV es 0 2 (encN a)::(l.map encN).map _=_;rw[ih];rfl
    rw[this]
theorem NM{o:Od}{b:List Po}{res:List Pr}(hs:∀p∈b,aX p)(hlen:b.length<=1000)(e:std (gr o) b=some res):uQ [.lst (ar b),aK o,.int 2] H=some (.lst (res.map encN),H):=by
 exists aD (Sp hs hlen e),H',e;exact eT e (.cons (.lst gq) (.cons fb (.cons (.int _) .nil))) mB
end
end
section
open PySem
noncomputable def cj(r:List Int):V:=.lst (r.map .int)
def encMat(m:List (List Int)):V:=.lst (m.map cj)
theorem TX{r:List Int}:NRs (r.map V.int):=by
 induction r with
 |nil=>
  exact .nil
 |cons _ _ ih=>
  exact .cons (.int _) ih
theorem Uy:NR (cj r):=.lst TX
theorem Xw{m:List (List Int)}:NRs (m.map cj):=by
 induction m with
 |nil=>
  exact .nil
 |cons _ _ ih=>
  exact .cons Uy ih
theorem uT:NR (encMat m):=.lst Xw
noncomputable def Rows(H:Hp)(k n0:Nat)(js:List Nat)(m:List (List V)):Prop:=js.length=m.length/\(∀(i j:Nat) (r:List V),js[i]?=some j->m[i]?=some r->aq H j r)/\(∀j∈js,n0<=j/\j≠k)
theorem Rows.keep(R:Rows H k n0 js m)(h:∀i e,look H.es i=some e->i≠k->look H'.es i=some e):Rows H' k n0 js m:=
 ⟨R.1,fun i j r a b=>h _ _ (R.2.1 i j r a b) (R.2.2 j (eA a)).2,R.2.2⟩
theorem Rows.snoc(R:Rows H k n0 js m)(hj:aq H j r)(h1:n0<=j)(h2:j≠k):Rows H k n0 (js++[j]) (m++[r]):=by
 refine⟨by rw[d8,d8,R.1];rfl,fun i j' r' a b=>?_,fun j' m'=>?_⟩
 ·by_cases hi:i<js.length
  ·rw[List.getElem?_append_left hi]at a;rw[List.getElem?_append_left (by rw[<- R.1];exact hi)]at b;exact R.2.1 i j' r' a b
  ·rw[List.getElem?_append_right (Nat.le_of_not_lt hi)]at a;rw[List.getElem?_append_right (by rw[<- R.1];exact Nat.le_of_not_lt hi),<- R.1]at b
   induction hz:i - js.length using bL with
   |zero=>rw[hz]at a b;exists a;exists b;exact hj
   |succ z=>rw[hz]at a;exact nq a
 ·rcases l7.mp m' with m'|m'
  ·exact R.2.2 j' m'
  ·cases c7.mp m';exact⟨h1,h2⟩
noncomputable def Still(v:V):Prop:=∀es n0 k,freezeV es n0 k v=v
theorem Kb:Still (.int i):=fun _ _ k=>by induction k using bL <;> rfl
theorem AF(hn:n0<=n1):∀{m:List (List V)},Rows H k n1 js m->(∀r∈m,∀v∈r,Still v)->(js.map V.ref).map (freezeV H.es n0 (z+1))=m.map V.lst:=by
 induction js with
 |nil=>
  intro m h _;cases List.length_eq_zero_iff.mp h.1.symm;rfl
 |cons j js ih=>
  intro m h hs
  induction m using aM with
  |nil=>exact nomatch h.1
  |cons r m=>
  have h1:=h.2.1 0 j r rfl rfl;have h2:freezeV H.es n0 (z+1) (.ref j) = .lst (r.map (freezeV H.es n0 z)):=j6 h1 (br hn (h.2.2 j (.head _)).1);have h3:r.map (freezeV H.es n0 z)=r:=by
   have:∀(l:List V),(∀v∈l,Still v)->l.map (freezeV H.es n0 z)=l:=by
    intro l
    induction l with
    |nil=>intro _;rfl
    |cons a l ih=>intro h;rw[aO,h a (.head _),ih fun v m=>h v (.tail _ m)]
   exact this r (hs r (.head _))
  rw[aO,aO,aO,h2,h3,ih (m:=m) ⟨gW h.1,fun i j' r' a b=>h.2.1 (i+1) j' r' a b,fun j' m'=>h.2.2 j' (.tail _ m')⟩ fun r' m'=>hs r' (.tail _ m')]
noncomputable def F7(t:Option T):Int:=match t with
 |none=>0
 |some t=>t.n
noncomputable def okIn(pw:List Pr):Po->Bool
 |[]=>true
 |t::r=>match memP t.x t.y pw with
  |true=>match aF t.d 1 with
   |true=>okIn pw r
   |false=>false
  |false=>false
def rowOf(told:Po)(pw:List Pr):List Int:=pw.map fun p=>F7 (getT told p.1 p.2)
section
variable (go:Option (List (List Int))) (pw:List Pr)
def HV(told:Po):Option (List (List Int)):=match okIn pw told with
 |false=>none
 |true=>match go with
  |none=>none
  |some m=>some (rowOf told pw::m)
def letA(told:Option Po):Option (List (List Int)):=match told with
 |none=>none
 |some told=>HV go pw told
end
noncomputable def letG(o:Bool)(dx dy:Nat)(b:List Po)(pw:List Pr):List Pr->Option (List (List Int))
 |[]=>some []
 |p::r=>match uK ⟨Nat.add p.1 dx,Nat.add p.2 dy,1,1⟩with
  |false=>none
  |true=>letA (letG o dx dy b pw r) pw (restOf o [⟨Nat.add p.1 dx,Nat.add p.2 dy,1,1⟩] b)
def vh:List MS:=[(.assign 6 (.call kn [(.nC (.tup [(.bin .Sub (.bin .Add (.sub (.var 5) (.const (.int 0))) (.const (.int 1))) (.var 0)),(.bin .Add (.sub (.var 5) (.const (.int 1))) (.var 0))]) (.tup [(.const (.int 1)),(.const (.int 1))])),(.var 2),(.var 3)])),(.if_ (.cmp .NotEq (.lcomp [7,8] (.var 8) [([8],false,.seq,[(.var 6)],[(.eU [(.cmp .NotIn (.var 8) (.var 1)),(.cmp .NotEq (.sub (.sub (.var 6) (.var 8)) (.const (.int 1))) (.const (.int 1)))])])]) (.list [])) [(.ret (.list []))] []),(.expr (.cO .append (.var 4) [(.lcomp [7,8] (.ite (.cmp .In (.var 8) (.var 6)) (.sub (.sub (.var 6) (.var 8)) (.const (.int 0))) (.const (.int 0))) [([8],false,.seq,[(.var 1)],[])])]))]
section
variable {H:Hp}
theorem UT:den (n+1) (.nC k v) ρ H=dC H.nxt (iX H.nxt k v (den n) ρ (newObj H (.dict [])).2):=rfl
theorem Pn:okIn pw p=true->∀t∈p,memP t.x t.y pw=true/\t.d=1:=by
 induction p with
 |nil=>
  intro _ _ m;cases m
 |cons a r ih=>
  intro h t m;dsimp only[okIn]at h;split at h
  ·rename_i h1;exists kb2 h,h2,h
   ·rcases aI.mp m with rfl|m
    ·exact⟨h1,cY h2⟩
    ·exact ih h t m
  ·exact bf h
theorem Ve(h1:aq H a [])(h2:aq H b []):bu .NotEq (.ref a) (.ref b) H=some false:=by
 have e1:res H 7 (.ref a)=some (.lst []):=by
  show resR (res H 6) (look H.es a)=_;rw[show look H.es a=_ from h1];rfl
 have e2:res H 7 (.ref b)=some (.lst []):=by
  show resR (res H 6) (look H.es b)=_;rw[show look H.es b=_ from h2];rfl
 show jG (match res H 7 (.ref a)with
  |some a=>match res H 7 (.ref b)with
   |some b=>some (teq deepN a b)
   |none=>none
  |none=>none)=_
 rw[e1,e2];rfl
theorem PT(ha:a<=1) :
  den (n+6) (.nC (.tup [(.bin .Sub (.bin .Add (.sub (.var 5) (.const (.int 0))) (.const (.int 1))) (.var 0)),(.bin .Add (.sub (.var 5) (.const (.int 1))) (.var 0))]) (.tup [(.const (.int 1)),(.const (.int 1))])) (some (.int (.ofNat a))::x1::x2::x3::x4::some (encM x y)::r) H =
   some (.ref H.nxt,(newObj H (.dict (aj [⟨x+(1 - a),y+a,1,1⟩]))).2):=by
 have e1:∀H,binOp .Add (V.int (.ofNat x)) (V.int 1) H=some (V.int (.ofNat (x+1)),H):=fun _=>rfl;have e2:∀H,binOp .Sub (V.int (.ofNat (x+1))) (V.int (.ofNat a)) H=some (V.int (.ofNat (x+(1 - a))),H):=fun H=>by
  show some (V.int (Int.ofNat (x+1) - Int.ofNat a),H)=_;have:Int.ofNat (x+1) - Int.ofNat a=Int.ofNat (x+(1 - a)):=by
   have h1:Int.ofNat (x+1)=((x+1:Nat):Int):=rfl;have h2:Int.ofNat a=((a:Nat):Int):=rfl;have h3:Int.ofNat (x+(1 - a))=((x+(1 - a):Nat):Int):=rfl;rw[h1,h2,h3];lia
  rw[this]
 have e3:∀H,binOp .Add (V.int (.ofNat y)) (V.int (.ofNat a)) H=some (V.int (.ofNat (y+a)),H):=fun _=>rfl;rw[UT];simp! only[M0,M1,e1,e2,e3];rw[show(V.tup [V.int (Int.ofNat (x+(1 - a))),V.int (Int.ofNat (y+a))])=encM (x+(1 - a)) (y+a)from rfl,ve bS.c8 rfl];obtain⟨nx,es⟩:=H;show dC nx (some (setObj ⟨nx+1,⟨nx,false,.dict []⟩::es⟩ nx _))=_;rw[xQ];rfl
end
end
section
open PySem
theorem ED{A B:Type}(l:List A):l.flatMap (fun _=>([]:List B))=[]:=by
 induction l with
 |nil=>
  exact rfl
 |cons a l ih=>
  rw[iT,ih];rfl
section
variable {H:Hp}
theorem Uj(hn:Nd told)(hl:told.length<=1000)(hp:pw.length<=1000)(h:okIn pw told=true) :
  den (n+8) (.lcomp [7,8] (.var 8) [([8],false,.seq,[(.var 6)],[(.eU [(.cmp .NotIn (.var 8) (.var 1)),(.cmp .NotEq (.sub (.sub (.var 6) (.var 8)) (.const (.int 1))) (.const (.int 1)))])])]) (x0::some (.lst (pw.map encN))::x2::x3::x4::x5::some (.dct (aj told))::x7::x8::r) H =
   some (.ref H.nxt,(newObj H (.list [])).2):=by
 obtain⟨nx,es⟩:=H;simp! only[pQ];refine M9 ?_;have:=dK (k:=nx) (n:=nx+1) (es:=es) (enc:=fun t:T=>encM t.x t.y) (f:=turn (den (n+7)) [8] false [(.eU [(.cmp .NotIn (.var 8) (.var 1)),(.cmp .NotEq (.sub (.sub (.var 6) (.var 8)) (.const (.int 1))) (.const (.int 1)))])] (ck nx (.var 8) (den (n+7))) (x0::some (.lst (pw.map encN))::x2::x3::x4::x5::some (.dct (aj told))::none::none::r)) (fun _=>[]) told [] (fun t m acc ha=>by
  exists ak (Pn h t m),h1,h2;have e1:∀H,bu .NotIn (encM t.x t.y) (.lst (pw.map encN)) H=some false:=fun H=>by rw[yv (by lia),h1];rfl
  have e2:∀H,subs H (.dct (aj told)) (encM t.x t.y)=some (aW t.n 1):=fun H=>by rw[oH hn m,h2]
  have e3:∀H,subs H (aW t.n 1) (V.int 1)=some (V.int 1):=fun _=>rfl;have e4:∀H,bu .NotEq (V.int 1) (V.int 1) H=some false:=fun _=>rfl;simp! only[e1,e2,e3,e4,g4]) (by rw[ED];exact(by decide:0+0<=90000))
 rw[ED,g4]at this;exact this
theorem Nw(hp:pw.length<=1000) :
  den (n+8) (.lcomp [7,8] (.ite (.cmp .In (.var 8) (.var 6)) (.sub (.sub (.var 6) (.var 8)) (.const (.int 0))) (.const (.int 0))) [([8],false,.seq,[(.var 1)],[])]) (x0::some (.lst (pw.map encN))::x2::x3::x4::x5::some (.dct (aj told))::x7::x8::r) H =
   some (.ref H.nxt,(newObj H (.list ((rowOf told pw).map V.int))).2):=by
 obtain⟨nx,es⟩:=H;have it:∀H,iterOf H .seq [.lst (pw.map encN)]=some (pw.map encN):=fun _=>rfl;simp! only[it];refine jc ?_;have:=dK (k:=nx) (n:=nx+1) (es:=es) (enc:=encN) (f:=turn (den (n+7)) [8] false [] (ck nx (.ite (.cmp .In (.var 8) (.var 6)) (.sub (.sub (.var 6) (.var 8)) (.const (.int 0))) (.const (.int 0))) (den (n+7))) (x0::some (.lst (pw.map encN))::x2::x3::x4::x5::some (.dct (aj told))::none::none::r)) (fun p=>[V.int (F7 (getT told p.1 p.2))]) pw [] (fun p m acc ha=>by
  have e1:∀H,bu .In (encN p) (.dct (aj told)) H=some (getT told p.1 p.2).isSome:=fun H=>by
   rw[show encN p=encM p.1 p.2 from rfl,vj (l:=aj told) rfl,mN];induction getT told p.1 p.2 using aL <;> rfl
  simp! only[e1]
  induction e:getT told p.1 p.2 using aL with
  |none=>
   simp! only[Option.isSome_none];exact dg ha
  |some t=>
   have e2:∀H,subs H (.dct (aj told)) (encN p)=some (aW t.n t.d):=fun H=>by
    rw[show encN p=encM p.1 p.2 from rfl,xk (l:=aj told) rfl,mN,e];rfl
   simp! only[Option.isSome_some,e2,mO];exact dg ha) (by rw[eY];show 0+pw.length<=_;lia)
 rw[eN,dp]at this;unfold rowOf;rw[d5];exact this
structure LI (js:List Nat) (m:List (List Int)) (H:Hp):Prop where
 wf:WF H
 l:aq H 0 (js.map V.ref)
 r:Rows H 0 1 js (m.map fun r=>r.map V.int)
theorem aab(L:LI js m H)(hm:m.length<=1000)(ha:a<=1)(hp:pw.length<=1000)(hb:∀g∈b,aX g)(cv:b.length<=1000)
  (ht:q9 ⟨p.1+(1 - a),p.2+a,1,1⟩) (e:restOf (gr o) [⟨p.1+(1 - a),p.2+a,1,1⟩] b=some told) (hk:okIn pw told=true) {x6:Option V} {r:ai} :
  ∃rT H',denSs (denS 19) vh (some (.int (.ofNat a))::some (.lst (pw.map encN))::some (.lst (ar b))::some (aK o)::some (.ref 0)::some (encN p)::x6::none::none::r) H =
   some (.next,some (.int (.ofNat a))::some (.lst (pw.map encN))::some (.lst (ar b))::some (aK o)::some (.ref 0)::some (encN p)::some (.dct (aj told))::none::none::r,H')/\LI rT (m++[rowOf told pw]) H':=by
 exists ak (CU e),b9,hlen;have dz:aX [⟨p.1+(1 - a),p.2+a,1,1⟩]:=⟨(by show 1<=1000;decide),(fun t m'=>by cases c7.mp m';exact ht),rG.mpr ⟨(fun⟨v,m',_⟩=>by cases m'),List.Pairwise.nil⟩⟩;have e1:∀{x1 x2 x3 x4:Option V} {r:ai},den 17 (.nC (.tup [(.bin .Sub (.bin .Add (.sub (.var 5) (.const (.int 0))) (.const (.int 1))) (.var 0)),(.bin .Add (.sub (.var 5) (.const (.int 1))) (.var 0))]) (.tup [(.const (.int 1)),(.const (.int 1))])) (some (.int (.ofNat a))::x1::x2::x3::x4::some (encN p)::r) H=some (.ref H.nxt,(newObj H (.dict (aj [⟨p.1+(1 - a),p.2+a,1,1⟩]))).2):=fun{_ _ _ _ _}=>PT (n:=11) ha;have d1:dictAt (.ref H.nxt) (newObj H (.dict (aj [⟨p.1+(1 - a),p.2+a,1,1⟩]))).2=some (aj [⟨p.1+(1 - a),p.2+a,1,1⟩]):=by
  show(match look _ H.nxt with|some e=>(match e.obj with|.dict l=>some l|.list _=>none)|none=>none)=_
  rw[show look _ H.nxt=_ from(bS.c8 (H:=H) (l:=aj [⟨p.1+(1 - a),p.2+a,1,1⟩]))]
 have e2:=LF d1 dz hb cv e;have w1:=L.wf.new (o:=.dict (aj [⟨p.1+(1 - a),p.2+a,1,1⟩]));have w2:=w1.new (o:=.list []);have w3:=w2.new (o:=.list []);have w4:=w3.new (o:=.list ((rowOf told pw).map V.int));have e3:=fun{x0 x2 x3 x4 x5 x7 x8:Option V} {r:ai}=>Uj (H:=(newObj H (.dict (aj [⟨p.1+(1 - a),p.2+a,1,1⟩]))).2) (n:=9) b9 (by lia) hp hk (x0:=x0) (x2:=x2) (x3:=x3) (x4:=x4) (x5:=x5) (x7:=x7) (x8:=x8) (r:=r);have k1:aq (newObj (newObj (newObj H (.dict (aj [⟨p.1+(1 - a),p.2+a,1,1⟩]))).2 (.list [])).2 (.list [])).2 (H.nxt+1) []:=(aq.c8 (H:=(newObj H (.dict (aj [⟨p.1+(1 - a),p.2+a,1,1⟩]))).2) (l:=[])).new w2;have k2:aq (newObj (newObj (newObj H (.dict (aj [⟨p.1+(1 - a),p.2+a,1,1⟩]))).2 (.list [])).2 (.list [])).2 (H.nxt+2) []:=aq.c8;have e4:=Ve k1 k2;have e5:=fun{x0 x2 x3 x4 x5 x7 x8:Option V} {r:ai}=>Nw (H:=(newObj (newObj (newObj H (.dict (aj [⟨p.1+(1 - a),p.2+a,1,1⟩]))).2 (.list [])).2 (.list [])).2) (n:=9) (told:=told) hp (x0:=x0) (x2:=x2) (x3:=x3) (x4:=x4) (x5:=x5) (x7:=x7) (x8:=x8) (r:=r);have l3:=((L.l.new L.wf (o:=.dict (aj [⟨p.1+(1 - a),p.2+a,1,1⟩]))).new w1 (o:=.list [])).new w2 (o:=.list []);have l4:=l3.new w3 (o:=.list ((rowOf told pw).map V.int));have e6:=lG (v:=.ref (H.nxt+3)) l4 (by rw[aJ,L.r.1,aJ];lia);have MQ:js.map V.ref++[.ref (H.nxt+3)]=(js++[H.nxt+3]).map V.ref:=by rw[gI];rfl
 rw[MQ]at e6;have R4:Rows (newObj (newObj (newObj (newObj H (.dict (aj [⟨p.1+(1 - a),p.2+a,1,1⟩]))).2 (.list [])).2 (.list [])).2 (.list ((rowOf told pw).map V.int))).2 0 1 js (m.map fun r=>r.map V.int):=L.r.keep fun i e h _=>fD w3 (fD w2 (fD w1 (fD L.wf h)));have j4:aq (newObj (newObj (newObj (newObj H (.dict (aj [⟨p.1+(1 - a),p.2+a,1,1⟩]))).2 (.list [])).2 (.list [])).2 (.list ((rowOf told pw).map V.int))).2 (H.nxt+3) ((rowOf told pw).map V.int):=aq.c8;have hR:Rows (setObj (newObj (newObj (newObj (newObj H (.dict (aj [⟨p.1+(1 - a),p.2+a,1,1⟩]))).2 (.list [])).2 (.list [])).2 (.list ((rowOf told pw).map V.int))).2 0 (.list ((js++[H.nxt+3]).map V.ref))) 0 1 (js++[H.nxt+3]) ((m++[rowOf told pw]).map fun r=>r.map V.int):=by
  rw[show(m++[rowOf told pw]).map (fun r=>r.map V.int)=m.map (fun r=>r.map V.int)++[(rowOf told pw).map V.int] by rw[gI];rfl];have R5:Rows (setObj (newObj (newObj (newObj (newObj H (.dict (aj [⟨p.1+(1 - a),p.2+a,1,1⟩]))).2 (.list [])).2 (.list [])).2 (.list ((rowOf told pw).map V.int))).2 0 (.list ((js++[H.nxt+3]).map V.ref))) 0 1 js (m.map fun r=>r.map V.int):=R4.keep fun i e h hi=>(eH hi).trans h;exact R5.snoc (j4.set (j:=0) (Ne.symm (Nat.zero_ne_add_one (H.nxt+2)))) (Nat.le_add_left 1 (H.nxt+2)) (Ne.symm (Nat.zero_ne_add_one (H.nxt+2)))
 refine⟨js++[H.nxt+3],_,?_,⟨w4.set,l4.fW,hR⟩⟩;unfold vh;have dF:∀{B:Type} {o:bq} {f:V->Hp->Option B} {H:Hp},ob (some (newObj H o)) f=f (.ref H.nxt) (newObj H o).2:=rfl;have n1:∀o,(newObj H o).2.nxt=H.nxt+1:=fun _=>rfl;have n2:∀o o',(newObj (newObj H o).2 o').2.nxt=H.nxt+2:=fun _ _=>rfl;have n3:∀o o' sP,(newObj (newObj (newObj H o).2 o').2 sP).2.nxt=H.nxt+3:=fun _ _ _=>rfl;refine aN.trans ?_;simp only[cg,cH,bj,bA,bo,bg,bh,bk,aG,e1,e2,aY,aZ,aS,bc];refine aN.trans ?_;simp only[Nat.reduceAdd]at e3 e5;simp only[hX,fK,e3,fg,bj,aG,dF,n1,n2,e4,fN,fx,iO,gj,aS,bc];refine aN.trans ?_;simp only[jF,kI,bj,bA,bo,bg,bh,bk,aG,lZ l3,lR,e5,n3,e6,gj,aS,bc]
end
end
section
open PySem
section
variable {H:Hp}
theorem Ol(ha:a<=1)(hp:pw.length<=1000)(hb:∀g∈b,aX g)(cv:b.length<=1000):∀(s:List Pr) (m res:List (List Int)) (js:List Nat) (H:Hp) (x5 x6:Option V),letG (gr o) (1 - a) a b pw s=some res->LI js m H->m.length+s.length<=1000->
  ∃zx xr rT H',loopF [5] false (denSs (denS 19) vh) (s.map encN) (some (.int (.ofNat a))::some (.lst (pw.map encN))::some (.lst (ar b))::some (aK o)::some (.ref 0)::x5::x6::none::none::r) H =
   some (.next,some (.int (.ofNat a))::some (.lst (pw.map encN))::some (.lst (ar b))::some (aK o)::some (.ref 0)::zx::xr::none::none::r,H')/\LI rT (m++res) H':=by
 intro s
 induction s with
 |nil=>
  intro m res js H x5 x6 e L _;exists e;exact⟨x5,x6,js,H,rfl,by rw[g4];exact L⟩
 |cons p s ih=>
  intro m res js H x5 x6 e L hl;have hl:m.length+(s.length+1)<=1000:=hl;exists kb1 e,ht,e
  ·have ht:=Jz ht;unfold letA at e;exists kj e,told,hr,e
   ·unfold HV at e;split at e
    ·exact nq e
    ·rename_i hk;exists zG e,m',hm,e
     ·exists e;exists aT (aab (x6:=x6) (r:=r) L (by lia) ha hp hb cv ht hr hk),rT,H',e1,L';obtain⟨zx,xr,Qa,H2,e2,L2⟩:=ih (m++[rowOf told pw]) m' rT H' (some (encN p)) (some (.dct (aj told))) hm L' (by rw[d8];show m.length+1+s.length<=_;lia);refine⟨zx,xr,Qa,H2,?_,by rw[jt]at L2;exact L2⟩;rw[aO,fz];simp only[sD,lY,aY,aZ];rw[e1,aS,jI];exact e2
theorem Nv(ha:a<=1)(hp:pw.length<=500)(hb:∀g∈b,aX g)(cv:b.length<=1000)(e:letG (gr o) (1 - a) a b pw pw=some m) :
  ∃H',zh [.int (.ofNat a),.lst (pw.map encN),.lst (ar b),aK o] ⟨0,[]⟩=some (encMat m,H'):=by
 have L0:LI [] [] ⟨1,[⟨0,false,.list []⟩]⟩:=⟨fun e m=>by cases c7.mp m;exact(by decide:0<1),rfl,rfl,(fun i j r a _=>by exact nq a),fun j m=>by cases m⟩;obtain⟨x5,x6,js,H',el,L⟩:=Ol (o:=o) ha (by lia) hb cv (r:=cq 14 none) pw [] m [] _ none none e L0 (by show 0+pw.length<=_;lia);rw[dp]at L;refine⟨⟨H'.nxt,dropNew 0 H'.es⟩,?_⟩;have it:∀H,iterOf H .seq [.lst (pw.map encN)]=some (pw.map encN):=fun _=>rfl;unfold zh HN;rw[Ws];unfold vh at el;simp only[rep0,rep1]at el;rw[aN];simp only[cg,fg,bj,aG,jh,Nat.zero_add,rep0,rep1,aY,aZ,aS,bc];rw[aN];simp only[kU,bo,bj,bA,bg,bh,bk,aG,it,sG];rw[el];simp! only[mW];show some (freezeV H'.es 0 3 (.ref 0),(⟨H'.nxt,dropNew 0 H'.es⟩:Hp))=_;rw[j6 L.l (cx _),AF (f6 _) L.r fun r mr v mv=>by
  exists ae (cG.mp mr),q,Z0,nE;subst nE;exists ae (cG.mp mv),i,Z0,qd;subst qd;exact Kb]
 unfold encMat;rw[d5];rfl
theorem Ip(ha:a<=1)(hp:pw.length<=500)(hb:∀g∈b,aX g)(cv:b.length<=1000)(e:letG (gr o) (1 - a) a b pw pw=some m) :
  kN [.int (.ofNat a),.lst (pw.map encN),.lst (ar b),aK o] H=some (encMat m,H):=by
 exists aD (Nv ha hp hb cv e),H',e;exact eT e (.cons (.int _) (.cons mB (.cons (.lst gq) (.cons fb .nil)))) uT
end
end
section
open PySem
noncomputable def fM(k:Nat)(H H':Hp):Prop:=∀i e,look H.es i=some e->i≠k->look H'.es i=some e
noncomputable def cp(H H':Hp):Prop:=∀i e,look H.es i=some e->look H'.es i=some e
noncomputable def Vals{A:Type}(val:A->V->Hp->Prop)(s:List A)(vs:List V)(H:Hp):Prop:=s.length=vs.length/\∀(i:Nat) (a:A) (v:V),s[i]?=some a->vs[i]?=some v->val a v H
section
variable {A:Type} {f:V->Hp->Option Hp} {enc:A->V} {k n0:Nat}
theorem IV(val:A->V->Hp->Prop)(lj:∀a v H H',val a v H->fM k H H'->val a v H')(I:Hp->Prop)(hI:∀H H',I H->fM k H H'->I H') :
  ∀(s:List A) (acc:List V) (H:Hp),WF H->aq H k acc->I H->n0<=H.nxt->acc.length+s.length<=50000->
  (∀a∈s,∀H acc,WF H->aq H k acc->I H->n0<=H.nxt->∃v H1,f (enc a) H=kz k v H1/\WF H1/\H.nxt<=H1.nxt/\cp H H1/\val a v H1)->
  ∃vs H',forItems f (s.map enc) H=some H'/\WF H'/\H.nxt<=H'.nxt/\aq H' k (acc++vs)/\fM k H H'/\Vals val s vs H':=by
 intro s
 induction s with
 |nil=>
  intro acc H w lk _ _ _ _;exact⟨[],H,rfl,w,cx _,by rw[g4];exact lk,fun i e h _=>h,rfl,fun i a v h _=>by clear lk w hI lj;cases h⟩
 |cons a s ih=>
  intro acc H w lk hi hn hl step;have hl:acc.length+(s.length+1)<=50000:=hl;exists gN (step a (.head _) H acc w lk hi hn),v,H1,e1,w1,n1,k1,v1;have cN:aq H1 k acc:=k1 _ _ lk;have e2:=uu (v:=v) cN (cW (by lia));have kA:fM k H (setObj H1 k (.list (acc++[v]))):=fun i e h q=>(eH q).trans (k1 i e h);have ZF:fM k H1 (setObj H1 k (.list (acc++[v]))):=fun i e h q=>(eH q).trans h;clear k1 lk w;obtain⟨vs,H',a1,a2,a3,a4,a5,a6,a7⟩:=ih (acc++[v]) (setObj H1 k (.list (acc++[v]))) w1.set cN.fW (hI _ _ hi kA) (br hn n1) (by rw[d8];show acc.length+1+s.length<=_;lia) (fun b m=>step b (.tail _ m));refine⟨v::vs,H',?_,a2,br n1 a3,by rw[jt]at a4;exact a4,fun i e h q=>a5 i e (kA i e h q) q,by rw[fV,fV,a6],fun i b u h1 h2=>?_⟩
  ·show(match f (enc a) H with
    |some H=>forItems f (s.map enc) H
    |none=>none)=_
   rw[e1,e2];exact a1
  ·clear a6 a4 a3 a2 a1 kA e2 cN n1 w1 e1 hl step hn hi ih hI;cases i with
   |zero=>
    exists h1;exists h2;exact lj _ _ _ _ (lj _ _ _ _ v1 ZF) a5
   |succ i=>exact a7 i b u (by simpa using h1) (by simpa using h2)
theorem JY(h:Vals (fun a v _=>v=g a) s vs H):vs=s.map g:=by
 exists ak h,h1,h2
 try clear h
 exists List.ext_getElem?,i;rw[dM]
 induction hs:s[i]? using aL with
 |none=>
  have:vs.length<=i:=by rw[<- h1];exact List.getElem?_eq_none_iff.mp hs
  rw[List.getElem?_eq_none_iff.mpr this];rfl
 |some a=>
  have hi:i<vs.length:=by rw[<- h1];exact(fo.mp hs).1
  have hv:=List.getElem?_eq_getElem hi;rw[hv,h2 i a _ hs hv];rfl
noncomputable def lB(n0 k:Nat)(row:A->List V)(a:A)(v:V)(H:Hp):Prop:=∃j,v = .ref j/\n0<=j/\j≠k/\aq H j (row a)
theorem sU(h:lB n0 k row a v H)(hk:fM k H H'):lB n0 k row a v H':=dw h fun j e n q l=>⟨j,e,n,q,hk _ _ l q⟩
theorem rP:∀{vs:List V} {H:Hp},Vals (lB n0 k row) s vs H->∃js:List Nat,vs=js.map V.ref/\Rows H k n0 js (s.map row):=by
 induction s with
 |nil=>
  intro vs H h;cases List.length_eq_zero_iff.mp h.1.symm;exact⟨[],rfl,rfl,fun i j r a _=>nq a,fun j m=>nomatch m⟩
 |cons a s ih=>
  intro vs H h
  induction vs using aM with
  |nil=>exact nomatch h.1
  |cons v vs=>
  exists ae (ih (vs:=vs) (H:=H) ⟨gW h.1,fun i b u h1 h2=>h.2 (i+1) b u (by simpa using h1) (by simpa using h2)⟩),js,e,R;exists dw (h.2 0 a v rfl rfl),j,ev,h1,h2,h3;clear h;subst ev e;refine⟨j::js,rfl,by rw[fV,aJ,fV,R.1,aJ],fun i j' r q1 q2=>?_,fun j' m=>?_⟩
  ·clear h2 h1;induction i using bL with
   |zero=>exists q1;exists q2;exact h3
   |succ i=>exact R.2.1 i j' r (by simpa using q1) (by simpa using q2)
  ·clear h3;rcases aI.mp m with rfl|m
   ·exact⟨h1,h2⟩
   ·exact R.2.2 j' m
end
section
variable {H:Hp}
theorem cp.new(w:WF H):cp H (newObj H o).2:=fun i e h=>fD w h
theorem cp.trans(a:cp H H')(b:cp H' ew):cp H ew:=fun i e h=>b i e (a i e h)
theorem cp.ne(a:cp H H'):fM k H H':=fun i e h _=>a i e h
theorem tF(h:j<n){es:List Ent}:look (dropNew n es) j=look es j:=by
 induction es with
 |nil=>rfl
 |cons e0 r ih=>
  obtain⟨i,l,o⟩:=e0;unfold dropNew;dsimp only;split
  ·rename_i hb;have:=bC hb;rw[dm (Nat.ne_of_gt (Nat.lt_of_lt_of_le h this))];exact ih
  ·by_cases e:i=j
   ·clear h ih;subst e;rw[iC,iC]
   ·rw[dm e,dm e];exact ih
theorem rD{A:Type}{f:V->Hp->Option Hp}{enc:A->V}{vs0:List V}(val:A->V->Hp->Prop)(lj:∀a v H' ew,val a v H'->fM H.nxt H' ew->val a v ew)(I:Hp->Prop)(hI:∀H' ew,I H'->fM H.nxt H' ew->I ew)(w:WF H)(hi:I (newObj H (.list [])).2)(s:List A)(hl:s.length<=50000)
  (Z4:∀H',fM H.nxt (newObj H (.list [])).2 H'->lockH (newObj H (.list [])).2 vs0=(newObj H (.list [])).2/\(⟨H'.nxt,eD (newObj H (.list [])).2.es H'.es vs0⟩:Hp)=H')
  (step:∀a∈s,∀H' acc,WF H'->aq H' H.nxt acc->I H'->H.nxt+1<=H'.nxt->∃v H1,f (enc a) H'=kz H.nxt v H1/\WF H1/\H'.nxt<=H1.nxt/\cp H' H1/\val a v H1) :
  ∃vs H',compGo H.nxt f (s.map enc) vs0 (newObj H (.list [])).2=some (.ref H.nxt,H')/\WF H'/\H.nxt+1<=H'.nxt/\aq H' H.nxt vs/\cp H H'/\Vals val s vs H':=by
 obtain⟨vs,H',a1,a2,a3,a4,a5,a6⟩:=IV (k:=H.nxt) (n0:=H.nxt+1) (enc:=enc) (f:=f) val lj I hI s [] (newObj H (.list [])).2 w.new aq.c8 hi (cx _) (by show 0+s.length<=_;lia) step;refine⟨vs,H',?_,a2,a3,a4,fun i e h=>a5 i e (fD w h) (fun q=>by have:=cP w h;lia),a6⟩;exists ak (Z4 H' a5),h1,h2;show dC H.nxt (unlH (newObj H (.list [])).2.es vs0 (forItems f (s.map enc) (lockH (newObj H (.list [])).2 vs0)))=_;rw[h1,a1];show dC H.nxt (some ⟨H'.nxt,eD (newObj H (.list [])).2.es H'.es vs0⟩)=_;rw[h2,qO]
end
end
section
open PySem
noncomputable def bndZ(x:Int):Bool:=b8 x.natAbs 1000000000
theorem gx(h:bndZ x=true):x.natAbs<=1000000000:=bC h
theorem U5(h:bndZ x=true):inB (-1000000000) 1000000000 x=true:=by
 have:=gx h;unfold inB;have h1:ilt x (-1000000000)=false:=by
  rw[ilt_eq];simp;lia
 have h2:ilt 1000000000 x=false:=by
  rw[ilt_eq];simp;lia
 rw[h1,h2]
noncomputable def sumZ:List Int->Int
 |[]=>0
 |x::r=>x+sumZ r
theorem R6:(∀x∈l,bndZ x=true)->sumI (l.map V.int)=some (sumZ l):=by
 induction l with
 |nil=>
  intro _;exact rfl
 |cons x r ih=>
  intro h;show(match inB (-1000000000) 1000000000 x with
   |true=>match sumI (r.map V.int)with
    |some s=>some (x+s)
    |none=>none
   |false=>none)=_
  rw[U5 (h x (.head _)),ih fun y m=>h y (.tail _ m)];rfl
noncomputable def dI:Nat->List Int->List (Nat×Int)
 |_,[]=>[]
 |i,x::r=>(i,x)::dI (i+1) r
def sL(a:Nat×Int):V:=.tup [ay a.1,.int a.2]
theorem Hs(r:List Int):∀(i:Nat),enumL (Int.ofNat i) (r.map V.int)=(dI i r).map sL:=by
 induction r with
 |nil=>
  intro _;exact rfl
 |cons p r ih=>
  intro i;show V.tup [ay i,.int p]::enumL (Int.ofNat (i+1)) (r.map V.int)=_;rw[ih (i+1)];rfl
theorem u9(r:List Int):∀(i:Nat),(dI i r).length=r.length:=by
 induction r with
 |nil=>
  intro _;exact rfl
 |cons p r ih=>
  intro i;show(dI (i+1) r).length+1=_;rw[ih];rfl
noncomputable def gP(b:List (List Int))(col:Nat)(a:Nat×Int):Int:=match b[a.1]? with
 |some row=>match row[col]? with
  |some y=>a.2 * y
  |none=>0
 |none=>0
def vZ(b:List (List Int))(col:Nat)(a:Nat×Int):Bool:=match b[a.1]? with
 |some row=>match row[col]? with
  |some y=>match bndZ a.2 with
   |true=>match bndZ y with
    |true=>bndZ (a.2 * y)
    |false=>false
   |false=>false
  |none=>false
 |none=>false
noncomputable def allB{A:Type}(f:A->Bool):List A->Bool
 |[]=>true
 |a::r=>match f a with
  |true=>allB f r
  |false=>false
theorem dh{A:Type}{f:A->Bool}{l:List A}:allB f l=true->∀a∈l,f a=true:=by
 induction l with
 |nil=>
  intro _ _ m;cases m
 |cons x r ih=>
  intro h a m;exists kb2 h,h1,h
  ·rcases aI.mp m with rfl|m
   ·exact h1
   ·exact ih h a m
def uf(b:List (List Int))(r:List Int):List Int:=(eE 0 b.length).map fun col=>sumZ ((dI 0 r).map (gP b col))
def rowOk(b:List (List Int))(r:List Int):Bool:=match b8 r.length 500 with
 |true=>allB (fun col=>allB (vZ b col) (dI 0 r)) (eE 0 b.length)
 |false=>false
def timesS(a b:List (List Int)):Option (List (List Int)):=match b8 b.length 500 with
 |true=>match b8 a.length 500 with
  |true=>match allB (rowOk b) a with
   |true=>some (a.map (uf b))
   |false=>none
  |false=>none
 |false=>none
section
variable {H:Hp}
theorem GB(hb:b.length<=1000)(h:b[i]?=some row):subs H (encMat b) (ay i)=some (cj row):=fZ (l:=b.map cj) (by rw[aJ];lia) (by rw[dM,h];rfl)
theorem Gb(hb:row.length<=1000)(h:row[i]?=some y):subs H (cj row) (ay i)=some (.int y):=fZ (l:=row.map V.int) (by rw[aJ];lia) (by rw[dM,h];rfl)
set_option tactic.hygienic true in
theorem RP(hb:b.length<=500)(hr:r.length<=500)(gy:∀row∈b,row.length<=1000)(h:allB (vZ b col) (dI 0 r)=true) :
  den (n+9) (.bi .sum [(.lcomp [6,7,8] (.bin .Mult (.var 8) (.sub (.sub (.var 1) (.var 7)) (.var 5))) [([7,8],true,.enum,[(.var 3)],[])])]) (x0::some (encMat b)::x2::some (cj r)::x4::some (ay col)::x6::x7::x8::ρ) H =
   some (.int (sumZ ((dI 0 r).map (gP b col))),(newObj H (.list (((dI 0 r).map (gP b col)).map V.int))).2):=by
 obtain⟨nx,es⟩:=H;have it:∀H,iterOf H .enum [cj r]=some (enumL (Int.ofNat 0) (r.map V.int)):=fun _=>rfl;have cT:=dh h;have this:=dK (k:=nx) (n:=nx+1) (es:=es) (enc:=sL) (f:=turn (den (n+7)) [7,8] true [] (ck nx (.bin .Mult (.var 8) (.sub (.sub (.var 1) (.var 7)) (.var 5))) (den (n+7))) (x0::some (encMat b)::x2::some (cj r)::x4::some (ay col)::none::none::none::ρ)) (fun a=>[V.int (gP b col a)]) (dI 0 r) [] (fun a m acc ha=>by
  have hk:=cT a m;unfold vZ at hk;unfold gP;split at hk
  ·rename_i row h1;split at hk
   ·rename_i y h2;split at hk
    ·rename_i h3;split at hk
     ·rename_i h4;have e1:∀H,subs H (encMat b) (ay a.1)=some (cj row):=fun H=>GB (by lia) h1;have e2:∀H,subs H (cj row) (ay col)=some (V.int y):=fun H=>Gb (gy row (eA h1)) h2;have e3:∀H,binOp .Mult (V.int a.2) (V.int y) H=some (V.int (a.2 * y),H):=fun H=>fm (br (gx h3) dq) (br (gx h4) dq);unfold sL;simp! only[e1,e2,e3];exact dg ha
     ·exact bf hk
    ·exact bf hk
   ·exact bf hk
  ·exact bf hk) (by rw[eY,u9];show 0+_<=_;lia)
 rw[eN,dp,<- Hs]at this;simp! only[it];have key:=jc (c:=r.map V.int) this;rw[show V.lst (r.map V.int)=cj r from rfl]at key;rw[key];simp! only[];show(match seqView _ (V.ref nx)with
  |some l=>guard' (b8 l.length 1000) (retI (sumI l) _)
  |none=>none)=_
 rw[show seqView ⟨nx+1,⟨nx,false,.list ((dI 0 r).map fun a=>V.int (gP b col a))⟩::es⟩ (.ref nx)=some ((dI 0 r).map fun a=>V.int (gP b col a))from aq.view aq.hd];dsimp only;rw[aJ,u9,fj (show r.length<=1000 by lia)];have hm:((dI 0 r).map fun a=>V.int (gP b col a))=((dI 0 r).map (gP b col)).map V.int:=by rw[d5];rfl
 rw[hm,R6 fun x mx=>?_]
 ·rfl
 ·exists ae (cG.mp mx),a,ma,wQ;subst wQ;have hk:=cT a ma;unfold vZ at hk;unfold gP;split at hk
  ·rename_i row h1;split at hk
   ·rename_i y h2;split at hk
    ·split at hk
     ·exact hk
     ·exact bf hk
    ·exact bf hk
   ·exact bf hk
  ·exact bf hk
end
end
section
open PySem
section
variable {H:Hp}
theorem Zc(w:WF H)(hb:b.length<=500)(gy:∀row∈b,row.length<=1000)(h:rowOk b r=true) :
  ∃H',den (n+11) (.lcomp [4,5] (.bi .sum [(.lcomp [6,7,8] (.bin .Mult (.var 8) (.sub (.sub (.var 1) (.var 7)) (.var 5))) [([7,8],true,.enum,[(.var 3)],[])])]) [([5],false,.range1,[(.bi .len [(.var 1)])],[])]) (x0::some (encMat b)::x2::some (cj r)::x4::x5::x6::x7::x8::ρ) H=some (.ref H.nxt,H')/\
   WF H'/\H.nxt+1<=H'.nxt/\aq H' H.nxt ((uf b r).map V.int)/\cp H H':=by
 exists kb2 h,hr,h;have hr:=bC hr;have cT:=dh h;have e1:cw .len [encMat b] H=some (V.int (.ofNat b.length),H):=by
  have:=n5 (H:=H) (l:=b.map cj) (by rw[aJ];lia);rw[aJ]at this;exact this
 clear h;obtain⟨vs,H',a1,a2,a3,a4,a5,a6⟩:=rD (H:=H) (enc:=ay) (vs0:=[V.int (.ofNat b.length)]) (f:=turn (den (n+10)) [5] false [] (ck H.nxt (.bi .sum [(.lcomp [6,7,8] (.bin .Mult (.var 8) (.sub (.sub (.var 1) (.var 7)) (.var 5))) [([7,8],true,.enum,[(.var 3)],[])])]) (den (n+10))) (x0::some (encMat b)::x2::some (cj r)::none::none::x6::x7::x8::ρ))
  (fun col v _=>v = .int (sumZ ((dI 0 r).map (gP b col)))) (fun _ _ _ _ h _=>h) (fun _=>True) (fun _ _ _ _=>trivial) w trivial (eE 0 b.length) (by rw[k9];lia) (fun _ _=>⟨rfl,rfl⟩) (fun col mc H1 acc w1 lk _ hn=>by
   have e2:=RP (H:=H1) (n:=n+1) (b:=b) (r:=r) (col:=col) hb hr gy (cT col mc) (x0:=x0) (x2:=x2) (x4:=none) (x6:=x6) (x7:=x7) (x8:=x8) (ρ:=ρ);refine⟨_,(newObj H1 (.list (((dI 0 r).map (gP b col)).map V.int))).2,?_,w1.new,eZ _,cp.new w1,rfl⟩;simp only[mw,aY,aZ,dO,jJ];rw[show n+1+9=n+10 from rfl]at e2;rw[e2,aG])
 have hv:=JY (g:=fun col=>V.int (sumZ ((dI 0 r).map (gP b col)))) a6;refine⟨H',?_,a2,a3,?_,a5⟩
 ·simp only[gw,jB,bo,bj,bA,bg,bh,bk,aG,e1,ti (show b.length<=1000 by lia),gh,gF,aY,aZ,dO];exact a1
 ·rw[hv]at a4;unfold uf;rw[d5];exact a4
theorem IB(gy:∀row∈b,row.length<=1000)(e:timesS a b=some m):pI [encMat a,encMat b] H=some (encMat m,H):=by
 exists cm e,hb,e;have hb:=bC hb;exists cm e,uD,e;have uD:=bC uD;exists cm e,cT,e;have cT:=dh cT;exists e;have w0:WF ⟨0,[]⟩:=fun _ m=>by clear cT uD hb gy;cases m
 obtain⟨vs,H',a1,a2,a3,a4,a5,a6⟩:=rD (H:=⟨0,[]⟩) (enc:=cj) (vs0:=[encMat a]) (f:=turn (den 18) [3] false [] (ck 0 (.lcomp [4,5] (.bi .sum [(.lcomp [6,7,8] (.bin .Mult (.var 8) (.sub (.sub (.var 1) (.var 7)) (.var 5))) [([7,8],true,.enum,[(.var 3)],[])])]) [([5],false,.range1,[(.bi .len [(.var 1)])],[])]) (den 18)) (some (encMat a)::some (encMat b)::none::none::cq 12 none))
  (lB 1 0 fun r=>(uf b r).map V.int) (fun _ _ _ _ h k=>sU h k) (fun _=>True) (fun _ _ _ _=>trivial) w0 trivial a (by lia) (fun _ _=>⟨rfl,rfl⟩) (fun r mr H1 acc w1 lk _ hn=>by
   exists mC (Zc (H:=H1) (n:=7) (b:=b) (r:=r) w1 hb gy (cT r mr) (x0:=some (encMat a)) (x2:=none) (x4:=none) (x5:=none) (x6:=none) (x7:=none) (x8:=none) (ρ:=cq 7 none)),H2,b1,b2,b3,b4,b5;have hn:1<=H1.nxt:=hn;refine⟨.ref H1.nxt,H2,?_,b2,by exact fh b3,b5,H1.nxt,rfl,hn,by show H1.nxt≠0;lia,b4⟩;simp only[mw,aY,aZ,dO,jJ];simp only[rep0,rep1,Nat.reduceAdd]at b1 ⊢;rw[b1,aG])
 exists ae (rP a6),js,e1,R;clear a6 a5 a3 a2 w0 cT uD hb gy;subst e1;refine eT (H':=⟨H'.nxt,dropNew 0 H'.es⟩) ?_ (.cons uT (.cons uT .nil)) uT;have it:∀H,iterOf H .seq [encMat a]=some (a.map cj):=fun _=>rfl;unfold Jg EL;rw[dQ];simp only[dO,rep0,rep1]at a1;rw[aN];simp only[iU,gw,bo,bj,bA,bg,bh,bk,aG,it,gh,gF,aY,aZ,dO,rep0,rep1];rw[a1];simp! only[];show some (freezeV H'.es 0 3 (.ref 0),(⟨H'.nxt,dropNew 0 H'.es⟩:Hp))=_;rw[j6 a4 (cx _),AF (f6 _) R fun r mr v mv=>by
  exists ae (cG.mp mr),q,Z0,nE;clear mr it a4 R a1;subst nE;exists ae (cG.mp mv),i,Z0,qd;clear mv;subst qd;exact Kb]
 unfold encMat;rw[d5,d5];rfl
end
end
section
open PySem
def z1(n:Int):V:=aW n 1
def bR(r:List Int):V:=.lst (r.map z1)
def bK(m:List (List Int)):V:=.lst (m.map bR)
theorem SA{r:List Int}:NRs (r.map z1):=by
 induction r with
 |nil=>
  exact .nil
 |cons _ _ ih=>
  exact .cons g7 ih
theorem BU:NR (bR r):=.lst SA
theorem VB{m:List (List Int)}:NRs (m.map bR):=by
 induction m with
 |nil=>
  exact .nil
 |cons _ _ ih=>
  exact .cons BU ih
theorem i5:NR (bK m):=.lst VB
theorem still_z1:Still (z1 n):=fun es n0 k=>by
 induction k using bL with
 |zero=>rfl
 |succ k=>induction k using bL <;> rfl
theorem sZ(h:bndZ n=true):cM n 1:=⟨gx h,Nat.one_pos,by decide⟩
noncomputable def nc:Int->List Int->List Int->Option Int
 |acc,[],_=>some acc
 |_,_::_,[]=>none
 |acc,a::r,b::s=>match bndZ a with
  |true=>match bndZ b with
   |true=>match bndZ (a * b)with
    |true=>match bndZ acc with
     |true=>nc (acc+a * b) r s
     |false=>none
    |false=>none
   |false=>none
  |false=>none
section
variable {H:Hp}
theorem Ii(ha:bndZ a=true)(hb:bndZ b=true):iL [z1 a,z1 b] H=some (z1 (a * b),H):=y3 (sZ ha) (sZ hb)
theorem wJ(ha:bndZ a=true)(hb:bndZ b=true):hV [z1 a,z1 b] H=some (z1 (a+b),H):=Jq (sZ ha) (sZ hb)
def uU:List MS:=[(.assign 2 (.call hV [(.var 2),(.call iL [(.var 4),(.sub (.var 1) (.var 3))])]))]
theorem aal(hc:col.length<=1000):∀(row s:List Int) (i:Nat) (acc res:Int) (o3 o4:Option V),col.drop i=s->nc acc row s=some res->
  ∃yN jU,loopF [3,4] true (denSs (denS 19) uU) (enumL (Int.ofNat i) (row.map z1)) (x0::some (bR col)::some (z1 acc)::o3::o4::ρ) H=some (.next,x0::some (bR col)::some (z1 res)::yN::jU::ρ,H):=by
 intro row
 induction row with
 |nil=>intro s i acc res o3 o4 _ e;exists e;exact⟨o3,o4,rfl⟩
 |cons a r ih=>
  intro s i acc res o3 o4 hs e
  induction s using aM with
  |nil=>exact nq e
  |cons b s=>
   exists cm e,h1,e;exists cm e,h2,e;exists cm e,h3,e;exists cm e,h4,e;exists dr (xq hs),g1,g2,g3;exists d7 (ih s (i+1) (acc+a * b) res (some (ay i)) (some (z1 a)) g2 e),yN,jU,e1;have e2:∀H,subs H (bR col) (ay i)=some (z1 b):=fun H=>fZ (l:=col.map z1) (by rw[aJ];lia) (by rw[dM,g1];rfl);refine⟨yN,jU,?_⟩;rw[aO];show loopF _ _ _ (V.tup [ay i,z1 a]::enumL (Int.ofNat (i+1)) (r.map z1)) _ _=_;rw[fz];unfold uU;unfold uU at e1;simp! only[e2,Ii h1 h2,wJ h4 h3];exact e1
theorem T9{row col:List Int}{res:Int}(hc:col.length<=1000)(e:nc 0 row col=some res):BX [bR row,bR col] ⟨0,[]⟩=some (z1 res,⟨0,[]⟩):=by
 exists d7 (aal (H:=⟨0,[]⟩) hc (x0:=some (bR row)) (ρ:=cq 14 none) row col 0 0 res none none rfl e),o3,o4,el;have it:∀H,iterOf H .enum [bR row]=some (enumL (Int.ofNat 0) (row.map z1)):=fun _=>rfl;have lk:∀H,lockH H [bR row]=H:=fun _=>rfl;have su:∀es f ρ H,sunl es [bR row] (some (f,ρ,H))=some (f,ρ,H):=fun _ _ _ _=>rfl;unfold BX Fe;rw[dQ];unfold uU at el;simp only[rep0,rep1]at el;rw[show z1 0=V.tup [.int 0,.int 1]from rfl]at el;simp! only[it,lk];rw[el];simp! only[su];rfl
theorem V9{rv:V}{row col:List Int}{res:Int}(hv:frz H rv=bR row)(hc:col.length<=1000)(e:nc 0 row col=some res):oZ [rv,bR col] H=some (z1 res,H):=
 dX (args:=[rv,bR col]) (by rw[aO,aO,hv];exact T9 hc e) (by rw[aO,aO,hv];exact .cons BU (.cons BU .nil)) l6
theorem T2:xI [bK [[a,b],[c,d]]] ⟨0,[]⟩=some (bK [[a,c],[b,d]],⟨3,[]⟩):=by kernel_rfl
theorem T3:xI [bK [[a,b,c],[d,e,f],[g,h,i]]] ⟨0,[]⟩=some (bK [[a,d,g],[b,e,h],[c,f,i]],⟨4,[]⟩):=by kernel_rfl
theorem U2:Cc [.int 2] ⟨0,[]⟩=some (bK [[1,0],[0,1]],⟨3,[]⟩):=by kernel_rfl
theorem U3:Cc [.int 3] ⟨0,[]⟩=some (bK [[1,0,0],[0,1,0],[0,0,1]],⟨4,[]⟩):=by kernel_rfl
end
end
section
open PySem
def r7(m:List (List Int)):Bool:=match b8 m.length 500 with
 |true=>allB (fun r=>match b8 r.length 500 with
  |true=>allB bndZ r
  |false=>false) m
 |false=>false
theorem C5(h:r7 m=true):m.length<=500/\∀r∈m,r.length<=500/\∀x∈r,bndZ x=true:=by
 exists kb2 h,h1,h
 ·refine⟨bC h1,fun r m=>?_⟩;have:=dh h r m;exists kb2 this,h2,this
  ·exact⟨bC h2,dh this⟩
section
variable {H:Hp}
theorem A2(lk:aq H' k (js.map V.ref))(hk:n0<=k)(R:Rows H' k (k+1) js (m.map fun r=>r.map z1)):freezeV H'.es n0 3 (.ref k)=bK m:=by
 rw[j6 lk hk,AF (Nat.le_succ_of_le hk) R fun r mr v mv=>by
  exists ae (cG.mp mr),q,Z0,n7;subst n7;exists ae (cG.mp mv),i,Z0,Ag;subst Ag;exact still_z1]
 unfold bK;rw[d5];rfl
theorem TA(hr:r.length<=500)(hb:∀x∈r,bndZ x=true)(hq:bndZ q=true) :
  den (n+8) (.lcomp [4,5] (.call iL [(.var 5),(.var 1)]) [([5],false,.seq,[(.var 3)],[])]) (x0::some (z1 q)::x2::some (bR r)::x4::x5::ρ) H=some (.ref H.nxt,(newObj H (.list ((r.map fun x=>x * q).map z1))).2):=by
 obtain⟨nx,es⟩:=H;have it:∀H,iterOf H .seq [bR r]=some (r.map z1):=fun _=>rfl;have this:=dK (k:=nx) (n:=nx+1) (es:=es) (enc:=z1) (f:=turn (den (n+7)) [5] false [] (ck nx (.call iL [(.var 5),(.var 1)]) (den (n+7))) (x0::some (z1 q)::x2::some (bR r)::none::none::ρ)) (fun x=>[z1 (x * q)]) r [] (fun x m acc ha=>by
  simp! only[Ii (hb x m) hq];exact dg ha) (by rw[eY];show 0+_<=_;lia)
 rw[eN,dp]at this;have key:=jc (c:=r.map z1) this;rw[show V.lst (r.map z1)=bR r from rfl]at key;simp! only[it];rw[key,d5];rfl
noncomputable def vV(m:List (List Int))(q:Int):List (List Int):=m.map fun r=>r.map fun x=>x * q
theorem PQ(hm:r7 m=true)(hq:bndZ q=true):vl [bK m,z1 q] H=some (bK (vV m q),H):=by
 exists ak (C5 hm),hl,hr;have w0:WF ⟨0,[]⟩:=fun _ m=>by cases m
 obtain⟨vs,H',a1,a2,a3,a4,a5,a6⟩:=rD (H:=⟨0,[]⟩) (enc:=bR) (vs0:=[bK m]) (f:=turn (den 18) [3] false [] (ck 0 (.lcomp [4,5] (.call iL [(.var 5),(.var 1)]) [([5],false,.seq,[(.var 3)],[])]) (den 18)) (some (bK m)::some (z1 q)::none::none::cq 12 none))
  (lB 1 0 fun r=>(r.map fun x=>x * q).map z1) (fun _ _ _ _ h k=>sU h k) (fun _=>True) (fun _ _ _ _=>trivial) w0 trivial m (by lia) (fun _ _=>⟨rfl,rfl⟩) (fun r mr H1 acc w1 lk _ hn=>by
   have b1:=TA (H:=H1) (n:=10) (r:=r) (q:=q) (hr r mr).1 (hr r mr).2 hq (x0:=some (bK m)) (x2:=none) (x4:=none) (x5:=none) (ρ:=cq 10 none);have hn:1<=H1.nxt:=hn;refine⟨.ref H1.nxt,_,?_,w1.new,eZ _,cp.new w1,H1.nxt,rfl,hn,by show H1.nxt≠0;lia,aq.c8⟩;simp only[mw,aY,aZ,dO,jJ];simp only[rep0,rep1,Nat.reduceAdd]at b1 ⊢;rw[b1,aG])
 exists ae (rP a6),js,e1,R;subst e1;refine eT (H':=⟨H'.nxt,dropNew 0 H'.es⟩) ?_ (.cons i5 (.cons g7 .nil)) i5;have it:∀H,iterOf H .seq [bK m]=some (m.map bR):=fun _=>rfl;unfold H7 JT;rw[dQ];simp only[dO,rep0,rep1]at a1;rw[aN];simp only[iU,gw,bo,bj,bA,bg,bh,bk,aG,it,gh,gF,aY,aZ,dO,rep0,rep1];rw[a1];simp! only[];show some (freezeV H'.es 0 3 (.ref 0),(⟨H'.nxt,dropNew 0 H'.es⟩:Hp))=_;have R':Rows H' 0 1 js ((vV m q).map fun r=>r.map z1):=by unfold vV;rw[d5];exact R
 rw[A2 a4 (cx _) R']
noncomputable def z8(row:List Int)(a:Nat×Int):Int:=match row[a.1]? with
 |some y=>a.2+y
 |none=>0
def IA(row:List Int)(a:Nat×Int):Bool:=match row[a.1]? with
 |some y=>match bndZ a.2 with
  |true=>bndZ y
  |false=>false
 |none=>false
def Al(a:Nat×Int):V:=.tup [ay a.1,z1 a.2]
theorem RL(r:List Int):∀(i:Nat),enumL (Int.ofNat i) (r.map z1)=(dI i r).map Al:=by
 induction r with
 |nil=>
  intro _;exact rfl
 |cons p r ih=>
  intro i;show V.tup [ay i,z1 p]::enumL (Int.ofNat (i+1)) (r.map z1)=_;rw[ih (i+1)];rfl
noncomputable def enumM:Nat->List (List Int)->List (Nat×List Int)
 |_,[]=>[]
 |i,x::r=>(i,x)::enumM (i+1) r
def C9(a:Nat×List Int):V:=.tup [ay a.1,bR a.2]
theorem To(r:List (List Int)):∀(i:Nat),enumL (Int.ofNat i) (r.map bR)=(enumM i r).map C9:=by
 induction r with
 |nil=>
  intro _;exact rfl
 |cons p r ih=>
  intro i;show V.tup [ay i,bR p]::enumL (Int.ofNat (i+1)) (r.map bR)=_;rw[ih (i+1)];rfl
theorem Hc(r:List (List Int)):∀(i:Nat),(enumM i r).length=r.length:=by
 induction r with
 |nil=>
  intro _;exact rfl
 |cons p r ih=>
  intro i;show(enumM (i+1) r).length+1=_;rw[ih];rfl
def qW(b:List (List Int))(a:Nat×List Int):List Int:=match b[a.1]? with
 |some row=>(dI 0 a.2).map (z8 row)
 |none=>[]
def addRowOk(b:List (List Int))(a:Nat×List Int):Bool:=match b[a.1]? with
 |some row=>match b8 a.2.length 500 with
  |true=>match b8 row.length 500 with
   |true=>allB (IA row) (dI 0 a.2)
   |false=>false
  |false=>false
 |none=>false
set_option tactic.hygienic true in
theorem Ta(hb:b.length<=500)(h:addRowOk b (i,r)=true) :
  den (n+9) (.lcomp [5,6,7] (.call hV [(.var 7),(.sub (.sub (.var 1) (.var 3)) (.var 6))]) [([6,7],true,.enum,[(.var 4)],[])]) (x0::some (bK b)::x2::some (ay i)::some (bR r)::x5::x6::x7::ρ) H=some (.ref H.nxt,(newObj H (.list ((qW b (i,r)).map z1))).2):=by
 unfold addRowOk at h;unfold qW;dsimp only at h ⊢;split at h
 rotate_left
 ·exact bf h
 rename_i row gy;split at h
 rotate_left
 ·exact bf h
 rename_i h1;split at h
 rotate_left
 ·exact bf h
 rename_i h2;have h1:=bC h1;have h2:=bC h2;have cT:=dh h;obtain⟨nx,es⟩:=H;have it:∀H,iterOf H .enum [bR r]=some (enumL (Int.ofNat 0) (r.map z1)):=fun _=>rfl;have e1:∀H,subs H (bK b) (ay i)=some (bR row):=fun H=>fZ (l:=b.map bR) (by rw[aJ];lia) (by rw[dM,gy];rfl);have this:=dK (k:=nx) (n:=nx+1) (es:=es) (enc:=Al) (f:=turn (den (n+8)) [6,7] true [] (ck nx (.call hV [(.var 7),(.sub (.sub (.var 1) (.var 3)) (.var 6))]) (den (n+8))) (x0::some (bK b)::x2::some (ay i)::some (bR r)::none::none::none::ρ)) (fun a=>[z1 (z8 row a)]) (dI 0 r) [] (fun a m acc ha=>by
  have hk:=cT a m;unfold IA at hk;unfold z8;split at hk
  rotate_left
  ·exact bf hk
  rename_i y hy;split at hk
  rotate_left
  ·exact bf hk
  rename_i h3;have e2:∀H,subs H (bR row) (ay a.1)=some (z1 y):=fun H=>fZ (l:=row.map z1) (by rw[aJ];lia) (by rw[dM,hy];rfl);unfold Al;simp! only[e1,e2,wJ h3 hk];exact dg ha) (by rw[eY,u9];show 0+_<=_;lia)
 rw[eN,dp,<- RL]at this;have key:=jc (c:=r.map z1) this;rw[show V.lst (r.map z1)=bR r from rfl]at key;simp! only[it];rw[key,d5];rfl
def By(a b:List (List Int)):Option (List (List Int)):=match b8 a.length 500 with
 |true=>match aF a.length b.length with
  |true=>match allB (addRowOk b) (enumM 0 a)with
   |true=>match a with
    |[]=>none
    |r::_=>match b with
     |[]=>none
     |s::_=>match aF r.length s.length with
      |true=>some ((enumM 0 a).map (qW b))
      |false=>none
   |false=>none
  |false=>none
 |false=>none
theorem xi(hm:m.length<=500)(hr:r.length<=500)(w:WF H):iN [bK (r::m)] H=some (.tup [ay (m.length+1),ay r.length],H):=by
 have e1:∀H,cw .len [bK (r::m)] H=some (V.int (.ofNat (m.length+1)),H):=fun H=>by
  have:=n5 (H:=H) (l:=(r::m).map bR) (by rw[aJ];show m.length+1<=_;lia);rw[aJ]at this;exact this
 have e2:∀H,cw .len [bR r] H=some (V.int (.ofNat r.length),H):=fun H=>by
  have:=n5 (H:=H) (l:=r.map z1) (by rw[aJ];lia);rw[aJ]at this;exact this
 have e3:∀H,subs H (bK (r::m)) (V.int 0)=some (bR r):=fun H=>fZ (i:=0) (l:=(r::m).map bR) (by rw[aJ];show m.length+1<=_;lia) rfl;unfold iN ym Ah;rw[hO];simp! only[e1,lC,kZ (Nat.succ_pos m.length),e2,e3];show some (V.tup [ay (m.length+1),ay r.length],(⟨H.nxt,dropNew H.nxt H.es⟩:Hp))=_;rw[Ai w]
theorem tR:pS [.bool true,.str t] H=some (.none,H):=by
 refine dX (args:=[.bool true,.str t]) (H':=⟨0,[]⟩) ?_ (.cons (.bool _) (.cons (.str _) .nil)) .none;rfl
theorem Si:bu .Eq (.tup [ay a,ay b]) (.tup [ay a,ay b]) H=some true:=by
 show some (match aF a a with
  |true=>(match aF b b with
   |true=>true
   |false=>false)
  |false=>false)=_
 rw[eu,eu]
theorem Sd(e:By a b=some m):uk [bK a,bK b] H=some (bK m,H):=by
 unfold By at e;exists cm e,ha,e;have ha:=bC ha;exists cm e,gO,e;have gO:=cY gO;exists cm e,cT,e;have cT:=dh cT;rcases a with _|⟨r,a'⟩
 ·exact nq e
 rcases b with _|⟨s,b'⟩
 ·exact nq e
 dsimp only at e;exists cm e,vY,e;have vY:=cY vY;exists e;have dN:b'.length=a'.length:=by have gO:a'.length+1=b'.length+1:=gO;lia
 have fH:a'.length+1<=500:=ha;have E5:r.length<=500:=by
  have:=cT (0,r) (.head _);unfold addRowOk at this;dsimp only at this;split at this
  ·split at this
   ·rename_i h;exact bC h
   ·exact bf this
  ·exact bf this
 have w0:WF ⟨0,[]⟩:=fun _ m=>by cases m
 have s1:=xi (H:=⟨0,[]⟩) (r:=r) (m:=a') (fh ha) E5 w0;have s2:=xi (H:=⟨0,[]⟩) (r:=s) (m:=b') (by lia) (le_of_eq_of_le (id (Eq.symm vY)) E5) w0;rw[dN,<- vY]at s2;obtain⟨vs,H',a1,a2,a3,a4,a5,a6⟩:=rD (H:=⟨0,[]⟩) (enc:=C9) (vs0:=[bK (r::a')]) (f:=turn (den 18) [3,4] true [] (ck 0 (.lcomp [5,6,7] (.call hV [(.var 7),(.sub (.sub (.var 1) (.var 3)) (.var 6))]) [([6,7],true,.enum,[(.var 4)],[])]) (den 18)) (some (bK (r::a'))::some (bK (s::b'))::none::none::none::cq 11 none))
  (lB 1 0 fun x=>(qW (s::b') x).map z1) (fun _ _ _ _ h k=>sU h k) (fun _=>True) (fun _ _ _ _=>trivial) w0 trivial (enumM 0 (r::a')) (by rw[Hc];show a'.length+1<=_;lia) (fun _ _=>⟨rfl,rfl⟩) (fun x mx H1 acc w1 lk _ hn=>by
   have b1:=Ta (H:=H1) (n:=9) (i:=x.1) (r:=x.2) (b:=s::b') (by show b'.length+1<=_;exact le_of_eq_of_le (id (Eq.symm gO)) ha) (cT x mx) (x0:=some (bK (r::a'))) (x2:=none) (x5:=none) (x6:=none) (x7:=none) (ρ:=cq 8 none);have hn:1<=H1.nxt:=hn;refine⟨.ref H1.nxt,_,?_,w1.new,eZ _,cp.new w1,H1.nxt,rfl,hn,by show H1.nxt≠0;lia,aq.c8⟩;unfold C9;simp only[rH,aY,aZ,dO,jJ];simp only[rep0,rep1,Nat.reduceAdd]at b1 ⊢;rw[b1,aG])
 exists ae (rP a6),js,e1,R;subst e1;refine eT (H':=⟨H'.nxt,dropNew 0 H'.es⟩) ?_ (.cons i5 (.cons i5 .nil)) i5;have it:∀H,iterOf H .enum [bK (r::a')]=some (enumL (Int.ofNat 0) ((r::a').map bR)):=fun _=>rfl;unfold GO Gv;rw[dQ];simp only[dO,rep0,rep1]at a1;rw[aN];simp only[jF,cH,fK,cD,bo,bj,bA,rep0,rep1,bg,bh,bk,fN,aG,s1,s2,Si,tR,aS,bc];rw[aN];simp only[iU,gw,bo,bj,bA,bg,bh,bk,aG,it,gh,gF,aY,aZ,dO,rep0,rep1];rw[To,a1];simp! only[];show some (freezeV H'.es 0 3 (.ref 0),(⟨H'.nxt,dropNew 0 H'.es⟩:Hp))=_;have R':Rows H' 0 1 js (((enumM 0 (r::a')).map (qW (s::b'))).map fun r=>r.map z1):=by rw[d5];exact R
 rw[A2 a4 (cx _) R']
end
end
section
open PySem
section
variable {H:Hp}
theorem Dh{A:Type}{f:V->Hp->Option Hp}{enc:A->V}{c:Nat}{o:bq}(hc:look H.es c=some ⟨c,false,o⟩)(val:A->V->Hp->Prop)(lj:∀a v H' ew,val a v H'->fM H.nxt H' ew->val a v ew)(Ei:∀a v H' ew,val a v H'->fM c H' ew->val a v ew)
  (I:Hp->Prop) (hI:∀H' ew,I H'->fM H.nxt H' ew->I ew) (H0:∀H',fM c H H'->I H') (w:WF H) (s:List A) (hl:s.length<=50000)
  (step:∀a∈s,∀H' acc,WF H'->aq H' H.nxt acc->I H'->H.nxt+1<=H'.nxt->∃v H1,f (enc a) H'=kz H.nxt v H1/\WF H1/\H'.nxt<=H1.nxt/\cp H' H1/\val a v H1) :
  ∃vs H',compGo H.nxt f (s.map enc) [.ref c] (newObj H (.list [])).2=some (.ref H.nxt,H')/\WF H'/\H.nxt+1<=H'.nxt/\aq H' H.nxt vs/\cp H H'/\Vals val s vs H':=by
 have uA:=cP w hc;have tP:look (newObj H (.list [])).2.es c=some ⟨c,false,o⟩:=fD w hc;have nQ:lockH (newObj H (.list [])).2 [.ref c]=⟨H.nxt+1,put (newObj H (.list [])).2.es c true o⟩:=by
  show(⟨H.nxt+1,cN (newObj H (.list [])).2.es (.ref c)⟩:Hp)=_;rw[vR tP]
 have wL:WF ⟨H.nxt+1,put (newObj H (.list [])).2.es c true o⟩:=xg (n:=H.nxt+1) (w.new (o:=.list []));have Ig:aq ⟨H.nxt+1,put (newObj H (.list [])).2.es c true o⟩ H.nxt []:=(eH (show H.nxt≠c by exact Ne.symm (eV uA))).trans aq.c8;have kL:fM c H ⟨H.nxt+1,put (newObj H (.list [])).2.es c true o⟩:=fun i e h q=>(eH q).trans (fD w h);obtain⟨vs,H',a1,a2,a3,a4,a5,a6⟩:=IV (k:=H.nxt) (n0:=H.nxt+1) (enc:=enc) (f:=f) val lj I hI s [] ⟨H.nxt+1,put (newObj H (.list [])).2.es c true o⟩ wL Ig (H0 _ kL) (cx _) (by show 0+s.length<=_;lia) step;have iZ:look H'.es c=some ⟨c,true,o⟩:=a5 c _ (m7 tP) (eV uA);refine⟨vs,⟨H'.nxt,put H'.es c false o⟩,?_,xg a2,a3,(eH (show H.nxt≠c by exact Ne.symm (eV uA))).trans a4,fun i e h=>?_,a6.1,fun i a v h1 h2=>Ei _ _ _ _ (a6.2 i a v h1 h2) fun i e h q=>(eH q).trans h⟩
 ·show dC H.nxt (unlH (newObj H (.list [])).2.es [.ref c] (forItems f (s.map enc) (lockH (newObj H (.list [])).2 [.ref c])))=_;rw[nQ,a1];show dC H.nxt (some ⟨H'.nxt,gT (newObj H (.list [])).2.es H'.es (.ref c)⟩)=_;rw[s6 tP iZ];rfl
 ·by_cases q:i=c
  ·clear a6 a5 a4 a3 a2 a1 kL Ig wL nQ tP uA step hl w H0 hI Ei lj;subst q;rw[hc]at h
   (clear hc;exists h)
   exact m7 iZ
  ·refine(eH q).trans (a5 i e (kL i e h q) fun z=>?_);have:=cP w h
   lia
noncomputable def vd(a:List (List Int)):List Nat->Int->Option Int
 |[],acc=>some acc
 |i::r,acc=>match a[i]? with
  |none=>none
  |some row=>match row[i]? with
   |none=>none
   |some y=>match bndZ acc with
    |false=>none
    |true=>match bndZ y with
     |false=>none
     |true=>vd a r (acc+y)
def traceS(a:List (List Int)):Option Int:=match a with
 |[]=>none
 |r::m=>match r7 (r::m)with
  |false=>none
  |true=>match aF (Nat.succ m.length) r.length with
   |false=>none
   |true=>vd (r::m) (eE 0 (Nat.succ m.length)) 0
def um:List MS:=[(.assign 1 (.call hV [(.var 1),(.sub (.sub (.var 0) (.var 2)) (.var 2))]))]
set_option tactic.hygienic true in
theorem Nm(hm:r7 a=true):∀(s:List Nat) (acc res:Int) (o2:Option V),vd a s acc=some res->
  ∃A8,loopF [2] false (denSs (denS 19) um) (s.map ay) (some (bK a)::some (z1 acc)::o2::ρ) H=some (.next,some (bK a)::some (z1 res)::A8::ρ,H):=by
 exists ak (C5 hm),hl,hr;intro s;clear hm;induction s with
 |nil=>intro acc res o2 e;exists e;exact⟨o2,rfl⟩
 |cons i s ih=>
  intro acc res o2 e;dsimp only[vd]at e;split at e
  ·exact nq e
  ·rename_i row gy;split at e
   ·exact nq e
   ·rename_i y hy;split at e
    ·exact nq e
    ·rename_i h1;exists kb1 e,h2,e
     ·exists aD (ih (acc+y) res (some (ay i)) e),A8,e1;have FR:=(hr row (eA gy)).1;have e2:∀H,subs H (bK a) (ay i)=some (bR row):=fun H=>fZ (l:=a.map bR) (by rw[aJ];lia) (by rw[dM,gy];rfl);have e3:∀H,subs H (bR row) (ay i)=some (z1 y):=fun H=>fZ (l:=row.map z1) (by rw[aJ];lia) (by rw[dM,hy];rfl);refine⟨A8,?_⟩;rw[aO,fz];unfold um;unfold um at e1;simp! only[e2,e3,wJ h1 h2];exact e1
set_option tactic.hygienic true in
theorem Rp{a:List (List Int)}{res:Int}(e:traceS a=some res):uE [bK a] H=some (z1 res,H):=by
 unfold traceS at e;split at e
 ·exact nq e
 ·rename_i r m;split at e
  ·exact nq e
  ·rename_i hm;exists kb1 e,ue,e
   ·have ue:=cY ue;exists ak (C5 hm),hl,hr;have hl:m.length+1<=500:=hl;have w0:WF ⟨0,[]⟩:=fun _ m=>by clear hl hr ue e hm;cases m
    have s1:=xi (H:=⟨0,[]⟩) (r:=r) (m:=m) (by lia) (hr r (.head _)).1 w0;exists aD (Nm (H:=⟨0,[]⟩) hm (ρ:=cq 13 none) (eE 0 (m.length+1)) 0 res none e),o2,el;have e1:∀H,cw .len [bK (r::m)] H=some (ay (m.length+1),H):=fun H=>by
     have:=n5 (H:=H) (l:=(r::m).map bR) (by rw[aJ];show m.length+1<=_;lia);rw[aJ]at this;exact this
    have e2:∀H,bu .Eq (ay (m.length+1)) (ay r.length) H=some true:=fun H=>by
     show some (aF (m.length+1) r.length)=_;rw[<- ue,eu]
    have e3:∀H,subs H (.tup [ay (m.length+1),ay r.length]) (V.int 1)=some (ay r.length):=fun _=>rfl;have lk:∀H,lockH H [ay (m.length+1)]=H:=fun _=>rfl;have su:∀es f ρ H,sunl es [ay (m.length+1)] (some (f,ρ,H))=some (f,ρ,H):=fun _ _ _ _=>rfl;refine eT (H':=⟨0,[]⟩) ?_ (.cons i5 .nil) g7;unfold K0 Iw;rw[hO];unfold um at el;simp only[rep0,rep1]at el;rw[show z1 0=V.tup [.int 0,.int 1]from rfl]at el;have it:∀H,iterOf H .range1 [ay (m.length+1)]=some ((eE 0 (m.length+1)).map ay):=fun H=>ti (by lia);simp! only[e1,s1,e2,e3,tR,it,lk];rw[el];simp! only[su];rfl
def dv(row col:List Int):Int:=match nc 0 row col with
 |some x=>x
 |none=>0
def uo(row col:List Int):Bool:=match nc 0 row col with
 |some _=>match b8 col.length 500 with
  |true=>true
  |false=>false
 |none=>false
set_option tactic.hygienic true in
theorem VU(h:uo row col=true):nc 0 row col=some (dv row col)/\col.length<=500:=by
 unfold uo at h;unfold dv;split at h
 ·rename_i x hx;exists kb2 h,h2,h
  ·exact⟨hx,bC h2⟩
 ·exact bf h
theorem VG(w:WF H)(hj:aq H j (row.map z1))(hc:cols.length<=500)(h:∀col∈cols,uo row col=true) :
  den (n+8) (.lcomp [5,6] (.call oZ [(.var 4),(.var 6)]) [([6],false,.seq,[(.var 2)],[])]) (x0::x1::some (bK cols)::x3::some (.ref j)::x5::x6::ρ) H=some (.ref H.nxt,(newObj H (.list ((cols.map (dv row)).map z1))).2):=by
 have ou:=cP w hj;clear w;obtain⟨nx,es⟩:=H;have ou:j<nx:=ou;have it:∀H,iterOf H .seq [bK cols]=some (cols.map bR):=fun _=>rfl;have this:=dK (k:=nx) (n:=nx+1) (es:=es) (enc:=bR) (f:=turn (den (n+7)) [6] false [] (ck nx (.call oZ [(.var 4),(.var 6)]) (den (n+7))) (x0::x1::some (bK cols)::x3::some (.ref j)::none::none::ρ)) (fun col=>[z1 (dv row col)]) cols [] (fun col m acc ha=>by
  exists ak (VU (h col m)),d1,d2;have Xo:aq ⟨nx+1,⟨nx,false,.list acc⟩::es⟩ j (row.map z1):=(dm (by lia)).trans hj;simp! only[V9 (rv:=.ref j) Xo.frz (by lia) d1];exact dg ha) (by rw[eY];show 0+_<=_;lia)
 rw[eN,dp]at this;have key:=jc (c:=cols.map bR) this;rw[show V.lst (cols.map bR)=bK cols from rfl]at key;simp! only[it];rw[key,d5];rfl
theorem DC{A:Nat}{js:List Nat}{r:List Int}{m:List (List Int)}{n0:Nat}(w:WF H)(hA:aq H A (js.map V.ref))(R:Rows H A n0 js ((r::m).map fun r=>r.map z1))(hm:m.length<=500)(hr:r.length<=500) :
  iN [.ref A] H=some (.tup [ay (m.length+1),ay r.length],H):=by
 have hU:js.length=m.length+1:=by rw[R.1,aJ];rfl
 rcases js with _|⟨j,js⟩
 ·clear R hA hr hm w;cases hU
 have hj:=R.2.1 0 j _ rfl rfl;have e1:cw .len [V.ref A] H=some (V.int (.ofNat (m.length+1)),H):=by
  have:=lW hA (by rw[aJ];lia);rw[aJ,hU]at this;exact this
 have e2:cw .len [V.ref j] H=some (V.int (.ofNat r.length),H):=by
  have:=lW hj (by rw[aJ];lia);rw[aJ]at this;exact this
 have e3:subs H (V.ref A) (V.int 0)=some (.ref j):=jz (i:=0) hA (by rw[aJ];lia) rfl;unfold iN ym Ah;rw[hO];simp! only[e1,lC,kZ (Nat.succ_pos m.length),e2,e3];show some (V.tup [ay (m.length+1),ay r.length],(⟨H.nxt,dropNew H.nxt H.es⟩:Hp))=_;rw[Ai w]
def mulZ(a cols:List (List Int)):List (List Int):=a.map fun row=>cols.map (dv row)
def Fd(a cols:List (List Int)):Bool:=allB (fun row=>allB (uo row) cols) a
theorem PC{js:List Nat}{a:List (List Int)}(h:js.length=a.length):(js.zip a).map (fun x=>V.ref x.1)=js.map V.ref/\∀(g:List Int->List V),(js.zip a).map (fun x=>g x.2)=a.map g:=by
 induction js generalizing a with
 |nil=>induction a using aM with
  |nil=>exact⟨rfl,fun _=>rfl⟩
  |cons=>cases h
 |cons j js ih=>
  induction a using aM with
  |nil=>clear ih;cases h
  |cons r a=>
   exists ak (ih (gW h)),h1,h2;refine⟨?_,fun g=>?_⟩
   ·rw[List.zip_cons_cons,aO,aO,h1]
   ·rw[List.zip_cons_cons,aO,aO,h2 g]
theorem Pc{A n0:Nat}{js:List Nat}{r:List Int}{m p cols:List (List Int)}(w:WF H)(hA:aq H A (js.map V.ref))(R:Rows H A n0 js ((r::m).map fun r=>r.map z1))(hm:m.length<=400)(hr:r.length<=500)(hp:p.length=r.length)(hT:∀H,wg [bK p] H=some (bK cols,H))(hc:cols.length<=500)(h:Fd (r::m) cols=true) :
  ∃H',tn [.ref A,bK p] H=some (bK (mulZ (r::m) cols),H')/\WF H'/\H.nxt<=H'.nxt/\cp H H':=by
 have hU:js.length=(r::m).length:=by rw[R.1,aJ]
 exists ak (PC hU),Uh,Xr;have cT:=dh h;have s1:=DC w hA R (by lia) hr;have rZ:∀x∈js.zip (r::m),x.1∈js/\aq H x.1 (x.2.map z1)/\x.2∈r::m:=fun x mx=>by
  exists aD (List.mem_iff_getElem?.mp mx),i,hi;rw[List.getElem?_zip_eq_some]at hi;refine⟨eA hi.1,R.2.1 i x.1 _ hi.1 (by rw[dM,hi.2];rfl),eA hi.2⟩
 have dB:∀x∈js.zip (r::m),x.1<H.nxt:=fun x mx=>cP w (rZ x mx).2.1;have tL:=cP w hA;clear h;obtain⟨vs,H',a1,a2,a3,a4,a5,a6⟩:=Dh (H:=H) (c:=A) hA (enc:=fun x:Nat×List Int=>V.ref x.1) (f:=turn (den 18) [4] false [] (ck H.nxt (.lcomp [5,6] (.call oZ [(.var 4),(.var 6)]) [([6],false,.seq,[(.var 2)],[])]) (den 18)) (some (.ref A)::some (bK p)::some (bK cols)::none::none::none::none::cq 10 none))
  (lB (H.nxt+1) H.nxt fun x=>(cols.map (dv x.2)).map z1) (fun _ _ _ _ h k=>sU h k) (fun a v H1 H2 h k=>by
   exists dw h,j,e,n1,q,l
   try clear h
   exact⟨j,e,n1,q,k _ _ l (by lia)⟩) (fun H'=>∀x∈js.zip (r::m),aq H' x.1 (x.2.map z1)) (fun H1 H2 h k x mx=>k _ _ (h x mx) (by have:=dB x mx;exact Ne.symm (Nat.ne_of_lt' (dB x mx)))) (fun H1 k x mx=>k _ _ (rZ x mx).2.1 (R.2.2 _ (rZ x mx).1).2) w (js.zip (r::m)) (by rw[List.length_zip,hU,Nat.min_self];show m.length+1<=_;lia) (fun x mx H1 acc w1 lk hi hn=>by
   have b1:=VG (H:=H1) (n:=10) (j:=x.1) (row:=x.2) (cols:=cols) w1 (hi x mx) hc (dh (cT x.2 (rZ x mx).2.2)) (x0:=some (.ref A)) (x1:=some (bK p)) (x3:=none) (x5:=none) (x6:=none) (ρ:=cq 10 none);refine⟨.ref H1.nxt,_,?_,w1.new,eZ _,cp.new w1,H1.nxt,rfl,hn,by lia,aq.c8⟩;simp only[mw,aY,aZ,dO,jJ];simp only[rep0,rep1,Nat.reduceAdd]at b1 ⊢;rw[b1,aG])
 exists ae (rP a6),ks,e1,R2;clear a6 a2 tL dB rZ cT hU hc hm R;subst e1;rw[Uh]at a1;rw[Xr fun row=>(cols.map (dv row)).map z1]at R2;have Xs:Rows H' H.nxt (H.nxt+1) ks ((mulZ (r::m) cols).map fun r=>r.map z1):=by
  unfold mulZ;rw[d5];exact R2
 have e2:∀H,cw .len [bK p] H=some (ay p.length,H):=fun H=>by
  have:=n5 (H:=H) (l:=p.map bR) (by rw[aJ];lia);rw[aJ]at this;exact this
 have e3:∀H,bu .Eq (ay r.length) (ay p.length) H=some true:=fun H=>by
  show some (aF r.length p.length)=_;rw[hp,eu]
 have e4:∀H,subs H (.tup [ay (m.length+1),ay r.length]) (V.int 1)=some (ay r.length):=fun _=>rfl;have it:iterOf H .seq [.ref A]=some (js.map V.ref):=lI hA;refine⟨⟨H'.nxt,dropNew H.nxt H'.es⟩,?_,fun e m=>Nat.lt_of_lt_of_le (k7 m).2 (by show H.nxt<=H'.nxt;lia),by show H.nxt<=H'.nxt;lia,fun i e h=>?_⟩
 ·unfold tn DV Jm;rw[dQ];simp only[dO,rep0,rep1]at a1;rw[aN];simp only[jF,cH,fK,mF,jB,cD,bo,bj,bA,rep0,rep1,bg,bh,bk,fN,aG,s1,e2,e3,e4,tR,aS,bc];rw[aN];simp only[cg,cH,bo,bj,bA,bg,bh,bk,aG,hT,aY,aZ,aS,bc];rw[aN];simp only[iU,gw,bo,bj,bA,bg,bh,bk,aG,it,gh,gF,aY,aZ,dO,rep0,rep1];rw[a1];simp! only[];show some (freezeV H'.es H.nxt 3 (.ref H.nxt),(⟨H'.nxt,dropNew H.nxt H'.es⟩:Hp))=_;rw[A2 a4 (cx _) Xs]
 ·have:=cP w h;exact(tF this).trans (a5 i e h)
end
end
section
open PySem
def rK(n:Nat)(p:List (List Int)):Bool:=match aF p.length n with
 |true=>allB (fun r:List Int=>aF r.length n) p
 |false=>false
noncomputable def VX(j:Nat)(r:List Int):Int:=match r[j]? with
 |some x=>x
 |none=>0
def transZ(n:Nat)(p:List (List Int)):List (List Int):=(eE 0 n).map fun j=>p.map (VX j)
noncomputable def mL:Nat->List (List Int)
 |2=>[[1,0],[0,1]]
 |3=>[[1,0,0],[0,1,0],[0,0,1]]
 |_=>[]
section
variable {H:Hp}
theorem pF(h:rK n p=true):p.length=n/\∀r∈p,r.length=n:=by
 refine kb2 h fun h1 h2=>⟨cY h1,fun r m=>cY (dh h2 r m)⟩
theorem aaX(hn:n=2\/n=3)(h:rK n p=true):wg [bK p] H=some (bK (transZ n p),H):=by
 exists ak (pF h),hl,hr;clear h;rcases hn with rfl|rfl
 ·exists d7 (ow hl),r1,r2,z;subst z;exists d7 (ow (hr r1 (.head _))),a,b,z;exists d7 (ow (hr r2 (.tail _ (.head _)))),c,d,y;clear hl hr;subst z;subst y;exact eT (T2 (a:=a) (b:=b) (c:=c) (d:=d)) (.cons i5 .nil) (i5 (m:=[[a,c],[b,d]]))
 ·exists kO (v7 hl),r1,r2,r3,z;subst z;exists kO (v7 (hr r1 (.head _))),a,b,c,z;exists kO (v7 (hr r2 (.tail _ (.head _)))),d,e,f,y;exists kO (v7 (hr r3 (.tail _ (.tail _ (.head _))))),g,y',i,x;clear hl hr;subst z;subst y;subst x;exact eT (T3 (a:=a) (b:=b) (c:=c) (d:=d) (e:=e) (f:=f) (g:=g) (h:=y') (i:=i)) (.cons i5 .nil) (i5 (m:=[[a,d,g],[b,e,y'],[c,f,i]]))
theorem GV(hn:n=2\/n=3):sY [ay n] H=some (bK (mL n),H):=by
 rcases hn with rfl|rfl
 ·exact eT U2 (.cons (.int _) .nil) (i5 (m:=mL 2))
 ·exact eT U3 (.cons (.int _) .nil) (i5 (m:=mL 3))
theorem R7(hi:0<i)(h:q * Int.ofNat i=t):divQ t 1 (Int.ofNat i) 1=(q,1):=by
 have h1:divQ t 1 (Int.ofNat i) 1=fU (t * 1) (1 * i):=rfl;rw[h1,Int.mul_one,Nat.one_mul];unfold fU;split
 ·rename_i e;have:i=1:=cY e;clear e h1 hi;subst this;have:q * 1=t:=h;rw[Int.mul_one]at this;rw[this]
 ·have hd:i∣t.natAbs:=by
   rw[<- h,Int.natAbs_mul];exact Nat.dvd_mul_left _ _
  have hg:cc t.natAbs i=i:=Nat.gcd_eq_right hd;rw[hg];exists aD (natAbs_dvd hd),k,hk;have h2:=uF hi hk;have bN:(i:Int)≠0:=by lia
  have h3:ff t i=q:=by
   have h4:ff t i * (i:Int)=q * (i:Int):=by rw[h2,<- h];rfl
   exact Int.eq_of_mul_eq_mul_right bN h4
  show(ff t i,i / i)=(q,1);rw[h3,Nat.div_self hi]
end
section
variable (go:List (List Int)->List Int->Option (List Int)) (n:Nat) (found:List Int)
noncomputable def HB(p:Option (List (List Int)))(q:Int):Option (List Int):=match p with
 |none=>none
 |some p=>go p (found++[-q])
def WT(p1:List (List Int))(t q:Int)(i:Nat):Option (List Int):=match ieq (q * Int.ofNat i) t with
 |false=>none
 |true=>match bndZ t with
  |false=>none
  |true=>match bndZ (-q)with
   |false=>none
   |true=>HB go found (By p1 (vV (mL n) (-q))) q
def chB(p1:List (List Int))(i:Nat)(t:Option Int):Option (List Int):=match t with
 |none=>none
 |some t=>WT go n found p1 t (ff t i) i
def KP(a p:List (List Int))(i:Nat):Option (List Int):=match rK n p with
 |false=>none
 |true=>match Fd a (transZ n p)with
  |false=>none
  |true=>chB go n found (mulZ a (transZ n p)) i (traceS (mulZ a (transZ n p)))
end
noncomputable def vE(n:Nat)(a:List (List Int)):List Nat->List (List Int)->List Int->Option (List Int)
 |[],_,found=>some found
 |i::r,p,found=>KP (vE n a r) n found a p i
def charS(n:Nat)(a:List (List Int)):Option (List Int):=match rK n a with
 |false=>none
 |true=>match vE n a (eE 1 n) (mL n) [1]with
  |none=>none
  |some f=>some f.reverse
def ub:List MS:=[(.assign 3 (.call tn [(.var 0),(.var 3)])),(.assign 5 (.call oX [(.call oh [(.call uE [(.var 3)]),(.tup [(.var 4),(.const (.int 1))])])])),(.expr (.cO .append (.var 2) [(.var 5)])),(.assign 3 (.call uk [(.var 3),(.call vl [(.call sY [(.var 1)]),(.var 5)])]))]
structure CI (A F n0:Nat) (js:List Nat) (a:List (List Int)) (found:List Int) (H:Hp):Prop where
 wf:WF H
 la:aq H A (js.map V.ref)
 lr:Rows H A n0 js (a.map fun r=>r.map z1)
 lf:aq H F (found.map z1)
 af:A≠F
 jf:∀j∈js,j≠F
section
variable {H:Hp}
theorem CI.keep(C:CI A F n0 js a found H)(w:WF H')(k:cp H H'):CI A F n0 js a found H':=
 ⟨w,k _ _ C.la,C.lr.keep fun i e h _=>k i e h,k _ _ C.lf,C.af,C.jf⟩
theorem CI.push(C:CI A F n0 js a found H)(f':List Int):CI A F n0 js a f' (setObj H F (.list (f'.map z1))):=
 ⟨C.wf.set,C.la.set C.af,⟨C.lr.1,fun i j r h1 h2=>(C.lr.2.1 i j r h1 h2).set (C.jf j (eA h1)),C.lr.2.2⟩,C.lf.fW,C.af,C.jf⟩
theorem Sx(hn:n=2\/n=3)(jC:rK n (r::m)=true):∀(s:List Nat) (p:List (List Int)) (found res:List Int) (H:Hp) (o4 o5:Option V),(∀i∈s,0<i/\i<=3)->vE n (r::m) s p found=some res->CI A F n0 js (r::m) found H->found.length+s.length<=100->
  ∃p' jU nk H',loopF [4] false (denSs (denS 19) ub) (s.map ay) (some (.ref A)::some (ay n)::some (.ref F)::some (bK p)::o4::o5::ρ) H=some (.next,some (.ref A)::some (ay n)::some (.ref F)::some (bK p')::jU::nk::ρ,H')/\CI A F n0 js (r::m) res H'/\fM F H H':=by
 have fG:m.length+1=n/\r.length=n:=⟨(pF jC).1,(pF jC).2 r (.head _)⟩;intro s;clear jC;induction s with
 |nil=>intro p found res H o4 o5 _ e C _;exists e;exact⟨p,o4,o5,H,rfl,C,fun i e h _=>h⟩
 |cons i s ih=>
  intro p found res H o4 o5 hi e C fY;have fY:found.length+(s.length+1)<=100:=fY;exists ak (hi i (.head _)),lA,Ew;exists kb1 e,hp,e;exists kb1 e,hmul,e;exists FC e,t,ht,e;exists kb1 e,hq,e;exists kb1 e,xC,e;exists kb1 e,CL,e;exists zG e,p2,mJ,e;have hq:=(ieq_iff _ _).mp hq;have lp:p.length=r.length:=(pF hp).1.trans fG.2.symm;have qX:n<=3:=by rcases hn with h|h <;> lia
  obtain⟨H1,e1,w1,_,k1⟩:=Pc C.wf C.la C.lr (by lia) (by lia) lp (fun H=>aaX hn hp) (by unfold transZ;rw[aJ,k9];lia) hmul;have C1:=C.keep w1 k1;have e2:=Rp (H:=H1) ht;have e3:=EV (H:=H1) (sZ xC) (show cM (Int.ofNat i) 1 from⟨by show i<=_;lia,Nat.one_pos,by decide⟩) (show Int.ofNat i≠0 by have:(Int.ofNat i)=(i:Int):=rfl;lia);rw[R7 lA hq]at e3;have e4:oX [aW (ff t i) 1] H1=some (z1 (-(ff t i)),H1):=HQ;have e5:=lG (v:=z1 (-(ff t i))) C1.lf (by rw[aJ];lia);have zi:found.map z1++[z1 (-(ff t i))]=(found++[-(ff t i)]).map z1:=by rw[gI];rfl
  rw[zi]at e5;have C2:=C1.push (found++[-(ff t i)]);have hu:r7 (mL n)=true:=by clear C2 zi e5 e4 e3 e2 C1 k1 w1 e1 qX lp hq e mJ CL xC ht hmul hp Ew lA fY C hi ih fG;rcases hn with rfl|rfl <;> rfl
  have e6:=PQ (H:=setObj H1 F (.list ((found++[-(ff t i)]).map z1))) hu CL;have e7:=Sd (H:=setObj H1 F (.list ((found++[-(ff t i)]).map z1))) mJ;have e8:=GV (H:=setObj H1 F (.list ((found++[-(ff t i)]).map z1))) hn;clear hu zi w1 qX lp hq mJ CL xC ht hmul hp Ew lA C fG hn;obtain⟨p',jU,nk,H',a1,a2,a3⟩:=ih p2 _ res _ (some (ay i)) (some (z1 (-(ff t i)))) (fun j mj=>hi j (.tail _ mj)) e C2 (by rw[d8];show found.length+1+s.length<=_;lia);refine⟨p',jU,nk,H',?_,a2,fun i e h q=>a3 i e ((eH q).trans (k1 i e h)) q⟩;rw[aO,fz];unfold ub;unfold ub at a1;have e9:(V.tup [ay i,V.int 1])=aW (Int.ofNat i) 1:=rfl;simp only[sD,lY,aY,aZ];rw[aN];simp only[cg,cH,bo,bj,bA,bg,bh,bk,aG,e1,aY,aZ,aS,bc];rw[aN];simp only[cg,cH,fk,cD,bo,bj,bA,bg,bh,bk,aG,e2,e9,show z1 t=aW t 1 from rfl,e3,i8,e4,aY,aZ,aS,bc];rw[aN];simp only[jF,kI,bo,bj,bA,bg,bh,bk,aG,lZ C1.lf,lR,e5,aS,bc];rw[aN];simp only[cg,cH,bo,bj,bA,bg,bh,bk,aG,e8,e6,e7,aY,aZ,aS,bc,gj,jI];exact a1
theorem Yt(s:List Nat):∀(p:List (List Int)) (found res:List Int),vE n a s p found=some res->res.length=found.length+s.length:=by
 induction s with
 |nil=>intro p found res e;cases aH e;rfl
 |cons i s ih=>
  intro p found res e;refine kb1 e fun _ e=>kb1 e fun _ e=>?_;unfold chB at e;refine FC e fun t _ e=>kb1 e fun _ e=>kb1 e fun _ e=>kb1 e fun _ e=>?_;unfold HB at e;exists zG e,p2,Z0,e;have:=ih _ _ _ e;rw[this,d8];show found.length+1+s.length=found.length+(s.length+1);exact Nat.succ_add_eq_add_succ found.length s.length
theorem Mg{A n0 n:Nat}{js:List Nat}{r:List Int}{m:List (List Int)}{res:List Int}(hn:n=2\/n=3)(w:WF H)(hA:aq H A (js.map V.ref))(R:Rows H A n0 js ((r::m).map fun r=>r.map z1))(e:charS n (r::m)=some res) :
  ∃H',rN [.ref A] H=some (.lst (res.map z1),H')/\WF H'/\cp H H':=by
 exists kb1 e,jC,e;exists WR e,f,hf,e;exists e;have fG:m.length+1=n/\r.length=n:=⟨(pF jC).1,(pF jC).2 r (.head _)⟩;have qX:n<=3:=by clear hf jC R hA w;rcases hn with h|h <;> lia
 have tL:=cP w hA;have ou:∀j∈js,j<H.nxt:=fun j mj=>by
  exists aD (List.mem_iff_getElem?.mp mj),i,hi;have qD:i<((r::m).map fun r=>r.map z1).length:=by rw[<- R.1];exact(fo.mp hi).1
  exact cP w (R.2.1 i j _ hi (List.getElem?_eq_getElem qD))
 have C:CI A H.nxt n0 js (r::m) [1] (newObj H (.list [z1 1])).2:=
  ⟨w.new,hA.new w,R.keep fun i e h _=>fD w h,aq.c8,by exact eV tL,fun j mj=>by have:=ou j mj;exact eV (ou j mj)⟩
 clear ou tL;obtain⟨p',o4,o5,H',el,C',K'⟩:=Sx hn jC (ρ:=cq 13 none) (eE 1 n) (mL n) [1] f _ none none (fun i mi=>by
  have:=List.mem_range'.mp mi
  lia) hf C (by rw[k9];show 1+n<=_;lia)
 have s1:=DC w hA R (by lia) (by lia);have hU:js.length=m.length+1:=by rw[R.1,aJ];rfl
 have e1:cw .len [V.ref A] H=some (ay n,H):=by
  have:=lW hA (by rw[aJ];lia);rw[aJ,hU,fG.1]at this;exact this
 have e2:∀H,bu .Eq (ay n) (ay r.length) H=some true:=fun H=>by
  show some (aF n r.length)=_;rw[fG.2,eu]
 have e3:∀H,subs H (.tup [ay (m.length+1),ay r.length]) (V.int 1)=some (ay r.length):=fun _=>rfl;have e4:∀H,binOp .Add (ay n) (V.int 1) H=some (ay (n+1),H):=fun _=>rfl;have it:∀H,iterOf H .range2 [V.int 1,ay (n+1)]=some ((eE 1 n).map ay):=fun H=>by
  clear e4 e3 e2 e1 hU s1 K' C' el C qX fG hf jC R hA w;rcases hn with rfl|rfl <;> rfl
 have lk:∀H,lockH H [V.int 1,ay (n+1)]=H:=fun _=>rfl;have su:∀es f ρ H,sunl es [V.int 1,ay (n+1)] (some (f,ρ,H))=some (f,ρ,H):=fun _ _ _ _=>rfl;have e5:eC .reverse (.ref H.nxt) [] H'=some (.none,setObj H' H.nxt (.list (f.map z1).reverse)):=by
  unfold eC;rw[C'.lf.own];show guard' (lenOk (f.map z1)) (some (V.none,setObj H' H.nxt (.list (f.map z1).reverse)))=_;have fY:f.length<=1000:=by
   have:=Yt _ _ _ _ hf;rw[k9]at this;rw[this];show 1+n<=_
   lia
  rw[cW (by rw[aJ];lia)];rfl
 have uj:fR .reverse (own H' (.ref H.nxt))=true:=by rw[C'.lf.own];rfl
 have Iz:aq (setObj H' H.nxt (.list (f.map z1).reverse)) H.nxt (f.map z1).reverse:=C'.lf.fW;have HO:H.nxt<=H'.nxt:=Nat.le_of_lt (cP C'.wf C'.lf);refine⟨⟨H'.nxt,dropNew H.nxt (setObj H' H.nxt (.list (f.map z1).reverse)).es⟩,?_,fun e m=>Nat.lt_of_lt_of_le (k7 m).2 HO,fun i e h=>?_⟩
 rotate_left
 ·have hi:=cP w h;refine(tF hi).trans ((eH (eV hi)).trans (K' i e (fD w h) (eV hi)))
 have dF:∀{B:Type} {o:bq} {f:V->Hp->Option B} {H:Hp},ob (some (newObj H o)) f=f (.ref H.nxt) (newObj H o).2:=rfl;unfold rN Ja Jc;rw[hO];unfold ub at el;simp only[rep0,rep1]at el;rw[aN];simp only[cg,jB,bo,bj,bA,rep0,rep1,bg,bh,bk,aG,e1,aY,aZ,aS,bc];rw[aN];simp only[jF,cH,fK,mF,cD,bo,bj,bA,bg,bh,bk,fN,aG,s1,e2,e3,tR,aS,bc];rw[aN];simp only[gM,fk,fg,cH,cD,bo,bj,bA,bg,bh,bk,aG,dF,GV hn,jo,gV,aY,aZ,aS,bc];rw[aN];simp only[kU,gn,cD,bo,bj,bA,bg,bh,bk,aG,e4,it,lk];rw[show V.tup [V.int 1,V.int 1]=z1 1 from rfl];rw[el];simp! only[su,uj,e5];show some (freezeV (setObj H' H.nxt (.list (f.map z1).reverse)).es H.nxt 3 (.ref H.nxt),(⟨H'.nxt,_⟩:Hp))=_;rw[j6 Iz (cx _)];have Cd:∀(l:List Int) (es:List Ent),(l.map z1).map (freezeV es H.nxt 2)=l.map z1:=by
  intro l es;clear dF HO Iz uj e5 su lk it e4 e3 e2 e1 hU s1 K' C' el C qX fG hf jC R hA w hn;induction l with
  |nil=>rfl
  |cons a l ih=>rw[aO,aO,ih,still_z1]
 rw[<- List.map_reverse,Cd]
end
end
section
open PySem
structure Bx (B I k:Nat) (l:List Int) (H:Hp):Prop where
 wf:WF H
 ne:B≠I
 b:aq H B [.ref I,.int (.ofNat k)]
 i:aq H I (l.map V.int)
 len:l.length<=1000
section
variable {H:Hp}
theorem Bx.leave(b:Bx B I k l H')(hB:B<n)(hI:I<n)(hm:n<=m):Bx B I k l ⟨m,dropNew n H'.es⟩:=
 ⟨fun e me=>Nat.lt_of_lt_of_le (k7 me).2 hm,b.ne,(tF hB).trans b.b,(tF hI).trans b.i,b.len⟩
theorem Bx.new(b:Bx B I k l H)(o:bq):Bx B I k l (newObj H o).2:=⟨b.wf.new,b.ne,b.b.new b.wf,b.i.new b.wf,b.len⟩
theorem Bx.setB(b:Bx B I k l H)(k':Nat):Bx B I k' l (setObj H B (.list [.ref I,.int (.ofNat k')])):=⟨b.wf.set,b.ne,b.b.fW,b.i.set b.ne.symm,b.len⟩
theorem Bx.Rw(b:Bx B I k l H)(l':List Int)(h:l'.length<=1000):Bx B I k l' (setObj H I (.list (l'.map V.int))):=⟨b.wf.set,b.ne,b.b.set b.ne,b.i.fW,h⟩
theorem FZ(l:List Int):resL (res H (k+1)) (l.map V.int)=some (l.map V.int):=by
 induction l with
 |nil=>
  exact rfl
 |cons a l ih=>
  show(match resL (res H (k+1)) (l.map V.int)with
   |some s=>some (V.int a::s)
   |none=>none)=_
  rw[ih];rfl
theorem YE{I j:Nat}{l:List Int}(h1:aq H I (l.map V.int))(h2:aq H j []):bu .NotEq (.ref I) (.ref j) H=some (match l with|[]=>false|_::_=>true):=by
 have e1:res H 7 (.ref I)=some (.lst (l.map V.int)):=by
  show resR (res H 6) (look H.es I)=_;rw[show look H.es I=_ from h1];show mkL (resL (res H 6) (l.map V.int))=_;rw[FZ (k:=5)];rfl
 have e2:res H 7 (.ref j)=some (.lst []):=by
  show resR (res H 6) (look H.es j)=_;rw[show look H.es j=_ from h2];rfl
 show jG (match res H 7 (.ref I)with
  |some a=>match res H 7 (.ref j)with
   |some b=>some (teq deepN a b)
   |none=>none
  |none=>none)=_
 rw[e1,e2];clear e2 e1 h2;induction l using aM <;> rfl
theorem OP{x:Int}{m:Nat}(hm:0<m):∃r,r<m/\x.fmod (Int.ofNat m)=Int.ofNat r:=by
 refine⟨(x.fmod (Int.ofNat m)).toNat,?_,?_⟩
 ·have h1:=Int.fmod_lt_of_pos x (b:=(m:Int)) (by lia);have h2:=Int.fmod_nonneg_of_pos x (b:=(m:Int)) (by lia);show(x.fmod (m:Int)).toNat<m;exact(fun{n} {z} h=>(Int.toNat_lt h).mpr) h2 h1
 ·have h2:=Int.fmod_nonneg_of_pos x (b:=(m:Int)) (by lia);show x.fmod (m:Int)=((x.fmod (m:Int)).toNat:Int);exact(fun{a}=>Int.eq_natCast_toNat.mpr) h2
theorem kF(b:Bx B I k l H)(hk:k<=100)(hm:0<m):∃r l' H',r<m/\dD [.ref B,ay m] H=some (ay r,H')/\Bx B I (k+1) l' H'/\H.nxt<=H'.nxt:=by
 have hB:=cP b.wf b.b;have hI:=cP b.wf b.i;have e0:=jz (i:=1) b.b (by show 2<=100000;decide) rfl;have e1:∀H,binOp .Add (V.int (.ofNat k)) (V.int 1) H=some (V.int (.ofNat (k+1)),H):=fun _=>rfl;have e2:jb H (.ref B) (V.int 1) (V.int (.ofNat (k+1)))=some (setObj H B (.list [.ref I,.int (.ofNat (k+1))])):=by
  unfold jb;rw[b.b.own];rfl
 have b1:=b.setB (k+1);have e3:=jz (i:=0) b1.b (by show 2<=100000;decide) rfl;have b2:=b1.new (.list []);have e4:=YE b2.i (aq.c8 (H:=setObj H B (.list [.ref I,.int (.ofNat (k+1))])) (l:=[]));have Kk:∀x H,∃r,r<m/\binOp .Mod (V.int x) (ay m) H=some (ay r,H):=fun x H=>by
  exists ae (OP (x:=x) hm),r,hr,e;refine⟨r,hr,?_⟩;show guard' (!ieq (Int.ofNat m) 0) (some (V.int (x.fmod (Int.ofNat m)),H))=_;have:ieq (Int.ofNat m) 0=false:=by rw[ieq_eq];simp;exact Nat.ne_zero_of_lt hm
  rw[this,e];rfl
 have dF:∀{B:Type} {o:bq} {f:V->Hp->Option B} {H:Hp},ob (some (newObj H o)) f=f (.ref H.nxt) (newObj H o).2:=rfl;clear b1 hm;induction l using aM with
 |cons x l=>
  have e5:=jz (i:=0) b2.b (by show 2<=100000;decide) rfl;have e6:eC .pop0 (.ref I) [V.int 0] (newObj (setObj H B (.list [.ref I,.int (.ofNat (k+1))])) (.list [])).2=some (V.int x,setObj (newObj (setObj H B (.list [.ref I,.int (.ofNat (k+1))])) (.list [])).2 I (.list (l.map V.int))):=by
   unfold eC;rw[b2.i.own];show guard' (band true (lenOk (l.map V.int))) _=_;have hl:=b.len;have hl:l.length+1<=1000:=hl;rw[cW (by rw[aJ];lia)];rfl
  have SN:fR .pop0 (own (newObj (setObj H B (.list [.ref I,.int (.ofNat (k+1))])) (.list [])).2 (.ref I))=true:=by rw[b2.i.own];rfl
  have b3:=b2.Rw l (by have hl:l.length+1<=1000:=b.len;exact fh hl);exists ae (Kk x (setObj (newObj (setObj H B (.list [.ref I,.int (.ofNat (k+1))])) (.list [])).2 I (.list (l.map V.int)))),r,hr,e7;refine⟨r,l,⟨H.nxt+1,dropNew H.nxt (setObj (newObj (setObj H B (.list [.ref I,.int (.ofNat (k+1))])) (.list [])).2 I (.list (l.map V.int))).es⟩,hr,?_,b3.leave hB hI (eZ _),eZ _⟩;unfold dD AU Cr;rw[dQ];simp only[aG,fx,aS,bk,fN,Ci,cD,bo,gn,Bi,yg,yi,xe,yS,pB,nX,Bq,yH,Ao,pe,wH,xm,oQ,nW,fK,z5,cH,jB,kI,mF,qN,C0,fk,fg,tv,gw,zo,bj,bA,bc,yX,l8,gj,aN,cg,gM,gV,vt,uB,rp,qU,jF,uc,iO,hX,o9,kU,iU,Aa,jI,mZ,zA,nP,tA,AX,fz,lY,sD,jo,lx,bg,bh,aY,aZ,gh,gF,lR,pZ,AB,mw,rH,A4,tM,uh,ifGo_f,dO,xv,jJ,uL,yU,jh,Nat.zero_add,Nat.reduceAdd,rep0,rep1,show(V.int 1)=V.int (.ofNat 1)from rfl,show(V.int 0)=V.int (.ofNat 0)from rfl]at *;simp! only[e0,e1,e2,e3,dF,e4,e5,e6,SN,e7];rfl
 |nil=>
  have e5:=jz (i:=1) b2.b (by show 2<=100000;decide) rfl;have m1:∀H,binOp .Mult (V.int 5) (V.int (.ofNat (k+1))) H=some (V.int (5 * .ofNat (k+1)),H):=fun H=>fm dq (by show k+1<=_;lia);have m2:∀H,binOp .FloorDiv (V.int (.ofNat (k+1))) (V.int 3) H=some (V.int ((Int.ofNat (k+1)).fdiv 3),H):=fun H=>qB dq (by show k+1<=_;lia) dq;exists ae (Kk (5 * .ofNat (k+1)+(Int.ofNat (k+1)).fdiv 3) (newObj (setObj H B (.list [.ref I,.int (.ofNat (k+1))])) (.list [])).2),r,hr,e7;refine⟨r,[],⟨H.nxt+1,dropNew H.nxt (newObj (setObj H B (.list [.ref I,.int (.ofNat (k+1))])) (.list [])).2.es⟩,hr,?_,b2.leave hB hI (eZ _),eZ _⟩;unfold dD AU Cr;rw[dQ];simp only[aG,fx,aS,bk,fN,Ci,cD,bo,gn,Bi,yg,yi,xe,yS,pB,nX,Bq,yH,Ao,pe,wH,xm,oQ,nW,fK,z5,cH,jB,kI,mF,qN,C0,fk,fg,tv,gw,zo,bj,bA,bc,yX,l8,gj,aN,cg,gM,gV,vt,uB,rp,qU,jF,uc,iO,hX,o9,kU,iU,Aa,jI,mZ,zA,nP,tA,AX,fz,lY,sD,jo,lx,bg,bh,aY,aZ,gh,gF,lR,pZ,AB,mw,rH,A4,tM,uh,ifGo_f,dO,xv,jJ,uL,yU,jh,Nat.zero_add,Nat.reduceAdd,rep0,rep1,show(V.int 1)=V.int (.ofNat 1)from rfl,show(V.int 0)=V.int (.ofNat 0)from rfl]at *;simp! only[e0,e1,e2,e3,dF,e4,e5,m1,m2,qk,e7];rfl
end
end
section
open PySem
noncomputable abbrev Tn:=Nat×Nat×Int
def pv(t:Tn):V:=.tup [encM t.1 t.2.1,.int t.2.2]
noncomputable def polyG:List Tn->Po->Po
 |[],acc=>acc
 |t::r,acc=>match isZ' t.2.2 with
  |true=>polyG r acc
  |false=>polyG r (setT acc ⟨t.1,t.2.1,t.2.2,1⟩)
def fP(t:Tn):List V:=match isZ' t.2.2 with
 |true=>[]
 |false=>[.tup [encM t.1 t.2.1,aW t.2.2 1]]
section
variable {H:Hp}
theorem OM(ts:List Tn):∀(acc:Po),pairsOf (ts.flatMap fP) (aj acc)=some (aj (polyG ts acc)):=by
 induction ts with
 |nil=>
  intro _;exact rfl
 |cons t r ih=>
  intro acc;rw[iT];dsimp only[polyG,fP]
  induction isZ' t.2.2 using aB with
  |true=>exact ih acc
  |false=>
   show pairsOf (r.flatMap fP) (dset (aj acc) (bU t.1 t.2.1) (aW t.2.2 1))=_;rw[td];exact ih _
theorem Lp(ts:List Tn):(ts.flatMap fP).length<=ts.length:=by
 induction ts with
 |nil=>
  exact cx _
 |cons t r ih=>
  rw[iT,d8];have:=ih;have h1:(fP t).length<=1:=by
   unfold fP
   induction isZ' t.2.2 using aB with
   |true=>exact f6 1
   |false=>exact cx 1
  show _<=r.length+1
  lia
theorem Ng:bu .NotEq (V.int n) (V.int 0) H=some (!isZ' n):=by
 show some (!ieq n 0)=_;rw[ieq_eq,qA]
theorem xj(w:WF H)(hP:aq H P (ts.map pv))(hl:ts.length<=1000):∃H',ju [.ref P] H=some (.dct (aj (polyG ts [])),H')/\WF H'/\cp H H'/\H.nxt<=H'.nxt:=by
 have Di:=cP w hP;obtain⟨nx,es⟩:=H;have Di:P<nx:=Di;have fY:=Lp ts;have this:=dK (k:=nx) (n:=nx+1) (es:=put es P true (.list (ts.map pv))) (enc:=pv) (f:=turn (den 17) [2,3] true [.cmp .NotEq (.var 3) (.const (.int 0))] (ck nx (.tup [.var 2,.tup [.var 3,.const (.int 1)]]) (den 17)) (some (.ref P)::none::none::none::cq 10 none)) fP ts [] (fun t m acc ha=>by
  unfold fP pv;simp only[tM,fK,bo,cD,aY,aZ,bg,bh,bk,aG,Ng,fN,fx]
  induction isZ' t.2.2 using aB with
  |true=>simp only[Bool.not_true,ifGo_f,g4]
  |false=>
   simp! only[Bool.not_false,uh];exact dg ha) (by show 0+_<=_;lia)
 rw[dp]at this;have key:=mR (o:=.list (ts.map pv)) hP (show nx≠P by lia) this;have e1:cw .dict [V.ref nx] ⟨nx+1,⟨nx,false,.list (ts.flatMap fP)⟩::es⟩=some (newObj ⟨nx+1,⟨nx,false,.list (ts.flatMap fP)⟩::es⟩ (.dict (aj (polyG ts [])))):=by
  have lk:aq ⟨nx+1,⟨nx,false,.list (ts.flatMap fP)⟩::es⟩ nx (ts.flatMap fP):=aq.hd;have h1:dictView ⟨nx+1,⟨nx,false,.list (ts.flatMap fP)⟩::es⟩ (.ref nx)=none:=by
   show(match look _ nx with|some e=>(match e.obj with|.dict l=>some l|.list _=>none)|none=>none)=_
   rw[show look _ nx=_ from lk]
  show(match dictView _ (V.ref nx)with
   |some l=>guard' (band (lenOk l) (smallKeys l)) (some (newObj _ (.dict l)))
   |none=>match listView _ (V.ref nx)with
    |some l=>guard' (lenOk l) (vp (pairsOf l []) _)
    |none=>none)=_
  rw[h1,lk.view];dsimp only;rw[cW (by lia),show pairsOf (ts.flatMap fP) []=_ from OM ts []];rfl
 refine⟨⟨nx+2,dropNew nx (newObj ⟨nx+1,⟨nx,false,.list (ts.flatMap fP)⟩::es⟩ (.dict (aj (polyG ts [])))).2.es⟩,?_,fun e m=>Nat.lt_of_lt_of_le (k7 m).2 (Nat.le_add_right _ _),fun i e h=>?_,Nat.le_add_right _ _⟩
 ·unfold ju Kh Hz;rw[hO];simp only[rep0,rep1]at key;rw[aN];simp only[iU,jB,gw,bo,bj,bA,rep0,rep1,bg,bh,bk,aG,lI hP,gh,gF,aY,aZ,dO,uL];rw[key];simp only[aG,e1,jh,aS,l8,pZ];show some (freezeV _ nx 3 (.ref (nx+1)),(⟨nx+2,_⟩:Hp))=_;rw[AP (l:=aj (polyG ts [])) iC (eZ _)]
 ·have hi:i<nx:=cP w h;refine(tF hi).trans ?_;show look (⟨nx+1,false,_⟩::⟨nx,false,_⟩::es) i=_;rw[dm (Ne.symm (W.ktu_ne 1 hi)),dm (Ne.symm (eV hi))];exact h
end
end
section
open PySem
noncomputable abbrev Zs:=List (Int×Int)
noncomputable def zv(z:Int×Int):V:=.tup [.int z.1,.int z.2]
def mU(a b:Int):List Po:=[polyG [(2,0,1),(1,0,0 - a)] [],polyG [(1,1,1),(0,0,0)] [],polyG [(0,2,1),(0,1,0 - b)] []]
noncomputable def ni(a b:Int):Zs:=[(0,0),(a,0),(0,b)]
def mQ(a b c d:Int):List Po:=[polyG [(2,0,1),(1,0,0 - a - b),(0,0,a * b)] [],polyG [(0,1,1),(1,0,0 - d),(0,0,0 - c)] []]
noncomputable def lS(a b c d:Int):Zs:=[(a,c+d * a),(b,c+d * b)]
def qH(s:List Po)(z:Zs):V:=.tup [.lst (ar s),.lst (z.map zv)]
def rv(t:Tn×Tn):V:=.tup [encM t.1.1 t.1.2.1,.int t.1.2.2,encM t.2.1 t.2.2.1,.int t.2.2.2]
def JH(t:Tn×Tn):Po:=polyG [t.1,t.2] []
def zl:List MS:=[(.assign 4 (.list [(.tup [(.tup [(.const (.int 2)),(.const (.int 0))]),(.const (.int 1)),(.tup [(.const (.int 1)),(.const (.int 0))]),(.bin .Sub (.const (.int 0)) (.var 2))]),(.tup [(.tup [(.const (.int 1)),(.const (.int 1))]),(.const (.int 1)),(.tup [(.const (.int 0)),(.const (.int 0))]),(.const (.int 0))]),(.tup [(.tup [(.const (.int 0)),(.const (.int 2))]),(.const (.int 1)),(.tup [(.const (.int 0)),(.const (.int 1))]),(.bin .Sub (.const (.int 0)) (.var 3))])])),(.assign 5 (.lcomp [9,10,11,12,13] (.call ju [(.list [(.tup [(.var 10),(.var 11)]),(.tup [(.var 12),(.var 13)])])]) [([10,11,12,13],true,.seq,[(.var 4)],[])])),(.ret (.tup [(.var 5),(.list [(.tup [(.const (.int 0)),(.const (.int 0))]),(.tup [(.var 2),(.const (.int 0))]),(.tup [(.const (.int 0)),(.var 3)])])]))]
def BZ:List MS:=[(.unpack [6,7] (.tup [(.bin .Sub (.call dD [(.var 0),(.const (.int 3))]) (.const (.int 1))),(.bin .Sub (.call dD [(.var 0),(.const (.int 3))]) (.const (.int 1)))])),(.assign 8 (.call ju [(.list [(.tup [(.tup [(.const (.int 2)),(.const (.int 0))]),(.const (.int 1))]),(.tup [(.tup [(.const (.int 1)),(.const (.int 0))]),(.bin .Sub (.bin .Sub (.const (.int 0)) (.var 2)) (.var 3))]),(.tup [(.tup [(.const (.int 0)),(.const (.int 0))]),(.bin .Mult (.var 2) (.var 3))])])])),(.ret (.tup [(.list [(.var 8),(.call ju [(.list [(.tup [(.tup [(.const (.int 0)),(.const (.int 1))]),(.const (.int 1))]),(.tup [(.tup [(.const (.int 1)),(.const (.int 0))]),(.bin .Sub (.const (.int 0)) (.var 7))]),(.tup [(.tup [(.const (.int 0)),(.const (.int 0))]),(.bin .Sub (.const (.int 0)) (.var 6))])])])]),(.list [(.tup [(.var 2),(.bin .Add (.var 6) (.bin .Mult (.var 7) (.var 2)))]),(.tup [(.var 3),(.bin .Add (.var 6) (.bin .Mult (.var 7) (.var 3)))])])]))]
section
variable {H:Hp}
theorem Yr:turn dn [i,j,k,l] true [] go ρ (.tup [a,b,c,d]) H=go (slotS (slotS (slotS (slotS ρ i (some a)) j (some b)) k (some c)) l (some d)) H:=rfl
theorem KV:Still (zv z):=fun es n0 k=>by
 induction k using bL with
 |zero=>rfl
 |succ k=>induction k using bL <;> rfl
theorem aaH(z:Zs):(z.map zv).map (freezeV es n0 k)=z.map zv:=by
 induction z with
 |nil=>
  exact rfl
 |cons a z ih=>
  rw[aO,aO,KV,ih]
theorem Fw(h1:aq H' S (ar s))(h2:aq H' Z (z.map zv))(hS:n0<=S)(hZ:n0<=Z):freezeV H'.es n0 3 (.tup [.ref S,.ref Z])=qH s z:=by
 show V.tup [freezeV H'.es n0 2 (.ref S),freezeV H'.es n0 2 (.ref Z)]=_;rw[j6 h1 hS,j6 h2 hZ,u7,aaH];rfl
theorem Vh(X:Bx B I k l H)(hn:n0<=H.nxt):∃ρ H',denSs (denS 19) zl (some (.ref B)::some (.int 1)::some (.int a)::some (.int b)::none::none::none::none::none::none::none::none::none::none::r) H=some (.ret (.tup [.ref (H.nxt+1),.ref H'.nxt]),ρ,(newObj H' (.list ((ni a b).map zv))).2)/\
  Bx B I k l H'/\aq H' (H.nxt+1) (ar (mU a b))/\H.nxt+2<=H'.nxt:=by
 have w1:=X.wf.new (o:=.list ([((2,0,1),(1,0,0 - a)),((1,1,1),(0,0,0)),((0,2,1),(0,1,0 - b))].map rv));have cN:aq (newObj H (.list ([((2,0,1),(1,0,0 - a)),((1,1,1),(0,0,0)),((0,2,1),(0,1,0 - b))].map rv))).2 H.nxt ([((2,0,1),(1,0,0 - a)),((1,1,1),(0,0,0)),((0,2,1),(0,1,0 - b))].map rv):=aq.c8;clear hn;obtain⟨vs,H',a1,a2,a3,a4,a5,a6⟩:=Dh (H:=(newObj H (.list ([((2,0,1),(1,0,0 - a)),((1,1,1),(0,0,0)),((0,2,1),(0,1,0 - b))].map rv))).2) (c:=H.nxt) cN (enc:=rv) (f:=turn (den 17) [10,11,12,13] true [] (ck (H.nxt+1) (.call ju [(.list [(.tup [(.var 10),(.var 11)]),(.tup [(.var 12),(.var 13)])])]) (den 17)) (some (.ref B)::some (.int 1)::some (.int a)::some (.int b)::some (.ref H.nxt)::none::none::none::none::none::none::none::none::none::r))
  (fun t v _=>v = .dct (aj (JH t))) (fun _ _ _ _ h _=>h) (fun _ _ _ _ h _=>h) (fun _=>True) (fun _ _ _ _=>trivial) (fun _ _=>trivial) w1 [((2,0,1),(1,0,0 - a)),((1,1,1),(0,0,0)),((0,2,1),(0,1,0 - b))] (by show 3<=_;decide) (fun t mt H1 acc CZ lk _ rX=>by
   have Uk:aq (newObj H1 (.list ([t.1,t.2].map pv))).2 H1.nxt ([t.1,t.2].map pv):=aq.c8;clear rX lk mt cN w1 X;obtain⟨H2,b1,b2,b3,b4⟩:=xj (CZ.new (o:=.list ([t.1,t.2].map pv))) Uk (by show 2<=_;decide);refine⟨_,H2,?_,b2,br (eZ _) b4,(cp.new CZ).trans b3,rfl⟩;have dF:∀{B:Type} {o:bq} {f:V->Hp->Option B} {H:Hp},ob (some (newObj H o)) f=f (.ref H.nxt) (newObj H o).2:=rfl;unfold rv;simp only[Yr,aY,aZ,dO,jJ,cH,fg,fk,bo,bj,bA,bg,bh,bk,aG,dF];rw[show[V.tup [encM t.1.1 t.1.2.1,V.int t.1.2.2],V.tup [encM t.2.1 t.2.2.1,V.int t.2.2.2]]=[t.1,t.2].map pv from rfl,b1];rfl)
 have hv:=JY (g:=fun t=>V.dct (aj (JH t))) a6;have hs:vs=ar (mU a b):=hv;rw[hs]at a4;have X':Bx B I k l H':=⟨a2,X.ne,a5 _ _ (X.b.new X.wf),a5 _ _ (X.i.new X.wf),X.len⟩;refine⟨some (.ref B)::some (.int 1)::some (.int a)::some (.int b)::some (.ref H.nxt)::some (.ref (H.nxt+1))::none::none::none::none::none::none::none::none::r,H',?_,X',a4,a3⟩;have dF:∀{B:Type} {o:bq} {f:V->Hp->Option B} {H:Hp},ob (some (newObj H o)) f=f (.ref H.nxt) (newObj H o).2:=rfl;have hr:∀(x y:Int),[V.tup [V.tup [V.int 2,V.int 0],V.int 1,V.tup [V.int 1,V.int 0],V.int x],V.tup [V.tup [V.int 1,V.int 1],V.int 1,V.tup [V.int 0,V.int 0],V.int 0],V.tup [V.tup [V.int 0,V.int 2],V.int 1,V.tup [V.int 0,V.int 1],V.int y]]=[((2,0,1),(1,0,x)),((1,1,1),(0,0,0)),((0,2,1),(0,1,y))].map rv:=fun _ _=>rfl;unfold zl;refine aN.trans ?_;simp only[cg,fg,fk,gn,cD,bo,bj,bA,bg,bh,bk,aG,oE,dF,hr,aY,aZ,aS,bc];refine aN.trans ?_;simp only[cg,gw,bo,bj,bA,bg,bh,bk,aG,lI cN,gh,gF,aY,aZ,dO];rw[show(newObj H (.list ([((2,0,1),(1,0,0 - a)),((1,1,1),(0,0,0)),((0,2,1),(0,1,0 - b))].map rv))).2.nxt=H.nxt+1 from rfl]at a1;rw[show(newObj H (.list ([((2,0,1),(1,0,0 - a)),((1,1,1),(0,0,0)),((0,2,1),(0,1,0 - b))].map rv))).2.nxt=H.nxt+1 from rfl,a1];simp only[aG,aY,aZ,aS,bc];refine aN.trans ?_;simp only[iU,fg,fk,cD,bo,bj,bA,bg,bh,bk,aG,dF,aS,l8];rfl
theorem Oq(X:Bx B I k l H)(hk:k<=90)(ha:a.natAbs<=2)(hb:b.natAbs<=2)(hn:n0<=H.nxt) :
  ∃c d l' S H' ρ,c<3/\d<3/\denSs (denS 20) BZ (some (.ref B)::some x1::some (.int a)::some (.int b)::none::none::none::none::none::r) H=some (.ret (.tup [.ref S,.ref H'.nxt]),ρ,(newObj H' (.list ((lS a b (Int.ofNat c - 1) (Int.ofNat d - 1)).map zv))).2)/\
  Bx B I (k+2) l' H'/\aq H' S (ar (mQ a b (Int.ofNat c - 1) (Int.ofNat d - 1)))/\H.nxt<=S/\H.nxt<=H'.nxt:=by
 exists fO (kF X (by lia) (m:=3) dq),c,l1,H1,hc,e1,X1,n1;exists fO (kF X1 (by lia) (m:=3) dq),d,l2,H2,hd,e2,X2,n2;have w3:=X2.wf.new (o:=.list ([(2,0,1),(1,0,0 - a - b),(0,0,a * b)].map pv));clear X1 hn hk X;obtain⟨H4,e4,w4,k4,n4⟩:=xj (H:=(newObj H2 (.list ([(2,0,1),(1,0,0 - a - b),(0,0,a * b)].map pv))).2) (P:=H2.nxt) w3 aq.c8 (by show 3<=_;decide);have w5:=w4.new (o:=.list ([(0,1,1),(1,0,0 - (Int.ofNat d - 1)),(0,0,0 - (Int.ofNat c - 1))].map pv));clear w3;obtain⟨H6,e6,w6,k6,n6⟩:=xj (H:=(newObj H4 (.list ([(0,1,1),(1,0,0 - (Int.ofNat d - 1)),(0,0,0 - (Int.ofNat c - 1))].map pv))).2) (P:=H4.nxt) w5 aq.c8 (by show 3<=_;decide);have K:cp H2 H6:=((((cp.new X2.wf).trans k4).trans (cp.new w4)).trans k6);have X6:Bx B I (k+1+1) l2 H6:=⟨w6,X2.ne,K _ _ X2.b,K _ _ X2.i,X2.len⟩;have n4':H2.nxt+1<=H4.nxt:=n4;have n6':H4.nxt+1<=H6.nxt:=n6;have iW:dD [.ref B,V.int 3] H=some (ay c,H1):=e1;have iP:dD [.ref B,V.int 3] H1=some (ay d,H2):=e2;have m1:∀H,binOp .Mult (V.int a) (V.int b) H=some (V.int (a * b),H):=fun H=>fm (by lia) (by lia);have m2:∀H,binOp .Mult (V.int (Int.ofNat d - 1)) (V.int a) H=some (V.int ((Int.ofNat d - 1) * a),H):=fun H=>fm (by have:(Int.ofNat d)=(d:Int):=rfl;lia) (by lia);have m3:∀H,binOp .Mult (V.int (Int.ofNat d - 1)) (V.int b) H=some (V.int ((Int.ofNat d - 1) * b),H):=fun H=>fm (by have:(Int.ofNat d)=(d:Int):=rfl;lia) (by lia);have s1:∀n H,binOp .Sub (ay n) (V.int 1) H=some (V.int (Int.ofNat n - 1),H):=fun _ _=>rfl;have dF:∀{B:Type} {o:bq} {f:V->Hp->Option B} {H:Hp},ob (some (newObj H o)) f=f (.ref H.nxt) (newObj H o).2:=rfl;have RS:∀(x y:Int),[V.tup [V.tup [V.int 2,V.int 0],V.int 1],V.tup [V.tup [V.int 1,V.int 0],V.int x],V.tup [V.tup [V.int 0,V.int 0],V.int y]]=[(2,0,1),(1,0,x),(0,0,y)].map pv:=fun _ _=>rfl;have Vc:∀(x y:Int),[V.tup [V.tup [V.int 0,V.int 1],V.int 1],V.tup [V.tup [V.int 1,V.int 0],V.int x],V.tup [V.tup [V.int 0,V.int 0],V.int y]]=[(0,1,1),(1,0,x),(0,0,y)].map pv:=fun _ _=>rfl;refine⟨c,d,l2,H6.nxt,(newObj H6 (.list (ar (mQ a b (Int.ofNat c - 1) (Int.ofNat d - 1))))).2,some (.ref B)::some x1::some (.int a)::some (.int b)::none::none::some (.int (Int.ofNat c - 1))::some (.int (Int.ofNat d - 1))::some (.dct (aj (polyG [(2,0,1),(1,0,0 - a - b),(0,0,a * b)] [])))::r,hc,hd,?_,X6.new _,aq.c8,by lia,by show _<=H6.nxt+1;lia⟩;unfold BZ;refine aN.trans ?_;simp only[gM,fk,gn,cH,cD,bo,bj,bA,bg,bh,bk,aG,iW,iP,s1,jo,gV,aY,aZ,aS,bc];refine aN.trans ?_;simp only[cg,fg,fk,gn,cH,cD,bo,bj,bA,bg,bh,bk,aG,oE,m1,dF,RS,e4,aY,aZ,aS,bc];refine aN.trans ?_;simp only[iU,fg,fk,gn,cH,cD,bo,bj,bA,bg,bh,bk,aG,oE,qk,m2,m3,dF,Vc,e6,aS,l8];rfl
theorem aaQ(X:Bx B I k l H)(hk:k<=50):∃a b,a<5/\b<5/\
  ((∃l' H',nz [.ref B] H=some (qH (mU (Int.ofNat a - 2) (Int.ofNat b - 2)) (ni (Int.ofNat a - 2) (Int.ofNat b - 2)),H')/\Bx B I (k+3) l' H')\/
   (∃c d l' H',c<3/\d<3/\nz [.ref B] H=some (qH (mQ (Int.ofNat a - 2) (Int.ofNat b - 2) (Int.ofNat c - 1) (Int.ofNat d - 1)) (lS (Int.ofNat a - 2) (Int.ofNat b - 2) (Int.ofNat c - 1) (Int.ofNat d - 1)),H')/\Bx B I (k+5) l' H')):=by
 exists fO (kF X (by lia) (m:=2) dq),f,l1,H1,hf,e1,X1,n1;exists fO (kF X1 (by lia) (m:=5) dq),a,l2,H2,ha,e2,X2,n2;exists fO (kF X2 (by lia) (m:=5) dq),b,l3,H3,hb,e3,X3,n3;have hB:=cP X.wf X.b;have hI:=cP X.wf X.i;have iW:dD [.ref B,V.int 2] H=some (ay f,H1):=e1;have iP:dD [.ref B,V.int 5] H1=some (ay a,H2):=e2;have pO:dD [.ref B,V.int 5] H2=some (ay b,H3):=e3;have s1:∀n H,binOp .Sub (ay n) (V.int 2) H=some (V.int (Int.ofNat n - 2),H):=fun _ _=>rfl;have s2:∀n H,binOp .Sub (V.int 1) (ay n) H=some (V.int (1 - Int.ofNat n),H):=fun _ _=>rfl;refine⟨a,b,ha,hb,?_⟩;clear e3 X2 e2 X1 e1 X;rcases (show f=0\/f=1 by lia)with rfl|rfl
 ·left;exists ko (Vh (n0:=H.nxt) (a:=Int.ofNat a - 2) (b:=Int.ofNat b - 2) (r:=cq 8 none) X3 (by lia)),ρ,H',a1,a2,a3,a4;have z3:=a2.new (.list ((ni (Int.ofNat a - 2) (Int.ofNat b - 2)).map zv));refine⟨l3,⟨H'.nxt+1,dropNew H.nxt (newObj H' (.list ((ni (Int.ofNat a - 2) (Int.ofNat b - 2)).map zv))).2.es⟩,?_,z3.leave hB hI (by lia)⟩;unfold nz zw wM;rw[hO,aN];unfold zl at a1;simp only[rep0,rep1]at a1;simp only[gM,fk,gn,cH,cD,bo,bj,bA,rep0,rep1,bg,bh,bk,aG,iW,iP,pO,s1,s2,lx,gV,aY,aZ,aS,bc];rw[aN];rw[show(1 - Int.ofNat 0)=1 from rfl];simp only[hX,fK,cD,bo,bg,bh,bk,aG,show ∀H,bu .Eq (V.int 1) (V.int 1) H=some true from fun _=>rfl,fN,fx,uc];rw[a1];simp only[aS,l8,pZ];show some (freezeV _ H.nxt 3 (.tup [.ref (H3.nxt+1),.ref H'.nxt]),(⟨H'.nxt+1,_⟩:Hp))=_;rw[Fw (a3.new a2.wf) aq.c8 (by lia) (by lia)]
 ·right;clear hf;obtain⟨c,d,l4,S,H',ρ,hc,hd,a1,a2,a3,a4,a5⟩:=Oq (n0:=H.nxt) (x1:=.int 0) (a:=Int.ofNat a - 2) (b:=Int.ofNat b - 2) (r:=cq 13 none) X3 (by lia) (by have:(Int.ofNat a)=(a:Int):=rfl;lia) (by have:(Int.ofNat b)=(b:Int):=rfl;lia) (by lia);have z3:=a2.new (.list ((lS (Int.ofNat a - 2) (Int.ofNat b - 2) (Int.ofNat c - 1) (Int.ofNat d - 1)).map zv));refine⟨c,d,l4,⟨H'.nxt+1,dropNew H.nxt (newObj H' (.list ((lS (Int.ofNat a - 2) (Int.ofNat b - 2) (Int.ofNat c - 1) (Int.ofNat d - 1)).map zv))).2.es⟩,hc,hd,?_,z3.leave hB hI (by lia)⟩;unfold nz zw wM;rw[hO,aN];unfold BZ at a1;simp only[rep0,rep1]at a1;simp only[gM,fk,gn,cH,cD,bo,bj,bA,rep0,rep1,bg,bh,bk,aG,iW,iP,pO,s1,s2,lx,gV,aY,aZ,aS,bc];rw[aN];rw[show(1 - Int.ofNat 1)=0 from rfl];simp only[hX,fK,cD,bo,bg,bh,bk,aG,show ∀H,bu .Eq (V.int 0) (V.int 1) H=some false from fun _=>rfl,fN,fx,iO,gj,aS,bc];rw[a1];simp only[pZ];show some (freezeV _ H.nxt 3 (.tup [.ref S,.ref H'.nxt]),(⟨H'.nxt+1,_⟩:Hp))=_;rw[Fw (a3.new a2.wf) aq.c8 (by lia) (by lia)]
end
end
section
open PySem
noncomputable def C3(u v:Int)(row:List Int)(a:Nat×Int):Int:=match row[a.1]? with
 |some y=>u * a.2+v * y
 |none=>0
def J2(u v:Int)(row:List Int)(a:Nat×Int):Bool:=match row[a.1]? with
 |some y=>match bndZ a.2 with
  |true=>bndZ y
  |false=>false
 |none=>false
def wj(u v:Int)(f2:List (List Int))(a:Nat×List Int):List Int:=match f2[a.1]? with
 |some row=>(dI 0 a.2).map (C3 u v row)
 |none=>[]
def bothRowOk(u v:Int)(f2:List (List Int))(a:Nat×List Int):Bool:=match f2[a.1]? with
 |some row=>match b8 a.2.length 500 with
  |true=>match b8 row.length 500 with
   |true=>allB (J2 u v row) (dI 0 a.2)
   |false=>false
  |false=>false
 |none=>false
def Dj(u v:Int)(f1 f2:List (List Int)):List (List Int):=(enumM 0 f1).map (wj u v f2)
def Ck(u v:Int)(f1 f2:List (List Int)):Option (List (List Int)):=match b8 f1.length 500 with
 |true=>match b8 f2.length 500 with
  |true=>match allB (bothRowOk u v f2) (enumM 0 f1)with
   |true=>some (Dj u v f1 f2)
   |false=>none
  |false=>none
 |false=>none
def xp(a:Nat×List Int):V:=.tup [ay a.1,cj a.2]
theorem QI(r:List (List Int)):∀(i:Nat),enumL (Int.ofNat i) (r.map cj)=(enumM i r).map xp:=by
 induction r with
 |nil=>
  intro _;exact rfl
 |cons p r ih=>
  intro i;show V.tup [ay i,cj p]::enumL (Int.ofNat (i+1)) (r.map cj)=_;rw[ih (i+1)];rfl
noncomputable def qK:ME:=(.lcomp [18,19,20] (.tup [(.bin .Add (.bin .Mult (.var 5) (.var 20)) (.bin .Mult (.var 6) (.sub (.sub (.var 10) (.var 16)) (.var 19)))),(.const (.int 1))]) [([19,20],true,.enum,[(.var 17)],[])])
def tV:ME:=(.lcomp [15,16,17] qK [([16,17],true,.enum,[(.var 9)],[])])
section
variable {H:Hp}
set_option tactic.hygienic true in
theorem aaa(hu:bndZ u=true)(hv:bndZ v=true)(hb:f2.length<=500)(h:bothRowOk u v f2 (i,row)=true) :
  den (n+10) qK (x0::x1::x2::x3::x4::some (.int u)::some (.int v)::x7::x8::x9::some (encMat f2)::x11::x12::x13::x14::x15::some (ay i)::some (cj row)::x18::x19::x20::ρ) H=some (.ref H.nxt,(newObj H (.list ((wj u v f2 (i,row)).map z1))).2):=by
 unfold bothRowOk at h;unfold wj;dsimp only at h ⊢;split at h
 rotate_left
 ·exact bf h
 rename_i yE gy;split at h
 rotate_left
 ·exact bf h
 rename_i h1;split at h
 rotate_left
 ·exact bf h
 rename_i h2;have h1:=bC h1;have h2:=bC h2;have cT:=dh h;clear h;obtain⟨nx,es⟩:=H;have it:∀H,iterOf H .enum [cj row]=some (enumL (Int.ofNat 0) (row.map V.int)):=fun _=>rfl;have e1:∀H,subs H (encMat f2) (ay i)=some (cj yE):=fun H=>GB (by lia) gy;have this:=dK (k:=nx) (n:=nx+1) (es:=es) (enc:=sL) (f:=turn (den (n+9)) [19,20] true [] (ck nx (.tup [(.bin .Add (.bin .Mult (.var 5) (.var 20)) (.bin .Mult (.var 6) (.sub (.sub (.var 10) (.var 16)) (.var 19)))),(.const (.int 1))]) (den (n+9))) (x0::x1::x2::x3::x4::some (.int u)::some (.int v)::x7::x8::x9::some (encMat f2)::x11::x12::x13::x14::x15::some (ay i)::some (cj row)::none::none::none::ρ)) (fun a=>[z1 (C3 u v yE a)]) (dI 0 row) [] (fun a m acc ha=>by
  have hk:=cT a m;unfold J2 at hk;unfold C3;split at hk
  rotate_left
  ·exact bf hk
  rename_i y hy;split at hk
  rotate_left
  ·exact bf hk
  rename_i h3;have e2:∀H,subs H (cj yE) (ay a.1)=some (V.int y):=fun H=>Gb (by lia) hy;have m1:∀H,binOp .Mult (V.int u) (V.int a.2) H=some (V.int (u * a.2),H):=fun H=>fm (br (gx hu) dq) (br (gx h3) dq);have m2:∀H,binOp .Mult (V.int v) (V.int y) H=some (V.int (v * y),H):=fun H=>fm (br (gx hv) dq) (br (gx hk) dq);unfold sL;simp! only[e1,e2,m1,m2,qk];exact dg ha) (by rw[eY,u9];show 0+_<=_;lia)
 rw[eN,dp,<- Hs]at this;have key:=jc (c:=row.map V.int) this;rw[show V.lst (row.map V.int)=cj row from rfl]at key;unfold qK;simp! only[it];rw[key,d5];rfl
theorem Ou(w:WF H)(hu:bndZ u=true)(hv:bndZ v=true)(e:Ck u v f1 f2=some m) :
  ∃js H',den (n+12) tV (x0::x1::x2::x3::x4::some (.int u)::some (.int v)::x7::x8::some (encMat f1)::some (encMat f2)::x11::x12::x13::x14::x15::x16::x17::x18::x19::x20::ρ) H=some (.ref H.nxt,H')/\
   WF H'/\H.nxt+1<=H'.nxt/\aq H' H.nxt (js.map V.ref)/\Rows H' H.nxt (H.nxt+1) js (m.map fun r=>r.map z1)/\cp H H':=by
 exists cm e,h1,e;exists cm e,h2,e;exists cm e,cT,e;have h1:=bC h1;have h2:=bC h2;have cT:=dh cT;exists e;clear e;obtain⟨vs,H',a1,a2,a3,a4,a5,a6⟩:=rD (H:=H) (enc:=xp) (vs0:=[encMat f1]) (f:=turn (den (n+11)) [16,17] true [] (ck H.nxt qK (den (n+11))) (x0::x1::x2::x3::x4::some (.int u)::some (.int v)::x7::x8::some (encMat f1)::some (encMat f2)::x11::x12::x13::x14::none::none::none::x18::x19::x20::ρ))
  (lB (H.nxt+1) H.nxt fun x=>(wj u v f2 x).map z1) (fun _ _ _ _ h k=>sU h k) (fun _=>True) (fun _ _ _ _=>trivial) w trivial (enumM 0 f1) (by rw[Hc];lia) (fun _ _=>⟨rfl,rfl⟩) (fun x mx H1 acc w1 lk _ hn=>by
   have b1:=aaa (H:=H1) (n:=n+1) (i:=x.1) (row:=x.2) (f2:=f2) hu hv h2 (cT x mx) (x0:=x0) (x1:=x1) (x2:=x2) (x3:=x3) (x4:=x4) (x7:=x7) (x8:=x8) (x9:=some (encMat f1)) (x11:=x11) (x12:=x12) (x13:=x13) (x14:=x14) (x15:=none) (x18:=x18) (x19:=x19) (x20:=x20) (ρ:=ρ);refine⟨.ref H1.nxt,_,?_,w1.new,eZ _,cp.new w1,H1.nxt,rfl,hn,by exact Ne.symm (eV hn),aq.c8⟩;unfold xp;simp only[rH,aY,aZ,dO,jJ];rw[show n+1+10=n+11 from rfl]at b1;rw[b1,aG])
 exists ae (rP a6),js,e1,R;clear a6 cT h2 h1 hv hu w;subst e1;have it:∀H,iterOf H .enum [encMat f1]=some (enumL (Int.ofNat 0) (f1.map cj)):=fun _=>rfl;refine⟨js,H',?_,a2,a3,a4,?_,a5⟩
 ·unfold tV;simp only[gw,bo,bj,bA,bg,bh,bk,aG,it,gh,gF,aY,aZ,dO];rw[QI];exact a1
 ·unfold Dj;rw[d5];exact R
end
end
section
open PySem
theorem aaY(h:a≠b)(es:List Ent):put (put es a x o) b y p=put (put es b y p) a x o:=by
 induction es with
 |nil=>rfl
 |cons e0 r ih=>
  obtain⟨i,l,q⟩:=e0;by_cases e:i=a
  ·clear ih;subst e;rw[jd,eQ h,eQ h,jd]
  ·by_cases e2:i=b
   ·clear h ih;subst e2;rw[eQ e,jd,jd,eQ e]
   ·rw[eQ e,eQ e2,eQ e2,eQ e,ih]
section
variable {H:Hp}
theorem Zt(ha:look es a=some ⟨a,false,oa⟩)(hb:look es b=some ⟨b,false,lD⟩)(gO:a≠b)(r9:k≠a)(tb:k≠b)
  (h:forItems f items ⟨n,⟨k,false,.list []⟩::put (put es a true oa) b true lD⟩=some ⟨n,⟨k,false,.list l⟩::put (put es a true oa) b true lD⟩) :
  compGo k f items [.ref a,.ref b] ⟨n,⟨k,false,.list []⟩::es⟩=some (.ref k,⟨n,⟨k,false,.list l⟩::es⟩):=by
 have kQ:look (put es a true oa) b=some ⟨b,false,lD⟩:=(eH gO.symm).trans hb;have hl:lockH ⟨n,⟨k,false,.list []⟩::es⟩ [.ref a,.ref b]=⟨n,⟨k,false,.list []⟩::put (put es a true oa) b true lD⟩:=by
  show(⟨n,cN (cN (⟨k,false,.list []⟩::es) (.ref a)) (.ref b)⟩:Hp)=_;rw[vR ((dm r9).trans ha),eQ r9,vR ((dm tb).trans kQ),eQ tb]
 have ha2:look (put (put es a true oa) b true lD) a=some ⟨a,true,oa⟩:=(eH gO).trans (m7 ha);have kq:look (put (put es a true oa) b true lD) b=some ⟨b,true,lD⟩:=m7 kQ;show dC k (unlH (⟨k,false,.list []⟩::es) [.ref a,.ref b] (forItems f items (lockH ⟨n,⟨k,false,.list []⟩::es⟩ [.ref a,.ref b])))=_;rw[hl,h];show dC k (some ⟨n,gT (⟨k,false,.list []⟩::es) (gT (⟨k,false,.list []⟩::es) (⟨k,false,.list l⟩::put (put es a true oa) b true lD) (.ref a)) (.ref b)⟩)=_;rw[s6 ((dm r9).trans ha) ((dm r9).trans ha2),eQ r9,s6 ((dm tb).trans hb) ((dm tb).trans ((eH gO.symm).trans kq)),eQ tb,aaY gO.symm,B3,B3,nK ha,nK hb,qO]
noncomputable def dueStep(w:Int)(d:List Int):List Int:=((0::d).zip (d++[0])).map fun p=>p.1 - w * p.2
noncomputable def nA(u v:Int):Zs->List Int->List Int
 |[],d=>d
 |z::r,d=>nA u v r (dueStep (u * z.1+v * z.2) d)
def stepOk(u v:Int)(z:Int×Int)(d:List Int):Bool:=match bndZ z.1 with
 |true=>match bndZ z.2 with
  |true=>match bndZ (u * z.1+v * z.2)with
   |true=>match allB bndZ d with
    |true=>b8 d.length 500
    |false=>false
   |false=>false
  |false=>false
 |false=>false
noncomputable def dueOk(u v:Int):Zs->List Int->Bool
 |[],d=>b8 d.length 500
 |z::r,d=>match stepOk u v z d with
  |true=>dueOk u v r (dueStep (u * z.1+v * z.2) d)
  |false=>false
noncomputable def wk(p:Int×Int):V:=.tup [.int p.1,.int p.2]
theorem E1:∀(a b:List Int),zipL (a.map V.int) (b.map V.int)=(a.zip b).map wk
 |[],_=>rfl
 |_::_,[]=>rfl
 |x::a,y::b=>by
  show V.tup [.int x,.int y]::zipL (a.map V.int) (b.map V.int)=_;rw[E1 a b];rfl
noncomputable def rW:ME:=(.lcomp [15,16,17] (.bin .Sub (.var 16) (.bin .Mult (.bin .Add (.bin .Mult (.var 5) (.var 13)) (.bin .Mult (.var 6) (.var 14))) (.var 17))) [([16,17],true,.zip,[(.bin .Add (.list [(.const (.int 0))]) (.var 12)),(.bin .Add (.var 12) (.list [(.const (.int 0))]))],[])])
theorem WV(w:WF H)(hD:aq H D (d.map V.int))(hu:bndZ u=true)(hv:bndZ v=true)(h:stepOk u v z d=true) :
  ∃H',den (n+9) rW (x0::x1::x2::x3::x4::some (.int u)::some (.int v)::x7::x8::x9::x10::x11::some (.ref D)::some (.int z.1)::some (.int z.2)::x15::x16::x17::ρ) H=some (.ref (H.nxt+4),H')/\
   WF H'/\H.nxt<=H'.nxt/\aq H' (H.nxt+4) ((dueStep (u * z.1+v * z.2) d).map V.int)/\cp H H':=by
 exists kb2 h,h1,h;exists kb2 h,h2,h;exists kb2 h,h3,h;exists kb2 h,h4,h;have hl:=bC h;have h4:=dh h4;have om:=cP w hD;have w1:=w.new (o:=.list [.int 0]);have w2:=w1.new (o:=.list (((0::d).map V.int)));have w3:=w2.new (o:=.list [.int 0]);have w4:=w3.new (o:=.list ((d++[0]).map V.int));have w5:=w4.new (o:=.list ((dueStep (u * z.1+v * z.2) d).map V.int));have D1:=hD.new w (o:=.list [.int 0]);have D2:=D1.new w1 (o:=.list ((0::d).map V.int));have D3:=D2.new w2 (o:=.list [.int 0]);have c1:aq (newObj H (.list [.int 0])).2 H.nxt [.int 0]:=aq.c8;have e1:=xw zW rC c1.view D1.view (by show 1<=_;decide) (by rw[aJ];lia);have iW:binOp .Add (.ref H.nxt) (.ref D) (newObj H (.list [.int 0])).2=some (newObj (newObj H (.list [.int 0])).2 (.list ((0::d).map V.int))):=e1;have c3:aq (newObj (newObj (newObj H (.list [.int 0])).2 (.list ((0::d).map V.int))).2 (.list [.int 0])).2 (H.nxt+2) [.int 0]:=aq.c8;have e2:=xw zW rC D3.view c3.view (by rw[aJ];lia) (by show 1<=_;decide);have iP:binOp .Add (.ref D) (.ref (H.nxt+2)) (newObj (newObj (newObj H (.list [.int 0])).2 (.list ((0::d).map V.int))).2 (.list [.int 0])).2=some (newObj (newObj (newObj (newObj H (.list [.int 0])).2 (.list ((0::d).map V.int))).2 (.list [.int 0])).2 (.list ((d++[0]).map V.int))):=by
  rw[e2,gI];rfl
 have a2:aq (newObj (newObj (newObj (newObj H (.list [.int 0])).2 (.list ((0::d).map V.int))).2 (.list [.int 0])).2 (.list ((d++[0]).map V.int))).2 (H.nxt+1) ((0::d).map V.int):=((aq.c8 (H:=(newObj H (.list [.int 0])).2) (l:=(0::d).map V.int)).new w2).new w3;have a4:aq (newObj (newObj (newObj (newObj H (.list [.int 0])).2 (.list ((0::d).map V.int))).2 (.list [.int 0])).2 (.list ((d++[0]).map V.int))).2 (H.nxt+3) ((d++[0]).map V.int):=aq.c8;have it:iterOf (newObj (newObj (newObj (newObj H (.list [.int 0])).2 (.list ((0::d).map V.int))).2 (.list [.int 0])).2 (.list ((d++[0]).map V.int))).2 .zip [.ref (H.nxt+1),.ref (H.nxt+3)]=some (((0::d).zip (d++[0])).map wk):=by
  show(match listView _ (V.ref (H.nxt+1)),listView _ (V.ref (H.nxt+3))with
   |some x,some y=>some (zipL x y)
   |_,_=>none)=_
  rw[a2.view,a4.view];show some (zipL _ _)=_;rw[E1]
 clear e2 c3 e1 c1 D3 D2 D1 om h hD;obtain⟨nx,es⟩:=H;have m1:∀H,binOp .Mult (V.int u) (V.int z.1) H=some (V.int (u * z.1),H):=fun H=>fm (br (gx hu) dq) (br (gx h1) dq);have m2:∀H,binOp .Mult (V.int v) (V.int z.2) H=some (V.int (v * z.2),H):=fun H=>fm (br (gx hv) dq) (br (gx h2) dq);have this:=dK (k:=nx+4) (n:=nx+5) (es:=put (put (newObj (newObj (newObj (newObj ⟨nx,es⟩ (.list [.int 0])).2 (.list ((0::d).map V.int))).2 (.list [.int 0])).2 (.list ((d++[0]).map V.int))).2.es (nx+1) true (.list ((0::d).map V.int))) (nx+3) true (.list ((d++[0]).map V.int))) (enc:=wk) (f:=turn (den (n+8)) [16,17] true [] (ck (nx+4) (.bin .Sub (.var 16) (.bin .Mult (.bin .Add (.bin .Mult (.var 5) (.var 13)) (.bin .Mult (.var 6) (.var 14))) (.var 17))) (den (n+8))) (x0::x1::x2::x3::x4::some (.int u)::some (.int v)::x7::x8::x9::x10::x11::some (.ref D)::some (.int z.1)::some (.int z.2)::none::none::none::ρ)) (fun p=>[V.int (p.1 - (u * z.1+v * z.2) * p.2)]) ((0::d).zip (d++[0])) [] (fun p m acc ha=>by
  have mJ:bndZ p.2=true:=by
   have:=(List.of_mem_zip m).2;clear ha m m2 m1 it a4 a2 iP iW w5 w4 w3 w2 w1 w hl h3 h2 h1 hv hu;rcases l7.mp this with q|q
   ·exact h4 p.2 q
   ·rw[c7.mp q];rfl
  have m3:∀H,binOp .Mult (V.int (u * z.1+v * z.2)) (V.int p.2) H=some (V.int ((u * z.1+v * z.2) * p.2),H):=fun H=>fm (br (gx h3) dq) (br (gx mJ) dq);unfold wk;simp! only[m1,m2,m3,qk,oE];exact dg ha) (by
   rw[eY,List.length_zip,d8];show 0+min (d.length+1) (d.length+1)<=_;rw[Nat.min_self];lia)
 rw[eN,dp]at this;have key:=Zt (k:=nx+4) (a:=nx+1) (b:=nx+3) a2 a4 (W.Z.off_ne nx 1 3 rfl) (W.Z.off_ne nx 4 1 rfl) (W.Z.off_ne nx 4 3 rfl) this;refine⟨_,?_,w5,by show nx<=nx+5;exact Nat.le_add_right nx 5,aq.c8,((((cp.new w).trans (cp.new w1)).trans (cp.new w2)).trans (cp.new w3)).trans (cp.new w4)⟩;have dF:∀{B:Type} {o:bq} {f:V->Hp->Option B} {H:Hp},ob (some (newObj H o)) f=f (.ref H.nxt) (newObj H o).2:=rfl;have q1:∀o,(newObj ⟨nx,es⟩ o).2.nxt=nx+1:=fun _=>rfl;have q2:∀o o',(newObj (newObj ⟨nx,es⟩ o).2 o').2.nxt=nx+2:=fun _ _=>rfl;have q3:∀o o' sP,(newObj (newObj (newObj ⟨nx,es⟩ o).2 o').2 sP).2.nxt=nx+3:=fun _ _ _=>rfl;have q4:∀o o' sP o3,(newObj (newObj (newObj (newObj ⟨nx,es⟩ o).2 o').2 sP).2 o3).2.nxt=nx+4:=fun _ _ _ _=>rfl;unfold rW;simp only[gw,gn,fg,cD,bo,bj,bA,bg,bh,bk,aG,dF,iW,q1,q2,iP,q3,it,q4,gh,gF,aY,aZ,dO];unfold dueStep;rw[d5];exact key
end
end
section
open PySem
def rq:List MS:=[(.assign 7 (.call wh [(.var 2),(.var 4),(.const (.int 40))])),(.assign 8 (.call uQ [(.var 7),(.var 4),(.const (.int 2))])),(.if_ (.cmp .NotEq (.bi .len [(.var 8)]) (.bi .len [(.var 3)])) [(.ret (.const (.bool false)))] []),(.unpack [9,10] (.tup [(.call kN [(.const (.int 0)),(.var 8),(.var 7),(.var 4)]),(.call kN [(.const (.int 1)),(.var 8),(.var 7),(.var 4)])])),(.if_ (.eU [(.cmp .Eq (.var 9) (.list [])),(.cmp .Eq (.var 10) (.list [])),(.cmp .NotEq (.call pI [(.var 9),(.var 10)]) (.call pI [(.var 10),(.var 9)]))]) [(.ret (.const (.bool false)))] []),(.assign 11 tV),(.assign 12 (.list [(.const (.int 1))])),(.for_ [13,14] true .seq [(.var 3)] [(.assign 12 rW)]),(.ret (.cmp .Eq (.call rN [(.var 11)]) (.lcomp [15,16] (.tup [(.var 16),(.const (.int 1))]) [([16],false,.seq,[(.var 12)],[])])))]
structure LX (o:Bool) (s:List Po) (zs:Zs) (u v:Int) (b:List Po) (pw:List Pr) (f1 f2 t m:List (List Int)) (n:Nat):Prop where
 h1:∀p∈s,aX p
 h2:s.length<=40
 h3:s9 o s=some b
 h4:b.length<=900
 h5:std o b=some pw
 h6:pw.length=zs.length
 h7:pw.length<=500
 h8:letG o 1 0 b pw pw=some f1
 h9:letG o 0 1 b pw pw=some f2
 z9:f1≠[]
 B1:f2≠[]
 yP:∀r∈f1,r.length<=1000
 zT:∀r∈f2,r.length<=1000
 CC:timesS f1 f2=some t
 xx:timesS f2 f1=some t
 uG:bndZ u=true
 uY:bndZ v=true
 yh:Ck u v f1 f2=some m
 B7:n=2\/n=3
 h20:m≠[]
 xh:charS n m=some (nA u v zs [1])
 A7:dueOk u v zs [1]=true
noncomputable def kK(o:Bool)(s:List Po)(zs:Zs)(u v:Int):Prop:=∃b pw f1 f2 t m n,LX o s zs u v b pw f1 f2 t m n
section
variable {H:Hp}
theorem SP(r:List Int):gv (teq (n+1)) (r.map V.int) (r.map V.int)=true:=by
 induction r with
 |nil=>
  exact rfl
 |cons a r ih=>
  show(match ieq a a with
   |true=>gv (teq (n+1)) (r.map V.int) (r.map V.int)
   |false=>false)=true
  rw[(ieq_iff a a).mpr rfl];exact ih
theorem Y0(m:List (List Int)):gv (teq (n+2)) (m.map cj) (m.map cj)=true:=by
 induction m with
 |nil=>
  exact rfl
 |cons r m ih=>
  show(match gv (teq (n+1)) (r.map V.int) (r.map V.int)with
   |true=>gv (teq (n+2)) (m.map cj) (m.map cj)
   |false=>false)=true
  rw[SP];exact ih
theorem Qb(m:List Int):gv (teq (n+2)) (m.map z1) (m.map z1)=true:=by
 induction m with
 |nil=>
  exact rfl
 |cons a m ih=>
  show(match (match ieq a a with
    |true=>true
    |false=>false)with
   |true=>gv (teq (n+2)) (m.map z1) (m.map z1)
   |false=>false)=true
  rw[(ieq_iff a a).mpr rfl];exact ih
theorem Zx(m:List (List Int)):resL (res H (k+2)) (m.map cj)=some (m.map cj):=by
 induction m with
 |nil=>
  exact rfl
 |cons r m ih=>
  show(match mkL (resL (res H (k+1)) (r.map V.int))with
   |some b=>match resL (res H (k+2)) (m.map cj)with
    |some s=>some (b::s)
    |none=>none
   |none=>none)=_
  rw[FZ,ih];rfl
theorem JG(m:List Int):resL (res H (k+2)) (m.map z1)=some (m.map z1):=by
 induction m with
 |nil=>
  exact rfl
 |cons a m ih=>
  show(match res H (k+2) (z1 a)with
   |some b=>match resL (res H (k+2)) (m.map z1)with
    |some s=>some (b::s)
    |none=>none
   |none=>none)=_
  rw[show res H (k+2) (z1 a)=some (z1 a)from rfl,ih];rfl
theorem DO:res H 7 (encMat m)=some (encMat m):=by
 show mkL (resL (res H 6) (m.map cj))=_;rw[Zx (k:=4)];rfl
theorem WQ:bu .NotEq (encMat t) (encMat t) H=some false:=by
 show jG (match res H 7 (encMat t)with
  |some a=>match res H 7 (encMat t)with
   |some b=>some (teq deepN a b)
   |none=>none
  |none=>none)=_
 rw[DO];show some (!(gv (teq 7) (t.map cj) (t.map cj)))=_;rw[Y0 (n:=5)];rfl
theorem JZ(hf:f≠[])(h:aq H j []):bu .Eq (encMat f) (.ref j) H=some false:=by
 have e2:res H 7 (.ref j)=some (.lst []):=by
  show resR (res H 6) (look H.es j)=_;rw[show look H.es j=_ from h];rfl
 show(match res H 7 (encMat f)with
  |some a=>match res H 7 (.ref j)with
   |some b=>some (teq deepN a b)
   |none=>none
  |none=>none)=_
 rw[DO,e2];clear e2 h;induction f using aM with
 |nil=>exact(hf rfl).elim
 |cons r f=>rfl
theorem XB{l:List Int}{j:Nat}(h:aq H j (l.map z1)):bu .Eq (.lst (l.map z1)) (.ref j) H=some true:=by
 have e1:res H 7 (.lst (l.map z1))=some (.lst (l.map z1)):=by
  show mkL (resL (res H 6) (l.map z1))=_;rw[JG (k:=4)];rfl
 have e2:res H 7 (.ref j)=some (.lst (l.map z1)):=by
  show resR (res H 6) (look H.es j)=_;rw[show look H.es j=_ from h];show mkL (resL (res H 6) (l.map z1))=_;rw[JG (k:=4)];rfl
 show(match res H 7 (.lst (l.map z1))with
  |some a=>match res H 7 (.ref j)with
   |some b=>some (teq deepN a b)
   |none=>none
  |none=>none)=_
 rw[e1,e2];show some (gv (teq 7) (l.map z1) (l.map z1))=_;rw[Qb (n:=5)]
theorem Oz{n D:Nat}{d:List Int}(hD:aq H D (d.map V.int))(w:WF H)(hl:d.length<=1000){x0 x1 x2 x3 x4 x5 x6 x7 x8 x9 x10 x11 x13 x14 x15 x16:Option V}{ρ:ai} :
  den (n+8) (.lcomp [15,16] (.tup [(.var 16),(.const (.int 1))]) [([16],false,.seq,[(.var 12)],[])]) (x0::x1::x2::x3::x4::x5::x6::x7::x8::x9::x10::x11::some (.ref D)::x13::x14::x15::x16::ρ) H=some (.ref H.nxt,(newObj H (.list (d.map z1))).2):=by
 have om:=cP w hD;clear w;obtain⟨nx,es⟩:=H;have om:D<nx:=om;have this:=dK (k:=nx) (n:=nx+1) (es:=put es D true (.list (d.map V.int))) (enc:=V.int) (f:=turn (den (n+7)) [16] false [] (ck nx (.tup [(.var 16),(.const (.int 1))]) (den (n+7))) (x0::x1::x2::x3::x4::x5::x6::x7::x8::x9::x10::x11::some (.ref D)::x13::x14::none::none::ρ)) (fun x=>[z1 x]) d [] (fun x m acc ha=>by
  simp! only[];exact dg ha) (by rw[eY];show 0+_<=_;lia)
 rw[eN,dp]at this;have key:=mR (o:=.list (d.map V.int)) hD (show nx≠D by lia) this;simp! only[lI hD];exact key
def tG:List MS:=[(.assign 12 rW)]
theorem Sg(hu:bndZ u=true)(hv:bndZ v=true):∀(zs:Zs) (d:List Int) (D:Nat) (H:Hp) (nv nB:Option V),WF H->aq H D (d.map V.int)->dueOk u v zs d=true->
  ∃wB Ct D' H',loopF [13,14] true (denSs (denS 19) tG) (zs.map zv) (x0::x1::x2::x3::x4::some (.int u)::some (.int v)::x7::x8::x9::x10::x11::some (.ref D)::nv::nB::none::none::none::ρ) H =
   some (.next,x0::x1::x2::x3::x4::some (.int u)::some (.int v)::x7::x8::x9::x10::x11::some (.ref D')::wB::Ct::none::none::none::ρ,H')/\WF H'/\aq H' D' ((nA u v zs d).map V.int)/\cp H H'/\(nA u v zs d).length<=500:=by
 intro zs
 induction zs with
 |nil=>intro d D H nv nB w hD h;exact⟨nv,nB,D,H,rfl,w,hD,fun i e h=>h,bC h⟩
 |cons z zs ih=>
  intro d D H nv nB w hD h;exists kb2 h,hs,h;exists mC (WV (n:=9) w hD hu hv hs (x0:=x0) (x1:=x1) (x2:=x2) (x3:=x3) (x4:=x4) (x7:=x7) (x8:=x8) (x9:=x9) (x10:=x10) (x11:=x11) (x15:=none) (x16:=none) (x17:=none) (ρ:=ρ)),H1,e1,w1,Z0,cN,k1;exists EO (ih (dueStep (u * z.1+v * z.2) d) (H.nxt+4) H1 (some (.int z.1)) (some (.int z.2)) w1 cN h),wB,Ct,D',H',a1,a2,a3,a4,a5;refine⟨wB,Ct,D',H',?_,a2,a3,k1.trans a4,a5⟩;rw[aO,fz];unfold tG;unfold tG at a1;unfold zv;simp only[jo,lY,aY,aZ];rw[aN];simp only[Nat.reduceAdd]at e1;simp only[cg,e1,aG,aY,aZ,aS,bc,gj,jI];exact a1
theorem RM{o:Od}{s:List Po}{zs:Zs}{u v:Int}(L:kK (gr o) s zs u v)(w:WF H){x0 x1:Option V}{r:ai} :
  ∃ρ H',denSs (denS 20) rq (x0::x1::some (.lst (ar s))::some (.lst (zs.map zv))::some (aK o)::some (.int u)::some (.int v)::none::none::none::none::none::none::none::none::none::none::none::none::none::none::r) H=some (.ret (.bool true),ρ,H'):=by
 exists Qo L,b,pw,f1,f2,t,m,n,X;obtain⟨h1,h2,h3,h4,h5,h6,h7,h8,h9,z9,B1,yP,zT,CC,xx,uG,uY,yh,B7,h20,xh,A7⟩:=X;exists ak (Q2 (H:=H) h1 h2 h3),hb,e1;have e2:=NM (H:=H) hb (by lia) h5;have e3:cw .len [.lst (pw.map encN)] H=some (ay pw.length,H):=by
  have:=n5 (H:=H) (l:=pw.map encN) (by rw[aJ];lia);rw[aJ]at this;exact this
 have e4:cw .len [.lst (zs.map zv)] H=some (ay zs.length,H):=by
  have:=n5 (H:=H) (l:=zs.map zv) (by rw[aJ];lia);rw[aJ]at this;exact this
 have e5:bu .NotEq (ay pw.length) (ay zs.length) H=some false:=by
  show some (!aF pw.length zs.length)=_;rw[h6,eu];rfl
 have e6:=Ip (H:=H) (o:=o) (a:=0) (f6 _) h7 hb (by lia) h8;have e7:=Ip (H:=H) (o:=o) (a:=1) (cx _) h7 hb (by lia) h9;have Hf:kN [.int 0,.lst (pw.map encN),.lst (ar b),aK o] H=some (encMat f1,H):=e6;have Ku:kN [.int 1,.lst (pw.map encN),.lst (ar b),aK o] H=some (encMat f2,H):=e7;have w1:=w.new (o:=.list []);have w2:=w1.new (o:=.list []);have c1:=JZ (H:=(newObj H (.list [])).2) z9 aq.c8;have c2:bu .Eq (encMat f2) (.ref (H.nxt+1)) (newObj (newObj H (.list [])).2 (.list [])).2=some false:=JZ B1 aq.c8;have t1:=IB (H:=(newObj (newObj H (.list [])).2 (.list [])).2) zT CC;have t2:=IB (H:=(newObj (newObj H (.list [])).2 (.list [])).2) yP xx;exists sO (Ou (H:=(newObj (newObj H (.list [])).2 (.list [])).2) (n:=7) w2 uG uY yh (x0:=x0) (x1:=x1) (x2:=some (.lst (ar s))) (x3:=some (.lst (zs.map zv))) (x4:=some (aK o)) (x7:=some (.lst (ar b))) (x8:=some (.lst (pw.map encN))) (x11:=none) (x12:=none) (x13:=none) (x14:=none) (x15:=none) (x16:=none) (x17:=none) (x18:=none) (x19:=none) (x20:=none) (ρ:=r)),js,H3,b1,w3,n3,vK,R3,k3;have w4:=w3.new (o:=.list [.int 1]);exists EO (Sg (u:=u) (v:=v) uG uY (x0:=x0) (x1:=x1) (x2:=some (.lst (ar s))) (x3:=some (.lst (zs.map zv))) (x4:=some (aK o)) (x7:=some (.lst (ar b))) (x8:=some (.lst (pw.map encN))) (x9:=some (encMat f1)) (x10:=some (encMat f2)) (x11:=some (.ref (H.nxt+2))) (ρ:=none::none::none::r) zs [1] H3.nxt (newObj H3 (.list [.int 1])).2 none none w4 aq.c8 A7),nv,nB,D,H5,d1,w5,GA,k5,l5;have K:cp H3 H5:=(cp.new w3).trans k5;have J8:aq H5 (H.nxt+2) (js.map V.ref):=K _ _ vK;have RA:Rows H5 (H.nxt+2) (H.nxt+3) js (m.map fun r=>r.map z1):=Rows.keep R3 fun i e h _=>K i e h;clear K k5 w4 k3 R3 vK n3 w3 w2 w1 e7 e6 hb A7 yh uY uG xx CC zT yP B1 z9 h9 h8 h7 h6 h5 h4 h3 h2 h1 w;obtain⟨mr,mt,hm⟩:∃mr mt,m=mr::mt:=by
  clear RA J8 l5 GA w5 d1 b1 t2 t1 c2 c1 Ku Hf e5 e4 e3 e2 e1 xh B7;induction m using aM with
  |nil=>exact(h20 rfl).elim
  |cons a l=>exact⟨a,l,rfl⟩
 clear h20;subst hm;exists b6 (Mg B7 w5 J8 RA xh),H6,g1,w6,k6;have lk6:=k6 _ _ GA;have q1:=Oz (n:=10) lk6 w6 (by lia) (x0:=x0) (x1:=x1) (x2:=some (.lst (ar s))) (x3:=some (.lst (zs.map zv))) (x4:=some (aK o)) (x5:=some (.int u)) (x6:=some (.int v)) (x7:=some (.lst (ar b))) (x8:=some (.lst (pw.map encN))) (x9:=some (encMat f1)) (x10:=some (encMat f2)) (x11:=some (.ref (H.nxt+2))) (x13:=nv) (x14:=nB) (x15:=none) (x16:=none) (ρ:=none::none::none::none::r);have q2:=XB (H:=(newObj H6 (.list ((nA u v zs [1]).map z1))).2) (j:=H6.nxt) aq.c8;have dF:∀{B:Type} {o:bq} {f:V->Hp->Option B} {H:Hp},ob (some (newObj H o)) f=f (.ref H.nxt) (newObj H o).2:=rfl;have it:∀H,iterOf H .seq [.lst (zs.map zv)]=some (zs.map zv):=fun _=>rfl;have gu:∀o o',(newObj (newObj H o).2 o').2.nxt=H.nxt+2:=fun _ _=>rfl;refine⟨x0::x1::some (.lst (ar s))::some (.lst (zs.map zv))::some (aK o)::some (.int u)::some (.int v)::some (.lst (ar b))::some (.lst (pw.map encN))::some (encMat f1)::some (encMat f2)::some (.ref (H.nxt+2))::some (.ref D)::nv::nB::none::none::none::none::none::none::r,(newObj H6 (.list ((nA u v zs [1]).map z1))).2,?_⟩;unfold rq;refine aN.trans ?_;simp only[cg,cH,cD,bo,bj,bA,bg,bh,bk,aG,e1,aY,aZ,aS,bc];refine aN.trans ?_;simp only[cg,cH,cD,bo,bj,bA,bg,bh,bk,aG,e2,aY,aZ,aS,bc];refine aN.trans ?_;simp only[hX,fK,jB,bo,bj,bA,bg,bh,bk,fN,aG,fx,e3,e4,e5,iO,gj,aS,bc];refine aN.trans ?_;simp only[gM,fk,cH,cD,bo,bj,bA,bg,bh,bk,aG,Hf,Ku,jo,gV,aY,aZ,aS,bc];refine aN.trans ?_;simp only[hX,pe,oQ,nW,fK,fg,cH,bo,bj,bA,bg,bh,bk,fN,aG,dF,fx,show ∀o,(newObj H o).2.nxt=H.nxt+1 from fun _=>rfl,c1,c2,t1,t2,WQ,pB,nX,iO,gj,aS,bc];refine aN.trans ?_;simp only[Nat.reduceAdd]at b1;simp only[cg,b1,aG,aY,aZ,aS,bc];refine aN.trans ?_;simp only[cg,fg,cD,bj,bA,aG,dF,gu,aY,aZ,aS,bc];refine aN.trans ?_;unfold tG at d1;simp only[kU,bo,bj,bA,bg,bh,bk,aG,it,sG];rw[d1];simp only[mW,aS,bc];refine aN.trans ?_;simp only[Nat.reduceAdd]at q1;simp only[iU,fK,cH,bo,bj,bA,bg,bh,bk,aG,g1,q1,q2,fN,aS,l8]
end
end
section
open PySem
noncomputable def rowEq:List Int->List Int->Bool
 |[],[]=>true
 |[],_::_=>false
 |_::_,[]=>false
 |a::r,b::s=>match ieq a b with
  |true=>rowEq r s
  |false=>false
noncomputable def matEq:List (List Int)->List (List Int)->Bool
 |[],[]=>true
 |[],_::_=>false
 |_::_,[]=>false
 |a::r,b::s=>match rowEq a b with
  |true=>matEq r s
  |false=>false
noncomputable def prEq:List Pr->List Pr->Bool
 |[],[]=>true
 |[],_::_=>false
 |_::_,[]=>false
 |a::r,b::s=>match bH a.1 a.2 b.1 b.2 with
  |true=>prEq r s
  |false=>false
theorem rowEq_ok{a:List Int}:∀{b:List Int},rowEq a b=true->a=b:=by
 induction a with
 |nil=>
  intro b h
  induction b using aM with
  |nil=>rfl
  |cons=>exact bf h
 |cons a r ih=>
  intro b h
  induction b using aM with
  |nil=>exact bf h
  |cons b s=>exact kb2 h fun q h=>by rw[(ieq_iff _ _).mp q,ih h]
theorem aaJ{a:List (List Int)}:∀{b:List (List Int)},matEq a b=true->a=b:=by
 induction a with
 |nil=>
  intro b h
  induction b using aM with
  |nil=>rfl
  |cons=>exact bf h
 |cons a r ih=>
  intro b h
  induction b using aM with
  |nil=>exact bf h
  |cons b s=>exact kb2 h fun q h=>by rw[rowEq_ok q,ih h]
theorem VM{a:List Pr}:∀{b:List Pr},prEq a b=true->a=b:=by
 induction a with
 |nil=>
  intro b h
  induction b using aM with
  |nil=>rfl
  |cons=>exact bf h
 |cons a r ih=>
  intro b h
  induction b using aM with
  |nil=>exact bf h
  |cons b s=>
   exists kb2 h,q,h;exists ak ((i3 _ _ _ _).mp q),q1,q2;rw[ih h,show a=b from Prod.ext q1 q2]
def sH(m:Option (List (List Int)))(f:List (List Int)):Bool:=match m with
 |some m=>matEq m f
 |none=>false
theorem xt(h:sH m f=true):m=some f:=by
 unfold sH at h;split at h
 ·rw[aaJ h]
 ·exact bf h
def coreC(o:Bool)(b:List Po)(pw:List Pr)(f1 f2:List (List Int)):Bool:=match sH (letG o 1 0 b pw pw) f1 with
 |true=>sH (letG o 0 1 b pw pw) f2
 |false=>false
def coreB(o:Bool)(b:List Po)(pw0:List Pr)(f1 f2:List (List Int))(pw:Option (List Pr)):Bool:=match pw with
 |none=>false
 |some pw=>match prEq pw pw0 with
  |true=>coreC o b pw f1 f2
  |false=>false
def ET(o:Bool)(pw0:List Pr)(f1 f2:List (List Int))(b:Option (List Po)):Bool:=match b with
 |none=>false
 |some b=>match b8 b.length 900 with
  |true=>coreB o b pw0 f1 f2 (std o b)
  |false=>false
def core(o:Bool)(s:List Po)(pw0:List Pr)(f1 f2:List (List Int)):Bool:=match allB iG s with
 |true=>ET o pw0 f1 f2 (s9 o s)
 |false=>false
set_option tactic.hygienic true in
theorem Rx(h:core o s pw f1 f2=true):(∀p∈s,iG p=true)/\∃b,s9 o s=some b/\b.length<=900/\std o b=some pw/\letG o 1 0 b pw pw=some f1/\letG o 0 1 b pw pw=some f2:=by
 unfold core at h;split at h
 rotate_left
 ·exact bf h
 rename_i hs;refine⟨dh hs,?_⟩;unfold ET at h;split at h
 ·exact bf h
 rename_i b hb;split at h
 rotate_left
 ·exact bf h
 rename_i hl;unfold coreB at h;split at h
 ·exact bf h
 rename_i pw' hp;split at h
 rotate_left
 ·exact bf h
 rename_i Xf;have:=VM Xf;subst this;unfold coreC at h;split at h
 rotate_left
 ·exact bf h
 rename_i h1;exact⟨b,hb,bC hl,hp,xt h1,xt h⟩
def JU(m:List (List Int)):Bool:=allB (fun r:List Int=>b8 r.length 1000) m
def Az(f1 f2:List (List Int)):Bool:=match JU f1 with
 |true=>match JU f2 with
  |true=>match timesS f1 f2 with
   |some t=>sH (timesS f2 f1) t
   |none=>false
  |false=>false
 |false=>false
def tailC(r:Option (List Int))(d:List Int):Bool:=match r with
 |some r=>rowEq r d
 |none=>false
def QD(n:Nat)(m:Option (List (List Int)))(d:List Int):Bool:=match m with
 |none=>false
 |some m=>match m with
  |[]=>false
  |a::r=>tailC (charS n (a::r)) d
def Bd(n:Nat)(zs:Zs)(f1 f2:List (List Int))(u v:Int):Bool:=match bndZ u with
 |true=>match bndZ v with
  |true=>match dueOk u v zs [1]with
   |true=>QD n (Ck u v f1 f2) (nA u v zs [1])
   |false=>false
  |false=>false
 |false=>false
theorem HF(hn:n=2\/n=3)(hs:∀p∈s,Nd p)(hl:s.length<=40)(hp:pw.length=zs.length)(mJ:pw.length<=500)(h1:f1≠[])(h2:f2≠[])
  (hc:core o s pw f1 f2=true) (ht:Az f1 f2=true) (hu:Bd n zs f1 f2 u v=true):kK o s zs u v:=by
 obtain⟨c1,b,c2,c3,c4,c5,c6⟩:=Rx hc;exists kb2 ht,r1,ht;exists kb2 ht,r2,ht;exists W6 ht,t,Mu,ht;have ZP:=xt ht;exists kb2 hu,u1,hu;exists kb2 hu,u2,hu;exists kb2 hu,u3,hu;exists Zl hu,m,hm,hu
 induction m using aM with
 |nil=>exact bf hu
 |cons a r=>
  exists Lf hu,res,sf,hu;rw[rowEq_ok hu]at sf;exact⟨b,pw,f1,f2,t,a::r,n,⟨fun p m=>km (c1 p m) (hs p m),hl,c2,c3,c4,hp,mJ,c5,c6,h1,h2,fun r m=>bC (dh r1 r m),fun r m=>bC (dh r2 r m),Mu,ZP,u1,u2,hm,hn,(by simp),sf,u3⟩⟩
theorem s8(ts:List Tn):∀(acc:Po),Nd acc->Nd (polyG ts acc):=by
 induction ts with
 |nil=>
  intro _ h;exact h
 |cons t r ih=>
  intro acc h;dsimp only[polyG];split
  ·exact ih acc h
  ·exact ih _ (tY h)
theorem rg:Nd []:=List.Pairwise.nil
theorem NJ:∀p∈mU a b,Nd p:=fun p m=>by
 rcases aI.mp m with rfl|m
 ·exact s8 _ _ rg
 ·rcases aI.mp m with rfl|m
  ·exact s8 _ _ rg
  ·cases c7.mp m;exact s8 _ _ rg
theorem XJ:∀p∈mQ a b c d,Nd p:=fun p m=>by
 rcases aI.mp m with rfl|m
 ·exact s8 _ _ rg
 ·cases c7.mp m;exact s8 _ _ rg
noncomputable def Ey:List Pr:=[(0,0),(0,1),(1,0)]
noncomputable def nR(a:Int):List (List Int):=[[0,0,1],[0,0,0],[0,0,a]]
noncomputable def q0(b:Int):List (List Int):=[[0,1,0],[0,b,0],[0,0,0]]
def pw0(d:Int):List Pr:=match isZ' d with
 |true=>[(0,0),(1,0)]
 |false=>[(0,0),(0,1)]
def sv(a b c d:Int):List (List Int):=match isZ' d with
 |true=>[[0,1],[-(a * b),a+b]]
 |false=>[[-(d * c),d],[-(d * ((c+d * a) * (c+d * b))),d * c+a+b]]
def qg(a b c d:Int):List (List Int):=match isZ' d with
 |true=>[[c,0],[0,c]]
 |false=>[[0,1],[-((c+d * a) * (c+d * b)),c+d * a+(c+d * b)]]
noncomputable def ab:List Int:=[-2,-1,0,1,2]
noncomputable def cd:List Int:=[-1,0,1]
def uw(o:Bool):Bool:=allB (fun a=>allB (fun b=>core o (mU a b) Ey (nR a) (q0 b)) ab) ab
def core0(o:Bool)(c d:Int):Bool:=allB (fun a=>allB (fun b=>core o (mQ a b c d) (pw0 d) (sv a b c d) (qg a b c d)) ab) ab
def uv(f:Int->Int->Bool):Bool:=allB (fun u=>allB (f u) cd) [1,2]
def mh(a:Int):Bool:=allB (fun b=>match Az (nR a) (q0 b)with
 |true=>uv (Bd 3 (ni a b) (nR a) (q0 b))
 |false=>false) ab
def bQ(a c d:Int):Bool:=allB (fun b=>match Az (sv a b c d) (qg a b c d)with
 |true=>uv (Bd 2 (lS a b c d) (sv a b c d) (qg a b c d))
 |false=>false) ab
theorem P5:sv a b c d≠[]:=by unfold sv;split <;> exact fun h=>nomatch h
theorem ZO:qg a b c d≠[]:=by unfold qg;split <;> exact fun h=>nomatch h
theorem aan:nR a≠[]:=by unfold nR;exact fun h=>nomatch h
theorem Sf:q0 a≠[]:=by unfold q0;exact fun h=>nomatch h
theorem JW:(pw0 d).length=2:=by unfold pw0;split <;> rfl
theorem pK(hc:uw o=true)(ht:∀a∈ab,mh a=true)(ma:a∈ab)(mb:b∈ab)(mu:u∈[1,2])(mv:v∈cd):kK o (mU a b) (ni a b) u v:=by
 have h1:=dh (dh hc a ma) b mb;have h2:=dh (ht a ma) b mb;exists kb2 h2,h3,h2;exact HF (pw:=Ey) (f1:=nR a) (f2:=q0 b) (.inr rfl) NJ (by show 3<=40;decide) rfl (by show 3<=500;decide) aan Sf h1 h3 (dh (dh h2 u mu) v mv)
theorem V5(hc:core0 o c d=true)(ht:∀a∈ab,bQ a c d=true)(ma:a∈ab)(mb:b∈ab)(mu:u∈[1,2])(mv:v∈cd):kK o (mQ a b c d) (lS a b c d) u v:=by
 have h1:=dh (dh hc a ma) b mb;have h2:=dh (ht a ma) b mb;exists kb2 h2,h3,h2;exact HF (.inl rfl) XJ (by show 2<=40;decide) JW (by rw[JW];decide) P5 ZO h1 h3 (dh (dh h2 u mu) v mv)
end
section
open PySem
noncomputable def A9:Nat->Od
 |0=>.lex
 |1=>.iR
 |_=>.grevlex
structure K4:Prop where
 one:∀(o:Bool) (a b u v:Int),a∈ab->b∈ab->u∈[1,2]->v∈cd->kK o (mU a b) (ni a b) u v
 two:∀(o:Bool) (a b c d u v:Int),a∈ab->b∈ab->c∈cd->d∈cd->u∈[1,2]->v∈cd->kK o (mQ a b c d) (lS a b c d) u v
theorem uy(h:a<5):(Int.ofNat a - 2)∈ab:=by
 have:a=0\/a=1\/a=2\/a=3\/a=4:=by lia
 clear h;rcases this with rfl|rfl|rfl|rfl|rfl <;> decide
theorem zI(h:a<3):(Int.ofNat a - 1)∈cd:=by
 have:a=0\/a=1\/a=2:=by lia
 clear h;rcases this with rfl|rfl|rfl <;> decide
theorem Wu(h:a<2):(1+Int.ofNat a)∈[(1:Int),2]:=by
 have:a=0\/a=1:=by lia
 clear h;rcases this with rfl|rfl <;> decide
def II:List MS:=[(.unpack [4,5,6] (.tup [(.sub (.tup [(.const (.str [108,101,120])),(.const (.str [103,114,108,101,120])),(.const (.str [103,114,101,118,108,101,120]))]) (.call dD [(.var 1),(.const (.int 3))])),(.bin .Add (.const (.int 1)) (.call dD [(.var 1),(.const (.int 2))])),(.bin .Sub (.call dD [(.var 1),(.const (.int 3))]) (.const (.int 1)))]))]
section
variable {H:Hp}
theorem XH(X:Bx B I k l H)(hk:k<=90)(L:∀(o:Bool) (u v:Int),u∈[(1:Int),2]->v∈cd->kK o s zs u v) :
  ∃ρ H',denSs (denS 20) (II++rq) (x0::some (.ref B)::some (.lst (ar s))::some (.lst (zs.map zv))::none::none::none::none::none::none::none::none::none::none::none::none::none::none::none::none::none::r) H=some (.ret (.bool true),ρ,H'):=by
 exists fO (kF X (by lia) (m:=3) dq),i,l1,H1,hi,e1,X1,Z0;exists fO (kF X1 (by lia) (m:=2) dq),u,l2,H2,hu,e2,X2,Z0;exists fO (kF X2 (by lia) (m:=3) dq),v,l3,H3,hv,e3,X3,Z0;exists d7 (RM (o:=A9 i) (L (gr (A9 i)) _ _ (Wu hu) (zI hv)) X3.wf (x0:=x0) (x1:=some (.ref B)) (r:=r)),ρ,H',e4;refine⟨ρ,H',?_⟩;have iW:dD [.ref B,V.int 3] H=some (ay i,H1):=e1;have iP:dD [.ref B,V.int 2] H1=some (ay u,H2):=e2;have pO:dD [.ref B,V.int 3] H2=some (ay v,H3):=e3;have e5:∀H,subs H (V.tup [.str [108,101,120],.str [103,114,108,101,120],.str [103,114,101,118,108,101,120]]) (ay i)=some (aK (A9 i)):=fun H=>by
  have:i=0\/i=1\/i=2:=by lia
  clear pO iP iW e4 X3 e3 hv X2 e2 hu X1 e1 hi L hk X;rcases this with rfl|rfl|rfl <;> rfl
 have s1:∀n H,binOp .Add (V.int 1) (ay n) H=some (V.int (1+Int.ofNat n),H):=fun _ _=>rfl;have s2:∀n H,binOp .Sub (ay n) (V.int 1) H=some (V.int (Int.ofNat n - 1),H):=fun _ _=>rfl;show denSs (denS 20) (_::rq) _ _=_;rw[aN];simp only[gM,fk,mF,gn,cH,cD,bo,bj,bA,bg,bh,bk,aG,iW,iP,pO,e5,s1,s2,lx,gV,aY,aZ,aS,bc];exact e4
theorem law_run(A:K4)(l:List Int)(hl:l.length<=63):∃H',tH [.lst (l.map .int)] ⟨0,[]⟩=some (.bool true,H'):=by
 have hlen:(l.map V.int).length<=100000:=by rw[aJ];lia
 have v0:listView ⟨0,[]⟩ (.lst (l.map V.int))=some (l.map V.int):=rfl;have e1:=F3 (n:=9) (H:=⟨0,[]⟩) (v:=.lst (l.map V.int)) (fun _ h=>nomatch h) v0 hlen;rw[<- List.map_take]at e1;have sh:aq ⟨1,[⟨0,false,.list ((l.take 9).map V.int)⟩]⟩ 0 ((l.take 9).map V.int):=rfl;have this:=dK (k:=1) (n:=2) (es:=put [⟨0,false,.list ((l.take 9).map V.int)⟩] 0 true (.list ((l.take 9).map V.int))) (enc:=V.int) (f:=turn (den 17) [16] false [] (ck 1 (.bi .int [.var 16]) (den 17)) (some (.lst (l.map V.int))::cq 27 none)) (fun x=>[V.int x]) (l.take 9) [] (fun x m acc ha=>by
  have bi:∀H,cw .int [V.int x] H=some (V.int x,H):=fun _=>rfl;simp! only[bi];exact dg ha) (by rw[eY,List.length_take];show 0+_<=_;lia)
 rw[eN,dp]at this;have key:=mR (k:=1) (c:=0) (n:=2) (es:=[⟨0,false,.list ((l.take 9).map V.int)⟩]) (o:=.list ((l.take 9).map V.int)) rfl dq this;simp only[rep0,rep1]at key;have X:Bx 2 1 0 (l.take 9) ⟨3,[⟨2,false,.list [.ref 1,.int 0]⟩,⟨1,false,.list ((l.take 9).map V.int)⟩,⟨0,false,.list ((l.take 9).map V.int)⟩]⟩:=by
  refine⟨fun e m=>?_,by decide,rfl,rfl,by rw[List.length_take];lia⟩;clear key this sh e1 v0 hlen hl A;rcases aI.mp m with rfl|m
  ·exact(by decide:2<3)
  ·rcases aI.mp m with rfl|m
   ·exact(by decide:1<3)
   ·cases c7.mp m;exact(by decide:0<3)
 have fin:∀{s:List Po} {zs:Zs} {H':Hp} {k:Nat} {l':List Int},nz [.ref 2] ⟨3,[⟨2,false,.list [.ref 1,.int 0]⟩,⟨1,false,.list ((l.take 9).map V.int)⟩,⟨0,false,.list ((l.take 9).map V.int)⟩]⟩=some (qH s zs,H')->Bx 2 1 k l' H'->k<=90->
   (∀(o:Bool) (u v:Int),u∈[(1:Int),2]->v∈cd->kK o s zs u v)->∃H',tH [.lst (l.map .int)] ⟨0,[]⟩=some (.bool true,H'):=by
  intro s zs H' k l' e X' hk L;exists d7 (XH X' hk L (x0:=some (.lst (l.map V.int))) (r:=cq 7 none)),ρ,H2,e2;refine⟨⟨H2.nxt,dropNew 0 H2.es⟩,?_⟩;unfold tH Gh;rw[hO];unfold II rq at e2;simp only[rep0,rep1,List.cons_append,dp]at e2;rw[aN];simp only[cg,fg,gw,qN,cD,bo,bj,bA,rep0,rep1,bg,bh,bk,aG,show nat? (V.int 9)=some 9 from rfl,e1,jh,Nat.zero_add,lI sh,gh,gF,aY,aZ,dO,Nat.reduceAdd];rw[key];simp only[aG,jh,Nat.reduceAdd,aY,aZ,aS,bc];rw[aN];simp only[gM,cH,bo,bj,bA,bg,bh,bk,aG,e,qH,jo,gV,aY,aZ,aS,bc];unfold tV qK rW at e2;rw[e2];rfl
 exists cB (aaQ X dq),a,b,ha,hb,h;clear X key this sh e1 v0 hlen hl;rcases h with⟨l',H',e,X'⟩|⟨c,d,l',H',hc,hd,e,X'⟩
 ·exact fin e X' dq fun o u v mu mv=>A.one o _ _ u v (uy ha) (uy hb) mu mv
 ·exact fin e X' dq fun o u v mu mv=>A.two o _ _ _ _ u v (uy ha) (uy hb) (zI hc) (zI hd) mu mv
end
end
section
open PySem
theorem UH:core0 true (-1) (-1)=true:=by decide +kernel
theorem Q1:core0 true (-1) 0=true:=by decide +kernel
theorem PI:core0 true (-1) 1=true:=by decide +kernel
theorem PA:core0 true 0 (-1)=true:=by decide +kernel
theorem L7:core0 true 0 0=true:=by decide +kernel
theorem RQ:core0 true 0 1=true:=by decide +kernel
theorem Sr:core0 true 1 (-1)=true:=by decide +kernel
theorem ZT:core0 true 1 0=true:=by decide +kernel
theorem Rf:core0 true 1 1=true:=by decide +kernel
theorem Qv:uw true=true:=by decide +kernel
theorem QV:core0 false (-1) (-1)=true:=by decide +kernel
theorem WE:core0 false (-1) 0=true:=by decide +kernel
theorem TQ:core0 false (-1) 1=true:=by decide +kernel
theorem La:core0 false 0 (-1)=true:=by decide +kernel
theorem aar:core0 false 0 0=true:=by decide +kernel
theorem So:core0 false 0 1=true:=by decide +kernel
theorem Yj:core0 false 1 (-1)=true:=by decide +kernel
theorem PF:core0 false 1 0=true:=by decide +kernel
theorem Rh:core0 false 1 1=true:=by decide +kernel
theorem RO:uw false=true:=by decide +kernel
theorem Wa:mh (-2)=true:=by decide +kernel
theorem ZS:bQ (-2) (-1) (-1)=true:=by decide +kernel
theorem VS:bQ (-2) (-1) 0=true:=by decide +kernel
theorem ZV:bQ (-2) (-1) 1=true:=by decide +kernel
theorem ZN:bQ (-2) 0 (-1)=true:=by decide +kernel
theorem Pw:bQ (-2) 0 0=true:=by decide +kernel
theorem UP:bQ (-2) 0 1=true:=by decide +kernel
theorem YB:bQ (-2) 1 (-1)=true:=by decide +kernel
theorem Mp:bQ (-2) 1 0=true:=by decide +kernel
theorem Uq:bQ (-2) 1 1=true:=by decide +kernel
theorem MF:mh (-1)=true:=by decide +kernel
theorem Nj:bQ (-1) (-1) (-1)=true:=by decide +kernel
theorem Tb:bQ (-1) (-1) 0=true:=by decide +kernel
theorem aaO:bQ (-1) (-1) 1=true:=by decide +kernel
theorem Y4:bQ (-1) 0 (-1)=true:=by decide +kernel
theorem Lx:bQ (-1) 0 0=true:=by decide +kernel
theorem N1:bQ (-1) 0 1=true:=by decide +kernel
theorem Uc:bQ (-1) 1 (-1)=true:=by decide +kernel
theorem W5:bQ (-1) 1 0=true:=by decide +kernel
theorem YV:bQ (-1) 1 1=true:=by decide +kernel
theorem t_0:mh 0=true:=by decide +kernel
theorem MR:bQ 0 (-1) (-1)=true:=by decide +kernel
theorem RF:bQ 0 (-1) 0=true:=by decide +kernel
theorem Tz:bQ 0 (-1) 1=true:=by decide +kernel
theorem WJ:bQ 0 0 (-1)=true:=by decide +kernel
theorem Ld:bQ 0 0 0=true:=by decide +kernel
theorem aaD:bQ 0 0 1=true:=by decide +kernel
theorem VC:bQ 0 1 (-1)=true:=by decide +kernel
theorem Mr:bQ 0 1 0=true:=by decide +kernel
theorem Pk:bQ 0 1 1=true:=by decide +kernel
theorem t_1:mh 1=true:=by decide +kernel
theorem RV:bQ 1 (-1) (-1)=true:=by decide +kernel
theorem YF:bQ 1 (-1) 0=true:=by decide +kernel
theorem aao:bQ 1 (-1) 1=true:=by decide +kernel
theorem XZ:bQ 1 0 (-1)=true:=by decide +kernel
theorem PV:bQ 1 0 0=true:=by decide +kernel
theorem Xp:bQ 1 0 1=true:=by decide +kernel
theorem Ov:bQ 1 1 (-1)=true:=by decide +kernel
theorem U9:bQ 1 1 0=true:=by decide +kernel
theorem Y5:bQ 1 1 1=true:=by decide +kernel
theorem t_2:mh 2=true:=by decide +kernel
theorem Pu:bQ 2 (-1) (-1)=true:=by decide +kernel
theorem MA:bQ 2 (-1) 0=true:=by decide +kernel
theorem ZK:bQ 2 (-1) 1=true:=by decide +kernel
theorem Qy:bQ 2 0 (-1)=true:=by decide +kernel
theorem VQ:bQ 2 0 0=true:=by decide +kernel
theorem WY:bQ 2 0 1=true:=by decide +kernel
theorem RD:bQ 2 1 (-1)=true:=by decide +kernel
theorem Ru:bQ 2 1 0=true:=by decide +kernel
theorem Py:bQ 2 1 1=true:=by decide +kernel
theorem cZ{P:Int->Prop}(a:P (-1))(b:P 0)(c:P 1):∀x∈cd,P x:=jj.mpr ⟨a,jj.mpr ⟨b,jj.mpr ⟨c,fun _ h=>nomatch h⟩⟩⟩
theorem HM{P:Int->Prop}(a:P (-2))(b:P (-1))(c:P 0)(d:P 1)(e:P 2):∀x∈ab,P x:=jj.mpr ⟨a,jj.mpr ⟨b,jj.mpr ⟨c,jj.mpr ⟨d,jj.mpr ⟨e,fun _ h=>nomatch h⟩⟩⟩⟩⟩
theorem OG:∀c∈cd,∀d∈cd,core0 true c d=true:=cZ (cZ UH Q1 PI) (cZ PA L7 RQ) (cZ Sr ZT Rf)
theorem Nn:∀c∈cd,∀d∈cd,core0 false c d=true:=cZ (cZ QV WE TQ) (cZ La aar So) (cZ Yj PF Rh)
theorem kk(o:Bool):∀c∈cd,∀d∈cd,core0 o c d=true:=by cases o;exact Nn;exact OG
theorem k1(o:Bool):uw o=true:=by cases o;exact RO;exact Qv
theorem LV:∀a∈ab,mh a=true:=HM Wa MF t_0 t_1 t_2
theorem Z5:∀a∈ab,∀c∈cd,∀d∈cd,bQ a c d=true:=HM (cZ (cZ ZS VS ZV) (cZ ZN Pw UP) (cZ YB Mp Uq)) (cZ (cZ Nj Tb aaO) (cZ Y4 Lx N1) (cZ Uc W5 YV)) (cZ (cZ MR RF Tz) (cZ WJ Ld aaD) (cZ VC Mr Pk)) (cZ (cZ RV YF aao) (cZ XZ PV Xp) (cZ Ov U9 Y5)) (cZ (cZ Pu MA ZK) (cZ Qy VQ WY) (cZ RD Ru Py))
theorem all_ok:K4:=
 ⟨fun o _ _ _ _ ma mb mu mv=>pK (k1 o) LV ma mb mu mv,fun o _ _ c d _ _ ma mb mc md mu mv=>V5 (kk o c mc d md) (fun a m=>Z5 a m c mc d md) ma mb mu mv⟩
end
section
open PySem PySem.Calls PyProof.Rows PySem.W
section
variable {C:Cf} {mg mb:Str->Option Value}
theorem Ap(B:Bs C mg mb):az C mg mb 1 "order_key" (.fn jX):=
 az.bT (bG B (K:=0) (au (qw B) (au (C6 B) bJ dq) dq) (bI 0 dq) _ (by kernel_rfl) ["order","powers"] (fun _ _ _=>b2 fun _ _=>by kernel_rfl) (by kernel_rfl) 2 rfl (by kernel_rfl) (by kernel_rfl) (by decide +kernel)) fun _=>bY
theorem OO(B:Bs C mg mb):az C mg mb 1 "powers_product" (.fn yp):=
 az.bT (bG B (K:=0) (au (qw B) (au (gX B) bJ dq) dq) (bI 1 dq) _ (by kernel_rfl) ["a","b"] (fun _ _ _=>b2 fun _ _=>by kernel_rfl) (by kernel_rfl) 2 rfl (by kernel_rfl) (by kernel_rfl) (by decide +kernel)) fun _=>bY
theorem G6(B:Bs C mg mb):az C mg mb 1 "powers_divide" (.fn oU):=
 az.bT (bG B (K:=0) (au (gX B) bJ dq) (bI 2 dq) _ (by kernel_rfl) ["a","b"] (fun _ _ _=>b2 fun _ _=>by kernel_rfl) (by kernel_rfl) 2 rfl (by kernel_rfl) (by kernel_rfl) (by decide +kernel)) fun _=>bY
theorem Er(B:Bs C mg mb):az C mg mb 1 "powers_quotient" (.fn nS):=
 az.bT (bG B (K:=0) (au (qw B) (au (gX B) bJ dq) dq) (bI 3 dq) _ (by kernel_rfl) ["a","b"] (fun _ _ _=>b2 fun _ _=>by kernel_rfl) (by kernel_rfl) 2 rfl (by kernel_rfl) (by kernel_rfl) (by decide +kernel)) fun _=>bY
theorem CW(B:Bs C mg mb):az C mg mb 1 "powers_join" (.fn qh):=
 az.bT (bG B (K:=0) (au (qw B) (au (wi B) (au (gX B) bJ dq) dq) dq) (bI 4 dq) _ (by kernel_rfl) ["a","b"] (fun _ _ _=>b2 fun _ _=>by kernel_rfl) (by kernel_rfl) 2 rfl (by kernel_rfl) (by kernel_rfl) (by decide +kernel)) fun _=>bY
theorem Un(B:Bs C mg mb):az C mg mb 1 "powers_meet" (.fn zE):=
 az.bT (bG B (K:=0) (au (qw B) (au (EI B) (au (gX B) bJ dq) dq) dq) (bI 5 dq) _ (by kernel_rfl) ["a","b"] (fun _ _ _=>b2 fun _ _=>by kernel_rfl) (by kernel_rfl) 2 rfl (by kernel_rfl) (by kernel_rfl) (by decide +kernel)) fun _=>bY
theorem RT(B:Bs C mg mb):az C mg mb 2 "are_apart" (.fn CQ):=
 az.bT (bG B (K:=1) (au (C6 B) (au (Un B) bJ dq) dq) (bI 6 dq) _ (by kernel_rfl) ["a","b"] (fun _ _ _=>b2 fun _ _=>by kernel_rfl) (by kernel_rfl) 2 rfl (by kernel_rfl) (by kernel_rfl) (by decide +kernel)) fun _=>bY
theorem V2(B:Bs C mg mb):az C mg mb 1 "gcd" (.fn ud):=
 az.bT (bG B (K:=0) (au (H8 B) bJ dq) (bI 7 dq) _ (by kernel_rfl) ["a","b"] (fun _ _ _=>b2 fun _ _=>by kernel_rfl) (by kernel_rfl) 2 rfl (by kernel_rfl) (by kernel_rfl) (by decide +kernel)) fun _=>bY
theorem WK(B:Bs C mg mb):az C mg mb 1 "bits_of" (.fn Ep):=
 az.bT (bG B (K:=0) bJ (bI 8 dq) _ (by kernel_rfl) ["n"] (fun _ _ _=>b1 fun _=>by kernel_rfl) (by kernel_rfl) 1 rfl (by kernel_rfl) (by kernel_rfl) (by decide +kernel)) fun _=>bY
theorem vL(B:Bs C mg mb):az C mg mb 2 "rat" (.fn pV):=
 az.bT (bG B (K:=1) (au (V2 B) bJ dq) (bI 9 dq) _ (by kernel_rfl) ["top","bottom"] (fun _ _ _=>b2 fun _ _=>by kernel_rfl) (by kernel_rfl) 2 rfl (by kernel_rfl) (by kernel_rfl) (by decide +kernel)) fun _=>bY
theorem vN(B:Bs C mg mb):az C mg mb 3 "radd" (.fn hV):=
 az.bT (bG B (K:=2) (au (vL B) bJ dq) (bI 10 dq) _ (by kernel_rfl) ["a","b"] (fun _ _ _=>b2 fun _ _=>by kernel_rfl) (by kernel_rfl) 2 rfl (by kernel_rfl) (by kernel_rfl) (by decide +kernel)) fun _=>bY
theorem vJ(B:Bs C mg mb):az C mg mb 3 "rmul" (.fn iL):=
 az.bT (bG B (K:=2) (au (vL B) bJ dq) (bI 11 dq) _ (by kernel_rfl) ["a","b"] (fun _ _ _=>b2 fun _ _=>by kernel_rfl) (by kernel_rfl) 2 rfl (by kernel_rfl) (by kernel_rfl) (by decide +kernel)) fun _=>bY
theorem Dq(B:Bs C mg mb):az C mg mb 3 "rdiv" (.fn oh):=
 az.bT (bG B (K:=2) (au (vL B) bJ dq) (bI 12 dq) _ (by kernel_rfl) ["a","b"] (fun _ _ _=>b2 fun _ _=>by kernel_rfl) (by kernel_rfl) 2 rfl (by kernel_rfl) (by kernel_rfl) (by decide +kernel)) fun _=>bY
theorem K2(B:Bs C mg mb):az C mg mb 1 "rneg" (.fn oX):=
 az.bT (bG B (K:=0) bJ (bI 13 dq) _ (by kernel_rfl) ["a"] (fun _ _ _=>b1 fun _=>by kernel_rfl) (by kernel_rfl) 1 rfl (by kernel_rfl) (by kernel_rfl) (by decide +kernel)) fun _=>bY
theorem GD(B:Bs C mg mb):az C mg mb 3 "rinv" (.fn qF):=
 az.bT (bG B (K:=2) (au (vL B) bJ dq) (bI 14 dq) _ (by kernel_rfl) ["a"] (fun _ _ _=>b1 fun _=>by kernel_rfl) (by kernel_rfl) 1 rfl (by kernel_rfl) (by kernel_rfl) (by decide +kernel)) fun _=>bY
theorem QO(B:Bs C mg mb):az C mg mb 2 "is_vast" (.fn te):=
 az.bT (bG B (K:=1) (au (wi B) (au (H8 B) (au (Yx B) (au (WK B) bJ dq) dq) dq) dq) (bI 15 dq) _ (by kernel_rfl) ["a"] (fun _ _ _=>b1 fun _=>by kernel_rfl) (by kernel_rfl) 1 rfl (by kernel_rfl) (by kernel_rfl) (by decide +kernel)) fun _=>bY
theorem Ij(B:Bs C mg mb):az C mg mb 4 "add_term" (.fn nt):=
 bG B (K:=3) (au (pR B) (au (vN B) bJ dq) dq) (bI 17 dq) _ (by kernel_rfl) ["found","powers","rational"] (fun _ _ _=>b3 fun _ _ _=>by kernel_rfl) (by kernel_rfl) 3 rfl (by kernel_rfl) (by kernel_rfl) (by decide +kernel)
theorem Nq(B:Bs C mg mb):az C mg mb 5 "mvadd" (.fn BV):=
 az.bT (bG B (K:=4) (au (wx B) (au (Ij B) bJ dq) dq) (bI 16 dq) _ (by kernel_rfl) ["a","b"] (fun _ _ _=>b2 fun _ _=>by kernel_rfl) (by kernel_rfl) 2 rfl (by kernel_rfl) (by kernel_rfl) (by decide +kernel)) fun _=>HY
theorem Rz(B:Bs C mg mb):az C mg mb 2 "mvneg" (.fn yj):=
 az.bT (bG B (K:=1) (au (K2 B) bJ dq) (bI 18 dq) _ (by kernel_rfl) ["a"] (fun _ _ _=>b1 fun _=>by kernel_rfl) (by kernel_rfl) 1 rfl (by kernel_rfl) (by kernel_rfl) (by decide +kernel)) fun _=>bY
theorem Gx(B:Bs C mg mb):az C mg mb 6 "mvsub" (.fn rQ):=
 az.bT (bG B (K:=5) (au (Nq B) (au (Rz B) bJ dq) dq) (bI 19 dq) _ (by kernel_rfl) ["a","b"] (fun _ _ _=>b2 fun _ _=>by kernel_rfl) (by kernel_rfl) 2 rfl (by kernel_rfl) (by kernel_rfl) (by decide +kernel)) fun _=>HY
theorem Wx(B:Bs C mg mb):az C mg mb 4 "mvscale" (.fn BN):=
 az.bT (bG B (K:=3) (au (pR B) (au (vJ B) bJ dq) dq) (bI 20 dq) _ (by kernel_rfl) ["a","rational"] (fun _ _ _=>b2 fun _ _=>by kernel_rfl) (by kernel_rfl) 2 rfl (by kernel_rfl) (by kernel_rfl) (by decide +kernel)) fun _=>bY
theorem Jv(B:Bs C mg mb):az C mg mb 4 "mvshift" (.fn oO):=
 az.bT (bG B (K:=3) (au (pR B) (au (OO B) (au (vJ B) bJ dq) dq) dq) (bI 21 dq) _ (by kernel_rfl) ["a","powers","rational"] (fun _ _ _=>b3 fun _ _ _=>by kernel_rfl) (by kernel_rfl) 3 rfl (by kernel_rfl) (by kernel_rfl) (by decide +kernel)) fun _=>bY
theorem lV(B:Bs C mg mb):az C mg mb 2 "mvlead" (.fn cV):=
 az.bT (bG B (K:=1) (au (Ap B) bJ dq) (bI 22 dq) _ (by kernel_rfl) ["a","order"] (fun _ _ _=>b2 fun _ _=>by kernel_rfl) (by kernel_rfl) 2 rfl (by kernel_rfl) (by kernel_rfl) (by decide +kernel)) fun _=>bY
theorem CX(B:Bs C mg mb):az C mg mb 5 "mvmonic" (.fn jn):=
 az.bT (bG B (K:=4) (au (lV B) (au (Wx B) (au (GD B) bJ dq) dq) dq) (bI 23 dq) _ (by kernel_rfl) ["a","order"] (fun _ _ _=>b2 fun _ _=>by kernel_rfl) (by kernel_rfl) 2 rfl (by kernel_rfl) (by kernel_rfl) (by decide +kernel)) fun _=>bY
theorem CY(B:Bs C mg mb):az C mg mb 2 "first_divisor" (.fn pC):=
 az.bT (bG B (K:=1) (au (gX B) (au (G6 B) bJ dq) dq) (bI 24 dq) _ (by kernel_rfl) ["powers","leads"] (fun _ _ _=>b2 fun _ _=>by kernel_rfl) (by kernel_rfl) 2 rfl (by kernel_rfl) (by kernel_rfl) (by decide +kernel)) fun _=>bY
theorem Xy(B:Bs C mg mb):az C mg mb 7 "mvdivide" (.fn v8):=
 az.bT (bG B (K:=6) (au (wi B) (au (lV B) (au (wx B) (au (jD B) (au (CY B) (au (Ij B) (au (Gx B) (au (L9 B) (au (TJ B) (au (QO B) (au (Sk B) (au (Er B) (au (Dq B) (au (Jv B) bJ dq) dq) dq) dq) dq) dq) dq) dq) dq) dq) dq) dq) dq) dq) (bI 25 dq) _ (by kernel_rfl) ["f","some","order"] (fun _ _ _=>b3 fun _ _ _=>by kernel_rfl) (by kernel_rfl) 3 rfl (by kernel_rfl) (by kernel_rfl) (by decide +kernel)) fun _=>K5
theorem yd(B:Bs C mg mb):az C mg mb 8 "rest_of" (.fn kn):=
 az.bT (bG B (K:=7) (au (Xy B) bJ dq) (bI 26 dq) _ (by kernel_rfl) ["f","some","order"] (fun _ _ _=>b3 fun _ _ _=>by kernel_rfl) (by kernel_rfl) 3 rfl (by kernel_rfl) (by kernel_rfl) (by decide +kernel)) fun _=>K5
theorem Yo(B:Bs C mg mb):az C mg mb 7 "s_poly" (.fn tJ):=
 az.bT (bG B (K:=6) (au (CW B) (au (Jv B) (au (Gx B) (au (lV B) (au (Er B) (au (GD B) bJ dq) dq) dq) dq) dq) dq) (bI 27 dq) _ (by kernel_rfl) ["f","g","order"] (fun _ _ _=>b3 fun _ _ _=>by kernel_rfl) (by kernel_rfl) 3 rfl (by kernel_rfl) (by kernel_rfl) (by decide +kernel)) fun _=>bY
theorem DW(B:Bs C mg mb):az C mg mb 3 "is_divided" (.fn pN):=
 az.bT (bG B (K:=2) (au (CY B) (au (AG B) bJ dq) dq) (bI 28 dq) _ (by kernel_rfl) ["powers","leads"] (fun _ _ _=>b2 fun _ _=>by kernel_rfl) (by kernel_rfl) 2 rfl (by kernel_rfl) (by kernel_rfl) (by decide +kernel)) fun _=>bY
theorem YU(B:Bs C mg mb):az C mg mb 4 "standard_powers" (.fn uQ):=
 az.bT (bG B (K:=3) (au (KY B) (au (jD B) (au (mD B) (au (lV B) (au (DW B) bJ dq) dq) dq) dq) dq) (bI 29 dq) _ (by kernel_rfl) ["basis","order","n"] (fun _ _ _=>b3 fun _ _ _=>by kernel_rfl) (by kernel_rfl) 3 rfl (by kernel_rfl) (by kernel_rfl) (by decide +kernel)) fun _=>bY
theorem tc(B:Bs C mg mb):az C mg mb 1 "shape" (.fn iN):=
 bG B (K:=0) (au (jD B) bJ dq) (bI 30 dq) _ (by kernel_rfl) ["a"] (fun _ _ _=>b1 fun _=>by kernel_rfl) (by kernel_rfl) 1 rfl (by kernel_rfl) (by kernel_rfl) (by decide +kernel)
theorem vS(B:Bs C mg mb):az C mg mb 1 "need_shape" (.fn pS):=
 az.bT (bG B (K:=0) bJ (bI 31 dq) _ (by kernel_rfl) ["is_right","text"] (fun _ _ _=>b2 fun _ _=>by kernel_rfl) (by kernel_rfl) 2 rfl (by kernel_rfl) (by kernel_rfl) (by decide +kernel)) fun _=>bY
theorem ZU(B:Bs C mg mb):az C mg mb 1 "unit_matrix" (.fn sY):=
 az.bT (bG B (K:=0) (au (AG B) (au (pR B) (au (mD B) bJ dq) dq) dq) (bI 32 dq) _ (by kernel_rfl) ["n"] (fun _ _ _=>b1 fun _=>by kernel_rfl) (by kernel_rfl) 1 rfl (by kernel_rfl) (by kernel_rfl) (by decide +kernel)) fun _=>bY
theorem Q5(B:Bs C mg mb):az C mg mb 2 "transposed" (.fn wg):=
 az.bT (bG B (K:=1) (au (mD B) (au (tc B) bJ dq) dq) (bI 33 dq) _ (by kernel_rfl) ["a"] (fun _ _ _=>b1 fun _=>by kernel_rfl) (by kernel_rfl) 1 rfl (by kernel_rfl) (by kernel_rfl) (by decide +kernel)) fun _=>bY
theorem We(B:Bs C mg mb):az C mg mb 4 "dot" (.fn oZ):=
 az.bT (bG B (K:=3) (au (pR B) (au (gX B) (au (vN B) (au (vJ B) bJ dq) dq) dq) dq) (bI 34 dq) _ (by kernel_rfl) ["one","other"] (fun _ _ _=>b2 fun _ _=>by kernel_rfl) (by kernel_rfl) 2 rfl (by kernel_rfl) (by kernel_rfl) (by decide +kernel)) fun _=>bY
theorem N3(B:Bs C mg mb):az C mg mb 4 "mat_add" (.fn uk):=
 az.bT (bG B (K:=3) (au (vS B) (au (tc B) (au (vN B) (au (gX B) bJ dq) dq) dq) dq) (bI 35 dq) _ (by kernel_rfl) ["a","b"] (fun _ _ _=>b2 fun _ _=>by kernel_rfl) (by kernel_rfl) 2 rfl (by kernel_rfl) (by kernel_rfl) (by decide +kernel)) fun _=>bY
theorem TK(B:Bs C mg mb):az C mg mb 4 "mat_scale" (.fn vl):=
 az.bT (bG B (K:=3) (au (vJ B) bJ dq) (bI 36 dq) _ (by kernel_rfl) ["a","number"] (fun _ _ _=>b2 fun _ _=>by kernel_rfl) (by kernel_rfl) 2 rfl (by kernel_rfl) (by kernel_rfl) (by decide +kernel)) fun _=>bY
theorem PM(B:Bs C mg mb):az C mg mb 5 "mat_mul" (.fn tn):=
 bG B (K:=4) (au (vS B) (au (Q5 B) (au (jD B) (au (We B) (au (tc B) bJ dq) dq) dq) dq) dq) (bI 37 dq) _ (by kernel_rfl) ["a","b"] (fun _ _ _=>b2 fun _ _=>by kernel_rfl) (by kernel_rfl) 2 rfl (by kernel_rfl) (by kernel_rfl) (by decide +kernel)
theorem LZ(B:Bs C mg mb):az C mg mb 4 "trace" (.fn uE):=
 az.bT (bG B (K:=3) (au (pR B) (au (vS B) (au (mD B) (au (jD B) (au (vN B) (au (tc B) bJ dq) dq) dq) dq) dq) dq) (bI 38 dq) _ (by kernel_rfl) ["a"] (fun _ _ _=>b1 fun _=>by kernel_rfl) (by kernel_rfl) 1 rfl (by kernel_rfl) (by kernel_rfl) (by decide +kernel)) fun _=>bY
theorem NW(B:Bs C mg mb):az C mg mb 6 "charpoly" (.fn rN):=
 bG B (K:=5) (au (jD B) (au (vS B) (au (mD B) (au (AG B) (au (ZU B) (au (PM B) (au (K2 B) (au (N3 B) (au (Dq B) (au (TK B) (au (tc B) (au (LZ B) bJ dq) dq) dq) dq) dq) dq) dq) dq) dq) dq) dq) dq) (bI 39 dq) _ (by kernel_rfl) ["a"] (fun _ _ _=>b1 fun _=>by kernel_rfl) (by kernel_rfl) 1 rfl (by kernel_rfl) (by kernel_rfl) (by decide +kernel)
theorem KX(B:Bs C mg mb):az C mg mb 2 "pair_key" (.fn u4):=
 az.bT (bG B (K:=1) (au (CW B) (au (Ap B) bJ dq) dq) (bI 40 dq) _ (by kernel_rfl) ["pair","leads","order"] (fun _ _ _=>b3 fun _ _ _=>by kernel_rfl) (by kernel_rfl) 3 rfl (by kernel_rfl) (by kernel_rfl) (by decide +kernel)) fun _=>bY
theorem Lo(B:Bs C mg mb):az C mg mb 3 "is_needless" (.fn tQ):=
 az.bT (bG B (K:=2) (au (RT B) (au (CW B) (au (gX B) (au (G6 B) (au (EI B) (au (wi B) bJ dq) dq) dq) dq) dq) dq) (bI 41 dq) _ (by kernel_rfl) ["pair","waiting","leads"] (fun _ _ _=>b3 fun _ _ _=>by kernel_rfl) (by kernel_rfl) 3 rfl (by kernel_rfl) (by kernel_rfl) (by decide +kernel)) fun _=>bY
theorem T4(B:Bs C mg mb):az C mg mb 3 "least_pair" (.fn vO):=
 az.bT (bG B (K:=2) (au (KX B) bJ dq) (bI 42 dq) _ (by kernel_rfl) ["waiting","leads","order"] (fun _ _ _=>b3 fun _ _ _=>by kernel_rfl) (by kernel_rfl) 3 rfl (by kernel_rfl) (by kernel_rfl) (by decide +kernel)) fun _=>bY
theorem NK(B:Bs C mg mb):az C mg mb 9 "groebner" (.fn zt):=
 az.bT (bG B (K:=8) (au (CX B) (au (jD B) (au (T4 B) (au (Lo B) (au (yd B) (au (lV B) (au (mD B) (au (Yo B) bJ dq) dq) dq) dq) dq) dq) dq) dq) (bI 43 dq) _ (by kernel_rfl) ["some","order","most"] (fun _ _ _=>b3 fun _ _ _=>by kernel_rfl) (by kernel_rfl) 3 rfl (by kernel_rfl) (by kernel_rfl) (by decide +kernel)) fun _=>bY
theorem Y2(B:Bs C mg mb):az C mg mb 4 "minimal_basis" (.fn yO):=
 az.bT (bG B (K:=3) (au (gX B) (au (lV B) (au (DW B) (au (jD B) bJ dq) dq) dq) dq) (bI 44 dq) _ (by kernel_rfl) ["basis","order"] (fun _ _ _=>b2 fun _ _=>by kernel_rfl) (by kernel_rfl) 2 rfl (by kernel_rfl) (by kernel_rfl) (by decide +kernel)) fun _=>bY
theorem UB(B:Bs C mg mb):az C mg mb 9 "reduced_form" (.fn xT):=
 az.bT (bG B (K:=8) (au (Y2 B) (au (Ap B) (au (gX B) (au (CX B) (au (yd B) (au (lV B) bJ dq) dq) dq) dq) dq) dq) (bI 45 dq) _ (by kernel_rfl) ["basis","order"] (fun _ _ _=>b2 fun _ _=>by kernel_rfl) (by kernel_rfl) 2 rfl (by kernel_rfl) (by kernel_rfl) (by decide +kernel)) fun _=>bY
theorem VL(B:Bs C mg mb):az C mg mb 10 "reduced_basis" (.fn wh):=
 az.bT (bG B (K:=9) (au (UB B) (au (NK B) bJ dq) dq) (bI 46 dq) _ (by kernel_rfl) ["some","order","most"] (fun _ _ _=>b3 fun _ _ _=>by kernel_rfl) (by kernel_rfl) 3 rfl (by kernel_rfl) (by kernel_rfl) (by decide +kernel)) fun _=>bY
theorem Ex(B:Bs C mg mb):az C mg mb 1 "_law_take" (.fn dD):=
 bG B (K:=0) bJ (bI 47 dq) _ (by kernel_rfl) ["box","many"] (fun _ _ _=>b2 fun _ _=>by kernel_rfl) (by kernel_rfl) 2 rfl (by kernel_rfl) (by kernel_rfl) (by decide +kernel)
theorem SU(B:Bs C mg mb):az C mg mb 1 "_law_poly" (.fn ju):=
 bG B (K:=0) (au (wx B) bJ dq) (bI 48 dq) _ (by kernel_rfl) ["pairs"] (fun _ _ _=>b1 fun _=>by kernel_rfl) (by kernel_rfl) 1 rfl (by kernel_rfl) (by kernel_rfl) (by decide +kernel)
theorem QH(B:Bs C mg mb):az C mg mb 2 "_law_ideal" (.fn nz):=
 bG B (K:=1) (au (SU B) (au (Ex B) bJ dq) dq) (bI 49 dq) _ (by kernel_rfl) ["box"] (fun _ _ _=>b1 fun _=>by kernel_rfl) (by kernel_rfl) 1 rfl (by kernel_rfl) (by kernel_rfl) (by decide +kernel)
theorem KW(B:Bs C mg mb):az C mg mb 9 "_law_letter" (.fn kN):=
 az.bT (bG B (K:=8) (au (yd B) bJ dq) (bI 50 dq) _ (by kernel_rfl) ["at","powers","basis","order"] (fun _ _ _=>b4 fun _ _ _ _=>by kernel_rfl) (by kernel_rfl) 4 rfl (by kernel_rfl) (by kernel_rfl) (by decide +kernel)) fun _=>bY
theorem XI(B:Bs C mg mb):az C mg mb 1 "_law_times" (.fn pI):=
 az.bT (bG B (K:=0) (au (C6 B) (au (mD B) (au (jD B) (au (gX B) bJ dq) dq) dq) dq) (bI 51 dq) _ (by kernel_rfl) ["a","b"] (fun _ _ _=>b2 fun _ _=>by kernel_rfl) (by kernel_rfl) 2 rfl (by kernel_rfl) (by kernel_rfl) (by decide +kernel)) fun _=>bY
theorem Ym(B:Bs C mg mb):az C mg mb 11 "law" (.fn Js):=
 bG B (K:=10) (au (QH B) (au (VL B) (au (YU B) (au (jD B) (au (KW B) (au (NW B) (au (Y9 B) (au (Ex B) (au (XI B) (au (gX B) (au (Qh B) bJ dq) dq) dq) dq) dq) dq) dq) dq) dq) dq) dq) (bI 52 dq) _ (by kernel_rfl) ["script"] (fun _ _ _=>b1 fun _=>by kernel_rfl) (by kernel_rfl) 1 rfl (by kernel_rfl) (by kernel_rfl) (by decide +kernel)
end
end
section
open PySem PySem.Calls PyProof.Rows PySem.W
theorem all_ints(l:List Int):∀(vs:List Value) (xs:List WData),xs=l.map .int->WellAll P h vs xs->bD kh φ M h (l.map .int) vs:=by
 induction l with
 |nil=>
  intro vs xs e W;subst e;cases W;exact .nil
 |cons a l ih=>
  intro vs xs e W;subst e;cases W with
  |cons a b=>cases a;exact .cons (.int _ _) (ih _ _ rfl b)
theorem Uw(l:List Int):ofPy (.list (l.map .int)) = .list (l.map .int):=by
 show WData.list (ofPys _)=_;rw[ofPys_eq,d5];rfl
theorem I0{C:Cf}(h:∃o,C.h₀.get? sysModules=some o):C.I ⟨fun _=>none,fun _=>False⟩ ⟨0,[]⟩ C.h₀ where
 base:=fun _ _ e=>e
 objs:=fun _ m=>by cases m
 nodup:=List.nodup_nil
 inj:=fun _ m=>by cases m
 lt:=fun _ m=>by cases m
 fresh:=fun _ _=>rfl
 cC:=fun _ f=>f.elim
 sys:=h
theorem NY{P:Params}{C:Cf}{a:Addr}{l:List Int}(W:Well P C.h₀ (.ref a) (ofPy (PyData.list (l.map PyData.int)))):C.Rs ⟨fun _=>none,fun _=>False⟩ ⟨0,[]⟩ C.h₀ [.lst (l.map .int)] [.ref a]:=by
 rw[Uw]at W;cases W with
 |list g r=>
  refine .cons (.lst g ?_ (all_ints l _ _ rfl r)) .nil;rintro (⟨e,m,_⟩|f)
  ·cases m
  ·exact f
theorem LB:Rm callerA 30:=⟨rfl,by decide,by decide⟩
set_option maxHeartbeats 8000000 in
theorem law_holds(Xx:∀l:List Int,l.length<=63->∃H',Js [.lst (l.map .int)] ⟨0,[]⟩=some (.bool true,H')):PySem.Challenge.rw_sa0118_01.Holds:=hd (by
 intro w aa8 s₁ mg mb G Y fa o pm cd doc dV kV ho hd GF hD Zu hg args vals as aat O4 SH PZ oD;refine Ground.open G ?_;intro T B D TE TW
 wrow_args aat O4 SH PZ oD
 rename Well _ _ _ _=>w1
 rename IntsAre _ _=>hI
 rename List Int=>l
 have B0:Bs ⟨PySem.Challenge.rw_sa0118_01.row.prog,w,s₁.heap⟩ mg mb:=⟨fun _=>rfl,⟨_,T⟩,Y⟩;obtain⟨_,a,o',fd,h1,h2,h3,hc⟩:=Ym B0;have GW:mg "law" = some (Value.ref fa):=Zu;rw[h1]at GW;cases GW;have Li:∃o,s₁.heap.get? sysModules=some o:=by
  obtain⟨mm,x,_⟩:=(T.seer (by kernel_rfl)).mods;exact mY x
 obtain⟨H',hl⟩:=Xx l (by rename ¬ _=>hq;lia);refine(hc.more (m:=30) dq) callerA ⟨fun _=>none,fun _=>False⟩ ⟨0,[]⟩ s₁ _ _ _ H' _ _ LB (I0 Li) (NY w1) hl ?_;intro x a8 h' tk S I' r;cases r;refine⟨.inl ⟨_,.bool true,[],rfl,fun cls=>rfl,.bool true,?_,unshared_nil⟩,.of_keep fun b o e=>S.keep b o e ?_,rfl,.of_eq hg⟩
 ·exact postW_of rfl (w_eq_bool (w_res rfl) w_lit) rfl
 ·rintro ⟨e,m,_⟩;cases m)
end
end Internal
end
end Mine
set_option maxHeartbeats 4000000 in
theorem PySem.Challenge.cw_sa0118_01_holds : PySem.Challenge.rw_sa0118_01.Holds :=
  Mine.Internal.law_holds fun l hl => Mine.Internal.law_run Mine.Internal.all_ok l hl
