import PyProof.Rows.All
import PyProof.EnumFor
import PyProof.EnumStmt
import PyProof.EnumMake
import Open.Line
import KE.KItem
import KE.KLam
import KE.KDictSum
import KE.KSortTup
import ObjForm.ListNI
import Wide.FinOn
import OpenK.AllK
import Wide.All
import PySem.Challenge.RW_nn0408_01
set_option Elab.async false
set_option linter.all false
namespace Mine.Internal
open And renaming intro->o9
open Array renaming length_toList->md,getElem?_toList->qz,any_toList->vz
open Bind renaming bind->ka
open Bool renaming and_eq_true_iff->bo,and_eq_true->bD,not_eq_true'->c6,eq_false_iff->d9,or_eq_true->fE,eq_iff_iff->g8,or_eq_false_iff->iN,or_eq_true_iff->ma,false_eq_true->nh,beq_eq_decide_eq->qx,true_and->sT,or_true->uL,or_false->zD
open Classical renaming epsilon_spec->pY
open Decidable renaming not_not->uO
open Exists renaming elim->CU
open False renaming elim->cG
open ForInStep renaming yield->w0
open Iff renaming rfl->iw
open Inhabited renaming default->pO
open Int renaming natCast_nonneg->cu,ofNat_lt->ft,ofNat->hX,emod_lt_of_pos->jG,emod_nonneg->l5,toNat_of_nonneg->l8,ofNat_le->mC,fdiv_eq_ediv_of_nonneg->m9,toNat_natCast->nU,mul_nonneg->rK,toNat->vH,natCast_pow->wW,mul_le_mul->yW,ofNat_sub->zG,le_of_lt->BA,zero_add->BC
open Int.ofNat renaming inj->cQ
open LawfulBEq renaming eq_of_beq->Ad
open List renaming getElem?_eq_getElem->ah,length_map->ai,mem_singleton->aq,length_append->aC,getElem?_eq_some_iff->aE,mem_append->aI,append_assoc->aJ,mem_append_right->aL,mem_of_getElem?->aX,mem_cons->a9,getElem?_map->bb,append_nil->be,mem_append_left->bh,toArray->bu,length_cons->bv,map_append->bw,mem_cons_of_mem->bA,size_toArray->bB,map_cons->bC,mem_cons_self->bF,mem_map->bG,range->bN,replicate->bX,length_range->b7,dropLast_concat_getLast->ca,pairwise_singleton->cb,drop_eq_getElem_cons->cc,length_eq_zero_iff->co,getElem?_eq_none->cq,lookup_cons->cz,nodup_cons->cC,getElem?_append_left->cI,getElem_of_mem->cX,all_eq_true->c3,nodup_append->c7,mem_range->du,map_congr_left->dA,map_map->dE,not_mem_nil->dN,getElem?_set_self->dO,length->dW,getElem?_append_right->eC,filterMap_cons->eE,getElem?_toArray->eT,contains_cons->e9,isEmpty_iff->fe,getElem?_set_ne->fu,pairwise_append->fw,length_set->fF,mem_filter->fG,nodup_nil->fW,pairwise_cons->fX,length_nil->gc,reverse_append->gG,drop_length->gL,idxOf_lt_length_of_mem->iz,foldl_append->iA,getElem?_concat_length->iB,cons_append->iV,length_take->iX,pairwise_iff_getElem->iZ,mem_map_of_mem->jc,mem_of_elem_eq_true->jj,any_cons->jk,nil_append->jx,getElem_idxOf->jE,flatMap_cons->kh,take_add_one->ki,take_append_drop->ku,mem_iff_getElem?->ky,length_drop->kM,map_reverse->kN,all_cons->kU,sum_cons->kW,range_eq_range'->lz,dropLast_subset->lB,drop_eq_nil_iff->lH,drop_append_of_le_length->lJ,foldl_cons->lZ,getElem?_range->l9,map_nil->mA,mem_of_find?_eq_some->nx,reverse_cons->nJ,pairwise_map->nQ,range'->nT,take_length->pg,filter_cons->pi,mem_flatMap->pj,nodup_range->pt,getElem_mem->pu,length_eq_one_iff->pR,find?_cons->qg,length_replicate->qw,contains_iff_mem->qA,length_filter_le->qB,lookup->rq,replicate_succ->sg,map_eq_nil_iff->sq,length_reverse->sv,perm_singleton->sw,zip_cons_cons->tC,idxOf_append->uQ,getElem?_inj->uR,getLast_mem->vD,any_eq_true->vE,find?_some->wY,forIn_cons->wZ,take_left'->w5,drop_left'->w6,idxOf_cons->w8,sum_append->w9,drop_drop->yV,drop_nil->zB,map_id->CY
open List.Pairwise renaming imp_of_mem->zF
open List.cons renaming inj->jo
open Nat renaming le_of_ble_eq_true->aj,sub_add_cancel->ar,le_refl->aG,le_antisymm->aN,le_trans->a8,zero_le->bg,le_add_right->bE,lt_succ_self->bR,add_le_add_left->bV,ne_of_lt->ce,eq_of_testBit_eq->cK,lt_succ_of_lt->cM,succ_le_succ->c5,mul_le_mul_right->dh,testBit_or->dH,le_succ->dI,lt_or_eq_of_le->dJ,zero_add->dM,mul_le_mul_left->dT,le_of_lt_succ->dX,pow_le_pow_right->dZ,lt_irrefl->fo,add_mul->fN,add_le_add->fT,succ_ne_zero->gK,le_of_not_lt->gM,one_mul->gR,testBit_one_eq_true_iff_self_eq_zero->im,ble->iu,lt_trichotomy->iy,not_lt->iM,lt_pow_two_of_testBit->i0,beq->jr,testBit_xor->js,testBit_and->jt,min_eq_left->ju,not_lt_zero->jv,lt_of_le_of_lt->jA,lt_of_lt_of_le->jF,lt_add_of_pos_right->jT,succ_mul->kg,eq_of_beq_eq_true->kr,lt_of_not_le->kJ,mod->kS,testBit_two_pow->mf,le_of_eq->my,le_of_lt->mz,lt_of_le_of_ne->nn,div->nH,one_shiftLeft->nR,succ->oY,zero_testBit->oZ,le_mul_of_pos_right->pq,add_comm->pN,ne_of_gt->pX,sub_self->pZ,and_comm->p8,ble_eq_true_of_le->qu,add_le_add_right->ri,mul_le_mul->rJ,add_sub_cancel'->su,add_assoc->sM,and_one_is_mod->tD,mul_zero->uC,lt_trans->uP,testBit_zero->vF,testBit_succ->vG,min_le_left->wX,strongRecOn->w7,blt->xt,sub_le->yU,add_zero->Bt,xor_zero->BB,sub->EX,pow->EY
open Nat.succ renaming inj->cL
open Ne renaming symm->aV
open Option renaming bind->eJ,map->fV,isSome_iff_exists->gC,none->lp,map_some->lW
open Option.some renaming inj->ac
open Prod renaming ext->CW,mk->EZ
open Prod.mk renaming inj->eL,injEq->zC
open Pure renaming pure->dD
open PyProof.Rows renaming seqObj->fU,getMethod_list_of->kb,size_push'->pW,get?_update_seq->qk,listUpdate_at->sR,seqEpoch_at->wh,IntsAre->xx,sortedHeap->yT
open PySem renaming wpAny_bind->aB,Value->aD,Shared->aU,Addr->aY,wpAny_pure->bc,model->bI,wpAny_holding->bP,eval->bS,foldedSetIterable->bW,wpAny_standAt->bZ,wpAny_mono->b0,Heap->cx,NameKind->cZ,mainGlobals->dz,importedModules->dK,wpAny_assign_Name->eB,intKind->eQ,starEach->eU,DictEntry->eZ,swappedStores->fq,Program->fy,wpAny_storeName_local->fY,letOwnedTupleGo->f9,swapsWith->gb,Comprehension->gB,sysModules->gW,Pos->hU,treeTable->hV,Stmt->ij,wpAny_truthy_bool->ix,wpAny_newFunctionEnv->iO,PyData->ja,backTo->jb,wpAny_newList->ji,wpAny_comprehension_free->jm,closureFor->jC,assignEach->jD,Arguments->jQ,wpAny_list_append_plain->jS,exec_Assign_Name_used->kt,builtinsNs->kK,behindInMarks->kT,Operator->lq,wpAny_letTemporaryGo->lx,sizeLine_eq->ly,Around->lY,wpAny_operating->l0,wpAny_execs_nil->l4,World->m7,intKind_is->nb,letTemporaryGo->ng,exec->ny,subscripted->nK,getMethod_builtin->nM,notedBy->nN,wpAny_of_eq->nO,rawInt->ot,methodCallPos->ou,arm_evalThenUse_ListComp->ow,Env->o7,compareOp->o8,wpAny_execs_cons->pc,codeAny_mono->pS,codeAny_compStart_list->pU,standAt->pV,CmpOp->qf,getitemInPython->qh,wpAny_specialOf->qi,execs->ql,wpAny_pyIter_listiter->qy,wpAny_loadName_local->rD,compEnvC->rG,compPost->rH,methodCallForm->rI,valueAt->rY,wpAny_loadName_cell->si,wpAny_loadName_free->sj,codeAny_forLoop_any->sk,wpAny_Assign_stores->sn,attributeBase->sN,comprehension->sP,assignInOrder->sQ,call_meets->tz,pyNext->tA,arm_eval_Subscript->tB,FuncData->uE,slot_list_getitem->uH,Model->uI,spliced->uJ,callWith->uK,wpAny_pyIter_list->uM,Sem->uU,getMethod->vv,wpAny_askSetting->vw,wpAny_call_entry->vx,notIterableAtAll->vy,cellsFrom->vA,wpAny_eqBool_int->vB,IsRangeIter->vZ,keywordEach->we,OsState->xr,allTrue->xw,FuncBody->yL,Result->yN,binaryOp->yO,compTurn->yP,wpAny_rule->yQ,boolOp->yR,bindArgs->yS,noteFrame->Ac,Thread->Bv,operate->Bx,getItem->By,pyIter->Bz
open PySem.Calls renaming evalArgs_plain->rF,spliced_cons->uN,spliced_nil->wg
open PySem.Code renaming builtin->kf
open PySem.DictEntry renaming refKey->vu
open PySem.Expr renaming Name->kL
open PySem.Heap renaming get?_push_of_some->aQ,get?_push_size->bk,lt_size->bY,SameBut->cy,size_push->eA,get?_push_ne->gu,size_update->iW,get?_update_ne->sr,ExtBut->CT
open PySem.Heap.DictOf renaming new->qj
open PySem.Heap.IsSliceOf renaming new->D2
open PySem.Heap.SameBut renaming update->me
open PySem.NameKind renaming free->sO
open PySem.Obj renaming mapSeq->dY
open PySem.PyData renaming tuple->dj,canLayAll0->fA,eqv->fC,canLay0->gN,depthAll->g0,keyHash->ke,depth->mB,int->nk,eqvAll->zE
open PySem.Str renaming ofString->ae,ofString_eq_toList->pT,join->CZ
open PySem.Txt renaming join->CX
open PySem.Value renaming int->Aa,isInt->CV
open PySem.W renaming emptyDict->eF,instObj->eP,SharedT->iU,findIn->jz,boot_heap->jR,namesBound->m8,specialIn->o0,staticsOk->o6,dictOf->pP,tabObj->rj,gensDone->rA,laidKept->rC,callWith_of->rE,readsIn->uD,openSeen->uF,openGood->uG,WRecords->uS,topStub->xu,boot_drawn->yM,boot_toks->Ab,WData->Ae,Frag->Bu,topRun->Bw,getL->D3
open PySem.W.WShape renaming hasItems->qm,has->yX
open PySem.W.WTm renaming holds->Af
open True renaming intro->bL
open PySem PySem.W PySem.Calls PyProof.Rows
set_option genInjectivity false
set_option genSizeOf false
set_option bootstrap.genMatcherCode false
set_option backward.match.sparseCases false
inductive LT|v(i:Nat)|n(k:Nat)|a(x y:LT)|m(k:Nat)(x:LT)|r(x:LT)(k:Nat)
structure LK where
 k:Nat
 c:Nat
 x:LT
 y:LT
theorem bx{α:Type u}{v:α}{G:Prop}(h:none=some v):G:=nomatch h
theorem n9{α:Type u}{v:α}{G:Prop}(h:some v=none):G:=nomatch h
theorem mj{G:Prop}(h:false=true):G:=nomatch h
theorem Ig{G:Prop}(h:true=false):G:=nomatch h
@[elab_as_elim] theorem ao{α:Sort u}{a b:α}{P:α->Prop}(h:a=b)(k:P b):P a:=h▸k
@[elab_as_elim] theorem dk{α:Sort u}{a b:α}{P:α->Prop}(h:b=a)(k:P b):P a:=h▸k
theorem oB{α β:Type}{o:Option α}{f:α->Option β}{b:β}{G:Prop}(h:o.bind f=some b)(k:∀a,o=some a->f a=some b->G):G:=by
 cases o with
 |none=>exact bx h
 |some a=>exact k a rfl h
theorem oM{α β:Type}{o:Option α}{f:α->β}{b:β}{G:Prop}(h:o.map f=some b)(k:∀a,o=some a->f a=b->G):G:=by
 cases o with
 |none=>exact bx h
 |some a=>exact k a rfl (ac h)
theorem eX{p0:Prop}{p1:Prop}{p2:Prop}{G:Prop}(h:p0/\p1/\p2)(k:p0->p1->p2->G):G:=k h.1 h.2.1 h.2.2
theorem bJ{α0:Sort _}{p1:α0->Prop}{p2:α0->Prop}{G:Prop}(h:∃x0:α0,p1 x0/\p2 x0)(k:∀x0:α0,p1 x0->p2 x0->G):G:=h.elim λx h=>k x h.1 h.2
theorem zt{α0:Sort _}{α1:Sort _}{p2:α0->α1->Prop}{G:Prop}(h:∃x0:α0,∃x1:α1,p2 x0 x1)(k:∀x0:α0,∀x1:α1,p2 x0 x1->G):G:=h.elim λx h=>h.elim (k x)
theorem ID{p0:Prop}{α1:Sort _}{p2:α1->Prop}{G:Prop}(h:p0/\(∃x1:α1,p2 x1))(k:p0->∀x1:α1,p2 x1->G):G:=h.2.elim (k h.1)
theorem iq{p0:Prop}{p1:Prop}{p2:Prop}{p3:Prop}{G:Prop}(h:p0/\p1/\p2/\p3)(k:p0->p1->p2->p3->G):G:=eX h.2 (k h.1)
theorem d4{α0:Sort _}{p1:α0->Prop}{p2:α0->Prop}{p3:α0->Prop}{G:Prop}(h:∃x0:α0,p1 x0/\p2 x0/\p3 x0)(k:∀x0:α0,p1 x0->p2 x0->p3 x0->G):G:=h.elim λx3 h=>eX h (k x3)
theorem lk{α0:Sort _}{α1:Sort _}{p2:α0->α1->Prop}{p3:α0->α1->Prop}{G:Prop}(h:∃x0:α0,∃x1:α1,p2 x0 x1/\p3 x0 x1)(k:∀x0:α0,∀x1:α1,p2 x0 x1->p3 x0 x1->G):G:=h.elim λx3 h=>bJ h (k x3)
theorem MM{α0:Sort _}{α1:Sort _}{α2:Sort _}{p3:α0->α1->α2->Prop}{G:Prop}(h:∃x0:α0,∃x1:α1,∃x2:α2,p3 x0 x1 x2)(k:∀x0:α0,∀x1:α1,∀x2:α2,p3 x0 x1 x2->G):G:=h.elim λx3 h=>zt h (k x3)
theorem NS{p0:Prop}{α1:Sort _}{p2:α1->Prop}{p3:α1->Prop}{G:Prop}(h:p0/\(∃x1:α1,p2 x1/\p3 x1))(k:p0->∀x1:α1,p2 x1->p3 x1->G):G:=bJ h.2 (k h.1)
theorem MQ{p0:Prop}{p1:Prop}{α2:Sort _}{p3:α2->Prop}{G:Prop}(h:p0/\p1/\(∃x2:α2,p3 x2))(k:p0->p1->∀x2:α2,p3 x2->G):G:=ID h.2 (k h.1)
theorem nY{p0:Prop}{p1:Prop}{p2:Prop}{p3:Prop}{p4:Prop}{G:Prop}(h:p0/\p1/\p2/\p3/\p4)(k:p0->p1->p2->p3->p4->G):G:=iq h.2 (k h.1)
theorem xy{α0:Sort _}{p1:α0->Prop}{p2:α0->Prop}{p3:α0->Prop}{p4:α0->Prop}{G:Prop}(h:∃x0:α0,p1 x0/\p2 x0/\p3 x0/\p4 x0)(k:∀x0:α0,p1 x0->p2 x0->p3 x0->p4 x0->G):G:=h.elim λx4 h=>iq h (k x4)
theorem cr{α0:Sort _}{α1:Sort _}{p2:α0->α1->Prop}{p3:α0->α1->Prop}{p4:α0->α1->Prop}{G:Prop}(h:∃x0:α0,∃x1:α1,p2 x0 x1/\p3 x0 x1/\p4 x0 x1)(k:∀x0:α0,∀x1:α1,p2 x0 x1->p3 x0 x1->p4 x0 x1->G):G:=h.elim λx4 h=>d4 h (k x4)
theorem kC{α0:Sort _}{α1:Sort _}{α2:Sort _}{p3:α0->α1->α2->Prop}{p4:α0->α1->α2->Prop}{G:Prop}(h:∃x0:α0,∃x1:α1,∃x2:α2,p3 x0 x1 x2/\p4 x0 x1 x2)(k:∀x0:α0,∀x1:α1,∀x2:α2,p3 x0 x1 x2->p4 x0 x1 x2->G):G:=h.elim λx4 h=>lk h (k x4)
theorem Aj{p0:Prop}{p1:Prop}{p2:Prop}{p3:Prop}{p4:Prop}{p5:Prop}{G:Prop}(h:p0/\p1/\p2/\p3/\p4/\p5)(k:p0->p1->p2->p3->p4->p5->G):G:=nY h.2 (k h.1)
theorem Ag{α0:Sort _}{α1:Sort _}{p2:α0->α1->Prop}{p3:α0->α1->Prop}{p4:α0->α1->Prop}{p5:α0->α1->Prop}{G:Prop}(h:∃x0:α0,∃x1:α1,p2 x0 x1/\p3 x0 x1/\p4 x0 x1/\p5 x0 x1)(k:∀x0:α0,∀x1:α1,p2 x0 x1->p3 x0 x1->p4 x0 x1->p5 x0 x1->G):G:=h.elim λx5 h=>xy h (k x5)
theorem nE{α0:Sort _}{α1:Sort _}{α2:Sort _}{p3:α0->α1->α2->Prop}{p4:α0->α1->α2->Prop}{p5:α0->α1->α2->Prop}{G:Prop}(h:∃x0:α0,∃x1:α1,∃x2:α2,p3 x0 x1 x2/\p4 x0 x1 x2/\p5 x0 x1 x2)(k:∀x0:α0,∀x1:α1,∀x2:α2,p3 x0 x1 x2->p4 x0 x1 x2->p5 x0 x1 x2->G):G:=h.elim λx5 h=>cr h (k x5)
theorem D7{α0:Sort _}{α1:Sort _}{α2:Sort _}{α3:Sort _}{p4:α0->α1->α2->α3->Prop}{p5:α0->α1->α2->α3->Prop}{G:Prop}(h:∃x0:α0,∃x1:α1,∃x2:α2,∃x3:α3,p4 x0 x1 x2 x3/\p5 x0 x1 x2 x3)(k:∀x0:α0,∀x1:α1,∀x2:α2,∀x3:α3,p4 x0 x1 x2 x3->p5 x0 x1 x2 x3->G):G:=h.elim λx5 h=>kC h (k x5)
theorem eR{α0:Sort _}{α1:Sort _}{α2:Sort _}{p3:α0->α1->α2->Prop}{p4:α0->α1->α2->Prop}{p5:α0->α1->α2->Prop}{p6:α0->α1->α2->Prop}{G:Prop}(h:∃x0:α0,∃x1:α1,∃x2:α2,p3 x0 x1 x2/\p4 x0 x1 x2/\p5 x0 x1 x2/\p6 x0 x1 x2)(k:∀x0:α0,∀x1:α1,∀x2:α2,p3 x0 x1 x2->p4 x0 x1 x2->p5 x0 x1 x2->p6 x0 x1 x2->G):G:=h.elim λx6 h=>Ag h (k x6)
theorem lj{α0:Sort _}{α1:Sort _}{α2:Sort _}{α3:Sort _}{p4:α0->α1->α2->α3->Prop}{p5:α0->α1->α2->α3->Prop}{p6:α0->α1->α2->α3->Prop}{G:Prop}(h:∃x0:α0,∃x1:α1,∃x2:α2,∃x3:α3,p4 x0 x1 x2 x3/\p5 x0 x1 x2 x3/\p6 x0 x1 x2 x3)(k:∀x0:α0,∀x1:α1,∀x2:α2,∀x3:α3,p4 x0 x1 x2 x3->p5 x0 x1 x2 x3->p6 x0 x1 x2 x3->G):G:=h.elim λx6 h=>nE h (k x6)
theorem F5{α0:Sort _}{α1:Sort _}{p2:α0->α1->Prop}{p3:α0->α1->Prop}{p4:α0->α1->Prop}{p5:α0->α1->Prop}{p6:α0->α1->Prop}{p7:α0->α1->Prop}{G:Prop}(h:∃x0:α0,∃x1:α1,p2 x0 x1/\p3 x0 x1/\p4 x0 x1/\p5 x0 x1/\p6 x0 x1/\p7 x0 x1)(k:∀x0:α0,∀x1:α1,p2 x0 x1->p3 x0 x1->p4 x0 x1->p5 x0 x1->p6 x0 x1->p7 x0 x1->G):G:=h.elim λx7 h=>h.elim λx6 h=>Aj h (k x7 x6)
noncomputable def lG:List Nat->Nat->Nat
 |[],_=>0
 |a::_,0=>a
 |_::l,n+1=>lG l n
noncomputable def LT.ev(c:List Nat):LT->Nat
 | .v i=>lG c i
 | .n k=>k
 | .a x y=>x.ev c+y.ev c
 | .m k x=>k*x.ev c
 | .r x k=>x.ev c*k
noncomputable def lA:List Nat->List Nat->List Nat
 |[],l=>l
 |l,[]=>l
 |a::l,b::m=>(Nat.add a b)::lA l m
noncomputable def lM(k:Nat):List Nat->List Nat
 |[]=>[]
 |a::l=>Nat.mul k a::lM k l
noncomputable def lV:Nat->List Nat
 |0=>[1]
 |n+1=>0::lV n
noncomputable def LT.lf:LT->List Nat
 | .v i=>0::lV i
 | .n k=>[k]
 | .a x y=>lA x.lf y.lf
 | .m k x=>lM k x.lf
 | .r x k=>lM k x.lf
noncomputable def lL:List Nat->List Nat->Bool
 |[],_=>true
 |a::l,[]=>jr a 0 && lL l []
 |a::l,b::m=>iu a b && lL l m
noncomputable def lD:List Nat->List Nat->Nat
 |[],_=>0
 |_,[]=>0
 |a::l,b::m=>a*b+lD l m
theorem xE(l):lD l []=0:=by cases l<;>rfl
theorem CF:∀l x y,lD l (lA x y)=lD l x+lD l y
 |[],_,_=>rfl
 |_::_,[],y=>(dM _).symm
 |_::_,_::_,[]=>rfl
 |a::l,x::xs,y::ys=>by
  show a*(x+y)+lD l (lA xs ys)=(a*x+lD l xs)+(a*y+lD l ys);rw[CF l,Nat.mul_add];ac_rfl
theorem Hj(k:Nat):∀l x,lD l (lM k x)=k*lD l x
 |[],_=>rfl
 |_::_,[]=>rfl
 |a::l,x::xs=>by
  show a*(k*x)+lD l (lM k xs)=k*(a*x+lD l xs);rw[Hj k l,Nat.mul_add,Nat.mul_left_comm]
theorem MI:∀l i,lD l (lV i)=lG l i
 |[],_=>rfl
 |a::l,0=>by show a*1+lD l []=a;rw[xE,Nat.mul_one];rfl
 |a::l,i+1=>by show a*0+lD l (lV i)=lG l i;rw[MI l i,uC,dM]
theorem JN:∀l x y,lL x y=true->lD l x<=lD l y
 |[],_,_=>λw_=>aG 0
 |_::_,[],_=>λw_=>bg _
 |a::l,x::xs,[]=>λh=>by
  have h1:=(bD _ _▸h:_/\_);rw[show x=0 from kr h1.1];have:=JN l xs [] h1.2;rw[xE]at this;show a*0+lD l xs<=0;rw[uC,dM];exact this
 |a::l,x::xs,y::ys=>λh=>by
  have h1:=(bD _ _▸h:_/\_);exact fT (dT _ (aj h1.1)) (JN l xs ys h1.2)
theorem LT.ev_lf(c:List Nat):∀t:LT,t.ev c=lD (1::c) t.lf
 | .v i=>by show _=1*0+lD c (lV i);rw[MI,uC,dM];rfl
 | .n k=>by show k=1*k+lD c [];rw[xE,gR];rfl
 | .a x y=>by show _=lD _ (lA _ _);rw[CF,<- ev_lf c x,<- ev_lf c y];rfl
 | .m k x=>by show _=lD _ (lM _ _);rw[Hj,<- ev_lf c x];rfl
 | .r x k=>by show _=lD _ (lM _ _);rw[Hj,<- ev_lf c x,Nat.mul_comm];rfl
/-- kinds:0 `x<=y`,1 `x=y` as `<=`,2 `x=y` as `>=`,3 `¬x<=y`,4 the goal `x<=y` -/
noncomputable def lP(k x y:Nat)(G:Prop):Prop:=
 cond (jr k 0) (x<=y->G) (cond (iu k 2) (x=y->G) (cond (jr k 3) (¬x<=y->G) (x<=y)))
noncomputable def lN(c:List Nat):List LK->Prop
 |[]=>False
 |k::l=>lP k.k (k.x.ev c) (k.y.ev c) (lN c l)
/-- `p` the sum of the left sides, `q` of the right sides -/
noncomputable def lC:List LK->List Nat->List Nat->Bool
 |[],p,q=>lL (lA [1] q) p
 |k::l,p,q=>
  cond (iu k.k 1) (lC l (lA p (lM k.c k.x.lf)) (lA q (lM k.c k.y.lf)))
   (cond (jr k.k 2) (lC l (lA p (lM k.c k.y.lf)) (lA q (lM k.c k.x.lf)))
    (cond (jr k.k 3) (lC l (lA p (lM k.c (lA [1] k.y.lf))) (lA q (lM k.c k.x.lf)))
     (lL (lA q k.x.lf) (lA p k.y.lf))))
theorem BV(c:List Nat):∀l p q,lD (1::c) p<=lD (1::c) q->lC l p q=true->lN c l
 |[]=>λp q h e=>by
  have:=JN (1::c) _ _ e;rw[CF]at this;have h1:lD (1::c) [1]=1:=by show 1*1+lD c []=1;rw[xE]
  rw[h1]at this;exact absurd (a8 this h) (by rw[pN];exact Nat.not_succ_le_self _)
 |⟨k,m,x,y⟩::l=>λp q h e=>by
  have st:∀a b:LT,∀n,n+a.ev c<=b.ev c->∀a',lD (1::c) a'=n+a.ev c->lD (1::c) (lA p (lM m a'))<=lD (1::c) (lA q (lM m b.lf)):=by
   intro a b n g a' ha;rw[CF,CF,Hj,Hj,ha,<- LT.ev_lf];exact fT h (dT _ g)
  match k,e with
  |0,e=>exact λg=>BV c l _ _ (st x y 0 (by rw[dM];exact g) _ (by rw[dM,LT.ev_lf])) e
  |1,e=>exact λg=>BV c l _ _ (st x y 0 (by rw[dM];exact my g) _ (by rw[dM,LT.ev_lf])) e
  |2,e=>exact λg=>BV c l _ _ (st y x 0 (by rw[dM];exact my g.symm) _ (by rw[dM,LT.ev_lf])) e
  |3,e=>exact λg=>BV c l _ _ (st y x 1 (by rw[pN];exact kJ g) _ (by rw[CF,<- LT.ev_lf];show 1*1+lD c []+_=_;rw[xE])) e
  |k+4,e=>
   have e:=JN (1::c) _ _ e;rw[CF,CF,<- LT.ev_lf,<- LT.ev_lf]at e;show x.ev c<=y.ev c;exact Nat.le_of_add_le_add_left (a8 (ri h _) e)
/-! the code:digits base 32,least first -/
noncomputable def lX:Nat->Nat->(LT->Nat->List LK)->List LK
 |0,_,_=>[]
 |f+1,n,k=>
  let t:=kS n 32;let r:=nH n 32
  cond (iu t 9) (k (.v t) r)
   (cond (iu t 17) (k (.n (EX t 10)) r)
    (cond (jr t 18) (lX f r λx r=>lX f r λy r=>k (.a x y) r)
     (cond (jr t 19) (k (.n (kS r 1024)) (nH r 1024))
      (cond (jr t 20) (lX f (nH r 1024) λx s=>k (.m (kS r 1024) x) s)
       (cond (jr t 21) (lX f (nH r 1024) λx s=>k (.r x (kS r 1024)) s)
        (cond (jr t 22) (k (.n (EY 2 (kS r 1024))) (nH r 1024))
         (k (.n (kS (nH r 32) (EY 32 (kS r 32)))) (nH r (EY 32 (oY (kS r 32)))))))))))
/-- 0 end;1+4i+kind..:the head digit says kind and multiplier -/
noncomputable def lE:Nat->Nat->List LK
 |0,_=>[]
 |f+1,n=>
  cond (jr n 0) []
   (lX 20 (nH n 32) λx r=>lX 20 r λy r=>⟨kS (EX (kS n 32) 1) 5,oY (nH (EX (kS n 32) 1) 5),x,y⟩::lE f r)
theorem lF(c:List Nat)(n:Nat)(e:true=lC (lE 20 n) [] []):lN c (lE 20 n):=BV c _ _ _ (aG _) e.symm
theorem Oz(n:Nat)(e:true=lC (lE 20 n) [] []):lN [] (lE 20 n):=lF _ n e
theorem ci{a:Nat}(n:Nat)(e:true=lC (lE 20 n) [] []):lN [a] (lE 20 n):=lF _ n e
theorem bt{a b:Nat}(n:Nat)(e:true=lC (lE 20 n) [] []):lN [a,b] (lE 20 n):=lF _ n e
theorem b9{a b c:Nat}(n:Nat)(e:true=lC (lE 20 n) [] []):lN [a,b,c] (lE 20 n):=lF _ n e
theorem ir{a b c d:Nat}(n:Nat)(e:true=lC (lE 20 n) [] []):lN [a,b,c,d] (lE 20 n):=lF _ n e
theorem uk{a b c d f:Nat}(n:Nat)(e:true=lC (lE 20 n) [] []):lN [a,b,c,d,f] (lE 20 n):=lF _ n e
theorem J6{a b c d f g:Nat}(n:Nat)(e:true=lC (lE 20 n) [] []):lN [a,b,c,d,f,g] (lE 20 n):=lF _ n e
theorem Nv{a b c d f g h:Nat}(n:Nat)(e:true=lC (lE 20 n) [] []):lN [a,b,c,d,f,g,h] (lE 20 n):=lF _ n e
theorem Oq{a b c d f g h i:Nat}(n:Nat)(e:true=lC (lE 20 n) [] []):lN [a,b,c,d,f,g,h,i] (lE 20 n):=lF _ n e
theorem qb(m n:Nat): (m ^^^ n)+2*(m &&& n)=m+n:=by
 have h:=PyProof.Rows.nat_or_add_and (m ^^^ n) (m &&& n);have e1: (m ^^^ n)|||(m &&& n)=m|||n:=cK λi=>by
  rw[dH,js,jt,dH];cases m.testBit i<;>cases n.testBit i<;>rfl
 have e2: (m ^^^ n) &&& (m &&& n)=0:=cK λi=>by
  rw[jt,js,jt,oZ];cases m.testBit i<;>cases n.testBit i<;>rfl
 rw[e1,e2,Bt]at h;rw[Nat.two_mul,<- sM,<- h];exact PyProof.Rows.nat_or_add_and m n
set_option genCtorIdx false
set_option tactic.hygienic false
noncomputable abbrev PG:fy:=PySem.Challenge.pw_nn0408_01
noncomputable def jK:List String:=["DEAD","TOP","MOST_REPEAT","len","ord","chr","int","abs","max","min","sorted","range","list","tuple","enumerate",
 "CharSet","Classes","Nfa","Subsets","Dfa","Merger","Node","Empty","Never","Chars","Pair","Cat","Alt","Loop","Star","Plus","Opt","Repeat",
 "bits","charsets","chain","build","build_row","build_choice","build_loop","build_copies","joined_nfa","closure","tags_of","subset_dfa","dfa_of",
 "goal_of","tags_at","place_of","check_counts","same","first_word","difference","missing","classes_of","equal_regexes","apart","spine",
 "_law_leaves","_law_pen","_law_draw","_law_tree","_law_node","_law_again","_law_ends","_law_fit","_law_equation","_law_apart_told","_law_lies_within","law"]
noncomputable def rU:String->Option Int
 |"DEAD"=>some (-1)
 |"TOP"=>some 127
 |"MOST_REPEAT"=>some 40
 |_=>none
noncomputable def fB:List (String×List String×Option String×Option String):=[
 ("Empty",[],some "empty",none),("Never",[],some "never",none),("Chars",["charset"],some "chars",some "Chars.__init__"),
 ("Cat",["left","right"],some "cat",some "Pair.__init__"),("Alt",["left","right"],some "alt",some "Pair.__init__"),
 ("Star",["body"],some "star",some "Loop.__init__"),("Plus",["body"],some "plus",some "Loop.__init__"),("Opt",["body"],some "opt",some "Loop.__init__"),
 ("Repeat",["body","low","high"],some "repeat",some "Repeat.__init__"),
 ("CharSet",["spans"],none,some "CharSet.__init__"),("Classes",["bounds","numbers","count"],none,some "Classes.__init__"),
 ("Nfa",["moves","hops","tags","first"],none,some "Nfa.__init__"),("Subsets",["nfa","kept"],none,some "Subsets.__init__"),
 ("Dfa",["rows","tags"],none,some "Dfa.__init__"),("Merger",["heads","sizes"],none,some "Merger.__init__")]
noncomputable def k8(c:String):List String:=((fB.find? λp=>p.1==c).map (·.2.1)).getD []
noncomputable def AE(c:String):Option String:=(fB.find? λp=>p.1==c).bind (·.2.2.1)
noncomputable def tq(c:String):Option String:=(fB.find? λp=>p.1==c).bind (·.2.2.2)
noncomputable def tU:List (String×String×String):=[
 ("Empty","parts","Node.parts"),("Never","parts","Node.parts"),("Chars","parts","Node.parts"),
 ("Cat","parts","Pair.parts"),("Alt","parts","Pair.parts"),("Star","parts","Loop.parts"),("Plus","parts","Loop.parts"),("Opt","parts","Loop.parts"),("Repeat","parts","Loop.parts"),
 ("Empty","told","Node.told"),("Never","told","Node.told"),("Chars","told","Chars.told"),
 ("Cat","told","Pair.told"),("Alt","told","Pair.told"),("Star","told","Loop.told"),("Plus","told","Loop.told"),("Opt","told","Loop.told"),("Repeat","told","Repeat.told"),
 ("CharSet","key","CharSet.key"),
 ("Classes","mask","Classes.mask"),("Classes","least","Classes.least"),("Classes","text","Classes.text"),
 ("Nfa","add_state","Nfa.add_state"),("Nfa","add_move","Nfa.add_move"),("Nfa","add_hop","Nfa.add_hop"),("Nfa","set_first","Nfa.set_first"),("Nfa","set_tag","Nfa.set_tag"),
 ("Subsets","closure_of","Subsets.closure_of"),("Subsets","begin","Subsets.begin"),("Subsets","ways","Subsets.ways"),("Subsets","after","Subsets.after"),("Subsets","tags","Subsets.tags"),
 ("Dfa","class_count","Dfa.class_count"),("Dfa","state_count","Dfa.state_count"),
 ("Merger","head","Merger.head"),("Merger","join","Merger.join")]
noncomputable def Dk(c m:String):Option String:=(tU.find? λp=>p.1==c && p.2.1==m).map (·.2.2)
noncomputable def oI:List (String×String×String):=[
 ("bits","","bits"),("charsets","","charsets"),("chain","","chain"),("build","","build"),("build_row","","build_row"),("build_choice","","build_choice"),
 ("build_loop","","build_loop"),("build_copies","","build_copies"),("joined_nfa","","joined_nfa"),("closure","","closure"),("tags_of","","tags_of"),
 ("subset_dfa","","subset_dfa"),("dfa_of","","dfa_of"),("goal_of","","goal_of"),("tags_at","","tags_at"),("place_of","","place_of"),("check_counts","","check_counts"),
 ("same","","same"),("first_word","","first_word"),("difference","","difference"),("missing","","missing"),("classes_of","","classes_of"),
 ("equal_regexes","","equal_regexes"),("apart","","apart"),("spine","","spine"),
 ("_law_leaves","","_law_leaves"),("_law_pen","","_law_pen"),("_law_draw","","_law_draw"),("_law_tree","","_law_tree"),("_law_node","","_law_node"),
 ("_law_again","","_law_again"),("_law_ends","","_law_ends"),("_law_fit","","_law_fit"),("_law_equation","","_law_equation"),
 ("_law_apart_told","","_law_apart_told"),("_law_lies_within","","_law_lies_within"),("law","","law"),
 ("CharSet.__init__","CharSet","__init__"),("CharSet.made","CharSet","made"),("CharSet.key","CharSet","key"),
 ("Classes.__init__","Classes","__init__"),("Classes.mask","Classes","mask"),("Classes.least","Classes","least"),("Classes.text","Classes","text"),
 ("Nfa.__init__","Nfa","__init__"),("Nfa.add_state","Nfa","add_state"),("Nfa.add_move","Nfa","add_move"),("Nfa.add_hop","Nfa","add_hop"),("Nfa.set_first","Nfa","set_first"),("Nfa.set_tag","Nfa","set_tag"),
 ("Subsets.__init__","Subsets","__init__"),("Subsets.closure_of","Subsets","closure_of"),("Subsets.begin","Subsets","begin"),("Subsets.ways","Subsets","ways"),("Subsets.after","Subsets","after"),("Subsets.tags","Subsets","tags"),
 ("Dfa.__init__","Dfa","__init__"),("Dfa.class_count","Dfa","class_count"),("Dfa.state_count","Dfa","state_count"),
 ("Merger.__init__","Merger","__init__"),("Merger.head","Merger","head"),("Merger.join","Merger","join"),
 ("Node.parts","Node","parts"),("Node.told","Node","told"),("Chars.__init__","Chars","__init__"),("Chars.told","Chars","told"),
 ("Pair.__init__","Pair","__init__"),("Pair.parts","Pair","parts"),("Pair.told","Pair","told"),
 ("Loop.__init__","Loop","__init__"),("Loop.parts","Loop","parts"),("Loop.told","Loop","told"),("Repeat.__init__","Repeat","__init__"),("Repeat.told","Repeat","told")]
noncomputable def zN(n:Str):List ij->Option ij
 |[]=>none
 |s::r=>match s with
  | .FunctionDef m ..=>if m==n then some s else zN n r
  | .ClassDef m ..=>if m==n then some s else zN n r
  |_=>zN n r
noncomputable def IB:ij->List ij
 | .ClassDef _ _ _ b _ _ _ _ _ _ _=>b
 |_=>[]
noncomputable def Lc(p:fy)(c n:String):Option ij:=
 if c="" then zN (ae n) p.main.body else(zN (ae c) p.main.body).bind λs=>zN (ae n) (IB s)
structure BZ where
 params:jQ
 body:List ij
 scope:Scope
noncomputable def oU(p:fy)(c n:String):Option BZ:=match Lc p c n with
 |some (.FunctionDef _ a b _ _ _ sc _ _ _)=>some ⟨a,b,sc⟩
 |_=>none
structure Bi(K:Bu)(gv:String->Option aD)(q:String)(a:BZ):Prop where
 ex:∃f oc od name qual dV kV doc pm an cdv ct osl,gv q=some (.ref f)/\K.lookup f=some ⟨oc,od,.func (fnOf name qual a.params a.body a.scope dV kV doc pm an cdv ct),osl⟩/\codeIn K cdv qual=true/\dV= .none/\kV= .none
structure uf(K:Bu)(gv:String->Option aD)(c:String)(C:aY):Prop where
 ga:jz K (.ref C) "__getattribute__"=some (some (.builtin "object.__getattribute__"))
 gt:jz K (.ref C) "__getattr__"=some none
 sa:jz K (.ref C) "__setattr__"=some (some (.builtin "object.__setattr__"))
 po:plainOver K C=true
 hd:hasDictIn K C=true
 fld:∀n∈k8 c,(∃attr,jz K (.ref C) (ae n)=some attr/\noGet K attr=true)/\takerIn K C (ae n)=some none
 lbl:∀l,AE c=some l->∃t,jz K (.ref C) (ae "name")=some (some (.str (ae l) t))
 meth:∀p∈tU,p.1=c->∃f,gv p.2.2=some (.ref f)/\jz K (.ref C) (ae p.2.1)=some (some (.ref f))/\isFn K (.ref f)=true
 mks:makesIn K C=true
 init0:tq c=none->jz K (.ref C) "__init__"=some (some (.builtin "object.__init__"))
 init:∀q,tq c=some q->∃f,gv q=some (.ref f)/\jz K (.ref C) "__init__"=some (some (.ref f))/\typeIn K (.ref f)=some (.type "function")
noncomputable abbrev dQ:=aY->Prop
structure Pg where
 at_:dQ->cx->aY->List aY->Prop
 keep:∀F F' h h' a cs,at_ F h a cs->(∀b,F b->F' b)->(∀b,F b->∀o,h.get? b=some o->h'.get? b=some o)->at_ F' h' a cs
 isf:∀F h a cs,at_ F h a cs->∃o fd,h.get? a=some o/\o.data= .func fd
structure BU where
 params:jQ
 body:Expr
 sc:Scope
 pos:hU
 qual:Str
noncomputable def Ni(D:BU)(F:dQ)(h:cx)(a:aY)(clos:List (Str×aY)):Prop:=
 ∃c' ctv pm,F a/\F c'/\h.get? a=some (kla_obj "<lambda>" D.qual D.params D.body D.sc clos pm c' ctv)/\h.CodeRec (.ref c') D.qual
noncomputable def eO:List (Str×cZ)->List Str
 |[]=>[]
 |(n,k)::r=>if k== .free then eO r++[n]else eO r
noncomputable def Ki(D:BU):Pg where
 at_:=λF h a cs=>∃clos,Ni D F h a clos/\clos.map (·.2)=cs/\clos.map (·.1)=eO D.sc.names/\clos.Pairwise (λ(x y:Str×aY)=>x.2≠y.2)
 keep:=λF F' h h' a cs q hs hk=>q.elim λclos q=>eR q.1 λc' ctv pm f1 f2 e r=>⟨clos,⟨c',ctv,pm,hs _ f1,hs _ f2,hk _ f1 _ e,lj r λc o vs t e1 e2 e3=>⟨c,o,vs,t,e1,hk _ ((aD.ref.inj e1)▸f2) _ e2,e3⟩⟩,q.2⟩
 isf:=λF h a cs q=>q.elim λclos q=>eR q.1 λc' ctv pm f1 f2 e r=>⟨_,_,e,rfl⟩
noncomputable def CA(D:BU)(P:aY)(F:dQ)(h:cx):Prop:=
 h.get? P=some (rj #[])\/∃c',F c'/\h.get? P=some (rj #[ot D.pos.line,ot D.pos.col,.ref c'])/\h.CodeRec (.ref c') D.qual
noncomputable abbrev gY:=jQ×Expr×Scope×hU
noncomputable def KY:ij->Option (List Expr×Expr)
 | .Assign ts e _=>some (ts,e)
 |_=>none
noncomputable def Gy:Expr->Option gY
 | .Lambda a b sc p=>some (a,b,sc,p)
 |_=>none
noncomputable def JP:List Expr->Option Str
 |[.Name y _]=>some y
 |_=>none
noncomputable def JL(s:ij):Option (Str×gY):=(KY s).bind λte=>(JP te.1).bind λy=>(Gy te.2).map λl=>(y,l)
theorem K1{s:ij}{ts:List Expr}{e:Expr}:KY s=some (ts,e)->∃p,s= .Assign ts e p:=by
 apply ij.casesOn (motive_2:=λs=>KY s=some (ts,e)->∃p,s= .Assign ts e p) s
 case Assign=>intro a b c h;replace h:=ac h;cases h;exact⟨_,rfl⟩
 all_goals repeat first|exact bx|refine λw_=>?_
theorem JH{e:Expr}{l:gY}:Gy e=some l->e= .Lambda l.1 l.2.1 l.2.2.1 l.2.2.2:=by
 apply Expr.casesOn (motive_1:=λe=>Gy e=some l->e= .Lambda l.1 l.2.1 l.2.2.1 l.2.2.2) e
 case Lambda=>intro a b c d h;replace h:=ac h;subst h;rfl
 all_goals repeat first|exact bx|refine λw_=>?_
theorem Lz{ts:List Expr}{y:Str}(h:JP ts=some y):∃p,ts=[.Name y p]:=by
 cases ts with
 |nil=>exact bx h
 |cons t ts=>
  cases ts with
  |nil=>
   revert h
   apply Expr.casesOn (motive_1:=λt=>JP [t]=some y->∃p,[t]=[.Name y p]) t
   case Name=>intro a b h;replace h:=ac h;subst h;exact⟨_,rfl⟩
   all_goals repeat first|exact bx|refine λw_=>?_
  |cons u ts=>
   revert h
   apply Expr.casesOn (motive_1:=λt=>JP (t::u::ts)=some y->∃p,t::u::ts=[.Name y p]) t
   all_goals repeat first|exact bx|refine λw_=>?_
theorem IN{s:ij}{y:Str}{l:gY}(h:JL s=some (y,l)):∃py ap,s= .Assign [.Name y py] (.Lambda l.1 l.2.1 l.2.2.1 l.2.2.2) ap:=by
 refine oB h λte h1 h=>?_;refine oB h λz h2 h=>?_;refine oM h λm h3 h=>?_;cases h;obtain⟨ap,e⟩:=K1 h1;obtain⟨py,e'⟩:=Lz h2;exact⟨py,ap,by exact ao e (ao e' (ao (JH h3) rfl))⟩
noncomputable def jd:List ij->Option (List ij×Str×gY×List ij)
 |[]=>none
 |s::r=>match JL s with
  |some x=>some ([],x.1,x.2,r)
  |none=>(jd r).map λx=>(s::x.1,x.2)
structure Cx where
 prog:fy
 w:m7
 K:Bu
 base:cx
 gv:String->Option aD
 mg:Str->Option aD
 mb:Str->Option aD
 sp:dQ
 inv:dQ->cx->Prop
 clo:Pg
 kin:K.In base
 invKeep:∀F F' h h',inv F h->(∀a,F a->F' a)->(∀a,sp a\/F a->∀o,h.get? a=some o->h'.get? a=some o)->inv F' h'
 gNs:base.Ns dz mg
 bNs:base.Ns kK mb
 names:∀s∈jK,∃v,(mg (ae s)=some v\/(mg (ae s)=none/\mb (ae s)=some v))/\(match rU s with|some i=>∃t,v= .int i t|none=>gv s=some v)
 lim:base.NoLimit
 gvH:∀n v,gv n=some v->handedIn v=true
 sysIn:∃o,base.get? gW=some o
 cls:∀p∈fB,∃a,gv p.1=some (.ref a)/\uf K gv p.1 a
 keeps:∀n v,gv n=some v->(match v with| .ref _=>keepIn K v=true| .builtin _=>True| .type _=>True|_=>False)
 made:∃a mc p f rest,gv "CharSet"=some (.ref a)/\o0 K (.ref a) "__getattribute__"=some (some (.builtin "type.__getattribute__"))/\uD K a mc=true/\
  findCls K (.ref a) mc "made"=some (.get (.builtin "staticmethod.__get__") (.ref p) .none (.ref a))/\recIn K p "staticmethod"=some (.ref f::rest)/\gv "CharSet.made"=some (.ref f)
 loop:∃a mc f,gv "Loop"=some (.ref a)/\o0 K (.ref a) "__getattribute__"=some (some (.builtin "type.__getattribute__"))/\uD K a mc=true/\
  findCls K (.ref a) mc "__init__"=some (.val (.ref f))/\gv "Loop.__init__"=some (.ref f)
 fns:∀e∈oI,∃a,oU prog e.2.1 e.2.2=some a/\Bi K gv e.1 a
 blt:∀p∈([("len",.builtin "len"),("ord",.builtin "ord"),("chr",.builtin "chr"),("abs",.builtin "abs"),("max",.builtin "max"),("min",.builtin "min"),("sorted",.builtin "sorted"),
  ("int",.type "int"),("range",.type "range"),("list",.type "list"),("tuple",.type "tuple"),("enumerate",.type "enumerate"),
  ("list.append",.builtin "list.append"),("list.pop",.builtin "list.pop"),("list.reverse",.builtin "list.reverse"),("list.index",.builtin "list.index"),("dict.get",.builtin "dict.get"),("str.join",.builtin "str.join")]:List (String×aD)),gv p.1=some p.2
 lam:BU
 tabA:aY
 tabC:aY
 cloEq:clo=Ki lam
 spEq:∀a,sp a↔a=tabA
 invEq:∀F h,inv F h↔CA lam tabA F h
 tabHd:CodeHd base tabC tabA
 tabNe:dz≠tabA
 tabB:base.BuiltinsAt mg tabA
 lamEq:∀a x,oU prog "" "_law_ends"=some a->jd a.body=some x->x.2.2.1=(lam.params,lam.body,lam.sc,lam.pos)
 tabFn:∀f oc od fd osl,gv "_law_ends"=some (.ref f)->K.lookup f=some ⟨oc,od,.func fd,osl⟩->fd.code= .ref tabC/\fd.qualname++".<locals>."++"<lambda>"=lam.qual
section
set_option maxRecDepth 100000
noncomputable def Oi:List (String×aD):=[("len",.builtin "len"),("ord",.builtin "ord"),("chr",.builtin "chr"),("int",.type "int"),("abs",.builtin "abs"),("max",.builtin "max"),("min",.builtin "min"),("sorted",.builtin "sorted"),("range",.type "range"),("list",.type "list"),("tuple",.type "tuple"),("enumerate",.type "enumerate"),("CharSet",.ref 246),("Classes",.ref 322),("Nfa",.ref 397),("Subsets",.ref 514),("Dfa",.ref 568),("Merger",.ref 615),("Node",.ref 720),("Empty",.ref 734),("Never",.ref 746),("Chars",.ref 772),("Pair",.ref 805),("Cat",.ref 817),("Alt",.ref 829),("Loop",.ref 862),("Star",.ref 874),("Plus",.ref 886),("Opt",.ref 898),("Repeat",.ref 924),("bits",.ref 80),("charsets",.ref 331),("chain",.ref 408),("build",.ref 415),("build_row",.ref 422),("build_choice",.ref 429),("build_loop",.ref 436),("build_copies",.ref 443),("joined_nfa",.ref 450),("closure",.ref 455),("tags_of",.ref 462),("subset_dfa",.ref 577),("dfa_of",.ref 584),("goal_of",.ref 626),("tags_at",.ref 633),("place_of",.ref 640),("check_counts",.ref 647),("same",.ref 654),("first_word",.ref 661),("difference",.ref 668),("missing",.ref 675),("classes_of",.ref 682),("equal_regexes",.ref 689),("apart",.ref 696),("spine",.ref 933),("_law_leaves",.ref 940),("_law_pen",.ref 945),("_law_draw",.ref 952),("_law_tree",.ref 959),("_law_node",.ref 966),("_law_again",.ref 973),("_law_ends",.ref 978),("_law_fit",.ref 985),("_law_equation",.ref 992),("_law_apart_told",.ref 997),("_law_lies_within",.ref 1004),("law",.ref 1009),("CharSet.__init__",.ref 94),("CharSet.made",.ref 149),("CharSet.key",.ref 243),("Classes.__init__",.ref 264),("Classes.mask",.ref 288),("Classes.least",.ref 309),("Classes.text",.ref 319),("Nfa.__init__",.ref 345),("Nfa.add_state",.ref 352),("Nfa.add_move",.ref 359),("Nfa.add_hop",.ref 366),("Nfa.set_first",.ref 373),("Nfa.set_tag",.ref 380),("Subsets.__init__",.ref 476),("Subsets.closure_of",.ref 483),("Subsets.begin",.ref 490),("Subsets.ways",.ref 497),("Subsets.after",.ref 504),("Subsets.tags",.ref 511),("Dfa.__init__",.ref 532),("Dfa.class_count",.ref 539),("Dfa.state_count",.ref 546),("Merger.__init__",.ref 598),("Merger.head",.ref 605),("Merger.join",.ref 612),("Node.parts",.ref 710),("Node.told",.ref 717),("Chars.__init__",.ref 762),("Chars.told",.ref 769),("Pair.__init__",.ref 788),("Pair.parts",.ref 795),("Pair.told",.ref 802),("Loop.__init__",.ref 845),("Loop.parts",.ref 852),("Loop.told",.ref 859),("Repeat.__init__",.ref 914),("Repeat.told",.ref 921),("list.append",.builtin "list.append"),("list.pop",.builtin "list.pop"),("list.reverse",.builtin "list.reverse"),("list.index",.builtin "list.index"),("dict.get",.builtin "dict.get"),("str.join",.builtin "str.join")]
noncomputable def y9(n:String):Option aD:=Oi.lookup n
noncomputable def Oh:List aY:=[734,733,746,745,772,771,817,816,829,828,874,873,886,885,898,897,924,923,246,245,322,321,397,396,514,513,568,567,615,614,862,861,720,719,805,804,802,801,0,1,2,3,79,80,93,94,148,149,150,151,242,243,263,264,287,288,308,309,318,319,330,331,344,345,351,352,358,359,365,366,372,373,379,380,407,408,414,415,421,422,428,429,435,436,442,443,449,450,454,455,461,462,475,476,482,483,489,490,496,497,503,504,510,511,531,532,538,539,545,546,576,577,583,584,597,598,604,605,611,612,625,626,632,633,639,640,646,647,653,654,660,661,667,668,674,675,681,682,688,689,695,696,709,710,716,717,761,762,768,769,787,788,794,795,844,845,851,852,858,859,913,914,920,921,932,933,939,940,944,945,951,952,958,959,965,966,972,973,977,978,984,985,991,992,996,997,1003,1004,1008,1009]
noncomputable def s9(h:cx):Bu:=Oh.filterMap λa=>(h.get? a).map λo=>(a,o)
theorem Fw(h:cx): (s9 h).In h:=by
 unfold s9;generalize Oh=as
 induction as with
 |nil=>intro a o e;exact bx e
 |cons b as ih=>
  intro a o e;rw[eE]at e;cases hb:h.get? b with
  |none=>rw[hb]at e;exact ih a o e
  |some ob=>
   rw[hb]at e;simp only[lW,rq]at e;split at e
   ·rename_i q;replace e:=ac e;subst e;refine ao (beq_iff_eq.mp q) ?_;exact hb
   ·exact ih a o e
noncomputable def jB{α:Type}(o:Option α)(k:α->Bool):Bool:=match o with
 |some a=>k a
 |none=>false
theorem jX{α:Type}{o:Option α}{k:α->Bool}{G:Prop}(h:jB o k=true)(K:∀a,o=some a->k a=true->G):G:=by
 cases o with
 |none=>exact mj h
 |some a=>exact K a rfl h
theorem D4{α:Type}{o:Option α}{k:α->Bool}(h:jB o k=true):∃a,o=some a/\k a=true:=by
 cases o with
 |none=>exact mj h
 |some a=>exact⟨a,rfl,h⟩
noncomputable def Ij:aD->Option aY
 | .ref a=>some a
 |_=>none
theorem IT{v:aD}{a:aY}(h:Ij v=some a):v= .ref a:=by cases v<;>first|exact bx h|exact congrArg aD.ref (ac h)
noncomputable def Kc:aD->Option Int
 | .int a _=>some a
 |_=>none
theorem Jz{v:aD}{a:Int}(h:Kc v=some a):∃t,v= .int a t:=by cases v<;>first|exact bx h|exact⟨_,congrArg (Aa · _) (ac h)⟩
noncomputable def KD:aD->Option Str
 | .str a _=>some a
 |_=>none
theorem Ji{v:aD}{a:Str}(h:KD v=some a):∃t,v= .str a t:=by cases v<;>first|exact bx h|exact⟨_,congrArg (aD.str · _) (ac h)⟩
noncomputable def rB(o:Option aD)(k:aY->Bool):Bool:=jB o λv=>jB (Ij v) k
theorem Ep{o:Option aD}{k:aY->Bool}(h:rB o k=true):∃a,o=some (.ref a)/\k a=true:=by
 refine bJ (D4 h) λv e h=>?_;refine bJ (D4 h) λa e' h=>?_;exact⟨a,by exact ao e (ao (IT e') rfl),h⟩
noncomputable def HA:Data->Option uE
 | .func f=>some f
 |_=>none
theorem Mh{d:Data}{f:uE}(h:HA d=some f):d= .func f:=by cases d<;>first|exact bx h|exact congrArg Data.func (ac h)
noncomputable def Ou:CFound->Option (aD×aD×aD×aD)
 | .get a b c d=>some (a,b,c,d)
 |_=>none
noncomputable def OO:CFound->Option aD
 | .val a=>some a
 |_=>none
section
variable(K:Bu)
noncomputable def OE(q:String)(k:uE->Bool):Bool:=rB (y9 q) λf=>jB (K.lookup f) λo=>jB (HA o.data) k
noncomputable def Im(s:String):Bool:=match rU s with
 |some i=>jB (nsIn K dz (ae s)) λo=>jB o λv=>jB (Kc v) λj=>i==j
 |none=>jB (y9 s) λv=>nsIn K dz (ae s)==some (some v)||(nsIn K dz (ae s)==some none && bootBuiltins (ae s)==some v)
noncomputable def Lf(p:String×List String×Option String×Option String):Bool:=rB (y9 p.1) λC=>
  jz K (.ref C) "__getattribute__"==some (some (.builtin "object.__getattribute__")) && jz K (.ref C) "__getattr__"==some none &&
   jz K (.ref C) "__setattr__"==some (some (.builtin "object.__setattr__")) && plainOver K C && hasDictIn K C &&
   (p.2.1.all λn=>jB (jz K (.ref C) (ae n)) (noGet K) && takerIn K C (ae n)==some none) &&
   (match p.2.2.1 with
    |none=>true
    |some l=>jB (jz K (.ref C) (ae "name")) λo=>jB o λv=>jB (KD v) λs=>s==ae l) &&
   (tU.all λq=>q.1 !=p.1||rB (y9 q.2.2) λf=>jz K (.ref C) (ae q.2.1)==some (some (.ref f)) && isFn K (.ref f)) &&
   makesIn K C &&
   (match p.2.2.2 with
    |none=>jz K (.ref C) "__init__"==some (some (.builtin "object.__init__"))
    |some q=>rB (y9 q) λf=>jz K (.ref C) "__init__"==some (some (.ref f)) && typeIn K (.ref f)==some (.type "function"))
noncomputable def GU(v:aD):Bool:=match v with
 | .ref _=>keepIn K v
 | .builtin _=>true
 | .type _=>true
 |_=>false
noncomputable def HS:Bool:=o0 K (.ref 246) "__getattribute__"==some (some (.builtin "type.__getattribute__")) && uD K 246 (.type "type") &&
 (jB (findCls K (.ref 246) (.type "type") "made") λr=>jB (Ou r) λt=>t.1== .builtin "staticmethod.__get__" && (t.2.1== .ref 151 && (t.2.2.1== .none && t.2.2.2== .ref 246))) &&
 (jB (recIn K 151 "staticmethod") λl=>l.head?==some (.ref 149))
noncomputable def Hp:Bool:=o0 K (.ref 862) "__getattribute__"==some (some (.builtin "type.__getattribute__")) && uD K 862 (.type "type") &&
 (jB (findCls K (.ref 862) (.type "type") "__init__") λr=>jB (OO r) λv=>v== .ref 845)
noncomputable def OF(q:String):Bool:=OE K q λfd=>codeIn K fd.code fd.qualname && fd.globals==dz && fd.closure.isEmpty && fd.builtins==kK && fd.defaults== .none && fd.kwdefaults== .none
noncomputable def u9(q:String):Option (jQ×yL×Scope):=(y9 q).bind λv=>(Ij v).bind λf=>(K.lookup f).bind λo=>(HA o.data).map λfd=>(fd.params,fd.body,fd.scope)
noncomputable def tabB:Bool:=codeHdIn K 977 975 && OE K "_law_ends" λfd=>fd.code== .ref 977 && fd.qualname==ae "_law_ends"
theorem Dz{q:String}{k:uE->Bool}(h:OE K q k=true):∃f oc od fd osl,y9 q=some (.ref f)/\K.lookup f=some ⟨oc,od,.func fd,osl⟩/\k fd=true:=by
 refine bJ (Ep h) λf e1 h=>?_;refine bJ (D4 h) λo e2 h=>?_;refine bJ (D4 h) λfd e3 h=>?_;obtain⟨oc,od,dt,osl⟩:=o;cases Mh e3;exact⟨f,oc,od,fd,osl,e1,e2,h⟩
noncomputable def kH:Bool:=jK.all (Im K) && fB.all (Lf K) && Oi.all (λp=>GU K p.2) && HS K && Hp K && oI.all (λe=>OF K e.1) && tabB K && (K.lookup gW).isSome
end
end
section
set_option tactic.hygienic true
set_option genCtorIdx true
set_option maxRecDepth 100000
set_option maxHeartbeats 0
noncomputable def H8(stp:iU->Bv->Option (iU×Bv))(ok:Bv->Bool):Nat->iU->Bv->Option iU
 |0,_,_=>none
 |n+1,s,t=>match through t with
  |true=>some s
  |false=>match ok t with
   |false=>none
   |true=>match stp s t with
    |some (s',t')=>H8 stp ok n s' t'
    |none=>none
theorem EC{p:fy}{w:m7}{Mp:Nat}{ann:Option aD}:∀{n:Nat} {s s':iU} {t:Bv},H8 (stepT (denote hV) p w) (stepOk Mp ann) n s t=some s'->Bw hV p w Mp ann n s.abs t=some s'.abs
 |0,_,_,_,h=>by exact bx h
 |n+1,s,s',t,h=>by
  unfold H8 at h;unfold Bw;cases he:through t with
  |true=>rw[he]at h;replace h:=ac h;subst h;rfl
  |false=>
   rw[he]at h;cases hk:stepOk Mp ann t with
   |false=>rw[hk]at h;exact bx h
   |true=>
    rw[hk]at h;cases hs:stepT (denote hV) p w s t with
    |none=>rw[hs]at h;exact bx h
    |some r=>obtain⟨dv,yY⟩:=r;rw[hs]at h;refine ao (stepT_spec hs) ?_;exact EC h
noncomputable def S0(P:Params)(os:xr):iU:=⟨.node (boot_o_0 P) (.node (boot_o_1 P) (.node (boot_o_3 P) (.node (boot_o_7 P) .nil .nil) .nil) (.node (boot_o_5 P) (.node (boot_o_9 P) .nil .nil) .nil)) (.node (boot_o_2 P) (.node (boot_o_4 P) (.node (boot_o_8 P) .nil .nil) .nil) (.node (boot_o_6 P) (.node (boot_o_10 P) .nil .nil) .nil)),11,{},#[],yM,Ab,os⟩
theorem L2(P:Params)(os:xr): (S0 P os).abs=⟨jR P,#[],yM,Ab,os⟩:=by rfl
noncomputable def qv:fy:=view PG [69]
noncomputable def j5:List Str:=PG.boundNames.filter (λn=> !(n==ae "law"))
noncomputable def Nu(s:aU):Bool×List (Option (jQ×yL×Scope))×Option Obj:=(kH (s9 s.heap),oI.map (λe=>u9 (s9 s.heap) e.1),s.heap.get? 975)
noncomputable def Of:Bool×List (Option (jQ×yL×Scope))×Option Obj:=(true,oI.map (λe=>(oU PG e.2.1 e.2.2).map λa=>(a.params,.stmts a.body,a.scope)),some (rj #[]))
noncomputable def Xt0(s:aU):Bool:=true
noncomputable def gT(s:iU)(a:aY):Option Obj:=cond (xt a s.n) (alive ((s.tree.get a).getD pO)) none
theorem Kx(s:iU)(a:aY):s.abs.heap.get? a=gT s a:=by
 obtain⟨T,n,life,g,d,t,o⟩:=s;show(absHeap T n life).get? a=cond (xt a n) (alive ((T.get a).getD pO)) none;by_cases h:a<n
 ·rw[show xt a n=true from qu h]
  unfold cx.get?;rw[absHeap_at,if_pos h];generalize(T.get a).getD pO=o;obtain⟨c,d,dt,sl⟩:=o;cases dt<;>rfl
 ·rw[show xt a n=false from d9.mpr λq=>h (aj q)]
  exact abs_get_none h
noncomputable def GL(s:iU):Bu:=Oh.filterMap λa=>(gT s a).map λo=>(a,o)
theorem Gd(s:iU):s9 s.abs.heap=GL s:=congrArg (λf:aY->Option Obj=>Oh.filterMap λa=>(f a).map λo=>(a,o)) (funext (Kx s))
noncomputable def OH(s:iU):Bool×List (Option (jQ×yL×Scope))×Option Obj:=(kH (GL s),oI.map (λe=>u9 (GL s) e.1),gT s 975)
theorem NC(s:iU):Nu s.abs=OH s:=by
 unfold Nu OH;rw[Gd,Kx]
theorem Ol:∀(w:m7) (os:xr),(H8 (stepT (denote hV) PG w) (stepOk 11 (some (.ref 6))) 9500 (S0 w.params os) (xu PG)).map (λs=>((o6 (dK PG.main.body) (jR w.params) s.abs.heap && m8 PG s.abs.heap && rA s.abs && rC (jR w.params) s.abs.heap),uF qv j5 (dK PG.main.body) Xt0 true s.abs,OH s))=some (true,uG qv j5,Of):=by
 intro w os;refine ao PySem.W.Fast.te10156331382660048174 (ao PySem.W.Fast.te6613529449190102663 (ao PySem.W.Fast.te11892475500146522536 (ao PySem.W.Fast.te14364793385576792824 (ao PySem.W.Fast.te4187177175401517315 ?_))))
 kernel_rfl
end
section
set_option genCtorIdx true
inductive V where
 |none
 |bool (b:Bool)
 |int (i:Int)
 |str (s:Str)
 |glob (n:String)
 |ref (a:aY)
 |tup (vs:List V)
 |list (vs:List V)
 |arg (vs:List V)
 |range (lo hi:Int)
 |inst (c:String) (ns:List String) (vs:List V)
 |dict (ks:List Int) (vs:List V)
 |clo (vs:List V)
inductive fM where
 |list (vs:List V)
 |dict (ks:List Int) (vs:List V)
 |inst (c:String) (d:aY) (ns:List String) (vs:List V)
 |aux (a:aY)
noncomputable abbrev AH:=aY->Option fM
noncomputable def AH.set(σ:AH)(a:aY)(m:fM):AH:=λb=>if b=a then some m else σ b
noncomputable def AH.del(σ:AH)(a:aY):AH:=λb=>if b=a then lp else σ b
@[simp] theorem az(σ:AH)(a:aY)(m:fM): (σ.set a m) a=some m:=by simp[AH.set]
theorem ay(σ:AH){a b:aY}(m:fM)(h:b≠a): (σ.set a m) b=σ b:=by simp[AH.set,h]
@[simp] theorem jP(σ:AH)(a:aY): (σ.del a) a=lp:=by simp[AH.del]
theorem jO(σ:AH){a b:aY}(h:b≠a): (σ.del a) b=σ b:=by simp[AH.del,h]
theorem bO(σ:AH)(a:aY)(m m':fM): (σ.set a m).set a m'=σ.set a m':=by
 funext b;unfold AH.set;split<;>rfl
noncomputable def Ents:List String->List aD->List eZ->Prop
 |[],[],[]=>True
 |n::ns,x::xs,e::es=>(∃t,e.key= .str (ae n) t)/\e.val=x/\Ents ns xs es
 |_,_,_=>False
theorem Ents.ind{P:List String->List aD->List eZ->Prop}(z:P [] [] [])(k:∀n ns x xs e es t,e.key= .str (ae n) t->e.val=x->Ents ns xs es->P ns xs es->P (n::ns) (x::xs) (e::es)):∀{ns xs es},Ents ns xs es->P ns xs es:=by
 intro ns
 induction ns with
 |nil=>intro xs es r;cases xs with
  |nil=>cases es with
   |nil=>exact z
   |cons _ _=>exact cG r
  |cons _ _=>exact cG r
 |cons n ns ih=>intro xs es r;cases xs with
  |nil=>exact cG r
  |cons x xs=>cases es with
   |nil=>exact cG r
   |cons e es=>exact r.1.elim λt h=>k n ns x xs e es t h r.2.1 r.2.2 (ih r.2.2)
noncomputable def gq:List Int->List aD->List (Int×aD)
 |k::ks,x::xs=>(k,x)::gq ks xs
 |_,_=>[]
theorem j6{k:Int}{ks:List Int}{x:aD}{xs:List aD}:gq (k::ks) (x::xs)=(k,x)::gq ks xs:=rfl
noncomputable def hJ(F:dQ)(h:cx):List aY->List aD->Prop
 |[],[]=>True
 |c::cs,x::xs=>F c/\h.IsCell c (some x)/\hJ F h cs xs
 |_,_=>False
inductive Iy(F:dQ)(I:aY->Array aD->Prop)(L:List aD->Prop)(n:Nat)(x:aD):Prop
 |mk (a:aY) (xs:List aD) (e:x= .ref a) (f:F a) (h:I a (bu xs)) (l:L xs) (z:n<=1073741824):Iy F I L n x
inductive O6(F:dQ)(h:cx)(lo hi:Int)(x:aD):Prop
 |mk (a:aY) (t u v:Tok) (e:x= .ref a) (f:F a) (r:IsRange h a lo hi 1 t u v):O6 F h lo hi x
inductive Pm(o:Option aD)(F:dQ)(h:cx)(ns:List String)(L:List aD->Prop)(x:aD):Prop
 |mk (a K d:aY) (es:List eZ) (n:Nat) (xs:List aD) (e:x= .ref a) (g:o=some (.ref K)) (f:F a) (f':F d) (t:h.get? a=some (eP K d)) (t':h.get? d=some (pP es n)) (en:Ents ns xs es) (l:L xs):Pm o F h ns L x
inductive O7(F:dQ)(I:aY->List (Int×aD)->Prop)(ks:List Int)(L:List aD->Prop)(x:aD):Prop
 |mk (a:aY) (xs:List aD) (e:x= .ref a) (f:F a) (t:I a (gq ks xs)) (k:ks.length=xs.length) (l:L xs) (z: (a==gW)=false):O7 F I ks L x
inductive Pd(F:dQ)(h:cx)(I:aY->List aY->Prop)(L:List aD->Prop)(x:aD):Prop
 |mk (a:aY) (cs:List aY) (xs:List aD) (e:x= .ref a) (f:F a) (t:I a cs) (c:hJ F h cs xs) (l:L xs):Pd F h I L x
structure Oa(C:Cx)(F:dQ)(σ:AH)(h:cx)(a:aY):Prop where
 nF:¬F a
 nS:¬C.sp a
 nσ:σ a=none
 lv:∃o,h.get? a=some o
section
variable(C:Cx)
mutual
noncomputable def R(F:dQ)(h:cx):V->aD->Prop
 | .none,x=>x= .none
 | .bool b,x=>x= .bool b
 | .int i,x=>∃t,x= .int i t
 | .str s,x=>∃t,x= .str s t
 | .glob n,x=>C.gv n=some x
 | .ref a,x=>x= .ref a
 | .tup vs,x=>Iy F h.IsTuple (λxs=>RL F h vs xs) vs.length x
 | .list vs,x=>Iy F h.PlainList (λxs=>RL F h vs xs) vs.length x
 | .arg vs,x=>Iy F h.IsList (λxs=>RL F h vs xs) vs.length x
 | .range lo hi,x=>O6 F h lo hi x
 | .inst c ns vs,x=>Pm (C.gv c) F h ns (λxs=>RL F h vs xs) x
 | .dict ks vs,x=>O7 F (λa l=>h.DictOf (eQ C.prog C.w) a l) ks (λxs=>RL F h vs xs) x
 | .clo vs,x=>Pd F h (λa cs=>C.clo.at_ F h a cs) (λxs=>RL F h vs xs) x
noncomputable def RL(F:dQ)(h:cx):List V->List aD->Prop
 |[],[]=>True
 |v::vs,x::xs=>R F h v x/\RL F h vs xs
 |_,_=>False
end
end
noncomputable def d3(P:dQ)(h h':cx):Prop:=∀a,P a->∀o,h.get? a=some o->h'.get? a=some o
theorem d3.refl(P:dQ)(h:cx):d3 P h h:=λw_ w_ w_ e=>e
theorem d3.trans{P:dQ}{h h' h'':cx}(x:d3 P h h')(y:d3 P h' h''):d3 P h h'':=λa p o e=>y a p o (x a p o e)
theorem d3.sub{P P':dQ}{h h':cx}(x:d3 P h h')(s:∀a,P' a->P a):d3 P' h h':=λa p o e=>x a (s a p) o e
theorem d3.all{P:dQ}{h h':cx}(x:∀b o,h.get? b=some o->h'.get? b=some o):d3 P h h':=λa w_ o e=>x a o e
structure gX(F:dQ)(h:cx)(F':dQ)(h':cx):Prop where
 sub:∀a,F a->F' a
 keep:d3 F h h'
theorem gX.refl(F:dQ)(h:cx):gX F h F h:=⟨λw_ x=>x,d3.refl _ _⟩
theorem gX.trans{F F' F'':dQ}{h h' h'':cx}(x:gX F h F' h')(y:gX F' h' F'' h''):gX F h F'' h'':=
 ⟨λa z=>y.sub a (x.sub a z),λa z o e=>y.keep a (x.sub a z) o (x.keep a z o e)⟩
theorem Dw{h h':cx}{a:aY}{xs:Array aD}(x:h.IsTuple a xs)(k:∀o,h.get? a=some o->h'.get? a=some o):h'.IsTuple a xs:=
 x.elim λo q=>⟨o,k o q.1,q.2⟩
theorem FB{h h':cx}{a:aY}{xs:Array aD}(x:h.IsList a xs)(k:∀o,h.get? a=some o->h'.get? a=some o):h'.IsList a xs:=
 x.elim λo q=>⟨o,k o q.1,q.2⟩
theorem gJ{prog:fy}{w:m7}{h h':cx}{a:aY}{xs:List (Int×aD)}(x:h.DictOf (eQ prog w) a xs)(k:∀o,h.get? a=some o->h'.get? a=some o):h'.DictOf (eQ prog w) a xs:=
 kC x λo es ep e r=>⟨o,es,ep,k o e,r⟩
theorem mH{h h':cx}{a:aY}{v:Option aD}(x:h.IsCell a v)(k:∀o,h.get? a=some o->h'.get? a=some o):h'.IsCell a v:=
 x.elim λo q=>⟨o,k o q.1,q.2⟩
theorem sK{h h':cx}{a:aY}{m:Str->Option aD}(x:h.Ns a m)(k:∀o,h.get? a=some o->h'.get? a=some o):h'.Ns a m:=
 kC x λo es ep e r=>⟨o,es,ep,k o e,r⟩
theorem hJ.mono{F F':dQ}{h h':cx}(x:gX F h F' h'):∀{cs xs},hJ F h cs xs->hJ F' h' cs xs:=by
 intro cs
 induction cs with
 |nil=>intro xs r;cases xs with
  |nil=>exact r
  |cons _ _=>exact r.elim
 |cons c cs ih=>intro xs r;cases xs with
  |nil=>exact r.elim
  |cons y xs=>exact⟨x.sub _ r.1,mH r.2.1 (x.keep _ r.1),ih r.2.2⟩
section
variable{C:Cx}
theorem RL.ind{F:dQ}{h:cx}{P:List V->List aD->Prop}(z:P [] [])(k:∀v x vs xs,R C F h v x->RL C F h vs xs->P vs xs->P (v::vs) (x::xs)):∀{vs xs},RL C F h vs xs->P vs xs:=by
 intro vs
 induction vs with
 |nil=>intro xs r;cases xs with
  |nil=>exact z
  |cons _ _=>exact r.elim
 |cons v vs ih=>intro xs r;cases xs with
  |nil=>exact r.elim
  |cons x xs=>exact k _ _ _ _ r.1 r.2 (ih r.2)
theorem Iy.mono{F F':dQ}{I I':aY->Array aD->Prop}{L L':List aD->Prop}{n:Nat}{x:aD}(r:Iy F I L n x)(s:∀a,F a->F' a)(i:∀a xs,F a->I a xs->I' a xs)(l:∀xs,L xs->L' xs):Iy F' I' L' n x:=by
 cases r with
 |mk a xs e f t r z=>exact⟨a,xs,e,s _ f,i _ _ f t,l _ r,z⟩
theorem R.mono{F F':dQ}{h h':cx}(X:gX F h F' h'):∀{v:V} {x:aD},R C F h v x->R C F' h' v x:=by
 intro v;refine V.rec (motive_1:=λv=>∀{x},R C F h v x->R C F' h' v x) (motive_2:=λvs=>∀xs,RL C F h vs xs->RL C F' h' vs xs) ?_ ?_ ?_ ?_ ?_ ?_ ?_ ?_ ?_ ?_ ?_ ?_ ?_ ?_ ?_ v
 ·exact λe=>e
 ·exact λw_ w_ e=>e
 ·exact λw_ w_ e=>e
 ·exact λw_ w_ e=>e
 ·exact λw_ w_ e=>e
 ·exact λw_ w_ e=>e
 ·exact λvs i x r=>Iy.mono r X.sub (λa w_ f t=>Dw t (X.keep a f)) i
 ·exact λvs i x r=>Iy.mono r X.sub (λa w_ f t=>t.at (X.keep a f)) i
 ·exact λvs i x r=>Iy.mono r X.sub (λa w_ f t=>FB t (X.keep a f)) i
 ·intro lo hi x r;cases r with
  |mk a t u v e f r=>exact⟨a,t,u,v,e,X.sub _ f,X.keep _ f _ r⟩
 ·intro c ns vs i x r;cases r with
  |mk a K d es n xs e g f f' t t' en r=>exact⟨a,K,d,es,n,xs,e,g,X.sub _ f,X.sub _ f',X.keep _ f _ t,X.keep _ f' _ t',en,i _ r⟩
 ·intro ks vs i x r;cases r with
  |mk a xs e f t l r z=>exact⟨a,xs,e,X.sub _ f,gJ t (X.keep _ f),l,i _ r,z⟩
 ·intro vs i x r;cases r with
  |mk a cs xs e f t c r=>exact⟨a,cs,xs,e,X.sub _ f,C.clo.keep _ _ _ _ _ _ t X.sub X.keep,c.mono X,i _ r⟩
 ·intro xs r;cases xs with
  |nil=>exact r
  |cons _ _=>exact r.elim
 ·intro v vs i j xs r;cases xs with
  |nil=>exact r.elim
  |cons x xs=>exact⟨i r.1,j _ r.2⟩
theorem RL.mono{F F':dQ}{h h':cx}(X:gX F h F' h'){vs:List V}{xs:List aD}(r:RL C F h vs xs):RL C F' h' vs xs:=
 RL.ind (P:=λvs xs=>RL C F' h' vs xs) trivial (λw_ w_ w_ w_ a w_ b=>⟨R.mono X a,b⟩) r
theorem RL.length{F:dQ}{h:cx}{vs:List V}{xs:List aD}(r:RL C F h vs xs):vs.length=xs.length:=
 RL.ind (P:=λvs xs=>vs.length=xs.length) rfl (λw_ w_ w_ w_ w_ w_ b=>congrArg oY b) r
theorem Eu{α:Type}{l:List α}(h:l.length=2):∃a b,l=[a,b]:=by
 refine zt (List.exists_cons_of_length_pos (by refine ao h ?_;decide:0<l.length)) ?_;rintro a l rfl;obtain⟨b,rfl⟩:=pR.mp (cL h);exact⟨a,b,rfl⟩
theorem RL.un{F:dQ}{h:cx}{v:V}{vs:List V}{xs:List aD}(r:RL C F h (v::vs) xs):∃x ys,xs=x::ys/\R C F h v x/\RL C F h vs ys:=by
 cases xs with
 |nil=>exact r.elim
 |cons x xs=>exact⟨x,xs,rfl,r.1,r.2⟩
theorem RL.un0{F:dQ}{h:cx}{xs:List aD}(r:RL C F h [] xs):xs=[]:=by
 cases xs with
 |nil=>rfl
 |cons x xs=>exact r.elim
theorem Ev{F:dQ}{h:cx}{v:V}{xs:List aD}(r:RL C F h [v] xs):∃x,xs=[x]/\R C F h v x:=by
 obtain⟨x,ys,e,a,b⟩:=r.un;exact⟨x,by exact ao e (ao b.un0 rfl),a⟩
theorem I5{F:dQ}{h:cx}{v w:V}{xs:List aD}(r:RL C F h [v,w] xs):∃x y,xs=[x,y]/\R C F h v x/\R C F h w y:=by
 obtain⟨x,ys,e,a,b⟩:=r.un;refine bJ (Ev b) λy e' b=>?_;exact⟨x,y,by exact ao e (ao e' rfl),a,b⟩
theorem Pu{F:dQ}{h:cx}{v w u:V}{xs:List aD}(r:RL C F h [v,w,u] xs):∃x y z,xs=[x,y,z]/\R C F h v x/\R C F h w y/\R C F h u z:=by
 obtain⟨x,ys,e,a,b⟩:=r.un;refine lk (I5 b) λy z e' b=>?_;exact⟨x,y,z,by exact ao e (ao e' rfl),a,b⟩
theorem RL.get{F:dQ}{h:cx}{vs:List V}{xs:List aD}{i:Nat}{v:V}(r:RL C F h vs xs):vs[i]?=some v->∃x,xs[i]?=some x/\R C F h v x:=
 RL.ind (P:=λvs xs=>∀i,vs[i]?=some v->∃x,xs[i]?=some x/\R C F h v x) (λw_ e=>bx e) (λu y w_ w_ a w_ b i e=>by
  cases i with
  |zero=>replace e:=ac e;subst e;exact⟨y,rfl,a⟩
  |succ i=>exact b i e) r i
theorem RL.append{F:dQ}{h:cx}{vs ws:List V}{xs ys:List aD}(a:RL C F h vs xs)(b:RL C F h ws ys):RL C F h (vs++ws) (xs++ys):=
 RL.ind (P:=λvs xs=>RL C F h (vs++ws) (xs++ys)) b (λw_ w_ w_ w_ a w_ b=>⟨a,b⟩) a
theorem RL.snoc{F:dQ}{h:cx}{vs:List V}{xs:List aD}{v:V}{x:aD}(a:RL C F h vs xs)(b:R C F h v x):RL C F h (vs++[v]) (xs++[x]):=a.append ⟨b,trivial⟩
theorem RL.set{F:dQ}{h:cx}{v:V}{x:aD}(b:R C F h v x){vs:List V}{xs:List aD}{i:Nat}(r:RL C F h vs xs):RL C F h (vs.set i v) (xs.set i x):=
 RL.ind (P:=λvs xs=>∀i,RL C F h (vs.set i v) (xs.set i x)) (λw_=>trivial) (λw_ w_ w_ w_ a r k i=>by
  cases i with
  |zero=>exact⟨b,r⟩
  |succ i=>exact⟨a,k i⟩) r i
theorem RL.reverse{F:dQ}{h:cx}{vs:List V}{xs:List aD}(r:RL C F h vs xs):RL C F h vs.reverse xs.reverse:=
 RL.ind (P:=λvs xs=>RL C F h vs.reverse xs.reverse) trivial (λw_ w_ w_ w_ a w_ b=>by refine ao nJ (ao nJ ?_);exact b.snoc a) r
theorem RL.drop{F:dQ}{h:cx}{vs:List V}{xs:List aD}(i:Nat)(r:RL C F h vs xs):RL C F h (vs.drop i) (xs.drop i):=
 RL.ind (P:=λvs xs=>∀i,RL C F h (vs.drop i) (xs.drop i)) (λi=>by cases i<;>trivial) (λw_ w_ w_ w_ a r k i=>by
  cases i with
  |zero=>exact⟨a,r⟩
  |succ i=>exact k i) r i
theorem RL.take{F:dQ}{h:cx}{vs:List V}{xs:List aD}(i:Nat)(r:RL C F h vs xs):RL C F h (vs.take i) (xs.take i):=
 RL.ind (P:=λvs xs=>∀i,RL C F h (vs.take i) (xs.take i)) (λi=>by cases i<;>trivial) (λw_ w_ w_ w_ a r k i=>by
  cases i with
  |zero=>exact bL
  |succ i=>exact⟨a,k i⟩) r i
end
inductive Pa(h:cx)(L:List aD->Prop)(n:Nat)(a:aY):Prop
 |mk (xs:List aD) (l:h.PlainList a (bu xs)) (r:L xs) (z:n<=1073741824):Pa h L n a
inductive O3(I:aY->List (Int×aD)->Prop)(ks:List Int)(L:List aD->Prop)(a:aY):Prop
 |mk (xs:List aD) (l:I a (gq ks xs)) (k:ks.length=xs.length) (r:L xs) (z: (a==gW)=false):O3 I ks L a
inductive Pj(o:Option aD)(σ:AH)(h:cx)(d:aY)(ns:List String)(L:List aD->Prop)(a:aY):Prop
 |mk (K:aY) (es:List eZ) (n:Nat) (xs:List aD) (g:o=some (.ref K)) (e:h.get? a=some (eP K d)) (e':h.get? d=some (pP es n)) (en:Ents ns xs es) (r:L xs) (s:σ d=some (.aux a)):Pj o σ h d ns L a
structure Px(C:Cx)(P F:dQ)(a:aY)(r:Prop):Prop where
 nF:¬F a
 nP:¬P a
 nS:¬C.sp a
 ro:r
section
variable(C:Cx)
noncomputable def zy(σ:AH)(F:dQ)(h:cx)(a:aY):fM->Prop
 | .list vs=>Pa h (λxs=>RL C F h vs xs) vs.length a
 | .dict ks vs=>O3 (λa l=>h.DictOf (eQ C.prog C.w) a l) ks (λxs=>RL C F h vs xs) a
 | .inst c d ns vs=>Pj (C.gv c) σ h d ns (λxs=>RL C F h vs xs) a
 | .aux _=>∃o,h.get? a=some o
structure cN(P F:dQ)(σ:AH)(h:cx):Prop where
 base:∀a o,C.base.get? a=some o->F a/\h.get? a=some o
 fp:∀a,F a->¬P a
 fal:∀a,F a->∃o,h.get? a=some o
 pal:∀a,P a->∃o,h.get? a=some o
 obj:∀a m,σ a=some m->Px C P F a (zy C σ F h a m)
 spx:∀a,C.sp a->¬F a/\¬P a/\∃o,h.get? a=some o
 inv:C.inv F h
end
section
variable{C:Cx}{P F F':dQ}{σ:AH}{h h':cx}
theorem zy.live{a:aY}{m:fM}(q:zy C σ F h a m):∃o,h.get? a=some o:=by
 cases m with
 |list _=>cases q with|mk _ l _ _=>exact l.elim λw_ e=>⟨_,e⟩
 |dict _ _=>cases q with|mk _ l _ _ _=>exact kC l λo w_ w_ e w_=>⟨o,e⟩
 |inst _ _ _ _=>cases q with|mk _ _ _ _ _ e _ _ _ _=>exact⟨_,e⟩
 |aux _=>exact q
theorem zy.mono(X:gX F h F' h'){σ':AH}{a:aY}(k:∀o,h.get? a=some o->h'.get? a=some o){m:fM}(q:zy C σ F h a m)
  (z:∀c d ns vs,m= .inst c d ns vs->σ d=some (.aux a)->σ' d=some (.aux a)/\∀o,h.get? d=some o->h'.get? d=some o):zy C σ' F' h' a m:=by
 cases m with
 |list _=>cases q with|mk xs l r z=>exact⟨xs,l.at k,r.mono X,z⟩
 |dict _ _=>cases q with|mk xs l e r z=>exact⟨xs,gJ l k,e,r.mono X,z⟩
 |inst c d ns vs=>cases q with|mk K es n xs g e e' en r s=>exact⟨K,es,n,xs,g,k _ e,(z c d ns vs rfl s).2 _ e',en,r.mono X,(z c d ns vs rfl s).1⟩
 |aux _=>exact q.elim λo e=>⟨o,k o e⟩
theorem cN.live(X:cN C P F σ h){a:aY}{m:fM}(e:σ a=some m):∃o,h.get? a=some o:=(X.obj a m e).ro.live
theorem cN.fresh_σ(X:cN C P F σ h){a:aY}(e:h.get? a=none):σ a=none:=by
 cases q:σ a with
 |none=>rfl
 |some m=>obtain⟨o,ho⟩:=X.live q;rw[e]at ho;exact bx ho
theorem cN.fresh_F(X:cN C P F σ h){a:aY}(e:h.get? a=none):¬F a:=λz=>by obtain⟨o,ho⟩:=X.fal a z;rw[e]at ho;exact bx ho
theorem cN.fresh_P(X:cN C P F σ h){a:aY}(e:h.get? a=none):¬P a:=λz=>by obtain⟨o,ho⟩:=X.pal a z;rw[e]at ho;exact bx ho
theorem cN.fresh_sp(X:cN C P F σ h){a:aY}(e:h.get? a=none):¬C.sp a:=λz=>by refine MQ (X.spx a z) ?_;intro _ _ o ho;rw[e]at ho;exact bx ho
theorem cN.ext(X:cN C P F σ h)(k:∀b o,h.get? b=some o->h'.get? b=some o):cN C P F σ h' where
 base:=λa o e=>⟨(X.base a o e).1,k _ _ (X.base a o e).2⟩
 fp:=X.fp
 fal:=λa f=>let⟨o,e⟩:=X.fal a f;⟨o,k _ _ e⟩
 pal:=λa f=>let⟨o,e⟩:=X.pal a f;⟨o,k _ _ e⟩
 obj:=λa m e=>let⟨p,q,r,z⟩:=X.obj a m e;⟨p,q,r,z.mono ⟨λw_ x=>x,d3.all k⟩ (k a) λw_ d w_ w_ w_ s=>⟨s,k d⟩⟩
 spx:=λa s=>let⟨p,q,o,e⟩:=X.spx a s;⟨p,q,o,k _ _ e⟩
 inv:=C.invKeep _ _ _ _ X.inv (λw_ x=>x) λa w_ o e=>k a o e
theorem cN.freeze(X:cN C P F σ h)(S:dQ)(hs:∀a,S a->¬P a/\¬C.sp a/\σ a=none/\∃o,h.get? a=some o):cN C P (λa=>F a\/S a) σ h where
 base:=λa o e=>⟨.inl (X.base a o e).1,(X.base a o e).2⟩
 fp:=λa f=>f.elim (X.fp a) λs=>(hs a s).1
 fal:=λa f=>f.elim (X.fal a) λs=>(hs a s).2.2.2
 pal:=X.pal
 obj:=λa m e=>let⟨p,q,r,z⟩:=X.obj a m e
  ⟨λf=>f.elim p λs=>(by have:=(hs a s).2.2.1;rw[e]at this;exact n9 this),q,r,z.mono ⟨λw_ x=> .inl x,d3.refl _ _⟩ (λw_ e=>e) λw_ d w_ w_ w_ s=>⟨s,λw_ e=>e⟩⟩
 spx:=λa s=>let⟨p,q,o,e⟩:=X.spx a s;⟨λf=>f.elim p λz=>(hs a z).2.1 s,q,o,e⟩
 inv:=C.invKeep _ _ _ _ X.inv (λw_ x=> .inl x) λw_ w_ w_ e=>e
theorem cN.del(X:cN C P F σ h){a:aY}(hn:∀b,σ a≠some (.aux b)):cN C P F (σ.del a) h where
 base:=X.base
 fp:=X.fp
 fal:=X.fal
 pal:=X.pal
 obj:=λb m e=>by
  have hb:b≠a:=by rintro rfl;rw[jP]at e;exact bx e
  rw[jO _ hb]at e;obtain⟨p,q,r,z⟩:=X.obj b m e;refine⟨p,q,r,z.mono (gX.refl _ _) (λw_ e=>e) λc d w_ w_ w_ s=>⟨?_,λw_ e=>e⟩⟩;by_cases hd:d=a
  ·clear hb;subst hd;exact absurd s (hn b)
  ·refine ao (jO _ hd) ?_;exact s
 spx:=X.spx
 inv:=X.inv
theorem cN.alloc(X:cN C P F σ h)(k:∀b o,h.get? b=some o->h'.get? b=some o){a:aY}{m:fM}(ha:h.get? a=none)(hm:zy C (σ.set a m) F h' a m):
  cN C P F (σ.set a m) h' where
 base:=λa o e=>⟨(X.base a o e).1,k _ _ (X.base a o e).2⟩
 fp:=X.fp
 fal:=λa f=>let⟨o,e⟩:=X.fal a f;⟨o,k _ _ e⟩
 pal:=λa f=>let⟨o,e⟩:=X.pal a f;⟨o,k _ _ e⟩
 obj:=λb m' e=>by
  by_cases hb:b=a
  ·subst hb;rw[az]at e;replace e:=ac e;subst e
   exact⟨X.fresh_F ha,X.fresh_P ha,X.fresh_sp ha,hm⟩
  ·rw[ay _ _ hb]at e
   obtain⟨p,q,r,z⟩:=X.obj b m' e;refine⟨p,q,r,z.mono ⟨λw_ x=>x,d3.all k⟩ (k b) λw_ d w_ w_ w_ s=>⟨?_,k d⟩⟩;rw[ay];exact s;rintro rfl;rw[X.fresh_σ ha]at s;clear hb z r q p e;exact bx s
 spx:=λa s=>let⟨p,q,o,e⟩:=X.spx a s;⟨p,q,o,k _ _ e⟩
 inv:=C.invKeep _ _ _ _ X.inv (λw_ x=>x) λa w_ o e=>k a o e
theorem cN.upd(X:cN C P F σ h){a:aY}{m m':fM}(hs:cy a h h')(yZ:σ a=some m)(na:∀b,m≠ .aux b)(hm:zy C (σ.set a m') F h' a m'):cN C P F (σ.set a m') h':=by
 obtain⟨fa,pa,sa,za⟩:=X.obj a m yZ;have k:∀b,b≠a->∀o,h.get? b=some o->h'.get? b=some o:=λb hb o e=>(hs.2 b hb).trans e;have kF:d3 F h h':=λb f o e=>k b (λz=>fa (z▸f)) o e;refine⟨λb o e=>⟨(X.base b o e).1,kF b (X.base b o e).1 o (X.base b o e).2⟩,X.fp,λb f=>let⟨o,e⟩:=X.fal b f;⟨o,kF b f o e⟩,
  λb f=>let⟨o,e⟩:=X.pal b f;⟨o,k b (λz=>pa (z▸f)) o e⟩,λb m'' e=>?_,λb s=>let⟨p,q,o,e⟩:=X.spx b s;⟨p,q,o,k b (λz=>sa (z▸s)) o e⟩,
  C.invKeep _ _ _ _ X.inv (λw_ x=>x) λb s o e=>s.elim (λs=>k b (λz=>sa (z▸s)) o e) λf=>kF b f o e⟩
 by_cases hb:b=a
 ·clear k za yZ hs;subst hb;rw[az]at e;replace e:=ac e;subst e;exact⟨fa,pa,sa,hm⟩
 ·rw[ay _ _ hb]at e
  obtain⟨p,q,r,z⟩:=X.obj b m'' e;refine⟨p,q,r,z.mono ⟨λw_ x=>x,kF⟩ (k b hb) λw_ d w_ w_ w_ s=>?_⟩;have hd:d≠a:=by rintro rfl;rw[yZ]at s;exact na b (ac s)
  exact⟨by refine ao (ay _ _ hd) ?_;exact s,k d hd⟩
theorem cN.updInst(X:cN C P F σ h){a d:aY}{c:String}{ns ns':List String}{vs vs':List V}(hs:cy d h h')(yZ:σ a=some (.inst c d ns vs))
  (hm:zy C (σ.set a (.inst c d ns' vs')) F h' a (.inst c d ns' vs')):cN C P F (σ.set a (.inst c d ns' vs')) h':=by
 obtain⟨_,_,_,za⟩:=X.obj a _ yZ;obtain⟨K,es,n,xs,_,ea,ed,_,_,hd⟩:=za;obtain⟨fd,pd,sd,_⟩:=X.obj d _ hd;have k:∀b,b≠d->∀o,h.get? b=some o->h'.get? b=some o:=λb hb o e=>(hs.2 b hb).trans e;have kF:d3 F h h':=λb f o e=>k b (λz=>fd (z▸f)) o e;have had:a≠d:=by rintro rfl;rw[yZ]at hd;replace hd:=ac hd;cases hd
 have hd':∃o,h'.get? d=some o:=by
  obtain⟨_,_,_,_,_,_,e,_⟩:=hm;exact⟨_,e⟩
 refine⟨λb o e=>⟨(X.base b o e).1,kF b (X.base b o e).1 o (X.base b o e).2⟩,X.fp,λb f=>let⟨o,e⟩:=X.fal b f;⟨o,kF b f o e⟩,
  λb f=>let⟨o,e⟩:=X.pal b f;⟨o,k b (λz=>pd (z▸f)) o e⟩,λb m'' e=>?_,λb s=>let⟨p,q,o,e⟩:=X.spx b s;⟨p,q,o,k b (λz=>sd (z▸s)) o e⟩,
  C.invKeep _ _ _ _ X.inv (λw_ x=>x) λb s o e=>s.elim (λs=>k b (λz=>sd (z▸s)) o e) λf=>kF b f o e⟩
 by_cases hb:b=a
 ·clear had ro hd ea nS nP nF;subst hb;rw[az]at e;replace e:=ac e;subst e
  obtain⟨p,q,r,_⟩:=X.obj b _ yZ;exact⟨p,q,r,hm⟩
 ·rw[ay _ _ hb]at e
  obtain⟨p,q,r,z⟩:=X.obj b m'' e;refine⟨p,q,r,?_⟩;by_cases hbd:b=d
  ·clear z r q p hb had k ro sd pd fd ed ea hm yZ hs;subst hbd;rw[hd]at e;replace e:=ac e;subst e;exact hd'
  ·refine z.mono ⟨λw_ x=>x,kF⟩ (k b hbd) λw_ d' w_ w_ w_ s=>?_
   have h1:d'≠d:=by rintro rfl;rw[hd]at s;replace s:=ac s;cases s;exact hb rfl
   have h2:d'≠a:=by rintro rfl;rw[yZ]at s;replace s:=ac s;cases s
   exact⟨by refine ao (ay _ _ h2) ?_;exact s,k d' h1⟩
theorem cN.out(X:cN C P F σ h){a:aY}(hs:cy a h h')(hl:∃o,h'.get? a=some o)(fa:¬F a)(sa:¬C.sp a)(na:σ a=none):cN C P F σ h':=by
 have k:∀b,b≠a->∀o,h.get? b=some o->h'.get? b=some o:=λb hb o e=>(hs.2 b hb).trans e;have kF:d3 F h h':=λb f o e=>k b (λz=>fa (z▸f)) o e;refine⟨λb o e=>⟨(X.base b o e).1,kF b (X.base b o e).1 o (X.base b o e).2⟩,X.fp,λb f=>let⟨o,e⟩:=X.fal b f;⟨o,kF b f o e⟩,
  λb f=>?_,λb m'' e=>?_,λb s=>let⟨p,q,o,e⟩:=X.spx b s;⟨p,q,o,k b (λz=>sa (z▸s)) o e⟩,
  C.invKeep _ _ _ _ X.inv (λw_ x=>x) λb s o e=>s.elim (λs=>k b (λz=>sa (z▸s)) o e) λf=>kF b f o e⟩
 ·obtain⟨o,e⟩:=X.pal b f
  by_cases hb:b=a
  ·clear e f k na sa fa hs;subst hb;exact hl
  ·exact⟨o,k b hb o e⟩
 ·have hb:b≠a:=by rintro rfl;rw[na]at e;exact bx e
  obtain⟨p,q,r,z⟩:=X.obj b m'' e;refine⟨p,q,r,z.mono ⟨λw_ x=>x,kF⟩ (k b hb) λw_ d w_ w_ w_ s=>?_⟩;exact⟨s,k d (by rintro rfl;rw[na]at s;clear hb z r q p e;exact bx s)⟩
theorem cN.protect(X:cN C P F σ h){P':dQ}(hp:∀a,P' a->Oa C F σ h a):cN C P' F σ h where
 base:=X.base
 fp:=λa f p=>(hp a p).nF f
 fal:=X.fal
 pal:=λa p=>(hp a p).lv
 obj:=λa m e=>let⟨p,q,r,z⟩:=X.obj a m e;⟨p,λy=>(by have:=(hp a y).nσ;rw[e]at this;clear e;exact n9 this),r,z⟩
 spx:=λa s=>let⟨p,q,o⟩:=X.spx a s;⟨p,λy=>(hp a y).nS s,o⟩
 inv:=X.inv
theorem cN.sub{P':dQ}(X:cN C P F σ h)(hp:∀a,P' a->P a):cN C P' F σ h where
 base:=X.base
 fp:=λa f p=>X.fp a f (hp a p)
 fal:=X.fal
 pal:=λa p=>X.pal a (hp a p)
 obj:=λa m e=>let⟨p,q,r,z⟩:=X.obj a m e;⟨p,λy=>q (hp a y),r,z⟩
 spx:=λa s=>let⟨p,q,o⟩:=X.spx a s;⟨p,λy=>q (hp a y),o⟩
 inv:=X.inv
end
end
inductive IE where
 |none
 |bool (b:Bool)
 |int (i:Int)
 |str (s:String)
 |loc (i:Nat)
 |glob (n:String)
 |bin (op:lq) (a b:IE)
 |not (a:IE)
 |neg (a:IE)
 |cmp (op:qf) (a b:IE)
 |cmp2 (op op':qf) (a b c:IE)
 |bool2 (isAnd:Bool) (es:List IE)
 |ite (c a b:IE)
 |attr (o:IE) (n:String)
 |sub (o i:IE)
 |slice (o:IE) (lo hi:Option IE)
 |list (es:List IE)
 |tup (es:List IE)
 |dict (ks vs:List IE)
 |call (f:IE) (es:List IE)
 |mcall (o:IE) (n:String) (es:List IE)
 |sortedKeys (o:IE)
 |comp (caps:List (Option Nat)) (t:Nat) (it:IE) (ifs:List IE) (elt:IE)
 |comp2 (caps:List (Option Nat)) (t:Nat) (it:IE) (t':Nat) (it':IE) (elt:IE)
 |dcomp (caps:List (Option Nat)) (t:Nat) (it:IE) (k v:IE)
 |lam (caps:List Nat)
inductive wB where
 |nm (i:Nat)
 |tup (is:List Nat)
 |sub (o i:IE)
 |attr (o:IE) (n:String)
inductive IS where
 |assign (t:wB) (e:IE)
 |aug (i:Nat) (op:lq) (e:IE)
 |expr (e:IE)
 |ifs (c:IE) (t e:List IS)
 |whiles (c:IE) (b:List IS)
 |fors (t:wB) (it:IE) (b:List IS)
 |forEnum (i j:Nat) (e:IE) (b:List IS)
 |ret (e:IE)
 |cont
 |stuck
noncomputable def JT(x:Str):Nat:=x.cps.toList.foldl (λa c=>a*256+c) 0
noncomputable def J5:List (Nat×String):=[(4287604,"Alt"),(4415860,"Cat"),(18973591178798452,"CharSet"),(289514025587,"Chars"),(18977989244183923,"Classes"),(1145389380,"DEAD"),(4482657,"Dfa"),(298188829817,"Empty"),(1281500229926868578158,"Exception"),(1282371440,"Loop"),(93461892221899745943437652,"MOST_REPEAT"),(85098106414450,"Merger"),(336709707122,"Never"),(5138017,"Nfa"),(1315923045,"Node"),(5206132,"Opt"),(1348561266,"Pair"),(1349285235,"Plus"),(389104623240153794768754,"RegexError"),(90595630866804,"Repeat"),(1400136050,"Star"),(23491488770258035,"Subsets"),(5525328,"TOP"),(398475210891062173396850,"TableError"),(1557556257897755864946,"ToolError"),(6872327479327219551,"__init__"),(450624087419592785357166,"_law_again"),(495466423873791152966360311427722340,"_law_apart_told"),(1760250341482835370359,"_law_draw"),(1760250341482851886195,"_law_ends"),(7560217649441681859060710338414,"_law_equation"),(6875977896417454452,"_law_fit"),(115359766379427839090255219,"_law_leaves"),(126839404511703800360691769814385453422,"_law_lies_within"),(1760250341483002946661,"_law_node"),(6875977896418108782,"_law_pen"),(1760250341483103806821,"_law_tree"),(6382195,"abs"),(27413455001120624,"add_hop"),(7017844480370767461,"add_move"),(1796568187000768787557,"add_state"),(418330731890,"after"),(418497262196,"apart"),(107135549927012,"append"),(24948,"at"),(422608071022,"begin"),(1651078259,"bits"),(1651467385,"body"),(108230851060851,"bounds"),(422876638308,"build"),(30471473131348398448625410917,"build_choice"),(30471473131348398478706959731,"build_copies"),(464957780934881719578480,"build_loop"),(1816241331776882110327,"build_row"),(426952976750,"chain"),(27980790435636596,"charset"),(7163082351522968691,"charsets"),(30765223050532528384543454323,"check_counts"),(6514802,"chr"),(120195469375271177165303412,"class_count"),(469513552247179072991078,"classes_of"),(27985248628601445,"closure"),(469514561055750226931558,"closure_of"),(427071729268,"count"),(110390883086182,"dfa_of"),(474180935111285519836005,"difference"),(1871080539643590046821,"enumerate"),(8037158124440079870719203763571,"equal_regexes"),(111568023285348,"extend"),(439855772532,"first"),(483626536443739334734436,"first_word"),(6776180,"get"),(26479,"go"),(29114386821902182,"goal_of"),(1751474532,"head"),(448377480307,"heads"),(1751738216,"high"),(1752133747,"hops"),(452823639416,"index"),(6909556,"int"),(1785686382,"join"),(502626032897467345692257,"joined_nfa"),(1801810036,"kept"),(7038329,"key"),(1801812339,"keys"),(7102839,"law"),(465557353332,"least"),(1818584692,"left"),(7103854,"len"),(1818850164,"list"),(7106423,"low"),(1835099237,"made"),(1835103083,"mask"),(7168376,"max"),(7170414,"min"),(30796717039906407,"missing"),(470021465459,"moves"),(1851878757,"name"),(7235169,"nfa"),(31091360100872819,"numbers"),(28518,"of"),(7303780,"ord"),(482671228019,"parts"),(8100956909263089510,"place_of"),(7368560,"pop"),(491260897125,"range"),(32199706527560549,"reverse"),(491394656372,"right"),(1919907699,"rows"),(1935764837,"same"),(2128686141465188004724,"set_first"),(32481172813799783,"set_tag"),(495690868083,"sizes"),(126922498794852,"sorted"),(495806672499,"spans"),(495807196773,"spine"),(139576061489085145486290548,"state_count"),(7566450,"str"),(545237508712021746804321,"subset_dfa"),(1952540531,"tags"),(32758194243592564,"tags_at"),(32758194243596134,"tags_of"),(1952807028,"text"),(1953459300,"told"),(500186508389,"tuple"),(2002876787,"ways"),(426952979059,"chars"),(435627783289,"empty"),(474148660594,"never"),(6513012,"cat"),(6384756,"alt"),(1937006962,"star"),(1886156147,"plus"),(7303284,"opt"),(125780002955636,"repeat"),(0,"")]
noncomputable def DL(x:Str):Option String:=match J5.lookup (JT x)with
 |some s=>if x=ae s then some s else none
 |none=>none
theorem ur{x:Str}{s:String}(h:DL x=some s):x=ae s:=by
 unfold DL at h;split at h
 ·split at h
  ·rename_i e;replace h:=ac h;subst h;exact e
  ·exact bx h
 ·exact bx h
noncomputable abbrev cD:=List (Str×cZ)
noncomputable def cj:cD->Str->Option (Nat×cZ)
 |[],_=>none
 |(n,k)::r,x=>if x==n then some (0,k)else(cj r x).map λp=>(p.1+1,p.2)
noncomputable def M6(p:Nat×cZ):Option Nat:=match p.2 with
 | .local=>some p.1
 | .cell=>some p.1
 | .free=>some p.1
 |_=>none
noncomputable def cB(ns:cD)(x:Str):Option Nat:=(cj ns x).bind M6
noncomputable def hY(outer:cD):cD->List (Option Nat)
 |[]=>[]
 |(n,k)::r=>(match k with| .free=>cB outer n|_=>none)::hY outer r
noncomputable def zW(outer:cD):cD->List Nat
 |[]=>[]
 |(n,k)::r=>(match k with| .free=>(cB outer n).toList|_=>[])++zW outer r
noncomputable def Dn{α:Type}:List (Option α)->Option (List α)
 |[]=>some []
 |some a::r=>(Dn r).map (a::·)
 |none::_=>none
noncomputable def sX(ns:cD)(f:Str)(s:String):Bool:=f==ae s && ((cj ns f).any λp=>p.2== .globalImplicit)
noncomputable def f7:Expr->Bool
 | .Call (.Name _ _) [] [] _=>false
 |_=>true
noncomputable def BY:Expr->Option (Expr×Str×hU)
 | .Attribute o x p=>some (o,x,p)
 |_=>none
theorem EM{f o:Expr}{x:Str}{p:hU}:BY f=some (o,x,p)->f= .Attribute o x p:=by
 apply Expr.casesOn (motive_1:=λf=>BY f=some (o,x,p)->f= .Attribute o x p) f
 case Attribute=>intro a b c h;replace h:=ac h;cases h;rfl
 all_goals repeat first|exact bx|refine λw_=>?_
noncomputable def tY:Expr->Option Str
 | .Name x _=>some x
 |_=>none
theorem kR{f:Expr}{x:Str}:tY f=some x->∃p,f= .Name x p:=by
 apply Expr.casesOn (motive_1:=λf=>tY f=some x->∃p,f= .Name x p) f
 case Name=>intro a b h;replace h:=ac h;subst h;exact⟨_,rfl⟩
 all_goals repeat first|exact bx|refine λw_=>?_
noncomputable def qT(ns:cD):List Expr->Option (List Nat)
 |[]=>some []
 |t::r=>(tY t).bind λx=>(cB ns x).bind λi=>(qT ns r).map (i::·)
noncomputable def yv{α:Type}:List α->Option α
 |[a]=>some a
 |_=>none
theorem qJ{α:Type}{l:List α}{a:α}(h:yv l=some a):l=[a]:=by
 cases l with
 |nil=>exact bx h
 |cons b l=>cases l with
  |nil=>replace h:=ac h;subst h;rfl
  |cons _ _=>exact bx h
noncomputable def Ai{α:Type}:List α->Option (α×α)
 |[a,b]=>some (a,b)
 |_=>none
theorem Ap{α:Type}{l:List α}{a b:α}(h:Ai l=some (a,b)):l=[a,b]:=by
 cases l with
 |nil=>exact bx h
 |cons c l=>cases l with
  |nil=>exact bx h
  |cons d l=>cases l with
   |nil=>replace h:=ac h;cases h;rfl
   |cons _ _=>exact bx h
noncomputable def Ej:Expr->Option (Expr×List Expr×hU)
 | .Call f es [] q=>some (f,es,q)
 |_=>none
theorem ET{e f:Expr}{es:List Expr}{q:hU}:Ej e=some (f,es,q)->e= .Call f es [] q:=by
 apply Expr.casesOn (motive_1:=λe=>Ej e=some (f,es,q)->e= .Call f es [] q) e
 case Call=>intro f es ks q h;cases ks<;>(first|exact bx h|replace h:=ac h;cases h);rfl
 all_goals repeat first|exact bx|refine λw_=>?_
noncomputable def DW:Expr->Option (List Expr)
 | .Tuple es _ _=>some es
 |_=>none
theorem Gw{e:Expr}{es:List Expr}:DW e=some es->∃k p,e= .Tuple es k p:=by
 apply Expr.casesOn (motive_1:=λe=>DW e=some es->∃k p,e= .Tuple es k p) e
 case Tuple=>intro a b c h;replace h:=ac h;subst h;exact⟨_,_,rfl⟩
 all_goals repeat first|exact bx|refine λw_=>?_
noncomputable def Ar:Expr->Option (Option Expr×Option Expr)
 | .Slice lo hi none _=>some (lo,hi)
 |_=>none
theorem GR{e:Expr}{lo hi:Option Expr}:Ar e=some (lo,hi)->∃p,e= .Slice lo hi none p:=by
 apply Expr.casesOn (motive_1:=λe=>Ar e=some (lo,hi)->∃p,e= .Slice lo hi none p) e
 case Slice=>intro a b c p h;cases c<;>(first|exact bx h|replace h:=ac h;cases h);exact⟨p,rfl⟩
 all_goals repeat first|exact bx|refine λw_=>?_
noncomputable def FN(g:gB):Option (Str×Expr×List Expr):=if g.is_async=0 then(tY g.target).map λx=>(x,g.iter,g.ifs)else none
theorem A0{g:gB}{x:Str}{it:Expr}{fs:List Expr}(h:FN g=some (x,it,fs)):∃p,g=⟨.Name x p,it,fs,0⟩:=by
 unfold FN at h;split at h
 ·refine oM h λy h1 h2=>?_
  obtain⟨p,h3⟩:=kR h1;clear h1 h;cases g;cases h2;subst h3
  subst_vars
  exact⟨p,rfl⟩
 ·exact bx h
noncomputable def Bk(ns:cD)(f:Expr)(es:List Expr):Option Expr:=(tY f).bind λf=>(yv es).bind λe=>(Ej e).bind λc=>(BY c.1).bind λa=>
 if c.2.1.isEmpty && sX ns f "sorted" && a.2.1==ae "keys" && f7 a.1 && (a.2.2.endLine==c.2.2.line)then some a.1 else none
noncomputable def AD(ns:cD)(t it:Expr):Option (Nat×Nat×Expr):=(DW t).bind λts=>(Ai ts).bind λp=>(tY p.1).bind λi=>(tY p.2).bind λj=>(Ej it).bind λc=>(tY c.1).bind λf=>(yv c.2.1).bind λe=>
 if sX ns f "enumerate" then(cB ns i).bind λi=>(cB ns j).map λj=>(i,j,e)else none
noncomputable def dL(ns:cD)(sc:Scope):Bool:=(match sc.kind with| .function=>true|_=>false) && sc.names.all λp=>p.2 != .cell && sc.names.lookup p.1==some p.2 &&
 (p.2 != .free||(((cj ns p.1).any λq=>q.2== .cell||q.2== .free) && !(p.1==ae "__classdict__")))
noncomputable def Ov(p:Nat×cZ):Option Nat:=match p.2 with
 | .local=>some p.1
 |_=>none
noncomputable def fk(ns:cD)(x:Str):Option Nat:=(cj ns x).bind Ov
theorem pF{ns:cD}{x:Str}{t:Nat}(h:fk ns x=some t):cj ns x=some (t,.local):=by
 refine oB h ?_;rintro⟨i,k⟩ e h;cases k<;>first|exact bx h|(replace h:=ac h;subst h;exact e)
mutual
noncomputable def cE(ns:cD):Nat->Expr->Option IE
 |0,_=>none
 |n+1,e=>match e with
  | .Constant c _ _=>(match c with
    | .none=>some .none
    | .bool b=>some (.bool b)
    | .int i=>some (.int i)
    | .str s=>(DL s).map .str
    |_=>none)
  | .Name x _=>if x==ae "__debug__" then none else(match cj ns x with
    |none=>none
    |some p=>(match p.2 with
     | .local=>some (.loc p.1)
     | .cell=>some (.loc p.1)
     | .free=>some (.loc p.1)
     | .globalImplicit=>(DL x).bind λs=>if jK.contains s then some (.glob s)else none
     |_=>none))
  | .BinOp a op b _=>(cE ns n a).bind λa=>(cE ns n b).map λb=> .bin op a b
  | .UnaryOp op a _=>(match op with
    | .Not=>(cE ns n a).map .not
    | .USub=>(cE ns n a).map .neg
    |_=>none)
  | .Compare a ops bs _=>(match Ai ops with
    |some o=>(cE ns n a).bind λa=>(Ai bs).bind λb=>(cE ns n b.1).bind λb1=>(cE ns n b.2).map λb2=> .cmp2 o.1 o.2 a b1 b2
    |none=>(yv ops).bind λop=>(cE ns n a).bind λa=>(yv bs).bind λb=>(cE ns n b).map λb=> .cmp op a b)
  | .BoolOp op es _=>(AZ ns n es).map λes=> .bool2 (op== .And) es
  | .IfExp c a b _=>(cE ns n c).bind λc=>(cE ns n a).bind λa=>(cE ns n b).map λb=> .ite c a b
  | .Attribute o x _=>if f7 o then(cE ns n o).bind λo=>(DL x).map λm=> .attr o m else none
  | .Subscript o i _=>(cE ns n o).bind λo=>(match Ar i with
    |some s=>(cO ns n s.1).bind λlo=>(cO ns n s.2).map λhi=> .slice o lo hi
    |none=>(cE ns n i).map λi=> .sub o i)
  | .List es _=>(AZ ns n es).map .list
  | .Tuple es _ _=>(AZ ns n es).map .tup
  | .Dict ks vs _=>(Dn ks).bind λks=>(AZ ns n ks).bind λks=>(AZ ns n vs).map λvs=> .dict ks vs
  | .Call f es kw q=>if kw.isEmpty then(match BY f with
    |some a=>if f7 a.1 && (a.2.2.endLine==q.line) && decide (es.length<20)then(cE ns n a.1).bind λo=>(DL a.2.1).bind λm=>(AZ ns n es).map λes=> .mcall o m es else none
    |none=>(match Bk ns f es with
     |some o=>(cE ns n o).map .sortedKeys
     |none=>if es.length<20 then(cE ns n f).bind λf=>(AZ ns n es).map λes=> .call f es else none))else none
  | .ListComp elt gs sc _=>if dL ns sc then(match Ai gs with
    |none=>(yv gs).bind λg=>(FN g).bind λg=>(fk sc.names g.1).bind λt=>(cE ns n g.2.1).bind λit=>(AZ sc.names n g.2.2).bind λfs=>(cE sc.names n elt).map λelt=>
     .comp (hY ns sc.names) t it fs elt
    |some gg=>(FN gg.1).bind λg=>(FN gg.2).bind λg'=>if g.2.2.isEmpty && g'.2.2.isEmpty then(fk sc.names g.1).bind λt=>(cE ns n g.2.1).bind λit=>(fk sc.names g'.1).bind λt'=>(cE sc.names n g'.2.1).bind λit'=>(cE sc.names n elt).map λelt=>
     .comp2 (hY ns sc.names) t it t' it' elt else none)else none
  | .DictComp k v gs sc _=>if dL ns sc then(yv gs).bind λg=>(FN g).bind λg=>if g.2.2.isEmpty then(fk sc.names g.1).bind λt=>(cE ns n g.2.1).bind λit=>(cE sc.names n k).bind λk=>(cE sc.names n v).map λv=>
    .dcomp (hY ns sc.names) t it k v else none else none
  | .Lambda _ _ sc _=>some (.lam (zW ns sc.names))
  |_=>none
noncomputable def AZ(ns:cD):Nat->List Expr->Option (List IE)
 |0,_=>none
 |_+1,[]=>some []
 |n+1,e::es=>(cE ns n e).bind λe=>(AZ ns n es).map (e::·)
noncomputable def cO(ns:cD):Nat->Option Expr->Option (Option IE)
 |0,_=>none
 |_+1,none=>some none
 |n+1,some e=>(cE ns n e).map some
end
noncomputable def cT(ns:cD)(n:Nat):Expr->Option wB
 | .Name x _=>(cB ns x).map .nm
 | .Tuple ts _ _=>(qT ns ts).map .tup
 | .Subscript o i _=>(cE ns n o).bind λo=>(cE ns n i).map λi=> .sub o i
 | .Attribute o x _=>(cE ns n o).bind λo=>(DL x).map λm=> .attr o m
 |_=>none
noncomputable def Hz:Expr->Expr->Bool
 | .Tuple ts _ _,.Tuple vs _ _=>ts.length==2 && !(vs.all (constantsAlone 8))
 |_,_=>true
noncomputable def DG:Expr->Bool
 | .Call ..=>true
 |_=>false
mutual
noncomputable def cS(ns:cD):Nat->ij->Option IS
 |0,_=>none
 |n+1,s=>match s with
  | .Assign ts e _=>(yv ts).bind λt=>if !(Hz t e)then none else(cT ns n t).bind λt=>(cE ns n e).map λe=> .assign t e
  | .AugAssign t op e _=>(tY t).bind λx=>(cB ns x).bind λi=>(cE ns n e).map λe=> .aug i op e
  | .Expr e _=>if !(DG e)then none else(cE ns n e).map .expr
  | .If c t e _=>(cE ns n c).bind λc=>(cSs ns n t).bind λt=>(cSs ns n e).map λe=> .ifs c t e
  | .While c b el _=>if el.isEmpty then(cE ns n c).bind λc=>(cSs ns n b).map λb=> .whiles c b else none
  | .For t it b el _=>if el.isEmpty then(match AD ns t it with
    |some x=>(cE ns n x.2.2).bind λe=>(cSs ns n b).map λb=> .forEnum x.1 x.2.1 e b
    |none=>(cT ns n t).bind λt=>(cE ns n it).bind λit=>(cSs ns n b).map λb=> .fors t it b)else none
  | .Return v _=>v.bind λe=>(cE ns n e).map .ret
  | .Continue _=>some .cont
  | .Raise _ _ _=>some .stuck
  |_=>none
noncomputable def cSs(ns:cD):Nat->List ij->Option (List IS)
 |0,_=>none
 |_+1,[]=>some []
 |n+1,s::ss=>(cS ns n s).bind λs=>(cSs ns n ss).map (s::·)
end
structure Aft(C:Cx)(P F:dQ)(s:aU)(F':dQ)(σ':AH)(s':aU):Prop where
 rest:∃h t,s'={s with heap:=h,toks:=t}
 ext:gX F s.heap F' s'.heap
 keep:d3 P s.heap s'.heap
 rep:cN C P F' σ' s'.heap
theorem Aft.refl{C:Cx}{P F:dQ}{σ:AH}{s:aU}(X:cN C P F σ s.heap):Aft C P F s F σ s:=⟨⟨s.heap,s.toks,rfl⟩,gX.refl _ _,d3.refl _ _,X⟩
theorem Aft.trans{C:Cx}{P F bz gy:dQ}{bj fx:AH}{s s₁ dv:aU}(x:Aft C P F s bz bj s₁)(y:Aft C P bz s₁ gy fx dv):Aft C P F s gy fx dv:=
 ⟨by obtain⟨h,t,rfl⟩:=x.rest;obtain⟨h',t',e⟩:=y.rest;exact⟨h',t',by exact ao e rfl⟩,x.ext.trans y.ext,x.keep.trans y.keep,y.rep⟩
theorem Aft.sub{C:Cx}{P P' F F':dQ}{σ':AH}{s s':aU}(x:Aft C P F s F' σ' s')(hp:∀a,P' a->P a):Aft C P' F s F' σ' s':=
 ⟨x.rest,x.ext,x.keep.sub hp,x.rep.sub hp⟩
noncomputable def gF(A:lY)(d:Nat):Prop:=A.handled=none/\A.depth+2*d+10<=900/\A.units+20*d+100<=9000
theorem gF.le{A:lY}{d d':Nat}(h:gF A d')(hd:d<=d'):gF A d:=⟨h.1,by have:=h.2.1;exact b9 (nat_lit 0x709302a6000a82948bc24c0a98402a0a5208406) rfl hd this,by have:=h.2.2;lia⟩
theorem gF.depth{A:lY}{d:Nat}(h:gF A d):A.depth<recursionLimit:=by have:=h.2.1;show A.depth<1000;exact bt (nat_lit 0x1f44d6091784981530805404a41) rfl this
inductive TrR(C:Cx)(P F:dQ)(s:aU)(Q:V->AH->Prop)(x:aD)(s':aU):Prop
 |mk (v:V) (F':dQ) (σ':AH) (a:Aft C P F s F' σ' s') (r:R C F' s'.heap v x) (q:Q v σ'):TrR C P F s Q x s'
inductive Pc(C:Cx)(P F:dQ)(s:aU)(Q:V->AH->Prop)(r:yN)(s':aU):Prop
 |mk (x:aD) (v:V) (F':dQ) (σ':AH) (e:r= .ok (.ret x)) (a:Aft C P F s F' σ' s') (rr:R C F' s'.heap v x) (q:Q v σ'):Pc C P F s Q r s'
noncomputable def Tri(C:Cx)(A:lY)(P F:dQ)(t:uU aD)(Q:V->AH->Prop)(s:aU):Prop:=
 wpAny (bI C.prog C.w) A t (λx s'=>TrR C P F s Q x s') (λw_ w_=>False) s
theorem Tri.use{C:Cx}{A:lY}{P F:dQ}{t:uU aD}{Q:V->AH->Prop}{s:aU}{K:aD->aU->Prop}{E:aD->aU->Prop}(h:Tri C A P F t Q s)
  (k:∀v x bz bj s₁,Aft C P F s bz bj s₁->R C bz s₁.heap v x->Q v bj->K x s₁):wpAny (bI C.prog C.w) A t K E s:=
 b0 h (λx s' ⟨v,F',σ',a,r,q⟩=>k v x F' σ' s' a r q) λw_ w_ z=>z.elim
theorem Tri.from{C:Cx}{A:lY}{P F bz:dQ}{bj:AH}{t:uU aD}{Q:V->AH->Prop}{s s₁:aU}(x:Aft C P F s bz bj s₁)(h:Tri C A P bz t Q s₁):
  wpAny (bI C.prog C.w) A t (λx s'=>TrR C P F s Q x s') (λw_ w_=>False) s₁:=
 h.use λv w_ F' σ' w_ a r q=>⟨v,F',σ',x.trans a,r,q⟩
noncomputable def An(C:Cx)(A:lY)(P F:dQ)(c:Code)(Q:V->AH->Prop)(s:aU):Prop:=
 codeAny (bI C.prog C.w) A c (λr s'=>Pc C P F s Q r s') s
theorem An.call{C:Cx}{A:lY}{P F:dQ}{f:aD}{xs:List aD}{Q:V->AH->Prop}{s:aU}(h:An C A P F (.call f ⟨xs,[]⟩) Q s):Tri C A P F (call f xs []) Q s:=
 wpAny_call (pS h λr s' ⟨x,v,F',σ',e,a,rr,q⟩=>by subst e;exact⟨v,F',σ',a,rr,q⟩)
noncomputable def c9(C:Cx)(d:Nat)(f:String)(vs:List V)(σ:AH)(Q:V->AH->Prop):Prop:=
 ∀A P F s fv xs,gF A d->cN C P F σ s.heap->C.gv f=some fv->RL C F s.heap vs xs->Tri C A P F (call fv xs []) Q s
noncomputable def se(C:Cx)(d:Nat)(f:String)(vs:List V)(σ:AH)(Q:V->AH->Prop):Prop:=
 ∀A P F s fv xs,gF A d->cN C P F σ s.heap->C.gv f=some fv->RL C F s.heap vs xs->An C A P F (.call fv ⟨xs,[]⟩) Q s
noncomputable def EV(C:Cx)(d:Nat)(cs:List V)(vs:List V)(σ:AH)(Q:V->AH->Prop):Prop:=
 ∀A P F s fv xs,gF A d->cN C P F σ s.heap->R C F s.heap (.clo cs) fv->RL C F s.heap vs xs->Tri C A P F (call fv xs []) Q s
theorem se.call{C:Cx}{d:Nat}{f:String}{vs:List V}{σ:AH}{Q:V->AH->Prop}(h:se C d f vs σ Q):c9 C d f vs σ Q:=
 λA P F s fv xs a b c e=>(h A P F s fv xs a b c e).call
theorem c9.le{C:Cx}{d d':Nat}{f:String}{vs:List V}{σ:AH}{Q:V->AH->Prop}(h:c9 C d f vs σ Q)(hd:d<=d'):c9 C d' f vs σ Q:=
 λA P F s fv xs a=>h A P F s fv xs (a.le hd)
theorem An.mono{C:Cx}{A:lY}{P F:dQ}{c:Code}{Q Q':V->AH->Prop}{s:aU}(h:An C A P F c Q s)(hq:∀v σ,Q v σ->Q' v σ):An C A P F c Q' s:=
 pS h λr s' ⟨x,v,F',σ',e,a,rr,q⟩=>⟨x,v,F',σ',e,a,rr,hq _ _ q⟩
theorem se.mono{C:Cx}{d:Nat}{f:String}{vs:List V}{σ:AH}{Q Q':V->AH->Prop}(h:se C d f vs σ Q)(hq:∀v σ,Q v σ->Q' v σ):se C d f vs σ Q':=
 λA P F s fv xs a b c e=>(h A P F s fv xs a b c e).mono hq
noncomputable def oW{α:Type}(o:Option α)(k:α->Prop):Prop:=match o with
 |some a=>k a
 |none=>False
theorem zP{α:Type}{o:Option α}{k:α->Prop}(h:oW o k):∃a,o=some a/\k a:=by
 cases o with
 |none=>exact h.elim
 |some a=>exact⟨a,rfl,h⟩
theorem oX{α:Type}{o:Option α}{k:α->Prop}{G:Prop}(h:oW o k)(K:∀a,o=some a->k a->G):G:=by
 cases o with
 |none=>exact cG h
 |some a=>exact K a rfl h
theorem oW_of{α:Type}{o:Option α}{k:α->Prop}{a:α}(h:o=some a)(q:k a):oW o k:=h▸q
noncomputable def vK:V->Option Int
 | .int i=>some i
 |_=>none
noncomputable def Gp:V->Option aY
 | .ref i=>some i
 |_=>none
theorem Et{v:V}{i:aY}(h:Gp v=some i):v= .ref i:=by cases v<;>first|exact bx h|exact congrArg V.ref (ac h)
noncomputable def Kz:List V->Option V
 |[x]=>some x
 |_=>none
theorem mV{v:V}{i:Int}(h:vK v=some i):v= .int i:=by cases v<;>(first|exact bx h|replace h:=ac h;subst h);rfl
theorem Ik{l:List V}{x:V}(h:Kz l=some x):l=[x]:=by
 match l,h with
 |[_],h=>replace h:=ac h;subst h;rfl
noncomputable def EH(n:String):V:=match rU n with
 |some i=> .int i
 |none=> .glob n
noncomputable abbrev bT:=List (Option V)
noncomputable def nv:bT->Nat->Option V
 |[],_=>none
 |x::_,0=>x
 |_::r,i+1=>nv r i
noncomputable def c8:bT->Nat->V->bT
 |[],_,_=>[]
 |_::r,0,v=>some v::r
 |x::r,i+1,v=>x::c8 r i v
noncomputable def mX:bT->List Nat->List V->bT
 |e,i::is,v::vs=>mX (c8 e i v) is vs
 |e,_,_=>e
noncomputable def Ky:fM->Option (List V)
 | .list vs=>some vs
 |_=>none
noncomputable def MK:fM->Option (List Int×List V)
 | .dict ks vs=>some (ks,vs)
 |_=>none
noncomputable def KX:fM->Option (String×List String×List V)
 | .inst c _ ns vs=>some (c,ns,vs)
 |_=>none
noncomputable def OD:fM->Option (String×aY×List String×List V)
 | .inst c d ns vs=>some (c,d,ns,vs)
 |_=>none
theorem MN{m:fM}{c:String×aY×List String×List V}(h:OD m=some c):m= .inst c.1 c.2.1 c.2.2.1 c.2.2.2:=by cases m<;>first|exact bx h|(replace h:=ac h;cases h;rfl)
theorem MR{m:fM}{vs:List V}(h:Ky m=some vs):m= .list vs:=by cases m<;>first|exact bx h|exact congrArg fM.list (ac h)
theorem ME{m:fM}{ks:List Int}{vs:List V}(h:MK m=some (ks,vs)):m= .dict ks vs:=by cases m<;>first|exact bx h|(replace h:=ac h;cases h;rfl)
theorem MC{m:fM}{c:String}{ns:List String}{vs:List V}(h:KX m=some (c,ns,vs)):∃d,m= .inst c d ns vs:=by cases m<;>first|exact bx h|(replace h:=ac h;cases h;exact⟨_,rfl⟩)
noncomputable def d7(σ:AH):V->Option (List V)
 | .list vs=>some vs
 | .ref a=>(σ a).bind Ky
 |_=>none
noncomputable def Nt(σ:AH):V->Option (List V)
 | .arg vs=>some vs
 |v=>d7 σ v
noncomputable def kq(σ:AH):V->Option (List V)
 | .tup vs=>some vs
 |v=>d7 σ v
noncomputable def iQ(σ:AH):V->Option (List Int×List V)
 | .dict ks vs=>some (ks,vs)
 | .ref a=>(σ a).bind MK
 |_=>none
noncomputable def pM(σ:AH):V->Option (String×List String×List V)
 | .inst c ns vs=>some (c,ns,vs)
 | .ref a=>(σ a).bind KX
 |_=>none
noncomputable def j2(lo hi:Int):List V:=(bN (hi-lo).toNat).map λi=> .int (lo+(i:Nat))
@[irreducible] noncomputable def qD(lo hi:Int):Option (List V):=if 0<=lo/\lo<=hi/\hi<2 ^ 60 then some (j2 lo hi)else none
noncomputable def dw(σ:AH):V->Option (List V)
 | .range lo hi=>qD lo hi
 | .str s=>if s.cps.all (· <128)then some (s.cps.toList.map λc=> .str ⟨#[c]⟩)else none
 |v=>kq σ v
noncomputable def kY(v:V)(vs:List V)(σ:AH):Prop:=match v with
 | .ref a=>σ a=some (.list vs)
 |_=>True
noncomputable def mJ(σ:AH):V->Option Bool
 | .none=>some false
 | .bool b=>some b
 | .int i=>some (decide (i≠0))
 |v=>(kq σ v).map λvs=> !vs.isEmpty
@[irreducible] noncomputable def jU(vs:List V)(σ:AH)(Q:V->AH->Prop):Prop:=vs.length<=16777216/\((∀a,σ a=none->Q (.ref a) (σ.set a (.list vs)))\/Q (.list vs) σ)
theorem jf{vs:List V}{σ:AH}{Q:V->AH->Prop}:jU vs σ Q↔vs.length<=16777216/\((∀a,σ a=none->Q (.ref a) (σ.set a (.list vs)))\/Q (.list vs) σ):=by unfold jU;exact iw
@[irreducible] noncomputable def km(op:lq)(a b:Int)(Q:Int->Prop):Prop:=match op with
 | .Add=>Q (a+b)
 | .Sub=>Q (a-b)
 | .Mult=>a.natAbs<2 ^ 64/\Q (a*b)
 | .FloorDiv=>0<b/\b<1073741824/\Q (a / b)
 | .Mod=>0<b/\Q (a % b)
 | .Pow=>0<=a/\a<2 ^ 64/\0<=b/\b<=100/\Q (a ^ b.toNat)
 | .LShift=>0<=a/\a<2 ^ 64/\0<=b/\b<1000000/\Q ((a.toNat <<< b.toNat:Nat):Int)
 | .RShift=>0<=a/\0<=b/\b<1000000/\Q ((a.toNat >>>b.toNat:Nat):Int)
 | .BitAnd=>0<=a/\0<=b/\Q ((a.toNat &&& b.toNat:Nat):Int)
 | .BitOr=>0<=a/\0<=b/\Q ((a.toNat|||b.toNat:Nat):Int)
 | .BitXor=>0<=a/\0<=b/\Q ((a.toNat ^^^ b.toNat:Nat):Int)
 |_=>False
noncomputable def MU(op:lq)(a b:V)(σ:AH)(Q:V->AH->Prop):Prop:=match op with
 | .Add=>oW (d7 σ a) λxs=>oW (d7 σ b) λys=>jU (xs++ys) σ Q
 | .Mult=>oW (vK b) λn=>oW (d7 σ a) λl=>oW (Kz l) λx=>0<=n/\jU (bX n.toNat x) σ Q
 |_=>False
noncomputable def JF(op:lq)(a b:V)(σ:AH)(Q:V->AH->Prop):Prop:=match a,b with
 | .int a,.int b=>km op a b λr=>Q (.int r) σ
 | .str a,.str b=>op= .Add/\a.cps.size+b.cps.size<=1000000/\Q (.str (a++b)) σ
 |a,b=>MU op a b σ Q
mutual
noncomputable def nr:V->Option ja
 | .none=>some .none
 | .bool b=>some (.bool b)
 | .int i=>some (.int i)
 | .str s=>some (.str s)
 | .tup vs=>(dR vs).map .tuple
 | .list vs=>(dR vs).map .list
 |_=>none
noncomputable def dR:List V->Option (List ja)
 |[]=>some []
 |v::vs=>(nr v).bind λd=>(dR vs).map (d::·)
end
theorem Oc{v:V}{vs:List V}:dR (v::vs)=(nr v).bind λd=>(dR vs).map (d::·):=rfl
noncomputable def jg(d:ja):Bool:=d.canLay0 && decide (d.depth<=400)
noncomputable def tN(d:ja)(ds:List ja):Option Bool:=if jg (.list ds) && jg d then some (ds.any λy=>fC y d)else none
noncomputable def IA(a b:V):Option Bool:=match a,b with
 | .int a,.int b=>some (decide (a=b))
 | .str a,.str b=>some (decide (a=b))
 | .bool a,.bool b=>some (a==b)
 |a,b=>(nr a).bind λx=>(nr b).bind λy=>if jg x && jg y then some (fC x y)else none
noncomputable def isNone:V->Bool
 | .none=>true
 |_=>false
noncomputable def Hd:V->Option Bool
 | .none=>some true
 | .glob _=>none
 |_=>some false
noncomputable def Md(op:qf)(a b:Int):Option Bool:=match op with
 | .Lt=>some (decide (a<b))
 | .LtE=>some (decide (a<=b))
 | .Gt=>some (decide (a >b))
 | .GtE=>some (decide (a >=b))
 | .Eq=>some (decide (a=b))
 | .NotEq=>some (!decide (a=b))
 |_=>none
noncomputable def IQ(σ:AH)(a b:V):Option Bool:=match iQ σ b with
 |some (ks,_)=>(match a with
  | .int k=>some (ks.contains k)
  |_=>none)
 |none=>(nr a).bind λx=>(d7 σ b).bind λys=>(dR ys).bind (tN x)
noncomputable def Jq(op:qf)(a b:V)(σ:AH):Option Bool:=match op with
 | .Eq=>IA a b
 | .NotEq=>(IA a b).map (!·)
 | .Is=>if isNone b then Hd a else none
 | .IsNot=>if isNone b then(Hd a).map (!·)else none
 | .In=>IQ σ a b
 | .NotIn=>(IQ σ a b).map (!·)
 |_=>none
noncomputable def yc(op:qf)(a b:V)(σ:AH):Option Bool:=match a,b with
 | .int a,.int b=>Md op a b
 |a,b=>Jq op a b σ
noncomputable def HD:Int->Bool
 | .ofNat n=>xt n 1152921504606846976
 | .negSucc _=>true
theorem Jv{i:Int}(h:HD i=true):i<2 ^ 60:=by
 cases i with
 |ofNat n=>have:n<1152921504606846976:=aj h;show(n:Int)<2 ^ 60;lia
 |negSucc n=>lia
theorem A8{n:Nat}(h:n<1152921504606846976):HD (n:Int)=true:=qu h
noncomputable def Br(vs:List V):Int->Option V
 | .ofNat n=>vs[n]?
 | .negSucc n=>if n<vs.length then vs[vs.length- (n+1)]? else none
theorem Dh(vs:List V)(i:Int):Br vs i=if 0<=i then vs[i.toNat]? else if 0<=(vs.length:Int)+i then vs[((vs.length:Int)+i).toNat]? else none:=by
 cases i with
 |ofNat n=>refine ao (if_pos (show(0:Int)<=hX n from cu n)) ?_;rfl
 |negSucc n=>
  refine ao (if_neg (by lia)) ?_;show(if n<vs.length then vs[vs.length- (n+1)]? else none)=_;by_cases h:n<vs.length
  ·exact ao (if_pos h) (ao (if_pos (by lia)) (ao (show((vs.length:Int)+Int.negSucc n).toNat=vs.length- (n+1) by lia) rfl))
  ·exact ao (if_neg h) (ao (if_neg (by lia)) rfl)
noncomputable def oi:List Int->List V->Int->Option V
 |k::ks,v::vs,x=>if k=x then some v else oi ks vs x
 |_,_,_=>none
theorem um{k:Int}{ks:List Int}{v:V}{vs:List V}{x:Int}:oi (k::ks) (v::vs) x=if k=x then some v else oi ks vs x:=rfl
noncomputable def oT(σ:AH)(o i:V):Option V:=match i with
 | .int i=>(match kq σ o with
  |some vs=>(match HD i with
   |true=>Br vs i
   |false=>none)
  |none=>(iQ σ o).bind λp=>oi p.1 p.2 i)
 |_=>none
noncomputable def mY:List String->List V->String->Option V
 |n::ns,v::vs,x=>if n=x then some v else mY ns vs x
 |_,_,_=>none
theorem td{k:String}{ks:List String}{v:V}{vs:List V}{x:String}:mY (k::ks) (v::vs) x=if k=x then some v else mY ks vs x:=rfl
noncomputable def dB:List String->List V->String->V->List String×List V
 |n::ns,v::vs,x,y=>if n=x then(n::ns,y::vs)else(n:: (dB ns vs x y).1,v:: (dB ns vs x y).2)
 |_,_,x,y=>([x],[y])
theorem De{k:String}{ks:List String}{v:V}{vs:List V}{x:String}{y:V}:dB (k::ks) (v::vs) x y=if k=x then(k::ks,y::vs)else(k:: (dB ks vs x y).1,v:: (dB ks vs x y).2):=rfl
noncomputable def Eh(c n:String):Option V:=if n="name" then(AE c).map λl=> .str (ae l)else none
noncomputable def uo(σ:AH)(o:V)(n:String):Option V:=match pM σ o with
 |some (c,ns,vs)=>if(fB.find? λp=>p.1==c).isNone then none else(match mY ns vs n with
  |some v=>if(k8 c).contains n then some v else none
  |none=>Eh c n)
 |none=>none
noncomputable def ue(s:String):Option String:=if s="append" then some "list.append" else if s="pop" then some "list.pop" else if s="reverse" then some "list.reverse" else if s="index" then some "list.index" else none
noncomputable def yp(c m:String):Option (String×Bool):=if c="CharSet" then(if m="made" then some ("CharSet.made",false)else none)else if c="Loop" then(if m="__init__" then some ("Loop.__init__",false)else none)else none
noncomputable def GK(m:String):Option (String×Bool):=if m="get" then some ("dict.get",true)else none
noncomputable def pJ(σ:AH)(o:V)(m:String):Option (String×Bool):=match pM σ o with
 |some p=>if p.2.1.contains m then none else(Dk p.1 m).map (·,true)
 |none=>match d7 σ o with
  |some _=>(ue m).map (·,true)
  |none=>(iQ σ o).bind λw_=>GK m
noncomputable def j3(σ:AH)(o:V)(m:String):Option (String×Bool):=match o with
 | .glob c=>yp c m
 | .str _=>if m="join" then some ("str.join",true)else none
 |o=>pJ σ o m
noncomputable def oN(caps:List (Option Nat))(env:bT):bT:=caps.map λ
 |some i=>nv env i
 |none=>none
noncomputable def compLoop(elt:bT->AH->(V->AH->Prop)->Prop)(test:bT->AH->(Bool->AH->Prop)->Prop)(ka:bT->V->bT)(src:V)(all:List V)(Q:V->AH->Prop):List V->List V->bT->AH->Prop
 |[],acc,_,σ=>kY src all σ/\jU acc σ Q
 |v::vs,acc,env,σ=>kY src all σ/\test (ka env v) σ λb σ=>(b=true->elt (ka env v) σ λy σ=>acc.length+1<=16777216/\compLoop elt test ka src all Q vs (acc++[y]) (ka env v) σ)/\(b=false->compLoop elt test ka src all Q vs acc (ka env v) σ)
noncomputable def oL(elt:bT->AH->(V->AH->Prop)->Prop)(ka:bT->V->bT)(src:V)(all:List V)(K:List V->bT->AH->Prop):List V->List V->bT->AH->Prop
 |[],acc,env,σ=>kY src all σ/\K acc env σ
 |v::vs,acc,env,σ=>kY src all σ/\elt (ka env v) σ λy σ=>acc.length+1<=16777216/\oL elt ka src all K vs (acc++[y]) (ka env v) σ
noncomputable def kG(elt it':bT->AH->(V->AH->Prop)->Prop)(ka bind':bT->V->bT)(src:V)(all:List V)(Q:V->AH->Prop):List V->List V->bT->AH->Prop
 |[],acc,_,σ=>kY src all σ/\jU acc σ Q
 |v::vs,acc,env,σ=>kY src all σ/\it' (ka env v) σ λx σ=>oW (dw σ x) λitems=>oL elt bind' x items (λacc env σ=>kG elt it' ka bind' src all Q vs acc env σ) items acc (ka env v) σ
noncomputable def vf(ks:List Int)(k:Int):List Int:=if ks.contains k then ks else ks++[k]
noncomputable def vPut{α:Type}:List Int->List α->Int->α->List α
 |k::ks,v::vs,x,y=>if k=x then y::vs else v::vPut ks vs x y
 |_,_,_,y=>[y]
theorem rd{α:Type}{k:Int}{ks:List Int}{v:α}{vs:List α}{x:Int}{y:α}:vPut (k::ks) (v::vs) x y=if k=x then y::vs else v::vPut ks vs x y:=rfl
noncomputable def rN(key val:bT->AH->(V->AH->Prop)->Prop)(ka:bT->V->bT)(src:V)(all:List V)(Q:V->AH->Prop):List V->List Int->List V->bT->AH->Prop
 |[],ks,vs,_,σ=>kY src all σ/\∀a,σ a=none->Q (.ref a) (σ.set a (.dict ks vs))
 |v::rest,ks,vs,env,σ=>kY src all σ/\key (ka env v) σ λx σ=>val (ka env v) σ λy σ=>ks.length+1<=16777216/\oW (vK x) λk=>rN key val ka src all Q rest (vf ks k) (vPut ks vs k y) (ka env v) σ
noncomputable def AB(vs:List V)(lo hi:Option V):Option (List V):=match lo,hi with
 |some (.int i),none=>if 0<=i/\i<2 ^ 60 then some (vs.drop i.toNat)else none
 |none,some (.int i)=>if 0<=i/\i<2 ^ 60 then some (vs.take i.toNat)else none
 |_,_=>none
@[irreducible] noncomputable def callN(C:Cx)(d:Nat)(n:String)(vs:List V)(σ:AH)(Q:V->AH->Prop):Prop:=c9 C d n vs σ Q
theorem bU{C:Cx}{d:Nat}{n:String}{vs:List V}{σ:AH}{Q:V->AH->Prop}:callN C d n vs σ Q↔c9 C d n vs σ Q:=by unfold callN;exact iw
noncomputable def NI(C:Cx)(d:Nat)(fv:V)(vs:List V)(σ:AH)(Q:V->AH->Prop):Prop:=match fv with
 | .glob n=>callN C d n vs σ Q
 | .clo cs=>EV C d cs vs σ Q
 |_=>False
noncomputable def zL(b:Bool)(P:Prop):Prop:=match b with
 |true=>P
 |false=>False
theorem qI{b:Bool}{P:Prop}(h:zL b P):b=true/\P:=by
 cases b with
 |true=>exact⟨rfl,h⟩
 |false=>exact h.elim
theorem HK{b:Bool}{P:Prop}(h:b=true)(q:P):zL b P:=h▸q
@[irreducible] noncomputable def mW(σ:AH)(x:V)(n:String)(k:String×Bool->Prop):Prop:=oW (j3 σ x n) k
theorem G7{σ:AH}{x:V}{n:String}{k:String×Bool->Prop}:mW σ x n k↔oW (j3 σ x n) k:=by unfold mW;exact iw
theorem mW_of{σ:AH}{x:V}{n:String}{k:String×Bool->Prop}{q:String×Bool}(h:j3 σ x n=some q)(hk:k q):mW σ x n k:=G7.mpr (oW_of h hk)
noncomputable def iY(b:Bool)(x:V)(vs:List V):List V:=match b with
 |true=>x::vs
 |false=>vs
mutual
noncomputable def ig(C:Cx)(d:Nat):IE->bT->AH->(V->AH->Prop)->Prop
 | .none,_,σ,Q=>Q .none σ
 | .bool b,_,σ,Q=>Q (.bool b) σ
 | .int i,_,σ,Q=>Q (.int i) σ
 | .str s,_,σ,Q=>Q (.str (ae s)) σ
 | .loc i,env,σ,Q=>oW (nv env i) λv=>Q v σ
 | .glob n,_,σ,Q=>Q (EH n) σ
 | .bin op a b,env,σ,Q=>ig C d a env σ λx σ=>ig C d b env σ λy σ=>JF op x y σ Q
 | .not a,env,σ,Q=>ig C d a env σ λx σ=>oW (mJ σ x) λb=>Q (.bool (!b)) σ
 | .neg a,env,σ,Q=>ig C d a env σ λx σ=>oW (vK x) λi=>Q (.int (-i)) σ
 | .cmp op a b,env,σ,Q=>ig C d a env σ λx σ=>ig C d b env σ λy σ=>oW (yc op x y σ) λr=>Q (.bool r) σ
 | .cmp2 op op' a b c,env,σ,Q=>ig C d a env σ λx σ=>ig C d b env σ λy σ=>oW (yc op x y σ) λr=>(r=false->Q (.bool false) σ)/\(r=true->ig C d c env σ λz σ=>oW (yc op' y z σ) λr=>Q (.bool r) σ)
 | .bool2 k es,env,σ,Q=>Au C d k es env σ Q
 | .ite c a b,env,σ,Q=>ig C d c env σ λx σ=>oW (mJ σ x) λr=>(r=true->ig C d a env σ Q)/\(r=false->ig C d b env σ Q)
 | .attr o n,env,σ,Q=>ig C d o env σ λx σ=>oW (uo σ x n) λv=>Q v σ
 | .sub o i,env,σ,Q=>ig C d o env σ λx σ=>ig C d i env σ λy σ=>oW (oT σ x y) λv=>Q v σ
 | .slice o lo hi,env,σ,Q=>ig C d o env σ λx σ=>Oy C d lo env σ λlo σ=>Oy C d hi env σ λhi σ=>oW (Nt σ x) λvs=>vs.length<=16777216/\oW (AB vs lo hi) λws=>jU ws σ Q
 | .list es,env,σ,Q=>Fp C d es env σ λvs σ=>jU vs σ Q
 | .tup es,env,σ,Q=>Fp C d es env σ λvs σ=>zL (iu vs.length 1000) (Q (.tup vs) σ)
 | .dict [] [],_,σ,Q=>∀a,σ a=lp->Q (.ref a) (σ.set a (.dict [] []))
 | .dict [k] [v],env,σ,Q=>ig C d k env σ λx σ=>ig C d v env σ λy σ=>oW (vK x) λi=>∀a,σ a=lp->Q (.ref a) (σ.set a (.dict [i] [y]))
 | .dict _ _,_,_,_=>False
 | .call f es,env,σ,Q=>ig C d f env σ λfv σ=>Fp C d es env σ λvs σ=>NI C d fv vs σ Q
 | .mcall o n es,env,σ,Q=>ig C d o env σ λx σ=>mW σ x n λq=>Fp C d es env σ λvs σ=>callN C d q.1 (iY q.2 x vs) σ Q
 | .sortedKeys o,env,σ,Q=>ig C d o env σ λx σ=>oW (iQ σ x) λp=>p.1.length<64/\∀ms:List Int,ms.Perm p.1->ms.Pairwise (·<=·)->jU (ms.map .int) σ Q
 | .comp caps t it ifs elt,env,σ,Q=>ig C d it env σ λx σ=>oW (dw σ x) λitems=>
   compLoop (ig C d elt) (GX C d ifs) (c8 · t) x items Q items [] (oN caps env) σ
 | .comp2 caps t it t' it' elt,env,σ,Q=>ig C d it env σ λx σ=>oW (dw σ x) λitems=>
   kG (ig C d elt) (ig C d it') (c8 · t) (c8 · t') x items Q items [] (oN caps env) σ
 | .dcomp caps t it k v,env,σ,Q=>ig C d it env σ λx σ=>oW (dw σ x) λitems=>
   rN (ig C d k) (ig C d v) (c8 · t) x items Q items [] [] (oN caps env) σ
 | .lam _,_,_,_=>False
termination_by structural e=>e
noncomputable def GX(C:Cx)(d:Nat):List IE->bT->AH->(Bool->AH->Prop)->Prop
 |[],_,σ,Q=>Q true σ
 |[e],env,σ,Q=>ig C d e env σ λx σ=>oW (mJ σ x) λb=>Q b σ
 |_::_::_,_,_,_=>False
termination_by structural es=>es
noncomputable def Au(C:Cx)(d:Nat)(isAnd:Bool):List IE->bT->AH->(V->AH->Prop)->Prop
 |[],_,_,_=>False
 |[e],env,σ,Q=>ig C d e env σ Q
 |e::e'::es,env,σ,Q=>ig C d e env σ λx σ=>oW (mJ σ x) λb=>(b=isAnd->Au C d isAnd (e'::es) env σ Q)/\(b=(!isAnd)->Q x σ)
termination_by structural es=>es
noncomputable def Fp(C:Cx)(d:Nat):List IE->bT->AH->(List V->AH->Prop)->Prop
 |[],_,σ,Q=>Q [] σ
 |e::es,env,σ,Q=>ig C d e env σ λv σ=>Fp C d es env σ λvs σ=>Q (v::vs) σ
termination_by structural es=>es
noncomputable def Oy(C:Cx)(d:Nat):Option IE->bT->AH->(Option V->AH->Prop)->Prop
 |lp,_,σ,Q=>Q lp σ
 |some e,env,σ,Q=>ig C d e env σ λv σ=>Q (some v) σ
termination_by structural o=>o
end
noncomputable def Mj(C:Cx)(d:Nat)(e:IE)(env:bT)(σ:AH)(Q:Bool->AH->Prop):Prop:=ig C d e env σ λx σ=>oW (mJ σ x) λb=>Q b σ
noncomputable def Hw(C:Cx)(d:Nat)(isAnd:Bool):List IE->bT->AH->(Bool->AH->Prop)->Prop
 |[],_,σ,Q=>Q isAnd σ
 |e::es,env,σ,Q=>Mj C d e env σ λb σ=>(b=isAnd->Hw C d isAnd es env σ Q)/\(b=(!isAnd)->Q b σ)
theorem Nf{o:Option Bool}{k:Bool}{A B:Prop}{Q:Bool->Prop}(h:A=B): (oW o λb=>(b=k->A)/\(b=(!k)->oW o λb=>Q b))=oW o λb=>(b=k->B)/\(b=(!k)->Q b):=by
 subst h;cases o<;>rfl
theorem Ce(C:Cx)(d:Nat)(k:Bool){Q:Bool->AH->Prop}:∀(es:List IE) (e:IE) (env:bT) (σ:AH),Au C d k (e::es) env σ (λx σ=>oW (mJ σ x) λb=>Q b σ)=Hw C d k (e::es) env σ Q
 |[]=>λe env σ=>by
  show ig C d e env σ _=ig C d e env σ _;congr 1;funext x σ;cases mJ σ x with
  |none=>rfl
  |some b=>exact propext ⟨λq=>⟨λe=>e▸q,λw_=>q⟩,λq=>by
    by_cases e:b=k
    ·exact e▸q.1 e
    ·exact q.2 (by clear q;cases b<;>cases k<;>first|rfl|exact absurd rfl e)⟩
 |e'::es=>λe env σ=>by
  show ig C d e env σ _=ig C d e env σ _;congr 1;funext x σ;exact Nf (Ce C d k es e' env σ)
section
variable{C:Cx}{A:lY}{P F:dQ}{σ:AH}{s:aU}{d:Nat}{env:o7}{ns:cD}{PP PP':dQ}{e8:bT}{h h':cx}{own:dQ}{fz:List Nat}{Q:V->AH->Prop}
theorem d8(h:cx):h.get? h.objs.size=none:=by
 cases q:h.get? h.objs.size with
 |none=>rfl
 |some o=>exact absurd (bY q) (fo _)
theorem cW:sizeLine=16777216:=by decide+kernel
theorem d1(X:cN C P F σ s.heap)(t:Nat):Aft C P F s F σ {s with toks:=t}:=⟨⟨s.heap,t,rfl⟩,gX.refl _ _,d3.refl _ _,X⟩
theorem Aft.grow{h:cx}{t:Nat}(X:cN C P F σ s.heap)(k:∀b o,s.heap.get? b=some o->h.get? b=some o):Aft C P F s F σ {s with heap:=h,toks:=t}:=
 ⟨⟨h,t,rfl⟩,⟨λw_ x=>x,d3.all k⟩,d3.all k,X.ext k⟩
theorem fQ{vs:List V}{Q:V->AH->Prop}(hw:jU vs σ Q)(X:cN C P F σ s.heap){xs:List aD}(hx:RL C F s.heap vs xs){h:cx}{t:Nat}{a:aY}
  (ha:s.heap.get? a=none) (k:∀b o,s.heap.get? b=some o->h.get? b=some o) (hl:h.PlainList a (bu xs)):
  TrR C P F s Q (.ref a) {s with heap:=h,toks:=t}:=by
 have E:gX F s.heap F h:=⟨λw_ x=>x,d3.all k⟩;have hz:vs.length<=1073741824:=a8 (jf.mp hw).1 (by decide);rcases(jf.mp hw).2 with q|q
 ·exact⟨.ref a,F,σ.set a (.list vs),⟨⟨h,t,rfl⟩,E,d3.all k,X.alloc k ha ⟨xs,hl,hx.mono E,hz⟩⟩,rfl,q a (X.fresh_σ ha)⟩
 ·have X':=(X.ext k).freeze (λb=>b=a) λb e=>by
   subst e;exact⟨X.fresh_P ha,X.fresh_sp ha,X.fresh_σ ha,let⟨_,e⟩:=hl;⟨_,e⟩⟩
  have E':gX F s.heap (λb=>F b\/b=a) h:=⟨λw_ x=> .inl x,d3.all k⟩;exact⟨.list vs,λb=>F b\/b=a,σ,⟨⟨h,t,rfl⟩,E',d3.all k,X'⟩,⟨a,xs,rfl,.inr rfl,hl,hx.mono E',hz⟩,q⟩
theorem zp{vs:List V}{Q:V->AH->Prop}(hw:jU vs σ Q)(X:cN C P F σ s.heap){xs:List aD}(hx:RL C F s.heap vs xs):Tri C A P F (newList xs) Q s:=by
 refine ji ?_ ?_
 ·exact fQ hw X hx (d8 _) (λb o e=>aQ _ e) ⟨0,bk _ rfl⟩
 ·refine ao cW (dk hx.length ?_);exact(jf.mp hw).1
theorem zK{vs:List V}{Q:V->AH->Prop}(hlen:vs.length<=16777216)(q:Q (.tup vs) σ)(X:cN C P F σ s.heap){xs:List aD}(hx:RL C F s.heap vs xs){h:cx}{t:Nat}{a:aY}
  (ha:s.heap.get? a=none) (k:∀b o,s.heap.get? b=some o->h.get? b=some o) (hl:h.IsTuple a (bu xs)):
  TrR C P F s Q (.ref a) {s with heap:=h,toks:=t}:=by
 have X':=(X.ext k).freeze (λb=>b=a) λb e=>by
  subst e;exact⟨X.fresh_P ha,X.fresh_sp ha,X.fresh_σ ha,let⟨o,e,_⟩:=hl;⟨o,e⟩⟩
 have E':gX F s.heap (λb=>F b\/b=a) h:=⟨λw_ x=> .inl x,d3.all k⟩;exact⟨.tup vs,λb=>F b\/b=a,σ,⟨⟨h,t,rfl⟩,E',d3.all k,X'⟩,⟨a,xs,rfl,.inr rfl,hl,hx.mono E',a8 hlen (by decide)⟩,q⟩
theorem xB{vs:List V}{Q:V->AH->Prop}(hlen:vs.length<=16777216)(q:Q (.tup vs) σ)(X:cN C P F σ s.heap){xs:List aD}(hx:RL C F s.heap vs xs):Tri C A P F (newTuple xs) Q s:=by
 refine wpAny_newTuple ?_ ?_
 ·exact zK hlen q X hx (d8 _) (λb o e=>aQ _ e) ⟨_,bk _ rfl,rfl,0,rfl⟩
 ·refine ao cW (dk hx.length ?_);exact hlen
inductive O8(h:cx)(L:List aD->Prop)(n:Nat)(x:aD):Prop
 |mk (a:aY) (xs:List aD) (e:x= .ref a) (l:h.PlainList a (bu xs)) (r:L xs) (z:n<=1073741824):O8 h L n x
inductive Om(h:cx)(L:List aD->Prop)(n:Nat)(x:aD):Prop
 |mk (a:aY) (xs:List aD) (e:x= .ref a) (l:h.IsList a (bu xs)\/h.IsTuple a (bu xs)) (r:L xs) (z:n<=1073741824):Om h L n x
inductive OZ(I:aY->List (Int×aD)->Prop)(ks:List Int)(L:List aD->Prop)(x:aD):Prop
 |mk (a:aY) (xs:List aD) (e:x= .ref a) (l:I a (gq ks xs)) (k:ks.length=xs.length) (r:L xs) (z: (a==gW)=false):OZ I ks L x
set_option tactic.hygienic true in
theorem di{v:V}{vs:List V}(h:d7 σ v=some vs)(X:cN C P F σ s.heap){x:aD}(r:R C F s.heap v x):
  O8 s.heap (λxs=>RL C F s.heap vs xs) vs.length x:=by
 cases v with
 |list us=>
  replace h:=ac h;subst h;obtain⟨a,xs,e,_,l,rr,z⟩:=r;exact⟨a,xs,e,l,rr,z⟩
 |ref a=>
  refine oB (h: (σ a).bind Ky=some vs) λm e h=>?_;cases MR h;obtain⟨_,_,_,xs,l,rr,z⟩:=X.obj a _ e;exact⟨a,xs,r,l,rr,z⟩
 |_=>clear X;exact bx h
theorem nG{v:V}{vs:List V}(h:kq σ v=some vs)(X:cN C P F σ s.heap){x:aD}(r:R C F s.heap v x):
  Om s.heap (λxs=>RL C F s.heap vs xs) vs.length x:=by
 have l:∀v,d7 σ v=some vs->R C F s.heap v x->Om s.heap (λxs=>RL C F s.heap vs xs) vs.length x:=λv h r=>by
  obtain⟨a,xs,e,l,rr,z⟩:=di h X r;exact⟨a,xs,e,.inl l.isList,rr,z⟩
 cases v with
 |tup us=>
  replace h:=ac h;subst h;obtain⟨a,xs,e,_,t,rr,z⟩:=r;exact⟨a,xs,e,.inr t,rr,z⟩
 |ref b=>exact l (.ref b) h r
 |list b=>exact l (.list b) h r
 |_=>clear l X;exact bx h
set_option tactic.hygienic true in
theorem gV{v:V}{ks:List Int}{vs:List V}(h:iQ σ v=some (ks,vs))(X:cN C P F σ s.heap){x:aD}(r:R C F s.heap v x):
  OZ (λa l=>s.heap.DictOf (eQ C.prog C.w) a l) ks (λxs=>RL C F s.heap vs xs) x:=by
 cases v with
 |dict ks us=>
  replace h:=ac h;cases h;obtain⟨a,xs,e,_,l,z,rr,y⟩:=r;exact⟨a,xs,e,l,z,rr,y⟩
 |ref a=>
  refine oB (h: (σ a).bind MK=some (ks,vs)) λm e h=>?_;cases ME h;obtain⟨_,_,_,xs,l,z,rr,y⟩:=X.obj a _ e;exact⟨a,xs,r,l,z,rr,y⟩
 |_=>clear X;exact bx h
theorem vt{a b:Int}(ha:0<=a)(hb:0<=b):Builtin.bitOr a b=((a.toNat|||b.toNat:Nat):Int):=by
 rewrite[PyProof.Rows.bitOr_and];refine ao (PyProof.Rows.bitAnd_pp ha hb) ?_;have:=PyProof.Rows.nat_or_add_and a.toNat b.toNat;lia
theorem Do{a b:Int}(ha:0<=a)(hb:0<=b):Builtin.bitXor a b=((a.toNat ^^^ b.toNat:Nat):Int):=by
 have e:Builtin.bitXor a b=Builtin.bitOr a b-Builtin.bitAnd a b:=rfl;refine ao e (ao (vt ha hb) (ao (PyProof.Rows.bitAnd_pp ha hb) ?_));have h1:=qb a.toNat b.toNat;have h2:=PyProof.Rows.nat_or_add_and a.toNat b.toNat;lia
theorem jZ{Q:V->AH->Prop}{i:Int}(X:cN C P F σ s.heap)(q:Q (.int i) σ):TrR C P F s Q (.int i s.toks) {s with toks:=s.toks+1}:=
 ⟨.int i,F,σ,d1 X _,⟨_,rfl⟩,q⟩
theorem JI{op:lq}{a b:Int}{t u:Tok}{Q:V->AH->Prop}(X:cN C P F σ s.heap)(hA:gF A d)(h:km op a b λr=>Q (.int r) σ):Tri C A P F (yO op (.int a t) (.int b u)) Q s:=by
 unfold km at h;cases op with
 |Add=>exact PyProof.Rows.add_int (jZ X h)
 |Sub=>exact PyProof.Rows.sub_int (jZ X h)
 |Mult=>exact PyProof.Rows.mul_int (jZ X h.2) (IntMulOk.of_left (intBits_le h.1))
 |FloorDiv=>
  refine eX h λh0 h1 q=>?_;clear h;refine PyProof.Rows.floordiv_int (by lia) (jZ X ?_) (.inl (PyProof.noPylong_small (by lia)));refine ao (m9 _ (by lia)) ?_;exact q
 |Mod=>
  obtain⟨h0,q⟩:=h;refine PyProof.Rows.mod_int' (by lia) (jZ X ?_);refine ao (Int.fmod_eq_emod_of_nonneg _ (by lia)) ?_;exact q
 |Pow=>
  refine nY h λh0 h1 h2 h3 q=>?_;clear h;exact PyProof.Rows.pow_int_small h2 (by lia) (by lia) (jZ X q)
 |LShift=>
  refine nY h λh0 h1 h2 h3 q=>?_;clear h;refine PyProof.Rows.lshift_int_small h2 (by lia) (by lia) (jZ X ?_);have e:a*2 ^ b.toNat=((a.toNat <<< b.toNat:Nat):Int):=by
   rewrite[Nat.shiftLeft_eq];rewrite[Int.natCast_mul];refine ao (l8 h0) ?_;rewrite[wW];rfl
  refine ao e ?_;exact q
 |RShift=>
  refine iq h λh0 h2 h3 q=>?_;clear h;refine PyProof.Rows.rshift_int h2 (jZ X ?_);have e:a.fdiv (2 ^ b.toNat)=((a.toNat >>>b.toNat:Nat):Int):=by
   rewrite[Nat.shiftRight_eq_div_pow];rewrite[Int.natCast_ediv];refine ao (l8 h0) ?_;rewrite[wW];refine ao (m9 _ (Int.pow_nonneg (by decide))) ?_;rfl
  refine ao e ?_;exact q
 |BitAnd=>
  refine eX h λh0 h1 q=>?_;clear h;refine PyProof.Rows.and_int (jZ X ?_);refine ao (PyProof.Rows.bitAnd_pp h0 h1) ?_;exact q
 |BitOr=>
  refine eX h λh0 h1 q=>?_;clear h;refine PyProof.Rows.or_int (jZ X ?_);refine ao (vt h0 h1) ?_;exact q
 |BitXor=>
  refine eX h λh0 h1 q=>?_;clear h;refine PyProof.Rows.xor_int (jZ X ?_);refine ao (Do h0 h1) ?_;exact q
 |_=>exact h.elim
theorem yi{x:aD}(n:Nat):List.foldl (λx1 x2=>x1++x2) #[] (bX n #[x])=(bX n x).toArray:=by
 have key:∀n (acc:Array aD),List.foldl (λx1 x2=>x1++x2) acc (bX n #[x])=acc++(bX n x).toArray:=by
  intro n
  induction n with
  |zero=>intro acc;exact rfl
  |succ n ih=>
   intro acc;refine ao sg ?_;refine ao lZ ?_;rewrite[ih];refine ao sg ?_;apply Array.ext';simp
 rw[key];simp
theorem I7{op:lq}{a b:V}{Q:V->AH->Prop}{G:Prop}:JF op a b σ Q->(∀i j,a= .int i->b= .int j->(km op i j λr=>Q (.int r) σ)->G)->(∀u v,a= .str u->b= .str v->(op= .Add/\u.cps.size+v.cps.size<=1000000/\Q (.str (u++v)) σ)->G)->(MU op a b σ Q->G)->G:=by
 cases a with
 |int i=>cases b with
  |int j=>exact λh k w_ w_=>k _ _ rfl rfl h
  |_=>exact λh w_ w_ k=>k h
 |str i=>cases b with
  |str j=>exact λh w_ k w_=>k _ _ rfl rfl h
  |_=>exact λh w_ w_ k=>k h
 |_=>exact λh w_ w_ k=>k h
set_option tactic.hygienic true in
set_option maxHeartbeats 2000000 in
theorem Gb{op:lq}{a b:V}{x y:aD}{Q:V->AH->Prop}(X:cN C P F σ s.heap)(hA:gF A d)(ra:R C F s.heap a x)(rb:R C F s.heap b y)(h:JF op a b σ Q):
  Tri C A P F (yO op x y) Q s:=by
 have lists: (∃xs ys,d7 σ a=some xs/\d7 σ b=some ys/\jU (xs++ys) σ Q)->Tri C A P F (yO .Add x y) Q s:=by
  rintro⟨us,ws,h1,h2,hw⟩;clear h;obtain⟨p,xs,rfl,⟨n,l1⟩,r1,_⟩:=di h1 X ra;clear ra h1;obtain⟨q,ys,rfl,⟨m,l2⟩,r2,_⟩:=di h2 X rb;have hsz: (bu xs).size+(bu ys).size<=sizeLine:=by
   have:=(jf.mp hw).1;rw[aC,r1.length,r2.length]at this;refine ao cW (ao bB (ao bB ?_));exact this
  refine PySem.P.add_list (hsz:=hsz) (l:=p) (b:=q) (n:=n) (n2:=m) l1 l2 ?_;have e: (bu xs++bu ys)=bu (xs++ys):=by simp
  refine ao e ?_;exact fQ hw X (r1.append r2) (d8 _) (λb o e=>aQ _ e) ⟨0,bk _ rfl⟩
 have mul:∀n,b= .int n->(∃v,d7 σ a=some [v]/\0<=n/\jU (bX n.toNat v) σ Q)->Tri C A P F (yO .Mult x y) Q s:=by
  rintro n rfl ⟨v,h1,h0,hw⟩;clear lists h;obtain⟨p,xs,rfl,⟨k,l1⟩,r1,_⟩:=di h1 X ra;clear ra h1;obtain⟨u,rfl⟩:=rb;obtain⟨z,rfl⟩:∃z,xs=[z]:=by
   have:=r1.length;exact pR.mp this.symm
  have hlen:=(jf.mp hw).1;rw[qw]at hlen;have rep:∀m,RL C F s.heap (bX m v) (bX m z):=by
   intro m
   induction m with
   |zero=>exact trivial
   |succ m ih=>exact⟨r1.1,ih⟩
  refine wpAny_binaryOp_repeat_ref (T:="list") (U:="int") (by decide) ⟨_,l1,rfl⟩ (λs'=>typeIs_int s' n u) noFill_list_mul PySem.F.fills_int_mul PySem.F.slot_int_rmul repeat_list PySem.F.slot_int_index.lookup
   (tz PySem.F.slot_int_rmul (typeIs_int s n u) PySem.F.entry_int_rmul (PySem.F.args_int_rmul_2 _ _) (int___rmul___int_list n u p _ k)
    ⟨l1,rfl,⟨_,l1,rfl⟩,tz PySem.F.slot_list_mul ⟨_,l1,rfl⟩ PySem.F.entry_list_mul (PySem.F.args_list_mul_2 _ _)
     (AutoListH.list___mul___list_int_3 p _ k n u (by simp[Builtin.List.listFitsIndex];lia) (by simp;lia) (by simp[Builtin.List.listTooLong,sizeLine];lia))
     ⟨l1,?_⟩⟩)
  refine ao (show(bu [z]).isEmpty=false from rfl) ?_;refine ao (if_neg (by decide)) ?_;rewrite[yi];exact fQ hw X (rep _) (d8 _) (λb o e=>aQ _ e) ⟨0,bk _ rfl⟩
 refine I7 h (λi j ea eb h=>?_) (λx y ea eb h=>?_) λh=>?_
 ·clear mul lists;subst ea eb;obtain⟨t,rfl⟩:=ra;obtain⟨u,rfl⟩:=rb;exact JI X hA h
 ·clear mul lists;subst ea eb;obtain⟨t,rfl⟩:=ra
  obtain⟨u,rfl⟩:=rb;refine eX h ?_;clear h;rintro rfl hz q;exact PyProof.Rows.add_str (λt' tk=>⟨.str _,F,σ,d1 X _,⟨_,rfl⟩,q⟩) (by refine ao cW ?_;show x.cps.size+y.cps.size<=_;exact bt (nat_lit 0xc5820917d09009708241) rfl hz)
 ·cases op with
  |Add=>
   refine oX h λxs e1 h=>?_;refine oX h λys e2 h=>?_;exact lists ⟨xs,ys,e1,e2,h⟩
  |Mult=>
   refine oX h λn e h=>?_;refine oX h λl e1 h=>?_;refine oX h λv e2 h=>?_;exact mul n (mV e) ⟨v,Ik e2▸e1,h⟩
  |_=>exact cG h
theorem Hr{v:V}{x:aD}{b:Bool}(r:R C F s.heap v x)(h:Hd v=some b): (x==aD.none)=b:=by
 cases v with
 |none=>cases r;replace h:=ac h;subst h;rfl
 |bool b=>cases r;replace h:=ac h;subst h;rfl
 |int i=>obtain⟨t,rfl⟩:=r;replace h:=ac h;subst h;rfl
 |str i=>obtain⟨t,rfl⟩:=r;replace h:=ac h;subst h;rfl
 |glob n=>exact bx h
 |ref a=>cases r;replace h:=ac h;subst h;rfl
 |tup vs=>obtain⟨a,_,rfl,_⟩:=r;replace h:=ac h;subst h;rfl
 |list vs=>obtain⟨a,_,rfl,_⟩:=r;replace h:=ac h;subst h;rfl
 |arg vs=>obtain⟨a,_,rfl,_⟩:=r;replace h:=ac h;subst h;rfl
 |range lo hi=>obtain⟨a,_,_,_,rfl,_⟩:=r;replace h:=ac h;subst h;rfl
 |inst c ns vs=>obtain⟨a,_,_,_,_,_,rfl,_⟩:=r;replace h:=ac h;subst h;rfl
 |dict ks vs=>obtain⟨a,_,rfl,_⟩:=r;replace h:=ac h;subst h;rfl
 |clo vs=>obtain⟨a,_,_,rfl,_⟩:=r;replace h:=ac h;subst h;rfl
theorem zT{v:V}(h:isNone v=true):v= .none:=by cases v<;>first|rfl|exact mj h
theorem oC{h:cx}:∀{v:V} {x:aD} {dd:ja},nr v=some dd->R C F h v x->∃as,Reads h x dd as:=by
 intro v;refine V.rec (motive_1:=λv=>∀{x dd},nr v=some dd->R C F h v x->∃as,Reads h x dd as) (motive_2:=λvs=>∀{xs ds},dR vs=some ds->RL C F h vs xs->∃as,ReadsAll h xs ds as) ?_ ?_ ?_ ?_ (λw_ w_ w_=>bx) (λw_ w_ w_=>bx) ?_ ?_ (λw_ w_ w_ w_=>bx) (λw_ w_ w_ w_=>bx) (λw_ w_ w_ w_ w_ w_=>bx) (λw_ w_ w_ w_ w_=>bx) (λw_ w_ w_ w_=>bx) ?_ ?_ v
 ·intro x dd e r;cases r;replace e:=ac e;subst e;exact⟨_,.none⟩
 ·intro b x dd e r;cases r;replace e:=ac e;subst e;exact⟨_,.bool b⟩
 ·intro i x dd e r;refine r.elim λt r=>?_;subst r;replace e:=ac e;subst e;exact⟨_,.int i t⟩
 ·intro i x dd e r;refine r.elim λt r=>?_;subst r;replace e:=ac e;subst e;exact⟨_,.str i t⟩
 ·intro vs ih x dd e r
  cases r with
  |mk a xs e' _ t rr _=>
   refine oM e λds h1 e=>?_;refine d4 t λo ho hc t=>t.elim λn hd=>(ih h1 rr).elim λas q=>?_;subst e e';exact⟨_,.tuple ho hc hd q⟩
 ·intro vs ih x dd e r
  cases r with
  |mk a xs e' _ t rr _=>
   refine oM e λds h1 e=>?_;refine t.elim λn ho=>(ih h1 rr).elim λas q=>?_;subst e e';exact⟨_,.list ho rfl rfl q⟩
 ·intro xs ds e r;cases xs with
  |nil=>replace e:=ac e;subst e;exact⟨_,.nil⟩
  |cons _ _=>exact r.elim
 ·intro v vs i j xs ds e r;cases xs with
  |nil=>exact r.elim
  |cons x xs=>
   refine oB e λdd h1 e=>?_;refine oM e λds h2 e=>?_;subst e;exact(i h1 r.1).elim λas q=>(j h2 r.2).elim λbs qq=>⟨_,.cons q qq⟩
theorem BR{h:cx}{vs:List V}{xs:List aD}{ds:List ja}(e:dR vs=some ds)(r:RL C F h vs xs):∃as,ReadsAll h xs ds as:=by
 refine RL.ind (P:=λvs xs=>∀{ds},dR vs=some ds->∃as,ReadsAll h xs ds as) (λe=>?_) (λv x vs xs r w_ j ds e=>?_) r e
 ·replace e:=ac e;subst e;exact⟨_,.nil⟩
 ·refine oB e λdd h1 e=>?_
  refine oM e λds h2 e=>?_;subst e;exact(oC h1 r).elim λas q=>(j h2).elim λbs qq=>⟨_,.cons q qq⟩
theorem j9{dd:ja}(h:jg dd=true):dd.canLay0=true/\dd.depth<=400:=by
 obtain⟨a,b⟩:=bo.mp h;exact⟨a,of_decide_eq_true b⟩
inductive MT(r:Bool):V->V->Prop
 |i (x y:Int) (e:decide (x=y)=r):MT r (.int x) (.int y)
 |s (x y:Str) (e:decide (x=y)=r):MT r (.str x) (.str y)
 |b (x y:Bool) (e: (x==y)=r):MT r (.bool x) (.bool y)
 |p {a b:V} (h: ((nr a).bind λx=>(nr b).bind λy=>if jg x && jg y then some (fC x y)else none)=some r):MT r a b
theorem Np{a b:V}{r:Bool}:IA a b=some r->MT r a b:=by
 cases a with
 |int i=>cases b with
  |int j=>exact λh=> .i i j (ac h)
  |_=>exact λh=> .p h
 |str i=>cases b with
  |str j=>exact λh=> .s i j (ac h)
  |_=>exact λh=> .p h
 |bool i=>cases b with
  |bool j=>exact λh=> .b i j (ac h)
  |_=>exact λh=> .p h
 |_=>exact λh=> .p h
theorem G6{a b:V}{r:Bool}{G:Prop}(h:IA a b=some r)(hi:∀i j,a= .int i->b= .int j->decide (i=j)=r->G)(hs:∀i j,a= .str i->b= .str j->decide (i=j)=r->G)
  (hb:∀i j,a= .bool i->b= .bool j->(i==j)=r->G) (hp:∀x y,nr a=some x->nr b=some y->jg x=true->jg y=true->fC x y=r->G):G:=by
 have hp': ((nr a).bind λx=>(nr b).bind λy=>if jg x && jg y then some (fC x y)else none)=some r->G:=λh=>by
  refine oB h λx h1 h=>?_;refine oB h λy h2 h=>?_;cases q:jg x && jg y with
  |true=>rw[if_pos q]at h;obtain⟨q1,q2⟩:=bo.mp q;exact hp x y h1 h2 q1 q2 (ac h)
  |false=>rw[if_neg (by refine ao q ?_;decide)]at h;exact bx h
 cases Np h with
 |i x y e=>exact hi x y rfl rfl e
 |s x y e=>exact hs x y rfl rfl e
 |b x y e=>exact hb x y rfl rfl e
 |p h=>exact hp' h
theorem B6{n m:Nat}(hA:gF A d)(h:n<=400):A.units+min n m<9900:=by
 have h2:=hA.2.2;exact jA (bV (a8 (wX _ _) h) _) (by exact bt (nat_lit 0x9ab0775b21304a4546503b8c930829404a41) rfl h2)
theorem FU{a b:V}{x y:aD}{r:Bool}{K:aD->aU->Prop}{E:aD->aU->Prop}(hA:gF A d)(ra:R C F s.heap a x)(rb:R C F s.heap b y)(h:IA a b=some r)(k:∀t,K (.bool r) {s with toks:=t}):
  wpAny (bI C.prog C.w) A (o8 .Eq x y) K E s:=by
 refine G6 h (λi j ea eb e=>?_) (λi j ea eb e=>?_) (λi j ea eb e=>?_) λda db h1 h2 c1 c2 e=>?_
 ·clear h;subst ea eb e;obtain⟨t,rfl⟩:=ra;obtain⟨u,rfl⟩:=rb
  refine PySem.P.eq_int ?_;rw[qx];exact k s.toks
 ·clear h;subst ea eb e;obtain⟨t,rfl⟩:=ra;obtain⟨u,rfl⟩:=rb
  refine PyProof.Rows.eq_str ?_;rw[show∀x y:Str,(x==y)=decide (x=y)from λx y=>by by_cases h:x=y<;>simp[h]];exact k s.toks
 ·clear h;subst ea eb e;cases ra;cases rb
  exact PyProof.Rows.eq_bool (k s.toks)
 ·subst e
  obtain⟨as,q1⟩:=oC h1 ra;obtain⟨bs,q2⟩:=oC h2 rb;exact PySem.SeqAt.compareEq_reads q1 q2 (j9 c1).1 (j9 c2).1 (B6 hA (j9 c1).2) (k s.toks)
theorem FZ{a b:V}{x y:aD}{r:Bool}{K:aD->aU->Prop}{E:aD->aU->Prop}(hA:gF A d)(ra:R C F s.heap a x)(rb:R C F s.heap b y)(h:IA a b=some r)(k:∀t,K (.bool (!r)) {s with toks:=t}):
  wpAny (bI C.prog C.w) A (o8 .NotEq x y) K E s:=by
 refine G6 h (λi j ea eb e=>?_) (λi j ea eb e=>?_) (λi j ea eb e=>?_) λda db h1 h2 c1 c2 e=>?_
 ·clear h;subst ea eb e;obtain⟨t,rfl⟩:=ra;obtain⟨u,rfl⟩:=rb
  refine PySem.P.ne_int ?_;rw[show∀x y:Int,(x !=y)= !decide (x=y)from λx y=>by by_cases h:x=y<;>simp[h]];exact k s.toks
 ·clear h;subst ea eb e;obtain⟨t,rfl⟩:=ra;obtain⟨u,rfl⟩:=rb
  refine PyProof.Rows.ne_str ?_;rw[show∀x y:Str,(x !=y)= !decide (x=y)from λx y=>by by_cases h:x=y<;>simp[h]];exact k s.toks
 ·clear h;subst ea eb e;cases ra;cases rb
  exact PyProof.Rows.ne_bool (k s.toks)
 ·subst e
  obtain⟨as,q1⟩:=oC h1 ra;obtain⟨bs,q2⟩:=oC h2 rb;exact PySem.SeqAt.compareNe_reads q1 q2 (j9 c1).1 (j9 c2).1 (B6 hA (j9 c1).2) (k s.toks)
theorem u3{k j:Int}{x:aD}{l:List (Int×aD)}:rY ((k,x)::l) j=if k=j then some x else rY l j:=by
 by_cases e:k=j
 ·refine ao (if_pos e) ?_;unfold rY;refine ao qg ?_;simp[e]
 ·refine ao (if_neg e) ?_;unfold rY;refine ao qg ?_;simp[e]
theorem Cb:∀{ks:List Int} {xs:List aD} (k:Int),ks.length=xs.length->(rY (gq ks xs) k).isSome=ks.contains k:=by
 intro ks
 induction ks with
 |nil=>intro xs k h;rfl
 |cons k' ks ih=>intro xs k h;cases xs with
  |nil=>exact(gK _ h).elim
  |cons x xs=>
   refine ao j6 (ao u3 (ao e9 ?_));replace ih:=ih k (cL h);by_cases e:k'=k
   ·refine ao (if_pos e) ?_;clear ih h;subst e;simp
   ·refine ao (if_neg e) ?_
    exact ao (show(k==k')=false by simpa using λz=>e z.symm) ih
set_option tactic.hygienic true in
theorem zQ{a b:V}{x y:aD}{r:Bool}{K:aD->aU->Prop}{E:aD->aU->Prop}(X:cN C P F σ s.heap)(hA:gF A d)(ra:R C F s.heap a x)(rb:R C F s.heap b y)(h:IQ σ a b=some r):
  ((∀t,K (.bool r) {s with toks:=t})->wpAny (bI C.prog C.w) A (o8 .In x y) K E s)/\((∀t,K (.bool (!r)) {s with toks:=t})->wpAny (bI C.prog C.w) A (o8 .NotIn x y) K E s):=by
 delta IQ at h;cases hd:iQ σ b with
 |some p=>
  rw[hd]at h;cases a with
  |int k=>
   replace h:=ac h;subst h;obtain⟨ks,vs⟩:=p;obtain⟨t,rfl⟩:=ra;obtain⟨a,xs,rfl,hm,hl,_,hsy⟩:=gV hd X rb;have e:=Cb (ks:=ks) (xs:=xs) k hl;exact⟨λq=>wpAny_in_of (nb _ _ k t) hsy hm.mapOf (by refine ao e ?_;exact q _),λq=>wpAny_notIn_of (nb _ _ k t) hsy hm.mapOf (by refine ao e ?_;exact q _)⟩
  |_=>exact bx h
 |none=>
  rw[hd]at h;refine oB h λda h1 h=>?_;refine oB h λys h2 h=>?_;refine oB h λds h3 h=>?_;unfold tN at h;split at h
  ·rename_i c
   replace h:=ac h;subst h;obtain⟨c1,c2⟩:=bo.mp c;obtain⟨as,q1⟩:=oC h1 ra;clear h c h1 ra;clear h;clear h;obtain⟨p,xs,rfl,⟨n,hl⟩,rr,_⟩:=di h2 X rb;obtain⟨bs,q2⟩:=BR h3 rr;have rc:Reads s.heap (.ref p) (.list ds) (p::bs):= .list hl rfl rfl q2;have hu:A.units+1+min (g0 ds) da.depth<cLine:=by
    have:=hA.2.2;have:=(j9 c2).2;show _<9900;lia
   exact⟨λq=>PySem.SeqAt.in_list_reads rc q1 (j9 c1).1 (j9 c2).1 hu (q s.toks),λq=>PySem.SeqAt.notIn_list_reads rc q1 (j9 c1).1 (j9 c2).1 hu (q s.toks)⟩
  ·exact bx h
theorem D0{op:qf}{a b:Int}{t u:Tok}{r:Bool}{K:aD->aU->Prop}{E:aD->aU->Prop}(h:Md op a b=some r)
  (k:∀t,K (.bool r) {s with toks:=t}):wpAny (bI C.prog C.w) A (o8 op (.int a t) (.int b u)) K E s:=by
 cases op with
 |Lt=>replace h:=ac h;subst h;exact PySem.P.lt_int (k s.toks)
 |LtE=>replace h:=ac h;subst h;exact PySem.P.le_int (k s.toks)
 |Gt=>replace h:=ac h;subst h;exact PySem.P.gt_int (k s.toks)
 |GtE=>replace h:=ac h;subst h;exact PySem.P.ge_int (k s.toks)
 |Eq=>replace h:=ac h;subst h;refine PySem.P.eq_int ?_;rw[qx];exact k s.toks
 |NotEq=>replace h:=ac h;subst h;refine PySem.P.ne_int ?_;rw[show∀x y:Int,(x !=y)= !decide (x=y)from λx y=>by by_cases h:x=y<;>simp[h]];exact k s.toks
 |_=>exact bx h
theorem IM{op:qf}{a b:V}{r:Bool}{G:Prop}:yc op a b σ=some r->(∀i j,a= .int i->b= .int j->Md op i j=some r->G)->(Jq op a b σ=some r->G)->G:=by
 cases a with
 |int i=>cases b with
  |int j=>exact λh k w_=>k _ _ rfl rfl h
  |_=>exact λh w_ k=>k h
 |_=>exact λh w_ k=>k h
theorem mF{op:qf}{a b:V}{x y:aD}{r:Bool}{K:aD->aU->Prop}{E:aD->aU->Prop}(X:cN C P F σ s.heap)(hA:gF A d)(ra:R C F s.heap a x)(rb:R C F s.heap b y)(h:yc op a b σ=some r)
  (k:∀t,K (.bool r) {s with toks:=t}):wpAny (bI C.prog C.w) A (o8 op x y) K E s:=by
 refine IM h (λi j ea eb h=>?_) λh=>?_
 ·clear X;subst ea eb;obtain⟨t,rfl⟩:=ra;obtain⟨u,rfl⟩:=rb
  exact D0 h k
 ·cases op with
  |Eq=>exact FU hA ra rb h k
  |NotEq=>
   refine oM h ?_;rintro r' h' rfl;exact FZ hA ra rb h' k
  |Is=>
   delta Jq at h;cases hb:isNone b with
   |true=>
    rw[hb]at h;rw[zT hb]at rb;clear X;cases rb;refine is_none ?_;refine ao (Hr ra h) ?_;exact k s.toks
   |false=>rw[hb]at h;exact bx h
  |IsNot=>
   delta Jq at h;cases hb:isNone b with
   |true=>
    rw[hb]at h;rw[zT hb]at rb;clear X;cases rb;clear hb;refine oM h ?_;rintro r' h' rfl;refine isNot_none ?_;refine ao (Hr ra h') ?_;exact k s.toks
   |false=>rw[hb]at h;exact bx h
  |In=>exact(zQ X hA ra rb h).1 k
  |NotIn=>
   refine oM h ?_;rintro r' h' rfl;exact(zQ X hA ra rb h').2 k
  |_=>exact bx h
theorem qN{v:V}{x:aD}{b:Bool}{K:Bool->aU->Prop}{E:aD->aU->Prop}(X:cN C P F σ s.heap)(r:R C F s.heap v x)(h:mJ σ v=some b)
  (k:∀t,K b {s with toks:=t}):wpAny (bI C.prog C.w) A (truthy x) K E s:=by
 have h0:v= .none/\false=b\/v= .bool b\/(∃i,v= .int i/\decide (i≠0)=b)\/(kq σ v).map (λvs=> !vs.isEmpty)=some b:=by
  cases v with
  |none=>exact .inl ⟨rfl,ac h⟩
  |bool c=>exact .inr (.inl (congrArg V.bool (ac h)))
  |int i=>exact .inr (.inr (.inl ⟨i,rfl,ac h⟩))
  |_=>exact .inr (.inr (.inr h))
 clear h;rcases h0 with h|h|h|h
 ·obtain⟨rfl,rfl⟩:=h;clear X;cases r;exact PyProof.Rows.truthy_none (k s.toks)
 ·subst h;clear X;cases r;exact ix (k s.toks)
 ·obtain⟨i,rfl,rfl⟩:=h;clear X;obtain⟨t,rfl⟩:=r
  refine PySem.P.truthy_int ?_;rw[show∀x:Int,(x !=0)=decide (x≠0)from λx=>by by_cases h:x=0<;>simp[h]];exact k s.toks
 ·refine oM h ?_;rintro vs h' rfl
  clear h;obtain⟨a,xs,rfl,hl,rr,hz⟩:=nG h' X r;have e: (!(bu xs).isEmpty)= !vs.isEmpty:=by
   have:=rr.length;clear hz rr k h';cases vs<;>cases xs<;>first|rfl|(simp at this)
  have hsz: ((bu xs).size:Int)<2 ^ 63:=by refine ao bB (dk rr.length ?_);lia
  rcases hl with hl|ht
  ·exact wpAny_truthy_list hl hsz (by refine ao e ?_;exact k _)
  ·exact PyProof.Rows.truthy_tuple ht hsz (by refine ao e ?_;exact k _)
theorem FC{v:V}{x:aD}{b:Bool}{K:aD->aU->Prop}{E:aD->aU->Prop}(X:cN C P F σ s.heap)(r:R C F s.heap v x)(h:mJ σ v=some b)
  (k:∀t,K (.bool (!b)) {s with toks:=t}):wpAny (bI C.prog C.w) A (unaryOp .Not x) K E s:=by
 exact PyProof.Rows.not_of (qN X r h k)
theorem cN.kin(X:cN C P F σ s.heap):C.K.In s.heap:=λa o e=>(X.base a o (C.kin a o e)).2
theorem cN.stays(X:cN C P F σ s.heap):∀b o,C.base.get? b=some o->s.heap.get? b=some o:=λb o e=>(X.base b o e).2
theorem mr{a:aY}{T id:String}{K:Bool->aU->Prop}{E:aD->aU->Prop}(hT:s.TypeIs (.ref a) T)(hl:typeLookup (.type T) "__getitem__"=dD (some (.builtin id)))
  (k:K false s):wpAny (bI C.prog C.w) A (qh (.ref a)) K E s:=by
 refine ao (getitemInPython_of_ne (by intro e;cases e)) ?_;exact aB (qi hT hl (bc k))
theorem Ax{h:cx}:∀{ks:List Int} {vs:List V} {xs:List aD} {i:Int} {v:V},ks.length=xs.length->RL C F h vs xs->oi ks vs i=some v->∃x,rY (gq ks xs) i=some x/\R C F h v x:=by
 intro ks
 induction ks with
 |nil=>exact λw_ w_=>bx
 |cons k ks ih=>intro vs xs i v hl r e;cases vs with
  |nil=>exact bx e
  |cons u vs=>cases xs with
   |nil=>exact(gK _ hl).elim
   |cons x xs=>
    rw[um]at e;refine ao j6 (ao u3 ?_);by_cases hk:k=i
    ·rw[if_pos hk]at e;refine ao (if_pos hk) ⟨x,rfl,?_⟩;replace e:=ac e;subst e;exact r.1
    ·rw[if_neg hk]at e;refine ao (if_neg hk) ?_;exact ih (cL hl) r.2 e
theorem A3{h:cx}{vs:List V}{xs:List aD}{i:Int}{v:V}(rr:RL C F h vs xs)(e:Br vs i=some v):
  ∃j x,seqIndex? i (bu xs).size=some j/\(bu xs)[j]?=some x/\R C F h v x/\-(xs.length:Int)<=i/\(0<=i->j=i.toNat)/\(i<0->j=(i+(bu xs).size).toNat):=by
 have hl:=rr.length;rw[Dh]at e;split at e
 ·rename_i h0
  refine bJ (rr.get e) λx hx r=>?_;have hlt:i.toNat<xs.length:=(aE.mp hx).1;exact⟨i.toNat,x,by refine ao bB ?_;exact PySem.seqIndex_of h0 (by lia),by exact eT.trans (hx),r,by lia,λw_=>rfl,λz=>by lia⟩
 ·split at e
  ·rename_i h0 h1
   refine bJ (rr.get e) λx hx r=>?_;refine⟨((vs.length:Int)+i).toNat,x,?_,by exact eT.trans (hx),r,by lia,λz=>absurd z h0,λw_=>by refine ao bB ?_;lia⟩;refine ao bB (ao (PySem.MeetsSeq.seqIndex_neg (by lia) (by lia)) ?_);congr 1;lia
  ·exact bx e
theorem IC{o i v:V}(h:oT σ o i=some v):∃n,i= .int n/\((∃vs,kq σ o=some vs/\HD n=true/\Br vs n=some v)\/∃p,iQ σ o=some p/\oi p.1 p.2 n=some v):=by
 cases i with
 |int n=>
  refine⟨n,rfl,?_⟩;delta oT at h;dsimp only at h;cases q:kq σ o with
  |none=>rw[q]at h;exact oB h λp h1 h2=> .inr ⟨p,h1,h2⟩
  |some vs=>
   rw[q]at h;cases z:HD n with
   |true=>rw[z]at h;exact .inl ⟨vs,rfl,rfl,h⟩
   |false=>rw[z]at h;exact bx h
 |_=>exact bx h
set_option tactic.hygienic true in
theorem Fq{value slice:Expr}{o i v:V}{x y:aD}{Q:V->AH->Prop}(X:cN C P F σ s.heap)(hA:gF A d)(ra:R C F s.heap o x)(rb:R C F s.heap i y)(h:oT σ o i=some v)(q:Q v σ)
  (hs:∀o i,nK slice false o i=Bx [o,i] (By o i)):
  Tri C A P F (do let r <- nK slice (<- qh x) x y;ng value x r;dD r) Q s:=by
 have fin:∀z t,R C F s.heap v z->wpAny (bI C.prog C.w) A (do ng value x z;dD z) (λx s'=>TrR C P F s Q x s') (λw_ w_=>False) {s with toks:=t}:=λz t r=>
  aB (lx (bc ⟨v,F,σ,d1 X t,r,q⟩))
 obtain⟨i,rfl,h'⟩:=IC h;clear h;obtain⟨t,rfl⟩:=rb;rcases h' with h|h
 ·obtain⟨vs,hv,hi,h⟩:=h
  have hi:=Jv hi;obtain⟨a,xs,rfl,hl,rr,hz⟩:=nG hv X ra;refine F5 (A3 rr h) λj z e1 e2 r hlo e3 e4=>?_;have hn:=rr.length;rcases hl with hl|ht
  ·refine aB (mr hl.typeIs uH.lookup (aB ?_))
   rw[hs];refine l0 ?_;by_cases h0:0<=i
   ·rw[e3 h0]at e2
    exact wpAny_getItem_list hl h0 (by lia) e2 (fin z s.toks r)
   ·rw[e4 (by lia)]at e2
    exact wpAny_getItem_list_neg hl (by lia) (by refine ao bB ?_;exact hlo) (by lia) e2 (fin z s.toks r)
  ·refine aB (mr ht.typeIs PySem.F.slot_tuple_getitem.lookup (aB ?_))
   rw[hs];exact l0 (PyProof.Rows.getItem_tuple ht (by lia) (by lia) e1 e2 (fin z s.toks r))
 ·obtain⟨p,h1,h2⟩:=h
  obtain⟨a,xs,rfl,hm,hl,rr,hsy⟩:=gV (ks:=p.1) (vs:=p.2) h1 X ra;refine bJ (Ax hl rr h2) λz e1 r=>?_;refine aB (mr hm.typeIs slot_dict_getitem.lookup (aB ?_));rw[hs];exact l0 (wpAny_getItem_of (nb _ _ i t) hm.mapOf e1 (fin z _ r))
set_option tactic.hygienic true in
theorem CO{lower upper:Option Expr}{base:Expr}{p:hU}{o:V}{vs ws:List V}{lo hi:Option V}{x:aD}{yl yh:aD}{Q:V->AH->Prop}(X:cN C P F σ s.heap)(hA:gF A d)(ra:R C F s.heap o x)
  (rl:match lo with|some v=>R C F s.heap v yl|none=>yl= .none) (rh:match hi with|some v=>R C F s.heap v yh|none=>yh= .none)
  (h1:Nt σ o=some vs) (h0:vs.length<=16777216) (h2:AB vs lo hi=some ws) (hw:jU ws σ Q):
  wpAny (bI C.prog C.w) A (do let r <- nK (.Slice lower upper none p) (<- qh x) x (.ref s.heap.objs.size);ng base x r;dD r)
   (λx s'=>TrR C P F s Q x s') (λw_ w_=>False) {s with heap:=s.heap.push {cls:= .type "slice",data:= .fields #[yl,yh,.none]}}:=by
 obtain⟨a,xs,rfl,hl,rr⟩:∃a xs,x= .ref a/\s.heap.IsList a (bu xs)/\RL C F s.heap vs xs:=by
  cases o with
  |arg us=>replace h1:=ac h1;subst h1;obtain⟨a,xs,e,_,l,rr,_⟩:=ra;exact⟨a,xs,e,l,rr⟩
  |list us=>obtain⟨a,xs,e,l,rr,_⟩:=di (v:= .list us) h1 X ra;exact⟨a,xs,e,l.isList,rr⟩
  |ref b=>obtain⟨a,xs,e,l,rr,_⟩:=di (v:= .ref b) h1 X ra;exact⟨a,xs,e,l.isList,rr⟩
  |_=>clear hw h2 h0 X;exact bx h1
 have hlen:=rr.length;obtain⟨lo',hi',zs,pl,ph,e,r⟩:∃(lo' hi':Option Int) (zs:List aD),IsPart yl lo'/\IsPart yh hi'/\slicePick xs.toArray lo' hi' none=zs.toArray/\RL C F s.heap ws zs:=by
  cases lo with
  |none=>cases hi with
   |none=>exact bx h2
   |some v=>cases v with
    |int i=>
     delta AB at h2;dsimp only at h2;split at h2
     ·rename_i hi
      replace h2:=ac h2;subst h2;clear hl ra X;obtain⟨t,rfl⟩:=rh;have rl:yl= .none:=rl;subst rl;refine⟨none,some i,xs.take i.toNat,.none,.int i t,?_,rr.take _⟩;have:=slicePick_upto' xs.toArray i.toNat;rw[show((i.toNat:Nat):Int)=i by lia]at this;exact ao this rfl
     ·clear hw;exact bx h2
    |_=>exact bx h2
  |some v=>cases v with
   |int i=>cases hi with
    |none=>
     delta AB at h2;dsimp only at h2;split at h2
     ·rename_i hi
      replace h2:=ac h2;subst h2;clear hl ra X;obtain⟨t,rfl⟩:=rl;have rh:yh= .none:=rh;subst rh;refine⟨some i,none,xs.drop i.toNat,.int i t,.none,?_,rr.drop _⟩;have:=slicePick_from' xs.toArray i.toNat;rw[show((i.toNat:Nat):Int)=i by lia]at this;exact ao this rfl
     ·clear hw;exact bx h2
    |some _=>exact bx h2
   |_=>exact bx h2
 have hl':=(hl.push {cls:= .type "slice",data:= .fields #[yl,yh,.none]});refine aB (mr (s:={s with heap:=s.heap.push {cls:= .type "slice",data:= .fields #[yl,yh,.none]}}) (cx.IsList.typeIs (s:={s with heap:=s.heap.push {cls:= .type "slice",data:= .fields #[yl,yh,.none]}}) hl') uH.lookup (aB ?_));show wpAny (bI C.prog C.w) A (Bx [.ref s.heap.objs.size,.ref a] (By (.ref a) (.ref s.heap.objs.size))) (λr s'=>wpAny (bI C.prog C.w) A (do ng base (.ref a) r;dD r) (λx s'=>TrR C P F s Q x s') (λw_ w_=>False) s') (λw_ w_=>False) _;refine l0 (wpAny_getItem_list_slice hl' (D2 ..) pl ph .none (by exact nofun) ?_ (by refine ao cW (ao bB (dk hlen ?_));exact h0));refine aB (lx (bc ?_));refine ao e ?_;refine fQ hw X r ?_ (λb o e=>aQ _ (aQ _ e)) ⟨0,bk _ rfl⟩;rw[eA];cases q:s.heap.get? (s.heap.objs.size+1)with
 |none=>rfl
 |some o=>exact absurd (bY q) (iM.mpr (dI _))
theorem BJ{c:String}{p:String×List String×Option String×Option String}(h: (fB.find? λp=>p.1==c)=some p):p∈fB/\p.1=c:=
 ⟨nx h,by simpa using wY h⟩
theorem uW{c:String}{K:aY}(h: (fB.find? λp=>p.1==c).isSome=true)(g:C.gv c=some (.ref K)):uf C.K C.gv c K:=by
 obtain⟨p,hp⟩:=gC.mp h;clear h;obtain⟨m,rfl⟩:=BJ hp;refine bJ (C.cls p m) λa ha f=>?_;rw[g]at ha;replace ha:=ac ha;cases ha;exact f
theorem Ay{a b:String}(h:ae a=ae b):a=b:=by
 rw[pT,pT]at h;have h:=congrArg (λx:Str=>x.cps.toList) h;refine String.toList_injective ?_;generalize a.toList=x at h;generalize b.toList=y at h
 induction x generalizing y with
 |nil=>cases y with
  |nil=>rfl
  |cons _ _=>simp at h
 |cons c x ih=>cases y with
  |nil=>simp at h
  |cons d y=>
   simp only[bC,List.cons.injEq]at h;have e:c=d:=Char.toNat_inj.mp h.1;exact ao e (ao (ih y h.2) rfl)
theorem qY(n m:String)(t:Tok): (aD.str (ae n) t).isStr (ae m)=(n==m):=by
 show(ae n==ae m)=_;by_cases h:n=m
 ·subst h;simp
 ·have:¬ae n=ae m:=λe=>h (Ay e)
  refine ao (beq_eq_false_iff_ne.mpr h) ?_;exact beq_eq_false_iff_ne.mpr this
theorem FT{x:Str}{e:eZ}{es:List eZ}(hk:e.refKey=false):D3 x (e::es)=if e.key.isStr x then some (some e.val)else D3 x es:=by
 unfold D3;refine ao qg ?_;cases q:e.key.isStr x with
 |true=>rfl
 |false=>simp[hk]
theorem Hy{n m:String}{e:eZ}{es:List eZ}{t:Tok}(hk:e.key= .str (ae n) t):D3 (ae m) (e::es)=if n=m then some (some e.val)else D3 (ae m) es:=by
 have hr:e.refKey=false:=by unfold vu;exact ao hk rfl
 refine ao (FT hr) ?_;refine ao hk ?_;rewrite[qY];by_cases q:n=m
 ·refine ao (if_pos q) ?_;simp[q]
 ·refine ao (if_neg q) ?_;simp[q]
theorem Ih{h:cx}:∀{ns:List String} {vs:List V} {xs:List aD} {es:List eZ} {n:String} {v:V},Ents ns xs es->RL C F h vs xs->mY ns vs n=some v->
  ∃x,D3 (ae n) es=some (some x)/\R C F h v x:=by
 intro ns
 induction ns with
 |nil=>exact λw_ w_=>bx
 |cons n ns ih=>intro vs xs es m u en rr g;cases vs with
  |nil=>exact bx g
  |cons v vs=>cases xs with
   |nil=>exact cG rr
   |cons x xs=>cases es with
    |nil=>exact cG en
    |cons e es=>
     refine eX en λhk hv en=>hk.elim λt hk=>?_;rw[td]at g;refine ao (Hy hk) ?_;by_cases q:n=m
     ·rw[if_pos q]at g;refine ao (if_pos q) ⟨x,congrArg (λx=>some (some x)) hv,?_⟩;replace g:=ac g;subst g;exact rr.1
     ·rw[if_neg q]at g;refine ao (if_neg q) ?_;exact ih en rr.2 g
theorem zR{h:cx}:∀{ns:List String} {vs:List V} {xs:List aD} {es:List eZ} {n:String},Ents ns xs es->RL C F h vs xs->mY ns vs n=none->D3 (ae n) es=some none:=by
 intro ns
 induction ns with
 |nil=>intro vs xs es m en rr g;cases xs with
  |nil=>cases es with
   |nil=>rfl
   |cons _ _=>exact cG en
  |cons _ _=>exact cG en
 |cons n ns ih=>intro vs xs es m en rr g;cases xs with
  |nil=>exact cG en
  |cons x xs=>cases es with
   |nil=>exact cG en
   |cons e es=>cases vs with
    |nil=>exact cG rr
    |cons v vs=>
     refine eX en λhk hv en=>hk.elim λt hk=>?_;rw[td]at g;refine ao (Hy hk) ?_;by_cases q:n=m
     ·rw[if_pos q]at g;exact n9 g
     ·rw[if_neg q]at g;refine ao (if_neg q) ?_;exact ih en rr.2 g
inductive Pk(o:Option aD)(h:cx)(ns:List String)(L:List aD->Prop)(x:aD):Prop
 |mk (a K d:aY) (es:List eZ) (n:Nat) (xs:List aD) (e:x= .ref a) (g:o=some (.ref K)) (t:h.get? a=some (eP K d)) (t':h.get? d=some (pP es n)) (en:Ents ns xs es) (l:L xs):Pk o h ns L x
set_option tactic.hygienic true in
theorem uj{v:V}{c:String}{ns:List String}{vs:List V}(h:pM σ v=some (c,ns,vs))(X:cN C P F σ s.heap){x:aD}(r:R C F s.heap v x):
  Pk (C.gv c) s.heap ns (λxs=>RL C F s.heap vs xs) x:=by
 cases v with
 |inst c ns us=>
  replace h:=ac h;cases h;obtain⟨a,K,d,es,n,xs,e,g,_,_,t,t',en,rr⟩:=r;exact⟨a,K,d,es,n,xs,e,g,t,t',en,rr⟩
 |ref a=>
  refine oB (h: (σ a).bind KX=some (c,ns,vs)) λm e h=>?_;obtain⟨d,h⟩:=MC h;subst h;obtain⟨_,_,_,K,es,n,xs,g,t,t',en,rr,_⟩:=X.obj a _ e;exact⟨a,K,d,es,n,xs,r,g,t,t',en,rr⟩
 |_=>clear X;exact bx h
theorem Ge{v:V}{x:aD}(r:R C F s.heap v x):handedIn x=true:=by
 cases v with
 |glob n=>exact C.gvH n x r
 |none=>cases r;rfl
 |bool b=>cases r;rfl
 |int i=>obtain⟨t,rfl⟩:=r;rfl
 |str i=>obtain⟨t,rfl⟩:=r;rfl
 |ref a=>cases r;rfl
 |tup vs=>obtain⟨a,_,rfl,_⟩:=r;rfl
 |list vs=>obtain⟨a,_,rfl,_⟩:=r;rfl
 |arg vs=>obtain⟨a,_,rfl,_⟩:=r;rfl
 |range lo hi=>obtain⟨a,_,_,_,rfl,_⟩:=r;rfl
 |inst c ns vs=>obtain⟨a,_,_,_,_,_,rfl,_⟩:=r;rfl
 |dict ks vs=>obtain⟨a,_,rfl,_⟩:=r;rfl
 |clo vs=>obtain⟨a,_,_,rfl,_⟩:=r;rfl
set_option tactic.hygienic true in
theorem DK{o v:V}{x:aD}{n:String}{K:aD->aU->Prop}{E:aD->aU->Prop}(X:cN C P F σ s.heap)(r:R C F s.heap o x)(h:uo σ o n=some v)
  (k:∀y t,R C F s.heap v y->K y {s with toks:=t}):wpAny (bI C.prog C.w) A (getAttr x (ae n) true) K E s:=by
 unfold uo at h;split at h
 ·rename_i c ns vs hi
  split at h
  ·clear k;exact bx h
  ·rename_i hk
   obtain⟨a,CK,d,es,m,xs,rfl,g,t,t',en,rr⟩:=uj hi X r;have hc: (fB.find? λp=>p.1==c).isSome=true:=by
    cases q: (fB.find? λp=>p.1==c)with
    |none=>rw[q]at hk;exact absurd rfl hk
    |some _=>rfl
   have f:=uW hc g;have I:InstAt s.heap a (eP CK d) CK (some (pP es m)):=⟨t,rfl,rfl,t'⟩;split at h
   ·rename_i u hg
    split at h
    ·rename_i hm
     replace h:=ac h;subst h;refine bJ (Ih en rr hg) λy hl ry=>?_;obtain⟨⟨attr,ha,hn⟩,_⟩:=f.fld n (by exact jj (hm));exact get_value X.kin I f.ga (findObj_own f.hd ha hn hl) (Ge ry) (k y _ ry)
    ·clear k;exact bx h
   ·rename_i hg
    have hl:=zR en rr hg;unfold Eh at h;split at h
    ·rename_i hn
     clear hg;subst hn;clear hc r rr en t' g hk hi;refine oM h ?_;rintro l hl' rfl;obtain⟨t,ha⟩:=f.lbl l hl';exact get_value X.kin I f.ga (findObj_cls f.hd ha (by rfl) rfl (by decide+kernel) hl) rfl (k _ _ ⟨t,rfl⟩)
    ·clear k;exact bx h
 ·clear k;exact bx h
theorem BS:∀p∈tU,(fB.find? λq=>q.1==p.1).isSome=true:=by decide+kernel
theorem DP{c m q:String}(h:Dk c m=some q): (c,m,q)∈tU:=by
 refine oM h ?_;rintro p hp rfl;have h1:=nx hp;have h2:=wY hp;simp only[bD,beq_iff_eq]at h2;obtain⟨a,b,r⟩:=p;clear h hp;obtain⟨rfl,rfl⟩:=h2;exact h1
theorem sH:∀{ns:List String} {vs:List V} {m:String},ns.contains m=false->mY ns vs m=none
 |[],vs,_,_=>by cases vs<;>rfl
 |n::ns,[],_,_=>rfl
 |n::ns,v::vs,m,h=>by
  rw[e9,iN]at h;refine ao td ?_;refine ao (if_neg (by intro e;subst e;simp at h)) ?_;exact sH h.2
noncomputable def yA(M:uI)(f:aD)(h:cx):Prop:=∃k,(k=Keeper.frame\/k=Keeper.machine\/k=Keeper.boundFrame)/\Looks M h (keeperOf f) k
theorem Ee{M:uI}{n:String}{v:aD}(X:cN C P F σ s.heap)(h:C.gv n=some v):yA M v s.heap:=by
 have k:=C.keeps n v h;cases v with
 |ref a=>exact keeps_K k _ X.kin
 |builtin b=>exact⟨.machine,.inr (.inl rfl),.now⟩
 |type b=>exact⟨.machine,.inr (.inl rfl),.now⟩
 |_=>exact k.elim
theorem GB{M:uI}{cs:List V}{v:aD}(h:R C F s.heap (.clo cs) v):yA M v s.heap:=by
 obtain⟨a,_,_,rfl,_,h,_⟩:=h;refine lk (C.clo.isf _ _ _ _ h) λo fd ho hd=>?_;refine⟨.frame,.inl rfl,(Looks.ld (part:=none) ho).andThen ?_⟩;refine ao hd ?_;exact .now
theorem DC(s:aU)(x:Str)(t:Tok):s.TypeIs (.str x t) "str":=rfl
set_option maxRecDepth 100000 in
theorem GQ{z:Str}{t:Tok}{M:uI}{pl:uU Bool}{K:aD×List aD->aU->Prop}{E:aD->aU->Prop}(k:K (.builtin "str.join",[.str z t]) s):wpAny M A (vv (.str z t) (ae "join") pl) K E s:=
 nM (DC s z t) PySem.F.plainAttrs_str PySem.F.slot_str_join PySem.F.type_str_join (λa e=>by cases e) k
set_option tactic.hygienic true in
set_option maxRecDepth 100000 in
theorem DR{o:V}{x:aD}{m q:String}{b:Bool}{pl:uU Bool}{K:aD×List aD->aU->Prop}{E:aD->aU->Prop}(X:cN C P F σ s.heap)(r:R C F s.heap o x)(h:j3 σ o m=some (q,b))
  (k:∀fv t,C.gv q=some fv->K (fv,if b then[x]else[]) {s with toks:=t}):wpAny (bI C.prog C.w) A (vv x (ae m) pl) K E s:=by
 have bl:∀{i v},(i,v)∈([("len",.builtin "len"),("ord",.builtin "ord"),("chr",.builtin "chr"),("abs",.builtin "abs"),("max",.builtin "max"),("min",.builtin "min"),("sorted",.builtin "sorted"),
  ("int",.type "int"),("range",.type "range"),("list",.type "list"),("tuple",.type "tuple"),("enumerate",.type "enumerate"),
  ("list.append",.builtin "list.append"),("list.pop",.builtin "list.pop"),("list.reverse",.builtin "list.reverse"),("list.index",.builtin "list.index"),("dict.get",.builtin "dict.get"),("str.join",.builtin "str.join")]:List (String×aD))->C.gv i=some v:=λh=>C.blt _ h
 have inst:∀c ns vs,pM σ o=some (c,ns,vs)->(if ns.contains m then none else(Dk c m).map (·,true))=some (q,b)->wpAny (bI C.prog C.w) A (vv x (ae m) pl) K E s:=λc ns vs h1 h2=>by
  split at h2
  ·clear k h;exact bx h2
  ·rename_i hm
   refine oM h2 λq' hq e=>?_;cases e;obtain⟨a,CK,dd,es,n,xs,rfl,g,t,t',en,rr⟩:=uj h1 X r;have hmem:=DP hq;have f:=uW (BS _ hmem) g;refine d4 (f.meth _ hmem rfl) λfa g1 g2 g3=>?_;have I:InstAt s.heap a (eP CK dd) CK (some (pP es n)):=⟨t,rfl,rfl,t'⟩;refine method_fn X.kin I f.ga f.gt g2 (beq_iff_eq.mp g3) ?_ (k _ s.toks g1);show(D3 (ae m) es).map _=_;refine ao (zR en rr (sH (by exact d9.mpr (hm)))) ?_;rfl
 have lst:∀vs,d7 σ o=some vs->(ue m).map (·,true)=some (q,b)->wpAny (bI C.prog C.w) A (vv x (ae m) pl) K E s:=λvs h1 h2=>by
  refine oM h2 λq' hq e=>?_;cases e;obtain⟨a,xs,rfl,⟨n,hl⟩,rr,_⟩:=di h1 X r;have nd:s.heap.NoDictAt (.ref a):=⟨_,hl,rfl⟩;have il:s.heap.IsList a xs.toArray:=⟨_,hl,rfl,n,rfl⟩;delta ue at hq;split at hq
  ·rename_i e;subst e;replace hq:=ac hq;subst hq;exact kb PySem.F.slot_list_append PySem.F.type_list_append il nd (k _ s.toks (bl (by decide+kernel)))
  split at hq
  ·rename_i e;subst e;replace hq:=ac hq;subst hq;exact kb PySem.F.slot_list_pop PySem.F.type_list_pop il nd (k _ s.toks (bl (by decide+kernel)))
  split at hq
  ·rename_i e;subst e;replace hq:=ac hq;subst hq;exact kb PySem.F.slot_list_reverse PySem.F.type_list_reverse il nd (k _ s.toks (bl (by decide+kernel)))
  split at hq
  ·rename_i e;subst e;replace hq:=ac hq;subst hq;exact kb PySem.F.slot_list_index PySem.F.type_list_index il nd (k _ s.toks (bl (by decide+kernel)))
  ·clear k;exact bx hq
 have h0: (∃c,o= .glob c/\yp c m=some (q,b))\/(∃z,o= .str z/\(if m="join" then some ("str.join",true)else none)=some (q,b))\/pJ σ o m=some (q,b):=by
  cases o with
  |glob c=>exact .inl ⟨c,rfl,h⟩
  |str z=>exact .inr (.inl ⟨z,rfl,h⟩)
  |_=>exact .inr (.inr h)
 clear h;rcases h0 with h|h|h
 ·obtain⟨c,rfl,h⟩:=h
  clear lst inst;delta yp at h;split at h
  ·rename_i hc;subst hc
   split at h
   ·rename_i hm
    subst hm;replace h:=ac h;cases h;obtain⟨a,mc,p,f,rest,g1,g2,g3,g4,g5,g6⟩:=C.made;have e:x= .ref a:=ac (r.symm.trans g1);clear g1 r;subst e;refine method_cls X.kin g2 (cls_bind X.kin g3 g4 (wpAny_call (sm_get (s:={s with toks:=s.toks+1}) X.kin g5 (handed_on (C.gvH _ _ g6) (k _ (s.toks+1) g6)))))
   ·clear k;exact bx h
  split at h
  ·rename_i hc;subst hc
   split at h
   ·rename_i hm
    subst hm;replace h:=ac h;cases h;obtain⟨a,mc,f,g1,g2,g3,g4,g5⟩:=C.loop;have e:x= .ref a:=ac (r.symm.trans g1);clear g1 r;subst e;exact method_cls X.kin g2 (cls_value X.kin g3 g4 (C.gvH _ _ g5) (k _ (s.toks+1) g5))
   ·clear k;exact bx h
  ·clear k;exact bx h
 ·obtain⟨z,rfl,h⟩:=h
  clear lst inst;split at h
  ·rename_i hm
   subst hm;replace h:=ac h;cases h;clear X;obtain⟨t,rfl⟩:=r;exact GQ (k _ s.toks (bl (i:="str.join") (v:= .builtin "str.join") (by decide+kernel)))
  ·clear k;exact bx h
 ·delta pJ at h
  cases hi:pM σ o with
  |some p=>rw[hi]at h;exact inst _ _ _ hi h
  |none=>
   cases hl:d7 σ o with
   |some vs=>rw[hi,hl]at h;exact lst _ hl h
   |none=>
    rw[hi,hl]at h;refine oB h λp hd h'=>?_;clear h;have h: (if m="get" then some ("dict.get",true)else none)=some (q,b):=h';clear h';split at h
    ·rename_i hm
     clear lst inst;subst hm;replace h:=ac h;cases h;obtain⟨a,xs,rfl,hm,hl,rr,hsy⟩:=gV (ks:=p.1) (vs:=p.2) hd X r;refine nE (id hm) ?_;intro o' es ep ho hx _;have ht:=hm.typeIs (s:=s);exact nM ht PySem.F.plainAttrs_dict PySem.F.slot_dict_get PySem.F.type_dict_get (λa' e=>by cases e;exact⟨o',ho,hx.2.1⟩) (k _ s.toks (bl (by decide+kernel)))
    ·clear lst inst k;exact bx h
inductive O2(C:Cx)(env:o7)(ns:cD)(PP F:dQ)(e8:bT)(h:cx):Prop
 |mk (m:Str->Option aD) (n:h.Ns env.locals m) (p:PP env.locals) (q:∀x i,cj ns x=some (i,.local)->env.kindOf x=some .local/\∀v,nv e8 i=some v->∃y,m x=some y/\R C F h v y):O2 C env ns PP F e8 h
inductive Pe(C:Cx)(env:o7)(PP F:dQ)(e8:bT)(h:cx)(x:Str)(i:Nat):Prop
 |mk (q:env.kindOf x=some .cell\/(env.kindOf x=some .free/\(x==ae "__classdict__")=false)) (c:aY) (y0:Option aD) (h1:env.cells.lookup x=some c) (h2:PP c\/F c) (h3:h.IsCell c y0) (h4:∀v,nv e8 i=some v->∃y,y0=some y/\R C F h v y):Pe C env PP F e8 h x i
structure FR(C:Cx)(env:o7)(ns:cD)(PP F:dQ)(e8:bT)(h:cx):Prop where
 glob:env.globals=dz
 blt:env.builtins=kK
 kind:env.scope.kind= .function
 gk:∀x i,cj ns x=some (i,.globalImplicit)->env.kindOf x=some .globalImplicit
 loc:O2 C env ns PP F e8 h
 cel:∀x i k,cj ns x=some (i,k)->k= .cell\/k= .free->Pe C env PP F e8 h x i
 apart:∀x y c,env.cells.lookup x=some c->env.cells.lookup y=some c->x=y
theorem FR.step{F':dQ}{σ':AH}{s':aU}(X:FR C env ns PP F e8 s.heap)(a:Aft C PP F s F' σ' s'):FR C env ns PP F' e8 s'.heap where
 glob:=X.glob
 blt:=X.blt
 kind:=X.kind
 gk:=X.gk
 loc:=by
  obtain⟨m,n,p,q⟩:=X.loc;exact⟨m,sK n (a.keep _ p),p,λx i e=>⟨(q x i e).1,λv g=>let⟨y,e1,e2⟩:=(q x i e).2 v g;⟨y,e1,e2.mono a.ext⟩⟩⟩
 cel:=λx i k e z=>by
  obtain⟨q,c,y0,h1,h2,h3,h4⟩:=X.cel x i k e z;exact⟨q,c,y0,h1,h2.imp id (a.ext.sub c),mH h3 (h2.elim (a.keep c) (a.ext.keep c)),λv g=>let⟨y,e1,e2⟩:=h4 v g;⟨y,e1,e2.mono a.ext⟩⟩
 apart:=X.apart
noncomputable def EvalOk(C:Cx)(d:Nat)(env:o7)(ns:cD)(PP:dQ)(t:uU aD)(ie:IE):Prop:=
 ∀e8 σ Q A F s,gF A d->cN C PP F σ s.heap->FR C env ns PP F e8 s.heap->ig C d ie e8 σ Q->Tri C A PP F t Q s
inductive OB(C:Cx)(P F:dQ)(s:aU){α β:Type}(Rl:dQ->cx->β->α->Prop)(Q:β->AH->Prop)(x:α)(s':aU):Prop
 |mk (v:β) (F':dQ) (σ':AH) (a:Aft C P F s F' σ' s') (r:Rl F' s'.heap v x) (q:Q v σ'):OB C P F s Rl Q x s'
noncomputable def Cn(C:Cx)(A:lY)(P F:dQ){α β:Type}(Rl:dQ->cx->β->α->Prop)(t:uU α)(Q:β->AH->Prop)(s:aU):Prop:=
 wpAny (bI C.prog C.w) A t (λx s'=>OB C P F s Rl Q x s') (λw_ w_=>False) s
theorem Cn.use{α β:Type}{Rl:dQ->cx->β->α->Prop}{t:uU α}{Q:β->AH->Prop}{K:α->aU->Prop}{E:aD->aU->Prop}(h:Cn C A P F Rl t Q s)
  (k:∀v x bz bj s₁,Aft C P F s bz bj s₁->Rl bz s₁.heap v x->Q v bj->K x s₁):wpAny (bI C.prog C.w) A t K E s:=
 b0 h (λx s' ⟨v,F',σ',a,r,q⟩=>k v x F' σ' s' a r q) λw_ w_ z=>z.elim
noncomputable def RB(_:dQ)(_:cx)(b:Bool)(x:Bool):Prop:=b=x
noncomputable def TestOk(C:Cx)(d:Nat)(env:o7)(ns:cD)(PP:dQ)(t:uU Bool)(ie:IE):Prop:=
 ∀e8 σ Q A F s,gF A d->cN C PP F σ s.heap->FR C env ns PP F e8 s.heap->Mj C d ie e8 σ Q->Cn C A PP F RB t Q s
noncomputable def D9(C:Cx)(d:Nat)(env:o7)(ns:cD)(PP:dQ)(k:Bool)(t:uU Bool)(es:List IE):Prop:=
 ∀e8 σ Q A F s,gF A d->cN C PP F σ s.heap->FR C env ns PP F e8 s.heap->Hw C d k es e8 σ Q->Cn C A PP F RB t Q s
noncomputable def yJ(C:Cx)(d:Nat)(env:o7)(ns:cD)(PP:dQ)(k:Bool)(t:uU aD)(es:List IE):Prop:=
 ∀e8 σ Q A F s,gF A d->cN C PP F σ s.heap->FR C env ns PP F e8 s.heap->Au C d k es e8 σ Q->Tri C A PP F t Q s
noncomputable def Ht(C:Cx)(d:Nat)(env:o7)(ns:cD)(PP:dQ)(t:uU (List aD))(es:List IE):Prop:=
 ∀e8 σ Q A F s,gF A d->cN C PP F σ s.heap->FR C env ns PP F e8 s.heap->Fp C d es e8 σ Q->Cn C A PP F (RL C) t Q s
noncomputable def RO(C:Cx)(F:dQ)(h:cx)(v:Option V)(x:aD):Prop:=match v with|some v=>R C F h v x|none=>x= .none
noncomputable def Ow(C:Cx)(d:Nat)(env:o7)(ns:cD)(PP:dQ)(t:uU aD)(o:Option IE):Prop:=
 ∀e8 σ Q A F s,gF A d->cN C PP F σ s.heap->FR C env ns PP F e8 s.heap->Oy C d o e8 σ Q->Cn C A PP F (RO C) t Q s
theorem DX{x:Str}{pos:hU}{i:Nat}{v:V}{k:cZ}{K:aD->aU->Prop}{E:aD->aU->Prop}{M:uI}(X:FR C env ns PP F e8 s.heap)(hd: (x==ae "__debug__")=false)
  (hs:cj ns x=some (i,k)) (hk:k= .local\/k= .cell\/k= .free) (hv:nv e8 i=some v) (q:∀y,R C F s.heap v y->K y s):wpAny M A (bS (.Name x pos) env) K E s:=by
 refine wpAny_Name ?_ hd;rcases hk with rfl|hk
 ·obtain⟨m,h1,_,h2⟩:=X.loc
  obtain⟨h3,h4⟩:=h2 x i hs;refine bJ (h4 v hv) λy h5 h6=>?_;exact rD X.kind h3 h1 h5 (q y h6)
 ·obtain⟨h1,c,y0,h2,_,h3,h4⟩:=X.cel x i k hs hk
  clear h2_1 hk hs hd;refine bJ (h4 v hv) ?_;rintro y rfl r;rcases h1 with h1|⟨h1,h5⟩
  ·exact si X.kind h1 h2 h3 (q y r)
  ·exact sj X.kind h1 h2 h3 (q y r) h5
theorem ta{x:Str}{n:String}{pos:hU}{i:Nat}{K:aD->aU->Prop}{E:aD->aU->Prop}{M:uI}(Z:cN C PP F σ s.heap)(X:FR C env ns PP F e8 s.heap)(hd: (x==ae "__debug__")=false)
  (hs:cj ns x=some (i,.globalImplicit)) (hn:x=ae n) (hm:n∈jK) (q:∀y,R C F s.heap (EH n) y->K y s):wpAny M A (bS (.Name x pos) env) K E s:=by
 refine Name_function_global X.kind (X.gk x i hs) ?_ hd;clear hs hd;subst hn;refine bJ (C.names n hm) λv hv hg=>?_;have r:R C F s.heap (EH n) v:=by
  unfold EH;cases e:rU n with
  |none=>rw[e]at hg;exact hg
  |some i=>rw[e]at hg;exact hg
 have g1:s.heap.Ns env.globals C.mg:=X.glob▸sK C.gNs (Z.stays _);have g2:s.heap.Ns env.builtins C.mb:=X.blt▸sK C.bNs (Z.stays _);rcases hv with hv|⟨h1,h2⟩
 ·exact loadGlobal_global g1 hv (q v r)
 ·exact loadGlobal_builtin g1 h1 g2 h2 (q v r)
theorem lQ{o:Expr}{attr:Str}{env:o7}{whole:uU aD}(h:f7 o=true):sN o attr env whole=whole:=by
 revert h
 apply Expr.casesOn (motive_1:=λo=>f7 o=true->sN o attr env whole=whole) o
 case Call=>
  intro f es ks q;apply Expr.casesOn (motive_1:=λf=>f7 (.Call f es ks q)=true->sN (.Call f es ks q) attr env whole=whole) f
  case Name=>
   intro a b h;cases es with
   |cons _ _=>rfl
   |nil=>cases ks with
    |cons _ _=>rfl
    |nil=>exact mj h
  all_goals repeat first|exact rfl|refine λw_=>?_
 all_goals repeat first|exact rfl|refine λw_=>?_
theorem q7{pos:hU}{f:aD}{first:List aD}{args:List (Bool×uU aD)}{Q:V->AH->Prop}{Q':List V->AH->Prop}
  (X:cN C P F σ s.heap) (h0:args=[]->Q' [] σ) (hp:args.any (·.1)=false) (ha:Cn C A P F (RL C) (uJ args) Q' s)
  (hc:∀vs xs bz bj s₁,Aft C P F s bz bj s₁->RL C bz s₁.heap vs xs->Q' vs bj->yA (bI C.prog C.w) f s₁.heap/\Tri C A P bz (call f (first++xs) []) Q s₁):Tri C A P F (uK pos f first args []) Q s:=by
 refine rE (P:=yA (bI C.prog C.w) f) (by refine ao hp ?_;rfl) (λh p=>p) ?_;have fin:∀vs xs bz bj s₁,Aft C P F s bz bj s₁->RL C bz s₁.heap vs xs->Q' vs bj->yA (bI C.prog C.w) f s₁.heap/\
   wpAny (bI C.prog C.w) A (call f (first++xs) []) (λx s'=>TrR C P F s Q x s') (λw_ w_=>False) s₁:=λvs xs bz bj s₁ a r q=>
  ⟨(hc vs xs bz bj s₁ a r q).1,(hc vs xs bz bj s₁ a r q).2.from a⟩
 cases args with
 |nil=>
  refine evalArgs_nil3 ?_;have a0:=Aft.refl X;exact fin [] [] F σ s a0 trivial (h0 rfl)
 |cons a r=>
  obtain⟨b,t⟩:=a;have hb:b=false:=by
   rw[jk,iN]at hp;exact hp.1
  clear hp h0;subst hb;exact rF (ha.use λvs xs bz bj s₁ a r q=>fin vs xs bz bj s₁ a r q)
theorem kD{I:aY}{h h':cx}(x:CT I h h'):∀b,b≠I->∀o,h.get? b=some o->h'.get? b=some o:=λb hb o e=>x b o hb e
theorem cN.outE{h h':cx}(X:cN C P F σ h){a:aY}(k:∀b,b≠a->∀o,h.get? b=some o->h'.get? b=some o)(fa:¬F a)(pa:¬P a)(sa:¬C.sp a)(na:σ a=none):cN C P F σ h':=by
 have kF:d3 F h h':=λb f o e=>k b (λz=>fa (z▸f)) o e;refine⟨λb o e=>⟨(X.base b o e).1,kF b (X.base b o e).1 o (X.base b o e).2⟩,X.fp,λb f=>let⟨o,e⟩:=X.fal b f;⟨o,kF b f o e⟩,
  λb f=>let⟨o,e⟩:=X.pal b f;⟨o,k b (λz=>pa (z▸f)) o e⟩,λb m'' e=>?_,λb s=>let⟨p,q,o,e⟩:=X.spx b s;⟨p,q,o,k b (λz=>sa (z▸s)) o e⟩,
  C.invKeep _ _ _ _ X.inv (λw_ x=>x) λb s o e=>s.elim (λs=>k b (λz=>sa (z▸s)) o e) λf=>kF b f o e⟩
 have hb:b≠a:=by rintro rfl;rw[na]at e;exact bx e
 obtain⟨p,q,r,z⟩:=X.obj b m'' e;refine⟨p,q,r,z.mono ⟨λw_ x=>x,kF⟩ (k b hb) λw_ d w_ w_ w_ s=>?_⟩;exact⟨s,k d (by rintro rfl;rw[na]at s;clear hb z r q p e;exact bx s)⟩
theorem cN.adopt{h:cx}(X:cN C P F σ h){a:aY}{m:fM}(fa:¬F a)(pa:¬P a)(sa:¬C.sp a)(na:σ a=none)(hm:zy C (σ.set a m) F h a m):cN C P F (σ.set a m) h where
 base:=X.base
 fp:=X.fp
 fal:=X.fal
 pal:=X.pal
 obj:=λb m' e=>by
  by_cases hb:b=a
  ·clear na;subst hb;rw[az]at e;replace e:=ac e;subst e
   exact⟨fa,pa,sa,hm⟩
  ·rw[ay _ _ hb]at e
   obtain⟨p,q,r,z⟩:=X.obj b m' e;refine⟨p,q,r,z.mono (gX.refl _ _) (λw_ e=>e) λw_ d w_ w_ w_ s=>⟨?_,λw_ e=>e⟩⟩;rw[ay];exact s;rintro rfl;rw[na]at s;clear hb z r q p e;exact bx s
 spx:=X.spx
 inv:=X.inv
theorem yH{vs:List V}{Q:V->AH->Prop}(hw:jU vs σ Q)(X:cN C P F σ s.heap){xs:List aD}(hx:RL C F s.heap vs xs){a:aY}
  (fa:¬F a) (pa:¬P a) (sa:¬C.sp a) (na:σ a=none) (hl:s.heap.PlainList a (bu xs)):TrR C P F s Q (.ref a) s:=by
 have hz:vs.length<=1073741824:=a8 (jf.mp hw).1 (by decide);rcases(jf.mp hw).2 with q|q
 ·exact⟨.ref a,F,σ.set a (.list vs),⟨⟨s.heap,s.toks,rfl⟩,gX.refl _ _,d3.refl _ _,X.adopt fa pa sa na ⟨xs,hl,hx,hz⟩⟩,rfl,q a na⟩
 ·have X':=X.freeze (λb=>b=a) λb e=>by clear fa;subst e;exact⟨pa,sa,na,let⟨_,e⟩:=hl;⟨_,e⟩⟩
  have E':gX F s.heap (λb=>F b\/b=a) s.heap:=⟨λw_ x=> .inl x,d3.refl _ _⟩;exact⟨.list vs,λb=>F b\/b=a,σ,⟨⟨s.heap,s.toks,rfl⟩,E',d3.refl _ _,X'⟩,⟨a,xs,rfl,.inr rfl,hl,hx.mono E',hz⟩,q⟩
noncomputable def je(C:Cx)(F:dQ)(h:cx)(I:aY):V->Nat->Prop
 | .range lo hi,i=>vZ h I (lo+i) ((hi-lo).toNat-i) 1
 | .tup vs,i=>∃ax,R C F h (.tup vs) (.ref ax)/\h.IsTupleIter I ax i
 | .str z,i=>∃t,h.IsStrIter I "str_ascii_iterator" z t i
 | .list vs,i=>∃ax,R C F h (.list vs) (.ref ax)/\h.IsListIter I ax i
 | .ref a,i=>h.IsListIter I a i
 |_,_=>False
theorem je.keep{F':dQ}{h h':cx}{I:aY}{i:Nat}(X:gX F h F' h')(k:∀o,h.get? I=some o->h'.get? I=some o):∀{x:V},je C F h I x i->je C F' h' I x i:=by
 intro x z;cases x with
 |range=>exact k _ z
 |tup=>exact CU z λax z=>z.2.elim λo e=>⟨ax,z.1.mono X,o,k o e.1,e.2⟩
 |str=>exact lk z λt o e z=>⟨t,o,k o e,z⟩
 |list=>exact CU z λax z=>z.2.elim λo e=>⟨ax,z.1.mono X,o,k o e.1,e.2⟩
 |ref=>exact bJ z λo e z=>⟨o,k o e,z⟩
 |_=>exact cG z
theorem A9{lo hi:Int}{items:List V}(h:dw σ (.range lo hi)=some items): (0<=lo/\lo<=hi/\hi<2 ^ 60)/\j2 lo hi=items:=by
 replace h:qD lo hi=some items:=h;unfold qD at h;by_cases q:0<=lo/\lo<=hi/\hi<2 ^ 60
 ·rw[if_pos q]at h;exact⟨q,ac h⟩
 ·rw[if_neg q]at h;exact bx h
theorem AO{z:Str}{items:List V}(h:dw σ (.str z)=some items):z.cps.all (· <128)=true/\(z.cps.toList.map λc=>V.str ⟨#[c]⟩)=items:=by
 replace h: (if z.cps.all (· <128)then some (z.cps.toList.map λc=>V.str ⟨#[c]⟩)else none)=some items:=h;by_cases q:z.cps.all (· <128)=true
 ·rw[if_pos q]at h;exact⟨q,ac h⟩
 ·rw[if_neg q]at h;exact bx h
theorem vO{lo hi:Int}(h:0<=lo/\lo<=hi/\hi<2 ^ 60):Builtin.Range.small lo hi 1=true:=by
 refine eX h λh0 h1 h2=>?_;clear h;have h2:hi<1152921504606846976:=h2;have e:Builtin.Range.rangeSize lo hi 1=hi-lo:=by
  unfold Builtin.Range.rangeSize;refine ao (if_pos (by decide)) ?_;split<;>lia
 unfold Builtin.Range.small;refine ao e ?_;have f:∀z:Int,0<=z->z<1152921504606846976->Builtin.Range.rangeFitsLong z=true:=λz a b=>by
  unfold Builtin.Range.rangeFitsLong;simp;lia
 refine ao (f lo h0 (by lia)) (ao (f hi (by lia) h2) (ao (f 1 (by lia) (by lia)) (ao (f (hi-lo) (by lia) (by lia)) ?_)));refine ao (if_pos (by decide)) (ao (show hi+(1-1)=hi by lia) (ao (f hi (by lia) h2) ?_));exact uL _
theorem mP(lo hi:Int): (j2 lo hi).length=(hi-lo).toNat:=by simp[j2]
theorem CJ{lo hi:Int}{i:Nat}{v:V}(h: (j2 lo hi)[i]?=some v):i< (hi-lo).toNat/\v= .int (lo+i):=by
 have hi':=(aE.mp h).1;rw[mP]at hi';refine⟨hi',?_⟩;unfold j2 at h;rw[bb,l9 hi']at h;replace h:=ac h;subst h;rfl
theorem kI{x:V}{y:aD}{items:List V}{K:aD->aU->Prop}{E:aD->aU->Prop}(X:cN C P F σ s.heap)(r:R C F s.heap x y)(h:dw σ x=some items)
  (k:∀o,(∀b o',s.heap.get? b=some o'->(s.heap.push o).get? b=some o')->(s.heap.push o).get? s.heap.objs.size=some o->je C F (s.heap.push o) s.heap.objs.size x 0->K (.ref s.heap.objs.size) {s with heap:=s.heap.push o}):
  wpAny (bI C.prog C.w) A (Bz y) K E s:=by
 have kk:∀o b o',s.heap.get? b=some o'->(s.heap.push o).get? b=some o':=λo b o' e=>aQ _ e;have EE:∀o,gX F s.heap F (s.heap.push o):=λo=>⟨λw_ x=>x,d3.all (kk o)⟩;cases x with
 |range lo hi=>
  have hb:=(A9 h).1;clear h EE X;obtain⟨a,t,u,v,rfl,hF,hr⟩:=r;refine wpAny_pyIter_range hr (vO hb) ?_;refine k _ (kk _) (bk _ rfl) ?_;show vZ _ _ _ _ _;have e:Builtin.Range.rangeSize lo hi 1=((hi-lo).toNat:Int)- ((0:Nat):Int):=by
   unfold Builtin.Range.rangeSize;refine ao (if_pos (by decide)) ?_;split<;>lia
  refine dk e ?_;have:=bk s.heap (o:={cls:= .type "range_iterator",data:= .fields #[ot lo,ot (Builtin.Range.rangeSize lo hi 1),ot 1]}) rfl;simpa using this
 |str z=>
  have hb:=(AO h).1;clear h EE X;obtain⟨t,rfl⟩:=r;refine wpAny_pyIter_ascii hb ?_;exact k _ (kk _) (bk _ rfl) ⟨t,_,bk _ rfl,rfl,rfl⟩
 |tup vs=>
  clear h X;obtain⟨a,xs,rfl,hF,ht,rr⟩:=id r;refine wpAny_pyIter_tuple ht ?_;exact k _ (kk _) (bk _ rfl) ⟨a,r.mono (EE _),_,bk _ rfl,rfl,rfl⟩
 |list vs=>
  clear h X;obtain⟨a,xs,rfl,hF,hl,rr⟩:=id r;refine uM hl.isList ?_;exact k _ (kk _) (bk _ rfl) ⟨a,r.mono (EE _),_,bk _ rfl,rfl,rfl⟩
 |ref a=>
  obtain⟨b,xs,e,hl,rr,_⟩:=di (σ:=σ) (v:= .ref a) (vs:=items) h X r;clear rr h EE X;cases r;cases e;refine uM hl.isList ?_;exact k _ (kk _) (bk _ rfl) ⟨_,bk _ rfl,rfl,rfl⟩
 |_=>clear X;exact bx h
theorem mG{I:aY}{x:V}{i:Nat}{items:List V}{v:V}{K:Option aD->aU->Prop}{E:aD->aU->Prop}(X:cN C P F σ s.heap)(fI:¬F I)(h:je C F s.heap I x i)(hs:dw σ x=some items\/kY x items σ/\∃τ,dw τ x=some items)
  (hv:items[i]?=some v) (k:∀y h' t,cy I s.heap h'->R C F h' v y->je C F h' I x (i+1)->K (some y) {s with heap:=h',toks:=t}):wpAny (bI C.prog C.w) A (tA (.ref I)) K E s:=by
 have EE:∀h',cy I s.heap h'->gX F s.heap F h':=λh' hs=>⟨λw_ x=>x,λa f o e=>(hs.2 a (λz=>fI (z▸f))).trans e⟩;have lst:∀us ax,d7 σ x=some us->us=items->R C F s.heap x (.ref ax)->s.heap.IsListIter I ax i->(∀h',cy I s.heap h'->h'.IsListIter I ax (i+1)->je C F h' I x (i+1))->wpAny (bI C.prog C.w) A (tA (.ref I)) K E s:=λus ax h1 h2 h3 h4 h5=>by
  clear hs;subst h2;obtain⟨b,xs,e,hl,rr,_⟩:=di h1 X h3;cases e;refine bJ (rr.get hv) λy hy ry=>?_;refine wpAny_pyNext_list_item h4 hl.isList (x:=y) (by exact eT.trans (hy)) λh' hit hsb=>?_;exact k y h' s.toks hsb (ry.mono (EE h' hsb)) (h5 h' hsb hit)
 have hs': (∃τ,dw τ x=some items):=hs.elim (λz=>⟨σ,z⟩) λz=>z.2;cases x with
 |range lo hi=>
  obtain⟨τ,hτ⟩:=hs';replace hτ:=(A9 hτ).2;subst hτ;clear EE X;obtain⟨hlt,rfl⟩:=CJ hv;refine wpAny_pyNext_range_item h (by lia) λh' hit hsb=>?_;refine k _ h' _ hsb ⟨_,rfl⟩ ?_;show vZ _ _ _ _ _;have e1:lo+((i+1:Nat):Int)=lo+(i:Int)+1:=by lia
  have e2: (((hi-lo).toNat:Int)- ((i+1:Nat):Int))=((hi-lo).toNat:Int)- (i:Int)-1:=by lia
  refine ao e1 (ao e2 ?_);exact hit
 |str z=>
  obtain⟨τ,hτ⟩:=hs';replace hτ:=(AO hτ).2;subst hτ;obtain⟨t,hit⟩:=h;rw[bb]at hv;clear EE X;refine oM hv ?_;rintro c hc rfl;refine wpAny_pyNext_ascii_item hit (c:=c) (by exact eT.trans (hc)) λh' hit' hsb=>?_;exact k _ h' _ hsb ⟨_,rfl⟩ ⟨t,hit'⟩
 |tup vs=>
  obtain⟨τ,hτ⟩:=hs';replace hτ:=ac hτ;subst hτ;refine bJ h λax r hit=>?_;clear h;obtain⟨a,xs,e,hF,ht,rr,_⟩:=id r;cases e;refine bJ (rr.get hv) λy hy ry=>?_;refine wpAny_pyNext_tuple_item hit ht (x:=y) (by exact eT.trans (hy)) λh' hit' hsb=>?_;exact k y h' s.toks hsb (ry.mono (EE h' hsb)) ⟨ax,r.mono (EE h' hsb),hit'⟩
 |list vs=>
  obtain⟨τ,hτ⟩:=hs';replace hτ:=ac hτ;subst hτ;refine bJ h λax r hit=>?_;clear h;exact lst _ ax rfl rfl r hit λh' hsb hit'=>⟨ax,r.mono (EE h' hsb),hit'⟩
 |ref a=>
  have hl:d7 σ (.ref a)=some items:=by
   rcases hs with hs|⟨hs,_⟩
   ·exact hs
   ·have hs:σ a=some (.list items):=hs
    exact congrArg (eJ · Ky) hs
  exact lst items a hl rfl rfl h λh' hsb hit'=>hit'
 |_=>exact h.elim
theorem oS{I:aY}{x:V}{items:List V}{K:Option aD->aU->Prop}{E:aD->aU->Prop}(hA:gF A d)(X:cN C P F σ s.heap)(h:je C F s.heap I x items.length)(hs:dw σ x=some items\/kY x items σ/\∃τ,dw τ x=some items)
  (k:∀h' t,CT I s.heap h'->K none {s with heap:=h',toks:=t}):wpAny (bI C.prog C.w) A (tA (.ref I)) K E s:=by
 have lst:∀us ax,d7 σ x=some us->us=items->R C F s.heap x (.ref ax)->s.heap.IsListIter I ax items.length->wpAny (bI C.prog C.w) A (tA (.ref I)) K E s:=λus ax h1 h2 h3 h4=>by
  clear hs h;subst h2;obtain⟨b,xs,e,hl,rr,_⟩:=di h1 X h3;cases e;refine wpAny_pyNext_list_end hA.1 h4 hl.isList (by have:=rr.length;simp[this]) λh' hsb=>k h' s.toks hsb
 have hs': (∃τ,dw τ x=some items):=hs.elim (λz=>⟨σ,z⟩) λz=>z.2;cases x with
 |range lo hi=>
  obtain⟨τ,hτ⟩:=hs';replace hτ:=(A9 hτ).2;subst hτ;rw[mP]at h;refine wpAny_pyNext_range_end hA.1 h (by lia) λh' hsb=>k h' s.toks hsb
 |str z=>
  obtain⟨τ,hτ⟩:=hs';replace hτ:=(AO hτ).2;subst hτ;obtain⟨t,hit⟩:=h;rw[ai]at hit;refine wpAny_pyNext_ascii_end hA.1 hit (by simp) λh' hsb=>k h' s.toks hsb
 |tup vs=>
  obtain⟨τ,hτ⟩:=hs';replace hτ:=ac hτ;subst hτ;refine bJ h λax r hit=>?_;clear h;obtain⟨a,xs,e,hF,ht,rr,_⟩:=id r;cases e;refine wpAny_pyNext_tuple_end hA.1 hit ht (by have:=rr.length;simp[this]) λh' hsb=>k h' s.toks hsb
 |list vs=>
  obtain⟨τ,hτ⟩:=hs';replace hτ:=ac hτ;subst hτ;refine bJ h λax r hit=>?_;clear h;exact lst _ ax rfl rfl r hit
 |ref a=>
  have hl:d7 σ (.ref a)=some items:=by
   rcases hs with hs|⟨hs,_⟩
   ·exact hs
   ·have hs:σ a=some (.list items):=hs
    exact congrArg (eJ · Ky) hs
  exact lst items a hl rfl rfl h
 |_=>exact h.elim
noncomputable def Pl(P:dQ)(l:List aY):dQ:=λa=>P a\/a∈l
theorem cN.prot(X:cN C P F σ h){a:aY}(p:P a):Oa C F σ h a:=by
 refine⟨λf=>X.fp a f p,λq=>(X.spx a q).2.1 p,?_,X.pal a p⟩;cases e:σ a with
 |none=>rfl
 |some m=>exact absurd p (X.obj a m e).nP
theorem cN.prot1(X:cN C P F σ h){l:List aY}(hp:∀a∈l,Oa C F σ h a):cN C (Pl P l) F σ h:=
 X.protect λa q=>q.elim (λp=>X.prot p) (hp a)
theorem cN.poke(X:cN C PP' F σ s.heap){F₀:dQ}{s₀:aU}{a:aY}(hsub:∀b,PP b->PP' b)(z:Aft C PP F₀ s₀ F σ s)(hs:cy a s.heap h')(p:PP' a)(np:¬PP a)(hl:∃o,h'.get? a=some o)(t:Nat):
  Aft C PP F₀ s₀ F σ {s with heap:=h',toks:=t}/\cN C PP' F σ h':=by
 obtain⟨fa,sa,na,_⟩:=X.prot p;have X':=X.out hs hl fa sa na;have k:∀b,b≠a->∀o,s.heap.get? b=some o->h'.get? b=some o:=λb hb o e=>(hs.2 b hb).trans e;refine⟨z.trans ⟨⟨h',t,rfl⟩,⟨λw_ x=>x,λb f o e=>k b (λq=>fa (q▸f)) o e⟩,λb f o e=>k b (λq=>np (q▸f)) o e,X'.sub hsub⟩,X'⟩
theorem FR.sub(X:FR C env ns PP F e8 h)(hp:∀a,PP a->PP' a):FR C env ns PP' F e8 h where
 glob:=X.glob
 blt:=X.blt
 kind:=X.kind
 gk:=X.gk
 loc:=by obtain⟨m,n,p,q⟩:=X.loc;exact⟨m,n,hp _ p,q⟩
 cel:=λx i k e z=>by
  obtain⟨q,c,y0,h1,h2,h3,h4⟩:=X.cel x i k e z;exact⟨q,c,y0,h1,h2.imp (hp c) id,h3,h4⟩
 apart:=X.apart
theorem FR.poke(X:FR C env ns PP F e8 h){a:aY}(hs:∀b,b≠a->∀o,h.get? b=some o->h'.get? b=some o)(np:¬PP a)(nf:¬F a):FR C env ns PP F e8 h' where
 glob:=X.glob
 blt:=X.blt
 kind:=X.kind
 gk:=X.gk
 loc:=by
  obtain⟨m,n,p,q⟩:=X.loc;have E:gX F h F h':=⟨λw_ x=>x,λb f o e=>hs b (λq=>nf (q▸f)) o e⟩;exact⟨m,sK n (hs _ λq=>np (q▸p)),p,λx i e=>⟨(q x i e).1,λv g=>let⟨y,e1,e2⟩:=(q x i e).2 v g;⟨y,e1,e2.mono E⟩⟩⟩
 cel:=λx i k e z=>by
  have E:gX F h F h':=⟨λw_ x=>x,λb f o e=>hs b (λq=>nf (q▸f)) o e⟩;obtain⟨q,c,y0,h1,h2,h3,h4⟩:=X.cel x i k e z;exact⟨q,c,y0,h1,h2,mH h3 (hs _ λq=>h2.elim (λp=>np (q▸p)) λf=>nf (q▸f)),λv g=>let⟨y,e1,e2⟩:=h4 v g;⟨y,e1,e2.mono E⟩⟩
 apart:=X.apart
theorem ge{j i:Nat}{v:V}:∀{e:bT} {i j:Nat},i≠j->nv (c8 e i v) j=nv e j:=by
 intro e
 induction e with
 |nil=>intro i j _;rfl
 |cons x r ih=>intro i j h;cases i with
  |zero=>cases j with
   |zero=>exact absurd rfl h
   |succ j=>rfl
  |succ i=>cases j with
   |zero=>rfl
   |succ j=>exact ih λq=>h (congrArg oY q)
theorem oP{v w:V}:∀{e:bT} {i:Nat},nv (c8 e i v) i=some w->w=v:=by
 intro e
 induction e with
 |nil=>exact λh=>bx h
 |cons x r ih=>intro i h;cases i with
  |zero=>exact(ac h).symm
  |succ i=>exact ih h
theorem oJ{n:Str}{q:cZ}{r:cD}{x:Str}{i:Nat}{k:cZ}{G:Prop}(h:cj ((n,q)::r) x=some (i,k))(a: (x==n)=true->i=0->k=q->G)(b:∀j,(x==n)=false->i=j+1->cj r x=some (j,k)->G):G:=by
 replace h: (if x==n then some (0,q)else(cj r x).map λp=>(p.1+1,p.2))=some (i,k):=h;cases e:x==n with
 |true=>rw[e]at h;exact a e (congrArg (·.1) (ac h)).symm (congrArg (·.2) (ac h)).symm
 |false=>
  rw[e]at h;refine oM h λp hp1 hp=>b p.1 e (congrArg (·.1) hp).symm ?_;exact hp1.trans (congrArg some (congrArg (EZ p.1) (congrArg (·.2) hp)))
theorem gS:∀{ns:cD} {x y:Str} {i:Nat} {k k':cZ},cj ns x=some (i,k)->cj ns y=some (i,k')->x=y:=by
 intro ns
 induction ns with
 |nil=>exact λh w_=>bx h
 |cons p r ih=>
  intro x y i k k' h h';refine oJ h (λe z w_=>oJ h' (λe' w_ w_=>(beq_iff_eq.mp e).trans (beq_iff_eq.mp e').symm) λj w_ z' w_=>absurd (z.symm.trans z') (gK j).symm) λj w_ z g=>oJ h' (λw_ z' w_=>absurd (z'.symm.trans z) (gK j).symm) λj' w_ z' g'=>?_;have e:j'=j:=cL (z'.symm.trans z);subst e;exact ih g g'
theorem cp:∀{ns:cD} {x:Str} {i:Nat} {k:cZ},cj ns x=some (i,k)->ns.lookup x=some k/\(x,k)∈ns:=by
 intro ns
 induction ns with
 |nil=>exact λh=>bx h
 |cons p r ih=>
  intro x i k h;obtain⟨n,q⟩:=p;refine oJ h (λe w_ z=>?_) λj e w_ g=>?_
  ·subst z;refine ao cz (ao e ⟨rfl,?_⟩);refine ao (beq_iff_eq.mp e) ?_;exact .head _
  ·refine ao cz (ao e ⟨(ih g).1,.tail _ (ih g).2⟩)
theorem FR.setLocal(X:FR C env ns PP F e8 h){x:Str}{i:Nat}{v:V}{y:aD}{m:Str->Option aD}(hx:cj ns x=some (i,.local))(hm0:h.Ns env.locals m)(hm:h'.Ns env.locals (λz=>if z=x then some y else m z))
  (hs:cy env.locals h h') (nf:¬F env.locals) (r:R C F h v y):FR C env ns PP F (c8 e8 i v) h':=by
 have E:gX F h F h':=⟨λw_ x=>x,λb f o e=>(hs.2 b λq=>nf (q▸f)).trans e⟩;refine⟨X.glob,X.blt,X.kind,X.gk,?_,λz j k e zz=>?_,X.apart⟩
 ·obtain⟨m',n,p,q⟩:=X.loc
  have hmm:m'=m:=by
   funext z;refine eR n λo es ep a1 a2 a3 a4=>?_;clear n;refine eR hm0 λo' es' ep' b1 b2 b3 b4=>?_;clear hm0;rw[a1]at b1;replace b1:=ac b1;subst b1;rw[a2]at b2;cases b2;exact dk (a4 z) (dk (b4 z) rfl)
  refine⟨_,hm,p,λz j e=>⟨(q z j e).1,λw g=>?_⟩⟩;by_cases hij:i=j
  ·subst hij
   have hzx:=gS e hx;clear e hm hx;subst hzx;cases oP g;exact⟨y,by simp,r.mono E⟩
  ·rw[ge (i:=i) (j:=j) hij]at g
   refine bJ ((q z j e).2 w g) λy' e1 e2=>?_;have hzx:z≠x:=by rintro rfl;rw[hx]at e;replace e:=ac e;cases e;exact hij rfl
   exact⟨y',by simp only[hzx,if_false];refine dk hmm ?_;exact e1,e2.mono E⟩
 ·obtain⟨q,c,y0,h1,h2,h3,h4⟩:=X.cel z j k e zz
  have hc:c≠env.locals:=by
   rintro rfl;refine nE hm0 ?_;clear hm0;intro o es ep a1 a2 _;refine bJ h3 λo' b1 b2=>?_;clear h3;rw[a1]at b1;replace b1:=ac b1;subst b1;rw[a2]at b2;cases b2
  have hij:i≠j:=by
   rintro rfl;have:=gS hx e;clear h1 q hm;subst this;rw[hx]at e;replace e:=ac e;cases e;rcases zz with zz|zz<;>cases zz
  exact⟨q,c,y0,h1,h2,h3.sameBut hs hc,λw g=>by
   rw[ge (i:=i) (j:=j) hij]at g;refine bJ (h4 w g) λy' e1 e2=>?_;exact⟨y',e1,e2.mono E⟩⟩
theorem FR.setCell(X:FR C env ns PP F e8 h){x:Str}{i:Nat}{v:V}{y:aD}{c:aY}(hx:cj ns x=some (i,.cell))(hc:env.cells.lookup x=some c)(hm:h'.IsCell c (some y))
  (hs:cy c h h') (nf:¬F c) (r:R C F h v y):FR C env ns PP F (c8 e8 i v) h':=by
 have E:gX F h F h':=⟨λw_ x=>x,λb f o e=>(hs.2 b λq=>nf (q▸f)).trans e⟩;obtain⟨q0,c0,y0,p1,p2,p3,p4⟩:=X.cel x i .cell hx (.inl rfl);rw[hc]at p1;replace p1:=ac p1;subst p1;refine⟨X.glob,X.blt,X.kind,X.gk,?_,λz j k e zz=>?_,X.apart⟩
 ·obtain⟨m,n,p,q⟩:=X.loc
  have hcl:env.locals≠c:=by
   rintro rfl;refine nE n ?_;clear n;intro o es ep a1 a2 _;refine bJ p3 λo' b1 b2=>?_;clear p3;rw[a1]at b1;replace b1:=ac b1;subst b1;rw[a2]at b2;cases b2
  refine⟨m,n.sameBut hs hcl,p,λz j e=>⟨(q z j e).1,λw g=>?_⟩⟩;have hij:i≠j:=by
   rintro rfl;have:=gS hx e;clear q0 hc;subst this;rw[hx]at e;replace e:=ac e;cases e
  rw[ge (i:=i) (j:=j) hij]at g;refine bJ ((q z j e).2 w g) λy' e1 e2=>?_;exact⟨y',e1,e2.mono E⟩
 ·obtain⟨q,c',y0',h1,h2,h3,h4⟩:=X.cel z j k e zz
  by_cases hij:i=j
  ·clear h4 p4;subst hij
   have hzx:=gS e hx;clear e q0 hx;subst hzx;rw[hc]at h1;replace h1:=ac h1;subst h1;exact⟨q,c,some y,hc,h2,hm,λw g=>by cases oP g;exact⟨y,rfl,r.mono E⟩⟩
  ·have hcc:c'≠c:=by
    rintro rfl;have:=X.apart _ _ _ h1 hc;clear hc h1 q q0;subst this;rw[hx]at e;replace e:=ac e;cases e;exact hij rfl
   exact⟨q,c',y0',h1,h2,h3.sameBut hs hcc,λw g=>by
    rw[ge (i:=i) (j:=j) hij]at g;refine bJ (h4 w g) λy' e1 e2=>?_;exact⟨y',e1,e2.mono E⟩⟩
noncomputable def mR(env:o7)(p:Str×cZ)(acc:List (Str×aY)):List (Str×aY):=if p.2== .free then(match env.cells.lookup p.1 with|some c=>(p.1,c)::acc|none=>acc)else acc
noncomputable def mw(env:o7):cD->List (Str×aY)->List (Str×aY)
 |[],acc=>acc
 |p::r,acc=>mw env r (mR env p acc)
theorem t9{p:Str×cZ}{acc:List (Str×aY)}{c:aY}(hk: (p.2== .free)=true)(hc:env.cells.lookup p.1=some c):mR env p acc=(p.1,c)::acc:=by
 unfold mR;exact ao (if_pos hk) (ao hc rfl)
theorem ua{p:Str×cZ}{acc:List (Str×aY)}(hk:¬(p.2== .free)=true):mR env p acc=acc:=if_neg hk
theorem jh{scope:Scope}(hf:∀p∈scope.names,p.2= .free->∃c,env.cells.lookup p.1=some c):jC scope env=dD (mw env scope.names []):=by
 unfold jC;have key:∀(names:cD) (acc:List (Str×aY)) (f:Str×cZ->List (Str×aY)->uU (ForInStep (List (Str×aY)))),
   (∀n k cs,f (n,k) cs=if k== .free then(do let a <- cellOf env n;dD (.yield ((n,a)::cs)))else dD (.yield cs))->(∀p∈names,p.2= .free->∃c,env.cells.lookup p.1=some c)->
   forIn names acc f=dD (mw env names acc):=by
  intro names
  induction names with
  |nil=>intro acc f _ _;rfl
  |cons p r ih=>
   intro acc f hf hq;obtain⟨n,k⟩:=p;rw[wZ,hf];show _=dD (mw env r (mR env (n,k) acc));have hr:∀p∈r,p.2= .free->∃c,env.cells.lookup p.1=some c:=λp hp=>hq p (.tail _ hp);by_cases hk: (k== .free)=true
   ·obtain⟨c,hc⟩:=hq (n,k) (.head _) (beq_iff_eq.mp hk)
    refine ao (if_pos hk) (ao (t9 hk hc) ?_);dsimp only at hc;simp only[cellOf,hc];exact ih _ f hf hr
   ·refine ao (if_neg hk) (ao (ua hk) ?_)
    exact ih _ f hf hr
 have hk:=key scope.names [] (λx r=>match x with|(name,kind)=>if kind== .free then(do let a <- cellOf env name;dD (.yield ((name,a)::r)))else dD (.yield r)) (λn k cs=>rfl) hf;exact(congrArg (· >>=λr=>dD r) hk).trans rfl
theorem EP{n:Str}{c:aY}{acc:List (Str×aY)}{x:Str}{G:Prop}(a:x=n->((n,c)::acc).lookup x=some c->G)(b: ((n,c)::acc).lookup x=acc.lookup x->G):G:=by
 cases q:x==n with
 |true=>exact a (beq_iff_eq.mp q) (ao cz (ao q rfl))
 |false=>exact b (ao cz (ao q rfl))
theorem CP(names:cD)(acc:List (Str×aY))(h:∀x c,acc.lookup x=some c->env.cells.lookup x=some c)(hq:∀p∈names,p.2= .free->∃c,env.cells.lookup p.1=some c):
  (∀x c,(mw env names acc).lookup x=some c->env.cells.lookup x=some c)/\∀x,((x,sO)∈names\/(acc.lookup x).isSome=true)->((mw env names acc).lookup x).isSome=true:=by
 constructor
 ·clear hq
  induction names generalizing acc with
  |nil=>exact h
  |cons p r ih=>
   refine ih (mR env p acc) λx c e=>?_;by_cases hk: (p.2== .free)=true
   ·cases hc:env.cells.lookup p.1 with
    |none=>rw[show mR env p acc=acc by unfold mR;exact ao (if_pos hk) (ao hc rfl)]at e;exact h x c e
    |some c'=>rw[t9 hk hc]at e;exact EP (λz g=>by rw[z];exact hc.trans (g.symm.trans e)) λg=>h x c (g.symm.trans e)
   ·rw[ua hk]at e;exact h x c e
 ·clear h
  intro x
  induction names generalizing acc with
  |nil=>exact λe=>e.elim (λq=>nomatch q) id
  |cons p r ih=>
   intro e;have hr:∀p∈r,p.2= .free->∃c,env.cells.lookup p.1=some c:=λp hp=>hq p (.tail _ hp);refine ih (mR env p acc) hr ?_;by_cases hk: (p.2== .free)=true
   ·obtain⟨c,hc⟩:=hq p (.head _) (beq_iff_eq.mp hk)
    refine ao (t9 hk hc) ?_;refine e.elim (λe=>(a9.mp e).elim (λe=> .inr ?_) .inl) λe=> .inr ?_
    ·exact EP (λw_ g=>ao g rfl) λg=>ao (cz ..) (ao (show(x==p.1)=true by rw[<- e];exact beq_self_eq_true x) rfl)
    ·exact EP (λw_ g=>ao g rfl) λg=>ao g e
   ·refine ao (ua hk) (e.imp (λe=>(a9.mp e).elim (λe=>?_) id) id)
    exact absurd (by rw[<- e];rfl) hk
theorem Du{f:Str->cZ->cZ}{names:cD}{x:Str}{k:cZ}:names.lookup x=some k->(names.map λp=>(p.1,f p.1 p.2)).lookup x=some (f x k):=by
 induction names with
 |nil=>exact λh=>bx h
 |cons p r ih=>
  intro h;obtain⟨n,q⟩:=p;rw[cz]at h;refine ao bC (ao cz ?_);dsimp only;cases e:x==n with
  |true=>rw[e]at h;replace h:=ac h;subst h;exact ao (beq_iff_eq.mp e) rfl
  |false=>rw[e]at h;exact ih h
theorem pz{scope:Scope}{cl:List (Str×aY)}{D:aY}{x:Str}{k:cZ}(h:scope.names.lookup x=some k):
  (rG scope cl D env).kindOf x=some (if(k== .free && env.scope.kind== .function && env.kindOf x==some .cell)then .cell else k):=by
 have:=Du (f:=λn k=>if(k== .free && env.scope.kind== .function && env.kindOf n==some .cell)then .cell else k) h;refine dk this ?_;show rq x (scope.names.map _)=_;congr 1;apply dA;intro p _;obtain⟨n,q⟩:=p;dsimp only;split<;>rfl
theorem yj{outer names:cD}:∀{x:Str} {i:Nat} {k:cZ},cj names x=some (i,k)->(hY outer names)[i]?=some (match k with| .free=>cB outer x|_=>none):=by
 induction names with
 |nil=>exact λh=>bx h
 |cons p r ih=>
  intro x i k h;obtain⟨n,q⟩:=p;refine oJ h (λe z z'=>?_) λj e z g=>?_
  ·subst z z';refine ao (beq_iff_eq.mp e) ?_;rfl
  ·subst z;exact ih g
theorem Ci{caps:List (Option Nat)}:∀{i:Nat} {v:V},nv (oN caps e8) i=some v->∃j,caps[i]?=some (some j)/\nv e8 j=some v:=by
 unfold oN
 induction caps with
 |nil=>intro i v h;exact bx h
 |cons c r ih=>
  intro i v h;cases i with
  |zero=>
   rw[bC]at h;cases c with
   |none=>clear ih;exact bx h
   |some j=>exact⟨j,rfl,h⟩
  |succ i=>
   rw[bC]at h;exact ih h
set_option tactic.hygienic true in
theorem jq{sc:Scope}(g:dL ns sc=true):sc.kind= .function/\∀p∈sc.names,p.2≠ .cell/\sc.names.lookup p.1=some p.2/\
  (p.2= .free->(∃i k,cj ns p.1=some (i,k)/\(k= .cell\/k= .free))/\(p.1==ae "__classdict__")=false):=by
 unfold dL at g;rw[bD]at g;refine⟨?_,λp hp=>?_⟩
 ·cases e:sc.kind<;>rw[e]at g<;>first|rfl|(cases g.1)
 ·have:=c3.mp g.2 p hp
  simp only[bD,bne_iff_ne,ne_eq,beq_iff_eq,fE,c6]at this;obtain⟨⟨a,b⟩,c⟩:=this;refine⟨a,b,λhf=>?_⟩;rcases c with c|⟨c,c'⟩
  ·exact absurd hf c
  ·refine⟨?_,by exact c'⟩
   cases q:cj ns p.1 with
   |none=>rw[q]at c;exact mj c
   |some x=>rw[q]at c;exact⟨x.1,x.2,rfl,(ma.mp c).imp beq_iff_eq.mp beq_iff_eq.mp⟩
theorem FR.inner(X:FR C env ns PP F e8 h){sc:Scope}(g:dL ns sc=true){D:aY}(hD:h.Ns D λw_=>none):
  jC sc env=dD (mw env sc.names [])/\FR C (rG sc (mw env sc.names []) D env) sc.names (Pl PP [D]) F (oN (hY ns sc.names) e8) h:=by
 obtain⟨hk,hn⟩:=jq g;have hfree:∀p∈sc.names,p.2= .free->∃c,env.cells.lookup p.1=some c:=λp hp hf=>by
  obtain⟨⟨i,k,e,z⟩,_⟩:=(hn p hp).2.2 hf;obtain⟨_,c,y0,h1,_⟩:=X.cel _ i k e z;exact⟨c,h1⟩
 obtain⟨cl1,cl2⟩:=CP (env:=env) sc.names [] (λx c e=>by exact bx e) hfree;refine⟨jh hfree,X.glob,X.blt,hk,λx i e=>?_,⟨_,hD,.inr (by simp[rG]),λx i e=>⟨?_,λv gv=>?_⟩⟩,λx i k e z=>?_,λx y c e e'=>X.apart x y c (cl1 x c e) (cl1 y c e')⟩
 ·refine ao (pz (cp e).1) ?_;rfl
 ·refine ao (pz (cp e).1) ?_;rfl
 ·refine bJ (Ci gv) ?_;intro j h1 _
  rw[yj e]at h1;replace h1:=ac h1;exact bx h1
 ·have hk':k= .free:=by
   rcases z with rfl|rfl
   ·exact absurd rfl ((hn _ (cp e).2).1)
   ·rfl
  clear z;subst hk';obtain⟨⟨i',k',e',z'⟩,hcd⟩:=(hn _ (cp e).2).2.2 rfl;obtain⟨q,c,y0,h1,h2,h3,h4⟩:=X.cel _ i' k' e' z';have hc: (mw env sc.names []).lookup x=some c:=by
   obtain⟨c',hc'⟩:=gC.mp (cl2 x (.inl (cp e).2));have:=cl1 _ _ hc';rw[h1]at this;replace this:=ac this;subst this;exact hc'
  refine⟨?_,c,y0,hc,h2.imp .inl id,h3,λv gv=>?_⟩
  ·refine ao (pz (cp e).1) ?_
   split
   ·exact .inl rfl
   ·exact .inr ⟨rfl,hcd⟩
  ·refine bJ (Ci gv) λj g1 g2=>?_
   rw[yj e]at g1;have:cB ns x=some i':=by
    unfold cB;refine ao e' ?_;rcases z' with rfl|rfl<;>rfl
   rw[this]at g1;replace g1:=ac g1;replace g1:=ac g1;subst g1;exact h4 v g2
noncomputable def JE(ifs:List Expr)(env:o7):uU Bool:=forIn ifs true λc r=>if r=true then do let ok <- isTrue c env (bS c env);dD (w0 ok)else dD (w0 r)
noncomputable def tQ(C:Cx)(d:Nat)(env:o7)(ns:cD)(PP:dQ)(ifs:List Expr)(es:List IE):Prop:=
 ∀e8 σ Q A F s,gF A d->cN C PP F σ s.heap->FR C env ns PP F e8 s.heap->GX C d es e8 σ Q->Cn C A PP F RB (JE ifs env) Q s
theorem oD{env:o7}(h:env.scope.kind= .function): (env.scope.kind== .class||(env.scope.kind== .module && env.locals !=env.globals))=false:=by refine ao h ?_;rfl
inductive KE(C:Cx)(PP PQ F₀:dQ)(s₀:aU)(cenv:o7)(nm:cD)(I D:aY)(xv:V)(items:List V)(Z:List V->List V->bT->AH->Prop)(n:Nat)(s:aU):Prop
 |mk (F:dQ) (σ:AH) (e8:bT) (i:Nat) (acc:List V) (xs:List aD) (h1:n=items.length-i) (h2:i<=items.length) (h3:acc.length<=16777216) (h4:Aft C PP F₀ s₀ F σ s) (h5:cN C (Pl PP [cenv.locals,I,D]) F σ s.heap) (h6:FR C cenv nm (Pl PQ [cenv.locals]) F e8 s.heap) (h7:je C F s.heap I xv i)
   (h8:s.heap.PlainList D (bu xs)) (h9:RL C F s.heap acc xs) (h10:Z (items.drop i) acc e8 σ):KE C PP PQ F₀ s₀ cenv nm I D xv items Z n s
theorem Fy{elt iter:Expr}{x:Str}{px:hU}{ifs:List Expr}{scope:Scope}{pos:hU}{cenv:o7}{I D:aY}{ielt:IE}{iifs:List IE}{t:Nat}{xv:V}{items:List V}{Q:V->AH->Prop}{Rr:yN->aU->Prop}{F₀:dQ}{s₀:aU}
  (hx:cj scope.names x=some (t,.local)) (helt:∀PP',EvalOk C d cenv scope.names PP' (bS elt cenv) ielt) (htests:∀PP',tQ C d cenv scope.names PP' ifs iifs) (hA:gF A d)
  (hID:I≠D) (hIL:I≠cenv.locals) (hDL:D≠cenv.locals) (nI:¬PP I) (nD:¬PP D) (nL:¬PP cenv.locals) (hτ:∃τ,dw τ xv=some items)
  (hR:∀F σ s₁ m acc xs,Aft C PP F₀ s₀ F σ s₁->cN C (Pl PP [cenv.locals,D]) F σ s₁.heap->s₁.heap.Ns cenv.locals m->s₁.heap.PlainList D (bu xs)->RL C F s₁.heap acc xs->jU acc σ Q->Rr (.ok .next) s₁):
  ∀(n:Nat) (s:aU),(KE C PP PP F₀ s₀ cenv scope.names I D xv items (λl acc e8 σ=>compLoop (ig C d ielt) (GX C d iifs) (c8 · t) xv items Q l acc e8 σ) n s)->
  codeAny (bI C.prog C.w) A (.compLoop (.ListComp elt [⟨.Name x px,iter,ifs,0⟩] scope pos) 0 (.ref I) (.ref D) cenv) Rr s:=by
 intro n s hI;refine codeAny_compLoop_tests (λn s=>KE C PP PP F₀ s₀ cenv scope.names I D xv items (λl acc e8 σ=>compLoop (ig C d ielt) (GX C d iifs) (c8 · t) xv items Q l acc e8 σ) n s) ?_ n hI;clear hI n s;rintro n s ⟨F,σ,e8,i,acc,xs,rfl,hi,hacc,a,X,Y,it,hl,rr,W⟩;have sub1:∀b,Pl PP [cenv.locals] b->Pl PP [cenv.locals,I,D] b:=λb h=>h.imp id λq=>by simp at q ⊢;exact .inl q
 have subP:∀b,PP b->Pl PP [cenv.locals,I,D] b:=λb h=> .inl h;have pI:Pl PP [cenv.locals,I,D] I:= .inr (by exact .tail _ (.head _));have pD:Pl PP [cenv.locals,I,D] D:= .inr (by exact .tail _ (.tail _ (.head _)));have pL:Pl PP [cenv.locals,I,D] cenv.locals:= .inr (by exact .head _);have n1I:¬Pl PP [cenv.locals] I:=λq=>q.elim nI λq=>by simp at q;exact hIL q
 have n1D:¬Pl PP [cenv.locals] D:=λq=>q.elim nD λq=>by simp at q;exact hDL q
 obtain⟨fI,sI,σI,_⟩:=X.prot pI;obtain⟨fD,sD,σD,_⟩:=X.prot pD;obtain⟨fL,sL,σL,_⟩:=X.prot pL;by_cases hlt:i<items.length
 ·obtain⟨v,hv⟩:∃v,items[i]?=some v:=⟨_,ah hlt⟩
  have hdrop:items.drop i=v::items.drop (i+1):=by
   refine ao (cc hlt) ?_;rw[ah hlt]at hv;replace hv:=ac hv;subst hv;rfl
  rw[hdrop]at W;obtain⟨ws,W⟩:=W;refine mG X fI it (.inr ⟨ws,hτ⟩) hv λy cR gP fO ry cH=>?_;have lI:∃o,cR.get? I=some o:=by
   clear W ws it hτ;cases xv<;>first|exact⟨_,cH⟩|((first|refine lk cH ?_;clear cH;intro _ o e _|refine d4 cH ?_;clear cH;intro _ o e _|obtain⟨_,o,e,_⟩:=cH);exact⟨o,e⟩)|(obtain⟨_,_,o,e,_⟩:=cH;exact⟨o,e⟩)|((first|refine bJ cH ?_;clear cH;intro o e _|obtain⟨o,e,_⟩:=cH);exact⟨o,e⟩)|exact cH.elim
  obtain⟨bp,eV⟩:=X.poke subP a fO pI nI lI gP;have eW:∀b,b≠I->∀o,s.heap.get? b=some o->cR.get? b=some o:=λb hb o e=>(fO.2 b hb).trans e;have lK:gX F s.heap F cR:=⟨λw_ x=>x,λb f o e=>eW b (λq=>fI (q▸f)) o e⟩;have p9:FR C cenv scope.names (Pl PP [cenv.locals]) F e8 cR:=Y.poke eW n1I fI;have wi:cR.PlainList D xs.toArray:=hl.at λo e=>eW D (aV hID) o e;have wj:=rr.mono lK;obtain⟨m,hm,_,qloc⟩:=p9.loc;refine eB (fY ((qloc x t hx).1) hm (λcA nV kz=>?_) (oD Y.kind));have lL:∃o,cA.get? cenv.locals=some o:=let⟨o,_,_,e,_⟩:=nV;⟨o,e⟩;obtain⟨b8,iD⟩:=(show cN C (Pl PP [cenv.locals,I,D]) F σ ({s with heap:=cR,toks:=gP}:aU).heap from eV).poke subP bp kz pL nL lL (gP+1);have pv:∀b,b≠cenv.locals->∀o,cR.get? b=some o->cA.get? b=some o:=λb hb o e=>(kz.2 b hb).trans e;have nz:gX F cR F cA:=⟨λw_ x=>x,λb f o e=>pv b (λq=>fL (q▸f)) o e⟩;have l6:FR C cenv scope.names (Pl PP [cenv.locals]) F (c8 e8 t v) cA:=p9.setLocal hx hm nV kz fL ry;have wm:cA.PlainList D xs.toArray:=wi.at λo e=>pv D hDL o e;have wn:=wj.mono nz;have nW:je C F cA I xv (i+1):=cH.keep nz λo e=>pv I hIL o e;refine(htests _ (c8 e8 t v) σ _ A F {s with heap:=cA,toks:=gP+1} hA iD (l6.sub sub1) W).use ?_;rintro b ok l7 kA iP dS rfl rL;have wo:iP.heap.PlainList D xs.toArray:=wm.at (dS.keep D pD);have wp:=wn.mono dS.ext;have qo:je C l7 iP.heap I xv (i+1):=nW.keep dS.ext (dS.keep I pI);have qp:Aft C PP F₀ s₀ l7 kA iP:=b8.trans (dS.sub subP);have tE:=(show FR C cenv scope.names (Pl PP [cenv.locals]) F (c8 e8 t v) ({s with heap:=cA,toks:=gP+1}:aU).heap from l6).step (dS.sub sub1);cases b with
  |true=>
   refine ao (if_pos rfl) ?_;refine(helt _ (c8 e8 t v) kA _ A l7 iP hA dS.rep (tE.sub sub1) (rL.1 rfl)).use ?_;rintro u z oz qr kO eI ru ⟨hz,y5⟩;have C0:kO.heap.PlainList D xs.toArray:=wo.at (eI.keep D pD);have y6:=wp.mono eI.ext;have nX:je C oz kO.heap I xv (i+1):=qo.keep eI.ext (eI.keep I pI);have rM:Aft C PP F₀ s₀ oz qr kO:=qp.trans (eI.sub subP);have tF:=tE.step (eI.sub sub1);refine jS C0 (λC1 sU wq=>?_) (by refine ao cW (ao bB (dk y6.length ?_));exact hacc);obtain⟨wr,_,_,_⟩:=eI.rep.prot pD;have y7:∀b,b≠D->∀o,kO.heap.get? b=some o->C1.get? b=some o:=λb hb o e=>(wq.2 b hb).trans e;have C2:gX oz kO.heap oz C1:=⟨λw_ x=>x,λb f o e=>y7 b (λq=>wr (q▸f)) o e⟩;obtain⟨mD,nA⟩:=eI.rep.poke subP rM wq pD nD (let⟨_,e⟩:=sU;⟨_,e⟩) kO.toks;refine⟨items.length- (i+1),by exact ir (nat_lit 0x358245104721896190242) rfl (ar (bt (nat_lit 0x2b048a158241) rfl hlt)) (ar (bt (nat_lit 0x2028401) rfl hi)),oz,qr,c8 e8 t v,i+1,acc++[u],xs++[z],rfl,hlt,by refine ao aC ?_;exact hz,mD,nA,tF.poke y7 n1D wr,nX.keep C2 λo e=>y7 I hID o e,?_,(y6.snoc ru).mono C2,y5⟩;have e:bu (xs++[z])=(bu xs).push z:=by simp
   refine ao e ?_;exact sU
  |false=>
   refine ao (if_neg (by decide)) ?_;exact⟨items.length- (i+1),by exact ir (nat_lit 0x358245104721896190242) rfl (ar (bt (nat_lit 0x2b048a158241) rfl hlt)) (ar (bt (nat_lit 0x2028401) rfl hi)),l7,kA,c8 e8 t v,i+1,acc,xs,rfl,hlt,hacc,qp,dS.rep,tE,qo,wo,wp,rL.2 rfl⟩
 ·have hie:i=items.length:=by exact aN (bt (nat_lit 0x2028401) rfl hi) (bt (nat_lit 0x4a158244) rfl hlt)
  clear hlt hi;subst hie;rw[gL]at W;obtain⟨ws,W⟩:=W;refine oS hA X it (.inr ⟨ws,hτ⟩) λcR gP fO=>?_;have eW:=kD fO;have lK:gX F s.heap F cR:=⟨λw_ x=>x,λb f o e=>eW b (λq=>fI (q▸f)) o e⟩;have X':cN C (Pl PP [cenv.locals,D]) F σ s.heap:=X.sub λb h=>h.imp id λq=>by simp at q ⊢;exact q.elim .inl λq=> .inr (.inr q)
  have nI':¬Pl PP [cenv.locals,D] I:=λq=>q.elim nI λq=>by simp at q;exact q.elim hIL hID
  have eV:=X'.outE eW fI nI' sI σI;obtain⟨m,hm,_,_⟩:=Y.loc;refine hR F σ _ m acc xs (a.trans ⟨⟨cR,gP,rfl⟩,lK,λb p o e=>eW b (λq=>nI (q▸p)) o e,eV.sub λb h=> .inl h⟩) eV (sK hm λo e=>eW _ (aV hIL) o e) (hl.at λo e=>eW D (aV hID) o e) (rr.mono lK) W
theorem rP{I:aY}{x:V}{i:Nat}{K:aD->aU->Prop}{E:aD->aU->Prop}(h:je C F s.heap I x i)(k:K (.ref I) s):wpAny (bI C.prog C.w) A (Bz (.ref I)) K E s:=by
 cases x with
 |range lo hi=>exact wpAny_pyIter_rangeiter h k
 |str z=>obtain⟨t,hit⟩:=h;exact wpAny_pyIter_striter_ascii hit k
 |tup vs=>refine bJ h λax r hit=>?_;clear h;exact wpAny_pyIter_tupleiter hit k
 |list vs=>refine bJ h λax r hit=>?_;clear h;exact qy hit k
 |ref a=>exact qy h k
 |_=>exact h.elim
set_option tactic.hygienic true in
theorem z9{elt iter:Expr}{x:Str}{px:hU}{ifs:List Expr}{sc:Scope}{pos ipos:hU}{iit ielt:IE}{iifs:List IE}{t:Nat}{Q:V->AH->Prop}{use:Option (aD->uU Unit)}{K:aD->aU->Prop}{E:aD->aU->Prop}
  (g:dL ns sc=true) (hx:fk sc.names x=some t) (hit:EvalOk C d env ns PP (bS iter env) iit) (helt:∀cenv PP',EvalOk C d cenv sc.names PP' (bS elt cenv) ielt) (htests:∀cenv PP',tQ C d cenv sc.names PP' ifs iifs)
  (hf:∀x,bW iter env x=dD x) (hA:gF A d) (X:cN C PP F σ s.heap) (Y:FR C env ns PP F e8 s.heap) (W:ig C d (.comp (hY ns sc.names) t iit iifs ielt) e8 σ Q)
  (h0:use=none->∀v y bz bj s₁,Aft C PP F s bz bj s₁->R C bz s₁.heap v y->Q v bj->K y s₁)
  (h1:∀u,use=some u->∀v y bz bj s₁ L' m,Aft C PP F s bz bj s₁->R C bz s₁.heap v y->Q v bj->s₁.heap.Ns L' m->¬PP L'->¬bz L'->¬C.sp L'->bj L'=none->
   wpAny (bI C.prog C.w) A (u y) (λw_ dv=>∃m,dv.heap.Ns L' m/\∀h',cy L' dv.heap h'->K .none {dv with heap:=h'}) E s₁):
  wpAny (bI C.prog C.w) A (sP (.ListComp elt [⟨.Name x px,iter,ifs,0⟩] sc pos) sc env ipos (newList []) false (bS iter env) use) K E s:=by
 obtain⟨hk,hn⟩:=jq g;have hxl:cj sc.names x=some (t,.local):=pF hx;have hclos:jC sc env=dD (mw env sc.names []):=by
  obtain⟨m,n,_⟩:=Y.loc;refine jh λp hp hf=>?_;obtain⟨⟨i,k,e,z⟩,_⟩:=(hn p hp).2.2 hf;obtain⟨_,c,y0,h1,_⟩:=Y.cel _ i k e z;exact⟨c,h1⟩
 refine jm (g:=⟨.Name x px,iter,ifs,0⟩) (gs:=[]) (cl:=mw env sc.names []) rfl hf hclos hk (λp hp hl=>by exact ao ((hn p hp).2.1) (ao hl rfl)) ?_;refine(hit e8 σ _ A F s hA X Y W).use ?_;intro xv y bz bj s₁ bp eD cY;refine oX cY λitems hitems cY=>?_;refine kI bp.rep eD hitems λo ko go it=>?_;refine ji ?_ (by refine ao cW ?_;exact bg _);refine iO (λp hp=>(hn p hp).1) (by intro y hy;simp at hy) (λgD hns hsb=>?_) hk;dsimp only at hns hsb ⊢;generalize hI:s₁.heap.objs.size=I at*;generalize hH2:s₁.heap.push o=H2 at*;have e2:H2.objs.size=I+1:=by refine dk hH2 ?_;rewrite[eA];refine ao hI ?_;with_reducible rfl
 generalize hH3:H2.push {cls:= .type "list",data:= .seq (bu ([]:List aD))}=H3 at*;have e3:H3.objs.size=I+2:=by refine dk hH3 ?_;rewrite[eA];refine ao e2 ?_;with_reducible rfl
 rw[e3]at hns hsb ⊢;refine ao e2 ?_;have none_of:∀b,I<=b->s₁.heap.get? b=none:=λb hb=>by
  cases q:s₁.heap.get? b with
  |none=>rfl
  |some o'=>exact absurd (bY q) (by refine ao hI ?_;exact iM.mpr hb)
 have k3:∀b o',H2.get? b=some o'->H3.get? b=some o':=λb o' e=>by refine dk hH3 ?_;exact aQ _ e
 have k4:∀b o',H3.get? b=some o'->gD.get? b=some o':=λb o' e=>hsb.extBut b o' (by have:=bY e;rw[e3]at this;exact ce this) (aQ _ e);have k:∀b o',s₁.heap.get? b=some o'->gD.get? b=some o':=λb o' e=>k4 b o' (k3 b o' (ko b o' e));have hD4:gD.PlainList (I+1) (bu []):=⟨0,k4 _ _ (by refine dk hH3 (dk e2 ?_);exact bk _ rfl)⟩;have eI:Aft C PP bz s₁ bz bj {s₁ with heap:=gD,toks:=s₁.toks+0}:=Aft.grow bp.rep k;have fr:∀b,I<=b->¬bz b/\¬C.sp b/\bj b=none/\¬PP b:=λb hb=>⟨bp.rep.fresh_F (none_of b hb),bp.rep.fresh_sp (none_of b hb),bp.rep.fresh_σ (none_of b hb),bp.rep.fresh_P (none_of b hb)⟩;have hns':gD.Ns (I+2) λw_=>none:=hns;have tF:FR C env ns PP bz e8 gD:=(Y.step bp).step eI;have BD:=(tF.inner g hns').2;have sx:cN C (Pl PP [I+2,I,I+1]) bz bj gD:=eI.rep.prot1 λb hb=>by
  have hb':I<=b/\∃o,gD.get? b=some o:=by
   simp only[a9,dN,or_false]at hb;rcases hb with rfl|rfl|rfl
   ·refine kC hns' ?_;clear hns';intro o' _ _ e _;exact⟨bE _ _,o',e⟩
   ·exact⟨aG _,o,k4 _ _ (k3 _ _ go)⟩
   ·obtain⟨_,e⟩:=hD4;exact⟨bE _ _,_,e⟩
  exact⟨(fr b hb'.1).1,(fr b hb'.1).2.1,(fr b hb'.1).2.2.1,hb'.2⟩
 have E4:gX bz H2 bz gD:=⟨λw_ x=>x,λb w_ o' e=>k4 b o' (k3 b o' e)⟩;have nX:je C bz gD I xv 0:=it.keep E4 λo' e=>k4 _ _ (k3 _ _ e);have rM:Aft C PP F s bz bj {s₁ with heap:=gD,toks:=s₁.toks+0}:=bp.trans eI;have Rr:∀(cenv:o7),cenv=rG sc (mw env sc.names []) (I+2) env->codeAny (bI C.prog C.w) A (.compLoop (.ListComp elt [⟨.Name x px,iter,ifs,0⟩] sc pos) 0 (.ref I) (.ref (I+1)) cenv)
   (rH (bI C.prog C.w) A E use K (.ref (I+1)) (I+2)) {s₁ with heap:=gD,toks:=s₁.toks+0}:=by
  rintro cenv rfl;refine Fy (PP:=PP) (F₀:=F) (s₀:=s) (Q:=Q) (items:=items) (xv:=xv) hxl (helt _) (htests _) hA (ce (bR _)) (ce (jT (by decide))) (ce (bR _))
   (fr I (aG _)).2.2.2 (fr (I+1) (bE _ _)).2.2.2 (fr (I+2) (bE _ _)).2.2.2 ⟨bj,hitems⟩ (λtG qs g9 m acc xs mD nA hm hl rr nw=>?_) (items.length-0) _
   ⟨bz,bj,_,0,[],[],rfl,bg _,bg _,rM,sx,BD,nX,hD4,trivial,cY⟩
  have pD:Pl PP [I+2,I+1] (I+1):= .inr (by exact .tail _ (.head _));have pL:Pl PP [I+2,I+1] (I+2):= .inr (by exact .head _);obtain⟨fD,sD,σD,_⟩:=nA.prot pD;obtain⟨fL,sL,σL,_⟩:=nA.prot pL;have nD:¬Pl PP [I+2] (I+1):=λq=>q.elim (fr (I+1) (bE _ _)).2.2.2 λq=>by simp at q
  have Iq:cN C (Pl PP [I+2]) tG qs g9.heap:=nA.sub λb q=>q.imp id λq=>by simp at q ⊢;exact .inl q
  obtain⟨v,mE,mi,uT,C3,C4⟩:=yH nw Iq rr fD nD sD σD hl;have nq:Aft C PP F s mE mi g9:=mD.trans (uT.sub λb q=> .inl q);obtain⟨fL',sL',σL',_⟩:=uT.rep.prot (a:=I+2) (.inr (by exact .head _));have nL:=(fr (I+2) (bE _ _)).2.2.2;unfold rH;cases use with
  |none=>
   refine⟨m,hm,λh' hs'=>?_⟩;have kk:∀b,b≠I+2->∀o,g9.heap.get? b=some o->h'.get? b=some o:=λb hb o e=>(hs'.2 b hb).trans e;have C5:gX mE g9.heap mE h':=⟨λw_ x=>x,λb f o e=>kk b (λq=>fL' (q▸f)) o e⟩;exact h0 rfl v _ mE mi {g9 with heap:=h'} (nq.trans ⟨⟨h',g9.toks,rfl⟩,C5,λb p o e=>kk b (λq=>nL (q▸p)) o e,nq.rep.outE kk fL' nL sL' σL'⟩) (C3.mono C5) C4
  |some u=>exact h1 u rfl v _ mE mi g9 (I+2) m nq C3 C4 hm nL fL' sL' σL'
 refine pU (Rr _ rfl) (rP nX (Rr _ rfl))
theorem CN(elt target0 iter0 target iter:Expr)(scope:Scope)(pos:hU)(it acc:aD)(env:o7):
  yP (.ListComp elt [⟨target0,iter0,[],0⟩,⟨target,iter,[],0⟩] scope pos) 1 it acc env=(pV iter.pos >>=λw_=>tA it >>=λr=>match r with
   |none=>dD (.done .next)
   |some v=>f9 target it v >>=λw_=>assign target env v >>=λw_=>
    (bS elt env >>=λx=>call (.builtin "list.append") [acc,x] >>=λw_=>dD ()) >>=λw_=>
     again (.compLoop (.ListComp elt [⟨target0,iter0,[],0⟩,⟨target,iter,[],0⟩] scope pos) 1 it acc env)):=by rfl
theorem AM(elt target0 iter0 target iter:Expr)(scope:Scope)(pos:hU)(it acc:aD)(env:o7):
  yP (.ListComp elt [⟨target0,iter0,[],0⟩,⟨target,iter,[],0⟩] scope pos) 0 it acc env=(pV iter0.pos >>=λw_=>tA it >>=λr=>match r with
   |none=>dD (.done .next)
   |some v=>f9 target0 it v >>=λw_=>assign target0 env v >>=λw_=>
    bS iter env >>=λx=>pV iter.pos >>=λw_=>bW iter env x >>=λx=>holding [x] (Bz x) >>=λi=>
     runOwn (.compStart (.ListComp elt [⟨target0,iter0,[],0⟩,⟨target,iter,[],0⟩] scope pos) 1 i acc env) env >>=λw_=>
     again (.compLoop (.ListComp elt [⟨target0,iter0,[],0⟩,⟨target,iter,[],0⟩] scope pos) 0 it acc env)):=by rfl
section
variable{prog:fy}{w:m7}{E:aD->aU->Prop}{R:yN->aU->Prop}
theorem rZ{elt target0 iter0 target iter:Expr}{scope:Scope}{pos:hU}{it acc:aD}{env:o7}(I:Nat->aU->Prop)
  (turn:∀n s,I n s->wpAny (bI prog w) A (tA it) (λr s₁=>match r with
   |none=>R (.ok .next) s₁
   |some v=>wpAny (bI prog w) A (assign target env v) (λw_ dv=>wpAny (bI prog w) A (bS elt env) (λx iP=>
     wpAny (bI prog w) A (call (.builtin "list.append") [acc,x]) (λw_ kO=>∃m,m<n/\I m kO) (nN (bI prog w) A env λe s'=>R (.error e) s') iP)
     (nN (bI prog w) A env λe s'=>R (.error e) s') dv) (nN (bI prog w) A env λe s'=>R (.error e) s') s₁) (nN (bI prog w) A env λe s'=>R (.error e) s') s)
  (n:Nat) (h:I n s) (ht:∀v,f9 target it v=dD ():=by intro _;rfl):
  codeAny (bI prog w) A (.compLoop (.ListComp elt [⟨target0,iter0,[],0⟩,⟨target,iter,[],0⟩] scope pos) 1 it acc env) R s:=by
 refine codeAny_loop rfl I (λn s hI=>?_) n h;show wpAny _ _ ((yP (.ListComp elt [⟨target0,iter0,[],0⟩,⟨target,iter,[],0⟩] scope pos) 1 it acc env).onRaise (λx=>do Ac x env;theTreesLotGoes x)) _ _ s;refine wpAny_noted ?_;rw[CN];refine aB (bZ (aB (b0 (turn n s hI) (λr s₁ cR=>?_) λw_ w_ h'=>h')));cases r with
 |none=>exact bc cR
 |some v=>
  refine aB (nO (ht v) ?_);exact aB (b0 cR (λw_ dv cA=>aB (aB (b0 cA (λx iP jH=>aB (b0 jH
   (λw_ kO gD=>bc (bc ⟨rfl,gD⟩)) λw_ w_ h'=>h')) λw_ w_ h'=>h'))) λw_ w_ h'=>h')
theorem qZ{elt target0 iter0 target iter:Expr}{scope:Scope}{pos:hU}{it acc:aD}{env:o7}(I:Nat->aU->Prop)(hf:∀x,bW iter env x=dD x)
  (turn:∀n s,I n s->wpAny (bI prog w) A (tA it) (λr s₁=>match r with
   |none=>R (.ok .next) s₁
   |some v=>wpAny (bI prog w) A (assign target0 env v) (λw_ dv=>wpAny (bI prog w) A (bS iter env) (λx iP=>
     wpAny (bI prog w) A (Bz x) (λi kO=>codeAny (bI prog w) A (.compStart (.ListComp elt [⟨target0,iter0,[],0⟩,⟨target,iter,[],0⟩] scope pos) 1 i acc env)
      (λr g9=>match r with| .ok _=>∃m,m<n/\I m g9| .error _=>False) kO) (nN (bI prog w) A env λe s'=>R (.error e) s') iP)
     (nN (bI prog w) A env λe s'=>R (.error e) s') dv) (nN (bI prog w) A env λe s'=>R (.error e) s') s₁) (nN (bI prog w) A env λe s'=>R (.error e) s') s)
  (n:Nat) (h:I n s) (ht:∀v,f9 target0 it v=dD ():=by intro _;rfl):
  codeAny (bI prog w) A (.compLoop (.ListComp elt [⟨target0,iter0,[],0⟩,⟨target,iter,[],0⟩] scope pos) 0 it acc env) R s:=by
 refine codeAny_loop rfl I (λn s hI=>?_) n h;show wpAny _ _ ((yP (.ListComp elt [⟨target0,iter0,[],0⟩,⟨target,iter,[],0⟩] scope pos) 0 it acc env).onRaise (λx=>do Ac x env;theTreesLotGoes x)) _ _ s;refine wpAny_noted ?_;rw[AM];refine aB (bZ (aB (b0 (turn n s hI) (λr s₁ cR=>?_) λw_ w_ h'=>h')));cases r with
 |none=>exact bc cR
 |some v=>
  refine aB (nO (ht v) ?_);refine aB (b0 cR (λw_ dv cA=>aB (b0 cA (λx iP jH=>aB (bZ (aB (nO (hf x) (aB (bP (b0 jH (λi kO gD=>?_) λw_ w_ h'=>h'))))))) λw_ w_ h'=>h')) λw_ w_ h'=>h');refine aB (wpAny_runOwn (pS gD λr s' hr=>?_));cases r with
  |ok f=>exact bc ⟨rfl,hr⟩
  |error e=>exact hr.elim
theorem qE{elt target0 iter0 target iter scope pos it acc env}
  (h0:codeAny (bI prog w) A (.compLoop (.ListComp elt [⟨target0,iter0,[],0⟩,⟨target,iter,[],0⟩] scope pos) 1 it acc env) R s)
  (h:wpAny (bI prog w) A (Bz it) (λit' s'=>codeAny (bI prog w) A (.compLoop (.ListComp elt [⟨target0,iter0,[],0⟩,⟨target,iter,[],0⟩] scope pos) 1 it' acc env) R s')
   (nN (bI prog w) A env λx s'=>R (.error x) s') s):
  codeAny (bI prog w) A (.compStart (.ListComp elt [⟨target0,iter0,[],0⟩,⟨target,iter,[],0⟩] scope pos) 1 it acc env) R s:=by
 refine codeAny_of_tree ?_;show wpAny _ _ ((compStart (.ListComp elt [⟨target0,iter0,[],0⟩,⟨target,iter,[],0⟩] scope pos) 1 it acc env).onRaise (λx=>do Ac x env;pV theWindowsPlace)) _ _ s;refine wpAny_notedAt ?_;unfold compStart;show wpAny _ _ (ask >>=_) _ _ s;refine aB (vw (wpAny_ite ?_));split
 ·first
   |exact aB (bc (bc (o9 rfl h0)))
   |exact bc (o9 rfl h0)
 ·first
   |exact aB (yQ (aB (bZ (aB (b0 h (λit' s' h'=>bc (o9 rfl h')) λw_ w_ x=>x)))))
   |(refine aB (yQ ?_);show wpAny _ _ (pV iter.pos >>=_) _ _ s;exact aB (bZ (aB (b0 h (λit' s' h'=>bc (o9 rfl h')) λw_ w_ x=>x))))
end
theorem Av{elt target0 iter0 iter:Expr}{x:Str}{px:hU}{scope:Scope}{pos:hU}{cenv:o7}{I D:aY}{ielt:IE}{t:Nat}{xv:V}{items:List V}{K:List V->bT->AH->Prop}{Rr:yN->aU->Prop}{F₀:dQ}{s₀:aU}
  {PP₀:dQ} (h0:∀b,PP₀ b->PP b) (hx:cj scope.names x=some (t,.local)) (helt:∀PP',EvalOk C d cenv scope.names PP' (bS elt cenv) ielt) (hA:gF A d)
  (hID:I≠D) (hIL:I≠cenv.locals) (hDL:D≠cenv.locals) (nI:¬PP I) (nD:¬PP D) (nL:¬PP cenv.locals) (hτ:∃τ,dw τ xv=some items)
  (hR:∀F σ s₁ e8 acc xs,Aft C PP F₀ s₀ F σ s₁->cN C (Pl PP [cenv.locals,D]) F σ s₁.heap->FR C cenv scope.names (Pl PP₀ [cenv.locals]) F e8 s₁.heap->acc.length<=16777216->s₁.heap.PlainList D (bu xs)->RL C F s₁.heap acc xs->K acc e8 σ->Rr (.ok .next) s₁):
  ∀(n:Nat) (s:aU),(KE C PP PP₀ F₀ s₀ cenv scope.names I D xv items (λl acc e8 σ=>oL (ig C d ielt) (c8 · t) xv items K l acc e8 σ) n s)->
  codeAny (bI C.prog C.w) A (.compLoop (.ListComp elt [⟨target0,iter0,[],0⟩,⟨.Name x px,iter,[],0⟩] scope pos) 1 (.ref I) (.ref D) cenv) Rr s:=by
 intro n s hI;refine rZ (λn s=>KE C PP PP₀ F₀ s₀ cenv scope.names I D xv items (λl acc e8 σ=>oL (ig C d ielt) (c8 · t) xv items K l acc e8 σ) n s) ?_ n hI;clear hI n s;rintro n s ⟨F,σ,e8,i,acc,xs,rfl,hi,hacc,a,X,Y,it,hl,rr,W⟩;have sub1:∀b,Pl PP₀ [cenv.locals] b->Pl PP [cenv.locals,I,D] b:=λb h=>h.imp (h0 b) λq=>by simp at q ⊢;exact .inl q
 have subP:∀b,PP b->Pl PP [cenv.locals,I,D] b:=λb h=> .inl h;have pI:Pl PP [cenv.locals,I,D] I:= .inr (by exact .tail _ (.head _));have pD:Pl PP [cenv.locals,I,D] D:= .inr (by exact .tail _ (.tail _ (.head _)));have pL:Pl PP [cenv.locals,I,D] cenv.locals:= .inr (by exact .head _);have n1I:¬Pl PP₀ [cenv.locals] I:=λq=>q.elim (λq=>nI (h0 _ q)) λq=>by simp at q;exact hIL q
 have n1D:¬Pl PP₀ [cenv.locals] D:=λq=>q.elim (λq=>nD (h0 _ q)) λq=>by simp at q;exact hDL q
 obtain⟨fI,sI,σI,_⟩:=X.prot pI;obtain⟨fD,sD,σD,_⟩:=X.prot pD;obtain⟨fL,sL,σL,_⟩:=X.prot pL;by_cases hlt:i<items.length
 ·obtain⟨v,hv⟩:∃v,items[i]?=some v:=⟨_,ah hlt⟩
  have hdrop:items.drop i=v::items.drop (i+1):=by
   refine ao (cc hlt) ?_;rw[ah hlt]at hv;replace hv:=ac hv;subst hv;rfl
  rw[hdrop]at W;obtain⟨ws,W⟩:=W;refine mG X fI it (.inr ⟨ws,hτ⟩) hv λy cR gP fO ry cH=>?_;have lI:∃o,cR.get? I=some o:=by
   clear W ws it hτ;cases xv<;>first|exact⟨_,cH⟩|((first|refine lk cH ?_;clear cH;intro _ o e _|refine d4 cH ?_;clear cH;intro _ o e _|obtain⟨_,o,e,_⟩:=cH);exact⟨o,e⟩)|(obtain⟨_,_,o,e,_⟩:=cH;exact⟨o,e⟩)|((first|refine bJ cH ?_;clear cH;intro o e _|obtain⟨o,e,_⟩:=cH);exact⟨o,e⟩)|exact cH.elim
  obtain⟨bp,eV⟩:=X.poke subP a fO pI nI lI gP;have eW:∀b,b≠I->∀o,s.heap.get? b=some o->cR.get? b=some o:=λb hb o e=>(fO.2 b hb).trans e;have lK:gX F s.heap F cR:=⟨λw_ x=>x,λb f o e=>eW b (λq=>fI (q▸f)) o e⟩;have p9:FR C cenv scope.names (Pl PP₀ [cenv.locals]) F e8 cR:=Y.poke eW n1I fI;have wi:cR.PlainList D xs.toArray:=hl.at λo e=>eW D (aV hID) o e;have wj:=rr.mono lK;obtain⟨m,hm,_,qloc⟩:=p9.loc;refine eB (fY ((qloc x t hx).1) hm (λcA nV kz=>?_) (oD Y.kind));have lL:∃o,cA.get? cenv.locals=some o:=let⟨o,_,_,e,_⟩:=nV;⟨o,e⟩;obtain⟨b8,iD⟩:=(show cN C (Pl PP [cenv.locals,I,D]) F σ ({s with heap:=cR,toks:=gP}:aU).heap from eV).poke subP bp kz pL nL lL (gP+1);have pv:∀b,b≠cenv.locals->∀o,cR.get? b=some o->cA.get? b=some o:=λb hb o e=>(kz.2 b hb).trans e;have nz:gX F cR F cA:=⟨λw_ x=>x,λb f o e=>pv b (λq=>fL (q▸f)) o e⟩;have l6:FR C cenv scope.names (Pl PP₀ [cenv.locals]) F (c8 e8 t v) cA:=p9.setLocal hx hm nV kz fL ry;have wm:cA.PlainList D xs.toArray:=wi.at λo e=>pv D hDL o e;have wn:=wj.mono nz;have nW:je C F cA I xv (i+1):=cH.keep nz λo e=>pv I hIL o e;have qp:=b8;have tE:=l6;have wo:=wm;have wp:=wn;have qo:=nW;refine(helt _ (c8 e8 t v) σ _ A F {s with heap:=cA,toks:=gP+1} hA iD (l6.sub sub1) W).use ?_;rintro u z oz qr kO eI ru ⟨hz,y5⟩;have C0:kO.heap.PlainList D xs.toArray:=wo.at (eI.keep D pD);have y6:=wp.mono eI.ext;have nX:je C oz kO.heap I xv (i+1):=qo.keep eI.ext (eI.keep I pI);have rM:Aft C PP F₀ s₀ oz qr kO:=qp.trans (eI.sub subP);have tF:=(show FR C cenv scope.names (Pl PP₀ [cenv.locals]) F (c8 e8 t v) ({s with heap:=cA,toks:=gP+1}:aU).heap from l6).step (eI.sub sub1);refine jS C0 (λC1 sU wq=>?_) (by refine ao cW (ao bB (dk y6.length ?_));exact hacc);obtain⟨wr,_,_,_⟩:=eI.rep.prot pD;have y7:∀b,b≠D->∀o,kO.heap.get? b=some o->C1.get? b=some o:=λb hb o e=>(wq.2 b hb).trans e;have C2:gX oz kO.heap oz C1:=⟨λw_ x=>x,λb f o e=>y7 b (λq=>wr (q▸f)) o e⟩;obtain⟨mD,nA⟩:=eI.rep.poke subP rM wq pD nD (let⟨_,e⟩:=sU;⟨_,e⟩) kO.toks;refine⟨items.length- (i+1),by exact ir (nat_lit 0x358245104721896190242) rfl (ar (bt (nat_lit 0x2b048a158241) rfl hlt)) (ar (bt (nat_lit 0x2028401) rfl hi)),oz,qr,c8 e8 t v,i+1,acc++[u],xs++[z],rfl,hlt,by refine ao aC ?_;exact hz,mD,nA,tF.poke y7 n1D wr,nX.keep C2 λo e=>y7 I hID o e,?_,(y6.snoc ru).mono C2,y5⟩;have e:bu (xs++[z])=(bu xs).push z:=by simp
  refine ao e ?_;exact sU
 ·have hie:i=items.length:=by exact aN (bt (nat_lit 0x2028401) rfl hi) (bt (nat_lit 0x4a158244) rfl hlt)
  clear hlt hi;subst hie;rw[gL]at W;obtain⟨ws,W⟩:=W;refine oS hA X it (.inr ⟨ws,hτ⟩) λcR gP fO=>?_;have eW:=kD fO;have lK:gX F s.heap F cR:=⟨λw_ x=>x,λb f o e=>eW b (λq=>fI (q▸f)) o e⟩;have X':cN C (Pl PP [cenv.locals,D]) F σ s.heap:=X.sub λb h=>h.imp id λq=>by simp at q ⊢;exact q.elim .inl λq=> .inr (.inr q)
  have nI':¬Pl PP [cenv.locals,D] I:=λq=>q.elim nI λq=>by simp at q;exact q.elim hIL hID
  have eV:=X'.outE eW fI nI' sI σI;refine hR F σ _ e8 acc xs (a.trans ⟨⟨cR,gP,rfl⟩,lK,λb p o e=>eW b (λq=>nI (q▸p)) o e,eV.sub λb h=> .inl h⟩) eV (Y.poke eW n1I fI) hacc (hl.at λo e=>eW D (aV hID) o e) (rr.mono lK) W
theorem zr{elt iter iter':Expr}{x x':Str}{px px':hU}{scope:Scope}{pos:hU}{cenv:o7}{I D:aY}{ielt iit':IE}{t t':Nat}{xv:V}{items:List V}{Q:V->AH->Prop}{Rr:yN->aU->Prop}{F₀:dQ}{s₀:aU}
  (hx:cj scope.names x=some (t,.local)) (helt:∀PP',EvalOk C d cenv scope.names PP' (bS elt cenv) ielt)(hx':cj scope.names x'=some (t',.local)) (hit':∀PP',EvalOk C d cenv scope.names PP' (bS iter' cenv) iit') (hf':∀x,bW iter' cenv x=dD x) (hA:gF A d)
  (hID:I≠D) (hIL:I≠cenv.locals) (hDL:D≠cenv.locals) (nI:¬PP I) (nD:¬PP D) (nL:¬PP cenv.locals) (hτ:∃τ,dw τ xv=some items)
  (hR:∀F σ s₁ m acc xs,Aft C PP F₀ s₀ F σ s₁->cN C (Pl PP [cenv.locals,D]) F σ s₁.heap->s₁.heap.Ns cenv.locals m->s₁.heap.PlainList D (bu xs)->RL C F s₁.heap acc xs->jU acc σ Q->Rr (.ok .next) s₁):
  ∀(n:Nat) (s:aU),(KE C PP PP F₀ s₀ cenv scope.names I D xv items (λl acc e8 σ=>kG (ig C d ielt) (ig C d iit') (c8 · t) (c8 · t') xv items Q l acc e8 σ) n s)->
  codeAny (bI C.prog C.w) A (.compLoop (.ListComp elt [⟨.Name x px,iter,[],0⟩,⟨.Name x' px',iter',[],0⟩] scope pos) 0 (.ref I) (.ref D) cenv) Rr s:=by
 intro n s hI;refine qZ (hf:=hf') (λn s=>KE C PP PP F₀ s₀ cenv scope.names I D xv items (λl acc e8 σ=>kG (ig C d ielt) (ig C d iit') (c8 · t) (c8 · t') xv items Q l acc e8 σ) n s) ?_ n hI;clear hI n s;rintro n s ⟨F,σ,e8,i,acc,xs,rfl,hi,hacc,a,X,Y,it,hl,rr,W⟩;have sub1:∀b,Pl PP [cenv.locals] b->Pl PP [cenv.locals,I,D] b:=λb h=>h.imp id λq=>by simp at q ⊢;exact .inl q
 have subP:∀b,PP b->Pl PP [cenv.locals,I,D] b:=λb h=> .inl h;have pI:Pl PP [cenv.locals,I,D] I:= .inr (by exact .tail _ (.head _));have pD:Pl PP [cenv.locals,I,D] D:= .inr (by exact .tail _ (.tail _ (.head _)));have pL:Pl PP [cenv.locals,I,D] cenv.locals:= .inr (by exact .head _);have n1I:¬Pl PP [cenv.locals] I:=λq=>q.elim nI λq=>by simp at q;exact hIL q
 have n1D:¬Pl PP [cenv.locals] D:=λq=>q.elim nD λq=>by simp at q;exact hDL q
 obtain⟨fI,sI,σI,_⟩:=X.prot pI;obtain⟨fD,sD,σD,_⟩:=X.prot pD;obtain⟨fL,sL,σL,_⟩:=X.prot pL;by_cases hlt:i<items.length
 ·obtain⟨v,hv⟩:∃v,items[i]?=some v:=⟨_,ah hlt⟩
  have hdrop:items.drop i=v::items.drop (i+1):=by
   refine ao (cc hlt) ?_;rw[ah hlt]at hv;replace hv:=ac hv;subst hv;rfl
  rw[hdrop]at W;obtain⟨ws,W⟩:=W;refine mG X fI it (.inr ⟨ws,hτ⟩) hv λy cR gP fO ry cH=>?_;have lI:∃o,cR.get? I=some o:=by
   clear W ws it hτ;cases xv<;>first|exact⟨_,cH⟩|((first|refine lk cH ?_;clear cH;intro _ o e _|refine d4 cH ?_;clear cH;intro _ o e _|obtain⟨_,o,e,_⟩:=cH);exact⟨o,e⟩)|(obtain⟨_,_,o,e,_⟩:=cH;exact⟨o,e⟩)|((first|refine bJ cH ?_;clear cH;intro o e _|obtain⟨o,e,_⟩:=cH);exact⟨o,e⟩)|exact cH.elim
  obtain⟨bp,eV⟩:=X.poke subP a fO pI nI lI gP;have eW:∀b,b≠I->∀o,s.heap.get? b=some o->cR.get? b=some o:=λb hb o e=>(fO.2 b hb).trans e;have lK:gX F s.heap F cR:=⟨λw_ x=>x,λb f o e=>eW b (λq=>fI (q▸f)) o e⟩;have p9:FR C cenv scope.names (Pl PP [cenv.locals]) F e8 cR:=Y.poke eW n1I fI;have wi:cR.PlainList D xs.toArray:=hl.at λo e=>eW D (aV hID) o e;have wj:=rr.mono lK;obtain⟨m,hm,_,qloc⟩:=p9.loc;refine eB (fY ((qloc x t hx).1) hm (λcA nV kz=>?_) (oD Y.kind));have lL:∃o,cA.get? cenv.locals=some o:=let⟨o,_,_,e,_⟩:=nV;⟨o,e⟩;obtain⟨b8,iD⟩:=(show cN C (Pl PP [cenv.locals,I,D]) F σ ({s with heap:=cR,toks:=gP}:aU).heap from eV).poke subP bp kz pL nL lL (gP+1);have pv:∀b,b≠cenv.locals->∀o,cR.get? b=some o->cA.get? b=some o:=λb hb o e=>(kz.2 b hb).trans e;have nz:gX F cR F cA:=⟨λw_ x=>x,λb f o e=>pv b (λq=>fL (q▸f)) o e⟩;have l6:FR C cenv scope.names (Pl PP [cenv.locals]) F (c8 e8 t v) cA:=p9.setLocal hx hm nV kz fL ry;have wm:cA.PlainList D xs.toArray:=wi.at λo e=>pv D hDL o e;have wn:=wj.mono nz;have nW:je C F cA I xv (i+1):=cH.keep nz λo e=>pv I hIL o e;refine(hit' _ (c8 e8 t v) σ _ A F {s with heap:=cA,toks:=gP+1} hA iD (l6.sub sub1) W).use ?_;intro xv' y' l7 kA iP dS Mq rL;refine oX rL λitems' hitems' rL=>?_;have wo:iP.heap.PlainList D xs.toArray:=wm.at (dS.keep D pD);have wp:=wn.mono dS.ext;have qo:je C l7 iP.heap I xv (i+1):=nW.keep dS.ext (dS.keep I pI);have qp:Aft C PP F₀ s₀ l7 kA iP:=b8.trans (dS.sub subP);have tE:=(show FR C cenv scope.names (Pl PP [cenv.locals]) F (c8 e8 t v) ({s with heap:=cA,toks:=gP+1}:aU).heap from l6).step (dS.sub sub1);refine kI dS.rep Mq hitems' λo ko go it'=>?_;have nI0:iP.heap.get? iP.heap.objs.size=none:=by
   cases q:iP.heap.get? iP.heap.objs.size with
   |none=>rfl
   |some o'=>exact absurd (bY q) (fo _)
  have fI':=dS.rep.fresh_F nI0;have sI':=dS.rep.fresh_sp nI0;have σI':=dS.rep.fresh_σ nI0;have pI':=dS.rep.fresh_P nI0;generalize hI':iP.heap.objs.size=I' at*;generalize hH:iP.heap.push o=H at*;have eI:Aft C (Pl PP [cenv.locals,I,D]) l7 iP l7 kA {iP with heap:=H,toks:=iP.toks+0}:=Aft.grow dS.rep ko;have sx:cN C (Pl (Pl PP [I]) [cenv.locals,I',D]) l7 kA H:=(eI.rep.prot1 (l:=[I']) λb hb=>by
   have hb:b=I':=by exact aq.mp (hb)
   clear it' pI' nI0 hI';subst hb;exact⟨fI',sI',σI',o,go⟩).sub λb q=>by
    rcases q with(q|q)|q
    ·exact .inl (.inl q)
    ·simp at q;clear eI pI' qo dS nW iD eW eV lI cH fO lv σI sI fI n1I pL pD pI subP sub1 it X nI hIL hID;subst q;exact .inl (.inr (by exact .tail _ (.head _)))
    ·simp at q
     rcases q with rfl|rfl|rfl
     ·exact .inl (.inr (by exact .head _))
     ·exact .inr (by exact .head _)
     ·exact .inl (.inr (by exact .tail _ (.tail _ (.head _))))
  have nII:I'≠I:=λe=>pI' (e▸pI);have nID:I'≠D:=λe=>pI' (e▸pD);have nIL:I'≠cenv.locals:=λe=>pI' (e▸pL);have nPI:¬Pl PP [I] I':=λq=>q.elim (λq=>pI' (.inl q)) λq=>by simp at q;exact nII q
  have nPD:¬Pl PP [I] D:=λq=>q.elim nD λq=>by simp at q;exact hID q.symm
  have nPL:¬Pl PP [I] cenv.locals:=λq=>q.elim nL λq=>by simp at q;exact hIL q.symm
  have sub2:∀b,Pl PP [I] b->Pl PP [cenv.locals,I,D] b:=λb h=>h.imp id λq=>by simp at q;clear h nII pI' dS nW iD eW eV lI cH fO lv σI sI fI n1I pL pD pI subP it X nI hIL hID;subst q;exact .tail _ (.head _)
  have Rr':codeAny (bI C.prog C.w) A (.compLoop (.ListComp elt [⟨.Name x px,iter,[],0⟩,⟨.Name x' px',iter',[],0⟩] scope pos) 1 (.ref I') (.ref D) cenv) (λr g9=>match r with
   | .ok _=>∃m,m<items.length-i/\KE C PP PP F₀ s₀ cenv scope.names I D xv items (λl acc e8 σ=>kG (ig C d ielt) (ig C d iit') (c8 · t) (c8 · t') xv items Q l acc e8 σ) m g9
   | .error _=>False) {iP with heap:=H,toks:=iP.toks+0}:=by
   refine Av (PP:=Pl PP [I]) (PP₀:=PP) (F₀:=l7) (s₀:=iP) (K:=λacc env σ=>kG (ig C d ielt) (ig C d iit') (c8 · t) (c8 · t') xv items Q (items.drop (i+1)) acc env σ) (items:=items') (xv:=xv')
    (λw_ q=> .inl q) hx' helt hA nID nIL hDL nPI nPD nPL ⟨kA,hitems'⟩ (λtG qs g9 NX Mr NY mD nA BD J7 sU NZ OR=>?_) (items'.length-0) _
    ⟨l7,kA,c8 e8 t v,0,acc,xs,rfl,bg _,hacc,eI.sub sub2,sx,tE.step (eI.sub sub1),it',wo.at (ko D),wp.mono eI.ext,rL⟩
   refine⟨items.length- (i+1),by exact ir (nat_lit 0x358245104721896190242) rfl (ar (bt (nat_lit 0x2b048a158241) rfl hlt)) (ar (bt (nat_lit 0x2028401) rfl hi)),tG,qs,NX,i+1,Mr,NY,rfl,hlt,J7,qp.trans (mD.sub λb q=> .inl q),nA.sub λb q=>?_,BD,qo.keep mD.ext (mD.keep I (.inr (by exact .head _))),sU,NZ,OR⟩;rcases q with q|q
   ·exact .inl (.inl q)
   ·simp at q
    rcases q with rfl|rfl|rfl
    ·exact .inr (by exact .head _)
    ·exact .inl (.inr (by exact .head _))
    ·exact .inr (by exact .tail _ (.head _))
  exact qE Rr' (rP it' Rr')
 ·have hie:i=items.length:=by exact aN (bt (nat_lit 0x2028401) rfl hi) (bt (nat_lit 0x4a158244) rfl hlt)
  clear hlt hi;subst hie;rw[gL]at W;obtain⟨ws,W⟩:=W;refine oS hA X it (.inr ⟨ws,hτ⟩) λcR gP fO=>?_;have eW:=kD fO;have lK:gX F s.heap F cR:=⟨λw_ x=>x,λb f o e=>eW b (λq=>fI (q▸f)) o e⟩;have X':cN C (Pl PP [cenv.locals,D]) F σ s.heap:=X.sub λb h=>h.imp id λq=>by simp at q ⊢;exact q.elim .inl λq=> .inr (.inr q)
  have nI':¬Pl PP [cenv.locals,D] I:=λq=>q.elim nI λq=>by simp at q;exact q.elim hIL hID
  have eV:=X'.outE eW fI nI' sI σI;obtain⟨m,hm,_,_⟩:=Y.loc;refine hR F σ _ m acc xs (a.trans ⟨⟨cR,gP,rfl⟩,lK,λb p o e=>eW b (λq=>nI (q▸p)) o e,eV.sub λb h=> .inl h⟩) eV (sK hm λo e=>eW _ (aV hIL) o e) (hl.at λo e=>eW D (aV hID) o e) (rr.mono lK) W
set_option tactic.hygienic true in
theorem yF{elt iter iter':Expr}{x x':Str}{px px':hU}{sc:Scope}{pos ipos:hU}{iit ielt iit':IE}{t t':Nat}{Q:V->AH->Prop}{use:Option (aD->uU Unit)}{K:aD->aU->Prop}{E:aD->aU->Prop}
  (g:dL ns sc=true) (hx:fk sc.names x=some t) (hit:EvalOk C d env ns PP (bS iter env) iit) (helt:∀cenv PP',EvalOk C d cenv sc.names PP' (bS elt cenv) ielt) (hx':fk sc.names x'=some t') (hit':∀cenv PP',EvalOk C d cenv sc.names PP' (bS iter' cenv) iit') (hf':∀cenv x,bW iter' cenv x=dD x)
  (hf:∀x,bW iter env x=dD x) (hA:gF A d) (X:cN C PP F σ s.heap) (Y:FR C env ns PP F e8 s.heap) (W:ig C d (.comp2 (hY ns sc.names) t iit t' iit' ielt) e8 σ Q)
  (h0:use=none->∀v y bz bj s₁,Aft C PP F s bz bj s₁->R C bz s₁.heap v y->Q v bj->K y s₁)
  (h1:∀u,use=some u->∀v y bz bj s₁ L' m,Aft C PP F s bz bj s₁->R C bz s₁.heap v y->Q v bj->s₁.heap.Ns L' m->¬PP L'->¬bz L'->¬C.sp L'->bj L'=none->
   wpAny (bI C.prog C.w) A (u y) (λw_ dv=>∃m,dv.heap.Ns L' m/\∀h',cy L' dv.heap h'->K .none {dv with heap:=h'}) E s₁):
  wpAny (bI C.prog C.w) A (sP (.ListComp elt [⟨.Name x px,iter,[],0⟩,⟨.Name x' px',iter',[],0⟩] sc pos) sc env ipos (newList []) false (bS iter env) use) K E s:=by
 obtain⟨hk,hn⟩:=jq g;have hxl:cj sc.names x=some (t,.local):=pF hx;have hxl':cj sc.names x'=some (t',.local):=pF hx';have hclos:jC sc env=dD (mw env sc.names []):=by
  obtain⟨m,n,_⟩:=Y.loc;refine jh λp hp hf=>?_;obtain⟨⟨i,k,e,z⟩,_⟩:=(hn p hp).2.2 hf;obtain⟨_,c,y0,h1,_⟩:=Y.cel _ i k e z;exact⟨c,h1⟩
 refine jm (g:=⟨.Name x px,iter,[],0⟩) (gs:=[⟨.Name x' px',iter',[],0⟩]) (cl:=mw env sc.names []) rfl hf hclos hk (λp hp hl=>by exact ao ((hn p hp).2.1) (ao hl rfl)) ?_;refine(hit e8 σ _ A F s hA X Y W).use ?_;intro xv y bz bj s₁ bp eD cY;refine oX cY λitems hitems cY=>?_;refine kI bp.rep eD hitems λo ko go it=>?_;refine ji ?_ (by refine ao cW ?_;exact bg _);refine iO (λp hp=>(hn p hp).1) (by intro y hy;simp at hy) (λgD hns hsb=>?_) hk;dsimp only at hns hsb ⊢;generalize hI:s₁.heap.objs.size=I at*;generalize hH2:s₁.heap.push o=H2 at*;have e2:H2.objs.size=I+1:=by refine dk hH2 ?_;rewrite[eA];refine ao hI ?_;with_reducible rfl
 generalize hH3:H2.push {cls:= .type "list",data:= .seq (bu ([]:List aD))}=H3 at*;have e3:H3.objs.size=I+2:=by refine dk hH3 ?_;rewrite[eA];refine ao e2 ?_;with_reducible rfl
 rw[e3]at hns hsb ⊢;refine ao e2 ?_;have none_of:∀b,I<=b->s₁.heap.get? b=none:=λb hb=>by
  cases q:s₁.heap.get? b with
  |none=>rfl
  |some o'=>exact absurd (bY q) (by refine ao hI ?_;exact iM.mpr hb)
 have k3:∀b o',H2.get? b=some o'->H3.get? b=some o':=λb o' e=>by refine dk hH3 ?_;exact aQ _ e
 have k4:∀b o',H3.get? b=some o'->gD.get? b=some o':=λb o' e=>hsb.extBut b o' (by have:=bY e;rw[e3]at this;exact ce this) (aQ _ e);have k:∀b o',s₁.heap.get? b=some o'->gD.get? b=some o':=λb o' e=>k4 b o' (k3 b o' (ko b o' e));have hD4:gD.PlainList (I+1) (bu []):=⟨0,k4 _ _ (by refine dk hH3 (dk e2 ?_);exact bk _ rfl)⟩;have eI:Aft C PP bz s₁ bz bj {s₁ with heap:=gD,toks:=s₁.toks+0}:=Aft.grow bp.rep k;have fr:∀b,I<=b->¬bz b/\¬C.sp b/\bj b=none/\¬PP b:=λb hb=>⟨bp.rep.fresh_F (none_of b hb),bp.rep.fresh_sp (none_of b hb),bp.rep.fresh_σ (none_of b hb),bp.rep.fresh_P (none_of b hb)⟩;have hns':gD.Ns (I+2) λw_=>none:=hns;have tF:FR C env ns PP bz e8 gD:=(Y.step bp).step eI;have BD:=(tF.inner g hns').2;have sx:cN C (Pl PP [I+2,I,I+1]) bz bj gD:=eI.rep.prot1 λb hb=>by
  have hb':I<=b/\∃o,gD.get? b=some o:=by
   simp only[a9,dN,or_false]at hb;rcases hb with rfl|rfl|rfl
   ·refine kC hns' ?_;clear hns';intro o' _ _ e _;exact⟨bE _ _,o',e⟩
   ·exact⟨aG _,o,k4 _ _ (k3 _ _ go)⟩
   ·obtain⟨_,e⟩:=hD4;exact⟨bE _ _,_,e⟩
  exact⟨(fr b hb'.1).1,(fr b hb'.1).2.1,(fr b hb'.1).2.2.1,hb'.2⟩
 have E4:gX bz H2 bz gD:=⟨λw_ x=>x,λb w_ o' e=>k4 b o' (k3 b o' e)⟩;have nX:je C bz gD I xv 0:=it.keep E4 λo' e=>k4 _ _ (k3 _ _ e);have rM:Aft C PP F s bz bj {s₁ with heap:=gD,toks:=s₁.toks+0}:=bp.trans eI;have Rr:∀(cenv:o7),cenv=rG sc (mw env sc.names []) (I+2) env->codeAny (bI C.prog C.w) A (.compLoop (.ListComp elt [⟨.Name x px,iter,[],0⟩,⟨.Name x' px',iter',[],0⟩] sc pos) 0 (.ref I) (.ref (I+1)) cenv)
   (rH (bI C.prog C.w) A E use K (.ref (I+1)) (I+2)) {s₁ with heap:=gD,toks:=s₁.toks+0}:=by
  rintro cenv rfl;refine zr (PP:=PP) (F₀:=F) (s₀:=s) (Q:=Q) (items:=items) (xv:=xv) hxl (helt _) hxl' (hit' _) (hf' _) hA (ce (bR _)) (ce (jT (by decide))) (ce (bR _))
   (fr I (aG _)).2.2.2 (fr (I+1) (bE _ _)).2.2.2 (fr (I+2) (bE _ _)).2.2.2 ⟨bj,hitems⟩ (λtG qs g9 m acc xs mD nA hm hl rr nw=>?_) (items.length-0) _
   ⟨bz,bj,_,0,[],[],rfl,bg _,bg _,rM,sx,BD,nX,hD4,trivial,cY⟩
  have pD:Pl PP [I+2,I+1] (I+1):= .inr (by exact .tail _ (.head _));have pL:Pl PP [I+2,I+1] (I+2):= .inr (by exact .head _);obtain⟨fD,sD,σD,_⟩:=nA.prot pD;obtain⟨fL,sL,σL,_⟩:=nA.prot pL;have nD:¬Pl PP [I+2] (I+1):=λq=>q.elim (fr (I+1) (bE _ _)).2.2.2 λq=>by simp at q
  have Iq:cN C (Pl PP [I+2]) tG qs g9.heap:=nA.sub λb q=>q.imp id λq=>by simp at q ⊢;exact .inl q
  obtain⟨v,mE,mi,uT,C3,C4⟩:=yH nw Iq rr fD nD sD σD hl;have nq:Aft C PP F s mE mi g9:=mD.trans (uT.sub λb q=> .inl q);obtain⟨fL',sL',σL',_⟩:=uT.rep.prot (a:=I+2) (.inr (by exact .head _));have nL:=(fr (I+2) (bE _ _)).2.2.2;unfold rH;cases use with
  |none=>
   refine⟨m,hm,λh' hs'=>?_⟩;have kk:∀b,b≠I+2->∀o,g9.heap.get? b=some o->h'.get? b=some o:=λb hb o e=>(hs'.2 b hb).trans e;have C5:gX mE g9.heap mE h':=⟨λw_ x=>x,λb f o e=>kk b (λq=>fL' (q▸f)) o e⟩;exact h0 rfl v _ mE mi {g9 with heap:=h'} (nq.trans ⟨⟨h',g9.toks,rfl⟩,C5,λb p o e=>kk b (λq=>nL (q▸p)) o e,nq.rep.outE kk fL' nL sL' σL'⟩) (C3.mono C5) C4
  |some u=>exact h1 u rfl v _ mE mi g9 (I+2) m nq C3 C4 hm nL fL' sL' σL'
 refine pU (Rr _ rfl) (rP nX (Rr _ rfl))
theorem Ek{v:V}{x:aD}{Q:V->AH->Prop}{t:Nat}(X:cN C P F σ s.heap)(r:R C F s.heap v x)(q:Q v σ):
  TrR C P F s Q x {s with toks:=t}:=⟨v,F,σ,d1 X t,r,q⟩
theorem LL{c k pos}(h:c=Const.none):EvalOk C d env ns PP (bS (.Constant c k pos) env) .none:=by
 subst h;intro e8 σ Q A F s hA X Y W;exact bc ⟨.none,F,σ,Aft.refl X,rfl,W⟩
theorem K3{b k pos}:EvalOk C d env ns PP (bS (.Constant (.bool b) k pos) env) (.bool b):=by
 intro e8 σ Q A F s hA X Y W;exact bc ⟨.bool b,F,σ,Aft.refl X,rfl,W⟩
theorem NV{b k pos}:EvalOk C d env ns PP (bS (.Constant (.int b) k pos) env) (.int b):=by
 intro e8 σ Q A F s hA X Y W;exact λw_ w_ w_=>Ek (v:= .int b) X ⟨_,rfl⟩ W
theorem ND{b n k pos}(h:b=ae n):EvalOk C d env ns PP (bS (.Constant (.str b) k pos) env) (.str n):=by
 subst h;intro e8 σ Q A F s hA X Y W;exact Constant_str (Ek (v:= .str (ae n)) X ⟨_,rfl⟩ W)
theorem G4{x i k pos}(hd: (x==ae "__debug__")=false)(hs:cj ns x=some (i,k))(hk:k= .local\/k= .cell\/k= .free):EvalOk C d env ns PP (bS (.Name x pos) env) (.loc i):=by
 intro e8 σ Q A F s hA X Y W;refine oX W λv hv q=>?_;exact DX Y hd hs hk hv λy r=>⟨v,F,σ,Aft.refl X,r,q⟩
theorem LS{x i n pos}(hd: (x==ae "__debug__")=false)(hs:cj ns x=some (i,.globalImplicit))(hn:x=ae n)(hm:n∈jK):EvalOk C d env ns PP (bS (.Name x pos) env) (.glob n):=by
 intro e8 σ Q A F s hA X Y W;exact ta X Y hd hs hn hm λy r=>⟨_,F,σ,Aft.refl X,r,W⟩
theorem Nb{a b op pos ia ib}(ha:EvalOk C d env ns PP (bS a env) ia)(hb:EvalOk C d env ns PP (bS b env) ib):EvalOk C d env ns PP (bS (.BinOp a op b pos) env) (.bin op ia ib):=by
 intro e8 σ Q A F s hA X Y W;refine wpAny_BinOp ((ha e8 σ _ A F s hA X Y W).use λv x bz bj s₁ bp eD cY=>(hb e8 bj _ A bz s₁ hA bp.rep (Y.step bp) cY).use λu y gy fx dv b8 ip jI=>?_);exact(Gb b8.rep hA (eD.mono b8.ext) ip jI).from (bp.trans b8)
theorem Nx{a pos ia}(ha:EvalOk C d env ns PP (bS a env) ia):EvalOk C d env ns PP (bS (.UnaryOp .Not a pos) env) (.not ia):=by
 intro e8 σ Q A F s hA X Y W;refine wpAny_UnaryOp ((ha e8 σ _ A F s hA X Y W).use λv x bz bj s₁ bp eD cY=>?_);refine oX cY λb hb q=>?_;refine FC bp.rep eD hb λt=>?_;exact⟨.bool (!b),bz,bj,bp.trans (d1 bp.rep t),rfl,q⟩
theorem No{a pos ia}(ha:EvalOk C d env ns PP (bS a env) ia):EvalOk C d env ns PP (bS (.UnaryOp .USub a pos) env) (.neg ia):=by
 intro e8 σ Q A F s hA X Y W;refine wpAny_UnaryOp ((ha e8 σ _ A F s hA X Y W).use λv x bz bj s₁ bp eD cY=>?_);refine oX cY λb hb q=>?_;have hb:=mV hb;clear cY;subst hb;clear hb W Y X ha;obtain⟨t,rfl⟩:=eD;exact PyProof.Rows.neg_int ⟨.int (-b),bz,bj,bp.trans (d1 bp.rep _),⟨_,rfl⟩,q⟩
theorem NF{a b op pos ia ib}(hm:kT op b=false)(ha:EvalOk C d env ns PP (bS a env) ia)(hb:EvalOk C d env ns PP (bS b env) ib):EvalOk C d env ns PP (bS (.Compare a [op] [b] pos) env) (.cmp op ia ib):=by
 intro e8 σ Q A F s hA X Y W;refine wpAny_Compare1 ((ha e8 σ _ A F s hA X Y W).use λv x bz bj s₁ bp eD cY=>(hb e8 bj _ A bz s₁ hA bp.rep (Y.step bp) cY).use λu y gy fx dv b8 ip jI=>?_) hm;refine oX jI λr hr q=>?_;exact mF b8.rep hA (eD.mono b8.ext) ip hr λt=>⟨.bool r,gy,fx,(bp.trans b8).trans (d1 b8.rep t),rfl,q⟩
theorem MP{a b op pos ia ib whole}(hm:kT op b=false)(ha:EvalOk C d env ns PP (bS a env) ia)(hb:EvalOk C d env ns PP (bS b env) ib):TestOk C d env ns PP (isTrue (.Compare a [op] [b] pos) env whole) (.cmp op ia ib):=by
 intro e8 σ Q A F s hA X Y W;refine wpAny_isTrue_Compare1 ((ha e8 σ _ A F s hA X Y W).use λv x bz bj s₁ bp eD cY=>(hb e8 bj _ A bz s₁ hA bp.rep (Y.step bp) cY).use λu y gy fx dv b8 ip jI=>?_) hm;refine oX jI λr hr q=>?_;exact mF b8.rep hA (eD.mono b8.ext) ip hr λt=>ix ⟨_,gy,fx,(bp.trans b8).trans (d1 b8.rep t),rfl,q⟩
theorem KZ{a b c op op' pos ia ib ic}(hm:kT op' c=false)(ha:EvalOk C d env ns PP (bS a env) ia)(hb:EvalOk C d env ns PP (bS b env) ib)(hc:EvalOk C d env ns PP (bS c env) ic):
  EvalOk C d env ns PP (bS (.Compare a [op,op'] [b,c] pos) env) (.cmp2 op op' ia ib ic):=by
 intro e8 σ Q A F s hA X Y W;refine Compare_chain ((ha e8 σ _ A F s hA X Y W).use λv x bz bj s₁ bp eD cY=>chain_link ((hb e8 bj _ A bz s₁ hA bp.rep (Y.step bp) cY).use λu y gy fx dv b8 ip jI=>?_)) (by simpa[lastMarks]using hm);refine d4 (zP jI) λr hr q0 q1=>?_;refine mF b8.rep hA (eD.mono b8.ext) ip hr λt=>ix ?_;have dS:=d1 (s:=dv) b8.rep t;cases r with
 |false=>exact⟨.bool false,gy,fx,(bp.trans b8).trans dS,rfl,q0 rfl⟩
 |true=>
  refine ao (if_pos rfl) ?_;have l6:=((Y.step bp).step b8).step dS;refine chain_last ((hc e8 fx _ A gy _ hA dS.rep l6 (q1 rfl)).use λw z oz qr kO eI Ms y5=>?_);refine oX y5 λr hr q=>?_;exact mF eI.rep hA (ip.mono eI.ext) Ms hr λt=>⟨.bool r,oz,qr,(((bp.trans b8).trans dS).trans eI).trans (d1 eI.rep t),rfl,q⟩
theorem K6{a b c op op' pos ia ib ic whole}(hm:kT op' c=false)(ha:EvalOk C d env ns PP (bS a env) ia)(hb:EvalOk C d env ns PP (bS b env) ib)(hc:EvalOk C d env ns PP (bS c env) ic):
  TestOk C d env ns PP (isTrue (.Compare a [op,op'] [b,c] pos) env whole) (.cmp2 op op' ia ib ic):=by
 intro e8 σ Q A F s hA X Y W;refine isTrue_chain ((ha e8 σ _ A F s hA X Y W).use λv x bz bj s₁ bp eD cY=>test_link ((hb e8 bj _ A bz s₁ hA bp.rep (Y.step bp) cY).use λu y gy fx dv b8 ip jI=>?_)) (by simpa[lastMarks]using hm);refine d4 (zP jI) λr hr q0 q1=>?_;refine mF b8.rep hA (eD.mono b8.ext) ip hr λt=>ix ?_;have dS:=d1 (s:=dv) b8.rep t;cases r with
 |false=>exact⟨_,gy,fx,(bp.trans b8).trans dS,rfl,q0 rfl⟩
 |true=>
  refine ao (if_pos rfl) ?_;have l6:=((Y.step bp).step b8).step dS;refine test_last ((hc e8 fx _ A gy _ hA dS.rep l6 (q1 rfl)).use λw z oz qr kO eI Ms y5=>?_);refine oX y5 λr hr q=>?_;exact mF eI.rep hA (ip.mono eI.ext) Ms hr λt=>ix ⟨_,oz,qr,(((bp.trans b8).trans dS).trans eI).trans (d1 eI.rep t),rfl,q⟩
theorem ML{a b c pos ia ib ic}(hc:TestOk C d env ns PP (isTrue c env (bS c env)) ic)(ha:EvalOk C d env ns PP (bS a env) ia)(hb:EvalOk C d env ns PP (bS b env) ib):EvalOk C d env ns PP (bS (.IfExp c a b pos) env) (.ite ic ia ib):=by
 intro e8 σ Q A F s hA X Y W;refine wpAny_IfExp ((hc e8 σ _ A F s hA X Y W).use ?_);rintro r x bz bj s₁ bp rfl ⟨q1,q0⟩;cases r with
 |true=>exact(ha e8 bj _ A bz s₁ hA bp.rep (Y.step bp) (q1 rfl)).from bp
 |false=>exact(hb e8 bj _ A bz s₁ hA bp.rep (Y.step bp) (q0 rfl)).from bp
theorem NJ{a b c pos ia ib ic whole}(hc:TestOk C d env ns PP (isTrue c env (bS c env)) ic)(ha:TestOk C d env ns PP (isTrue a env (bS a env)) ia)(hb:TestOk C d env ns PP (isTrue b env (bS b env)) ib):
  TestOk C d env ns PP (isTrue (.IfExp c a b pos) env whole) (.ite ic ia ib):=by
 intro e8 σ Q A F s hA X Y W;rw[arm_isTrue_IfExp];refine aB ((hc e8 σ _ A F s hA X Y W).use ?_);rintro r x bz bj s₁ bp rfl ⟨q1,q0⟩;cases r with
 |true=>exact(ha e8 bj _ A bz s₁ hA bp.rep (Y.step bp) (q1 rfl)).use λv x gy fx dv b8 ip q=>⟨v,gy,fx,bp.trans b8,ip,q⟩
 |false=>exact(hb e8 bj _ A bz s₁ hA bp.rep (Y.step bp) (q0 rfl)).use λv x gy fx dv b8 ip q=>⟨v,gy,fx,bp.trans b8,ip,q⟩
theorem MY{a pos ia whole}(ha:TestOk C d env ns PP (isTrue a env (bS a env)) ia):TestOk C d env ns PP (isTrue (.UnaryOp .Not a pos) env whole) (.not ia):=by
 intro e8 σ Q A F s hA X Y W;refine wpAny_isTrue_Not ((ha e8 σ _ A F s hA X Y W).use ?_);rintro r x bz bj s₁ bp rfl q;exact⟨_,bz,bj,bp,rfl,q⟩
theorem Kr{e:Expr}{ie:IE}(he:isTrue e env (bS e env)=(do let v <- bS e env;pV e.pos;holding [v] (truthy v)))(h:EvalOk C d env ns PP (bS e env) ie):TestOk C d env ns PP (isTrue e env (bS e env)) ie:=by
 intro e8 σ Q A F s hA X Y W;refine wpAny_isTrue_value ((h e8 σ _ A F s hA X Y W).use λv x bz bj s₁ bp eD cY=>?_) he;refine oX cY λb hb q=>?_;exact qN bp.rep eD hb λt=>⟨b,bz,bj,bp.trans (d1 bp.rep t),rfl,q⟩
theorem L1{o x pos io n}(hp:f7 o=true)(hx:x=ae n)(ho:EvalOk C d env ns PP (bS o env) io):EvalOk C d env ns PP (bS (.Attribute o x pos) env) (.attr io n):=by
 subst hx;intro e8 σ Q A F s hA X Y W;rewrite[arm_eval_Attribute];refine ao (lQ hp) ?_;refine aB ((ho e8 σ _ A F s hA X Y W).use λv y bz bj s₁ bp eD cY=>aB (bZ (aB (bP ?_))));refine oX cY λu hu q=>?_;refine DK bp.rep eD hu λz t rz=>?_;exact aB (lx (bc ⟨u,bz,bj,bp.trans (d1 bp.rep t),rz,q⟩))
theorem NP{o i pos io ii}(hs:∀x y,nK i false x y=Bx [x,y] (By x y))(ho:EvalOk C d env ns PP (bS o env) io)(hi:EvalOk C d env ns PP (bS i env) ii):EvalOk C d env ns PP (bS (.Subscript o i pos) env) (.sub io ii):=by
 intro e8 σ Q A F s hA X Y W;rw[tB];refine aB ((ho e8 σ _ A F s hA X Y W).use λv x bz bj s₁ bp eD cY=>aB (bP ((hi e8 bj _ A bz s₁ hA bp.rep (Y.step bp) cY).use λu y gy fx dv b8 ip jI=>aB (bZ ?_))));refine oX jI λz hz q=>?_;exact(Fq b8.rep hA (eD.mono b8.ext) ip hz q hs).from (bp.trans b8)
theorem LM{es pos is}(h:∀pos,Ht C d env ns PP (uJ (jb pos (eU es env))) is):EvalOk C d env ns PP (bS (.List es pos) env) (.list is):=by
 intro e8 σ Q A F s hA X Y W;rw[arm_eval_List];refine aB (bZ (aB ((h pos e8 σ _ A F s hA X Y W).use λvs xs bz bj s₁ bp eD cY=>?_)));exact(zp cY bp.rep eD).from bp
theorem NR{es k pos is}(h:∀pos,Ht C d env ns PP (uJ (jb pos (eU es env))) is):EvalOk C d env ns PP (bS (.Tuple es k pos) env) (.tup is):=by
 intro e8 σ Q A F s hA X Y W;rw[arm_eval_Tuple];refine aB (bZ (aB ((h pos e8 σ _ A F s hA X Y W).use λvs xs bz bj s₁ bp eD cY=>?_)));obtain⟨hl,q⟩:=qI cY;have hl:=aj hl;exact(xB (a8 hl (by decide)) q bp.rep eD).from bp
section
set_option backward.match.sparseCases true
theorem Jj{o lo hi p pos io ilo ihi}(ho:EvalOk C d env ns PP (bS o env) io)(hl:Ow C d env ns PP (evalPart lo env) ilo)(hh:Ow C d env ns PP (evalPart hi env) ihi):EvalOk C d env ns PP (bS (.Subscript o (.Slice lo hi none p) pos) env) (.slice io ilo ihi):=by
 intro e8 σ Q A F s hA X Y W;rw[tB];refine aB ((ho e8 σ _ A F s hA X Y W).use λv x bz bj s₁ bp eD cY=>aB (bP (wpAny_Slice ((hl e8 bj _ A bz s₁ hA bp.rep (Y.step bp) cY).use λvl yl gy fx dv b8 ip jI=>
  (hh e8 fx _ A gy dv hA b8.rep ((Y.step bp).step b8) jI).use λvh yh l7 kA iP dS Mq rL=>bc ?_))))
 refine d4 (zP rL) λvs q1 q2 rL=>?_;refine oX rL λws q3 q4=>?_;refine aB (bZ ?_);have rl:RO C l7 iP.heap vl yl:=by
  cases vl with
  |none=>exact ip
  |some v=>exact R.mono dS.ext ip
 have a:=(bp.trans b8).trans dS;refine b0 (CO (d:=d) (lo:=vl) (hi:=vh) dS.rep hA ((eD.mono b8.ext).mono dS.ext) ?_ ?_ q1 q2 q3 q4) (λx s' ⟨v,F',σ',b,r,q⟩=>⟨v,F',σ',a.trans b,r,q⟩) λw_ w_ z=>z
 ·clear q3 rL jI ip;clear rL;cases vl<;>exact rl
 ·clear q3 rL;clear rL;cases vh<;>exact Mq
theorem E7{pos op}:yJ C d env ns PP (op== .And) (yR pos op []) []:=by
 intro e8 σ Q A F s hA X Y W;exact W.elim
theorem FQ{pos op t ie}(h:EvalOk C d env ns PP t ie):yJ C d env ns PP (op== .And) (yR pos op [t]) [ie]:=by
 intro e8 σ Q A F s hA X Y W;exact h e8 σ Q A F s hA X Y W
theorem DZ{pos op t t' ts ie ie' is}(h:EvalOk C d env ns PP t ie)(hr:yJ C d env ns PP (op== .And) (yR pos op (t'::ts)) (ie'::is)):yJ C d env ns PP (op== .And) (yR pos op (t::t'::ts)) (ie::ie'::is):=by
 intro e8 σ Q A F s hA X Y W;have key:wpAny (bI C.prog C.w) A (do
   let v <- t
   pV pos
   let b <- holding [v] (truthy v)
   match op,b with
   | .And,false| .Or,true=>dD v
   |_,_=>yR pos op (t'::ts)) (λx s'=>TrR C PP F s Q x s') (λw_ w_=>False) s:=by
  refine aB ((h e8 σ _ A F s hA X Y W).use λv x bz bj s₁ bp eD cY=>aB (bZ (aB (bP ?_))));refine d4 (zP cY) λb hb q1 q0=>?_;refine qN bp.rep eD hb λgP=>?_;have a:=bp.trans (d1 bp.rep gP);have p9:=Y.step a;clear cY W;cases op<;>cases b
  ·exact bc ⟨v,bz,bj,a,eD,q0 rfl⟩
  ·exact(hr e8 bj Q A bz _ hA a.rep p9 (q1 rfl)).from a
  ·exact(hr e8 bj Q A bz _ hA a.rep p9 (q1 rfl)).from a
  ·exact bc ⟨v,bz,bj,a,eD,q0 rfl⟩
 exact key
theorem HC{op}:D9 C d env ns PP (op== .And) (xw op [] env) []:=by
 intro e8 σ Q A F s hA X Y W;exact bc ⟨_,F,σ,Aft.refl X,rfl,W⟩
theorem F7{op x rest ie is}(h:TestOk C d env ns PP (isTrue x env (bS x env)) ie)(hr:D9 C d env ns PP (op== .And) (xw op rest env) is):D9 C d env ns PP (op== .And) (xw op (x::rest) env) (ie::is):=by
 intro e8 σ Q A F s hA X Y W;rw[arm_allTrue_cons];refine aB ((h e8 σ _ A F s hA X Y W).use ?_);rintro b x bz bj s₁ bp rfl ⟨q1,q0⟩;have p9:=Y.step bp;have go:b=(op== .And)->wpAny (bI C.prog C.w) A (xw op rest env) (λx s'=>OB C PP F s RB Q x s') (λw_ w_=>False) s₁:=λe=>
  (hr e8 bj Q A bz s₁ hA bp.rep p9 (q1 e)).use λv x gy fx dv b8 ip q=>⟨v,gy,fx,bp.trans b8,ip,q⟩
 clear q1 W hr;cases op<;>cases b
 ·exact bc ⟨_,bz,bj,bp,rfl,q0 rfl⟩
 ·exact go rfl
 ·exact go rfl
 ·exact bc ⟨_,bz,bj,bp,rfl,q0 rfl⟩
theorem Lj{f es pos io is}(hf:EvalOk C d env ns PP (bS f env) io)(he:∀pos,Ht C d env ns PP (uJ (jb pos (eU es env))) is)(hp:∀pos,(jb pos (eU es env)).any (·.1)=false)
  (hz:∀pos,jb pos (eU es env)=[]->is=[])
  (hc:bS (.Call f es [] pos) env=(do let fv <- bS f env;uK pos fv [] (jb pos (eU es env)) [])):EvalOk C d env ns PP (bS (.Call f es [] pos) env) (.call io is):=by
 intro e8 σ Q A F s hA X Y W;refine ao hc ?_;refine aB ((hf e8 σ _ A F s hA X Y W).use λv x bz bj s₁ bp eD cY=>?_);refine(q7 bp.rep (λe=>?_) (hp pos) (he pos e8 bj _ A bz s₁ hA bp.rep (Y.step bp) cY) λvs xs gy fx dv b8 ip jI=>?_).from bp
 ·have:=hz pos e
  clear W hz he;subst this;exact cY
 ·have E0:=eD.mono b8.ext
  cases v with
  |glob n=>exact⟨Ee b8.rep E0,bU.mp jI A PP gy dv x xs hA b8.rep E0 ip⟩
  |clo cs=>exact⟨GB E0,jI A PP gy dv x xs hA b8.rep E0 ip⟩
  |_=>exact jI.elim
theorem IL{o x p es pos io is n}(hx:x=ae n)(hb:f7 o=true)(hl: (p.endLine==pos.line)=true)(hlen:es.length<20)(ho:EvalOk C d env ns PP (bS o env) io)(he:∀pos,Ht C d env ns PP (uJ (jb pos (eU es env))) is)
  (hp:∀pos,(jb pos (eU es env)).any (·.1)=false) (hz:∀pos,jb pos (eU es env)=[]->is=[]):EvalOk C d env ns PP (bS (.Call (.Attribute o x p) es [] pos) env) (.mcall io n is):=by
 subst hx;intro e8 σ Q A F s hA X Y W;rewrite[arm_eval_Call];refine ao (lQ hb) ?_;refine aB ((ho e8 σ _ A F s hA X Y W).use λv x bz bj s₁ bp eD cY=>aB (bZ ?_));refine oX (G7.mp cY) ?_;rintro⟨q,b⟩ hm cY;have hform:rI (es.length+([]:List Keyword).length) (jb pos (eU es env)) (backToKw pos (we [] env))=true:=by
  unfold rI;have h1: (jb pos (eU es env)).all (λx=> !x.1)=true:=by
   have:=hp pos;rw[List.any_eq_false]at this;exact c3.mpr λx hx=>by simpa using this x hx
  refine ao h1 ?_;have h2:backToKw pos (we [] env)=[]:=rfl;refine ao h2 ?_;simp;exact ci (nat_lit 0x1e9ac122829358241) rfl hlen
 have hpos:ou true o env p pos=dD pos:=by unfold ou;simp[hl]
 unfold methodCall;refine ao hform ?_;refine aB (bP (DR bp.rep eD hm λfv t hg=>?_));refine aB (nO hpos ?_);have a:=bp.trans (d1 bp.rep t);show wpAny _ A (uK pos fv (if b=true then[x]else[]) (jb pos (eU es env)) []) _ _ _;refine(q7 a.rep (λe=>?_) (hp pos) (he pos e8 bj _ A bz _ hA a.rep (Y.step a) cY) λvs xs gy fx dv b8 ip jI=>?_).from a
 ·have:=hz pos e
  clear W hz he;subst this;exact cY
 ·refine⟨Ee b8.rep hg,bU.mp jI A PP gy dv fv _ hA b8.rep hg ?_⟩
  cases b with
  |true=>exact⟨R.mono b8.ext eD,ip⟩
  |false=>exact ip
theorem L0{elt iter x px ifs sc pos iit ielt iifs t}(g:dL ns sc=true)(hx:fk sc.names x=some t)(hit:EvalOk C d env ns PP (bS iter env) iit)(helt:∀cenv PP',EvalOk C d cenv sc.names PP' (bS elt cenv) ielt)
  (htests:∀cenv PP',tQ C d cenv sc.names PP' ifs iifs) (hf:∀x,bW iter env x=dD x):EvalOk C d env ns PP (bS (.ListComp elt [⟨.Name x px,iter,ifs,0⟩] sc pos) env) (.comp (hY ns sc.names) t iit iifs ielt):=by
 intro e8 σ Q A F s hA X Y W;rw[eval_ListComp];exact z9 (use:=none) g hx hit helt htests hf hA X Y W (λw_ v y bz bj s₁ a r q=>⟨v,bz,bj,a,r,q⟩) λu e=>by exact bx e
theorem JU{elt iter iter' x x' px px' sc pos iit ielt iit' t t'}(g:dL ns sc=true)(hx:fk sc.names x=some t)(hit:EvalOk C d env ns PP (bS iter env) iit)(helt:∀cenv PP',EvalOk C d cenv sc.names PP' (bS elt cenv) ielt)
  (hx':fk sc.names x'=some t') (hit':∀cenv PP',EvalOk C d cenv sc.names PP' (bS iter' cenv) iit') (hf':∀cenv x,bW iter' cenv x=dD x) (hf:∀x,bW iter env x=dD x):
  EvalOk C d env ns PP (bS (.ListComp elt [⟨.Name x px,iter,[],0⟩,⟨.Name x' px',iter',[],0⟩] sc pos) env) (.comp2 (hY ns sc.names) t iit t' iit' ielt):=by
 intro e8 σ Q A F s hA X Y W;rw[eval_ListComp];exact yF (use:=none) g hx hit helt hx' hit' hf' hf hA X Y W (λw_ v y bz bj s₁ a r q=>⟨v,bz,bj,a,r,q⟩) λu e=>by exact bx e
end
theorem Fb{xs:List aD}:∀{ks:List Int} {k:Int},ks.length=xs.length->(gq ks xs).any (λkv=>kv.1=k)=ks.contains k:=by
 induction xs with
 |nil=>intro ks k h;cases ks with
  |nil=>rfl
  |cons _ _=>simp at h
 |cons x xs ih=>
  intro ks k h;cases ks with
  |nil=>simp at h
  |cons j ks=>
   refine ao j6 ?_;refine ao jk ?_;refine ao e9 ?_;refine ao (ih (by exact cL (h))) ?_;congr 1;by_cases e:j=k
   ·clear h;subst e;exact rfl
   ·have e':¬k=j:=λq=>e q.symm
    simp[e,e']
theorem vR{α:Type}:∀{ks:List Int} {vs:List α} {k:Int} {v:α},ks.length=vs.length->(vPut ks vs k v).length=(vf ks k).length:=by
 intro ks
 induction ks with
 |nil=>intro vs k v h;cases vs with
  |nil=>rfl
  |cons _ _=>simp at h
 |cons j ks ih=>
  intro vs k v h;cases vs with
  |nil=>simp at h
  |cons w vs=>
   have h':ks.length=vs.length:=by exact cL (h)
   refine ao rd ?_;have ih':=ih (k:=k) (v:=v) h';unfold vf at ih' ⊢;by_cases e:j=k
   ·clear ih' h;subst e
    simp[h']
   ·have e':¬k=j:=λq=>e q.symm
    refine ao (if_neg e) ?_;simp only[e9,beq_iff_eq,e',fE,false_or,bv,ih'];split
    ·rename_i hc;simp[hc]
    ·rename_i hc;simp[hc]
theorem Bj{ks:List Int}{xs:List aD}{k:Int}{x:aD}(hn:ks.contains k=false): (gq ks xs).map (λkv=>if kv.1=k then(kv.1,x)else kv)=gq ks xs:=by
 induction ks generalizing xs with
 |nil=>cases xs<;>rfl
 |cons j ks ih=>
  cases xs with
  |nil=>rfl
  |cons w xs=>
   rw[e9,iN]at hn;refine ao j6 ?_;refine ao bC ?_;refine ao (ih hn.2) ?_;rewrite[if_neg];with_reducible rfl
   intro e;have e:j=k:=e;clear ih;subst e;simp at hn
theorem yK{x:aD}{k:Int}:∀{ks:List Int} {xs:List aD},ks.length=xs.length->ks.Nodup->stored (gq ks xs) k x=gq (vf ks k) (vPut ks xs k x):=by
 intro ks xs h hn;unfold stored vf;refine ao (Fb h) ?_;cases hc:ks.contains k with
 |true=>
  refine ao (if_pos rfl) (ao (if_pos rfl) ?_)
  induction ks generalizing xs with
  |nil=>exact mj hc
  |cons j ks ih=>
   cases xs with
   |nil=>simp at h
   |cons w xs=>
    obtain⟨h1,h2⟩:=cC.mp hn;refine ao rd ?_;refine ao j6 ?_;refine ao bC ?_;by_cases e:j=k
    ·clear h hc hn ih;subst e
     refine ao (if_pos rfl) ?_;refine ao (if_pos rfl) ?_;refine ao j6 ?_;refine ao (Bj (by simpa using h1)) ?_;with_reducible rfl
    ·refine ao (if_neg e) ?_;refine ao (if_neg e) ?_;refine ao j6 ?_
     have e':¬k=j:=λq=>e q.symm;exact ao (ih (by exact cL (h)) h2 (by simpa[e']using hc)) rfl
 |false=>
  simp only[nh,if_false]
  induction ks generalizing xs with
  |nil=>cases xs with
   |nil=>rfl
   |cons _ _=>simp at h
  |cons j ks ih=>
   cases xs with
   |nil=>simp at h
   |cons w xs=>
    obtain⟨h1,h2⟩:=cC.mp hn;rw[e9,iN]at hc;refine ao rd ?_;refine ao (if_neg (by intro e;clear h1 hn;subst e;simp at hc)) ?_;refine ao j6 ?_;refine ao iV ?_;refine ao iV ?_;refine ao j6 ?_;refine ao (ih (by exact cL (h)) h2 hc.2) ?_;with_reducible rfl
theorem RL.vPut{v:V}{x:aD}(r:R C F h v x){ks:List Int}{vs:List V}{xs:List aD}{k:Int}(rr:RL C F h vs xs):RL C F h (vPut ks vs k v) (vPut ks xs k x):=by
 refine RL.ind (P:=λvs xs=>∀ks,RL C F h (Mine.Internal.vPut ks vs k v) (Mine.Internal.vPut ks xs k x)) (λks=>?_) (λv' x' vs xs a b ih ks=>?_) rr ks
 ·cases ks with
  |nil=>exact⟨r,trivial⟩
  |cons _ _=>exact⟨r,trivial⟩
 ·cases ks with
  |nil=>exact⟨r,trivial⟩
  |cons j ks=>
   by_cases e:j=k
   ·exact ao rd (ao (if_pos e) (ao rd (ao (if_pos e) ⟨r,b⟩)))
   ·exact ao rd (ao (if_neg e) (ao rd (ao (if_neg e) ⟨a,ih ks⟩)))
theorem tw{xs:List aD}:∀{ks:List Int},ks.length=xs.length->(gq ks xs).map (·.1)=ks:=by
 induction xs with
 |nil=>intro ks h;cases ks with
  |nil=>rfl
  |cons _ _=>simp at h
 |cons x xs ih=>intro ks h;cases ks with
  |nil=>simp at h
  |cons k ks=>refine ao j6 ?_;refine ao bC ?_;refine ao (ih (by exact cL (h))) ?_;with_reducible rfl
theorem gp{xs:List aD}{ks:List Int}(h:ks.length=xs.length): (gq ks xs).length=ks.length:=by
 exact dk (ai (f:=Prod.fst)) (ao (tw h) rfl)
theorem xZ{a:aY}{ks:List Int}{xs:List aD}(h:h.DictOf (eQ C.prog C.w) a (gq ks xs))(hl:ks.length=xs.length):ks.Nodup:=by
 obtain⟨_,_,_,_,_,_,_,_,hn⟩:=h;rwa [tw hl]at hn
theorem vW{D:aY}{ks:List Int}{xs:List aD}{k:Int}{t:Tok}{x:aD}{K:Unit->aU->Prop}{E:aD->aU->Prop}(hm:s.heap.DictOf (eQ C.prog C.w) D (gq ks xs))(hl:ks.length=xs.length)(hz:ks.length<=16777216)
  (k':∀h',h'.DictOf (eQ C.prog C.w) D (gq (vf ks k) (vPut ks xs k x))->cy D s.heap h'->K () {s with heap:=h',toks:=s.toks+1}):wpAny (bI C.prog C.w) A (dictSet D (.int k t) x) K E s:=by
 refine wpAny_dictSet_pairs (knd:=eQ C.prog C.w) (k:=k) (nb _ _ k t) hm (λh' hm' hs=>k' h' ?_ hs) (by refine ao (gp hl) (ao cW ?_);exact hz);refine dk (yK hl (xZ hm hl)) ?_;exact hm'
theorem DU(X:cN C P F σ s.heap){a:aY}(ha:s.heap.get? a=none): (a==gW)=false:=by
 obtain⟨o,e⟩:=C.sysIn;cases q: (a==gW)with
 |false=>rfl
 |true=>
  have:a=gW:=by exact of_decide_eq_true (q)
  clear q;subst this;rw[(X.base _ _ e).2]at ha;clear e;exact n9 ha
theorem Jh{pos}:EvalOk C d env ns PP (bS (.Dict [] [] pos) env) (.dict [] []):=by
 intro e8 σ Q A F s hA X Y W;refine wpAny_Dict_empty ?_;have hf:=d8 s.heap;have k:∀b o,s.heap.get? b=some o->(s.heap.push {cls:= .type "dict",data:= .dict #[]}).get? b=some o:=λb o e=>aQ _ e;exact⟨.ref s.heap.objs.size,F,_,⟨⟨_,s.toks,rfl⟩,⟨λw_ x=>x,d3.all k⟩,d3.all k,X.alloc (m:= .dict [] []) k hf ⟨[],qj _,rfl,trivial,DU X hf⟩⟩,rfl,W _ (X.fresh_σ hf)⟩
theorem JO{ek ev pos ik iv}(hk:EvalOk C d env ns (PP) (bS ek env) ik)(hk':∀PP,EvalOk C d env ns PP (bS ek env) ik)(hv:∀PP,EvalOk C d env ns PP (bS ev env) iv):EvalOk C d env ns PP (bS (.Dict [some ek] [ev] pos) env) (.dict [ik] [iv]):=by
 intro e8 σ Q A F s hA X Y W;refine wpAny_Dict_any rfl rfl (by exact nofun) (by exact aj rfl) ?_;generalize hD:s.heap.objs.size=D;have hf:s.heap.get? D=none:=hD▸d8 s.heap;have k:∀b o,s.heap.get? b=some o->(s.heap.push {cls:= .type "dict",data:= .dict #[]}).get? b=some o:=λb o e=>aQ _ e;generalize hH:s.heap.push {cls:= .type "dict",data:= .dict #[]}=H at k;have hm:H.DictOf (eQ C.prog C.w) D (gq [] []):=by refine dk hH (dk hD ?_);exact qj _
 have sy:Aft C PP F s F σ {s with heap:=H,toks:=s.toks}:=Aft.grow X k;refine kC (id hm) ?_;intro PC _ _ go _;have zH:cN C (Pl PP [D]) F σ H:=sy.rep.prot1 λb hb=>by
  refine ao (aq.mp hb) ?_;exact⟨X.fresh_F hf,X.fresh_sp hf,X.fresh_σ hf,_,go⟩
 have nD:¬PP D:=X.fresh_P hf;have BE:=Y.step sy;have pD:Pl PP [D] D:= .inr (by exact .head _);have subP:∀b,PP b->Pl PP [D] b:=λb h=> .inl h;refine aB ((hk' _ e8 σ _ A F {s with heap:=H} hA zH (BE.sub subP) W).use λv x bz bj s₁ bp eD cY=>aB (bP (aB ((hv _ e8 bj _ A bz s₁ hA bp.rep ((BE.sub subP).step bp) cY).use λu y gy fx dv b8 ip jI=>aB (bZ (bc ?_))))));refine aB (bP (bc (bc ?_)));refine oX jI λi hi jI=>?_;have hi:=mV hi;clear cY;subst hi;clear hi BE zH go k hH hD W Y hv hk' hk;obtain⟨t,rfl⟩:=eD;have nV:dv.heap.DictOf (eQ C.prog C.w) D (gq [] []):=gJ (gJ hm (bp.keep D pD)) (b8.keep D pD);have a:=(sy.trans (bp.sub subP)).trans (b8.sub subP);unfold storeAll;rw[wZ];refine aB (aB (vW (ks:=[]) (xs:=[]) nV rfl (by decide) λjH KL sV=>bc ?_));refine bc ?_;refine kC (id KL) ?_;intro PD _ _ N0 _;obtain⟨dS,tH⟩:=b8.rep.poke subP a sV pD nD ⟨_,N0⟩ (dv.toks+1);obtain⟨fD,sD,σD,_⟩:=tH.prot pD;have kF:gX gy dv.heap gy jH:=⟨λw_ x=>x,λb f o e=>(sV.2 b λq=>fD (q▸f)).trans e⟩;have sx:=(tH.sub subP).adopt (m:= .dict [i] [u]) fD nD sD σD ⟨[y],KL,rfl,⟨ip.mono kF,trivial⟩,DU X hf⟩;exact⟨.ref D,gy,_,⟨dS.rest,dS.ext,dS.keep,sx⟩,rfl,jI D σD⟩
theorem yf{T:String}{r dd:aY}{n:Nat}{Pi:Nat->aD->Prop}{OK:cx->Prop}{zs:List Int}{K:aD->aU->Prop}{E:aD->aU->Prop}(S:KdlSrc C.prog C.w T r dd n Pi OK)(hh:A.handled=none)(hok:OK s.heap)
  (hn:n=zs.length) (h64:n<64) (hp:∀i v,Pi i v->∃k t,zs[i]?=some k/\v= .int k t)
  (k:∀h' tk D (xs:List aD) ms,(∀b o,s.heap.get? b=some o->h'.get? b=some o)->s.heap.get? D=none->h'.PlainList D xs.toArray->xx xs ms->ms.Perm zs->ms.Pairwise (·<=·)->K (.ref D) {s with heap:=h',toks:=tk}):
  wpAny (bI C.prog C.w) A (call (.builtin "sorted") [.ref r]) K E s:=by
 refine call_function_entry kind_sorted plain_sorted entry_sorted (args_sorted1 _) ?_;unfold Builtin.«sorted»;refine aB (m:=checkCount "sorted" 1 1 _) (bc ?_);refine aB (kdu_collect (A:=A.in1) S hh hok (by refine ao cW ?_;exact ci (nat_lit 0x62c02881358241) rfl h64) λh' tk acc hk hacc=>?_);have hl:acc.toList.length=n:=by refine ao md ?_;exact hacc.1
 have hI:xx acc.toList zs:=by
  have:∀(xs:List aD) (zs:List Int),xs.length=zs.length->(∀(i:Nat) (v:aD),xs[i]?=some v->∃k t,zs[i]?=some k/\v=Aa k t)->xx xs zs:=by
   intro xs
   induction xs with
   |nil=>intro zs h _;cases zs with
    |nil=>exact .nil
    |cons _ _=>simp at h
   |cons x xs ih=>intro zs h hq;cases zs with
    |nil=>simp at h
    |cons z zs=>
     clear hl hacc hk hp h64 hn hh S;refine lk (hq 0 x rfl) ?_;rintro k t e rfl;replace e:=ac e;subst e;exact .cons _ _ (ih zs (by exact cL (h)) λi v e=>by simpa using hq (i+1) v (by exact e))
  refine this _ _ (by exact ao hl (ao hn rfl)) λi v e=>hp i v (hacc.2 i v (by refine dk qz ?_;exact e))
 refine aB (ji ?_ (by refine ao hl (ao cW ?_);exact ci (nat_lit 0x62c02881358241) rfl h64));have hD: (h'.push {cls:= .type "list",data:= .seq acc.toList.toArray}).get? h'.objs.size=some (fU "list" acc.toList.toArray 0):=bk _ rfl;have fresh:s.heap.get? h'.objs.size=none:=by
  cases q:s.heap.get? h'.objs.size with
  |none=>rfl
  |some o=>exact absurd (bY (hk _ _ q)) (fo _)
 refine aB (bP (vx slot_list_sort ⟨_,hD,rfl⟩ entry_list_sort (list_sort_tree hD hI (by refine ao hl ?_;exact h64) λout ns' b1 b2 b3=>⟨_,rfl,?_⟩) (args_list_sort _)));refine bc ⟨_,rfl,?_⟩;refine k _ _ h'.objs.size out.toList ns' (λb o e=>?_) fresh ?_ b1 b2 b3
 ·have e1:=hk b o e
  have hlt:=bY e1;refine ao (sortedHeap_old (ce hlt) (by rw[pW];exact cM hlt)) ?_;exact aQ _ e1
 ·obtain⟨e,he⟩:=sortedHeap_at (out:=out) hD
  exact⟨e,by exact ao he rfl⟩
theorem EA{xs:List aD}{ms:List Int}(h:xx xs ms):RL C F s.heap (ms.map V.int) xs:=by
 induction h with
 |nil=>exact trivial
 |cons _ _ _ ih=>exact⟨⟨_,rfl⟩,ih⟩
theorem zV{xs:List aD}:∀{ks:List Int} {i:Nat} {k:Int} {x:aD},ks.length=xs.length->(gq ks xs)[i]?=some (k,x)->ks[i]?=some k:=by
 intro ks i k x h e;have:=congrArg (λo=>o.map Prod.fst) e;simp only[lW]at this;rw[<- bb,tw h]at this;exact this
theorem Gx{k:Int}{v:aD}(h: (eQ C.prog C.w).is k v=true):∃t,v= .int k t:=by
 simp only[eQ]at h;cases v<;>first|(simp[CV]at h;obtain rfl:=h;exact⟨_,rfl⟩)|(simp[CV]at h)
theorem Ch{o:V}{x:aD}{ks:List Int}{vs:List V}{K:aD->aU->Prop}{E:aD->aU->Prop}{Q:V->AH->Prop}(hA:gF A d)(X:cN C P F σ s.heap)(r:R C F s.heap o x)(h:iQ σ o=some (ks,vs))(h64:ks.length<64)
  (hw:∀ms:List Int,ms.Perm ks->ms.Pairwise (·<=·)->jU (ms.map V.int) σ Q):Tri C A P F (call (.builtin "sorted") [x]) Q s:=by
 obtain⟨a,xs,rfl,hm,hl,rr,hsy⟩:=gV h X r;obtain⟨ep,hat⟩:=hm.dictAt;refine yf (zs:=ks) (kdl_dict (knd:=eQ C.prog C.w) (kvs:=gq ks xs) (ep:=ep) hsy) hA.1 hat (gp hl) (by refine ao (gp hl) ?_;exact h64) (λi v ⟨k,y,e,hk⟩=>?_) λh' tk D ys ms kk hD hpl hI hp hs=>?_
 ·clear hat r hsy rr hm hw h64 h X;obtain⟨t,rfl⟩:=Gx hk
  exact⟨k,t,zV hl e,rfl⟩
 ·exact fQ (hw ms hp hs) X (EA hI) hD kk hpl
theorem B0{a v:aY}{xs:List aD}{ks:List Int}{Q:V->AH->Prop}(hA:gF A d)(X:cN C P F σ s.heap)(hv:KdlKeysView s.heap v a)(hm:s.heap.DictOf (eQ C.prog C.w) a (gq ks xs))(hl:ks.length=xs.length)(h64:ks.length<64)
  (hw:∀ms:List Int,ms.Perm ks->ms.Pairwise (·<=·)->jU (ms.map V.int) σ Q):Tri C A P F (call (.builtin "sorted") [.ref v]) Q s:=by
 obtain⟨ep,hat⟩:=hm.dictAt;refine yf (zs:=ks) (kdl_keys (knd:=eQ C.prog C.w) (kvs:=gq ks xs) (ep:=ep)) hA.1 ⟨hv,hat⟩ (gp hl) (by refine ao (gp hl) ?_;exact h64) (λi v ⟨k,y,e,hk⟩=>?_) λh' tk D ys ms kk hD hpl hI hp hs=>?_
 ·clear hat hw h64 hm hv X;obtain⟨t,rfl⟩:=Gx hk
  exact⟨k,t,zV hl e,rfl⟩
 ·exact fQ (hw ms hp hs) X (EA hI) hD kk hpl
theorem lU{f:Expr}{es:List Expr}{pos:hU}(hf:∀o x p,f≠ .Attribute o x p):bS (.Call f es [] pos) env=(do let fv <- bS f env;uK pos fv [] (jb pos (eU es env)) []):=by
 cases f<;>first|rfl|exact absurd rfl (hf _ _ _)
set_option tactic.hygienic true in
theorem zZ{f:Str}{n:String}(h:sX ns f n=true):f=ae n/\∃i,cj ns f=some (i,.globalImplicit):=by
 replace h:=bo.mp h;refine⟨by exact of_decide_eq_true (h.1),?_⟩;have h2:=h.2;cases q:cj ns f with
 |none=>rw[q]at h2;exact mj h2
 |some p=>rw[q]at h2;exact⟨p.1,congrArg some (congrArg (EZ p.1) (beq_iff_eq.mp h2))⟩
theorem Bl{f pf o x p q pos io}(hg:sX ns f "sorted"=true)(hx:x=ae "keys")(hb:f7 o=true)(hl: (p.endLine==q.line)=true)(ho:EvalOk C d env ns PP (bS o env) io):
  EvalOk C d env ns PP (bS (.Call (.Name f pf) [.Call (.Attribute o x p) [] [] q] [] pos) env) (.sortedKeys io):=by
 subst hx;refine ID (zZ hg) ?_;rintro rfl i hi;intro e8 σ Q A F s hA X Y W;refine ao (lU (by intro o x p e;cases e)) ?_;refine aB (ta (n:="sorted") X Y (by decide+kernel) hi rfl (by decide+kernel) λy hy=>?_);have hy':C.gv "sorted"=some y:=hy;have hs:=C.blt ("sorted",.builtin "sorted") (by decide+kernel);rw[hy']at hs;replace hs:=ac hs;subst hs;refine rE (P:=λw_=>True) rfl (λh w_=>⟨.machine,.inr (.inl rfl),.now⟩) (rF (uN ?_));show wpAny _ A (bS (.Call (.Attribute o (ae "keys") p) [] [] q) env) _ _ _;rewrite[arm_eval_Call];refine ao (lQ hb) ?_;refine aB ((ho e8 σ _ A F s hA X Y W).use λv x bz bj s₁ bp eD cY=>aB (bZ ?_));refine d4 (zP cY) ?_;rintro⟨ks,vs⟩ hd h64 nw;have hform:rI (([]:List Expr).length+([]:List Keyword).length) (jb q (eU [] env)) (backToKw q (we [] env))=true:=rfl;have hpos:ou true o env p q=dD q:=by unfold ou;simp[hl]
 unfold methodCall;refine ao hform ?_;clear hform cY W Y X hi hg ho hl hb;obtain⟨a,xs,rfl,hm,hlen,rr,hsy⟩:=gV hd bp.rep eD;refine nE (id hm) ?_;intro o' es ep ho' hx' _;refine aB (bP (nM (hm.typeIs (s:=s₁)) PySem.F.plainAttrs_dict PySem.F.slot_dict_keys PySem.F.type_dict_keys (λa' e=>by cases e;exact⟨o',ho',hx'.2.1⟩) ?_));refine aB (nO hpos ?_);show wpAny _ A (uK q (.builtin "dict.keys") [.ref a] [] []) _ _ _;refine rE (P:=λw_=>True) rfl (λh w_=>⟨.machine,.inr (.inl rfl),.now⟩) (evalArgs_nil3 ⟨trivial,?_⟩);show wpAny _ A (call (.builtin "dict.keys") [.ref a] []) _ _ _;refine call_meetsIn PySem.F.slot_dict_keys (hm.typeIs (s:=s₁)) PySem.F.entry_dict_keys (PySem.F.args_dict_keys_1 _) (kdl_meets_keys (eQ C.prog C.w) a hsy) ⟨⟨_,hm⟩,?_⟩;refine wg ⟨trivial,?_⟩;have k:∀b o,s₁.heap.get? b=some o->(s₁.heap.push {cls:= .type "dict_keys",data:= .fields #[.ref a]}).get? b=some o:=λb o e=>aQ _ e;have b8:Aft C PP bz s₁ bz bj {s₁ with heap:=s₁.heap.push {cls:= .type "dict_keys",data:= .fields #[.ref a]},toks:=s₁.toks}:=Aft.grow bp.rep k;exact(B0 (d:=d) hA b8.rep ⟨_,bk _ rfl,rfl,rfl⟩ (gJ hm (k a)) hlen h64 nw).from (bp.trans b8)
theorem Az{M:uI}{K:aD->aU->Prop}{E:aD->aU->Prop}(k:K (.ref s.heap.objs.size) {s with heap:=s.heap.push {cls:= .type "dict",data:= .dict #[]}}):wpAny M A newDict K E s:=by
 simp only[newDict,newObj];exact aB (wpAny_alloc (bc k))
inductive OG(C:Cx)(PP F₀:dQ)(s₀:aU)(cenv:o7)(nm:cD)(I D:aY)(xv:V)(items:List V)(Z:List V->List Int->List V->bT->AH->Prop)(n:Nat)(s:aU):Prop
 |mk (F:dQ) (σ:AH) (e8:bT) (i:Nat) (ks:List Int) (acc:List V) (xs:List aD) (h1:n=items.length-i) (h2:i<=items.length) (h4:Aft C PP F₀ s₀ F σ s) (h5:cN C (Pl PP [cenv.locals,I,D]) F σ s.heap) (h6:FR C cenv nm (Pl PP [cenv.locals]) F e8 s.heap) (h7:je C F s.heap I xv i)
   (h8:s.heap.DictOf (eQ C.prog C.w) D (gq ks xs)) (h3:ks.length=xs.length) (h9:RL C F s.heap acc xs) (h10:Z (items.drop i) ks acc e8 σ):OG C PP F₀ s₀ cenv nm I D xv items Z n s
theorem DH{ek ev iter:Expr}{x:Str}{px:hU}{scope:Scope}{pos:hU}{cenv:o7}{I D:aY}{ik iv:IE}{t:Nat}{xv:V}{items:List V}{Q:V->AH->Prop}{Rr:yN->aU->Prop}{F₀:dQ}{s₀:aU}
  (hx:cj scope.names x=some (t,.local)) (hik:∀PP',EvalOk C d cenv scope.names PP' (bS ek cenv) ik) (hiv:∀PP',EvalOk C d cenv scope.names PP' (bS ev cenv) iv) (hA:gF A d)
  (hID:I≠D) (hIL:I≠cenv.locals) (hDL:D≠cenv.locals) (nI:¬PP I) (nD:¬PP D) (nL:¬PP cenv.locals) (hτ:∃τ,dw τ xv=some items)
  (hR:∀F σ s₁ m ks acc xs,Aft C PP F₀ s₀ F σ s₁->cN C (Pl PP [cenv.locals,D]) F σ s₁.heap->s₁.heap.Ns cenv.locals m->s₁.heap.DictOf (eQ C.prog C.w) D (gq ks xs)->ks.length=xs.length->RL C F s₁.heap acc xs->(∀a,σ a=none->Q (.ref a) (σ.set a (.dict ks acc)))->Rr (.ok .next) s₁):
  ∀(n:Nat) (s:aU),(OG C PP F₀ s₀ cenv scope.names I D xv items (λl ks acc e8 σ=>rN (ig C d ik) (ig C d iv) (c8 · t) xv items Q l ks acc e8 σ) n s)->
  codeAny (bI C.prog C.w) A (.compLoop (.DictComp ek ev [⟨.Name x px,iter,[],0⟩] scope pos) 0 (.ref I) (.ref D) cenv) Rr s:=by
 intro n s hI;refine codeAny_compLoop_testsD (λn s=>OG C PP F₀ s₀ cenv scope.names I D xv items (λl ks acc e8 σ=>rN (ig C d ik) (ig C d iv) (c8 · t) xv items Q l ks acc e8 σ) n s) ?_ n hI;clear hI n s;rintro n s ⟨F,σ,e8,i,ks,acc,xs,rfl,hi,a,X,Y,it,hl,hlen,rr,W⟩;have sub1:∀b,Pl PP [cenv.locals] b->Pl PP [cenv.locals,I,D] b:=λb h=>h.imp id λq=>by simp at q ⊢;exact .inl q
 have subP:∀b,PP b->Pl PP [cenv.locals,I,D] b:=λb h=> .inl h;have pI:Pl PP [cenv.locals,I,D] I:= .inr (by exact .tail _ (.head _));have pD:Pl PP [cenv.locals,I,D] D:= .inr (by exact .tail _ (.tail _ (.head _)));have pL:Pl PP [cenv.locals,I,D] cenv.locals:= .inr (by exact .head _);have n1I:¬Pl PP [cenv.locals] I:=λq=>q.elim nI λq=>by simp at q;exact hIL q
 have n1D:¬Pl PP [cenv.locals] D:=λq=>q.elim nD λq=>by simp at q;exact hDL q
 obtain⟨fI,sI,σI,_⟩:=X.prot pI;obtain⟨fD,sD,σD,_⟩:=X.prot pD;obtain⟨fL,sL,σL,_⟩:=X.prot pL;by_cases hlt:i<items.length
 ·obtain⟨v,hv⟩:∃v,items[i]?=some v:=⟨_,ah hlt⟩
  have hdrop:items.drop i=v::items.drop (i+1):=by
   refine ao (cc hlt) ?_;rw[ah hlt]at hv;replace hv:=ac hv;subst hv;rfl
  rw[hdrop]at W;obtain⟨ws,W⟩:=W;refine mG X fI it (.inr ⟨ws,hτ⟩) hv λy cR gP fO ry cH=>?_;have lI:∃o,cR.get? I=some o:=by
   clear W ws it hτ;cases xv<;>first|exact⟨_,cH⟩|((first|refine lk cH ?_;clear cH;intro _ o e _|refine d4 cH ?_;clear cH;intro _ o e _|obtain⟨_,o,e,_⟩:=cH);exact⟨o,e⟩)|(obtain⟨_,_,o,e,_⟩:=cH;exact⟨o,e⟩)|((first|refine bJ cH ?_;clear cH;intro o e _|obtain⟨o,e,_⟩:=cH);exact⟨o,e⟩)|exact cH.elim
  obtain⟨bp,eV⟩:=X.poke subP a fO pI nI lI gP;have eW:∀b,b≠I->∀o,s.heap.get? b=some o->cR.get? b=some o:=λb hb o e=>(fO.2 b hb).trans e;have lK:gX F s.heap F cR:=⟨λw_ x=>x,λb f o e=>eW b (λq=>fI (q▸f)) o e⟩;have p9:FR C cenv scope.names (Pl PP [cenv.locals]) F e8 cR:=Y.poke eW n1I fI;have wi:=gJ hl λo e=>eW D (aV hID) o e;have wj:=rr.mono lK;obtain⟨m,hm,_,qloc⟩:=p9.loc;refine eB (fY ((qloc x t hx).1) hm (λcA nV kz=>?_) (oD Y.kind));have lL:∃o,cA.get? cenv.locals=some o:=let⟨o,_,_,e,_⟩:=nV;⟨o,e⟩;obtain⟨b8,iD⟩:=(show cN C (Pl PP [cenv.locals,I,D]) F σ ({s with heap:=cR,toks:=gP}:aU).heap from eV).poke subP bp kz pL nL lL (gP+1);have pv:∀b,b≠cenv.locals->∀o,cR.get? b=some o->cA.get? b=some o:=λb hb o e=>(kz.2 b hb).trans e;have nz:gX F cR F cA:=⟨λw_ x=>x,λb f o e=>pv b (λq=>fL (q▸f)) o e⟩;have l6:FR C cenv scope.names (Pl PP [cenv.locals]) F (c8 e8 t v) cA:=p9.setLocal hx hm nV kz fL ry;have wm:=gJ wi λo e=>pv D hDL o e;have wn:=wj.mono nz;have nW:je C F cA I xv (i+1):=cH.keep nz λo e=>pv I hIL o e;refine wpAny_tests_nil ?_;refine ao (if_pos rfl) ?_;refine(hik _ (c8 e8 t v) σ _ A F {s with heap:=cA,toks:=gP+1} hA iD (l6.sub sub1) W).use ?_;rintro kv kx l7 kA iP dS rk rL;have wo:=gJ wm (dS.keep D pD);have wp:=wn.mono dS.ext;have qo:je C l7 iP.heap I xv (i+1):=nW.keep dS.ext (dS.keep I pI);have qp:Aft C PP F₀ s₀ l7 kA iP:=b8.trans (dS.sub subP);have tE:=(show FR C cenv scope.names (Pl PP [cenv.locals]) F (c8 e8 t v) ({s with heap:=cA,toks:=gP+1}:aU).heap from l6).step (dS.sub sub1);refine(hiv _ (c8 e8 t v) kA _ A l7 iP hA dS.rep (tE.sub sub1) rL).use ?_;rintro u z oz qr kO eI ru ⟨hz,y5⟩;refine oX y5 λk hk y5=>?_;cases mV hk;clear hk rL dS nW wn wm l6 nz pv iD b8 lL kz nV qloc p hm wj wi p9 lK eW eV bp lI cH ry fO W ws hdrop hv lv_2 σL sL fL lv_1 σD sD lv σI sI n1I pL rr hl it Y X a hR hτ nL hDL hIL hiv hik hx;obtain⟨tk,rfl⟩:=rk;have C0:=gJ wo (eI.keep D pD);have y6:=wp.mono eI.ext;have nX:je C oz kO.heap I xv (i+1):=qo.keep eI.ext (eI.keep I pI);have rM:Aft C PP F₀ s₀ oz qr kO:=qp.trans (eI.sub subP);have tF:=tE.step (eI.sub sub1);refine vW C0 hlen (by exact ci (nat_lit 0x62c02831658241) rfl hz) λC1 sU wq=>?_;obtain⟨wr,_,_,_⟩:=eI.rep.prot pD;have y7:∀b,b≠D->∀o,kO.heap.get? b=some o->C1.get? b=some o:=λb hb o e=>(wq.2 b hb).trans e;have C2:gX oz kO.heap oz C1:=⟨λw_ x=>x,λb f o e=>y7 b (λq=>wr (q▸f)) o e⟩;refine kC (id sU) ?_;intro PE _ _ N1 _;obtain⟨mD,nA⟩:=eI.rep.poke subP rM wq pD nD ⟨_,N1⟩ (kO.toks+1);exact⟨items.length- (i+1),by exact ir (nat_lit 0x358245104721896190242) rfl (ar (bt (nat_lit 0x2b048a158241) rfl hlt)) (ar (bt (nat_lit 0x2028401) rfl hi)),oz,qr,c8 e8 t v,i+1,vf ks k,vPut ks acc k u,vPut ks xs k z,rfl,hlt,mD,nA,tF.poke y7 n1D wr,nX.keep C2 λo e=>y7 I hID o e,sU,(vR hlen).symm,(y6.vPut ru).mono C2,y5⟩
 ·have hie:i=items.length:=by exact aN (bt (nat_lit 0x2028401) rfl hi) (bt (nat_lit 0x4a158244) rfl hlt)
  clear hlt hi;subst hie;rw[gL]at W;obtain⟨ws,W⟩:=W;refine oS hA X it (.inr ⟨ws,hτ⟩) λcR gP fO=>?_;have eW:=kD fO;have lK:gX F s.heap F cR:=⟨λw_ x=>x,λb f o e=>eW b (λq=>fI (q▸f)) o e⟩;have X':cN C (Pl PP [cenv.locals,D]) F σ s.heap:=X.sub λb h=>h.imp id λq=>by simp at q ⊢;exact q.elim .inl λq=> .inr (.inr q)
  have nI':¬Pl PP [cenv.locals,D] I:=λq=>q.elim nI λq=>by simp at q;exact q.elim hIL hID
  have eV:=X'.outE eW fI nI' sI σI;obtain⟨m,hm,_,_⟩:=Y.loc;refine hR F σ _ m ks acc xs (a.trans ⟨⟨cR,gP,rfl⟩,lK,λb p o e=>eW b (λq=>nI (q▸p)) o e,eV.sub λb h=> .inl h⟩) eV (sK hm λo e=>eW _ (aV hIL) o e) (gJ hl λo e=>eW D (aV hID) o e) hlen (rr.mono lK) W
set_option tactic.hygienic true in
theorem xK{ek ev iter:Expr}{x:Str}{px:hU}{sc:Scope}{pos ipos:hU}{iit ik iv:IE}{t:Nat}{Q:V->AH->Prop}{use:Option (aD->uU Unit)}{K:aD->aU->Prop}{E:aD->aU->Prop}
  (g:dL ns sc=true) (hx:fk sc.names x=some t) (hit:EvalOk C d env ns PP (bS iter env) iit) (hik:∀cenv PP',EvalOk C d cenv sc.names PP' (bS ek cenv) ik) (hiv:∀cenv PP',EvalOk C d cenv sc.names PP' (bS ev cenv) iv)
  (hf:∀x,bW iter env x=dD x) (hA:gF A d) (X:cN C PP F σ s.heap) (Y:FR C env ns PP F e8 s.heap) (W:ig C d (.dcomp (hY ns sc.names) t iit ik iv) e8 σ Q)
  (h0:use=none->∀v y bz bj s₁,Aft C PP F s bz bj s₁->R C bz s₁.heap v y->Q v bj->K y s₁)
  (h1:∀u,use=some u->∀v y bz bj s₁ L' m,Aft C PP F s bz bj s₁->R C bz s₁.heap v y->Q v bj->s₁.heap.Ns L' m->¬PP L'->¬bz L'->¬C.sp L'->bj L'=none->
   wpAny (bI C.prog C.w) A (u y) (λw_ dv=>∃m,dv.heap.Ns L' m/\∀h',cy L' dv.heap h'->K .none {dv with heap:=h'}) E s₁):
  wpAny (bI C.prog C.w) A (sP (.DictComp ek ev [⟨.Name x px,iter,[],0⟩] sc pos) sc env ipos newDict false (bS iter env) use) K E s:=by
 obtain⟨hk,hn⟩:=jq g;have hxl:cj sc.names x=some (t,.local):=pF hx;have hclos:jC sc env=dD (mw env sc.names []):=by
  obtain⟨m,n,_⟩:=Y.loc;refine jh λp hp hf=>?_;obtain⟨⟨i,k,e,z⟩,_⟩:=(hn p hp).2.2 hf;obtain⟨_,c,y0,h1,_⟩:=Y.cel _ i k e z;exact⟨c,h1⟩
 refine jm (g:=⟨.Name x px,iter,[],0⟩) (gs:=[]) (cl:=mw env sc.names []) rfl hf hclos hk (λp hp hl=>by exact ao ((hn p hp).2.1) (ao hl rfl)) ?_;refine(hit e8 σ _ A F s hA X Y W).use ?_;intro xv y bz bj s₁ bp eD cY;refine oX cY λitems hitems cY=>?_;refine kI bp.rep eD hitems λo ko go it=>?_;refine Az ?_;refine iO (λp hp=>(hn p hp).1) (by intro y hy;simp at hy) (λgD hns hsb=>?_) hk;dsimp only at hns hsb ⊢;generalize hI:s₁.heap.objs.size=I at*;generalize hH2:s₁.heap.push o=H2 at*;have e2:H2.objs.size=I+1:=by refine dk hH2 ?_;rewrite[eA];refine ao hI ?_;with_reducible rfl
 generalize hH3:H2.push {cls:= .type "dict",data:= .dict #[]}=H3 at*;have e3:H3.objs.size=I+2:=by refine dk hH3 ?_;rewrite[eA];refine ao e2 ?_;with_reducible rfl
 rw[e3]at hns hsb ⊢;refine ao e2 ?_;have none_of:∀b,I<=b->s₁.heap.get? b=none:=λb hb=>by
  cases q:s₁.heap.get? b with
  |none=>rfl
  |some o'=>exact absurd (bY q) (by refine ao hI ?_;exact iM.mpr hb)
 have k3:∀b o',H2.get? b=some o'->H3.get? b=some o':=λb o' e=>by refine dk hH3 ?_;exact aQ _ e
 have k4:∀b o',H3.get? b=some o'->gD.get? b=some o':=λb o' e=>hsb.extBut b o' (by have:=bY e;rw[e3]at this;exact ce this) (aQ _ e);have k:∀b o',s₁.heap.get? b=some o'->gD.get? b=some o':=λb o' e=>k4 b o' (k3 b o' (ko b o' e));have hD4:gD.DictOf (eQ C.prog C.w) (I+1) (gq [] []):=gJ (show H3.DictOf (eQ C.prog C.w) (I+1) (gq [] []) by refine dk hH3 (dk e2 ?_);exact qj _) (k4 _);have eI:Aft C PP bz s₁ bz bj {s₁ with heap:=gD,toks:=s₁.toks+0}:=Aft.grow bp.rep k;have fr:∀b,I<=b->¬bz b/\¬C.sp b/\bj b=none/\¬PP b:=λb hb=>⟨bp.rep.fresh_F (none_of b hb),bp.rep.fresh_sp (none_of b hb),bp.rep.fresh_σ (none_of b hb),bp.rep.fresh_P (none_of b hb)⟩;have hns':gD.Ns (I+2) λw_=>none:=hns;have tF:FR C env ns PP bz e8 gD:=(Y.step bp).step eI;have BD:=(tF.inner g hns').2;have sx:cN C (Pl PP [I+2,I,I+1]) bz bj gD:=eI.rep.prot1 λb hb=>by
  have hb':I<=b/\∃o,gD.get? b=some o:=by
   simp only[a9,dN,or_false]at hb;rcases hb with rfl|rfl|rfl
   ·refine kC hns' ?_;clear hns';intro o' _ _ e _;exact⟨bE _ _,o',e⟩
   ·exact⟨aG _,o,k4 _ _ (k3 _ _ go)⟩
   ·refine kC hD4 ?_;clear hD4;intro o' _ _ e _;exact⟨bE _ _,_,e⟩
  exact⟨(fr b hb'.1).1,(fr b hb'.1).2.1,(fr b hb'.1).2.2.1,hb'.2⟩
 have E4:gX bz H2 bz gD:=⟨λw_ x=>x,λb w_ o' e=>k4 b o' (k3 b o' e)⟩;have nX:je C bz gD I xv 0:=it.keep E4 λo' e=>k4 _ _ (k3 _ _ e);have rM:Aft C PP F s bz bj {s₁ with heap:=gD,toks:=s₁.toks+0}:=bp.trans eI;have Rr:∀(cenv:o7),cenv=rG sc (mw env sc.names []) (I+2) env->codeAny (bI C.prog C.w) A (.compLoop (.DictComp ek ev [⟨.Name x px,iter,[],0⟩] sc pos) 0 (.ref I) (.ref (I+1)) cenv)
   (rH (bI C.prog C.w) A E use K (.ref (I+1)) (I+2)) {s₁ with heap:=gD,toks:=s₁.toks+0}:=by
  rintro cenv rfl;refine DH (PP:=PP) (F₀:=F) (s₀:=s) (Q:=Q) (items:=items) (xv:=xv) hxl (hik _) (hiv _) hA (ce (bR _)) (ce (jT (by decide))) (ce (bR _))
   (fr I (aG _)).2.2.2 (fr (I+1) (bE _ _)).2.2.2 (fr (I+2) (bE _ _)).2.2.2 ⟨bj,hitems⟩ (λtG qs g9 m ks acc xs mD nA hm hl hlen rr nw=>?_) (items.length-0) _
   ⟨bz,bj,_,0,[],[],[],rfl,bg _,rM,sx,BD,nX,hD4,rfl,trivial,cY⟩
  have pD:Pl PP [I+2,I+1] (I+1):= .inr (by exact .tail _ (.head _));have pL:Pl PP [I+2,I+1] (I+2):= .inr (by exact .head _);obtain⟨fD,sD,σD,_⟩:=nA.prot pD;obtain⟨fL,sL,σL,_⟩:=nA.prot pL;have nD:¬Pl PP [I+2] (I+1):=λq=>q.elim (fr (I+1) (bE _ _)).2.2.2 λq=>by simp at q
  have Iq:cN C (Pl PP [I+2]) tG qs g9.heap:=nA.sub λb q=>q.imp id λq=>by simp at q ⊢;exact .inl q
  have OT:=Iq.adopt (m:= .dict ks acc) fD nD sD σD ⟨xs,hl,hlen,rr,DU bp.rep (none_of (I+1) (bE _ _))⟩;obtain⟨v,mE,mi,uT,C3,C4⟩:TrR C (Pl PP [I+2]) tG g9 Q (.ref (I+1)) g9:=⟨.ref (I+1),tG,_,⟨⟨g9.heap,g9.toks,rfl⟩,gX.refl _ _,d3.refl _ _,OT⟩,rfl,nw (I+1) σD⟩;have nq:Aft C PP F s mE mi g9:=mD.trans (uT.sub λb q=> .inl q);obtain⟨fL',sL',σL',_⟩:=uT.rep.prot (a:=I+2) (.inr (by exact .head _));have nL:=(fr (I+2) (bE _ _)).2.2.2;unfold rH;cases use with
  |none=>
   refine⟨m,hm,λh' hs'=>?_⟩;have kk:∀b,b≠I+2->∀o,g9.heap.get? b=some o->h'.get? b=some o:=λb hb o e=>(hs'.2 b hb).trans e;have C5:gX mE g9.heap mE h':=⟨λw_ x=>x,λb f o e=>kk b (λq=>fL' (q▸f)) o e⟩;exact h0 rfl v _ mE mi {g9 with heap:=h'} (nq.trans ⟨⟨h',g9.toks,rfl⟩,C5,λb p o e=>kk b (λq=>nL (q▸p)) o e,nq.rep.outE kk fL' nL sL' σL'⟩) (C3.mono C5) C4
  |some u=>exact h1 u rfl v _ mE mi g9 (I+2) m nq C3 C4 hm nL fL' sL' σL'
 refine codeAny_compStart_dict (Rr _ rfl) (rP nX (Rr _ rfl))
theorem I3{ek ev iter x px sc pos iit ik iv t}(g:dL ns sc=true)(hx:fk sc.names x=some t)(hit:EvalOk C d env ns PP (bS iter env) iit)(hik:∀cenv PP',EvalOk C d cenv sc.names PP' (bS ek cenv) ik)
  (hiv:∀cenv PP',EvalOk C d cenv sc.names PP' (bS ev cenv) iv) (hf:∀x,bW iter env x=dD x):EvalOk C d env ns PP (bS (.DictComp ek ev [⟨.Name x px,iter,[],0⟩] sc pos) env) (.dcomp (hY ns sc.names) t iit ik iv):=by
 intro e8 σ Q A F s hA X Y W;rw[arm_eval_DictComp];exact xK (use:=none) g hx hit hik hiv hf hA X Y W (λw_ v y bz bj s₁ a r q=>⟨v,bz,bj,a,r,q⟩) λu e=>by exact bx e
theorem Es{n:Nat}{e:Expr}{ie:IE}(h:cE ns n e=some ie): (match e with| .Starred ..=>False| .Set ..=>False| .Slice ..=>False|_=>True):=by
 cases n with
 |zero=>exact bx h
 |succ n=>cases e<;>first|trivial|cases h
theorem t6{n:Nat}{e:Expr}{ie:IE}(op:qf)(h:cE ns n e=some ie):kT op e=false:=by
 have:=Es h;cases e<;>first|rfl|exact this.elim
theorem iS{n:Nat}{e:Expr}{ie:IE}(h:cE ns n e=some ie)(x:aD):bW e env x=dD x:=by
 have:=Es h;cases e<;>first|rfl|exact this.elim
theorem JX{n:Nat}{e:Expr}{ie:IE}(h:cE ns n e=some ie)(x y:aD):nK e false x y=Bx [x,y] (By x y):=by
 have:=Es h;cases e<;>first|rfl|exact this.elim
theorem xm{n:Nat}{e:Expr}{ie:IE}{r:List Expr}(h:cE ns n e=some ie):eU (e::r) env=(false,bS e env)::eU r env:=by
 have:=Es h;cases e<;>first|rfl|exact this.elim
structure Ix(C:Cx)(d:Nat)(ns:cD)(es:List Expr)(is:List IE):Prop where
 sp:∀env PP pos,Ht C d env ns PP (uJ (jb pos (eU es env))) is
 plain:∀env pos,(jb pos (eU es env)).any (·.1)=false
 nil:∀env pos,jb pos (eU es env)=[]->is=[]
 all:∀env PP op,D9 C d env ns PP (op== .And) (xw op es env) is
 bools:∀env PP op pos,yJ C d env ns PP (op== .And) (yR pos op (evalEach es env)) is
 tests:∀env PP,tQ C d env ns PP es is
 cons:es=[]↔is=[]
structure qS(C:Cx)(d:Nat)(n:Nat):Prop where
 E:∀ns e ie,cE ns n e=some ie->∀env PP,EvalOk C d env ns PP (bS e env) ie
 T:∀ns e ie,cE ns n e=some ie->∀env PP,TestOk C d env ns PP (isTrue e env (bS e env)) ie
 L:∀ns es is,AZ ns n es=some is->Ix C d ns es is
 O:∀ns o io,cO ns n o=some io->∀env PP,Ow C d env ns PP (evalPart o env) io
theorem Ip:Ix C d ns [] [] where
 sp:=λenv PP pos e8 σ Q A F s hA X Y W=>by
  exact wg ⟨[],F,σ,Aft.refl X,trivial,W⟩
 plain:=λw_ w_=>rfl
 nil:=λw_ w_ w_=>rfl
 all:=λenv PP op=>HC
 bools:=λenv PP op pos=>E7
 tests:=λenv PP e8 σ Q A F s hA X Y W=>by
  exact wpAny_tests_nil ⟨true,F,σ,Aft.refl X,rfl,W⟩
 cons:=⟨λw_=>rfl,λw_=>rfl⟩
theorem Gc{n:Nat}{e:Expr}{ie:IE}{es:List Expr}{is:List IE}(hc:cE ns n e=some ie)(hE:∀env PP,EvalOk C d env ns PP (bS e env) ie)(hT:∀env PP,TestOk C d env ns PP (isTrue e env (bS e env)) ie)(r:Ix C d ns es is):Ix C d ns (e::es) (ie::is) where
 sp:=λenv PP pos e8 σ Q A F s hA X Y W=>by
  refine ao (xm hc) ?_;refine uN ?_;refine(hE env PP e8 σ _ A F s hA X Y W).use λv x bz bj s₁ bp eD cY=>?_;exact(r.sp env PP pos e8 bj _ A bz s₁ hA bp.rep (Y.step bp) cY).use λvs xs gy fx dv b8 ip q=>⟨v::vs,gy,fx,bp.trans b8,⟨eD.mono b8.ext,ip⟩,q⟩
 plain:=λenv pos=>by refine ao (xm hc) ?_;show(false||_)=false;exact r.plain env pos
 nil:=λenv pos h=>by rw[xm hc]at h;cases h
 all:=λenv PP op=>F7 (hT env PP) (r.all env PP op)
 bools:=λenv PP op pos=>by
  rw[arm_evalEach_cons];cases es with
  |nil=>refine ao (r.cons.mp rfl) ?_;exact FQ (hE env PP)
  |cons e' es'=>
   cases is with
   |nil=>have:=r.cons.mpr rfl;cases this
   |cons ie' is'=>exact DZ (hE env PP) (r.bools env PP op pos)
 tests:=λenv PP e8 σ Q A F s hA X Y W=>by
  cases es with
  |nil=>
   rw[r.cons.mp rfl]at W;refine wpAny_tests_one (hT env PP e8 σ Q A F s hA X Y W)
  |cons e' es'=>
   cases is with
   |nil=>have:=r.cons.mpr rfl;cases this
   |cons ie' is'=>exact(show False from W).elim
 cons:=⟨λh=>(nomatch h),λh=>(nomatch h)⟩
theorem DM{n:Nat}(hE:∀ns e ie,cE ns n e=some ie->∀env PP,EvalOk C d env ns PP (bS e env) ie)(hT:∀ns e ie,cE ns n e=some ie->∀env PP,TestOk C d env ns PP (isTrue e env (bS e env)) ie)
  (hL:∀ns es is,AZ ns n es=some is->Ix C d ns es is):∀ns es is,AZ ns (n+1) es=some is->Ix C d ns es is:=by
 intro ns es is h;cases es with
 |nil=>replace h:=ac h;subst h;exact Ip
 |cons e es=>
  refine oB h λie h1 h2=>?_;clear h;refine oM h2 ?_;rintro is' h3 rfl;exact Gc h1 (hE _ _ _ h1) (hT _ _ _ h1) (hL _ _ _ h3)
set_option tactic.hygienic true in
theorem iE{x:Str}{i:Nat}(h:cB ns x=some i):∃k,cj ns x=some (i,k)/\(k= .local\/k= .cell\/k= .free):=by
 refine oB h ?_;rintro⟨j,k⟩ e h;cases k<;>first|exact bx h|(replace h:=ac h;subst h;exact⟨_,e,.inl rfl⟩)|(replace h:=ac h;subst h;exact⟨_,e,.inr (.inl rfl)⟩)|(replace h:=ac h;subst h;exact⟨_,e,.inr (.inr rfl)⟩)
inductive O4(ns:cD)(f:Expr)(es:List Expr)(o:Expr):Prop
 |mk (g:Str) (pf:hU) (x:Str) (p q:hU) (h1:f= .Name g pf) (h2:es=[.Call (.Attribute o x p) [] [] q]) (h3:sX ns g "sorted"=true) (h4:x=ae "keys") (h5:f7 o=true) (h6: (p.endLine==q.line)=true):O4 ns f es o
theorem FF{f:Expr}{es:List Expr}{o:Expr}(h:Bk ns f es=some o):O4 ns f es o:=by
 refine oB h λg h1 h=>?_;refine oB h λe h2 h=>?_;refine oB h ?_;rintro⟨cf,ces,q⟩ h3 h;refine oB h ?_;rintro⟨o',x,p⟩ h4 h;split at h
 ·rename_i hc
  replace h:=ac h;subst h;simp only[bD]at hc;obtain⟨⟨⟨⟨h0,h6⟩,h7⟩,h8⟩,h9⟩:=hc;clear h;clear h;clear h;clear h;obtain⟨pf,rfl⟩:=kR h1;cases qJ h2;cases ET h3;cases EM h4;cases fe.mp h0;exact⟨g,pf,x,p,q,rfl,rfl,h6,by exact of_decide_eq_true (h7),h8,h9⟩
 ·exact bx h
theorem yt:∀{n:Nat} {es:List Expr} {is:List IE},AZ ns n es=some is->is.length=es.length:=by
 intro n
 induction n with
 |zero=>intro es is h;exact bx h
 |succ n ih=>
  intro es is h;cases es with
  |nil=>replace h:=ac h;subst h;rfl
  |cons e es=>
   refine oB h λie h1 h2=>?_;clear h1 h;refine oM h2 ?_;rintro is' h3 rfl;simp[ih h3]
theorem zO{α:Type}:∀{l:List (Option α)} {r:List α},Dn l=some r->l=r.map some
 |[],_,h=>by replace h:=ac h;subst h;rfl
 |some a::l,r,h=>by
  refine oM h ?_;rintro r' h1 rfl;exact ao bC (dk (zO h1) rfl)
 |none::_,_,h=>by exact bx h
theorem uc{t:uU aD}{ie:IE}(h:∀e8 σ Q,¬ig C d ie e8 σ Q):EvalOk C d env ns PP t ie:=λe8 σ Q A F s hA X Y W=>absurd W (h e8 σ Q)
theorem K4{n:Nat}(H:qS C d n){ks vs:List Expr}{iks ivs:List IE}{pos:hU}(h3:AZ ns n ks=some iks)(h5:AZ ns n vs=some ivs)(env:o7)(PP:dQ):EvalOk C d env ns PP (bS (.Dict (ks.map some) vs pos) env) (.dict iks ivs):=by
 have l1:=yt h3;have l2:=yt h5;have one:∀{n e ie},AZ ns n [e]=some [ie]->∃m,n=m+1/\cE ns m e=some ie:=λ{n e ie} h=>by
  cases n with
  |zero=>clear h5;exact bx h
  |succ m=>
   refine oB h λie h1 h2=>?_;refine oM h2 λis' h3 e=>?_;cases e;exact⟨m,rfl,h1⟩
 have lift:∀{e ie},AZ ns n [e]=some [ie]->∀env PP,EvalOk C d env ns PP (bS e env) ie:=λ{e ie} h env PP=>by
  intro e8 σ Q A F s hA X Y W;have hc:=(one h);refine bJ hc ?_;clear hc;intro m _ hc;have L:=(H.L _ _ _ h).bools env PP .And pO e8 σ Q A F s hA X Y W;exact L
 cases iks with
 |nil=>
  have e1:ks=[]:=co.mp l1.symm;clear l1 h3;subst e1;cases ivs with
  |nil=>
   have e2:vs=[]:=co.mp l2.symm;clear l2 h5;subst e2;exact Jh
  |cons _ _=>exact uc λe8 σ Q W=>W
 |cons ik iks=>
  cases ivs with
  |nil=>exact uc λe8 σ Q W=>by cases iks<;>exact W
  |cons iv ivs=>
   cases iks with
   |cons _ _=>exact uc λe8 σ Q W=>W
   |nil=>
    cases ivs with
    |cons _ _=>exact uc λe8 σ Q W=>W
    |nil=>
     match ks,vs,l1,l2 with
     |[ek],[ev],_,_=>exact JO (lift h3 env PP) (λPP=>lift h3 env PP) λPP=>lift h5 env PP
section
variable{n:Nat}{ie:IE}(H:qS C d n)
inductive CmA(ns:cD)(n:Nat)(a:Expr)(ops:List qf)(bs:List Expr)(ie:IE):Prop
 |one (op:qf) (b:Expr) (ia ib:IE) (h1:ops=[op]) (h2:bs=[b]) (h3:cE ns n a=some ia) (h4:cE ns n b=some ib) (h5:ie= .cmp op ia ib):CmA ns n a ops bs ie
 |two (op op':qf) (b c:Expr) (ia ib ic:IE) (h1:ops=[op,op']) (h2:bs=[b,c]) (h3:cE ns n a=some ia) (h4:cE ns n b=some ib) (h5:cE ns n c=some ic) (h6:ie= .cmp2 op op' ia ib ic):CmA ns n a ops bs ie
inductive On(ns:cD)(n:Nat)(elt:Expr)(gs:List gB)(sc:Scope)(ie:IE):Prop
 |one (hg:dL ns sc=true) (x:Str) (px:hU) (it:Expr) (fs:List Expr) (t:Nat) (iit:IE) (ifs:List IE) (ielt:IE) (h1:gs=[⟨.Name x px,it,fs,0⟩]) (h2:fk sc.names x=some t) (h3:cE ns n it=some iit) (h4:AZ sc.names n fs=some ifs) (h5:cE sc.names n elt=some ielt) (h6:ie= .comp (hY ns sc.names) t iit ifs ielt):On ns n elt gs sc ie
 |two (hg:dL ns sc=true) (x:Str) (px:hU) (it:Expr) (x':Str) (px':hU) (it':Expr) (t:Nat) (iit:IE) (t':Nat) (iit' ielt:IE) (h1:gs=[⟨.Name x px,it,[],0⟩,⟨.Name x' px',it',[],0⟩]) (h2:fk sc.names x=some t) (h3:cE ns n it=some iit) (h4:fk sc.names x'=some t') (h5:cE sc.names n it'=some iit') (h6:cE sc.names n elt=some ielt) (h7:ie= .comp2 (hY ns sc.names) t iit t' iit' ielt):On ns n elt gs sc ie
inductive O0(ns:cD)(n:Nat)(k v:Expr)(gs:List gB)(sc:Scope)(ie:IE):Prop
 |mk (hg:dL ns sc=true) (x:Str) (px:hU) (it:Expr) (t:Nat) (iit ik iv:IE) (h1:gs=[⟨.Name x px,it,[],0⟩]) (h2:fk sc.names x=some t) (h3:cE ns n it=some iit) (h4:cE sc.names n k=some ik) (h5:cE sc.names n v=some iv) (h6:ie= .dcomp (hY ns sc.names) t iit ik iv):O0 ns n k v gs sc ie
theorem Lm{x:Str}{p:hU}(h:cE ns (n+1) (.Name x p)=some ie)(env:o7)(PP:dQ):EvalOk C d env ns PP (bS (.Name x p) env) ie:=by
 replace h: (if x==ae "__debug__" then none else _)=some ie:=h;split at h
 ·exact bx h
 ·rename_i hd
  have hd:=d9.mpr hd;cases e:cj ns x with
  |none=>rw[e]at h;exact bx h
  |some q=>
   obtain⟨i,k⟩:=q;rw[e]at h;cases k with
   |«local»=>replace h:=ac h;subst h;exact G4 hd e (.inl rfl)
   |cell=>replace h:=ac h;subst h;exact G4 hd e (.inr (.inl rfl))
   |free=>replace h:=ac h;subst h;exact G4 hd e (.inr (.inr rfl))
   |globalImplicit=>
    refine oB h λm hm h2=>?_;split at h2
    ·rename_i hg
     replace h2:=ac h2;subst h2;exact LS hd e (ur hm) (by exact jj (hg))
    ·clear h;exact bx h2
   |_=>clear e hd;clear hd;exact bx h
theorem KC{a:Expr}{ops:List qf}{bs:List Expr}{p:hU}(h:cE ns (n+1) (.Compare a ops bs p)=some ie):
  CmA ns n a ops bs ie:=by
 replace h: (match Ai ops with
    |some o=>(cE ns n a).bind λa=>(Ai bs).bind λb=>(cE ns n b.1).bind λb1=>(cE ns n b.2).map λb2=>IE.cmp2 o.1 o.2 a b1 b2
    |none=>(yv ops).bind λop=>(cE ns n a).bind λa=>(yv bs).bind λb=>(cE ns n b).map λb=>IE.cmp op a b)=some ie:=h
 cases e:Ai ops with
 |some o=>
  obtain⟨o1,o2⟩:=o;rw[e]at h;refine oB h λia h1 h=>?_;refine oB h ?_;rintro⟨b,c⟩ h2 h;refine oB h λib h3 h=>?_;refine oM h λic h4 h=>?_;exact .two _ _ _ _ _ _ _ (Ap e) (Ap h2) h1 h3 h4 h.symm
 |none=>
  rw[e]at h;refine oB h λop h1 h=>?_;refine oB h λia h2 h=>?_;refine oB h λb h3 h=>?_;refine oM h λib h4 h=>?_;exact .one _ _ _ _ (qJ h1) (qJ h3) h2 h4 h.symm
include H
theorem NG{o i:Expr}{p:hU}(h:cE ns (n+1) (.Subscript o i p)=some ie)(env:o7)(PP:dQ):EvalOk C d env ns PP (bS (.Subscript o i p) env) ie:=by
 refine oB h λio h1 h=>?_;cases e:Ar i with
 |some s=>
  obtain⟨lo,hi⟩:=s;rw[e]at h;obtain⟨p',rfl⟩:=GR e;refine oB h λil h3 h4=>?_;clear e h;clear h;refine oM h4 ?_;rintro ih h5 rfl;exact Jj (H.E _ _ _ h1 env PP) (H.O _ _ _ h3 env PP) (H.O _ _ _ h5 env PP)
 |none=>
  rw[e]at h;clear e;refine oM h ?_;rintro ii h3 rfl;exact NP (JX h3) (H.E _ _ _ h1 env PP) (H.E _ _ _ h3 env PP)
theorem Ll{f:Expr}{es:List Expr}{kw:List Keyword}{q:hU}(h:cE ns (n+1) (.Call f es kw q)=some ie)(env:o7)(PP:dQ):EvalOk C d env ns PP (bS (.Call f es kw q) env) ie:=by
 replace h: (if kw.isEmpty then _ else none)=some ie:=h;split at h
 ·rename_i hk
  cases fe.mp hk;cases e:BY f with
  |some a=>
   obtain⟨o,x,p⟩:=a;rw[e]at h;cases EM e;replace h: (if f7 o && (p.endLine==q.line) && decide (es.length<20)then _ else none)=some ie:=h;split at h
   ·rename_i hg
    simp only[bD,decide_eq_true_eq]at hg;refine oB h λio h1 h2=>?_;refine oB h2 λm hm h3=>?_;clear h2 h e hk;refine oM h3 ?_;rintro is h4 rfl;have L:=H.L _ _ _ h4;exact IL (ur hm) hg.1.1 hg.1.2 hg.2 (H.E _ _ _ h1 env PP) (λpos=>L.sp env PP pos) (L.plain env) (L.nil env)
   ·exact bx h
  |none=>
   rw[e]at h;cases ho:Bk ns f es with
   |some o=>
    rw[ho]at h;clear e hk;refine oM h ?_;rintro io h1 rfl;obtain⟨g,pf,x,p,q,rfl,rfl,k1,k2,k3,k4⟩:=FF ho;exact Bl k1 k2 k3 k4 (H.E _ _ _ h1 env PP)
   |none=>
    rw[ho]at h;replace h: (if es.length<20 then _ else none)=some ie:=h;split at h
    ·refine oB h λio h1 h2=>?_
     clear h ho hk;refine oM h2 ?_;rintro is h4 rfl;have L:=H.L _ _ _ h4;exact Lj (H.E _ _ _ h1 env PP) (λpos=>L.sp env PP pos) (L.plain env) (L.nil env) (lU λo x p e'=>by clear h1;subst e';exact n9 e)
    ·exact bx h
 ·exact bx h
omit H in
theorem HJ{elt:Expr}{gs:List gB}{sc:Scope}{p:hU}(h:cE ns (n+1) (.ListComp elt gs sc p)=some ie):On ns n elt gs sc ie:=by
 replace h: (if dL ns sc then _ else none)=some ie:=h;split at h
 ·rename_i hg
  cases e:Ai gs with
  |none=>
   rw[e]at h;refine oB h λg h1 h=>?_;refine oB h ?_;rintro⟨x,it,fs⟩ h2 h;refine oB h λt h3 h=>?_;refine oB h λiit h4 h=>?_;refine oB h λifs h5 h=>?_;refine oM h λielt h6 hz=>?_;clear h e;clear h;clear h;clear h;clear h;clear h;obtain⟨px,rfl⟩:=A0 h2;exact .one hg _ _ _ _ _ _ _ _ (qJ h1) h3 h4 h5 h6 hz.symm
  |some gx=>
   obtain⟨g,g'⟩:=gx;rw[e]at h;refine oB h ?_;rintro⟨x,it,fs⟩ h2 h;refine oB h ?_;rintro⟨x',it',fs'⟩ h3 h;split at h
   ·rename_i hf
    obtain⟨hf,hf'⟩:=bo.mp hf;refine oB h λt h4 h=>?_;refine oB h λiit h5 h=>?_;refine oB h λt' h6 h=>?_;refine oB h λiit' h7 h=>?_;refine oM h λielt h8 hz=>?_;cases fe.mp hf;cases fe.mp hf';clear h hf hf';clear h hf;clear h;clear h;clear h;clear h;clear h;obtain⟨px,rfl⟩:=A0 h2;clear h2;obtain⟨px',rfl⟩:=A0 h3;exact .two hg _ _ _ _ _ _ _ _ _ _ _ (Ap e) h4 h5 h6 h7 h8 hz.symm
   ·exact bx h
 ·exact bx h
omit H in
theorem Ey{k v:Expr}{gs:List gB}{sc:Scope}{p:hU}(h:cE ns (n+1) (.DictComp k v gs sc p)=some ie):O0 ns n k v gs sc ie:=by
 replace h: (if dL ns sc then _ else none)=some ie:=h;split at h
 ·rename_i hg
  refine oB h λg h1 h=>?_;refine oB h ?_;rintro⟨x,it,fs⟩ h2 h;split at h
  ·rename_i hf
   refine oB h λt h3 h=>?_;refine oB h λiit h4 h=>?_;refine oB h λik h5 h=>?_;refine oM h λiv h6 hz=>?_;cases fe.mp hf;clear h hf;clear h;clear h;clear h;clear h;clear h;obtain⟨px,rfl⟩:=A0 h2;exact⟨hg,_,_,_,_,_,_,_,qJ h1,h3,h4,h5,h6,hz.symm⟩
  ·exact bx h
 ·exact bx h
end
theorem I0{n:Nat}(H:qS C d n):∀ns e ie,cE ns (n+1) e=some ie->∀env PP,EvalOk C d env ns PP (bS e env) ie:=by
 intro ns e ie h env PP;cases e with
 |Constant c k p=>
  cases c with
  |none=>replace h:=ac h;subst h;exact LL rfl
  |bool b=>replace h:=ac h;subst h;exact K3
  |int i=>replace h:=ac h;subst h;exact NV
  |str s=>
   clear H;refine oM h ?_;rintro m hm rfl;exact ND (ur hm)
  |_=>clear H;exact bx h
 |Name x p=>exact Lm h env PP
 |BinOp a op b p=>
  refine oB h λia h1 h2=>?_;clear h;refine oM h2 ?_;rintro ib h3 rfl;exact Nb (H.E _ _ _ h1 env PP) (H.E _ _ _ h3 env PP)
 |UnaryOp op a p=>
  cases op with
  |Not=>
   refine oM h ?_;rintro ia h1 rfl;exact Nx (H.E _ _ _ h1 env PP)
  |USub=>
   refine oM h ?_;rintro ia h1 rfl;exact No (H.E _ _ _ h1 env PP)
  |_=>clear H;exact bx h
 |Compare a ops bs p=>
  rcases KC h with⟨op,b,ia,ib,rfl,rfl,h1,h3,rfl⟩|⟨op,op',b,c,ia,ib,ic,rfl,rfl,h1,h3,h5,rfl⟩
  ·exact NF (t6 _ h3) (H.E _ _ _ h1 env PP) (H.E _ _ _ h3 env PP)
  ·exact KZ (t6 _ h5) (H.E _ _ _ h1 env PP) (H.E _ _ _ h3 env PP) (H.E _ _ _ h5 env PP)
 |BoolOp op es p=>
  refine oM h ?_;rintro is h1 rfl;intro e8 σ Q A F s hA X Y W;exact(H.L _ _ _ h1).bools env PP op p e8 σ Q A F s hA X Y W
 |IfExp c a b p=>
  refine oB h λic h1 h2=>?_;refine oB h2 λia h3 h4=>?_;clear h2 h;refine oM h4 ?_;rintro ib h5 rfl;exact ML (H.T _ _ _ h1 env PP) (H.E _ _ _ h3 env PP) (H.E _ _ _ h5 env PP)
 |Attribute o x p=>
  replace h: (if f7 o then _ else none)=some ie:=h;split at h
  ·rename_i hp
   refine oB h λio h1 h2=>?_;clear h;refine oM h2 ?_;rintro m hm rfl;exact L1 hp (ur hm) (H.E _ _ _ h1 env PP)
  ·exact bx h
 |Subscript o i p=>exact NG H h env PP
 |List es p=>
  refine oM h ?_;rintro is h1 rfl;exact LM λpos=>(H.L _ _ _ h1).sp env PP pos
 |Tuple es k p=>
  refine oM h ?_;rintro is h1 rfl;exact NR λpos=>(H.L _ _ _ h1).sp env PP pos
 |Dict ks vs p=>
  refine oB h λks h1 h2=>?_;refine oB h2 λiks h3 h4=>?_;clear h2 h;refine oM h4 ?_;rintro ivs h5 rfl;have e1:=zO h1;clear h1;subst e1;exact K4 H h3 h5 env PP
 |Call f es kw q=>exact Ll H h env PP
 |ListComp elt gs sc p=>
  obtain⟨hg,x,px,it,fs,t,iit,ifs,ielt,rfl,ht,h3,h5,h7,rfl⟩|⟨hg,x,px,it,x',px',it',t,iit,t',iit',ielt,rfl,ht,h3,ht',h6,h8,rfl⟩:=HJ h
  ·exact L0 hg ht (H.E _ _ _ h3 env PP) (λcenv PP'=>H.E _ _ _ h7 cenv PP') (λcenv PP'=>(H.L _ _ _ h5).tests cenv PP') (iS h3)
  ·exact JU hg ht (H.E _ _ _ h3 env PP) (λcenv PP'=>H.E _ _ _ h8 cenv PP') ht' (λcenv PP'=>H.E _ _ _ h6 cenv PP') (λcenv=>iS (env:=cenv) h6) (iS h3)
 |DictComp k v gs sc p=>
  obtain⟨hg,x,px,it,t,iit,ik,iv,rfl,ht,h3,h5,h7,rfl⟩:=Ey h;exact I3 hg ht (H.E _ _ _ h3 env PP) (λcenv PP'=>H.E _ _ _ h5 cenv PP') (λcenv PP'=>H.E _ _ _ h7 cenv PP') (iS h3)
 |Lambda a b sc p=>
  replace h:=ac h;subst h;exact uc λe8 σ Q W=>W
 |_=>clear H;exact bx h
theorem Ja{n:Nat}(H:qS C d n)(HE:∀ns e ie,cE ns (n+1) e=some ie->∀env PP,EvalOk C d env ns PP (bS e env) ie):∀ns e ie,cE ns (n+1) e=some ie->∀env PP,TestOk C d env ns PP (isTrue e env (bS e env)) ie:=by
 intro ns e ie h env PP;have he:=HE ns e ie h env PP;cases e with
 |BoolOp op es pos=>
  clear he HE;refine oM (show(AZ ns n es).map (λes=>IE.bool2 (op== .And) es)=some ie from h) ?_;rintro is h1 rfl;intro e8 σ Q A F s hA X Y W;rw[arm_isTrue_BoolOp];have L:=H.L _ _ _ h1;cases is with
  |nil=>exact(show False from W).elim
  |cons i is=>exact L.all env PP op e8 σ Q A F s hA X Y (Ce C d _ is i e8 σ▸W)
 |UnaryOp op a pos=>
  cases op with
  |Not=>
   clear he HE;refine oM (show(cE ns n a).map .not=some ie from h) ?_;rintro ia h1 rfl;exact MY (H.T _ _ _ h1 env PP)
  |_=>exact Kr rfl he
 |IfExp c a b pos=>
  refine oB (show((cE ns n c).bind λc=>(cE ns n a).bind λa=>(cE ns n b).map λb=>IE.ite c a b)=some ie from h) λic h1 h2=>?_;refine oB h2 λia h3 h4=>?_;clear h2 he h HE;refine oM h4 ?_;rintro ib h5 rfl;exact NJ (H.T _ _ _ h1 env PP) (H.T _ _ _ h3 env PP) (H.T _ _ _ h5 env PP)
 |Compare a ops bs pos=>
  rcases KC h with⟨op,b,ia,ib,rfl,rfl,h1,h3,rfl⟩|⟨op,op',b,c,ia,ib,ic,rfl,rfl,h1,h3,h5,rfl⟩
  ·exact MP (t6 _ h3) (H.E _ _ _ h1 env PP) (H.E _ _ _ h3 env PP)
  ·exact K6 (t6 _ h5) (H.E _ _ _ h1 env PP) (H.E _ _ _ h3 env PP) (H.E _ _ _ h5 env PP)
 |_=>exact Kr rfl he
theorem iT(d:Nat):∀n,qS C d n:=by
 intro n
 induction n with
 |zero=>exact⟨λns e ie h=>(by exact bx h),λns e ie h=>(by exact bx h),λns es is h=>(by exact bx h),λns o io h=>(by exact bx h)⟩
 |succ n H=>
  have HE:=I0 H;refine⟨HE,Ja H HE,DM H.E H.T H.L,λns o io h env PP=>?_⟩;cases o with
  |none=>
   replace h:=ac h;subst h;intro e8 σ Q A F s hA X Y W;exact bc ⟨none,F,σ,Aft.refl X,rfl,W⟩
  |some e=>
   clear HE;refine oM h ?_;rintro ie h1 rfl;intro e8 σ Q A F s hA X Y W;exact(H.E _ _ _ h1 env PP e8 σ _ A F s hA X Y W).use λv x bz bj s₁ a r q=>⟨some v,bz,bj,a,r,q⟩
inductive Fl where
 |next
 |cont
 |ret (v:V)
noncomputable abbrev dy:=Fl->bT->AH->Prop
noncomputable def Mc(a:aY)(k:Int)(v:V)(σ:AH)(K:AH->Prop):fM->Prop
 | .list vs=>(0<=k->k.toNat<vs.length/\K (σ.set a (.list (vs.set k.toNat v))))/\(¬0<=k->0<=(vs.length:Int)+k/\K (σ.set a (.list (vs.set ((vs.length:Int)+k).toNat v))))
 | .dict ks vs=>ks.length<=16777216/\K (σ.set a (.dict (vf ks k) (vPut ks vs k v)))
 |_=>False
inductive tu(x y v:V)(σ:AH)(K:AH->Prop):Prop
 |mk (h:oW (Gp x) λa=>oW (vK y) λk=>oW (σ a) (Mc a k v σ K)):tu x y v σ K
@[irreducible] noncomputable def ve(x:V)(n:String)(v:V)(σ:AH)(K:AH->Prop):Prop:=oW (Gp x) λa=>oW ((σ a).bind OD) λp=>
 (fB.find? λq=>q.1==p.1).isSome=true/\(k8 p.1).contains n=true/\p.2.2.1.length<=20/\K (σ.set a (.inst p.1 p.2.1 (dB p.2.2.1 p.2.2.2 n v).1 (dB p.2.2.1 p.2.2.2 n v).2))
noncomputable def FI(fz:List Nat)(i:Nat)(P:Prop):Prop:=match fz.contains i with
 |false=>P
 |true=>False
theorem uz{fz:List Nat}{i:Nat}{P:Prop}(h:FI fz i P):fz.contains i=false/\P:=by
 delta FI at h;cases e:fz.contains i with
 |false=>rw[e]at h;exact⟨rfl,h⟩
 |true=>rw[e]at h;exact cG h
noncomputable def Ea(C:Cx)(d:Nat)(fz:List Nat)(t:wB)(v:V)(env:bT)(σ:AH)(K:bT->AH->Prop):Prop:=match t with
 | .nm i=>FI fz i (K (c8 env i v) σ)
 | .tup is=>zL (is.all λi=> !fz.contains i) (oW (kq σ v) λvs=>zL (jr vs.length is.length) (K (mX env is vs) σ))
 | .sub o i=>ig C d o env σ λx σ=>ig C d i env σ λy σ=>tu x y v σ λσ=>K env σ
 | .attr o n=>ig C d o env σ λx σ=>ve x n v σ λσ=>K env σ
noncomputable def mO(K:bT->AH->Prop)(K':dy):dy:=λfl env σ=>match fl with
 | .next=>K env σ
 | .cont=>K env σ
 | .ret v=>K' (.ret v) env σ
noncomputable def rQ(test:bT->AH->(Bool->AH->Prop)->Prop)(body:bT->AH->dy->Prop)(K:dy):Nat->bT->AH->Prop
 |0,_,_=>False
 |n+1,env,σ=>test env σ λb σ=>(b=true->body env σ (mO (rQ test body K n) K))/\(b=false->K .next env σ)
noncomputable def qe(tgt:V->bT->AH->(bT->AH->Prop)->Prop)(body:bT->AH->dy->Prop)(src:V)(all:List V)(K:dy):List V->bT->AH->Prop
 |[],env,σ=>kY src all σ/\K .next env σ
 |v::vs,env,σ=>kY src all σ/\tgt v env σ λenv σ=>body env σ (mO (qe tgt body src all K vs) K)
noncomputable def ym(i j:Nat)(body:bT->AH->dy->Prop)(K:dy):Nat->List V->bT->AH->Prop
 |_,[],env,σ=>K .next env σ
 |n,v::vs,env,σ=>body (c8 (c8 env i (.int n)) j v) σ (mO (ym i j body K (n+1) vs) K)
noncomputable def Kt:V->Option (List V)
 | .list vs=>some vs
 |_=>none
theorem Hq{v:V}{vs:List V}(h:Kt v=some vs):v= .list vs:=by cases v<;>(first|exact bx h|replace h:=ac h;subst h);rfl
noncomputable def JR(R:bT->AH->dy->Prop)(K:dy):dy:=λfl env σ=>match fl with
 | .next=>R env σ K
 |fl=>K fl env σ
mutual
noncomputable def yg(C:Cx)(d:Nat)(fz:List Nat):IS->bT->AH->dy->Prop
 | .assign t e,env,σ,K=>ig C d e env σ λv σ=>Ea C d fz t v env σ λenv σ=>K .next env σ
 | .aug i op e,env,σ,K=>match op with
  | .BitOr=>FI fz i (oW (nv env i) λu=>oW (vK u) λold=>ig C d e env σ λv σ=>oW (vK v) λb=>km .BitOr old b λr=>K .next (c8 env i (.int r)) σ)
  |_=>False
 | .expr e,env,σ,K=>ig C d e env σ λw_ σ=>K .next env σ
 | .ifs c t e,env,σ,K=>Mj C d c env σ λb σ=>(b=true->wpSs C d fz t env σ K)/\(b=false->wpSs C d fz e env σ K)
 | .whiles c b,env,σ,K=>∃n,rQ (Mj C d c) (wpSs C d fz b) K n env σ
 | .fors t it b,env,σ,K=>ig C d it env σ λx σ=>oW (dw σ x) λitems=>qe (Ea C d fz t) (wpSs C d fz b) x items K items env σ
 | .forEnum i j e b,env,σ,K=>FI fz i (FI fz j (ig C d e env σ λx σ=>oW (Kt x) λitems=>items.length<=16777216/\ym i j (wpSs C d fz b) K 0 items env σ))
 | .ret e,env,σ,K=>ig C d e env σ λv σ=>K (.ret v) env σ
 | .cont,env,σ,K=>K .cont env σ
 | .stuck,_,_,_=>False
noncomputable def wpSs(C:Cx)(d:Nat)(fz:List Nat):List IS->bT->AH->dy->Prop
 |[],env,σ,K=>K .next env σ
 |s::ss,env,σ,K=>yg C d fz s env σ (JR (wpSs C d fz ss) K)
end
noncomputable def Po(P own:dQ):dQ:=λa=>P a\/own a
structure Wr(env:o7)(ns:cD)(fz:List Nat)(P own:dQ):Prop where
 loc:own env.locals
 cel:∀x i c,cj ns x=some (i,.cell)->fz.contains i=false->env.cells.lookup x=some c->own c/\env.kindOf x=some .cell
 fre:∀x i,cj ns x=some (i,.free)->fz.contains i=true
 np:∀a,own a->¬P a
theorem uh{x:Str}{i:Nat}{v:V}{y:aD}{K:Unit->aU->Prop}{E:aD->aU->Prop}{M:uI}(Wt:Wr env ns fz P own)(X:cN C (Po P own) F σ s.heap)(Y:FR C env ns (Po P own) F e8 s.heap)(hx:cB ns x=some i)(hi:fz.contains i=false)
  (r:R C F s.heap v y) (k:∀h' t,cN C (Po P own) F σ h'->FR C env ns (Po P own) F (c8 e8 i v) h'->Aft C P F s F σ {s with heap:=h',toks:=t}->gX F s.heap F h'->(∃a,own a/\cy a s.heap h')->K () {s with heap:=h',toks:=t}):wpAny M A (storeName env x y) K E s:=by
 have sub:∀b,P b->Po P own b:=λb h=> .inl h;have fin:∀{a h' t},cy a s.heap h'->own a->(∃o,h'.get? a=some o)->FR C env ns (Po P own) F (c8 e8 i v) h'->K () {s with heap:=h',toks:=t}:=λ{a h' t} hs ho hl Y'=>by
  have p:Po P own a:= .inr ho;obtain⟨fa,_,_,_⟩:=X.prot p;obtain⟨a',X'⟩:=X.poke sub (Aft.refl (X.sub sub)) hs p (Wt.np _ ho) hl t;exact k h' t X' Y' a' ⟨λw_ x=>x,λb f o e=>(hs.2 b λq=>fa (q▸f)).trans e⟩ ⟨_,ho,hs⟩
 refine bJ (iE hx) λkd hs hk=>?_;rcases hk with rfl|rfl|rfl
 ·obtain⟨m,hm,_,hl⟩:=id Y.loc
  obtain⟨fL,_,_,_⟩:=X.prot (a:=env.locals) (.inr Wt.loc);refine fY (hl x i hs).1 hm (λh' hm' hsb=>?_) (oD Y.kind);exact fin hsb Wt.loc (let⟨o,_,_,e,_⟩:=hm';⟨o,e⟩) (Y.setLocal hs hm hm' hsb fL r)
 ·obtain⟨_,c,y0,hc,_,hcell,_⟩:=Y.cel x i .cell hs (.inl rfl)
  obtain⟨oc,kc⟩:=Wt.cel x i c hs hi hc;obtain⟨fc,_,_,_⟩:=X.prot (a:=c) (.inr oc);refine wpAny_storeName_cell Y.kind kc hc hcell λh' hc' hsb=>?_;exact fin (t:=s.toks) hsb oc (let⟨o,e,_⟩:=hc';⟨o,e⟩) (Y.setCell hs hc hc' hsb fc r)
 ·rw[Wt.fre x i hs]at hi;exact Ig hi
theorem jJ{x:Str}{i:Nat}{v:V}{y:aD}{K:Unit->aU->Prop}{E:aD->aU->Prop}{M:uI}(Wt:Wr env ns fz P own)(X:cN C (Po P own) F σ s.heap)(Y:FR C env ns (Po P own) F e8 s.heap)(hx:cB ns x=some i)(hi:fz.contains i=false)
  (r:R C F s.heap v y) (k:∀h' t,cN C (Po P own) F σ h'->FR C env ns (Po P own) F (c8 e8 i v) h'->Aft C P F s F σ {s with heap:=h',toks:=t}->gX F s.heap F h'->K () {s with heap:=h',toks:=t}):wpAny M A (storeName env x y) K E s:=
 uh Wt X Y hx hi r λh' t a b c e w_=>k h' t a b c e
theorem B7{x:aD}{vs:List V}{v:V}{K:Bool->aU->Prop}{E:aD->aU->Prop}(X:cN C P F σ s.heap)(r:R C F s.heap v x)(h:kq σ v=some vs)(k:K false s):wpAny (bI C.prog C.w) A (vy x) K E s:=by
 obtain⟨a,xs,rfl,hl,_⟩:=nG h X r;unfold vy;rcases hl with hl|ht
 ·refine aB (qi hl.typeIs PySem.F.slot_list_iter.lookup (bc k))
 ·refine aB (qi ht.typeIs PySem.F.slot_tuple_iter.lookup (bc k))
theorem je.live{I:aY}{x:V}{i:Nat}(h':je C F h I x i):∃o,h.get? I=some o:=by
 cases x<;>first|exact⟨_,h'⟩|((first|refine lk h' ?_;clear h';intro _ o e _|refine d4 h' ?_;clear h';intro _ o e _|obtain⟨_,o,e,_⟩:=h');exact⟨o,e⟩)|(obtain⟨_,_,o,e,_⟩:=h';exact⟨o,e⟩)|((first|refine bJ h' ?_;clear h';intro o e _|obtain⟨o,e,_⟩:=h');exact⟨o,e⟩)|exact h'.elim
theorem xA{I:aY}{x:V}{items:List V}{K:List aD->aU->Prop}{E:aD->aU->Prop}(hτ:dw σ x=some items)(pI:PP I)(nI:¬P I)(sub:∀a,P a->PP a){F₀:dQ}{s₀:aU}:
  ∀(rest:List V) (i:Nat) (s:aU),items.drop i=rest->i+rest.length=items.length->Aft C P F₀ s₀ F σ s->cN C PP F σ s.heap->je C F s.heap I x i->(∀xs s',Aft C P F₀ s₀ F σ s'->cN C PP F σ s'.heap->je C F s'.heap I x items.length->RL C F s'.heap rest xs->gX F s.heap F s'.heap->K xs s')->
   wpAny (bI C.prog C.w) A (draw (.ref I) rest.length) K E s
 |[]=>λi s hd hl a X it k=>by
  have e:i=items.length:=by exact hl
  clear hl hd hτ;subst e;exact bc (k [] s a X it trivial (gX.refl _ _))
 |v::rest=>λi s hd hl a X it k=>by
  have hlt:i<items.length:=by rw[bv]at hl;exact b9 (nat_lit 0x12c122896190242) rfl hl
  have hv:items[i]?=some v:=by
   rw[cc hlt]at hd;refine ao (ah hlt) ?_;cases hd;rfl
  have hd':items.drop (i+1)=rest:=by
   rw[cc hlt]at hd;cases hd;rfl
  obtain⟨fI,_,_,_⟩:=X.prot pI;refine aB (mG X fI it (.inl hτ) hv λy cR gP fO ry cH=>?_);obtain⟨bp,eV⟩:=X.poke sub a fO pI nI cH.live gP;have lK:gX F s.heap F cR:=⟨λw_ x=>x,λb f o e=>(fO.2 b λq=>fI (q▸f)).trans e⟩;refine aB (bP (xA hτ pI nI sub rest (i+1) _ hd' (by rw[bv]at hl;exact aN (b9 (nat_lit 0x41582522896190242) rfl hl) (b9 (nat_lit 0x2b04a422896190243) rfl hl)) bp eV cH λxs dv b8 iD nW rr nz=>bc ?_));exact k (y::xs) dv b8 iD nW ⟨ry.mono nz,rr⟩ (lK.trans nz)
theorem t8{v:V}{x:aD}{items:List V}{K:List aD->aU->Prop}{E:aD->aU->Prop}(hA:gF A d)(X:cN C P F σ s.heap)(r:R C F s.heap v x)(h:kq σ v=some items)
  (k:∀xs s',Aft C P F s F σ s'->RL C F s'.heap items xs->K xs s'):wpAny (bI C.prog C.w) A (unpackItems x items.length none) K E s:=by
 have hτ:dw σ v=some items:=by cases v<;>first|exact h|exact bx h
 unfold unpackItems;refine aB (B7 X r h ?_);refine ao (if_neg (by decide)) ?_;refine aB (bP (kI X r hτ λo ko go it=>?_));have hf:=d8 s.heap;generalize s.heap.objs.size=I at*;have sy:Aft C P F s F σ {s with heap:=s.heap.push o,toks:=s.toks}:=Aft.grow X ko;have zH:cN C (Pl P [I]) F σ (s.heap.push o):=sy.rep.prot1 λb hb=>by
  refine ao (aq.mp hb) ?_;exact⟨X.fresh_F hf,X.fresh_sp hf,X.fresh_σ hf,_,go⟩
 have nI:¬P I:=X.fresh_P hf;refine aB (bP (xA (s:={s with heap:=s.heap.push o}) (PP:=Pl P [I]) hτ (.inr (by exact .head _)) nI (λw_=> .inl) items 0 rfl (by exact dM _) sy zH it λxs s₁ bp eV cH rr w_=>?_));have hlen:=rr.length;refine ao (if_neg (by exact λq0=>bt (nat_lit 0x2c3208402) rfl hlen q0)) ?_;refine aB (bP (oS hA eV cH (.inl hτ) λcA yY kz=>?_));refine ao (if_neg (by decide)) ?_;refine bc ?_;obtain⟨fI,sI,σI,_⟩:=eV.prot (a:=I) (.inr (by exact .head _));have pv:=kD kz;have nz:gX F s₁.heap F cA:=⟨λw_ x=>x,λb f o e=>pv b (λq=>fI (q▸f)) o e⟩;have iD:=(eV.sub (P':=P) λw_=> .inl).outE pv fI nI sI σI;exact k xs _ (bp.trans ⟨⟨cA,yY,rfl⟩,nz,λb p o e=>pv b (λq=>nI (q▸p)) o e,iD⟩) (rr.mono nz)
open PySem PySem.W PySem.Calls PyProof.Rows Builtin Builtin.ObjectAttr
theorem Fk{a:aY}{xs:List aD}{n:Nat}(ho:h.get? a=some {cls:= .type "list",data:= .seq xs.toArray n})(j:Nat)(v:aD): (h.update a (dY (·.setIfInBounds j v))).PlainList a (bu (xs.set j v)):=by
 have:=qk (h:=h) (a:=a) (c:="list") ho (·.setIfInBounds j v);have e:xs.toArray.setIfInBounds j v=bu (xs.set j v):=by simp
 rw[e]at this;exact⟨_,this⟩
set_option tactic.hygienic true in
theorem AL{x y v:V}{ox oy ov:aD}{K:AH->Prop}{E:aD->aU->Prop}{Kk:Unit->aU->Prop}(X:cN C P F σ s.heap)(rx:R C F s.heap x ox)(ry:R C F s.heap y oy)(rv:R C F s.heap v ov)(h:tu x y v σ K)
  (k:∀σ' s',Aft C P F s F σ' s'->K σ'->Kk () s'):wpAny (bI C.prog C.w) A (setItem ox oy ov) Kk E s:=by
 obtain⟨h⟩:=h;refine oX h λa ea h=>?_;refine oX h λi ei h=>?_;refine oX h λm e h=>?_;rename_i h1 h2 h3;clear h1 h2 h3;replace ea:=Et ea;replace ei:=mV ei;subst ea ei;cases rx;obtain⟨t,rfl⟩:=ry;cases m with
 |list vs=>
   obtain⟨fa,pa,sa,xs,⟨n,ho⟩,rr,hz⟩:=X.obj _ _ e;have hlen:=rr.length;have fin:∀j,K (σ.set a (.list (vs.set j v)))->Kk () {s with heap:=s.heap.update a (dY (·.setIfInBounds j ov))}:=λj q=>by
    have hs:cy a s.heap (s.heap.update a (dY (·.setIfInBounds j ov))):=me ..;have E:gX F s.heap F (s.heap.update a (dY (·.setIfInBounds j ov))):=⟨λw_ x=>x,λb f o e=>(hs.2 b λq=>fa (q▸f)).trans e⟩;refine k _ _ ⟨⟨_,s.toks,rfl⟩,E,λb p o e=>(hs.2 b λq=>pa (q▸p)).trans e,X.upd (m':= .list (vs.set j v)) hs e (by intro b q;cases q) ⟨_,Fk ho j ov,(RL.set rv rr).mono E,?_⟩⟩ q;refine ao fF ?_;exact hz
   by_cases h0:0<=i
   ·obtain⟨hlt,q⟩:=h.1 h0
    exact ki_setAt ho h0 (by lia) (by refine ao bB (dk hlen ?_);lia) (fin _ q)
   ·obtain⟨hlt,q⟩:=h.2 h0
    refine ki_setBack ho (by lia) (by refine ao bB (dk hlen ?_);lia) (by lia) ?_;have e2: (i+(xs.toArray.size:Nat)).toNat=((vs.length:Int)+i).toNat:=by refine ao bB (dk hlen ?_);lia
    refine ao e2 ?_;exact fin _ q
 |dict ks vs=>
   obtain⟨fa,pa,sa,xs,hm,hl,rr,hsy⟩:=X.obj _ _ e;obtain⟨hz,q⟩:=h;refine wpAny_setItem_pairs (knd:=eQ C.prog C.w) (k:=i) (nb _ _ i t) hm (λh' hm' hs=>?_) (by refine ao (gp hl) (ao cW ?_);exact hz);have E:gX F s.heap F h':=⟨λw_ x=>x,λb f o e=>(hs.2 b λq=>fa (q▸f)).trans e⟩;rw[yK hl (xZ hm hl)]at hm';refine k _ _ ⟨⟨h',_,rfl⟩,E,λb p o e=>(hs.2 b λq=>pa (q▸p)).trans e,X.upd (m':= .dict (vf ks i) (vPut ks vs i v)) hs e (by intro b q;cases q) ⟨_,hm',(vR hl).symm,(rr.vPut rv).mono E,hsy⟩⟩ q
 |_=>exact cG h
theorem Fg{ns:List String}{xs:List aD}{es:List eZ}(en:Ents ns xs es):es.any (·.refKey)=false:=
 Ents.ind (P:=λw_ w_ es=>es.any (·.refKey)=false) rfl (λn ns x xs e es t hk w_ w_ ih=>by
  refine ao jk (ao ih ?_);unfold vu;refine ao hk ?_;rfl) en
theorem Gq{y:aD}{m:String}{hsh:Int}{tk:Tok}{v:V}{ns:List String}{vs:List V}{xs:List aD}{es:List eZ}(en:Ents ns xs es)(rr:RL C F h vs xs)(r:R C F h v y):
  ∃xs',Ents (dB ns vs m v).1 xs' (putL (ae m) hsh (.str (ae m) tk) y es)/\RL C F h (dB ns vs m v).2 xs':=by
 refine Ents.ind (P:=λns xs es=>∀vs,RL C F h vs xs->∃xs',Ents (dB ns vs m v).1 xs' (putL (ae m) hsh (.str (ae m) tk) y es)/\RL C F h (dB ns vs m v).2 xs') (λvs rr=>?_) (λn ns x xs e es t hk hv en ih vs rr=>?_) en vs rr
 ·cases vs with
  |nil=>exact⟨[y],⟨⟨tk,rfl⟩,rfl,trivial⟩,r,trivial⟩
  |cons _ _=>exact cG rr
 ·cases vs with
  |nil=>exact cG rr
  |cons v' vs=>
   refine ao De ?_;unfold putL;refine ao hk ?_;rewrite[qY];by_cases q:n=m
   ·subst q
    refine ao (if_pos rfl) (ao (if_pos (beq_self_eq_true _)) ?_);exact⟨y::xs,⟨⟨t,by exact rfl⟩,rfl,en⟩,r,rr.2⟩
   ·refine ao (if_neg q) (ao (if_neg λz=>q (Ad z)) ?_)
    exact(ih vs rr.2).elim λxs' e=>⟨x::xs',⟨⟨t,hk⟩,hv,e.1⟩,rr.1,e.2⟩
theorem vL(name:Str)(hsh:Int)(key v:aD):∀es:List eZ,(putL name hsh key v es).length<=es.length+1
 |[]=>aG _
 |e::es=>by
  unfold putL;split
  ·exact bE _ _
  ·refine ao bv (ao bv ?_);exact c5 (vL name hsh key v es)
theorem B9{ns:List String}{xs:List aD}{es:List eZ}(en:Ents ns xs es):es.length=ns.length:=
 Ents.ind (P:=λns w_ es=>es.length=ns.length) rfl (λw_ w_ w_ w_ w_ w_ w_ w_ w_ w_ ih=>congrArg oY ih) en
theorem Cp{a CK dx:aY}{es:List eZ}{n:Nat}{nm:String}{c:String}{v:aD}{K:Unit->aU->Prop}{E:aD->aU->Prop}(X:cN C P F σ s.heap)(f:uf C.K C.gv c CK)(hm:nm∈k8 c)(t:s.heap.get? a=some (eP CK dx))(t':s.heap.get? dx=some (pP es n))
  (hr:es.any (·.refKey)=false) (hz:es.length<=500)
  (k:∀h',h'.get? dx=some (pP (putL (ae nm) (ke C.w.params (ae nm)) (.str (ae nm) (s.toks+1)) v es) (putN (ae nm) es n))->cy dx s.heap h'->K () {s with heap:=h',toks:=s.toks+2}):
  wpAny (bI C.prog C.w) A (setAttr (.ref a) (ae nm) v) K E s:=by
 have I:InstAt s.heap a (eP CK dx) CK (some (pP es n)):=⟨t,rfl,rfl,t'⟩;have X0:=X.kin;refine set_plain X0 I f.sa (osa_open (s:={s with toks:=s.toks+1}) X0 I f.po (f.fld nm hm).2 λb=>?_);refine bJ (any_some f.hd) λcd hc hd'=>?_;refine aB (bc (aB (aB (wpAny_loadPart t (aB (Looks.here (s:={s with toks:=s.toks+1}) (looks_clsIn X0 hc) ?_))))));refine ao hd' ?_;refine bc (a:=some dx) (aB (bc (aB ?_)));unfold nsSet;refine aB (aB (vw (bc (aB (wpAny_mkText (aB (wpAny_loadPart t' ?_)))))));dsimp only[pP];have c: (!es.toArray.any (·.key.isStr (ae nm)) && es.toArray.any (·.refKey))=false:=by
  refine dk vz (dk vz ?_);show(_ && es.any (·.refKey))=false;refine ao hr ?_;rewrite[Bool.and_false];with_reducible rfl
 rewrite[aRefKeyMayBeTheName_at];refine ao c ?_;refine wpAny_updatePart t' ?_;have D': (s.heap.update dx (Obj.putName (ae nm) (ke C.w.params (ae nm)) (.str (ae nm) (s.toks+1)) v)).get? dx=
   some (pP (putL (ae nm) (ke C.w.params (ae nm)) (.str (ae nm) (s.toks+1)) v es) (putN (ae nm) es n)):=by
  rw[<- putName_dict];exact cx.get?_update_self _ t' (by rw[putName_dict];rfl)
 refine aB (wpAny_lookBehind D' (pastItsLine_dict ?_) ?_)
 ·refine ao bB (ao cW ?_)
  have:=vL (ae nm) (ke C.w.params (ae nm)) (.str (ae nm) (s.toks+1)) v es;exact bt (nat_lit 0xb062d2095609042fa4c01) rfl hz this
 ·exact bc (k _ D' (me ..))
set_option tactic.hygienic true in
theorem Bs{x v:V}{nm:String}{ox ov:aD}{K:AH->Prop}{E:aD->aU->Prop}{Kk:Unit->aU->Prop}(X:cN C P F σ s.heap)(rx:R C F s.heap x ox)(rv:R C F s.heap v ov)(h:ve x nm v σ K)
  (k:∀σ' s',Aft C P F s F σ' s'->K σ'->Kk () s'):wpAny (bI C.prog C.w) A (setAttr ox (ae nm) ov) Kk E s:=by
 unfold ve at h;refine oX h λa ea h=>?_;refine oX h λp ep h=>?_;refine oB ep λm e em=>?_;rename_i h1 h2;clear h1 h2;clear ep;replace ea:=Et ea;replace em:=MN em;obtain⟨c,dd,ns,vs⟩:=p;subst ea em;cases rx;refine iq h λhc hm hz q=>?_;clear h;obtain⟨fa,pa,sa,CK,es,n,xs,g,t,t',en,rr,ha⟩:=X.obj _ _ e;obtain⟨fd,pd,sd,_⟩:=X.obj _ _ ha;have f:=uW hc g;refine Cp X f (by exact jj (hm)) t t' (Fg en) (by refine ao (B9 en) ?_;exact ci (nat_lit 0x1f4980a0a4c01) rfl hz) λh' hd hs=>?_;have E:gX F s.heap F h':=⟨λw_ x=>x,λb f o e=>(hs.2 b λq=>fd (q▸f)).trans e⟩;refine bJ (Gq (m:=nm) (hsh:=ke C.w.params (ae nm)) (tk:=s.toks+1) en rr rv) λxs' e1 e2=>?_;have had:a≠dd:=by rintro rfl;rw[e]at ha;replace ha:=ac ha;cases ha
 refine k _ _ ⟨⟨h',_,rfl⟩,E,λb p o e=>(hs.2 b λq=>pd (q▸p)).trans e,X.updInst hs e ⟨CK,_,_,xs',g,(hs.2 a had).trans t,hd,e1,e2.mono E,?_⟩⟩ q;refine ao (ay _ _ (aV had)) ?_;exact ha
noncomputable def OC(C:Cx)(P own:dQ)(env:o7)(ns:cD)(e8:bT)(F:dQ)(σ:AH)(s:aU):Fl->Flow->Prop
 | .next,.next=>cN C (Po P own) F σ s.heap/\FR C env ns (Po P own) F e8 s.heap
 | .cont,.cont=>cN C (Po P own) F σ s.heap/\FR C env ns (Po P own) F e8 s.heap
 | .ret v,.ret x=>R C F s.heap v x
 |_,_=>False
inductive Mz(C:Cx)(P own:dQ)(env:o7)(ns:cD)(F₀:dQ)(s₀:aU)(K:dy)(fl:Flow)(s':aU):Prop
 |mk (k:Fl) (e8:bT) (F:dQ) (σ:AH) (a:Aft C P F₀ s₀ F σ s') (q:K k e8 σ) (f:OC C P own env ns e8 F σ s' k fl):Mz C P own env ns F₀ s₀ K fl s'
noncomputable def Ff(C:Cx)(A:lY)(P own:dQ)(env:o7)(ns:cD)(F₀:dQ)(t:uU Flow)(K:dy)(s₀:aU)(s:aU):Prop:=
 wpAny (bI C.prog C.w) A t (λfl s'=>Mz C P own env ns F₀ s₀ K fl s') (λw_ w_=>False) s
noncomputable def ExecOk(C:Cx)(d:Nat)(env:o7)(ns:cD)(P own:dQ)(t:uU Flow)(w:bT->AH->dy->Prop):Prop:=
 ∀e8 σ K A F s F₀ s₀,gF A d->Aft C P F₀ s₀ F σ s->cN C (Po P own) F σ s.heap->FR C env ns (Po P own) F e8 s.heap->w e8 σ K->Ff C A P own env ns F₀ t K s₀ s
theorem gQ(a:aY):P a->Po P own a:= .inl
noncomputable def Lk(C:Cx)(P own:dQ)(env:o7)(ns:cD)(F₀:dQ)(s₀:aU)(K:bT->AH->Prop)(s':aU):Prop:=
 ∃e8 F σ,Aft C P F₀ s₀ F σ s'/\cN C (Po P own) F σ s'.heap/\FR C env ns (Po P own) F e8 s'.heap/\K e8 σ
theorem vN{K:bT->AH->Prop}{E:aD->aU->Prop}(Wt:Wr env ns fz P own){F₀:dQ}{s₀:aU}:∀(ts:List Expr) (is:List Nat) (vs:List V) (xs:List aD) (e8:bT) (s:aU),qT ns ts=some is->vs.length=is.length->is.all (λi=> !fz.contains i)=true->
  RL C F s.heap vs xs->Aft C P F₀ s₀ F σ s->cN C (Po P own) F σ s.heap->FR C env ns (Po P own) F e8 s.heap->K (mX e8 is vs) σ->wpAny (bI C.prog C.w) A (sQ ((jD ts env).map (·.2)) xs) (λw_ s'=>Lk C P own env ns F₀ s₀ K s') E s
 |[]=>λis vs xs e8 s h hl hz rr a X Y q=>by
  replace h:=ac h;subst h;have:vs=[]:=co.mp hl;clear hl;subst this;cases xs with
  |nil=>exact bc ⟨e8,F,σ,a,X,Y,q⟩
  |cons _ _=>exact rr.elim
 |t::ts=>λis vs xs e8 s h hl hz rr a X Y q=>by
  focus
   refine oB h λx h0 h'=>?_;clear h;obtain⟨p,rfl⟩:=kR h0;refine oB h' λi h1 h2=>?_;clear h';refine oM h2 ?_;rintro is' h3 rfl;rw[kU,bD]at hz
   match vs,xs,rr with
   |v::vs,y::xs,⟨r,rr⟩=>
    show wpAny _ A (sQ (assign (.Name x p) env:: (jD ts env).map (·.2)) (y::xs)) _ _ _;refine aB (bP (eB (jJ Wt X Y h1 (by exact(c6 _).mp (hz.1)) r λh' t X' Y' a' E'=>?_)));exact vN Wt ts is' vs xs (c8 e8 i v) _ h3 (by exact cL (hl)) hz.2 (rr.mono E') (a.trans a') X' Y' q
   |[],_,_=>simp at hl
theorem oG:∀{ts:List Expr} {is:List Nat},qT ns ts=some is->(jD ts env).length=is.length/\(jD ts env).findIdx? (·.1)=none
 |[],is,h=>by replace h:=ac h;subst h;exact⟨rfl,rfl⟩
 |t::ts,is,h=>by
  focus
   refine oB h λx h0 h'=>?_;clear h;obtain⟨p,rfl⟩:=kR h0;refine oB h' λi h1 h2=>?_;clear h1 h';refine oM h2 ?_;rintro is' h3 rfl;obtain⟨a,b⟩:=oG h3;have e:jD (.Name x p::ts) env=(false,assign (.Name x p) env)::jD ts env:=rfl;refine ao e ?_;refine⟨by simp[a],?_⟩;refine ao List.findIdx?_cons (ao b ?_);rfl
theorem u5{n:Nat}{t:Expr}{it:wB}{v:V}{x:aD}{K:bT->AH->Prop}{F₀:dQ}{s₀:aU}(hA:gF A d)(Wt:Wr env ns fz P own)(ht:cT ns n t=some it)(a:Aft C P F₀ s₀ F σ s)(X:cN C (Po P own) F σ s.heap)(Y:FR C env ns (Po P own) F e8 s.heap)(r:R C F s.heap v x)(W:Ea C d fz it v e8 σ K):
  wpAny (bI C.prog C.w) A (assign t env x) (λw_ s'=>Lk C P own env ns F₀ s₀ K s') (λw_ w_=>False) s:=by
 revert ht
 apply Expr.casesOn (motive_1:=λt=>cT ns n t=some it->wpAny (bI C.prog C.w) A (assign t env x) (λw_ s'=>Lk C P own env ns F₀ s₀ K s') (λw_ w_=>False) s) t
 case Name=>
  intro x' p ht;refine oM ht ?_;rintro i h1 rfl;obtain⟨hz,q⟩:=uz W;exact eB (jJ Wt X Y h1 hz r λh' t X' Y' a' E'=>⟨_,F,σ,a.trans a',X',Y',q⟩)
 case Tuple=>
  intro ts k p ht;refine oM ht ?_;rintro is h1 rfl;obtain⟨hz,W⟩:=qI W;refine oX W λvs hv W=>?_;obtain⟨hl,q⟩:=qI W;have hl:=kr hl;obtain⟨e1,e2⟩:=oG (env:=env) h1;rw[arm_assign_Tuple];refine aB (bZ ?_);unfold unpack;refine ao e1 (ao e2 (dk hl ?_));refine aB (bP (t8 hA X r hv λxs s' a' rr=>?_));exact vN Wt _ is vs xs e8 s' h1 hl hz rr (a.trans (a'.sub gQ)) a'.rep (Y.step a') q
 case Subscript=>
  intro o i p ht;refine oB ht λio h1 h2=>?_;clear ht Wt;refine oM h2 ?_;rintro ii h3 rfl;rw[arm_assign_Subscript];refine aB (bP (((iT d n).E _ _ _ h1 env _ e8 σ _ A F s hA X Y W).use λu y bz bj s₁ bp eD cY=>?_));refine aB (bP (((iT d n).E _ _ _ h3 env _ e8 bj _ A bz s₁ hA bp.rep (Y.step bp) cY).use λw z gy fx dv b8 ip jI=>?_));refine aB (bZ (aB (bP (AL b8.rep (eD.mono b8.ext) ip ((r.mono bp.ext).mono b8.ext) jI λσ' s' dS q=>?_))));exact wpAny_release ⟨e8,gy,σ',((a.trans (bp.sub gQ)).trans (b8.sub gQ)).trans (dS.sub gQ),dS.rep,((Y.step bp).step b8).step dS,q⟩
 case Attribute=>
  intro o m p ht;refine oB ht λio h1 h2=>?_;clear ht Wt;refine oM h2 ?_;rintro m hm rfl;have hm:=ur hm;clear h2;subst hm;rw[arm_assign_Attribute];refine aB (bP (((iT d n).E _ _ _ h1 env _ e8 σ _ A F s hA X Y W).use λu y bz bj s₁ bp eD cY=>?_));refine aB (bZ (aB (bP (Bs bp.rep eD (r.mono bp.ext) cY λσ' s' dS q=>?_))));exact wpAny_release ⟨e8,bz,σ',(a.trans (bp.sub gQ)).trans (dS.sub gQ),dS.rep,(Y.step bp).step dS,q⟩
 all_goals repeat first|exact bx|refine λw_=>?_
theorem FR.back{F':dQ}{OU:cx}{yZ:bT}(X:FR C env ns PP' F' e8 h)(Y:FR C env ns PP F yZ OU)(hs:∀a,F a->F' a):FR C env ns PP F' e8 h where
 glob:=X.glob
 blt:=X.blt
 kind:=X.kind
 gk:=X.gk
 loc:=by
  obtain⟨m,n,p,q⟩:=X.loc;obtain⟨_,_,p',_⟩:=Y.loc;exact⟨m,n,p',q⟩
 cel:=λx i k e z=>by
  obtain⟨q,c,y0,h1,h2,h3,h4⟩:=X.cel x i k e z;obtain⟨_,c',_,h1',h2',_⟩:=Y.cel x i k e z;rw[h1]at h1';replace h1':=ac h1';subst h1';exact⟨q,c,y0,h1,h2'.imp id (hs c),h3,h4⟩
 apart:=X.apart
theorem Me{e:Expr}{ie:IE}{pos:hU}(hc:DG e=true)(he:∀PP,EvalOk C d env ns PP (bS e env) ie):ExecOk C d env ns P own (ny (.Expr e pos) env) (yg C d fz (.expr ie)):=by
 intro e8 σ K A F s F₀ s₀ hA a X Y W;have hi:interactive env=false:=by unfold interactive;refine ao Y.kind ?_;rfl
 have hs:gb e none pos.line env=dD false:=by
  clear he;cases e<;>first|rfl|exact mj hc
 exact wpAny_Expr_any ((he _ e8 σ _ A F s hA X Y W).use λv x bz bj s₁ bp r q=>⟨.next,e8,bz,bj,a.trans (bp.sub gQ),q,bp.rep,Y.step bp⟩) hi hs
theorem NW{e:Expr}{ie:IE}{pos:hU}(he:∀PP,EvalOk C d env ns PP (bS e env) ie):ExecOk C d env ns P own (ny (.Return (some e) pos) env) (yg C d fz (.ret ie)):=by
 intro e8 σ K A F s F₀ s₀ hA a X Y W;exact wpAny_Return_some ((he _ e8 σ _ A F s hA X Y W).use λv x bz bj s₁ bp r q=>⟨.ret v,e8,bz,bj,a.trans (bp.sub gQ),q,r⟩)
theorem LR{pos:hU}:ExecOk C d env ns P own (ny (.Continue pos) env) (yg C d fz .cont):=by
 intro e8 σ K A F s F₀ s₀ hA a X Y W;have e:ny (.Continue pos) env=(do pV pos;dD .cont):=rfl;rewrite[Ff];refine ao e ?_;exact aB (bZ (bc ⟨.cont,e8,F,σ,a,W,X,Y⟩))
theorem ON{c:Expr}{ic:IE}{t e:List ij}{it ie:List IS}{pos:hU}(hc:∀PP,TestOk C d env ns PP (isTrue c env (bS c env)) ic)(ht:ExecOk C d env ns P own (ql t env) (wpSs C d fz it))(he:ExecOk C d env ns P own (ql e env) (wpSs C d fz ie)):
  ExecOk C d env ns P own (ny (.If c t e pos) env) (yg C d fz (.ifs ic it ie)):=by
 intro e8 σ K A F s F₀ s₀ hA a X Y W;refine wpAny_If ((hc _ e8 σ _ A F s hA X Y W).use ?_);rintro b x bz bj s₁ bp rfl ⟨q1,q0⟩;cases b with
 |true=>exact ht e8 bj K A bz s₁ F₀ s₀ hA (a.trans (bp.sub gQ)) bp.rep (Y.step bp) (q1 rfl)
 |false=>exact he e8 bj K A bz s₁ F₀ s₀ hA (a.trans (bp.sub gQ)) bp.rep (Y.step bp) (q0 rfl)
theorem Ds{x:Str}{i:Nat}{v:V}{K:aD->aU->Prop}{E:aD->aU->Prop}{M:uI}(X:FR C env ns PP F e8 s.heap)(hs:cB ns x=some i)(hv:nv e8 i=some v)(q:∀y,R C F s.heap v y->K y s):wpAny M A (loadName env x) K E s:=by
 refine bJ (iE hs) λk hs hk=>?_;rcases hk with rfl|hk
 ·obtain⟨m,h1,_,h2⟩:=X.loc
  obtain⟨h3,h4⟩:=h2 x i hs;refine bJ (h4 v hv) λy h5 h6=>?_;exact rD X.kind h3 h1 h5 (q y h6)
 ·obtain⟨h1,c,y0,h2,_,h3,h4⟩:=X.cel x i k hs hk
  clear h2_1 hk hs;clear hs;refine bJ (h4 v hv) ?_;rintro y rfl r;rcases h1 with h1|⟨h1,h5⟩
  ·exact si X.kind h1 h2 h3 (q y r)
  ·exact sj X.kind h1 h2 h3 (q y r) h5
theorem NM{x:Str}{p pos:hU}{op:lq}{e:Expr}{ie:IE}{i:Nat}(Wt:Wr env ns fz P own)(hx:cB ns x=some i)(he:∀PP,EvalOk C d env ns PP (bS e env) ie):ExecOk C d env ns P own (ny (.AugAssign (.Name x p) op e pos) env) (yg C d fz (.aug i op ie)):=by
 intro e8 σ K A F s F₀ s₀ hA a X Y W;cases op<;>first|exact(show False from W).elim|skip
 obtain⟨hz,W⟩:=uz W;refine oX W λu0 ho W=>?_;refine oX W λold hu W=>?_;cases mV hu;refine wpAny_AugAssign_Name (Ds Y hx ho λy ry=>?_);clear hu ho;obtain⟨t,rfl⟩:=ry;refine(he _ e8 σ _ A F s hA X Y W).use ?_;intro v z bz bj s₁ bp r cY;refine oX cY λb hb cY=>?_;unfold km at cY;refine eX cY λh0 h1 q=>?_;clear cY;cases mV hb;clear hb cY W X he;clear W;clear W;clear W;obtain⟨u,rfl⟩:=r;refine ior_int ?_;refine ao (vt h0 h1) ?_;have b8:=d1 (s:=s₁) bp.rep (s₁.toks+1);refine jJ (v:= .int _) (s:={s₁ with toks:=s₁.toks+1}) Wt b8.rep ((Y.step bp).step b8) hx hz ⟨_,rfl⟩ λh' t X' Y' a' E'=>?_;exact⟨.next,_,bz,bj,((a.trans (bp.sub gQ)).trans (b8.sub gQ)).trans a',q,X',Y'⟩
theorem MW:ExecOk C d env ns P own (ql [] env) (wpSs C d fz []):=by
 intro e8 σ K A F s F₀ s₀ hA a X Y W;exact l4 ⟨.next,e8,F,σ,a,W,X,Y⟩
theorem LJ{st:ij}{ss:List ij}{is:IS}{iss:List IS}(h1:ExecOk C d env ns P own (ny st env) (yg C d fz is))(h2:ExecOk C d env ns P own (ql ss env) (wpSs C d fz iss)):ExecOk C d env ns P own (ql (st::ss) env) (wpSs C d fz (is::iss)):=by
 intro e8 σ K A F s F₀ s₀ hA a X Y W;refine pc (b0 (h1 e8 σ _ A F s F₀ s₀ hA a X Y W) ?_ λw_ w_ z=>z.elim);rintro fl s' ⟨k,e8',F',σ',a',q,f⟩;cases k with
 |next=>
  cases fl<;>first|exact f.elim|skip
  exact h2 e8' σ' K A F' s' F₀ s₀ hA a' f.1 f.2 q
 |cont=>
  cases fl<;>first|exact f.elim|skip
  exact⟨.cont,e8',F',σ',a',q,f⟩
 |ret v=>
  cases fl<;>first|exact f.elim|skip
  exact⟨.ret v,e8',F',σ',a',q,f⟩
theorem Jn{c:Expr}{ic:IE}{b:List ij}{ib:List IS}{pos:hU}(hc:∀PP,TestOk C d env ns PP (isTrue c env (bS c env)) ic)(hb:ExecOk C d env ns P own (ql b env) (wpSs C d fz ib)):ExecOk C d env ns P own (ny (.While c b [] pos) env) (yg C d fz (.whiles ic ib)):=by
 intro e8 σ K A F s F₀ s₀ hA a X Y W;obtain⟨n,W⟩:=W;refine wpAny_While (codeAny_whileLoop (λn s'=>∃e8 F σ,Aft C P F₀ s₀ F σ s'/\cN C (Po P own) F σ s'.heap/\FR C env ns (Po P own) F e8 s'.heap/\rQ (Mj C d ic) (wpSs C d fz ib) K n e8 σ) ?_ n ⟨e8,F,σ,a,X,Y,W⟩);clear W a X Y;rintro n s ⟨e8,F,σ,a,X,Y,W⟩;cases n with
 |zero=>exact W.elim
 |succ n=>
  refine(hc _ e8 σ _ A F s hA X Y W).use ?_;rintro b x bz bj s₁ bp rfl ⟨q1,q0⟩;have a':=a.trans (bp.sub gQ);cases b with
  |false=>exact l4 ⟨.next,e8,bz,bj,a',q0 rfl,bp.rep,Y.step bp⟩
  |true=>
   refine b0 (hb e8 bj _ A bz s₁ F₀ s₀ hA a' bp.rep (Y.step bp) (q1 rfl)) ?_ λw_ w_ z=>z.elim;rintro fl s' ⟨k,e8',F',σ',b8,q,f⟩;cases k with
   |next=>
    cases fl<;>first|exact f.elim|skip
    exact⟨n,bR n,e8',F',σ',b8,f.1,f.2,q⟩
   |cont=>
    cases fl<;>first|exact f.elim|skip
    exact⟨n,bR n,e8',F',σ',b8,f.1,f.2,q⟩
   |ret v=>
    cases fl<;>first|exact f.elim|skip
    exact⟨.ret v,e8',F',σ',b8,q,f⟩
theorem Wr.more(Wt:Wr env ns fz P own){I:aY}(hI:¬own I):Wr env ns fz (Pl P [I]) own where
 loc:=Wt.loc
 cel:=Wt.cel
 fre:=Wt.fre
 np:=λa ha q=>q.elim (Wt.np a ha) λq=>by rw[aq.mp q]at ha;exact hI ha
theorem xe{I:aY}(a:aY):Po (Pl P [I]) own a↔Pl (Po P own) [I] a:=by
 unfold Po Pl;constructor
 ·rintro((h|h)|h)
  ·exact .inl (.inl h)
  ·exact .inr h
  ·exact .inl (.inr h)
 ·rintro((h|h)|h)
  ·exact .inl (.inl h)
  ·exact .inr h
  ·exact .inl (.inr h)
theorem Gj{t:Expr}{n:Nat}{it:wB}{I:aY}{x y:aD}{xv:V}{i:Nat}{K:Unit->aU->Prop}{E:aD->aU->Prop}(ht:cT ns n t=some it)(h:je C F s.heap I xv i)(k:K () s):wpAny (bI C.prog C.w) A (f9 t (.ref I) y) K E s:=by
 have plain:∀o n vs,s.heap.get? I=some o->o.cls= .type n->o.data= .fields vs->["enumerate","zip","dict_itemiterator","dict_reverseitemiterator","odict_iterator","itertools.zip_longest","itertools.pairwise"].contains n=false->
   wpAny (bI C.prog C.w) A (f9 t (.ref I) y) K E s:=λo n vs ho hc hd hn=>by
  unfold f9;clear ht;cases t<;>first|exact bc k|skip
  all_goals
   cases y<;>first|exact bc k|skip
   refine aB (wpAny_load ho ?_);refine ao hc (ao hd ?_);dsimp only;refine ao hn ?_;exact bc k
 cases xv with
 |range lo hi=>exact plain _ _ _ h rfl rfl (by decide+kernel)
 |str z=>refine cr h λt o ho hc hd=>?_;clear h;exact plain o _ _ ho hc hd (by decide+kernel)
 |tup vs=>obtain⟨ax,r,o,ho,hc,hd⟩:=h;exact plain o _ _ ho hc hd (by decide+kernel)
 |list vs=>obtain⟨ax,r,o,ho,hc,hd⟩:=h;exact plain o _ _ ho hc hd (by decide+kernel)
 |ref a=>refine d4 h λo ho hc hd=>?_;clear h;exact plain o _ _ ho hc hd (by decide+kernel)
 |_=>exact h.elim
inductive O1(C:Cx)(P PP F₀ bz:dQ)(s₀:aU)(env:o7)(ns:cD)(items:List V)(Z:dQ->cx->List V->Nat->bT->AH->Prop)(n:Nat)(s:aU):Prop
 |mk (e8:bT) (F:dQ) (σ:AH) (i:Nat) (h1:n=items.length-i) (h2:i<=items.length) (h3:Aft C P F₀ s₀ F σ s) (h4:cN C PP F σ s.heap) (h5:FR C env ns PP F e8 s.heap) (h6:∀b,bz b->F b) (h7:Z F s.heap (items.drop i) i e8 σ):O1 C P PP F₀ bz s₀ env ns items Z n s
theorem NU{t e:Expr}{n:Nat}{it:wB}{ie:IE}{b:List ij}{ib:List IS}{pos:hU}(Wt:Wr env ns fz P own)(ht:cT ns n t=some it)(hf:∀x,bW e env x=dD x)(he:∀PP,EvalOk C d env ns PP (bS e env) ie)
  (hb:∀P,Wr env ns fz P own->ExecOk C d env ns P own (ql b env) (wpSs C d fz ib)):ExecOk C d env ns P own (ny (.For t e b [] pos) env) (yg C d fz (.fors it ie ib)):=by
 intro e8 σ K A F s F₀ s₀ hA a X Y W;refine wpAny_For ((he _ e8 σ _ A F s hA X Y W).use ?_) hf;intro xv y bz bj s₁ bp eD cY;refine oX cY λitems hitems cY=>?_;refine kI bp.rep eD hitems λo ko go KM=>?_;have hfr:=d8 s₁.heap;generalize s₁.heap.objs.size=I at*;have b8:Aft C (Po P own) bz s₁ bz bj {s₁ with heap:=s₁.heap.push o,toks:=s₁.toks}:=Aft.grow bp.rep ko;have nPo:¬Po P own I:=bp.rep.fresh_P hfr;have nI:¬P I:=λq=>nPo (.inl q);have Wt':Wr env ns fz (Pl P [I]) own:=Wt.more λq=>nPo (.inr q);have sy:Aft C P F₀ s₀ bz bj {s₁ with heap:=s₁.heap.push o,toks:=s₁.toks}:=(a.trans (bp.sub gQ)).trans (b8.sub gQ);have zH:cN C (Po (Pl P [I]) own) bz bj (s₁.heap.push o):=(b8.rep.prot1 (l:=[I]) λb hb=>by
  refine ao (aq.mp hb) ?_;exact⟨bp.rep.fresh_F hfr,bp.rep.fresh_sp hfr,bp.rep.fresh_σ hfr,_,go⟩).sub λb q=>(xe b).mp q
 have BE:FR C env ns (Po (Pl P [I]) own) bz e8 (s₁.heap.push o):=((Y.step bp).step b8).sub λb q=>(xe b).mpr (.inl q);have Yorig:=(Y.step bp).step b8;have subL:∀b,P b->Pl P [I] b:=λb q=> .inl q;have pI:Po (Pl P [I]) own I:= .inl (.inr (by exact .head _));have subQ:∀b,P b->Po (Pl P [I]) own b:=λb q=> .inl (.inl q);refine sk (λn s'=>O1 C P (Po (Pl P [I]) own) F₀ bz s₀ env ns items (λF h l i e8 σ=>je C F h I xv i/\qe (Ea C d fz it) (wpSs C d fz ib) xv items K l e8 σ) n s') ?_ (items.length-0) ⟨e8,bz,bj,0,rfl,bg _,sy,zH,BE,λw_ h=>h,KM,cY⟩;clear cY sy zH BE KM;rintro n s ⟨e8,F,σ,i,rfl,hi,a,X,Y',hF,itt,W⟩;obtain⟨fI,sI,σI,_⟩:=X.prot pI;have hτ:∃τ,dw τ xv=some items:=⟨bj,hitems⟩;by_cases hlt:i<items.length
 ·obtain⟨v,hv⟩:∃v,items[i]?=some v:=⟨_,ah hlt⟩
  have hdrop:items.drop i=v::items.drop (i+1):=by
   refine ao (cc hlt) ?_;rw[ah hlt]at hv;replace hv:=ac hv;subst hv;rfl
  rw[hdrop]at W;obtain⟨ws,W⟩:=W;refine mG X fI itt (.inr ⟨ws,hτ⟩) hv λy cR gP fO ry cH=>?_;have eW:∀b,b≠I->∀o,s.heap.get? b=some o->cR.get? b=some o:=λb hb o e=>(fO.2 b hb).trans e;obtain⟨N2,eV⟩:=X.poke subQ a fO pI nI cH.live gP;have p9:FR C env ns (Po (Pl P [I]) own) F e8 cR:=(((Y'.back Yorig hF).poke eW nPo fI).sub λb q=>(xe b).mpr (.inl q));refine Gj (x:= .none) ht cH ?_;refine b0 (u5 (P:=Pl P [I]) (own:=own) (F₀:=F) (s₀:={s with heap:=cR,toks:=gP}) hA Wt' ht (Aft.refl (eV.sub λb q=> .inl q)) eV p9 ry W) ?_ λw_ w_ z=>z.elim;rintro _ dv ⟨Mt,gy,fx,b8,iD,l6,jI⟩;have nW:je C gy dv.heap I xv (i+1):=cH.keep b8.ext (b8.keep I (.inr (by exact .head _)));have N3:Aft C P F₀ s₀ gy fx dv:=N2.trans (b8.sub subL);refine b0 (hb (Pl P [I]) Wt' Mt fx _ A gy dv gy dv hA (Aft.refl (iD.sub λb q=> .inl q)) iD l6 jI) ?_ λw_ w_ z=>z.elim;rintro fl iP ⟨k,Mu,l7,kA,dS,q,f⟩;have qp:Aft C P F₀ s₀ l7 kA iP:=N3.trans (dS.sub subL);have qo:je C l7 iP.heap I xv (i+1):=nW.keep dS.ext (dS.keep I (.inr (by exact .head _)));have KO:∀b,bz b->l7 b:=λb z=>dS.ext.sub b (b8.ext.sub b (hF b z));cases k with
  |next=>
   cases fl<;>first|exact f.elim|skip
   exact⟨items.length- (i+1),by exact ir (nat_lit 0x358245104721896190242) rfl (ar (bt (nat_lit 0x2b048a158241) rfl hlt)) (ar (bt (nat_lit 0x2028401) rfl hi)),Mu,l7,kA,i+1,rfl,hlt,qp,f.1,f.2,KO,qo,q⟩
  |cont=>
   cases fl<;>first|exact f.elim|skip
   exact⟨items.length- (i+1),by exact ir (nat_lit 0x358245104721896190242) rfl (ar (bt (nat_lit 0x2b048a158241) rfl hlt)) (ar (bt (nat_lit 0x2028401) rfl hi)),Mu,l7,kA,i+1,rfl,hlt,qp,f.1,f.2,KO,qo,q⟩
  |ret v=>
   cases fl<;>first|exact f.elim|skip
   exact⟨.ret v,Mu,l7,kA,qp,q,f⟩
 ·have hie:i=items.length:=by exact aN (bt (nat_lit 0x2028401) rfl hi) (bt (nat_lit 0x4a158244) rfl hlt)
  clear hlt hi hitems;subst hie;rw[gL]at W;obtain⟨ws,W⟩:=W;refine oS hA X itt (.inr ⟨ws,hτ⟩) λcR gP fO=>l4 ?_;have eW:=kD fO;have lK:gX F s.heap F cR:=⟨λw_ x=>x,λb f o e=>eW b (λq=>fI (q▸f)) o e⟩;have X':cN C (Po P own) F σ s.heap:=X.sub λb q=>(xe b).mpr (.inl q);have eV:=X'.outE eW fI nPo sI σI;exact⟨.next,e8,F,σ,a.trans ⟨⟨cR,gP,rfl⟩,lK,λb p o e=>eW b (λq=>nI (q▸p)) o e,eV.sub gQ⟩,W,eV,(Y'.back Yorig hF).poke eW nPo fI⟩
theorem yn{t e:Expr}{n:Nat}{it:wB}{ie:IE}{pos:hU}(Wt:Wr env ns fz P own)(ht:cT ns n t=some it)(he:∀PP,EvalOk C d env ns PP (bS e env) ie)
  (hs:gb e (some t) pos.line env=dD false) (hw:fq [t] e env=dD none):ExecOk C d env ns P own (ny (.Assign [t] e pos) env) (yg C d fz (.assign it ie)):=by
 intro e8 σ K A F s F₀ s₀ hA a X Y W;refine sn ((he _ e8 σ _ A F s hA X Y W).use λv x bz bj s₁ bp eD cY=>?_) hs hw;have e1: (jD [t] env).map (·.2)=[assign t env]:=by
  clear hw hs;revert ht;apply Expr.casesOn (motive_1:=λt=>cT ns n t=some it->(jD [t] env).map (·.2)=[assign t env]) t
  all_goals repeat first|exact bx|exact rfl|refine λw_=>?_
 refine ao e1 ?_;show wpAny _ A (assign t env x) _ _ _;refine b0 (u5 hA Wt ht (a.trans (bp.sub gQ)) bp.rep (Y.step bp) eD cY) ?_ λw_ w_ z=>z.elim;rintro _ dv ⟨Mt,gy,fx,b8,iD,l6,q⟩;exact⟨.next,Mt,gy,fx,b8,q,iD,l6⟩
theorem vb{y:Str}{py:hU}{i:Nat}{K:dy}{F₀:dQ}{s₀:aU}(Wt:Wr env ns fz P own)(hy:cB ns y=some i)(a:Aft C P F₀ s₀ F σ s)(Y:FR C env ns (Po P own) F e8 s.heap)
  {v:V} {z:aD} {bz:dQ} {bj:AH} {s₁:aU} {L':aY} {m:Str->Option aD} (bp:Aft C (Po P own) F s bz bj s₁) (r:R C bz s₁.heap v z) (q:Ea C d fz (.nm i) v e8 bj λe8 σ=>K .next e8 σ) (hm:s₁.heap.Ns L' m) (nL:¬Po P own L') (fL:¬bz L') (sL:¬C.sp L') (σL:bj L'=none):
  wpAny (bI C.prog C.w) A (assign (.Name y py) env z) (λw_ dv=>∃m,dv.heap.Ns L' m/\∀h',cy L' dv.heap h'->Mz C P own env ns F₀ s₀ K .next {dv with heap:=h'}) (λw_ w_=>False) s₁:=by
 obtain⟨hz,q⟩:=uz q;refine eB (uh Wt bp.rep (Y.step bp) hy hz r ?_);rintro cA t iD l6 b8 nz ⟨b,ob,hs⟩;have hb:L'≠b:=λe=>nL (.inr (e▸ob));refine⟨m,hm.sameBut hs hb,λjH sV=>?_⟩;have C6:∀b,b≠L'->∀o,cA.get? b=some o->jH.get? b=some o:=λb hb o e=>(sV.2 b hb).trans e;have tH:=iD.outE C6 fL nL sL σL;have a':Aft C P F₀ s₀ bz bj {s₁ with heap:=jH,toks:=t}:=((a.trans (bp.sub gQ)).trans b8).trans (s₁:={s₁ with heap:=cA,toks:=t}) ⟨⟨jH,t,rfl⟩,⟨λw_ x=>x,λb f o e=>C6 b (λq=>fL (q▸f)) o e⟩,λb p o e=>C6 b (λq=>nL (.inl (q▸p))) o e,tH.sub gQ⟩;exact⟨.next,c8 e8 i v,bz,bj,a',q,tH,l6.poke C6 nL fL⟩
theorem zq{elt iter x px ifs sc cpos pos y py}{iit ielt:IE}{iifs:List IE}{t i:Nat}(Wt:Wr env ns fz P own)(g:dL ns sc=true)(hx:fk sc.names x=some t)(hit:∀PP,EvalOk C d env ns PP (bS iter env) iit)(helt:∀cenv PP',EvalOk C d cenv sc.names PP' (bS elt cenv) ielt)
  (htests:∀cenv PP',tQ C d cenv sc.names PP' ifs iifs) (hf:∀x,bW iter env x=dD x) (hy:cB ns y=some i) (hs:gb (.ListComp elt [⟨.Name x px,iter,ifs,0⟩] sc cpos) (some (.Name y py)) pos.line env=dD true):
  ExecOk C d env ns P own (ny (.Assign [.Name y py] (.ListComp elt [⟨.Name x px,iter,ifs,0⟩] sc cpos) pos) env) (yg C d fz (.assign (.nm i) (.comp (hY ns sc.names) t iit iifs ielt))):=by
 intro e8 σ K A F s F₀ s₀ hA a X Y W;unfold Ff;refine ao (kt _ _ _ _ hs) ?_;refine aB (bZ (aB ?_));rw[ow];refine aB ?_;refine b0 (z9 (E:=λw_ w_=>False) (use:=some (assign (.Name y py) env)) (K:=λw_ s'=>Mz C P own env ns F₀ s₀ K .next s')
  g hx (hit _) helt htests hf hA X Y W (λh=>by clear Y hs hy hf hit Wt;exact n9 h) λu hu v z bz bj s₁ L' m bp r q hm nL fL sL σL=>?_) (λw_ s' hq=>bc (bc hq)) λw_ w_ z=>z
 replace hu:=ac hu;subst hu;exact vb Wt hy a Y bp r q hm nL fL sL σL
theorem xL{elt iter iter' x x' px px' sc cpos pos y py}{iit ielt iit':IE}{t t' i:Nat}(Wt:Wr env ns fz P own)(g:dL ns sc=true)(hx:fk sc.names x=some t)(hit:∀PP,EvalOk C d env ns PP (bS iter env) iit)(helt:∀cenv PP',EvalOk C d cenv sc.names PP' (bS elt cenv) ielt)
  (hx':fk sc.names x'=some t') (hit':∀cenv PP',EvalOk C d cenv sc.names PP' (bS iter' cenv) iit') (hf':∀cenv x,bW iter' cenv x=dD x) (hf:∀x,bW iter env x=dD x) (hy:cB ns y=some i) (hs:gb (.ListComp elt [⟨.Name x px,iter,[],0⟩,⟨.Name x' px',iter',[],0⟩] sc cpos) (some (.Name y py)) pos.line env=dD true):
  ExecOk C d env ns P own (ny (.Assign [.Name y py] (.ListComp elt [⟨.Name x px,iter,[],0⟩,⟨.Name x' px',iter',[],0⟩] sc cpos) pos) env) (yg C d fz (.assign (.nm i) (.comp2 (hY ns sc.names) t iit t' iit' ielt))):=by
 intro e8 σ K A F s F₀ s₀ hA a X Y W;unfold Ff;refine ao (kt _ _ _ _ hs) ?_;refine aB (bZ (aB ?_));rw[ow];refine aB ?_;refine b0 (yF (E:=λw_ w_=>False) (use:=some (assign (.Name y py) env)) (K:=λw_ s'=>Mz C P own env ns F₀ s₀ K .next s')
  g hx (hit _) helt hx' hit' hf' hf hA X Y W (λh=>by clear Y hs hy hf hit Wt;exact n9 h) λu hu v z bz bj s₁ L' m bp r q hm nL fL sL σL=>?_) (λw_ s' hq=>bc (bc hq)) λw_ w_ z=>z
 replace hu:=ac hu;subst hu;exact vb Wt hy a Y bp r q hm nL fL sL σL
theorem yz{ek ev iter x px sc cpos pos y py}{iit ik iv:IE}{t i:Nat}(Wt:Wr env ns fz P own)(g:dL ns sc=true)(hx:fk sc.names x=some t)(hit:∀PP,EvalOk C d env ns PP (bS iter env) iit)(hik:∀cenv PP',EvalOk C d cenv sc.names PP' (bS ek cenv) ik)
  (hiv:∀cenv PP',EvalOk C d cenv sc.names PP' (bS ev cenv) iv) (hf:∀x,bW iter env x=dD x) (hy:cB ns y=some i) (hs:gb (.DictComp ek ev [⟨.Name x px,iter,[],0⟩] sc cpos) (some (.Name y py)) pos.line env=dD true):
  ExecOk C d env ns P own (ny (.Assign [.Name y py] (.DictComp ek ev [⟨.Name x px,iter,[],0⟩] sc cpos) pos) env) (yg C d fz (.assign (.nm i) (.dcomp (hY ns sc.names) t iit ik iv))):=by
 intro e8 σ K A F s F₀ s₀ hA a X Y W;unfold Ff;refine ao (kt _ _ _ _ hs) ?_;refine aB (bZ (aB ?_));rw[arm_evalThenUse_DictComp];refine aB ?_;refine b0 (xK (E:=λw_ w_=>False) (use:=some (assign (.Name y py) env)) (K:=λw_ s'=>Mz C P own env ns F₀ s₀ K .next s')
  g hx (hit _) hik hiv hf hA X Y W (λh=>by clear Y hs hy hf hit Wt;exact n9 h) λu hu v z bz bj s₁ L' m bp r q hm nL fL sL σL=>?_) (λw_ s' hq=>bc (bc hq)) λw_ w_ z=>z
 replace hu:=ac hu;subst hu;exact vb Wt hy a Y bp r q hm nL fL sL σL
@[elab_as_elim] theorem EL{α:Type}{c:Prop}{d:Decidable c}{a b:α}{P:α->Prop}(h1:c->P a)(h2:¬c->P b):P (@ite α c d a b):=by
 by_cases h:c
 ·exact ao (if_pos h) (h1 h)
 ·exact ao (if_neg h) (h2 h)
theorem CL{a b:Str}{pa pb p p':hU}{k k':Nat}{vs:List Expr}{env:o7}(hc:vs.all (constantsAlone 8)=false):
  fq [.Tuple [.Name a pa,.Name b pb] k p] (.Tuple vs k' p') env=dD none\/(a≠b/\fq [.Tuple [.Name a pa,.Name b pb] k p] (.Tuple vs k' p') env=dD (some [a,b])):=by
 unfold fq;dsimp only;refine ao hc ?_;refine EL (λw_=> .inl rfl) λh1=>?_;refine EL (λw_=> .inl rfl) λh2=>?_;refine EL (λw_=> .inl rfl) λh3=>?_;generalize hl:List.filterMap (α:=Expr) (β:=Str) _ [kL a pa,kL b pb]=l at h3 ⊢;simp only[fE,not_or,bne_iff_ne,ne_eq,uO]at h3;obtain⟨h3,h4⟩:=h3;have e:l=[a,b]:=by
  rw[eE,eE,List.filterMap_nil]at hl;dsimp only at hl;by_cases q1: (env.kindOf a==some .local && pa.line==(fV (λx=>x.pos.line) [kL a pa,kL b pb].head?).getD 0)=true
  ·by_cases q2: (env.kindOf b==some .local && pb.line==(fV (λx=>x.pos.line) [kL a pa,kL b pb].head?).getD 0)=true
   ·rw[if_pos q1,if_pos q2]at hl;exact hl.symm
   ·rw[if_pos q1,if_neg q2]at hl;clear q2 q1 h4 h1;subst hl;simp at h3
  ·by_cases q2: (env.kindOf b==some .local && pb.line==(fV (λx=>x.pos.line) [kL a pa,kL b pb].head?).getD 0)=true
   ·rw[if_neg q1,if_pos q2]at hl;clear q2 q1 h4 h1;subst hl;simp at h3
   ·rw[if_neg q1,if_neg q2]at hl;clear h4;subst hl;simp at h3
 clear h3 hl h1;subst e;have hab:a≠b:=by
  rintro rfl;simp[List.eraseDups_cons]at h4
 refine EL (λw_=> .inl rfl) λw_=>?_;refine ao (if_neg (by decide)) ?_;exact .inr ⟨hab,rfl⟩
theorem z5{x y:V}:∀{e:bT} {i j:Nat},i≠j->c8 (c8 e i x) j y=c8 (c8 e j y) i x
 |[],_,_=>λw_=>rfl
 |_::r,0,0=>λh=>absurd rfl h
 |_::r,0,j+1=>λw_=>rfl
 |_::r,i+1,0=>λw_=>rfl
 |a::r,i+1,j+1=>λh=>by
  show a::c8 (c8 r i x) j y=a::c8 (c8 r j y) i x;exact ao (z5 (e:=r) (i:=i) (j:=j) (λq=>h (congrArg (·+1) q))) rfl
theorem zl{a b:Str}{pa pb p p' pos:hU}{k k':Nat}{vs:List Expr}{ie:IE}{i j:Nat}(Wt:Wr env ns fz P own)(hi:cB ns a=some i)(hj:cB ns b=some j)(hab:a≠b)(he:∀PP,EvalOk C d env ns PP (bS (.Tuple vs k' p') env) ie)
  (hw:fq [.Tuple [.Name a pa,.Name b pb] k p] (.Tuple vs k' p') env=dD (some [a,b])):ExecOk C d env ns P own (ny (.Assign [.Tuple [.Name a pa,.Name b pb] k p] (.Tuple vs k' p') pos) env) (yg C d fz (.assign (.tup [i,j]) ie)):=by
 intro e8 σ K A F s F₀ s₀ hA a0 X Y W;unfold Ff;rw[exec_Assign_arm];refine aB (bZ ?_);show wpAny _ A (dD false >>=_) _ _ _;refine aB (bc ?_);refine ao (if_neg (by decide)) ?_;refine aB ((he _ e8 σ _ A F s hA X Y W).use ?_);intro v x bz bj s₁ bp eD cY;obtain⟨hz,cY⟩:=qI cY;refine oX cY λus hv cY=>?_;obtain⟨hl,q⟩:=qI cY;have hl:=kr hl;refine ao hw ?_;refine aB (bc ?_);unfold assignStores;refine aB (yQ (aB ?_));have hl2:us.length=2:=hl;have: ([a,b]:List Str).length=us.length:=by refine ao hl2 ?_;rfl
 refine ao this ?_;refine t8 hA bp.rep eD hv λxs dv b8 rr=>?_;refine zt (Eu hl2) ?_;rintro u w rfl;refine cr (I5 rr) ?_;rintro y z rfl ru rw'
 focus
  rw[kU,kU,bD,bD]at hz;have hz1:fz.contains i=false:=by exact(c6 _).mp (hz.1)
  have hz2:fz.contains j=false:=by exact(c6 _).mp (hz.2.1)
  have hij:i≠j:=by
   rintro rfl;refine bJ (iE hi) ?_;intro _ h1 _;refine bJ (iE hj) ?_;intro _ h2 _;exact hab (gS h1 h2)
  show wpAny _ A (sQ [λv=>bindName env b v,λv=>bindName env a v] [z,y] >>=λw_=>dD Flow.next) _ _ _;refine aB (aB (bP (wpAny_bindName (jJ Wt b8.rep ((Y.step bp).step b8) hj hz2 rw' λjH Mv tH tE dS Ir=>?_))));refine aB (bP (wpAny_bindName (jJ (s:={dv with heap:=jH,toks:=Mv}) Wt tH tE hi hz1 (ru.mono Ir) λgD PF sx tF eI J8=>?_)));refine bc (bc ⟨.next,_,bz,bj,(((a0.trans (bp.sub gQ)).trans (b8.sub gQ)).trans dS).trans eI,?_,sx,tF⟩);have e:mX e8 [i,j] [u,w]=c8 (c8 e8 j w) i u:=z5 hij;refine dk e ?_;exact q
theorem cN.outL(X:cN C P F σ h)(S:dQ)(k:∀b,¬S b->∀o,h.get? b=some o->h'.get? b=some o)(hs:∀a,S a->¬F a/\¬P a/\¬C.sp a/\σ a=none):cN C P F σ h':=by
 have kF:d3 F h h':=λb f o e=>k b (λz=>(hs b z).1 f) o e;refine⟨λb o e=>⟨(X.base b o e).1,kF b (X.base b o e).1 o (X.base b o e).2⟩,X.fp,λb f=>let⟨o,e⟩:=X.fal b f;⟨o,kF b f o e⟩,
  λb f=>let⟨o,e⟩:=X.pal b f;⟨o,k b (λz=>(hs b z).2.1 f) o e⟩,λb m'' e=>?_,λb s=>let⟨p,q,o,e⟩:=X.spx b s;⟨p,q,o,k b (λz=>(hs b z).2.2.1 s) o e⟩,
  C.invKeep _ _ _ _ X.inv (λw_ x=>x) λb s o e=>s.elim (λs=>k b (λz=>(hs b z).2.2.1 s) o e) λf=>kF b f o e⟩
 have hb:¬S b:=λz=>by have:=(hs b z).2.2.2;rw[this]at e;exact bx e
 obtain⟨p,q,r,z⟩:=X.obj b m'' e;refine⟨p,q,r,z.mono ⟨λw_ x=>x,kF⟩ (k b hb) λw_ d w_ w_ w_ s=>?_⟩;exact⟨s,k d λz=>by have:=(hs d z).2.2.2;rw[this]at s;clear r q p hb e;exact bx s⟩
theorem FR.pokeL(X:FR C env ns PP F e8 h)(S:dQ)(hs:∀b,¬S b->∀o,h.get? b=some o->h'.get? b=some o)(np:∀a,S a->¬PP a/\¬F a):FR C env ns PP F e8 h' where
 glob:=X.glob
 blt:=X.blt
 kind:=X.kind
 gk:=X.gk
 loc:=by
  obtain⟨m,n,p,q⟩:=X.loc;have E:gX F h F h':=⟨λw_ x=>x,λb f o e=>hs b (λq=>(np b q).2 f) o e⟩;exact⟨m,sK n (hs _ λq=>(np _ q).1 p),p,λx i e=>⟨(q x i e).1,λv g=>let⟨y,e1,e2⟩:=(q x i e).2 v g;⟨y,e1,e2.mono E⟩⟩⟩
 cel:=λx i k e z=>by
  have E:gX F h F h':=⟨λw_ x=>x,λb f o e=>hs b (λq=>(np b q).2 f) o e⟩;obtain⟨q,c,y0,h1,h2,h3,h4⟩:=X.cel x i k e z;exact⟨q,c,y0,h1,h2,mH h3 (hs _ λq=>h2.elim (np _ q).1 (np _ q).2),λv g=>let⟨y,e1,e2⟩:=h4 v g;⟨y,e1,e2.mono E⟩⟩
 apart:=X.apart
inductive O5(ns:cD)(t it:Expr)(i j:Nat)(e:Expr):Prop
 |mk (a:Str) (pa:hU) (b:Str) (pb:hU) (k:Nat) (p:hU) (f:Str) (pf q:hU) (h1:t= .Tuple [.Name a pa,.Name b pb] k p) (h2:it= .Call (.Name f pf) [e] [] q) (h3:sX ns f "enumerate"=true) (h4:cB ns a=some i) (h5:cB ns b=some j):O5 ns t it i j e
theorem Fn{t it:Expr}{i j:Nat}{e:Expr}(h:AD ns t it=some (i,j,e)):O5 ns t it i j e:=by
 refine oB h λts h1 h=>?_;refine oB h ?_;rintro⟨t1,t2⟩ h2 h;refine oB h λa h3 h=>?_;refine oB h λb h4 h=>?_;refine oB h ?_;rintro⟨f,es,q⟩ h5 h;refine oB h λfn h6 h=>?_;refine oB h λe' h7 h=>?_;split at h
 ·rename_i hg
  refine oB h λi' h8 h=>?_;refine oM h λj' h9 h=>?_;cases h;clear h;clear h;clear h;clear h;clear h;clear h;clear h;clear h;clear h;refine zt (Gw h1) ?_;rintro k p rfl;cases Ap h2;clear h1 h2;obtain⟨pa,rfl⟩:=kR h3;clear h3;obtain⟨pb,rfl⟩:=kR h4;cases ET h5;clear h5 h4;obtain⟨pf,rfl⟩:=kR h6;cases qJ h7;exact⟨_,_,_,_,_,_,_,_,_,rfl,rfl,hg,h8,h9⟩
 ·exact bx h
inductive O9(C:Cx)(P PP F₀ bz:dQ)(s₀:aU)(env:o7)(ns:cD)(items:List V)(Q I l:aY)(Z:Nat->List V->bT->AH->Prop)(n:Nat)(s:aU):Prop
 |mk (e8:bT) (F:dQ) (σ:AH) (i:Nat) (old:aD) (h1:n=items.length-i) (h2:i<=items.length) (h3:Aft C P F₀ s₀ F σ s) (h4:cN C PP F σ s.heap) (h5:FR C env ns PP F e8 s.heap) (h6:∀b,bz b->F b) (h7:R C F s.heap (.list items) (.ref l)) (h8:IsEnum s.heap Q I (i:Nat) old) (h9:s.heap.IsListIter I l i) (h10:Z i (items.drop i) e8 σ):O9 C P PP F₀ bz s₀ env ns items Q I l Z n s
theorem FM{a b:Str}{pa pb p pf q pos:hU}{k:Nat}{f:Str}{e:Expr}{ie:IE}{n:Nat}{body:List ij}{ib:List IS}{i j:Nat}(Wt:Wr env ns fz P own)(hg:sX ns f "enumerate"=true)(hi:cB ns a=some i)(hj:cB ns b=some j)(hc:cE ns n e=some ie)
  (he:∀PP,EvalOk C d env ns PP (bS e env) ie) (hb:∀P,Wr env ns fz P own->ExecOk C d env ns P own (ql body env) (wpSs C d fz ib)):
  ExecOk C d env ns P own (ny (.For (.Tuple [.Name a pa,.Name b pb] k p) (.Call (.Name f pf) [e] [] q) body [] pos) env) (yg C d fz (.forEnum i j ie ib)):=by
 refine ID (zZ hg) ?_;rintro rfl gi hgi;intro e8 σ K A F s F₀ s₀ hA a0 X Y W;obtain⟨zi,W⟩:=uz W;obtain⟨zj,W⟩:=uz W;refine wpAny_For ?_ (λw_=>rfl);refine ao (lU (by intro o x p e;cases e)) ?_;refine aB (ta (n:="enumerate") X Y (by decide+kernel) hgi rfl (by decide+kernel) λy hy=>?_);have hy':C.gv "enumerate"=some y:=hy;have hs:=C.blt ("enumerate",.type "enumerate") (by decide+kernel);rw[hy']at hs;replace hs:=ac hs;subst hs;refine ao (xm hc) ?_;refine rE (P:=λw_=>True) rfl (λh w_=>⟨.machine,.inr (.inl rfl),.now⟩) (rF (uN ?_));refine(he _ e8 σ _ A F s hA X Y W).use ?_;intro xv y bz bj s₁ bp eD cY;refine d4 (zP cY) λitems hx hlen jI=>?_;cases Hq hx;refine wg ⟨trivial,?_⟩;clear hx hlen hgi hg he hc;obtain⟨l,xs,rfl,fl,hl,rr,_⟩:=id eD;refine call_enumerate_list hl.isList λcA hen hit hsz kk=>?_;refine wpAny_pyIter_enum (s:={s₁ with heap:=cA}) hen ?_;have none_of:∀b,s₁.heap.objs.size<=b->s₁.heap.get? b=none:=λb hb=>by
  cases q:s₁.heap.get? b with
  |none=>rfl
  |some o'=>exact absurd (bY q) (iM.mpr hb)
 have hfrI:=none_of _ (aG _);have hfrE:=none_of (s₁.heap.objs.size+1) (dI _);have hEI:s₁.heap.objs.size+1≠s₁.heap.objs.size:=Nat.succ_ne_self _;generalize s₁.heap.objs.size=I at*;generalize I+1=Q at*;have b8:Aft C (Po P own) bz s₁ bz bj {s₁ with heap:=cA,toks:=s₁.toks}:=Aft.grow bp.rep kk;have nPo:∀b,b=Q\/b=I->¬Po P own b:=λb hb=>bp.rep.fresh_P (hb.elim (λe=>e▸hfrE) λe=>e▸hfrI);have frL:∀b∈ [Q,I],Oa C bz bj cA b:=λb hb=>by
  have hb':b=Q\/b=I:=by exact(a9.mp (hb)).imp_right aq.mp
  have e:=hb'.elim (λe=>e▸hfrE) λe=>e▸hfrI;refine⟨bp.rep.fresh_F e,bp.rep.fresh_sp e,bp.rep.fresh_σ e,?_⟩;rcases hb' with rfl|rfl
  ·exact⟨_,hen⟩
  ·refine bJ hit ?_;clear hit;intro o ho _;exact⟨o,ho⟩
 have Yorig:=(Y.step bp).step b8;have sy:Aft C P F₀ s₀ bz bj {s₁ with heap:=cA,toks:=s₁.toks}:=(a0.trans (bp.sub gQ)).trans (b8.sub gQ);have po:∀b,Po (Pl P [Q,I]) own b↔Pl (Po P own) [Q,I] b:=λb=>by
  unfold Po Pl;constructor
  ·rintro((h|h)|h)
   ·exact .inl (.inl h)
   ·exact .inr h
   ·exact .inl (.inr h)
  ·rintro((h|h)|h)
   ·exact .inl (.inl h)
   ·exact .inr h
   ·exact .inl (.inr h)
 have Wt':Wr env ns fz (Pl P [Q,I]) own:=⟨Wt.loc,Wt.cel,Wt.fre,λb hb q=>q.elim (Wt.np b hb) λq=>nPo b (by exact(a9.mp (q)).imp_right aq.mp) (.inr hb)⟩;have zH:cN C (Po (Pl P [Q,I]) own) bz bj cA:=(b8.rep.prot1 frL).sub λb q=>(po b).mp q;have BE:FR C env ns (Po (Pl P [Q,I]) own) bz e8 cA:=Yorig.sub λb q=>(po b).mpr (.inl q);have ht:cT ns 0 (.Tuple [.Name a pa,.Name b pb] k p)=some (.tup [i,j]):=by
  show(((cB ns a).bind λi=>((cB ns b).bind λj=>(some []:Option (List Nat)).map (j::·)).map (i::·)).map wB.tup)=_;refine ao hi (ao hj ?_);rfl
 refine sk (λn s'=>O9 C P (Po (Pl P [Q,I]) own) F₀ bz s₀ env ns items Q I l (λi' r e8 σ=>ym i j (wpSs C d fz ib) K i' r e8 σ) n s') ?_ (items.length-0) ⟨e8,bz,bj,0,.none,rfl,bg _,sy,zH,BE,λw_ h=>h,R.mono b8.ext eD,hen,hit,jI⟩;clear cY jI sy zH BE hen hit rr hl fl;rintro n s ⟨e8,F,σ,i',old,rfl,hi',a,X,Y',hF,rl,hen,hit,W⟩;have pQ:Po (Pl P [Q,I]) own Q:= .inl (.inr (by exact .head _));have pI:Po (Pl P [Q,I]) own I:= .inl (.inr (by exact .tail _ (.head _)));have nS:∀b,b=Q\/b=I->¬F b/\¬Po P own b/\¬C.sp b/\σ b=none:=λb hb=>by
  obtain⟨h1,h2,h3,_⟩:=X.prot (a:=b) (hb.elim (λe=>e▸pQ) λe=>e▸pI);exact⟨h1,nPo b hb,h2,h3⟩
 have subL:∀b,P b->Pl P [Q,I] b:=λb q=> .inl q;obtain⟨l',xs,e',fl,hl,rr,_⟩:=id rl;cases e';have hlx:=rr.length;have X':cN C (Po P own) F σ s.heap:=X.sub λb q=>(po b).mpr (.inl q);have back:∀cR:cx,(∀b,¬(b=Q\/b=I)->∀o,s.heap.get? b=some o->cR.get? b=some o)->cN C (Po P own) F σ cR/\gX F s.heap F cR:=λcR eW=>
  ⟨X'.outL (λb=>b=Q\/b=I) eW nS,⟨λw_ x=>x,λb f o e=>eW b (λq=>(nS b q).1 f) o e⟩⟩
 by_cases hlt:i'<items.length
 ·obtain⟨v,hv⟩:∃v,items[i']?=some v:=⟨_,ah hlt⟩
  have hdrop:items.drop i'=v::items.drop (i'+1):=by
   refine ao (cc hlt) ?_;rw[ah hlt]at hv;replace hv:=ac hv;subst hv;rfl
  rw[hdrop]at W;refine bJ (rr.get hv) λy hy ry=>?_;refine wpAny_pyNext_enum_item hen hit hl.isList (x:=y) (by exact eT.trans (hy)) hEI λcR heo It KQ N4 N5=>?_;refine wpAny_letOwnedTupleGo_enum heo λjH KR sV=>?_;have sV:cy Q cR jH:=sV;have C6:∀b,¬(b=Q\/b=I)->∀o,s.heap.get? b=some o->jH.get? b=some o:=λb hb o e=>(sV.2 b λq=>hb (.inl q)).trans (N5 b o (λq=>hb (.inl q)) (λq=>hb (.inr q)) e);obtain⟨tH,Ir⟩:=back jH C6;have hTf:s.heap.get? s.heap.objs.size=none:=d8 _;have hQlt:Q<s.heap.objs.size:=bY hen;have hT:jH.get? s.heap.objs.size=some {cls:= .type "tuple",data:= .seq #[.int i' s.toks,y]}:=(sV.2 _ (pX hQlt)).trans KQ;generalize s.heap.objs.size=T at*;have BF:jH.IsListIter I l (i'+1):=by
   refine bJ It λo ho x=>?_;clear It;exact⟨o,(sV.2 _ (aV hEI)).trans ho,x⟩
  have N6:cN C (Po (Pl P [Q,I]) own) F σ jH:=(tH.prot1 (l:=[Q,I]) λb hb=>by
   have hb':b=Q\/b=I:=by exact(a9.mp (hb)).imp_right aq.mp
   refine iq (nS b hb') ?_;intro h1 _ h3 h4;refine⟨h1,h3,h4,?_⟩;rcases hb' with rfl|rfl
   ·exact⟨_,KR⟩
   ·refine bJ BF ?_;clear BF;intro o ho _;exact⟨o,ho⟩).sub λb q=>(po b).mp q
  have sx:=N6.freeze (λb=>b=T) λb e=>by clear hQlt N4 KQ heo;subst e;exact⟨λq=>X.fresh_P hTf q,X.fresh_sp hTf,X.fresh_σ hTf,_,hT⟩
  have J8:gX F s.heap (λb=>F b\/b=T) jH:=⟨λb x=> .inl (Ir.sub b x),Ir.keep⟩;have tE:FR C env ns (Po P own) F e8 jH:=(Y'.back Yorig hF).pokeL (λb=>b=Q\/b=I) C6 λb hb=>⟨(nS b hb).2.1,(nS b hb).1⟩;have eI:Aft C P F₀ s₀ (λb=>F b\/b=T) σ {s with heap:=jH,toks:=s.toks+1}:=a.trans ⟨⟨jH,_,rfl⟩,J8,λb p o e=>C6 b (λq=>nPo b q (.inl p)) o e,sx.sub λb q=> .inl (.inl q)⟩;have tF:FR C env ns (Po (Pl P [Q,I]) own) (λb=>F b\/b=T) e8 jH:=(tE.sub λb q=>(po b).mpr (.inl q)).step (s:={s with heap:=jH}) (σ':=σ) (s':={s with heap:=jH}) ⟨⟨jH,s.toks,rfl⟩,⟨λb x=> .inl x,d3.refl _ _⟩,d3.refl _ _,sx⟩;have rT:R C (λb=>F b\/b=T) jH (.tup [.int i',v]) (.ref T):=⟨T,[.int i' s.toks,y],rfl,.inr rfl,⟨_,hT,rfl,0,rfl⟩,⟨⟨_,rfl⟩,ry.mono J8,trivial⟩,by exact aj rfl⟩;refine b0 (u5 (P:=Pl P [Q,I]) (own:=own) (F₀:=λb=>F b\/b=T) (s₀:={s with heap:=jH,toks:=s.toks+1}) (s:={s with heap:=jH,toks:=s.toks+1}) (K:=λe8 σ'=>e8=c8 (c8 _ i (.int i')) j v/\σ'=σ) hA Wt' ht (Aft.refl (sx.sub λb q=> .inl q)) sx tF rT (HK (by refine ao kU (ao kU (ao zi (ao zj ?_)));rfl) ⟨rfl,rfl⟩)) ?_ λw_ w_ z=>z.elim;rintro _ g9 ⟨NX,tG,qs,mD,nA,BD,rfl,rfl⟩;have pk:∀b,b=Q\/b=I->Pl P [Q,I] b:=λb hb=> .inr (by simpa using hb);have N7:IsEnum g9.heap Q I ((i'+1:Nat):Int) y:=mD.keep Q (pk Q (.inl rfl)) _ KR;have Iu:g9.heap.IsListIter I l (i'+1):=by
   refine bJ BF λo ho x=>?_;clear BF;exact⟨o,mD.keep I (pk I (.inr rfl)) _ ho,x⟩
  have N8:=eI.trans (mD.sub subL);refine b0 (hb (Pl P [Q,I]) Wt' _ qs _ A tG g9 tG g9 hA (Aft.refl (nA.sub λb q=> .inl q)) nA BD W) ?_ λw_ w_ z=>z.elim;rintro fl J9 ⟨kk,Mw,mE,mi,uT,q,ff⟩;have nq:Aft C P F₀ s₀ mE mi J9:=N8.trans (uT.sub subL);have KS:IsEnum J9.heap Q I ((i'+1:Nat):Int) y:=uT.keep Q (pk Q (.inl rfl)) _ N7;have Iv:J9.heap.IsListIter I l (i'+1):=by
   refine bJ Iu λo ho x=>?_;clear Iu;exact⟨o,uT.keep I (pk I (.inr rfl)) _ ho,x⟩
  have KU:∀b,bz b->mE b:=λb z=>uT.ext.sub b (mD.ext.sub b (.inl (hF b z)));have KV:R C mE J9.heap (.list items) (.ref l):=((R.mono J8 rl).mono mD.ext).mono uT.ext;cases kk with
  |next=>
   cases fl<;>first|exact ff.elim|skip
   exact⟨items.length- (i'+1),by exact ir (nat_lit 0x358245104721896190242) rfl (ar (bt (nat_lit 0x2b048a158241) rfl hlt)) (ar (bt (nat_lit 0x2028401) rfl hi')),Mw,mE,mi,i'+1,y,rfl,hlt,nq,ff.1,ff.2,KU,KV,KS,Iv,q⟩
  |cont=>
   cases fl<;>first|exact ff.elim|skip
   exact⟨items.length- (i'+1),by exact ir (nat_lit 0x358245104721896190242) rfl (ar (bt (nat_lit 0x2b048a158241) rfl hlt)) (ar (bt (nat_lit 0x2028401) rfl hi')),Mw,mE,mi,i'+1,y,rfl,hlt,nq,ff.1,ff.2,KU,KV,KS,Iv,q⟩
  |ret v=>
   cases fl<;>first|exact ff.elim|skip
   exact⟨.ret v,Mw,mE,mi,nq,q,ff⟩
 ·have hie:i'=items.length:=by exact aN (bt (nat_lit 0x2028401) rfl hi') (bt (nat_lit 0x4a158244) rfl hlt)
  clear hlt z_1 rr rl hi' z;subst hie;rw[gL]at W;refine wpAny_pyNext_enum_end hA.1 hen hit hl.isList (by simp[hlx]) λcR fO=>l4 ?_;have eW:∀b,¬(b=Q\/b=I)->∀o,s.heap.get? b=some o->cR.get? b=some o:=λb hb o e=>fO b o (λq=>hb (.inr q)) e;obtain⟨eV,lK⟩:=back cR eW;exact⟨.next,e8,F,σ,a.trans ⟨⟨cR,s.toks,rfl⟩,lK,λb p o e=>eW b (λq=>nPo b q (.inl p)) o e,eV.sub gQ⟩,W,eV,(Y'.back Yorig hF).pokeL (λb=>b=Q\/b=I) eW λb hb=>⟨(nS b hb).2.1,(nS b hb).1⟩⟩
theorem IG{t:uU Flow}{w:bT->AH->dy->Prop}(hw:∀e8 σ K,¬w e8 σ K):ExecOk C d env ns P own t w:=λe8 σ K A F s F₀ s₀ hA a X Y W=>absurd W (hw e8 σ K)
theorem Jw{e:Expr}{y:Str}{py:hU}{line:Nat}:∃b,gb e (some (.Name y py)) line env=dD b:=by
 cases e<;>exact⟨_,rfl⟩
theorem Ia{y:Str}{py:hU}{elt:Expr}{gs:List gB}{sc:Scope}{p:hU}{n:Nat}{i:Nat}{ie:IE}{pos:hU}(Wt:Wr env ns fz P own)(hy:cB ns y=some i)(he:cE ns n (.ListComp elt gs sc p)=some ie)(hb:gb (.ListComp elt gs sc p) (some (.Name y py)) pos.line env=dD true):ExecOk C d env ns P own (ny (.Assign [.Name y py] (.ListComp elt gs sc p) pos) env) (yg C d fz (.assign (.nm i) ie)):=by
 cases n with
 |zero=>exact bx he
 |succ n=>
  have H:=iT (C:=C) d n;obtain⟨hg,x,px,it,fs,t,iit,ifs,ielt,rfl,ht,h3,h5,h7,rfl⟩|⟨hg,x,px,it,x',px',it',t,iit,t',iit',ielt,rfl,ht,h3,ht',h6,h8,rfl⟩:=HJ he
  ·exact zq Wt hg ht (λPP=>H.E _ _ _ h3 env PP) (λcenv PP'=>H.E _ _ _ h7 cenv PP') (λcenv PP'=>(H.L _ _ _ h5).tests cenv PP') (iS h3) hy hb
  ·exact xL Wt hg ht (λPP=>H.E _ _ _ h3 env PP) (λcenv PP'=>H.E _ _ _ h8 cenv PP') ht' (λcenv PP'=>H.E _ _ _ h6 cenv PP') (λcenv=>iS (env:=cenv) h6) (iS h3) hy hb
theorem GT{y:Str}{py:hU}{k v:Expr}{gs:List gB}{sc:Scope}{p:hU}{n:Nat}{i:Nat}{ie:IE}{pos:hU}(Wt:Wr env ns fz P own)(hy:cB ns y=some i)(he:cE ns n (.DictComp k v gs sc p)=some ie)(hb:gb (.DictComp k v gs sc p) (some (.Name y py)) pos.line env=dD true):ExecOk C d env ns P own (ny (.Assign [.Name y py] (.DictComp k v gs sc p) pos) env) (yg C d fz (.assign (.nm i) ie)):=by
 cases n with
 |zero=>exact bx he
 |succ n=>
  have H:=iT (C:=C) d n;obtain⟨hg,x,px,it,t,iit,ik,iv,rfl,ht,h3,h5,h7,rfl⟩:=Ey he;exact yz Wt hg ht (λPP=>H.E _ _ _ h3 env PP) (λcenv PP'=>H.E _ _ _ h5 cenv PP') (λcenv PP'=>H.E _ _ _ h7 cenv PP') (iS h3) hy hb
theorem GY{n:Nat}{ie:IE}{e:Expr}{y:Str}{py:hU}{line:Nat}(he:cE ns n e=some ie):gb e (some (.Name y py)) line env=dD false\/(∃elt gs sc p,e= .ListComp elt gs sc p)\/∃k v gs sc p,e= .DictComp k v gs sc p:=by
 cases n with
 |zero=>exact bx he
 |succ n=>cases e<;>first|exact .inl rfl|exact .inr (.inl ⟨_,_,_,_,rfl⟩)|exact .inr (.inr ⟨_,_,_,_,_,rfl⟩)|exact bx he
theorem Am{e:Expr}{y:Str}{py:hU}:fq [.Name y py] e env=dD none:=by cases e<;>rfl
theorem DY{y:Str}{py:hU}{e:Expr}{n:Nat}{i:Nat}{ie:IE}{pos:hU}(Wt:Wr env ns fz P own)(hy:cB ns y=some i)(he:cE ns n e=some ie)(plain:gb e (some (.Name y py)) pos.line env=dD false->fq [.Name y py] e env=dD none->ExecOk C d env ns P own (ny (.Assign [.Name y py] e pos) env) (yg C d fz (.assign (.nm i) ie))):ExecOk C d env ns P own (ny (.Assign [.Name y py] e pos) env) (yg C d fz (.assign (.nm i) ie)):=by
 obtain⟨b,hb⟩:=Jw (env:=env) (e:=e) (y:=y) (py:=py) (line:=pos.line);rcases GY (env:=env) (y:=y) (py:=py) (line:=pos.line) he with h|⟨elt,gs,sc,p,rfl⟩|⟨k,v,gs,sc,p,rfl⟩
 ·exact plain h Am
 ·cases b with
  |false=>exact plain hb Am
  |true=>exact Ia Wt hy he hb
 ·cases b with
  |false=>exact plain hb Am
  |true=>exact GT Wt hy he hb
inductive Ph(ns:cD)(ts:List Expr)(is:List Nat):Prop
 |mk (a:Str) (pa:hU) (b:Str) (pb:hU) (i j:Nat) (h1:ts=[.Name a pa,.Name b pb]) (h2:is=[i,j]) (h3:cB ns a=some i) (h4:cB ns b=some j):Ph ns ts is
theorem F3{ts:List Expr}{is:List Nat}(h2:ts.length=2)(h:qT ns ts=some is):Ph ns ts is:=by
 refine zt (Eu h2) ?_;rintro t1 t2 rfl;refine oB h λa h0 h'=>?_;clear h h2;obtain⟨pa,rfl⟩:=kR h0;refine oB h' λi hi h3=>?_;clear h' h0;refine oM h3 ?_;rintro is' h4 rfl;refine oB h4 λb h0 h5=>?_;clear h3 h4;obtain⟨pb,rfl⟩:=kR h0;refine oB h5 λj hj h6=>?_;clear h5 h0;refine oM h6 ?_;rintro is'' h7 rfl;clear h6;replace h7:=ac h7;subst h7;exact⟨a,pa,b,pb,i,j,rfl,rfl,hi,hj⟩
theorem Go{e:Expr}{ts:List Expr}{k line:Nat}{p:hU}:gb e (some (.Tuple ts k p)) line env=dD false:=by cases e<;>rfl
theorem H9{e:Expr}{ts:List Expr}{k:Nat}{p:hU}(h:¬∃vs k' p',e= .Tuple vs k' p'):fq [.Tuple ts k p] e env=dD none:=by
 cases e<;>first|rfl|exact absurd ⟨_,_,_,rfl⟩ h
theorem GW{e o i:Expr}{p:hU}{line:Nat}:gb e (some (.Subscript o i p)) line env=dD false/\fq [.Subscript o i p] e env=dD none:=by cases e<;>exact⟨rfl,rfl⟩
theorem Hs{e o:Expr}{x:Str}{p:hU}{line:Nat}:gb e (some (.Attribute o x p)) line env=dD false/\fq [.Attribute o x p] e env=dD none:=by cases e<;>exact⟨rfl,rfl⟩
theorem Gk{t e:Expr}{n:Nat}{it:wB}{ie:IE}{pos:hU}(Wt:Wr env ns fz P own)(hsw:Hz t e=true)(ht:cT ns n t=some it)(he:cE ns n e=some ie):ExecOk C d env ns P own (ny (.Assign [t] e pos) env) (yg C d fz (.assign it ie)):=by
 have hE:∀PP,EvalOk C d env ns PP (bS e env) ie:=λPP=>(iT d n).E _ _ _ he env PP;have plain:=yn (pos:=pos) Wt ht hE;cases t with
 |Name y py=>
  clear hsw hE;refine oM ht ?_;rintro i hy rfl;exact DY Wt hy he plain
 |Tuple ts k p=>
  by_cases htup:∃vs k' p',e= .Tuple vs k' p'
  ·clear he;refine MM htup ?_;clear htup;rintro vs k' p' rfl
   obtain⟨h2,hv⟩:=bo.mp hsw;clear hsw;refine oM ht ?_;rintro is h1 rfl;obtain⟨a,pa,b,pb,i,j,rfl,rfl,hi,hj⟩:=F3 (by exact of_decide_eq_true (h2)) h1;rcases CL (a:=a) (b:=b) (pa:=pa) (pb:=pb) (p:=p) (p':=p') (k:=k) (k':=k') (env:=env) (by exact(c6 _).mp (hv))with hw|⟨hab,hw⟩
   ·exact plain Go hw
   ·exact zl Wt hi hj hab hE hw
  ·exact plain Go (H9 htup)
 |Subscript o i p=>exact plain (GW (line:=pos.line)).1 (GW (line:=0)).2
 |Attribute o x p=>exact plain (Hs (line:=pos.line)).1 (Hs (line:=0)).2
 |_=>clear plain hsw hE he Wt;exact bx ht
section
variable{n:Nat}{is:IS}(H2:∀ns ss iss,cSs ns n ss=some iss->∀env P own fz,Wr env ns fz P own->ExecOk C d env ns P own (ql ss env) (wpSs C d fz iss))
include H2
theorem Nr{t it:Expr}{b el:List ij}{p:hU}(h:cS ns (n+1) (.For t it b el p)=some is)(Wt:Wr env ns fz P own):ExecOk C d env ns P own (ny (.For t it b el p) env) (yg C d fz is):=by
 have HE:=iT (C:=C) d n;replace h: (if el.isEmpty then _ else none)=some is:=h;split at h
 ·rename_i hk
  cases fe.mp hk;cases he:AD ns t it with
  |some x=>
   obtain⟨i,j,e⟩:=x;rw[he]at h;refine oB h λie h1 h2=>?_;clear h hk;refine oM h2 ?_;rintro ib h3 rfl;obtain⟨a,pa,b,pb,k,p,f,pf,q,rfl,rfl,hg,hi,hj⟩:=Fn he;exact FM Wt hg hi hj h1 (λPP=>HE.E _ _ _ h1 env PP) λP Wt=>H2 _ _ _ h3 env P own fz Wt
  |none=>
   rw[he]at h;refine oB h λit h1 h2=>?_;refine oB h2 λie h3 h4=>?_;clear h2 he hk h;refine oM h4 ?_;rintro ib h5 rfl;exact NU Wt h1 (iS h3) (λPP=>HE.E _ _ _ h3 env PP) λP Wt=>H2 _ _ _ h5 env P own fz Wt
 ·exact bx h
theorem HV{st:ij}(h:cS ns (n+1) st=some is)(Wt:Wr env ns fz P own):ExecOk C d env ns P own (ny st env) (yg C d fz is):=by
 have HE:=iT (C:=C) d n;cases st with
 |Assign ts e p=>
  refine oB h λt h0 h5=>?_;cases qJ h0;split at h5
  ·clear h;exact bx h5
  ·rename_i hsw
   refine oB h5 λit h1 h2=>?_;clear h5 h0 h HE H2;refine oM h2 ?_;rintro ie h3 rfl;exact Gk Wt (by simpa using hsw) h1 h3
 |AugAssign t op e p=>
  refine oB h λx h0 h5=>?_;clear h H2;obtain⟨px,rfl⟩:=kR h0;refine oB h5 λi h1 h2=>?_;clear h0 h5;refine oM h2 ?_;rintro ie h3 rfl;exact NM Wt h1 λPP=>HE.E _ _ _ h3 env PP
 |Expr e p=>
  replace h: (if !(DG e)then none else _)=some is:=h;split at h
  ·exact bx h
  ·rename_i hc
   clear Wt H2;refine oM h ?_;rintro ie h3 rfl;exact Me (by simpa using hc) λPP=>HE.E _ _ _ h3 env PP
 |If c a b p=>
  refine oB h λic h1 h2=>?_;refine oB h2 λit h3 h4=>?_;clear h2 h;refine oM h4 ?_;rintro ie h5 rfl;exact ON (λPP=>HE.T _ _ _ h1 env PP) (H2 _ _ _ h3 env P own fz Wt) (H2 _ _ _ h5 env P own fz Wt)
 |While c b el p=>
  replace h: (if el.isEmpty then _ else none)=some is:=h;split at h
  ·rename_i hk
   cases fe.mp hk;refine oB h λic h1 h2=>?_;clear hk h;refine oM h2 ?_;rintro ib h3 rfl;exact Jn (λPP=>HE.T _ _ _ h1 env PP) (H2 _ _ _ h3 env P own fz Wt)
  ·exact bx h
 |For t it b el p=>exact Nr H2 h Wt
 |Return v p=>
  clear Wt H2;refine oB h ?_;rintro e rfl h5;clear h;refine oM h5 ?_;rintro ie h3 rfl;exact NW λPP=>HE.E _ _ _ h3 env PP
 |Continue p=>replace h:=ac h;subst h;exact LR
 |Raise a b p=>replace h:=ac h;subst h;exact IG λe8 σ K W=>W
 |_=>clear HE Wt H2;exact bx h
end
theorem AP(d:Nat):∀n,(∀ns st is,cS ns n st=some is->∀env P own fz,Wr env ns fz P own->ExecOk C d env ns P own (ny st env) (yg C d fz is))/\(∀ns ss iss,cSs ns n ss=some iss->∀env P own fz,Wr env ns fz P own->ExecOk C d env ns P own (ql ss env) (wpSs C d fz iss)):=by
 intro n
 induction n with
 |zero=>exact⟨λns st is h=>(by exact bx h),λns ss iss h=>(by exact bx h)⟩
 |succ n H=>
  refine⟨λns st is h env P own fz Wt=>HV H.2 h Wt,λns ss iss h env P own fz Wt=>?_⟩;cases ss with
  |nil=>replace h:=ac h;subst h;exact MW
  |cons st ss=>
   refine oB h λi1 h1 h2=>?_;clear h;refine oM h2 ?_;rintro i2 h3 rfl;exact LJ (H.1 _ _ _ h1 env P own fz Wt) (H.2 _ _ _ h3 env P own fz Wt)
theorem Co{α β:Type}{f g:α->Option β}:∀{l:List α},(∀x∈l,f x=g x)->l.filterMap f=l.filterMap g
 |[]=>λw_=>rfl
 |x::l=>λh=>by exact ao eE (ao eE (ao (h x (.head _)) (ao (Co λy hy=>h y (.tail _ hy)) rfl)))
theorem Di:∀(ps:List Str) (xs:List aD),ps.Nodup->xs.length=ps.length->(ps.filterMap λn=>((ps.zip xs).lookup n).map (n,·))=ps.zip xs/\∀n∈ps,((ps.zip xs).lookup n).isNone=false:=by
 intro ps
 induction ps with
 |nil=>intro xs _ _;exact⟨rfl,λn h=>by cases h⟩
 |cons p ps ih=>
  intro xs hn hl;cases xs with
  |nil=>simp at hl
  |cons x xs=>
   obtain⟨h1,h2⟩:=cC.mp hn;obtain⟨i1,i2⟩:=ih xs h2 (by exact cL (hl));have hne:∀n∈ps,(n==p)=false:=λn hn=>by
    rw[beq_eq_false_iff_ne];intro e;exact h1 (e▸hn)
   refine⟨?_,λn hn=>?_⟩
   ·refine ao tC ?_;refine ao eE ?_;refine ao cz ?_;rewrite[beq_self_eq_true]
    simp only[lW];congr 1;refine dk i1 ?_;refine(Co λn hn=>?_);exact ao i1 (ao cz (ao (hne n hn) rfl))
   ·refine ao tC (ao cz ?_)
    rcases a9.mp hn with rfl|hn
    ·rw[beq_self_eq_true];rfl
    ·refine ao (hne n hn) ?_;exact i2 n hn
theorem vM{fd:uE}{as:List Arg}{vals:List aD}(hp:fd.params=⟨[],as,none,[],[],none,[]⟩)(hd:fd.defaults= .none)(hn: (as.map (·.arg)).Nodup)(hl:vals.length=as.length):
  yS fd ⟨vals,[]⟩=dD ((as.map (·.arg)).zip vals):=by
 have hl':vals.length=(as.map (·.arg)).length:=by rw[ai];exact hl
 obtain⟨z1,z2⟩:=Di _ _ hn hl';have hm: ((as.map (·.arg)).filter λn=>(((as.map (·.arg)).zip vals).lookup n).isNone)=[]:=
  List.filter_eq_nil_iff.mpr λn hn=>by refine ao (z2 n hn) ?_;decide
 unfold yS;refine ao hp (ao hd ?_);refine(if_neg ?_).trans ((if_neg ?_).trans ?_)
 ·show¬(decide (vals.length >(as.map (·.arg)).length) && true)=true
  rewrite[Bool.and_true];refine ao decide_eq_true_eq ?_;refine ao hl' ?_;exact fo _
 ·show¬(!(((as.map (·.arg)).take ((as.map (·.arg)).length- (([]:List aD).drop (0- (as.map (·.arg)).length)).length)).filter λn=>(((as.map (·.arg)).zip vals).lookup n).isNone).isEmpty)=true
  refine ao zB ?_;refine ao gc ?_;rewrite[Nat.sub_zero];refine ao pg ?_;refine ao hm ?_;decide
 ·refine(congrArg (λz=>(forIn z _ _:uU _) >>=_) (show((as.map (·.arg)).drop ((as.map (·.arg)).length- (([]:List aD).drop (0- (as.map (·.arg)).length)).length)).zip (([]:List aD).drop (0- (as.map (·.arg)).length))=[] by exact ao zB (ao List.zip_nil_right rfl))).trans ?_
  exact(congrArg (λz=>(dD (z.filterMap λn=>(((as.map (·.arg)).zip vals).lookup n).map (n,·)):uU _)) (be (as.map (·.arg)))).trans (congrArg dD z1)
noncomputable def z7(sc:Scope):Bool:=(match sc.kind with| .function=>true|_=>false) && !sc.isCoroutine && !sc.isGenerator && sc.names.all λp=>p.2 != .free && sc.names.lookup p.1==some p.2
structure dm where
 size:Nat
 params:List Nat
 body:List IS
noncomputable def iL:List Str->Bool
 |[]=>true
 |x::r=> !r.contains x && iL r
noncomputable def gf(ns:cD):List Str->Option (List Nat)
 |[]=>some []
 |x::r=>(cB ns x).bind λi=>(gf ns r).map (i::·)
noncomputable def gA(p:jQ):Option (List Str):=
 cond (p.posonlyargs.isEmpty && (p.vararg.isNone && (p.kwonlyargs.isEmpty && (p.kw_defaults.isEmpty && (p.kwarg.isNone && p.defaults.isEmpty))))) (some (p.args.map (·.arg))) none
theorem oa{p:jQ}{ps:List Str}:gA p=some ps->∃as,p=⟨[],as,none,[],[],none,[]⟩/\as.map (·.arg)=ps:=by
 obtain⟨a,b,c,d,e,f,g⟩:=p;cases a with
 |cons _ _=>exact bx
 |nil=>
 cases c with
 |some _=>exact bx
 |none=>
 cases d with
 |cons _ _=>exact bx
 |nil=>
 cases e with
 |cons _ _=>exact bx
 |nil=>
 cases f with
 |some _=>exact bx
 |none=>
 cases g with
 |cons _ _=>exact bx
 |nil=>exact λh=>⟨b,rfl,ac h⟩
noncomputable def LF(p:fy)(c n:String):Option dm:=match oU p c n with
 |some a=>if z7 a.scope then(gA a.params).bind λps=>if iL ps then(gf a.scope.names ps).bind λsl=>(cSs a.scope.names 60 a.body).map λb=>⟨a.scope.names.length,sl,b⟩else none else none
 |none=>none
noncomputable def I8(f:dm)(vs:List V):bT:=mX (bX f.size none) f.params vs
noncomputable def q6(Q:V->AH->Prop):dy:=λfl w_ σ=>match fl with
 | .next=>Q .none σ
 | .ret v=>Q v σ
 | .cont=>False
theorem sB{l:List Str}:iL l=true->l.Nodup:=by
 induction l with
 |nil=>exact λw_=>fW
 |cons x r ih=>
  intro h;refine(bo.mp (show(!r.contains x && iL r)=true from h)).elim λa b=>cC.mpr ⟨λz=>?_,ih b⟩;rw[qA.mpr z]at a;exact mj a
theorem kB{x:Str}{r:List Str}{l:List Nat}{G:Prop}(h:gf ns (x::r)=some l)(k:∀i l',cB ns x=some i->gf ns r=some l'->l=i::l'->G):G:=by
 refine oB h λi hi h4=>?_;exact oM h4 λl' h5 e=>k i l' hi h5 e.symm
theorem zX:∀{ps:List Str} {sl:List Nat},gf ns ps=some sl->sl.length=ps.length:=by
 intro ps
 induction ps with
 |nil=>intro sl h;replace h:=ac h;subst h;rfl
 |cons p ps ih=>exact λh=>kB h λi l' w_ g e=>by rw[e];exact congrArg oY (ih g)
theorem FW:∀{ps:List Str} {sl:List Nat},gf ns ps=some sl->∀p∈ps,∃i,cB ns p=some i:=by
 intro ps
 induction ps with
 |nil=>intro sl h p hp;cases hp
 |cons p ps ih=>exact λh y hy=>kB h λi l' hi g w_=>(a9.mp hy).elim (λe=>⟨i,by rw[e];exact hi⟩) (ih g y)
theorem Ib{sc:Scope}(h:z7 sc=true):sc.kind= .function/\sc.isCoroutine=false/\sc.isGenerator=false/\∀p∈sc.names,p.2≠ .free/\sc.names.lookup p.1=some p.2:=by
 unfold z7 at h;replace h:=bo.mp h;have h4:=h.2;replace h:=bo.mp h.1;have h3:=(c6 _).mp h.2;replace h:=bo.mp h.1;have h2:=(c6 _).mp h.2;have h1:=h.1;refine⟨?_,h2,h3,λp hp=>?_⟩
 ·cases e:sc.kind<;>rw[e]at h1<;>first|rfl|exact mj h1
 ·have:=c3.mp h4 p hp
  simp only[bD,bne_iff_ne,ne_eq,beq_iff_eq]at this;exact this
theorem xR:∀(names:cD) (n:Nat) (acc:List (Str×aY)) (x:Str),((x,cZ.cell)∈names\/(acc.lookup x).isSome=true)->((vA n names acc).lookup x).isSome=true:=by
 intro names
 induction names with
 |nil=>exact λn acc x h=>h.elim (λq=>nomatch q) id
 |cons p r ih=>
  intro n acc x h;obtain⟨y,k⟩:=p;show((if k== .cell then vA (n+1) r ((y,n)::acc)else vA n r acc).lookup x).isSome=true;by_cases hk: (k== .cell)=true
  ·refine ao (if_pos hk) (ih (n+1) ((y,n)::acc) x ?_)
   refine h.elim (λe=>(a9.mp e).elim (λe=> .inr ?_) .inl) λe=> .inr ?_
   ·exact ao (cz ..) (ao (show(x==y)=true from beq_iff_eq.mpr (congrArg (·.1) e)) rfl)
   ·exact EP (λw_ g=>ao g rfl) λg=>ao g e
  ·refine ao (if_neg hk) (ih n acc x (h.imp (λe=>(a9.mp e).elim (λe=>?_) id) id))
   exact absurd (beq_iff_eq.mpr (congrArg (·.2) e).symm) hk
noncomputable def Bn(C:Cx)(F:dQ)(h:cx)(ns:cD)(K:cZ)(e8:bT)(m:Str->Option aD):Prop:=∀x i,cj ns x=some (i,K)->∀v,nv e8 i=some v->∃y,m x=some y/\R C F h v y
structure Bnd(C:Cx)(F:dQ)(h:cx)(ns:cD)(e8:bT)(m cm:Str->Option aD):Prop where
 loc:Bn C F h ns .local e8 m
 cel:Bn C F h ns .cell e8 cm
theorem xg{K k:cZ}{p:Str}{i:Nat}{v:V}{y:aD}{m m':Str->Option aD}(hs:cj ns p=some (i,k))(r:R C F h v y)(B:Bn C F h ns K e8 m)(a:k=K->m' p=some y)(b:∀x,x≠p->m' x=m x):Bn C F h ns K (c8 e8 i v) m':=by
 intro x j hx w g;by_cases hij:i=j
 ·subst hij
  have hxp:=gS hx hs;subst hxp;rw[hs]at hx;cases oP g;exact⟨y,a (congrArg (·.2) (ac hx)),r⟩
 ·rw[ge (i:=i) (j:=j) hij]at g
  refine(B x j hx w g).elim λz e=>⟨z,(b x λq=>hij ?_).trans e.1,e.2⟩;rw[q,hs]at hx;exact congrArg (·.1) (ac hx)
theorem Bnd.go{kindOf:Str->Option cZ}(hk:∀x i k,cj ns x=some (i,k)->kindOf x=some k):∀(ps:List Str) (sl:List Nat) (vs:List V) (xs:List aD) (e8:bT) (m cm:Str->Option aD),gf ns ps=some sl->RL C F h vs xs->vs.length=ps.length->(∀p∈ps,∀i,cj ns p≠some (i,.free))->
  Bnd C F h ns e8 m cm->Bnd C F h ns (mX e8 sl vs) (bindL kindOf (ps.zip xs) m) (bindC kindOf (ps.zip xs) cm):=by
 intro ps
 induction ps with
 |nil=>
  intro sl vs xs e8 m cm h1 h2 h3 _ B;replace h1:=ac h1;subst h1;have e:=co.mp h3;subst e;exact B
 |cons p ps ih=>
  intro sl vs xs e8 m cm h1 h2 h3 hf B;cases vs with
  |nil=>exact(gK _ h3.symm).elim
  |cons v vs=>cases xs with
   |nil=>exact cG h2
   |cons y xs=>
    refine kB h1 λi l' hi h5 e=>?_;subst e;refine bJ (iE hi) λk hs hkk=>?_;have hkp:=hk p i k hs;show Bnd C F h ns (mX (c8 e8 i v) l' vs) (bindL kindOf (ps.zip xs) (if kindOf p=some .local then λz=>if z=p then some y else m z else m)) (bindC kindOf (ps.zip xs) (if kindOf p=some .local then cm else λz=>if z=p then some y else cm z));refine ih l' vs xs _ _ _ h5 h2.2 (cL h3) (λp hp=>hf p (.tail _ hp)) ?_;rcases hkk with e|e|e
    ·subst e
     exact ao (if_pos hkp) (ao (if_pos hkp) ⟨xg hs h2.1 B.loc (λw_=>if_pos rfl) λx hx=>if_neg hx,xg hs h2.1 B.cel nofun λw_ w_=>rfl⟩)
    ·subst e
     have hn:¬kindOf p=some .local:=by rw[hkp];exact nofun
     exact ao (if_neg hn) (ao (if_neg hn) ⟨xg hs h2.1 B.loc nofun λw_ w_=>rfl,xg hs h2.1 B.cel (λw_=>if_pos rfl) λx hx=>if_neg hx⟩)
    ·subst e;exact absurd hs (hf p (.head _) i)
theorem vr(n:Nat):∀(i:Nat) (v:V),nv (bX n none) i=some v->False:=by
 induction n with
 |zero=>exact λw_ w_ h=>bx h
 |succ n ih=>intro i v h;cases i with
  |zero=>exact bx h
  |succ i=>exact ih i v h
set_option tactic.hygienic true in
theorem Cz{q c n:String}(he: (q,c,n)∈oI){a:BZ}(ha:oU C.prog c n=some a)(hk:z7 a.scope=true){ps:List Str}(h1:gA a.params=some ps)(hnd:iL ps=true){sl:List Nat}(h3:gf a.scope.names ps=some sl)
  {vs:List V} (hl:vs.length=sl.length) {Q:V->AH->Prop}
  (HB:∀A P F s s₁ env own fa oc od fd osl,gF A d->C.gv q=some (.ref fa)->C.K.lookup fa=some ⟨oc,od,.func fd,osl⟩->env.code=fd.code->env.qual=fd.qualname++".<locals>."->env.scope=a.scope->cN C P F σ s.heap->Aft C P F s F σ s₁->cN C (Po P own) F σ s₁.heap->
   FR C env a.scope.names (Po P own) F (mX (bX a.scope.names.length none) sl vs) s₁.heap->Wr env a.scope.names [] P own->(∀x c,env.cells.lookup x=some c->own c)->(env.cells.Pairwise λx y=>x.2≠y.2)->own env.locals->(∀x c,env.cells.lookup x=some c->c≠env.locals)->
   wpAny (bI C.prog C.w) A (ql a.body env) (λfl s'=>∃v F' σ',Aft C P F s F' σ' s'/\(match fl with| .ret x=>R C F' s'.heap v x| .next=>v= .none|_=>False)/\Q v σ') (λw_ w_=>False) s₁):se C (d+1) q vs σ Q:=by
 intro A P F s fv xs hA X hg rr;refine bJ (C.fns _ he) λa' ha' ff=>?_;dsimp only at ha' ff;rw[ha]at ha';replace ha':=ac ha';subst ha';refine iq (Ib hk) λhk1 hk2 hk3 hk4=>?_;obtain⟨fa,oc,od,name,qual,dV,kV,doc,pm,an,cdv,ct,osl,g1,g2,g3,g4,g5⟩:=ff.ex;rw[hg]at g1;replace g1:=ac g1;subst g1;obtain⟨as,hp,rfl⟩:∃as,a.params=⟨[],as,none,[],[],none,[]⟩/\as.map (·.arg)=ps:=oa h1;have hlv:vs.length=(as.map (·.arg)).length:=by refine ao hl ?_;exact zX h3
 have hxl:xs.length=as.length:=by refine dk rr.length ?_;refine ao hlv ?_;rewrite[ai];with_reducible rfl
 subst g4 g5;have hb:yS (fnOf name qual a.params a.body a.scope .none .none doc pm an cdv ct) ⟨xs,[]⟩=dD ((as.map (·.arg)).zip xs):=vM (as:=as) hp rfl (sB hnd) hxl;have nofree:∀x i,cj a.scope.names x≠some (i,.free):=λx i e=>(hk4 _ (cp e).2).1 rfl;have slot:∀p∈as.map (·.arg),∃i k,cj a.scope.names p=some (i,k)/\(k= .local\/k= .cell):=λp hp=>by
  refine(FW h3 p hp).elim λi hi=>bJ (iE hi) λk e hk=>?_;rcases hk with e'|e'|e'
  ·exact⟨i,_,e,.inl e'⟩
  ·exact⟨i,_,e,.inr e'⟩
  ·rw[e']at e;exact absurd e (nofree _ _)
 refine codeAny_call_cells (fd:=fnOf name qual a.params a.body a.scope .none .none doc pm an cdv ct) (body:=a.body) (binds:=(as.map (·.arg)).zip xs) hA.depth (X.kin _ _ g2) rfl (C.lim.keeps X.stays) (codeRec_of X.kin g3) rfl hb rfl (λx hx=>?_) (λs₁ I=>?_) hk2 hk3 hk1
 ·refine lk (slot x.1 (List.of_mem_zip hx).1) λi k e hk=>?_
  rcases hk with rfl|rfl
  ·exact .inl (cp e).1
  ·exact .inr ⟨(cp e).1,xR _ _ _ _ (.inl (cp e).2)⟩
 ·generalize hen:callEnvC (fnOf name qual a.params a.body a.scope .none .none doc pm an cdv ct) s.heap.objs.size fa=env at I ⊢
  have e1:env.locals=s.heap.objs.size:=by refine dk hen ?_;rfl
  have e2:env.scope=a.scope:=by refine dk hen ?_;rfl
  have e3:env.globals=dz:=by refine dk hen ?_;rfl
  have e4:env.builtins=kK:=by refine dk hen ?_;rfl
  have e5:env.cells=vA (s.heap.objs.size+1) a.scope.names []:=by refine dk hen ?_;rfl
  have ek:∀x i k,cj a.scope.names x=some (i,k)->env.kindOf x=some k:=λx i k e=>by unfold o7.kindOf;refine ao e2 ?_;exact(cp e).1
  have keep:=I.toInCall.keep;have E1:gX F s.heap F s₁.heap:=⟨λw_ x=>x,d3.all keep⟩;have B:=Bnd.go (C:=C) (F:=F) (h:=s₁.heap) ek _ _ vs xs (bX a.scope.names.length none) (λw_=>none) (λw_=>none) h3 (rr.mono E1) hlv (λp hp i=>nofree p i) ⟨λx i e v g=>(vr _ _ _ g).elim,λx i e v g=>(vr _ _ _ g).elim⟩;have none_of:∀b,s.heap.objs.size<=b->s.heap.get? b=none:=λb hb=>by
   cases q:s.heap.get? b with
   |none=>rfl
   |some o'=>exact absurd (bY q) (iM.mpr hb)
  have own_ge:∀b,(b=s.heap.objs.size\/∃x,env.cells.lookup x=some b)->s.heap.objs.size<=b:=λb hb=>by
   rcases hb with rfl|⟨x,hx⟩
   ·exact aG _
   ·have:=I.above x b (mem_of_lookup hx);rw[e1]at this;exact mz this
  have eV:cN C (Po P λb=>b=s.heap.objs.size\/∃x,env.cells.lookup x=some b) F σ s₁.heap:=(X.ext keep).protect λb hb=>by
   rcases hb with hb|hb
   ·exact(X.ext keep).prot hb
   ·have q:=none_of b (own_ge b hb)
    refine⟨X.fresh_F q,X.fresh_sp q,X.fresh_σ q,?_⟩;rcases hb with rfl|⟨x,hx⟩
    ·obtain⟨o,_,_,e,_⟩:=I.toInCall.ns;rw[e1]at e;exact⟨o,e⟩
    ·refine bJ (I.cell x b hx) ?_;intro o e _;exact⟨o,e⟩
  have hcell:∀x i,cj a.scope.names x=some (i,.cell)->∃c,env.cells.lookup x=some c:=λx i e=>by
   refine ao e5 ?_;exact gC.mp (xR _ _ _ _ (.inl (cp e).2))
  have Y:FR C env a.scope.names (Po P λb=>b=s.heap.objs.size\/∃x,env.cells.lookup x=some b) F (mX (bX a.scope.names.length none) sl vs) s₁.heap:=by
   refine⟨e3,e4,by refine ao e2 ?_;exact hk1,λx i e=>ek x i _ e,⟨_,I.toInCall.ns,.inr (.inl e1),λx i e=>⟨ek x i _ e,B.loc x i e⟩⟩,λx i k e z=>?_,λx y c e e'=>name_of_addr I.apart (mem_of_lookup e) (mem_of_lookup e')⟩;rcases z with rfl|rfl
   ·obtain⟨c,hc⟩:=hcell x i e
    exact⟨.inl (ek x i _ e),c,_,hc,.inl (.inr (.inr ⟨x,hc⟩)),I.cell x c hc,λv g=>B.cel x i e v g⟩
   ·exact absurd e (nofree _ _)
  have Wt:Wr env a.scope.names [] P λb=>b=s.heap.objs.size\/∃x,env.cells.lookup x=some b:=
   ⟨.inl e1,λx i c e w_ hc=>⟨.inr ⟨x,hc⟩,ek x i _ e⟩,λx i e=>absurd e (nofree _ _),λb hb=>X.fresh_P (none_of b (own_ge b hb))⟩
  have bp:Aft C P F s F σ s₁:=⟨I.toInCall.same,E1,d3.all keep,X.ext keep⟩;have hA':gF (A.deeper env) d:=⟨hA.1,by have:=hA.2.1;show A.depth+1+2*d+10<=900;exact bt (nat_lit 0xe126054c201516094a45e126054d619005404a41) rfl this,by have:=hA.2.2;show A.units+3+20*d+100<=9000;exact bt (nat_lit 0x46503b8c9308294682529151940ee324d619029404a41) rfl this⟩;refine b0 (HB (A.deeper env) P F s s₁ env _ fa _ _ _ _ hA' hg g2 (by refine dk hen ?_;rfl) (by refine dk hen ?_;rfl) e2 X bp eV Y Wt (λx c h=> .inr ⟨x,h⟩) I.apart (.inl e1) λx c h=>by
   have:=I.above x c (mem_of_lookup h);exact pX this) ?_ λw_ w_ z=>z.elim
  rintro fl dv ⟨v,F',σ',b8,f,q⟩;cases fl with
  |next=>
   subst f;exact⟨.none,.none,F',σ',rfl,b8,rfl,q⟩
  |ret x=>exact⟨x,v,F',σ',rfl,b8,f,q⟩
  |_=>exact f.elim
theorem Js{q c n:String}(he: (q,c,n)∈oI){f:dm}(hf:LF C.prog c n=some f){vs:List V}(hl:vs.length=f.params.length){Q:V->AH->Prop}(W:wpSs C d [] f.body (I8 f vs) σ (q6 Q)):se C (d+1) q vs σ Q:=by
 refine bJ (C.fns _ he) λa ha ff=>?_;dsimp only at ha ff;unfold LF at hf;rw[ha]at hf;dsimp only at hf;split at hf
 ·rename_i hk
  refine oB hf λps h1 h2=>?_;split at h2
  ·rename_i hnd
   refine oB h2 λsl h3 h4=>?_;clear h2 hf ff;refine oM h4 ?_;rintro b h5 rfl;refine Cz he ha hk h1 hnd h3 hl λA P F s s₁ env own fa oc od fd osl hA hg g2 ec eq es X bp eV Y Wt hc hp ho hne=>?_;refine b0 ((AP (C:=C) d 60).2 _ _ _ h5 env P _ [] Wt _ σ _ A F s₁ F s hA bp eV Y W) ?_ λw_ w_ z=>z.elim;rintro fl dv ⟨k,e',F',σ',b8,q,f⟩;cases k with
   |next=>
    cases fl<;>first|exact f.elim|skip
    exact⟨.none,F',σ',b8,rfl,q⟩
   |cont=>exact q.elim
   |ret v=>
    cases fl<;>first|exact f.elim|skip
    exact⟨v,F',σ',b8,f,q⟩
  ·clear hf W hl;exact bx h2
 ·clear W hl;exact bx hf
theorem Cd{CK:aY}{rest:List aD}{kw:List (Str×aD)}: (kf "type.__call__" ⟨.ref CK::rest,kw⟩).weight<=2/\(kf "type.__call__" ⟨.ref CK::rest,kw⟩).cUnits<=10:=by
 have e1: (kf "type.__call__" ⟨.ref CK::rest,kw⟩).weight=1:=by kernel_rfl
 have e2: (kf "type.__call__" ⟨.ref CK::rest,kw⟩).cUnits=1+3*(kf "type.__call__" ⟨.ref CK::rest,kw⟩).frames:=by simp[Code.cUnits]
 have e3: (kf "type.__call__" ⟨.ref CK::rest,kw⟩).frames=0:=by kernel_rfl
 refine ao e1 (ao e2 (ao e3 ?_));exact⟨by decide,by decide⟩
noncomputable def mkInst(σ:AH)(c:String)(a dd:aY):AH:=(σ.set dd (.aux a)).set a (.inst c dd [] [])
theorem cN.mkInst(X:cN C P F σ h){c:String}{CK:aY}(g:C.gv c=some (.ref CK)):
  cN C P F (mkInst σ c (h.objs.size+1) h.objs.size) ((h.push eF).push (eP CK h.objs.size))/\σ h.objs.size=none/\σ (h.objs.size+1)=none:=by
 have n0:h.get? h.objs.size=none:=d8 h;have n1:h.get? (h.objs.size+1)=none:=by
  cases q:h.get? (h.objs.size+1)with
  |none=>rfl
  |some o=>exact absurd (bY q) (iM.mpr (dI _))
 have eV:=X.alloc (m:= .aux (h.objs.size+1)) (λb o e=>aQ eF e) n0 ⟨eF,bk _ rfl⟩;have n2: (h.push eF).get? (h.objs.size+1)=none:=by
  have:=d8 (h.push eF);rwa [eA]at this
 have g2: ((h.push eF).push (eP CK h.objs.size)).get? (h.objs.size+1)=some (eP CK h.objs.size):=by
  have:=bk (h.push eF) (o:=eP CK h.objs.size) rfl;rwa [eA]at this
 have iD:=eV.alloc (m:= .inst c h.objs.size [] []) (λb o e=>aQ (eP CK h.objs.size) e) n2
  ⟨CK,[],0,[],g,g2,aQ _ (bk _ rfl),trivial,trivial,by refine ao (ay _ _ (ce (bR _))) ?_;rewrite[az];with_reducible rfl⟩
 exact⟨iD,X.fresh_σ n0,X.fresh_σ n1⟩
theorem mI{c q:String}(hc:c∈fB.map (·.1))(hq:tq c=some q){vs:List V}{Q:V->AH->Prop}
  (W:∀a dd,σ a=none->σ dd=none->a≠dd->se C d q (.ref a::vs) (mkInst σ c a dd) (λv σ'=>v= .none/\Q (.ref a) σ')):c9 C (d+1) c vs σ Q:=by
 intro A P F s fv xs hA X hg rr;refine bJ (bG.mp hc) ?_;rintro p hp rfl;refine bJ (C.cls p hp) λCK g f=>?_;rw[hg]at g;replace g:=ac g;subst g;refine d4 (f.init q hq) λfi gi hi ti=>?_;refine An.call ?_;obtain⟨hh,gg,dr,t,os⟩:=s;refine eX (X.mkInst (c:=p.1) hg) λiD z0 z1=>?_;refine make_core (makes_of X.kin f.mks) (looks_findIn X.kin hi) (λself=>bind_fn X.kin self ti) (.inl rfl) ?_;have kk:∀b o,hh.get? b=some o->((hh.push eF).push (eP CK hh.objs.size)).get? b=some o:=λb o e=>aQ _ (aQ _ e);have E:gX F hh F ((hh.push eF).push (eP CK hh.objs.size)):=⟨λw_ x=>x,d3.all kk⟩;obtain⟨w1,w2⟩:=@Cd CK xs [];have hA':gF (A.under (.builtin "type.__call__" ⟨.ref CK::xs,[]⟩)) d:=⟨hA.1,by have:=hA.2.1;show A.depth+_+2*d+10<=900;exact b9 (nat_lit 0x709302a6200a800ca522f09302a6b14802a06520b001) rfl w1 this,by have:=hA.2.2;show A.units+_+20*d+100<=9000;exact b9 (nat_lit 0x8ca07719262052800ca522a3281dc649ac52052819482054c01) rfl w2 this⟩;refine pS (W (hh.objs.size+1) hh.objs.size z1 z0 (pX (bR _)) _ P F ⟨(hh.push eF).push (eP CK hh.objs.size),gg,dr,t,os⟩ (.ref fi) (.ref (hh.objs.size+1)::xs) hA' iD gi ⟨rfl,RL.mono E rr⟩) ?_;rintro r s' ⟨x,v,F',σ',rfl,a,r,rfl,q⟩;clear rr X ti hi gi hg f W;cases r;have sy:Aft C P F ⟨hh,gg,dr,t,os⟩ F (mkInst σ p.1 (hh.objs.size+1) hh.objs.size) ⟨(hh.push eF).push (eP CK hh.objs.size),gg,dr,t,os⟩:=⟨⟨_,_,rfl⟩,E,d3.all kk,iD⟩;exact⟨rfl,_,.ref (hh.objs.size+1),F',σ',rfl,sy.trans a,rfl,q⟩
theorem Dm{c:String}(hc:c∈fB.map (·.1))(hq:tq c=none){Q:V->AH->Prop}(W:∀a dd,σ a=none->σ dd=none->a≠dd->Q (.ref a) (mkInst σ c a dd)):c9 C (d+1) c [] σ Q:=by
 intro A P F s fv xs hA X hg rr;have hxs:xs=[]:=by cases xs with
  |nil=>rfl
  |cons _ _=>exact rr.elim
 clear rr;subst hxs;clear hA;refine bJ (bG.mp hc) ?_;rintro p hp rfl;refine bJ (C.cls p hp) λCK g f=>?_;rw[hg]at g;replace g:=ac g;subst g;refine An.call ?_;obtain⟨hh,gg,dr,t,os⟩:=s;refine eX (X.mkInst (c:=p.1) hg) λiD z0 z1=>?_;have Y:=makes_of (M:=bI C.prog C.w) X.kin f.mks;refine make_core Y (looks_findIn X.kin (f.init0 hq)) (λself=>Looks.of_pure (oi_bind self)) (.inr ⟨rfl,rfl⟩) ?_;have kk:∀b o,hh.get? b=some o->((hh.push eF).push (eP CK hh.objs.size)).get? b=some o:=λb o e=>aQ _ (aQ _ e);have g2: ((hh.push eF).push (eP CK hh.objs.size)).get? (hh.objs.size+1)=some (eP CK hh.objs.size):=by
  have:=bk (hh.push eF) (o:=eP CK hh.objs.size) rfl;rwa [eA]at this
 have t1:Looks (bI C.prog C.w) ((hh.push eF).push (eP CK hh.objs.size)) (typeOf (.ref (hh.objs.size+1))) (.ref CK):=(Looks.ld g2).andThen .now;have t2:Looks (bI C.prog C.w) ((hh.push eF).push (eP CK hh.objs.size)) (isInstance (.ref (hh.objs.size+1)) (.type "object")) true:=t1.andThen (Y.top.keeps kk);refine codeAny_call_builtin oi_plain entry_oi (@check_slot (bI C.prog C.w) _ _ _ "object.__init__" "object" "__init__" (.ref (hh.objs.size+1)) [] [] _ oi_kind oi_split t2 (oi_args (.ref (hh.objs.size+1))) ?_);rw[oi_run];have sy:Aft C P F ⟨hh,gg,dr,t,os⟩ F (mkInst σ p.1 (hh.objs.size+1) hh.objs.size) ⟨(hh.push eF).push (eP CK hh.objs.size),gg,dr,t,os⟩:=⟨⟨_,_,rfl⟩,⟨λw_ x=>x,d3.all kk⟩,d3.all kk,iD⟩;exact bc ⟨rfl,_,.ref (hh.objs.size+1),F,_,rfl,sy,rfl,W _ _ z1 z0 (pX (bR _))⟩
theorem cN.delAux(X:cN C P F σ h){dd a:aY}(e:σ dd=some (.aux a))(ha:σ a=none):cN C P F (σ.del dd) h where
 base:=X.base
 fp:=X.fp
 fal:=X.fal
 pal:=X.pal
 obj:=λb m e'=>by
  have hb:b≠dd:=by rintro rfl;rw[jP]at e';exact bx e'
  rw[jO _ hb]at e';obtain⟨p,q,r,z⟩:=X.obj b m e';refine⟨p,q,r,z.mono (gX.refl _ _) (λw_ e=>e) λc d' w_ w_ w_ s=>⟨?_,λw_ e=>e⟩⟩;by_cases hd:d'=dd
  ·clear hb;subst hd;rw[e]at s;replace s:=ac s;cases s;rw[ha]at e';exact bx e'
  ·refine ao (jO _ hd) ?_;exact s
 spx:=X.spx
 inv:=X.inv
theorem Tri.freezeInst{t:uU aD}{Q:V->AH->Prop}
  (T:Tri C A P F t (λv σ'=>∃a c dd ns us,v= .ref a/\σ'=(σ.set dd (.aux a)).set a (.inst c dd ns us)/\σ a=none/\σ dd=none/\a≠dd/\Q (.inst c ns us) σ) s):Tri C A P F t Q s:=by
 refine T.use ?_;rintro v x F' σ' s' a r ⟨p,c,dd,ns,us,rfl,rfl,z1,z2,hne,q⟩;clear T;cases r;have X:=a.rep;have e1: ((σ.set dd (.aux p)).set p (.inst c dd ns us)) p=some (.inst c dd ns us):=az _ _ _;have e2: ((σ.set dd (.aux p)).set p (.inst c dd ns us)) dd=some (.aux p):=by refine ao (ay _ _ (aV hne)) ?_;rewrite[az];with_reducible rfl
 obtain⟨fp,pp,sp,CK,es,n,xs,g,t1,t2,en,rr,_⟩:=X.obj _ _ e1;obtain⟨fd,pd,sd,_⟩:=X.obj _ _ e2;have eV:=X.del (a:=p) (by intro b e;rw[e1]at e;replace e:=ac e;cases e);have iD:=eV.delAux (dd:=dd) (a:=p) (by refine ao (jO _ (aV hne)) ?_;exact e2) (jP _ _);have eσ: (AH.del (AH.del ((σ.set dd (.aux p)).set p (.inst c dd ns us)) p) dd)=σ:=by
  funext b;by_cases hb:b=dd
  ·clear iD eV ro sd pd fd s_1 t2 t1 e2 e1 X hne a;subst hb;rewrite[jP];refine ao z2 ?_;with_reducible rfl
  ·refine ao (jO _ hb) ?_
   by_cases hb':b=p
   ·clear hb iD eV ro s_1 t1 sp pp fp e2 e1 X hne a;subst hb';rewrite[jP];refine ao z1 ?_;with_reducible rfl
   ·exact ao (jO _ hb') (ao (ay _ _ hb') (ao (ay _ _ hb) rfl))
 rw[eσ]at iD;have tH:=iD.freeze (λb=>b=p\/b=dd) λb hb=>by
  rcases hb with rfl|rfl
  ·exact⟨pp,sp,z1,_,t1⟩
  ·exact⟨pd,sd,z2,_,t2⟩
 have E:gX F' s'.heap (λb=>F' b\/(b=p\/b=dd)) s'.heap:=⟨λw_ x=> .inl x,d3.refl _ _⟩;exact⟨.inst c ns us,_,σ,⟨a.rest,a.ext.trans E,a.keep,tH⟩,⟨p,CK,dd,es,n,xs,rfl,g,.inr (.inl rfl),.inr (.inr rfl),t1,t2,en,rr.mono E⟩,q⟩
theorem c9.freezeInst{f:String}{vs:List V}{Q:V->AH->Prop}
  (T:c9 C d f vs σ (λv σ'=>∃a c dd ns us,v= .ref a/\σ'=(σ.set dd (.aux a)).set a (.inst c dd ns us)/\σ a=none/\σ dd=none/\a≠dd/\Q (.inst c ns us) σ)):c9 C d f vs σ Q:=
 λA P F s fv xs hA X hg rr=>(T A P F s fv xs hA X hg rr).freezeInst
theorem Tri.freezeList{t:uU aD}{Q:V->AH->Prop}
  (T:Tri C A P F t (λv σ'=>∃a us,v= .ref a/\σ'=σ.set a (.list us)/\σ a=none/\Q (.list us) σ) s):Tri C A P F t Q s:=by
 refine T.use ?_;rintro v x F' σ' s' a r ⟨p,us,rfl,rfl,z1,q⟩;clear T;cases r;have X:=a.rep;have e1: (σ.set p (.list us)) p=some (.list us):=az _ _ _;obtain⟨fp,pp,sp,xs,l,rr,hz⟩:=X.obj _ _ e1;have eV:=X.del (a:=p) (by intro b e;rw[e1]at e;replace e:=ac e;cases e);have eσ: (AH.del (σ.set p (.list us)) p)=σ:=by
  funext b;by_cases hb:b=p
  ·clear eV l sp pp fp e1 X a;subst hb;rewrite[jP];refine ao z1 ?_;with_reducible rfl
  ·exact ao (jO _ hb) (ao (ay _ _ hb) rfl)
 rw[eσ]at eV;have tH:=eV.freeze (λb=>b=p) λb hb=>by
  clear eσ fp e1 X a;subst hb;exact⟨pp,sp,z1,let⟨_,e⟩:=l;⟨_,e⟩⟩
 have E:gX F' s'.heap (λb=>F' b\/b=p) s'.heap:=⟨λw_ x=> .inl x,d3.refl _ _⟩;exact⟨.list us,_,σ,⟨a.rest,a.ext.trans E,a.keep,tH⟩,⟨p,xs,rfl,.inr rfl,l,rr.mono E,hz⟩,q⟩
theorem c9.freezeList{f:String}{vs:List V}{Q:V->AH->Prop}
  (T:c9 C d f vs σ (λv σ'=>∃a us,v= .ref a/\σ'=σ.set a (.list us)/\σ a=none/\Q (.list us) σ)):c9 C d f vs σ Q:=
 λA P F s fv xs hA X hg rr=>(T A P F s fv xs hA X hg rr).freezeList
theorem bi{n:String}{v fv:aD}(hm: (n,v)∈([("len",.builtin "len"),("ord",.builtin "ord"),("chr",.builtin "chr"),("abs",.builtin "abs"),("max",.builtin "max"),("min",.builtin "min"),("sorted",.builtin "sorted"),
  ("int",.type "int"),("range",.type "range"),("list",.type "list"),("tuple",.type "tuple"),("enumerate",.type "enumerate"),
  ("list.append",.builtin "list.append"),("list.pop",.builtin "list.pop"),("list.reverse",.builtin "list.reverse"),("list.index",.builtin "list.index"),("dict.get",.builtin "dict.get"),("str.join",.builtin "str.join")]:List (String×aD))) (hg:C.gv n=some fv):fv=v:=by
 have:=C.blt _ hm;dsimp only at this;rw[hg]at this;exact ac this
noncomputable def Gz(σ:AH)(v:V):Option Nat:=match kq σ v with
 |some vs=>some vs.length
 |none=>match iQ σ v with
  |some (ks,_)=>some ks.length
  |none=>none
noncomputable def Fj(σ:AH):V->Option Nat
 | .str s=>some s.length
 |v=>Gz σ v
theorem Nl{v:V}{n:Nat}(hl:Fj σ v=some n)(hn:n<=1073741824)(q:Q (.int n) σ):c9 C d "len" [v] σ Q:=by
 intro A P F s fv xs hA X hg rr;cases bi (v:= .builtin "len") (by decide+kernel) hg;refine bJ (Ev rr) ?_;rintro x rfl r;have fin:∀t k,TrR C P F s Q (.int (n:Int) t) {s with toks:=k}:=λt k=>⟨.int n,F,σ,d1 X k,⟨t,rfl⟩,q⟩;have go:∀v,Gz σ v=some n->R C F s.heap v x->Tri C A P F (call (.builtin "len") [x]) Q s:=λv hl r=>by
  unfold Gz at hl;split at hl
  ·rename_i vs hv
   replace hl:=ac hl;subst hl;clear rr;clear hg;obtain⟨a,xs,rfl,hl,rr,_⟩:=nG hv X r;have e:=rr.length;rcases hl with hl|ht
   ·refine call_len_list hl (by refine ao bB ?_;lia) ?_
    refine ao bB (dk e ?_);exact fin _ _
   ·refine len_tuple ht (by refine ao bB ?_;lia) ?_
    refine ao bB (dk e ?_);exact fin _ _
  ·split at hl
   ·rename_i ks vs hd
    replace hl:=ac hl;subst hl;clear rr;clear vs hg;obtain⟨a,xs,rfl,hm,e,rr,hsy⟩:=gV hd X r;refine call_len_dict hsy hm (by refine ao (gp e) ?_;lia) ?_;refine ao (gp e) ?_;exact fin _ _
   ·clear fin q hn;exact bx hl
 cases v with
 |str z=>
  replace hl:=ac hl;subst hl;clear hg;obtain⟨t,rfl⟩:=r;exact len_str (by lia) (fin _ _)
 |_=>(unfold Fj at hl;exact go _ hl r)
theorem Nd{c:Nat}(q:Q (.int c) σ):c9 C d "ord" [.str ⟨#[c]⟩] σ Q:=by
 intro A P F s fv xs hA X hg rr;cases bi (v:= .builtin "ord") (by decide+kernel) hg;clear hg;obtain⟨x,rfl,t,rfl⟩:=Ev rr;exact PySem.P.ord_of_char ⟨.int c,F,σ,d1 X _,⟨_,rfl⟩,q⟩
theorem Nz{i:Int}(h0:0<=i)(h1:i<=1114111)(q:Q (.str ⟨#[i.toNat]⟩) σ):c9 C d "chr" [.int i] σ Q:=by
 intro A P F s fv xs hA X hg rr;cases bi (v:= .builtin "chr") (by decide+kernel) hg;clear hg;obtain⟨x,rfl,t,rfl⟩:=Ev rr;exact chr_of_range h0 h1 ⟨.str ⟨#[i.toNat]⟩,F,σ,d1 X _,⟨_,rfl⟩,q⟩
theorem NH{i:Int}(q:Q (.int i) σ):c9 C d "int" [.int i] σ Q:=by
 intro A P F s fv xs hA X hg rr;cases bi (v:= .type "int") (by decide+kernel) hg;clear hg;obtain⟨x,rfl,t,rfl⟩:=Ev rr;exact call_int_int ⟨.int i,F,σ,Aft.refl X,⟨_,rfl⟩,q⟩
theorem MF{i:Int}(q:Q (.int (i.natAbs:Int)) σ):c9 C d "abs" [.int i] σ Q:=by
 intro A P F s fv xs hA X hg rr;cases bi (v:= .builtin "abs") (by decide+kernel) hg;clear hg;obtain⟨x,rfl,t,rfl⟩:=Ev rr;refine call_abs_int λu tk=>⟨.int (i.natAbs:Int),F,σ,d1 X _,⟨u,?_⟩,q⟩;congr 1;split<;>lia
theorem MV{i j:Int}(q:Q (.int (max i j)) σ):c9 C d "max" [.int i,.int j] σ Q:=by
 intro A P F s fv xs hA X hg rr;cases bi (v:= .builtin "max") (by decide+kernel) hg;obtain⟨x,y,rfl,⟨t,rfl⟩,u,rfl⟩:=I5 rr;refine max_two_ints hA.1 λh' tk kk=>⟨.int (max i j),F,σ,Aft.grow X kk,?_,q⟩;split
 ·rename_i c;exact⟨u,by exact ao (Int.max_eq_right (BA c)) rfl⟩
 ·rename_i c;exact⟨t,by exact ao (Int.max_eq_left (Int.not_lt.mp c)) rfl⟩
theorem MS{i j:Int}(q:Q (.int (min i j)) σ):c9 C d "min" [.int i,.int j] σ Q:=by
 intro A P F s fv xs hA X hg rr;cases bi (v:= .builtin "min") (by decide+kernel) hg;obtain⟨x,y,rfl,⟨t,rfl⟩,u,rfl⟩:=I5 rr;refine min_two_ints hA.1 λh' tk kk=>⟨.int (min i j),F,σ,Aft.grow X kk,?_,q⟩;split
 ·rename_i c;exact⟨u,by exact ao (Int.min_eq_right (BA c)) rfl⟩
 ·rename_i c;exact⟨t,by exact ao (Int.min_eq_left (Int.not_lt.mp c)) rfl⟩
theorem GP{o:V}{ks:List Int}{vs:List V}(hd:iQ σ o=some (ks,vs))(h64:ks.length<64)(hw:∀ms:List Int,ms.Perm ks->ms.Pairwise (·<=·)->jU (ms.map V.int) σ Q):c9 C d "sorted" [o] σ Q:=by
 intro A P F s fv xs hA X hg rr;cases bi (v:= .builtin "sorted") (by decide+kernel) hg;clear hg;refine bJ (Ev rr) ?_;rintro x rfl r;exact Ch (K:=λw_ w_=>True) (E:=λw_ w_=>True) hA X r hd h64 hw
theorem JZ{n:Int}(q:Q (.range 0 n) σ):c9 C d "range" [.int n] σ Q:=by
 intro A P F s fv xs hA X hg rr;cases bi (v:= .type "range") (by decide+kernel) hg;clear hg;obtain⟨x,rfl,t,rfl⟩:=Ev rr;refine call_range_1 ?_;have kk:∀b o,s.heap.get? b=some o->(s.heap.push {cls:= .type "range",data:= .fields #[.int 0 s.toks,.int n t,.int 1 (s.toks+1)]}).get? b=some o:=λb o e=>aQ _ e;have hf:=d8 s.heap;have gr:IsRange (s.heap.push {cls:= .type "range",data:= .fields #[.int 0 s.toks,.int n t,.int 1 (s.toks+1)]}) s.heap.objs.size 0 n 1 s.toks t (s.toks+1):=bk _ rfl;generalize s.heap.push {cls:= .type "range",data:= .fields #[.int 0 s.toks,.int n t,.int 1 (s.toks+1)]}=H at kk gr ⊢;generalize s.heap.objs.size=D at hf gr ⊢;have X':=(X.ext kk).freeze (λb=>b=D) λb e=>by
  subst e;exact⟨X.fresh_P hf,X.fresh_sp hf,X.fresh_σ hf,_,gr⟩
 exact⟨.range 0 n,λb=>F b\/b=D,σ,⟨⟨H,_,rfl⟩,⟨λw_ x=> .inl x,d3.all kk⟩,d3.all kk,X'⟩,⟨D,_,_,_,rfl,.inr rfl,gr⟩,q⟩
theorem LH{n:Int}(h0:0<=n)(h1:n<=16777216)(hw:jU (j2 0 n) σ Q):c9 C d "list" [.range 0 n] σ Q:=by
 intro A P F s fv xs hA X hg rr;cases bi (v:= .type "list") (by decide+kernel) hg;obtain⟨x,rfl,a,t,u,v,rfl,fa,hr⟩:=Ev rr;have hsz:Builtin.Range.rangeSize 0 n 1=(n.toNat:Int):=by
  unfold Builtin.Range.rangeSize;refine ao (if_pos (by decide)) ?_;split<;>lia
 refine call_list_range (n:=n.toNat) hA.1 hr (vO ⟨by decide,h0,by lia⟩) hsz (by lia) λh' tk acc c kk hD hI=>?_;have hrl:∀(xs:List aD) (vs:List V),xs.length=vs.length->(∀(i:Nat) (x:aD),xs[i]?=some x->∃v,vs[i]?=some v/\R C F s.heap v x)->RL C F s.heap vs xs:=by
  intro xs
  induction xs with
  |nil=>intro vs h _;cases vs with
   |nil=>trivial
   |cons _ _=>simp at h
  |cons x xs ih=>intro vs h hq;cases vs with
   |nil=>simp at h
   |cons v vs=>
    refine bJ (hq 0 x rfl) λv' e r=>?_;replace e:=ac e;subst e;exact⟨r,ih vs (by exact cL (h)) λi y e=>by simpa using hq (i+1) y (by exact e)⟩
 refine fQ hw X (xs:=acc.toList) (hrl _ _ ?_ ?_) (d8 _) kk ⟨c,by exact ao hD rfl⟩
 ·refine ao md ?_;refine ao (hI.1) ?_;rewrite[mP];simp
 ·intro i x e
  clear hrl hD kk hsz rr hr hg X hw h1 h0;obtain⟨t,rfl⟩:=hI.2 i x (by refine dk qz ?_;exact e);have hlt:i<n.toNat:=by
   have:=(aE.mp e).1;rw[md,hI.1]at this;exact this
  refine⟨.int ((0:Int)+(i:Nat)),?_,t,by simp⟩;unfold j2;refine ao bb (ao (l9 (by simpa using hlt)) ?_);rfl
theorem IV{v:V}{vs:List V}(hv:d7 σ v=some vs)(hl:vs.length<=16777216)(q:Q (.tup vs) σ):c9 C d "tuple" [v] σ Q:=by
 intro A P F s fv xs hA X hg rr;cases bi (v:= .type "tuple") (by decide+kernel) hg;clear hg;refine bJ (Ev rr) ?_;rintro x rfl r;clear rr;obtain⟨a,ys,rfl,l,rs,_⟩:=di hv X r;refine call_tuple_list l.isList (λh' kk=>?_) (by refine ao cW (ao bB (dk rs.length ?_));exact hl);refine zK hl q X rs ?_ (λb o e=>aQ _ (kk b o e)) ⟨_,bk _ rfl,rfl,0,rfl⟩;cases e:s.heap.get? h'.objs.size with
 |none=>rfl
 |some o=>exact absurd (bY (kk _ _ e)) (fo _)
theorem x9{a:aY}{vs us:List V}{ys:List aD}{h':cx}{t:Nat}(X:cN C P F σ s.heap)(e:σ a=some (.list vs))(hs:cy a s.heap h')(hl:h'.PlainList a ys.toArray)(rr:RL C F s.heap us ys)(hz:us.length<=1073741824):
  Aft C P F s F (σ.set a (.list us)) {s with heap:=h',toks:=t}/\gX F s.heap F h':=by
 obtain⟨fa,pa,sa,_⟩:=X.obj _ _ e;have E:gX F s.heap F h':=⟨λw_ x=>x,λb f o e=>(hs.2 b λq=>fa (q▸f)).trans e⟩;exact⟨⟨⟨h',t,rfl⟩,E,λb p o e=>(hs.2 b λq=>pa (q▸p)).trans e,X.upd (m':= .list us) hs e (by intro b q;cases q) ⟨ys,hl,rr.mono E,hz⟩⟩,E⟩
theorem yd{a:aY}{v:V}{vs:List V}(e:σ a=some (.list vs))(hl:vs.length<=16777216)(q:Q .none (σ.set a (.list (vs++[v])))):c9 C d "list.append" [.ref a,v] σ Q:=by
 intro A P F s fv xs hA X hg rr;cases bi (v:= .builtin "list.append") (by decide+kernel) hg;clear hg;refine cr (I5 rr) ?_;rintro x y rfl rfl r;obtain⟨_,_,_,ys,l,rs,_⟩:=X.obj _ _ e;refine jS l (λh' hl' hs=>?_) (by refine ao cW (ao bB (dk rs.length ?_));exact hl);have hl'':h'.PlainList a (bu (ys++[y])):=by
  have:bu (ys++[y])=(bu ys).push y:=by simp
  refine ao this ?_;exact hl'
 obtain⟨a',E⟩:=x9 (t:=s.toks) X e hs hl'' (rs.snoc r) (by simp;exact ci (nat_lit 0x7ffffffe6b80a0c5801) rfl hl);exact⟨.none,F,_,a',rfl,q⟩
theorem MZ{a:aY}{v:V}{vs:List V}(e:σ a=some (.list (vs++[v])))(hl:vs.length<16777216)(q:Q v (σ.set a (.list vs))):c9 C d "list.pop" [.ref a] σ Q:=by
 intro A P F s fv xs hA X hg rr;cases bi (v:= .builtin "list.pop") (by decide+kernel) hg;clear hg;refine bJ (Ev rr) ?_;rintro x rfl rfl;obtain⟨_,_,_,ys,⟨n,ho⟩,rs,_⟩:=X.obj _ _ e;have hlen:=rs.length;obtain⟨zs,z,rfl⟩:∃zs z,ys=zs++[z]:=by
  rw[aC]at hlen;have:ys≠ []:=by rintro rfl;simp at hlen
  exact⟨ys.dropLast,ys.getLast this,(ca this).symm⟩
 have hlz:vs.length=zs.length:=by exact(by rw[aC,aC]at*;exact cL (hlen))
 have split:RL C F s.heap vs zs/\R C F s.heap v z:=by
  have h1:=rs.take vs.length;have h2:=rs.drop vs.length;rw[w5 rfl,hlz,w5 rfl]at h1;rw[w6 rfl,hlz,w6 rfl]at h2;exact⟨h1,h2.1⟩
 refine Copied.pop_at ho (y:=z) (by simp) (λh' hs hl'=>?_) (by refine ao cW (ao bB (ao aC (dk hlz ?_)));simp;exact ci (nat_lit 0x7fffff96e02831658241) rfl hl);have ep: (bu (zs++[z])).pop=bu zs:=by simp
 have hl'':h'.PlainList a (bu zs):=⟨n+1,by exact ao hl' (ao ep rfl)⟩;obtain⟨a',E⟩:=x9 (t:=s.toks) X e hs hl'' split.1 (by exact ci (nat_lit 0x7ac02831658241) rfl hl);exact⟨v,F,_,a',split.2.mono E,q⟩
theorem FG{a:aY}{vs:List V}(e:σ a=some (.list vs))(hl:vs.length<=16777216)(q:Q .none (σ.set a (.list vs.reverse))):c9 C d "list.reverse" [.ref a] σ Q:=by
 intro A P F s fv xs hA X hg rr;cases bi (v:= .builtin "list.reverse") (by decide+kernel) hg;clear hg;refine bJ (Ev rr) ?_;rintro x rfl rfl;obtain⟨_,_,_,ys,⟨n,ho⟩,rs,_⟩:=X.obj _ _ e;refine tz PySem.F.slot_list_reverse ⟨_,ho,rfl⟩ PySem.F.entry_list_reverse (PySem.F.args_list_reverse_1 _) (AutoListH.list_reverse_list_0 a ys.toArray n (by refine ao cW (ao bB (dk rs.length ?_));exact hl)) ⟨ho,?_⟩;have hl': (s.heap.update a (dY λx=>x.reverse)).PlainList a (bu ys.reverse):=by
  have:=qk (h:=s.heap) (a:=a) (c:="list") ho (λx=>x.reverse);have e:ys.toArray.reverse=bu ys.reverse:=by simp
  rw[e]at this;exact⟨_,this⟩
 obtain⟨a',E⟩:=x9 (t:=s.toks) X e (me ..) hl' rs.reverse (by simp;exact z);exact⟨.none,F,_,a',rfl,q⟩
theorem Kb{o df:V}{k:Int}{ks:List Int}{vs:List V}(hd:iQ σ o=some (ks,vs))(q:Q ((oi ks vs k).getD df) σ):c9 C d "dict.get" [o,.int k,df] σ Q:=by
 intro A P F s fv xs hA X hg rr;cases bi (v:= .builtin "dict.get") (by decide+kernel) hg;clear hg;refine eR (Pu rr) ?_;rintro x y z rfl r ⟨t,rfl⟩ rz;clear rr;obtain⟨a,xs,rfl,hm,hl,rs,hsy⟩:=gV hd X r;refine call_meetsIn PySem.F.slot_dict_get (hm.typeIs (s:=s)) PySem.F.entry_dict_get (PySem.F.args_dict_get_3 _ _ _) (meets_dict_get_default (eQ C.prog C.w) (k:=k) a (nb _ _ k t) hsy z) ⟨_,hm.mapOf,?_⟩;refine⟨_,F,σ,d1 X _,?_,q⟩;have key:∀{ks:List Int} {vs:List V} {xs:List aD},ks.length=xs.length->RL C F s.heap vs xs->R C F s.heap ((oi ks vs k).getD df) ((rY (gq ks xs) k).getD z):=by
  intro ks
  induction ks with
  |nil=>intro vs xs h r2;cases xs with
   |nil=>cases vs with
    |nil=>exact rz
    |cons _ _=>exact r2.elim
   |cons _ _=>simp at h
  |cons j ks ih=>intro vs xs h r2;cases xs with
   |nil=>simp at h
   |cons x xs=>cases vs with
    |nil=>exact r2.elim
    |cons v vs=>
     refine ao um (ao j6 (ao u3 ?_));by_cases e:j=k
     ·exact ao (if_pos e) (ao (if_pos e) r2.1)
     ·refine ao (if_neg e) (ao (if_neg e) ?_)
      exact ih (by exact cL (h)) r2.2
 exact key hl rs
structure zM where
 size:Nat
 frees:List Nat
 param:Nat
 body:IE
noncomputable def oK(sc:Scope):Bool:=(match sc.kind with| .function=>true|_=>false) && !sc.isCoroutine && !sc.isGenerator && iL (eO sc.names) && sc.names.all λp=>p.2 != .cell && sc.names.lookup p.1==some p.2 && !(p.1==ae "__classdict__")
noncomputable def gd:Bool->Option Unit
 |true=>some ()
 |false=>none
theorem zJ{b:Bool}{u:Unit}(h:gd b=some u):b=true:=by
 cases b with
 |true=>rfl
 |false=>exact bx h
noncomputable def GZ(k:cZ)(p:Nat×cZ):Option Nat:=if p.2==k then some p.1 else none
theorem Gs{k:cZ}{p:Nat×cZ}{i:Nat}(h:GZ k p=some i):p=(i,k):=by
 unfold GZ at h;cases e:p.2==k with
 |false=>rw[e]at h;exact bx h
 |true=>rw[e]at h;exact CW (ac h) (beq_iff_eq.mp e)
noncomputable def EI(D:BU):Option zM:=(gd (oK D.sc)).bind λw_=>(gA D.params).bind λl=>(yv l).bind λp=>(gf D.sc.names (eO D.sc.names)).bind λfs=>((cj D.sc.names p).bind (GZ .local)).bind λi=>(cE D.sc.names 60 D.body).map λb=>⟨D.sc.names.length,fs,i,b⟩
theorem Il{D:BU}{f:zM}{G:Prop}(h:EI D=some f)(k:∀p fs i b,oK D.sc=true->gA D.params=some [p]->gf D.sc.names (eO D.sc.names)=some fs->cj D.sc.names p=some (i,.local)->cE D.sc.names 60 D.body=some b->f=⟨D.sc.names.length,fs,i,b⟩->G):G:=by
 refine oB h λw_ g h=>?_;refine oB h λl hl h=>?_;refine oB h λp hp h=>?_;refine oB h λfs hs h=>?_;refine oB h λi hi h=>?_;refine oB hi λq hq hi=>?_;refine oM h λb hb e=>k p fs i b (zJ g) (hl.trans (congrArg some (qJ hp))) hs (hq.trans (congrArg some (Gs hi))) hb e.symm
noncomputable def AX(f:zM)(cs:List V)(v:V):bT:=c8 (mX (bX f.size none) f.frees cs) f.param v
theorem vP{sc:Scope}(g:oK sc=true):sc.kind= .function/\sc.isCoroutine=false/\sc.isGenerator=false/\(eO sc.names).Nodup/\∀p∈sc.names,p.2≠ .cell/\sc.names.lookup p.1=some p.2/\(p.1==ae "__classdict__")=false:=by
 unfold oK at g;replace g:=bo.mp g;have h5:=g.2;replace g:=bo.mp g.1;have h4:=g.2;replace g:=bo.mp g.1;have h3:=(c6 _).mp g.2;replace g:=bo.mp g.1;have h2:=(c6 _).mp g.2;have h1:=g.1;refine⟨?_,h2,h3,sB h4,λp hp=>?_⟩
 ·cases e:sc.kind<;>rw[e]at h1<;>first|rfl|exact mj h1
 ·have:=c3.mp h5 p hp
  simp only[bD,bne_iff_ne,ne_eq,beq_iff_eq,c6]at this;exact⟨this.1.1,this.1.2,this.2⟩
theorem q9{x:Str}:∀{names:cD},x∈eO names↔(x,sO)∈names:=by
 intro names
 induction names with
 |nil=>exact⟨nofun,nofun⟩
 |cons p r ih=>
  obtain⟨n,k⟩:=p;show x∈(if k== .free then eO r++[n]else eO r)↔_;by_cases hk: (k== .free)=true
  ·refine ao (if_pos hk) ?_
   have hk:k= .free:=beq_iff_eq.mp hk;subst hk;exact⟨λh=>(aI.mp h).elim (λh=> .tail _ (ih.mp h)) λh=>a9.mpr (.inl (congrArg (·,sO) (aq.mp h))),λh=>aI.mpr ((a9.mp h).elim (λh=> .inr (aq.mpr (congrArg (·.1) h))) λh=> .inl (ih.mpr h))⟩
  ·refine ao (if_neg hk) ⟨λh=> .tail _ (ih.mp h),λh=>(a9.mp h).elim (λh=>absurd (beq_iff_eq.mpr (congrArg (·.2) h).symm) hk) ih.mpr⟩
theorem FH{x:Str}{c:aY}:∀{clos:List (Str×aY)} {ys:List aD},hJ F h (clos.map (·.2)) ys->(x,c)∈clos->F c/\∃y,h.IsCell c (some y):=by
 intro clos
 induction clos with
 |nil=>exact λw_ m=>nomatch m
 |cons p r ih=>intro ys t m;cases ys with
  |nil=>exact cG t
  |cons y ys=>exact(a9.mp m).elim (λm=>by rw[<- m]at t;exact⟨t.1,y,t.2.1⟩) (ih t.2.2)
theorem oh{α:Type}{x:Str}{c:α}:∀{l:List (Str×α)},(l.map (·.1)).Nodup->(x,c)∈l->l.lookup x=some c:=by
 intro l
 induction l with
 |nil=>exact λw_ m=>nomatch m
 |cons p r ih=>
  intro hn m;obtain⟨n,a⟩:=p;replace hn:=cC.mp hn;refine ao cz ((a9.mp m).elim (λm=>?_) λm=>?_)
  ·cases m;exact ao (beq_self_eq_true x) rfl
  ·have:x≠n:=λe=>hn.1 (e▸bG.mpr ⟨(x,c),m,rfl⟩)
   exact ao (beq_eq_false_iff_ne.mpr this) (ih hn.2 m)
noncomputable def FzOk(C:Cx)(F:dQ)(h:cx)(ns:cD)(clos:List (Str×aY))(e8:bT):Prop:=∀x j k,cj ns x=some (j,k)->∀w,nv e8 j=some w->∃c y,(x,c)∈clos/\h.IsCell c (some y)/\R C F h w y
theorem FzOk.go{full:List (Str×aY)}:∀(xsn:List Str) (fs:List Nat) (cs:List V) (ys:List aD) (clos:List (Str×aY)) (e8:bT),gf ns xsn=some fs->clos.map (·.1)=xsn->cs.length=xsn.length->hJ F h (clos.map (·.2)) ys->RL C F h cs ys->(∀p∈clos,p∈full)->
  FzOk C F h ns full e8->FzOk C F h ns full (mX e8 fs cs):=by
 intro xsn
 induction xsn with
 |nil=>
  intro fs cs ys clos e8 h1 h2 h3 _ _ _ B;replace h1:=ac h1;subst h1;have e:cs=[]:=co.mp h3;subst e;exact B
 |cons x xsn ih=>
  intro fs cs ys clos e8 h1 h2 h3 hc rr hm B;cases clos with
  |nil=>exact nomatch h2
  |cons p clos=>cases cs with
   |nil=>exact(gK _ h3.symm).elim
   |cons v cs=>cases ys with
    |nil=>exact cG hc
    |cons y ys=>
     refine kB h1 λi fs' hi h5 e=>?_;subst e;refine bJ (iE hi) λk hs w_=>?_;obtain⟨n,a⟩:=p;have e1:n=x:=(jo h2).1;subst e1;refine ih fs' cs ys clos (c8 e8 i v) h5 (jo h2).2 (cL h3) hc.2.2 rr.2 (λp hp=>hm p (.tail _ hp)) λz j k' hz w g=>?_;by_cases hij:i=j
     ·subst hij
      have e:=gS hz hs;subst e;cases oP g;exact⟨a,y,hm _ (.head _),hc.2.1,rr.1⟩
     ·rw[ge (i:=i) (j:=j) hij]at g
      exact B z j k' hz w g
set_option tactic.hygienic true in
theorem Hh{f:zM}(hf:EI C.lam=some f){cs:List V}{v:V}(hcs:cs.length=f.frees.length)(W:ig C d f.body (AX f cs v) σ Q):EV C (d+1) cs [v] σ Q:=by
 intro A P F s fv xs hA X r rr;refine bJ (Ev rr) ?_;rintro x rfl rv;refine Il hf λp fs i b g hp h3 hi h5 ef=>?_;subst ef;refine nY (vP g) λhk1 hk2 hk3 hk4 hk5=>?_;obtain⟨fa,cells,ys,rfl,ffa,hat,hc,rc⟩:=r;rw[C.cloEq]at hat;refine xy hat ?_;clear hat;rintro clos ⟨c',ctv,pm,_,_,ho,hcd⟩ rfl hnm hpw;obtain⟨as,hpar,hpn⟩:∃as,C.lam.params=⟨[],as,none,[],[],none,[]⟩/\as.map (·.arg)=[p]:=oa hp;have hb:yS (kla_fn "<lambda>" C.lam.qual C.lam.params C.lam.body C.lam.sc clos pm (.ref c') ctv) ⟨[x],[]⟩=dD [(p,x)]:=by
  have:=vM (fd:=kla_fn "<lambda>" C.lam.qual C.lam.params C.lam.body C.lam.sc clos pm (.ref c') ctv) (as:=as) (vals:=[x]) hpar rfl (by refine ao hpn ?_;exact cb _ _) (by have:=congrArg dW hpn;exact(by rw[ai]at*;exact(this.symm)));rw[hpn]at this;exact this
 have hcell:∀y∈C.lam.sc.names,y.2≠ .cell:=λy hy=>(hk5 y hy).1;have hploc:C.lam.sc.names.lookup p=some .local:=(cp hi).1;have lim:=C.lim.keeps X.stays;refine An.call ?_;refine kla_callFunE hA.depth ho rfl hk2 hk3 rfl hcd ?_;refine ao hb ?_;refine bc (iO hcell (λy hy=>by refine ao (aq.mp hy) ?_;exact hploc) (λcR hns hsb=>⟨lim.fresh _ hsb,?_⟩) hk1);have kk:∀b o,s.heap.get? b=some o->cR.get? b=some o:=λb o e=>hsb.extBut b o (ce (bY e)) (aQ _ e);have hfr:=d8 s.heap;generalize hen:newEnv C.lam.sc s.heap.objs.size dz clos (C.lam.qual++".<locals>.") (some fa) (.ref c') none kK=env;have e1:env.locals=s.heap.objs.size:=by refine dk hen ?_;rfl
 have e2:env.scope=C.lam.sc:=by refine dk hen ?_;rfl
 have e3:env.globals=dz:=by refine dk hen ?_;rfl
 have e4:env.builtins=kK:=by refine dk hen ?_;rfl
 have e5:env.cells=clos:=by refine dk hen ?_;rfl
 have ek:∀x i k,cj C.lam.sc.names x=some (i,k)->env.kindOf x=some k:=λx i k e=>by unfold o7.kindOf;refine ao e2 ?_;exact(cp e).1
 have E1:gX F s.heap F cR:=⟨λw_ x=>x,d3.all kk⟩;have KW:=hc.mono E1;have bp:Aft C P F s F σ {s with heap:=cR,toks:=s.toks+[(p,x)].length}:=Aft.grow X kk;have eV:cN C (Po P λb=>b=s.heap.objs.size) F σ cR:=(X.ext kk).protect λb hb=>by
  rcases hb with hb|hb
  ·exact(X.ext kk).prot hb
  ·clear bp E1 e1 hen kk hsb lim hc hcd ho rc rv rr;subst hb
   refine kC hns ?_;clear hns;intro o _ _ e _;exact⟨X.fresh_F hfr,X.fresh_sp hfr,X.fresh_σ hfr,o,e⟩
 have hnd: (clos.map (·.1)).Nodup:=by refine ao hnm ?_;exact hk4
 have Fz:FzOk C F cR C.lam.sc.names clos (mX (bX C.lam.sc.names.length none) fs cs):=
  FzOk.go (eO C.lam.sc.names) fs cs ys clos _ h3 hnm (by exact ao hcs (ao (zX h3) rfl)) KW (rc.mono E1) (λp hp=>hp) λx j k w_ w g=>(vr _ _ _ g).elim
 have Y:FR C env C.lam.sc.names (Po P λb=>b=s.heap.objs.size) F (AX ⟨C.lam.sc.names.length,fs,i,b⟩ cs v) cR:=by
  refine⟨e3,e4,by refine ao e2 ?_;exact hk1,λx i e=>ek x i _ e,⟨_,(by refine ao e1 ?_;exact hns),.inr e1,λy j e=>⟨ek y j _ e,λw gw=>?_⟩⟩,λy j k e z=>?_,λx y c e e'=>by
   rw[e5]at e e';exact name_of_addr hpw (mem_of_lookup e) (mem_of_lookup e')⟩
  ·by_cases hij:i=j
   ·clear W hcs;subst hij
    have:=gS e hi;clear e bp hns hploc hb hpn hi hp;subst this;cases oP gw;refine⟨x,?_,rv.mono E1⟩;simp
   ·have gw:nv (mX (bX C.lam.sc.names.length none) fs cs) j=some w:=by
     have:=gw;unfold AX at this;rwa [ge (i:=i) (j:=j) hij]at this
    refine lk (Fz y j _ e w gw) ?_;intro c z hm _;have:y∈eO C.lam.sc.names:=by refine dk hnm ?_;exact bG.mpr ⟨_,hm,rfl⟩
    have h6:=(hk5 _ (q9.mp this)).2.1;rw[(cp e).1]at h6;replace h6:=ac h6;cases h6
  ·have hkf:k= .free:=by
    rcases z with rfl|rfl
    ·exact absurd rfl ((hk5 _ (cp e).2).1)
    ·rfl
   subst hkf;have hy:y∈eO C.lam.sc.names:=q9.mpr (cp e).2;rw[<- hnm]at hy;clear eV bp E1 e4 e3 e2 e1 hen hfr kk hsb hns hploc hcell hb hpn hpar hpw hnm hc hcd ho rc hk4 hk3 hk2 hk1 W hcs h5 h3 hp g rv rr X hA;refine bJ (bG.mp hy) ?_;rintro⟨y',c⟩ hm rfl;refine ID (FH KW hm) λfc z ic=>?_;refine⟨.inr ⟨ek _ j _ e,(hk5 _ (cp e).2).2.2⟩,c,some z,by refine ao e5 ?_;exact oh hnd hm,.inr fc,ic,λw gw=>?_⟩;have hij:i≠j:=by
    rintro rfl;have:=gS hi e;clear ic fc hy hm;subst this;rw[hi]at e;replace e:=ac e;cases e
   have gw:nv (mX (bX C.lam.sc.names.length none) fs cs) j=some w:=by
    have:=gw;unfold AX at this;rwa [ge (i:=i) (j:=j) hij]at this
   refine cr (Fz _ j _ e w gw) λc2 z2 hm2 ic2 r2=>?_;have h7:=oh hnd hm;rw[oh hnd hm2]at h7;replace h7:=ac h7;subst h7;refine bJ ic λo g1 g2=>?_;clear ic;refine bJ ic2 λo' g3 g4=>?_;clear ic2;rw[g1]at g3;replace g3:=ac g3;subst g3;rw[g2]at g4;cases g4;exact⟨z,rfl,r2⟩
 have hA':gF (A.deeper env) d:=⟨hA.1,by have:=hA.2.1;show A.depth+1+2*d+10<=900;exact bt (nat_lit 0xe126054c201516094a45e126054d619005404a41) rfl this,by have:=hA.2.2;show A.units+3+20*d+100<=9000;exact bt (nat_lit 0x46503b8c9308294682529151940ee324d619029404a41) rfl this⟩;refine kla_codeExpr ?_;refine((iT d 60).E _ _ _ h5 env _ _ σ Q (A.deeper env) F {s with heap:=cR,toks:=s.toks+[(p,x)].length} hA' eV Y W).use λv z gy fx dv b8 ip q=>?_;exact⟨z,v,gy,fx,rfl,bp.trans (b8.sub gQ),ip,q⟩
structure yb where
 size:Nat
 params:List Nat
 pre:List IS
 go:Nat
 caps:List Nat
 post:List IS
noncomputable def Kg(o:Option (Nat×cZ)):Bool:=o.any λp=>p.2== .cell
theorem Ii{o:Option (Nat×cZ)}(h:Kg o=true):∃i,o=some (i,.cell):=by
 cases o with
 |none=>exact mj h
 |some p=>exact⟨p.1,congrArg some (congrArg (EZ p.1) (beq_iff_eq.mp h))⟩
noncomputable def DO(ns:cD)(sl:List Nat)(x:List ij×Str×gY×List ij):Option yb:=
 (gd (oK x.2.2.1.2.2.1)).bind λw_=>(gd ((eO x.2.2.1.2.2.1.names).all λy=>Kg (cj ns y))).bind λw_=>(gA x.2.2.1.1).bind λw_=>(cSs ns 60 x.1).bind λipre=>(cSs ns 60 x.2.2.2).bind λipost=>(cB ns x.2.1).bind λgo=>(gf ns (eO x.2.2.1.2.2.1.names)).bind λcaps=>(gd (!caps.contains go)).map λw_=>⟨ns.length,sl,ipre,go,caps,ipost⟩
noncomputable def GO(p:fy):Option yb:=(oU p "" "_law_ends").bind λa=>(gd (z7 a.scope)).bind λw_=>(gA a.params).bind λps=>(gd (iL ps)).bind λw_=>(gf a.scope.names ps).bind λsl=>(jd a.body).bind λx=>DO a.scope.names sl x
theorem F6{ns:cD}{sl:List Nat}{x:List ij×Str×gY×List ij}{f:yb}{G:Prop}(h:DO ns sl x=some f)(k:∀lps ipre ipost go caps,oK x.2.2.1.2.2.1=true->(∀y∈eO x.2.2.1.2.2.1.names,∃i,cj ns y=some (i,.cell))->gA x.2.2.1.1=some lps->
  cSs ns 60 x.1=some ipre->cSs ns 60 x.2.2.2=some ipost->cB ns x.2.1=some go->gf ns (eO x.2.2.1.2.2.1.names)=some caps->caps.contains go=false->f=⟨ns.length,sl,ipre,go,caps,ipost⟩->G):G:=by
 refine oB h λw_ g h=>?_;refine oB h λw_ g2 h=>?_;refine oB h λlps h1 h=>?_;refine oB h λipre h2 h=>?_;refine oB h λipost h3 h=>?_;refine oB h λgo h4 h=>?_;refine oB h λcaps h5 h=>?_;exact oM h λw_ g3 e=>k lps ipre ipost go caps (zJ g) (λy hy=>Ii (c3.mp (zJ g2) y hy)) h1 h2 h3 h4 h5 (c6 _▸zJ g3) e.symm
theorem GI{p:fy}{f:yb}{G:Prop}(h:GO p=some f)(k:∀a ps sl x,oU p "" "_law_ends"=some a->z7 a.scope=true->gA a.params=some ps->iL ps=true->gf a.scope.names ps=some sl->jd a.body=some x->DO a.scope.names sl x=some f->G):G:=by
 refine oB h λa h1 h=>?_;refine oB h λw_ g h=>?_;refine oB h λps h2 h=>?_;refine oB h λw_ g2 h=>?_;refine oB h λsl h3 h=>?_;exact oB h λx h4 h=>k a ps sl x h1 (zJ g) h2 (zJ g2) h3 h4 h
noncomputable def JW(C:Cx)(d:Nat)(f:yb)(Q:V->AH->Prop):dy:=λfl e σ=>match fl with
 | .next=>∃vs:List V,f.caps.map (nv e)=vs.map some/\wpSs C d f.caps f.post (c8 e f.go (.clo vs)) σ (q6 Q)
 | .ret v=>Q v σ
 | .cont=>False
theorem Ck:∀{ss:List ij} {x:List ij×Str×gY×List ij},jd ss=some x->∃py ap,ss=x.1++ .Assign [.Name x.2.1 py] (.Lambda x.2.2.1.1 x.2.2.1.2.1 x.2.2.1.2.2.1 x.2.2.1.2.2.2) ap::x.2.2.2:=by
 intro ss
 induction ss with
 |nil=>intro x h;exact bx h
 |cons s r ih=>
  intro x;show(match JL s with|some x=>(some ([],x.1,x.2,r):Option (List ij×Str×gY×List ij))|none=>(jd r).map λ(x:List ij×Str×gY×List ij)=>(s::x.1,x.2))=_->_;cases q:JL s with
  |some z=>
   intro h;replace h:=ac h;subst h;refine zt (IN q) λpy ap e=>?_;exact⟨py,ap,by refine ao e ?_;rfl⟩
  |none=>
   intro h;refine oM h ?_;rintro x h1 rfl;refine zt (ih h1) λpy ap e=>?_;exact⟨py,ap,by refine ao e ?_;rfl⟩
theorem DJ(names:cD)(acc:List (Str×aY))(hf:∀p∈names,p.2= .free->∃c,env.cells.lookup p.1=some c)(h:∀p∈acc,env.cells.lookup p.1=some p.2):
  (mw env names acc).map (·.1)=eO names++acc.map (·.1)/\∀p∈mw env names acc,env.cells.lookup p.1=some p.2:=by
 induction names generalizing acc with
 |nil=>exact⟨rfl,h⟩
 |cons p r ih=>
  obtain⟨n,k⟩:=p;have hr:∀p∈r,p.2= .free->∃c,env.cells.lookup p.1=some c:=λp hp=>hf p (.tail _ hp);show(mw env r (mR env (n,k) acc)).map (·.1)=(if k== .free then eO r++[n]else eO r)++_/\∀p∈mw env r (mR env (n,k) acc),_;by_cases hk: (k== .free)=true
  ·obtain⟨c,hc⟩:=hf (n,k) (.head _) (beq_iff_eq.mp hk)
   refine ao (t9 hk hc) (ao (if_pos hk) ?_);refine(ih ((n,c)::acc) hr λp hp=>(a9.mp hp).elim (λe=>?_) (h p)).imp (λa=>Eq.trans a (aJ (eO r) [n] (acc.map λp:Str×aY=>p.1)).symm) id;rw[e];exact hc
  ·exact ao (ua hk) (ao (if_neg hk) (ih acc hr h))
theorem FL(Y:FR C env ns PP F e8 h):∀(xsn:List Str) (caps:List Nat) (vs:List V) (clos:List (Str×aY)),gf ns xsn=some caps->clos.map (·.1)=xsn->(∀p∈clos,env.cells.lookup p.1=some p.2)->(∀x∈xsn,∃i,cj ns x=some (i,.cell))->caps.map (nv e8)=vs.map some->
  ∃ys,(∀F',(∀b,F b->F' b)->(∀p∈clos,F' p.2)->hJ F' h (clos.map (·.2)) ys)/\RL C F h vs ys/\vs.length=clos.length:=by
 intro xsn
 induction xsn with
 |nil=>
  intro caps vs clos h1 h2 _ _ h4;replace h1:=ac h1;subst h1;have e:clos=[]:=sq.mp h2;have e':vs=[]:=sq.mp h4.symm;subst e e';exact⟨[],λw_ w_ w_=>trivial,trivial,rfl⟩
 |cons x xsn ih=>
  intro caps vs clos h1 h2 h3 hk h4;refine kB h1 λi caps' hi h6 e=>?_;subst e;cases clos with
  |nil=>exact nomatch h2
  |cons p clos=>cases vs with
   |nil=>exact nomatch h4
   |cons v vs=>
    obtain⟨n,c⟩:=p;have e1:n=x:=(jo h2).1;subst e1;obtain⟨g1,g2⟩:=jo h4;refine d4 (ih caps' vs clos h6 (jo h2).2 (λp hp=>h3 p (.tail _ hp)) (λx hx=>hk x (.tail _ hx)) g2) λys k1 k2 k3=>?_;obtain⟨j,hj⟩:=hk n (.head _);refine bJ (iE hi) λk hs w_=>?_;rw[hj]at hs;have e:j=i:=congrArg (·.1) (ac hs);subst e;obtain⟨_,c',y0,hc,_,ic,hv⟩:=Y.cel n _ .cell hj (.inl rfl);have e:c'=c:=ac (hc.symm.trans (h3 (n,c) (.head _)));subst e;refine bJ (hv v g1) λy e r=>?_;subst e;exact⟨y::ys,λF' hs hp=>⟨hp (n,c') (.head _),ic,k1 F' hs λp hp'=>hp p (.tail _ hp')⟩,⟨r,k2⟩,congrArg oY k3⟩
theorem JG{cA:cx}{S:dQ}(X:cN C (Po P own) F σ h)(Y:FR C env ns (Po P own) F e8 h)(np:∀b,own b->¬P b)(hk:∀b,b≠C.tabA->∀o,h.get? b=some o->cA.get? b=some o)(hS:∀b,S b->(h.get? b=none\/own b\/F b)/\∃o,cA.get? b=some o)
  (hinv:CA C.lam C.tabA (λb=>F b\/S b) cA) (hloc:¬S env.locals):
  cN C (Po P λb=>own b/\¬S b) (λb=>F b\/S b) σ cA/\FR C env ns (Po P λb=>own b/\¬S b) (λb=>F b\/S b) e8 cA/\gX F h (λb=>F b\/S b) cA:=by
 have spT:C.sp C.tabA:=(C.spEq _).mpr rfl;refine eX (X.spx _ spT) λnF nP lT=>?_;have kF:∀b,F b->∀o,h.get? b=some o->cA.get? b=some o:=λb f o e=>hk b (λq=>nF (q▸f)) o e;have kP:∀b,Po P own b->∀o,h.get? b=some o->cA.get? b=some o:=λb f o e=>hk b (λq=>nP (q▸f)) o e;have E:gX F h (λb=>F b\/S b) cA:=⟨λw_ x=> .inl x,kF⟩;have sub:∀b,Po P (λb=>own b/\¬S b) b->Po P own b:=λb q=>q.imp id λq=>q.1;have sS:∀b,S b->¬P b/\¬C.sp b/\σ b=none:=λb hb=>by
  rcases(hS b hb).1 with q|q|q
  ·exact⟨λp=>X.fresh_P q (.inl p),X.fresh_sp q,X.fresh_σ q⟩
  ·obtain⟨_,h1,h2,_⟩:=X.prot (a:=b) (.inr q);exact⟨np b q,h1,h2⟩
  ·refine⟨λp=>X.fp b q (.inl p),λp=>(X.spx b p).1 q,?_⟩
   cases e:σ b with
   |none=>rfl
   |some m=>exact absurd q (X.obj b m e).nF
 refine⟨⟨λb o e=>⟨.inl (X.base b o e).1,kF b (X.base b o e).1 o (X.base b o e).2⟩,λb f p=>?_,λb f=>?_,λb p=>?_,λb m e=>?_,λb sp=>?_,(C.invEq _ _).mpr hinv⟩,?_,E⟩
 ·rcases f with f|f
  ·exact X.fp b f (sub b p)
  ·rcases p with p|p
   ·exact(sS b f).1 p
   ·exact p.2 f
 ·rcases f with f|f
  ·obtain⟨o,e⟩:=X.fal b f;exact⟨o,kF b f o e⟩
  ·exact(hS b f).2
 ·obtain⟨o,e⟩:=X.pal b (sub b p);exact⟨o,kP b (sub b p) o e⟩
 ·obtain⟨p1,p2,p3,z⟩:=X.obj b m e
  have ne:∀b,¬C.sp b->b≠C.tabA:=λb hb q=>hb (q▸spT);refine⟨λq=>q.elim p1 λq=>?_,λq=>p2 (sub b q),p3,z.mono E (hk b (ne b p3)) λw_ dd w_ w_ w_ hd=>⟨hd,hk dd (ne dd (X.obj dd _ hd).nS)⟩⟩;have:=(sS b q).2.2;rw[e]at this;clear z e;exact n9 this
 ·have e:=(C.spEq _).mp sp
  clear lT spT hk Y X;subst e;refine⟨λq=>q.elim nF λq=>(sS _ q).2.1 sp,λq=>nP (sub _ q),?_⟩;rcases hinv with e|⟨c,_,e,_⟩
  ·exact⟨_,e⟩
  ·exact⟨_,e⟩
 ·refine⟨Y.glob,Y.blt,Y.kind,Y.gk,?_,λx i k e z=>?_,Y.apart⟩
  ·obtain⟨m,n,p,q⟩:=Y.loc
   refine⟨m,sK n (kP _ p),p.imp id λp=>⟨p,hloc⟩,λx i e=>⟨(q x i e).1,λv g=>let⟨y,e1,e2⟩:=(q x i e).2 v g;⟨y,e1,e2.mono E⟩⟩⟩
  ·obtain⟨q,c,y0,h1,h2,h3,h4⟩:=Y.cel x i k e z
   refine⟨q,c,y0,h1,?_,mH h3 (h2.elim (kP c) (kF c)),λv g=>let⟨y,e1,e2⟩:=h4 v g;⟨y,e1,e2.mono E⟩⟩;by_cases hs:S c
   ·exact .inr (.inr hs)
   ·exact h2.elim (λp=> .inl (p.imp id λp=>⟨p,hs⟩)) λf=> .inr (.inl f)
theorem Ei(X:cN C P F σ s.heap):s.heap.BuiltinsAt C.mg C.tabA:=
 let⟨bm,o,e1,e2,e3,e4,e5,r⟩:=C.tabB;⟨bm,o,e1,e2,e3,e4,X.stays _ _ e5,r⟩
set_option tactic.hygienic true in
theorem Gn{K:aD->aU->Prop}{E:aD->aU->Prop}{clos:List (Str×aY)}(X:cN C PP F σ s.heap)(hcode:env.code= .ref C.tabC)(hq:env.qual++"<lambda>"=C.lam.qual)(hg:env.globals=dz)(hcl:jC C.lam.sc env=dD clos){ps:List Str}(hps:gA C.lam.params=some ps)
  (k:∀c' ctv pm cA tk a,s.heap.get? a=none->cA.get? a=some (kla_obj "<lambda>" C.lam.qual C.lam.params C.lam.body C.lam.sc clos pm c' ctv)->cA.CodeRec (.ref c') C.lam.qual->(s.heap.get? c'=none\/F c')->(∃o,cA.get? c'=some o)->
   cA.get? C.tabA=some (rj #[ot C.lam.pos.line,ot C.lam.pos.col,.ref c'])->(∀b,b≠C.tabA->∀o,s.heap.get? b=some o->cA.get? b=some o)->K (.ref a) {s with heap:=cA,toks:=tk}):
  wpAny (bI C.prog C.w) A (bS (.Lambda C.lam.params C.lam.body C.lam.sc C.lam.pos) env) K E s:=by
 obtain⟨as,hpar⟩:∃as,C.lam.params=⟨[],as,none,[],[],none,[]⟩:=(oa hps).imp λw_ h=>h.1;have hdef:defaultsOf C.lam.params env=([],[]):=by refine ao hpar ?_;rfl
 refine kla_eval hdef ?_;refine ao hq ?_;have gm:s.heap.Ns dz C.mg:=sK C.gNs (X.stays _);have hd:=C.tabHd.keeps X.stays;have fresh:∀{cA:cx} (_:∀b,b≠C.tabA->∀o,s.heap.get? b=some o->cA.get? b=some o),(∃o,cA.get? C.tabA=some o)->s.heap.get? cA.objs.size=none:=λ{cA} hk ht=>by
  cases q:s.heap.get? cA.objs.size with
  |none=>rfl
  |some o=>
   by_cases e:cA.objs.size=C.tabA
   ·obtain⟨o',ho'⟩:=ht
    exact absurd (bY ho') (by refine ao e ?_;exact fo _)
   ·exact absurd (bY (hk _ e o q)) (fo _)
 rcases(C.invEq _ _).mp X.inv with hT|⟨c',fc,hT,hrec⟩
 ·refine kla_makeFunction hcl hg gm hcode hd hT trivial rfl C.tabNe (Ei X) λc' ctv cR tk hx hge hlt hr hP=>?_
  have hk:∀b,b≠C.tabA->∀o,s.heap.get? b=some o->cR.get? b=some o:=λb hb o e=>hx b o hb e;have hP':cR.get? C.tabA=some (rj #[ot C.lam.pos.line,ot C.lam.pos.col,.ref c']):=by exact hP
  have nc:s.heap.get? c'=none:=by
   cases q:s.heap.get? c' with
   |none=>rfl
   |some o=>exact absurd (bY q) (iM.mpr hge)
  have lc:∃o,cR.get? c'=some o:=by
   refine lj hr ?_;clear hr;intro c o _ _ e e1 _;cases e;exact⟨o,e1⟩
  exact k c' ctv _ _ tk _ (fresh hk ⟨_,hP'⟩) (bk _ rfl) (hr.push _) (.inl nc) (let⟨o,e⟩:=lc;⟨o,aQ _ e⟩) (aQ _ hP') λb hb o e=>aQ _ (hk b hb o e)
 ·have hf:codeAmong C.lam.pos (#[ot C.lam.pos.line,ot C.lam.pos.col,.ref c']:Array aD).toList=some (.ref c'):=by
   show(if((C.lam.pos.line:Int)==C.lam.pos.line && (C.lam.pos.col:Int)==C.lam.pos.col)=true then some (aD.ref c')else _)=_;exact ao (if_pos (by simp)) rfl
  refine kla_makeFunctionHit hcl hg gm hcode hd hT trivial hf (Ei X) λctv cR tk kk hge=>?_;have hk:∀b,b≠C.tabA->∀o,s.heap.get? b=some o->cR.get? b=some o:=λb w_ o e=>kk b o e;have lc:∃o,cR.get? c'=some o:=by
   refine lj hrec ?_;clear hrec;intro c o _ _ e e1 _;cases e;exact⟨o,kk _ _ e1⟩
  exact k c' ctv _ _ tk _ (fresh hk ⟨_,kk _ _ hT⟩) (bk _ rfl) ((hrec.keeps kk).push _) (.inr fc) (let⟨o,e⟩:=lc;⟨o,aQ _ e⟩) (aQ _ (kk _ _ hT)) λb hb o e=>aQ _ (hk b hb o e)
theorem Fc{rest:List ij}{Kf:Flow->aU->Prop}{F₀:dQ}{s₀:aU}(Wt:Wr env ns fz P own)(hA:gF A d){K:dy}
  (hk:∀k e8 F σ s',Aft C P F₀ s₀ F σ s'->K k e8 σ->(match k with| .next=>cN C (Po P own) F σ s'.heap->FR C env ns (Po P own) F e8 s'.heap->wpAny (bI C.prog C.w) A (ql rest env) Kf (λw_ w_=>False) s'| .cont=>Kf .cont s'| .ret v=>∀x,R C F s'.heap v x->Kf (.ret x) s')):
  ∀(n:Nat) (pre:List ij) (ipre:List IS),cSs ns n pre=some ipre->∀e8 σ F s,Aft C P F₀ s₀ F σ s->cN C (Po P own) F σ s.heap->FR C env ns (Po P own) F e8 s.heap->wpSs C d fz ipre e8 σ K->wpAny (bI C.prog C.w) A (ql (pre++rest) env) Kf (λw_ w_=>False) s:=by
 intro n
 induction n with
 |zero=>intro pre ipre h;cases pre<;>exact bx h
 |succ n ih=>
  intro pre ipre h e8 σ F s a X Y W;cases pre with
  |nil=>
   cases(ac (h:some []=some ipre));exact hk .next e8 F σ s a W X Y
  |cons st pre=>
   refine oB h λi1 h1 h2=>?_;clear h;refine oM h2 ?_;rintro i2 h3 rfl;refine pc (b0 ((AP (C:=C) d n).1 _ _ _ h1 env P own fz Wt e8 σ _ A F s F₀ s₀ hA a X Y W) ?_ λw_ w_ z=>z.elim);rintro fl s' ⟨k,e',F',σ',a',q,f⟩;cases k with
   |next=>
    cases fl<;>first|exact f.elim|skip
    exact ih pre i2 h3 e' σ' F' s' a' f.1 f.2 q
   |cont=>
    cases fl<;>first|exact f.elim|skip
    exact hk .cont e' F' σ' s' a' q
   |ret v=>
    cases fl<;>first|exact f.elim|skip
    exact hk (.ret v) e' F' σ' s' a' q _ f
theorem E6:∀{xs:List Str} {sl:List Nat} {x:Str} {i:Nat},gf ns xs=some sl->x∈xs->cB ns x=some i->sl.contains i=true:=by
 intro xs
 induction xs with
 |nil=>intro sl x i _ h;cases h
 |cons y xs ih=>
  intro sl x i h hx hi;refine kB h λj sl' h1 h3 e=>?_;subst e;refine ao e9 ?_;rcases a9.mp hx with rfl|hx
  ·rw[h1]at hi;replace hi:=ac hi;subst hi;simp
  ·refine ao (ih h3 hx hi) ?_;rewrite[uL];with_reducible rfl
set_option tactic.hygienic true in
theorem H5{f:yb}(hf:GO C.prog=some f){vs:List V}(hl:vs.length=f.params.length)(W:wpSs C d [] f.pre (mX (bX f.size none) f.params vs) σ (JW C d f Q)):se C (d+1) "_law_ends" vs σ Q:=by
 have he: (("_law_ends","","_law_ends"):String×String×String)∈oI:=by decide+kernel
 refine GI hf λa ps sl x ha hk h1 hnd h3 hsp ht=>?_;clear hf;refine bJ (C.fns _ he) λa' ha' ff=>?_;have e:a=a':=ac (ha.symm.trans ha');subst e;clear ha';have hL:=C.lamEq a _ ha hsp;refine F6 ht λlps ipre ipost go caps hg1 hcel hlp h7 h9 hgo hcaps hng ef=>?_;clear ht;obtain⟨pre,y,L,post⟩:=x;dsimp only at hL hg1 hcel hlp h7 h9 hgo hcaps;subst hL ef;refine zt (Ck hsp) λpy ap hbody=>?_;refine nY (vP hg1) ?_;intro _ _ _ lnd _;refine Cz he ha hk h1 hnd h3 hl λA P F s s₁ env own fa oc od fd osl hA hg g2 ec eq es X bp eV Y Wt hc hp ho hne=>?_;obtain⟨t1,t2⟩:=C.tabFn _ _ _ _ _ hg g2;have hcode:env.code= .ref C.tabC:=ec.trans t1;have hq:env.qual++"<lambda>"=C.lam.qual:=by refine ao eq ?_;exact t2
 refine ao hbody ?_;refine Fc (K:=JW C d ⟨a.scope.names.length,sl,ipre,go,caps,ipost⟩ Q) Wt hA (λk e8 F' σ' s' a' q=>?_) 60 pre ipre h7 _ σ F s₁ bp eV Y W;cases k with
 |cont=>exact q.elim
 |ret v=>exact λx r=>⟨v,F',σ',a',r,q⟩
 |next=>
  intro X' Y';refine bJ q λws hw W2=>?_;clear q;have hfree:∀p∈C.lam.sc.names,p.2= .free->∃c,env.cells.lookup p.1=some c:=λp hp hf=>by
   obtain⟨i,e⟩:=hcel p.1 (q9.mpr (by refine dk hf ?_;exact hp));obtain⟨_,c,_,h,_⟩:=Y'.cel _ i _ e (.inl rfl);exact⟨c,h⟩
  obtain⟨n1,n2⟩:=DJ (env:=env) C.lam.sc.names [] hfree (λp hp=>by cases hp);rw[mA,be]at n1;have hcl:jC C.lam.sc env=dD (mw env C.lam.sc.names []):=jh hfree;generalize mw env C.lam.sc.names []=clos at n1 n2 hcl;refine d4 (FL Y' _ caps ws clos hcaps n1 n2 hcel hw) ?_;intro ys k1 k2 _;refine pc ?_;refine sn ?_ rfl rfl;refine Gn X' hcode hq Y'.glob hcl hlp λc' ctv pm cA tk aa fa' ga rec hc' lc hT hk=>?_;have spT:C.sp C.tabA:=(C.spEq _).mpr rfl;refine eX (X'.spx _ spT) ?_;intro nF nP _;have liv:∀b,own b->∃o,s'.heap.get? b=some o:=λb hb=>X'.pal b (.inr hb);have n_aa:∀b,own b->b≠aa:=λb hb e=>by obtain⟨o,h⟩:=liv b hb;rw[e,fa']at h;exact bx h
  have n_c:∀b,own b->b≠c':=λb hb e=>by
   rcases hc' with q|q
   ·obtain⟨o,h⟩:=liv b hb;rw[e,q]at h;exact bx h
   ·exact X'.fp c' q (.inr (e▸hb))
  have hS:∀b,(b=aa\/b=c'\/∃p∈clos,p.2=b)->(s'.heap.get? b=none\/own b\/F' b)/\∃o,cA.get? b=some o:=λb hb=>by
   rcases hb with rfl|rfl|⟨p,hp,rfl⟩
   ·exact⟨.inl fa',_,ga⟩
   ·exact⟨hc'.elim .inl λq=> .inr (.inr q),lc⟩
   ·have oo:=hc _ _ (n2 p hp)
    obtain⟨o,e⟩:=liv _ oo;exact⟨.inr (.inl oo),o,hk _ (λq=>nP (.inr (q▸oo))) o e⟩
  have nloc:¬(env.locals=aa\/env.locals=c'\/∃p∈clos,p.2=env.locals):=λq=>by
   rcases q with q|q|⟨p,hp,q⟩
   ·exact n_aa _ ho q
   ·exact n_c _ ho q
   ·exact hne _ _ (n2 p hp) q
  refine eX (JG (S:=λb=>b=aa\/b=c'\/∃p∈clos,p.2=b) X' Y' Wt.np hk hS (.inr ⟨c',.inr (.inr (.inl rfl)),hT,rec⟩) nloc) λiD l6 nz=>?_;have Wt':Wr env a.scope.names caps P λb=>own b/\¬(b=aa\/b=c'\/∃p∈clos,p.2=b):=by
   refine⟨⟨ho,nloc⟩,λx i c e hz hcx=>?_,λx i e=>absurd (Wt.fre x i e) (by exact nofun),λb q=>Wt.np b q.1⟩;obtain⟨oc,kc⟩:=Wt.cel x i c e (by exact rfl) hcx;refine⟨⟨oc,λq=>?_⟩,kc⟩;rcases q with q|q|⟨p,hp,q⟩
   ·exact n_aa _ oc q
   ·exact n_c _ oc q
   ·have h13:=n2 p hp
    rw[q]at h13;have h14:=Y'.apart _ _ _ h13 hcx;have h15:x∈eO C.lam.sc.names:=by refine dk n1 (dk h14 ?_);exact bG.mpr ⟨p,hp,rfl⟩
    have h16:=E6 hcaps h15 (i:=i) (congrArg (eJ · M6) e);rw[h16]at hz;exact Ig hz
  have pw:clos.Pairwise λx y=>x.2≠y.2:=by
   have nd: (clos.map (·.1)).Nodup:=by refine ao n1 ?_;exact lnd
   have nd':clos.Pairwise λx y=>x.1≠y.1:=nQ.mp nd;refine nd'.imp_of_mem λ{x y} hx hy hxy e=>hxy ?_;have q1:=n2 x hx;have q2:=n2 y hy;rw[e]at q1;exact Y'.apart _ _ _ q1 q2
  have rclo:R C (λb=>F' b\/(b=aa\/b=c'\/∃p∈clos,p.2=b)) cA (.clo ws) (.ref aa):=by
   refine⟨aa,clos.map (·.2),ys,rfl,.inr (.inl rfl),?_,?_,k2.mono nz⟩
   ·refine ao C.cloEq ?_
    exact⟨clos,⟨c',ctv,pm,.inr (.inl rfl),.inr (.inr (.inl rfl)),ga,rec⟩,rfl,n1,pw⟩
   ·have hcl2:=k1 (λb=>F' b\/(b=aa\/b=c'\/∃p∈clos,p.2=b)) (λw_=> .inl) λp hp=> .inr (.inr (.inr ⟨p,hp,rfl⟩))
    have go:∀(l:List (Str×aY)) (zs:List aD),(∀p∈l,p∈clos)->hJ (λb=>F' b\/(b=aa\/b=c'\/∃p∈clos,p.2=b)) s'.heap (l.map (·.2)) zs->hJ (λb=>F' b\/(b=aa\/b=c'\/∃p∈clos,p.2=b)) cA (l.map (·.2)) zs:=by
     intro l
     induction l with
     |nil=>intro zs _ h;cases zs with
      |nil=>trivial
      |cons _ _=>exact h.elim
     |cons p l ih=>intro zs hm h;cases zs with
      |nil=>exact h.elim
      |cons z zs=>
       refine eX h λq1 q2 q3=>?_;clear h;have oo:=hc _ _ (n2 p (hm p (.head _)));exact⟨q1,mH q2 (hk _ λq=>nP (.inr (q▸oo))),ih zs (λp hp=>hm p (.tail _ hp)) q3⟩
    exact go clos ys (λp hp=>hp) hcl2
  have b8:Aft C P F' s' (λb=>F' b\/(b=aa\/b=c'\/∃p∈clos,p.2=b)) σ' {s' with heap:=cA,toks:=tk}:=⟨⟨cA,tk,rfl⟩,nz,λb p o e=>hk b (λq=>nP (.inl (q▸p))) o e,iD.sub gQ⟩;show wpAny _ A (assign (.Name y py) env (.ref aa)) _ _ _;refine eB (jJ (s:={s' with heap:=cA,toks:=tk}) (fz:=caps) Wt' iD l6 hgo hng rclo λjH Mv tH tE dS Ir=>?_);refine b0 ((AP (C:=C) d 60).2 _ _ _ h9 env P _ caps Wt' _ σ' _ A _ {s' with heap:=jH,toks:=Mv} F s hA ((a'.trans b8).trans dS) tH tE W2) ?_ λw_ w_ z=>z.elim;rintro fl g9 ⟨k,e',tG,qs,mD,q,f⟩;cases k with
  |next=>
   cases fl<;>first|exact f.elim|skip
   exact⟨.none,tG,qs,mD,rfl,q⟩
  |cont=>exact q.elim
  |ret v=>
   cases fl<;>first|exact f.elim|skip
   exact⟨v,tG,qs,mD,f,q⟩
open PySem PySem.W PySem.Calls PyProof.Rows PySem.SeqAt
theorem D5:∀{ns:List Int} {xs:List aD},RL C F h (ns.map V.int) xs->xx xs ns
 |[],[]=>λw_=> .nil
 |[],_::_=>λr=>r.elim
 |_::_,[]=>λr=>r.elim
 |n::ns,x::xs=>λr=>by
  obtain⟨⟨t,rfl⟩,r2⟩:=(show R C F h (.int n) x/\RL C F h (ns.map V.int) xs from r);exact .cons n t (D5 r2)
theorem EU:∀{ns:List Str} {xs:List aD},RL C F h (ns.map V.str) xs->StrsAre xs ns
 |[],[]=>λw_=> .nil
 |[],_::_=>λr=>r.elim
 |_::_,[]=>λr=>r.elim
 |n::ns,x::xs=>λr=>by
  obtain⟨⟨t,rfl⟩,r2⟩:=(show R C F h (.str n) x/\RL C F h (ns.map V.str) xs from r);exact .cons n t (EU r2)
theorem LA{v:V}{y:Str}{ys:List Str}(hv:d7 σ v=some (ys.map V.str))(hok: (ys.map (·.length)).sum+ys.length*y.length<=16777216)(q:Q (.str (CX y ys)) σ):c9 C d "str.join" [.str y,v] σ Q:=by
 intro A P F s fv xs hA X hg rr;cases bi (v:= .builtin "str.join") (by decide+kernel) hg;clear hg;refine cr (I5 rr) ?_;rintro x z rfl ⟨t,rfl⟩ rz;clear rr;obtain⟨a,xs,rfl,hl,rs,_⟩:=di hv X rz;exact join_list hl.isList (EU rs) hok λt' k=>⟨.str (CX y ys),F,σ,d1 X k,⟨t',rfl⟩,q⟩
theorem JM{v:V}{n:Int}{ns:List Int}(hv:d7 σ v=some (ns.map V.int))(hn:n∈ns)(hl:ns.length<=16777216)(q:Q (.int (ns.idxOf n:Nat)) σ):c9 C d "list.index" [v,.int n] σ Q:=by
 intro A P F s fv xs hA X hg rr;cases bi (v:= .builtin "list.index") (by decide+kernel) hg;clear hg;refine cr (I5 rr) ?_;rintro x z rfl rz ⟨t,rfl⟩;clear rr;obtain⟨a,xs,rfl,hll,rs,_⟩:=di hv X rz;have hi:=D5 rs;obtain⟨⟨cls,dd,data,sl⟩,ho,hc,m,hd⟩:=hll.isList;simp only at hc hd;subst hc hd;have hlen:=hi.length;have hj:ns.idxOf n<ns.length:=List.idxOf_lt_length_iff.mpr hn;refine tz PySem.F.slot_list_index ⟨_,ho,rfl⟩ PySem.F.entry_list_index (PySem.F.args_list_index_2 _ _)
  (list_indexAt a xs.toArray m dd sl (.int n t) (isInt n) (ns.idxOf n) (by simpa[hlen]using hj) (by lia) ?_ ?_) ⟨ho,λy hy=>(eq_isInt n t hi y (by simpa using hy)).at _ _,?_⟩
 ·show isInt n xs[ns.idxOf n]=true
  refine ao (isInt_at n hi _ (by exact b9 (nat_lit 0x58a450ac5208403) rfl hlen hj) hj) ?_;simpa using jE hj
 ·intro j hjs hlt
  show isInt n xs[j]=false;refine ao (isInt_at n hi j (by exact hjs) (by exact b9 (nat_lit 0x5629140b1482158241) rfl hj hlt)) ?_;exact ne_of_lt_idxOf hlt _
 ·exact⟨.int (ns.idxOf n:Nat),F,σ,d1 X _,⟨_,rfl⟩,q⟩
noncomputable def nB(p q:Int×Int):Bool:=if p.1==q.1 then decide (p.2<q.2)else decide (p.1<q.1)
noncomputable def T2(h:cx)(x:aY)(p:Int×Int):Prop:=∃o t u n,h.get? x=some o/\o.cls= .type "tuple"/\o.data= .seq #[.int p.1 t,.int p.2 u] n
theorem OA:kas_sort 2= .ask 1 0 λc=> .ret (if c then #[1,0]else #[0,1]):=by
 show KasT.ask 1 0 _=_;congr 1;funext c;cases c<;>rfl
section
variable{E:aD->aU->Prop}
theorem Ox{x y:aY}{p q:Int×Int}{Q:Bool->aU->Prop}(hx:T2 s.heap x p)(hy:T2 s.heap y q)(h:Q (nB p q) s):wpAny (bI C.prog C.w) A (keyLt' (tuples' true) (.ref x) (.ref y)) Q E s:=by
 refine lj hx λo t u n h1 h2 h3=>?_;clear hx;refine lj hy λo' t' u' n' h1' h2' h3'=>?_;clear hy;unfold nB at h;refine kat_lt h1 h3 h1' h3' ?_;show KatLex _ _ _ _ _ _ [(.int p.1 t,.int q.1 t'),(.int p.2 u,.int q.2 u')] 0 s;refine kat_cons (vB (kat_go (λe=>kat_yes (kat_cons (vB (kat_go (λe'=>kat_yes (kat_nil ?_)) λe'=>kat_no ?_)))) λe=>kat_no ?_))
 ·rw[if_pos e]at h
  have:p.2=q.2:=by exact of_decide_eq_true (e')
  rw[this]at h;simpa using h
 ·rw[if_pos e]at h
  exact kat_one _ _ (PySem.P.lt_int (show PySem.W.BoolBack Q (.bool (decide (p.2<q.2))) s from h))
 ·rw[if_neg (by refine ao e ?_;decide)]at h
  exact oneLt_int h
theorem T2.keep{h h':cx}{x:aY}{p:Int×Int}(H:T2 h x p)(k:∀o,h.get? x=some o->h'.get? x=some o):T2 h' x p:=
 lj H λo t u n h1 h2 h3=>⟨o,t,u,n,k o h1,h2,h3⟩
theorem L8{x y:aY}{p q:Int×Int}{Q:SortKind->aU->Prop}(hx:T2 s.heap x p)(hy:T2 s.heap y q)(h:Q (tuples' true) s):wpAny (bI C.prog C.w) A (keyKind' #[.ref x,.ref y]) Q E s:=by
 refine lj hx λo t u n h1 h2 h3=>?_;clear hx;refine lj hy λo' t' u' n' h1' h2' h3'=>?_;clear hy;refine kat_kind (vs:=[.ref x,.ref y]) (fs:=[.int p.1 t,.int q.1 t']) (T:= .type "int") (.cons h1 h2 h3 rfl (.cons h1' h2' h3' rfl .nil)) (by exact aj rfl) (λv hv=>?_) (by decide) h;simp at hv;rcases hv with rfl|rfl<;>exact .now
theorem BN{a:aY}{vs:List aD}{n:Nat}{P:PySem.Fin->aU->Prop}(ho:s.heap.get? a=some (fU "list" vs.toArray n))
  (hv:vs.length<2/\P (.done (.ret .none)) {s with heap:=yT s.heap a vs vs.toArray}\/
   ∃x y p q,vs=[.ref x,.ref y]/\x≠a/\y≠a/\T2 s.heap x p/\T2 s.heap y q/\P (.done (.ret .none)) {s with heap:=yT s.heap a vs (if nB q p then #[.ref y,.ref x]else #[.ref x,.ref y])}):
  wpAny (bI C.prog C.w) A (Builtin.«list.sort» ⟨[.ref a],[]⟩) P E s:=by
 rw[list_sort_plain];have h64:vs.length<64:=by
  rcases hv with⟨h,_⟩|⟨x,y,p,q,rfl,_⟩
  ·exact ci (nat_lit 0x1026b048ac58241) rfl h
  ·exact aj rfl
 have ha:a<s.heap.objs.size:=bY ho;refine aB (listItems_at ho rfl ?_);refine aB (sR ho rfl ?_ (by refine ao bB (ao ly ?_);exact ci (nat_lit 0x62c02881358241) rfl h64) (bg _));obtain⟨e1,ho1⟩:∃e1,(s.heap.update a (dY λw_=> #[])).get? a=some (fU "list" #[] e1):=⟨_,qk ho (λw_=> #[])⟩;refine aB (wh ho1 rfl ?_);refine aB (wpAny_newTuple ?_ (by show vs.length<=_;refine ao ly ?_;exact ci (nat_lit 0x62c02881358241) rfl h64));refine aB (ji ?_ (bg _));refine bP ?_;have keep:∀b,b≠a->∀o,s.heap.get? b=some o->(((s.heap.update a (dY λw_=> #[])).push (fU "tuple" vs.toArray 0)).push (fU "list" #[] 0)).get? b=some o:=λb hb o e=>by
  have hlt:=bY e;refine ao (gu _ _ _ (by rw[pW,iW];exact ce (cM hlt))) (ao (gu _ _ _ (by rw[iW];exact ce hlt)) (ao (sr _ _ _ _ hb) ?_));exact e
 have ho6: (((s.heap.update a (dY λw_=> #[])).push (fU "tuple" vs.toArray 0)).push (fU "list" #[] 0)).get? a=some (fU "list" #[] e1):=by
  refine ao (gu _ _ _ (by rw[pW,iW];exact ce (cM ha))) (ao (gu _ _ _ (by rw[iW];exact ce ha)) ?_);exact ho1
 show wpAny (bI C.prog C.w) A _ P E {s with heap:=((s.heap.update a (dY λw_=> #[])).push (fU "tuple" vs.toArray 0)).push (fU "list" #[] 0)};dsimp only;have hsz:vs.toArray.size=vs.length:=by exact rfl
 rcases hv with⟨h2,fin⟩|⟨x,y,p,q,rfl,xa,ya,hx,hy,fin⟩
 ·refine ao (if_pos (by refine ao hsz ?_;exact h2)) (ao (if_pos (by refine ao hsz ?_;exact h2)) ?_)
  refine aB (bc ?_);rw[StateT.run_pure];refine aB (bc ?_);dsimp only;have e: (arrOf (SortSt.mk' general' (vs.toArray.zip vs.toArray) #[] 7 none)).map (·.2)=vs.toArray:=by
   show(vs.toArray.zip vs.toArray).map (·.2)=vs.toArray;simp;exact List.map_snd_zip (aG _)
  refine ao e ?_;refine aB (wh ho6 rfl ?_);refine aB (sR ho6 rfl ?_ (bg _) (by refine ao hsz (ao ly ?_);exact ci (nat_lit 0x160c5a402881358241) rfl h64));simp only[bne_self_eq_false,nh,if_false];exact bc fin
 ·have hn2:¬([.ref x,.ref y]:List aD).toArray.size<2:=by exact nofun
  refine ao (if_neg hn2) (ao (if_neg hn2) ?_);have hx6:=hx.keep (keep x xa);have hy6:=hy.keep (keep y ya);refine aB (L8 (s:={s with heap:=_}) hx6 hy6 ?_);refine aB (b0 (kat_run (vs:=[.ref x,.ref y]) (ks:=[.ref x,.ref y]) (Q:=λst' s'=>s'={s with heap:=((s.heap.update a (dY λw_=> #[])).push (fU "tuple" [.ref x,.ref y].toArray 0)).push (fU "list" #[] 0)}/\(arrOf st').map (·.2)=(if nB q p then #[.ref y,.ref x]else #[.ref x,.ref y])/\failedOf st'=none)
   (G:=λpp s'=>s'={s with heap:=((s.heap.update a (dY λw_=> #[])).push (fU "tuple" [.ref x,.ref y].toArray 0)).push (fU "list" #[] 0)}/\pp=if nB q p then #[1,0]else #[0,1])
   rfl (by exact aG _) (by exact aj rfl) (λpp st' s' a1 a2 a3 a4=>⟨a4.1,?_,a3⟩) ?_) ?_ λw_ w_ e=>e)
  ·refine ao (kat_snds rfl a2) (ao (a4.2) ?_)
   cases nB q p<;>rfl
  ·show(kas_sort 2).kasWp _ _ _
   refine ao OA ?_;refine Ox (s:={s with heap:=_}) hy6 hx6 ?_;exact⟨rfl,rfl⟩
  ·rintro⟨⟨⟩,st'⟩ s' ⟨rfl,hout,hf⟩
   dsimp only;refine ao hout (ao hf ?_);refine aB (wh ho6 rfl ?_);have hs: (if nB q p then(#[.ref y,.ref x]:Array aD)else #[.ref x,.ref y]).size=2:=by cases nB q p<;>rfl
   refine aB (sR ho6 rfl ?_ (bg _) (a8 (my hs) (by refine ao ly ?_;exact Oz (nat_lit 0x2c18b4985) rfl)));simp only[bne_self_eq_false,nh,if_false];exact bc fin
theorem yr{l:aY}{vs:List aD}{Q:aD->aU->Prop}(hl:s.heap.IsList l vs.toArray)
  (hv:vs.length<2\/∃x y p q,vs=[.ref x,.ref y]/\T2 s.heap x p/\T2 s.heap y q)
  (h:∀h' D out,(∀b o,s.heap.get? b=some o->h'.get? b=some o)->s.heap.get? D=none->h'.PlainList D (bu out)->
   ((vs.length<2/\out=vs)\/∃x y p q,vs=[.ref x,.ref y]/\T2 s.heap x p/\T2 s.heap y q/\out=if nB q p then[.ref y,.ref x]else[.ref x,.ref y])->Q (.ref D) {s with heap:=h'}):
  wpAny (bI C.prog C.w) A (call (.builtin "sorted") [.ref l]) Q E s:=by
 have h64:vs.length<64:=by
  rcases hv with h|⟨x,y,p,q,rfl,_⟩
  ·exact ci (nat_lit 0x1026b048ac58241) rfl h
  ·exact aj rfl
 refine Calls.call_function_entry kind_sorted plain_sorted entry_sorted (args_sorted1 _) ?_;unfold Builtin.«sorted»;refine aB (m:=checkCount "sorted" 1 1 _) (bc ?_);refine aB (collect_list hl ?_ (by refine ao ly ?_;exact ci (nat_lit 0x62c02881358241) rfl h64));refine aB (ji ?_ (by refine ao ly ?_;exact ci (nat_lit 0x62c02881358241) rfl h64));have hsz: ((s.heap.push (fU "list" #[] 0)).update s.heap.objs.size (dY (·++vs.toArray))).objs.size=s.heap.objs.size+1:=by
  rw[iW,pW]
 have hoL: (((s.heap.push (fU "list" #[] 0)).update s.heap.objs.size (dY (·++vs.toArray))).push (fU "list" vs.toArray 0)).get? (s.heap.objs.size+1)=some (fU "list" vs.toArray 0):=by
  refine dk hsz ?_;exact bk _ rfl
 have keep:∀b o,s.heap.get? b=some o->(((s.heap.push (fU "list" #[] 0)).update s.heap.objs.size (dY (·++vs.toArray))).push (fU "list" vs.toArray 0)).get? b=some o:=λb o q=>by
  have hlt:b<s.heap.objs.size:=bY q;refine ao (gu _ _ _ (by refine ao hsz ?_;exact ce (cM hlt))) (ao (sr _ _ _ _ (ce hlt)) (ao (gu _ _ _ (ce hlt)) ?_));exact q
 have fresh:s.heap.get? (s.heap.objs.size+1)=none:=by
  cases q:s.heap.get? (s.heap.objs.size+1)with
  |none=>rfl
  |some o=>exact absurd (bY q) (iM.mpr (dI _))
 show wpAny _ _ _ _ _ {s with heap:=((s.heap.push (fU "list" #[] 0)).update s.heap.objs.size (dY (·++vs.toArray))).push (fU "list" vs.toArray 0)};refine ao hsz ?_;have fin:∀out:List aD,((vs.length<2/\out=vs)\/∃x y p q,vs=[.ref x,.ref y]/\T2 s.heap x p/\T2 s.heap y q/\out=if nB q p then[.ref y,.ref x]else[.ref x,.ref y])->
   Q (.ref (s.heap.objs.size+1)) {s with heap:=yT (((s.heap.push (fU "list" #[] 0)).update s.heap.objs.size (dY (·++vs.toArray))).push (fU "list" vs.toArray 0)) (s.heap.objs.size+1) vs out.toArray}:=λout ho=>by
  refine h _ _ out (λb o e=>?_) fresh ?_ ho
  ·have e1:=keep b o e
   have hlt:=bY e;refine ao (sortedHeap_old (ce (cM hlt)) (by rewrite[pW];refine ao hsz ?_;exact cM (cM hlt))) ?_;exact e1
  ·obtain⟨e,he⟩:=sortedHeap_at (out:=out.toArray) hoL
   exact⟨e,by exact ao he rfl⟩
 refine aB (bP (vx slot_list_sort ⟨_,hoL,rfl⟩ entry_list_sort (BN hoL ?_) (args_list_sort _)));rcases hv with h2|⟨x,y,p,q,rfl,hx,hy⟩
 ·exact .inl ⟨h2,_,rfl,bc ⟨_,rfl,fin vs (.inl ⟨h2,rfl⟩)⟩⟩
 ·refine .inr ⟨x,y,p,q,rfl,?_,?_,hx.keep (keep x),hy.keep (keep y),_,rfl,bc ⟨_,rfl,?_⟩⟩
  ·rintro rfl;refine D7 hx ?_;clear hx;intro o _ _ _ e _;rw[fresh]at e;clear a;exact bx e
  ·rintro rfl;refine D7 hy ?_;clear hy;intro o _ _ _ e _;rw[fresh]at e;clear a;exact bx e
  ·have:=fin _ (.inr ⟨x,y,p,q,rfl,hx,hy,rfl⟩)
   cases hc:nB q p<;>(rw[hc]at this;exact this)
noncomputable def oH(p:Int×Int):V:= .tup [.int p.1,.int p.2]
noncomputable def Ko:List (Int×Int)->List (Int×Int)
 |[p,q]=>if nB q p then[q,p]else[p,q]
 |ps=>ps
end
theorem NK{p:Int×Int}{x:aD}(r:R C F h (oH p) x):∃a,x= .ref a/\T2 h a p:=by
 obtain⟨a,xs,rfl,_,ht,rr,_⟩:=r;clear z;refine cr (I5 rr) ?_;rintro x y rfl ⟨t,rfl⟩ ⟨u,rfl⟩;obtain⟨o,ho,hc,n,hd⟩:=ht;exact⟨a,rfl,o,t,u,n,ho,hc,hd⟩
theorem F0{v:V}{ps:List (Int×Int)}(hv:d7 σ v=some (ps.map oH))(h2:ps.length<=2)(hw:jU ((Ko ps).map oH) σ Q):c9 C d "sorted" [v] σ Q:=by
 intro A P F s fv xs hA X hg rr;cases bi (v:= .builtin "sorted") (by decide+kernel) hg;clear hg;refine bJ (Ev rr) ?_;rintro x rfl r;clear rr;obtain⟨a,ys,rfl,hl,rs,_⟩:=di hv X r;have hlen:=rs.length;rw[ai]at hlen
 match ps,h2,hv,hw,rs,hlen with
 |[],_,_,hw,rs,hlen=>
  have:ys=[]:=co.mp hlen.symm;clear hlen;clear hlen;subst this;refine yr hl.isList (.inl (by exact aj rfl)) λh' D out kk hD hp ho=>?_;rcases ho with⟨_,rfl⟩|⟨_,_,_,_,e,_⟩
  ·exact fQ (t:=s.toks) hw X rs hD kk hp
  ·cases e
 |[p],_,_,hw,rs,hlen=>
  refine yr hl.isList (.inl (by refine dk hlen ?_;exact aG _)) λh' D out kk hD hp ho=>?_;rcases ho with⟨_,rfl⟩|⟨_,_,_,_,rfl,_⟩
  ·exact fQ (t:=s.toks) hw X rs hD kk hp
  ·simp at hlen
 |[p,q],_,_,hw,rs,hlen=>
  clear z hlen r h2 hv;clear hlen;refine cr (I5 rs) ?_;rintro x y rfl rx ry;refine bJ (NK rx) ?_;rintro a rfl hx;refine bJ (NK ry) ?_;rintro b rfl hy;refine yr hl.isList (.inr ⟨a,b,p,q,rfl,hx,hy⟩) λh' D out kk hD hp ho=>?_;have un:∀{x:aY} {p p':Int×Int},T2 s.heap x p->T2 s.heap x p'->p=p':=by
   rintro x ⟨p1,p2⟩ ⟨q1,q2⟩ ⟨o,t,u,n,h1,_,h3⟩ ⟨o',t',u',n',h1',_,h3'⟩;rw[h1]at h1';replace h1':=ac h1';subst h1';rw[h3]at h3';simp at h3';rw[zC];exact⟨h3'.1.1.1,h3'.1.2.1⟩
  rcases ho with⟨h,_⟩|⟨a',b',p',q',e,hx',hy',rfl⟩
  ·simp at h
  ·cases e
   cases un hx hx';cases un hy hy';have hw':jU ((if nB q p then[q,p]else[p,q]).map oH) σ Q:=hw;cases hc:nB q p with
   |true=>
    rw[hc]at hw' hp;exact fQ (xs:=[.ref b,.ref a]) (t:=s.toks) hw' X (show RL C F s.heap [oH q,oH p] [.ref b,.ref a]from⟨ry,rx,trivial⟩) hD kk hp
   |false=>
    rw[hc]at hw' hp;exact fQ (t:=s.toks) hw' X rs hD kk hp
 |_::_::_::_,h2,_,_,_,_=>simp at h2
end
mutual
noncomputable def Dp(fZ σ:AH):V->V->Prop
 |v,.list us=>v= .list us\/(∃a vs,v= .ref a/\fZ a=none/\σ a=some (.list vs)/\tI fZ σ vs us)
 |v,.tup us=>v= .tup us\/(∃vs,v= .tup vs/\tI fZ σ vs us)
 |v,.dict ks us=>v= .dict ks us\/(∃a vs,v= .ref a/\fZ a=none/\σ a=some (.dict ks vs)/\tI fZ σ vs us)
 |v,.inst c ns us=>v= .inst c ns us\/(∃a d vs,v= .ref a/\fZ a=none/\fZ d=none/\σ a=some (.inst c d ns vs)/\tI fZ σ vs us)
 |v,u=>v=u
termination_by structural _ u=>u
noncomputable def tI(fZ σ:AH):List V->List V->Prop
 |vs,[]=>vs=[]
 |vs,u::us=>∃v vs',vs=v::vs'/\Dp fZ σ v u/\tI fZ σ vs' us
termination_by structural _ us=>us
end
theorem Dp.refl{fZ σ:AH}:∀{v:V},Dp fZ σ v v:=λ{v}=>by cases v<;>first|exact .inl rfl|exact rfl
theorem tI.refl{fZ σ:AH}:∀{vs:List V},tI fZ σ vs vs
 |[]=>rfl
 |v::vs=>⟨v,vs,rfl,Dp.refl,tI.refl⟩
section
variable{C:Cx}{P F:dQ}{σ fZ:AH}{s:aU}{d:Nat}{h:cx}
noncomputable def K5(fZ σ:AH)(a:aY):Prop:=fZ a=none/\∃m,σ a=some m
theorem tI.length:∀{vs us:List V},tI fZ σ vs us->vs.length=us.length
 |_,[],e=>by exact ao (show _=[]from e) rfl
 |_,_::_,⟨_,_,e,_,r⟩=>by exact ao e (ao bv (ao bv (ao (tI.length r) rfl)))
mutual
theorem Dp.sound(X:cN C P F σ h):∀(u:V) (v:V) (x:aD),R C F h v x->Dp fZ σ v u->R C (λa=>F a\/K5 fZ σ a) h u x
 | .list us=>λv x r e=>by
  have E:gX F h (λa=>F a\/K5 fZ σ a) h:=⟨λw_ z=> .inl z,d3.refl _ _⟩;rcases e with rfl|⟨a,vs,rfl,e1,e2,e3⟩
  ·exact R.mono E r
  ·clear E;cases r
   obtain⟨_,_,_,xs,l,rr,z⟩:=X.obj a _ e2;exact⟨a,xs,rfl,.inr ⟨e1,_,e2⟩,l,tI.sound X us vs xs rr e3,e3.length▸z⟩
 | .tup us=>λv x r e=>by
  have E:gX F h (λa=>F a\/K5 fZ σ a) h:=⟨λw_ z=> .inl z,d3.refl _ _⟩;rcases e with rfl|⟨vs,rfl,e3⟩
  ·exact R.mono E r
  ·obtain⟨a,xs,q,f,t,rr,z⟩:=r
   exact⟨a,xs,q,.inl f,t,tI.sound X us vs xs rr e3,e3.length▸z⟩
 | .dict ks us=>λv x r e=>by
  have E:gX F h (λa=>F a\/K5 fZ σ a) h:=⟨λw_ z=> .inl z,d3.refl _ _⟩;rcases e with rfl|⟨a,vs,rfl,e1,e2,e3⟩
  ·exact R.mono E r
  ·clear E;cases r
   obtain⟨_,_,_,xs,l,hl,rr,z⟩:=X.obj a _ e2;exact⟨a,xs,rfl,.inr ⟨e1,_,e2⟩,l,hl,tI.sound X us vs xs rr e3,z⟩
 | .inst c ns us=>λv x r e=>by
  have E:gX F h (λa=>F a\/K5 fZ σ a) h:=⟨λw_ z=> .inl z,d3.refl _ _⟩;rcases e with rfl|⟨a,dd,vs,rfl,e1,e1',e2,e3⟩
  ·exact R.mono E r
  ·clear E;cases r
   obtain⟨_,_,_,K,es,n,xs,g,o1,o2,en,rr,sd⟩:=X.obj a _ e2;exact⟨a,K,dd,es,n,xs,rfl,g,.inr ⟨e1,_,e2⟩,.inr ⟨e1',_,sd⟩,o1,o2,en,tI.sound X us vs xs rr e3⟩
 | .none=>λv x r e=>by cases(show v=_ from e);exact r
 | .bool _=>λv x r e=>by cases(show v=_ from e);exact r
 | .int _=>λv x r e=>by cases(show v=_ from e);exact r
 | .str _=>λv x r e=>by cases(show v=_ from e);exact r
 | .glob _=>λv x r e=>by cases(show v=_ from e);exact r
 | .ref _=>λv x r e=>by cases(show v=_ from e);exact r
 | .arg vs=>λv x r e=>by cases(show v=_ from e);exact R.mono ⟨λw_ z=> .inl z,d3.refl _ _⟩ r
 | .range _ _=>λv x r e=>by cases(show v=_ from e);exact R.mono ⟨λw_ z=> .inl z,d3.refl _ _⟩ r
 | .clo vs=>λv x r e=>by cases(show v=_ from e);exact R.mono ⟨λw_ z=> .inl z,d3.refl _ _⟩ r
theorem tI.sound(X:cN C P F σ h):∀(us:List V) (vs:List V) (xs:List aD),RL C F h vs xs->tI fZ σ vs us->RL C (λa=>F a\/K5 fZ σ a) h us xs
 |[]=>λvs xs r e=>by
  cases(show vs=[]from e);cases xs with
  |nil=>trivial
  |cons _ _=>exact r.elim
 |u::us=>λvs xs r e=>by
  refine cr e ?_;clear e;rintro v vs' rfl e1 e2;cases xs with
  |nil=>exact r.elim
  |cons x xs=>exact⟨Dp.sound X u v x r.1 e1,tI.sound X us vs' xs r.2 e2⟩
end
noncomputable def Sub(σ σ':AH):Prop:=∀a m,σ a=some m->σ' a=some m
theorem Sub.refl{σ:AH}:Sub σ σ:=λw_ w_ h=>h
theorem Sub.set{σ σ':AH}(h:Sub σ σ'){a:aY}(ha:σ a=none)(m:fM):Sub σ (σ'.set a m):=λb n e=>by
 rw[ay]
 ·exact h b n e
 ·rintro rfl;rw[ha]at e;exact bx e
theorem Tri.seal{A:lY}{t:uU aD}{Q:V->AH->Prop}(X:cN C P F σ s.heap)(T:Tri C A P F t (λv σ'=>∃u,Sub σ σ'/\Dp σ σ' v u/\Q u σ) s):Tri C A P F t Q s:=by
 refine T.use ?_;rintro v x F' σ' s' a r ⟨u,hs,hd,q⟩;have Y:=a.rep;have r':=Dp.sound Y u v x r hd;have Z:cN C P (λa=>F' a\/K5 σ σ' a) σ s'.heap:={
  base:=λb o e=>⟨.inl (Y.base b o e).1,(Y.base b o e).2⟩
  fp:=λb z=>z.elim (Y.fp b) λ⟨_,m,e⟩=>(Y.obj b m e).nP
  fal:=λb z=>z.elim (Y.fal b) λ⟨_,m,e⟩=>(Y.obj b m e).ro.live
  pal:=Y.pal
  obj:=λb m e=>by
   obtain⟨p,q,r,z⟩:=Y.obj b m (hs b m e);refine⟨λw=>w.elim p λw=>(by rw[w.1]at e;exact bx e),q,r,z.mono ⟨λw_ w=> .inl w,d3.refl _ _⟩ (λw_ w=>w) λc d ns vs em w_=>⟨?_,λw_ w=>w⟩⟩;clear z;subst em;obtain⟨_,_,_,_,_,_,_,_,_,_,_,_,sd⟩:=X.obj b _ e;exact sd
  spx:=λb z=>let⟨p,q,r⟩:=Y.spx b z;⟨λw=>w.elim p λ⟨_,m,e⟩=>(Y.obj b m e).nS z,q,r⟩
  inv:=C.invKeep _ _ _ _ Y.inv (λw_ w=> .inl w) λw_ w_ w_ e=>e}
 exact⟨u,_,σ,⟨a.rest,⟨λb z=> .inl (a.ext.sub b z),a.ext.keep⟩,a.keep,Z⟩,r',q⟩
theorem c9.seal{f:String}{vs:List V}{Q:V->AH->Prop}(T:c9 C d f vs σ (λv σ'=>∃u,Sub σ σ'/\Dp σ σ' v u/\Q u σ)):c9 C d f vs σ Q:=
 λA P F s fv xs hA X hg rr=>(T A P F s fv xs hA X hg rr).seal X
end
section
set_option genCtorIdx true
noncomputable abbrev Wd:=List Nat
noncomputable abbrev Lg:=Wd->Prop
inductive Rx where
 |chars (s:List (Nat×Nat))
 |empty
 |never
 |cat (a b:Rx)
 |alt (a b:Rx)
 |star (a:Rx)
 |plus (a:Rx)
 |opt (a:Rx)
 |rep (a:Rx) (lo:Nat) (hi:Option Nat)
noncomputable def qC(s:List (Nat×Nat))(c:Nat):Bool:=s.any λp=>decide (p.1<=c) && decide (c<=p.2)
noncomputable def dp(A B:Lg):Lg:=λw=>∃u v,w=u++v/\A u/\B v
inductive bQ(A:Lg):Lg
 |nil:bQ A []
 |app {u v:Wd}:A u->bQ A v->bQ A (u++v)
noncomputable def fg(A:Lg):Nat->Lg
 |0=>λw=>w=[]
 |n+1=>dp A (fg A n)
noncomputable def dP(p:List (Nat×Nat)->Nat->Bool):Rx->Lg
 | .chars s=>λw=>∃c,w=[c]/\p s c=true
 | .empty=>λw=>w=[]
 | .never=>λw_=>False
 | .cat a b=>dp (dP p a) (dP p b)
 | .alt a b=>λw=>dP p a w\/dP p b w
 | .star a=>bQ (dP p a)
 | .plus a=>dp (dP p a) (bQ (dP p a))
 | .opt a=>λw=>w=[]\/dP p a w
 | .rep a lo none=>dp (fg (dP p a) lo) (bQ (dP p a))
 | .rep a lo (some hi)=>λw=>∃n,lo<=n/\n<=hi/\fg (dP p a) n w
noncomputable abbrev fJ:Rx->Lg:=dP qC
section
variable{A B C X:Lg}{w u v:Wd}
theorem dp.mk(a:A u)(b:B v):dp A B (u++v):=⟨u,v,rfl,a,b⟩
theorem dp.mono{A' B':Lg}(ha:∀w,A w->A' w)(hb:∀w,B w->B' w)(h:dp A B w):dp A' B' w:=
 let⟨u,v,e,a,b⟩:=h;⟨u,v,e,ha _ a,hb _ b⟩
theorem m6:dp (dp A B) C w↔dp A (dp B C) w:=
 by
 constructor
 ·intro h;refine cr h ?_;clear h;intro _ c e h hc;refine cr h λa b e' ha hb=>?_;clear h
  exact⟨a,b++c,by refine ao e ?_;refine ao e' ?_;rewrite[aJ];with_reducible rfl,ha,dp.mk hb hc⟩
 ·intro h;refine cr h ?_;clear h;intro a _ e ha h;refine cr h λb c e' hb hc=>?_;clear h
  exact⟨a++b,c,by refine ao e ?_;refine ao e' ?_;rewrite[aJ];with_reducible rfl,dp.mk ha hb,hc⟩
theorem om:dp (λw=>w=[]) A w↔A w:=⟨λ⟨_,_,e,h,a⟩=>by subst h;refine ao e ?_;exact a,λa=>⟨[],w,rfl,rfl,a⟩⟩
theorem fS:dp A (λw=>w=[]) w↔A w:=⟨λ⟨_,_,e,a,h⟩=>by subst h;refine ao e ?_;rewrite[be];exact a,λa=>⟨w,[],(be w).symm,a,rfl⟩⟩
theorem bQ.one(a:A w):bQ A w:=by have:=bQ.app a (.nil:bQ A []);rwa [be]at this
theorem rg(h:∀w,dp A X w->X w)(h0:∀w,B w->X w):∀w,dp (bQ A) B w->X w:=by
 rintro _ ⟨u,v,rfl,hs,hb⟩
 induction hs with
 |nil=>exact h0 _ hb
 |app a _ ih=>rw[aJ];exact h _ ⟨_,_,rfl,a,ih⟩
theorem bQ.ind(h:∀w,dp A X w->X w)(h0:X []):∀w,bQ A w->X w:=λw s=>by
 induction s with
 |nil=>exact h0
 |app a _ ih=>exact h _ ⟨_,_,rfl,a,ih⟩
theorem bQ.append(h:bQ A u)(h':bQ A v):bQ A (u++v):=by
 induction h with
 |nil=>exact h'
 |app a _ ih=>rw[aJ];exact .app a ih
theorem bQ.mono(h:∀w,A w->B w):∀w,bQ A w->bQ B w:=λw s=>by
 induction s with
 |nil=>exact .nil
 |app a _ ih=>exact .app (h _ a) ih
theorem bQ.sub(h:∀w,A w->bQ B w):∀w,bQ A w->bQ B w:=λw s=>by
 induction s with
 |nil=>exact .nil
 |app a _ ih=>exact(h _ a).append ih
theorem bQ.unfold:bQ A w↔w=[]\/dp A (bQ A) w:=
 ⟨λh=>by cases h with|nil=>exact .inl rfl|app a s=>exact .inr ⟨_,_,rfl,a,s⟩,λh=>h.elim (λe=>e▸ .nil) λ⟨_,_,e,a,s⟩=>e▸ .app a s⟩
theorem uB:dp (bQ A) (bQ A) w↔bQ A w:=⟨λ⟨_,_,e,a,b⟩=>e▸a.append b,λh=>⟨[],w,rfl,.nil,h⟩⟩
theorem vY(h:∀w,dp A B w->dp B C w):∀w,dp (bQ A) B w->dp B (bQ C) w:=
 rg (λw ⟨u,v,e,a,p,q,e',b,c⟩=>by
  refine cr (h (u++p) ⟨u,p,rfl,a,b⟩) λb' c' e'' hb hc=>?_;exact⟨b',c'++q,by refine ao e ?_;refine ao e' ?_;rewrite[<- aJ];refine ao e'' ?_;rewrite[aJ];with_reducible rfl,hb,.app hc c⟩) λw b=>⟨w,[],(be w).symm,b,.nil⟩
theorem uA(h:∀w,dp B A w->dp C B w):∀w,dp B (bQ A) w->dp (bQ C) B w:=by
 rintro _ ⟨p,q,rfl,hp,hq⟩
 induction hq generalizing p with
 |nil=>exact⟨[],p,be p,.nil,hp⟩
 |app a _ ih=>
  refine cr (h _ ⟨p,_,rfl,hp,a⟩) λc b e hc hb=>?_;refine cr (ih b hb) λc' b' e' hc' hb'=>?_;exact⟨c++c',b',by rewrite[<- aJ];refine ao e ?_;rewrite[aJ];refine ao e' ?_;rewrite[aJ];with_reducible rfl,.app hc hc',hb'⟩
theorem f8:∀{n:Nat} {w:Wd},fg A (n+1) w↔dp (fg A n) A w
 |0,w=>fS.trans om.symm
 |n+1,w=>by
  have ih:=@f8 n;constructor
  ·rintro⟨u,v,rfl,a,h⟩
   refine cr (ih.mp h) ?_;rintro p q rfl hp hq;exact⟨u++p,q,by rw[aJ],⟨u,p,rfl,a,hp⟩,hq⟩
  ·rintro⟨_,v,rfl,⟨p,q,rfl,a,hq⟩,hv⟩
   exact⟨p,q++v,by rw[aJ],a,ih.mpr ⟨q,v,rfl,hq,hv⟩⟩
theorem fg.star:∀{n:Nat} {w:Wd},fg A n w->bQ A w
 |0,_,h=>h▸ .nil
 |_+1,_,⟨_,_,e,a,h⟩=>e▸ .app a h.star
theorem bQ.pow(h:bQ A w):∃n,fg A n w:=by
 induction h with
 |nil=>exact⟨0,rfl⟩
 |app a _ ih=>obtain⟨n,h⟩:=ih;exact⟨n+1,_,_,rfl,a,h⟩
theorem fg.add:∀{m n:Nat} {w:Wd},fg A (m+n) w↔dp (fg A m) (fg A n) w
 |0,n,w=>by rw[dM];exact om.symm
 |m+1,n,w=>by
  rw[Nat.succ_add];constructor
  ·rintro⟨u,v,rfl,a,h⟩
   exact m6.mpr ⟨u,v,rfl,a,fg.add.mp h⟩
  ·intro h
   refine cr (m6.mp h) ?_;rintro u v rfl a h;exact⟨u,v,rfl,a,fg.add.mpr h⟩
theorem fg.three{n:Nat}{w:Wd}(h:fg A n w):∃r,r<=2/\dp (fg A r) (bQ (fg A 3)) w:=by
 induction n using w7 generalizing w with
 |ind n ih=>
  by_cases hn:n<=2
  ·exact⟨n,hn,w,[],(be w).symm,h,.nil⟩
  ·rw[show n=(n-3)+3 by exact aN (bt (nat_lit 0x1a0904a168243) rfl (ar (ci (nat_lit 0xd2b004) rfl hn))) (bt (nat_lit 0x2d048a168242) rfl (ar (ci (nat_lit 0xd2b004) rfl hn)))]at h
   refine cr (fg.add.mp h) ?_;rintro u v rfl h1 h2;clear h;obtain⟨r,hr,p,q,rfl,hp,hq⟩:=ih (n-3) (by exact bt (nat_lit 0x2b048a168242) rfl (ar (ci (nat_lit 0xd2b004) rfl hn))) h1;exact⟨r,hr,p,q++v,by rw[aJ],hp,hq.append (bQ.one h2)⟩
end
noncomputable def Mi:List (Rx×Rx)->Nat->Rx×Rx
 |[],_=>(.empty,.empty)
 |a::_,0=>a
 |_::l,n+1=>Mi l n
noncomputable def OL(x y z:Rx):List (Rx×Rx):=
 [(.alt x (.alt y z),.alt (.alt z y) x),
  (.alt x x,.alt .never x),
  (.cat x (.cat y z),.cat (.cat x y) z),
  (.cat x .empty,.cat .empty x),
  (.cat .never x,.cat y .never),
  (.cat x (.alt y z),.alt (.cat x y) (.cat x z)),
  (.cat (.alt x y) z,.alt (.cat x z) (.cat y z)),
  (.star x,.alt .empty (.cat x (.star x))),
  (.star x,.alt .empty (.cat (.star x) x)),
  (.star (.alt x y),.cat (.star x) (.star (.cat y (.star x)))),
  (.cat x (.star (.cat y x)),.cat (.star (.cat x y)) x),
  (.star (.star x),.cat (.star x) (.star x)),
  (.plus x,.cat x (.star x)),
  (.opt x,.rep x 0 (some 1)),
  (.rep x 1 (some 3),.cat x (.cat (.opt x) (.opt x))),
  (.rep x 2 none,.cat x (.plus x)),
  (.star x,.cat (.rep x 0 (some 2)) (.star (.rep x 3 (some 3)))),
  (.star (.alt x y),.star (.cat (.star x) (.star y)))]
noncomputable def Iz(n:Nat)(x y z:Rx):Rx×Rx:=Mi (OL x y z) n
inductive C9(P:Rx×Rx->Prop):List (Rx×Rx)->Prop
 |z:C9 P []
 |c {a l}:P a->C9 P l->C9 P (a::l)
theorem CR{P:Rx×Rx->Prop}(h0:P (.empty,.empty)){l}(h:C9 P l):∀n,P (Mi l n):=by
 induction h with
 |z=>exact λw_=>h0
 |c a _ ih=>exact λ|0=>a|n+1=>ih n
section
variable{A B:Lg}{w:Wd}
theorem Op:bQ (λw=>A w\/B w) w↔dp (bQ A) (bQ (dp B (bQ A))) w:=by
 constructor
 ·refine bQ.ind (λw h=>?_) ⟨[],[],rfl,.nil,.nil⟩ w
  obtain⟨u,_,rfl,hu,p,q,rfl,hp,hq⟩:=h;rcases hu with hu|hu
  ·exact⟨u++p,q,by rw[aJ],.app hu hp,hq⟩
  ·exact⟨[],u++(p++q),rfl,.nil,by rw[<- aJ];exact .app ⟨u,p,rfl,hu,hp⟩ hq⟩
 ·rintro⟨p,q,rfl,hp,hq⟩
  refine(hp.mono λw_ h=> .inl h).append (hq.sub (λw h=>?_));clear hq;refine cr h ?_;clear h;rintro u v rfl hu hv;exact .app (.inr hu) (hv.mono λw_ h=> .inl h)
theorem M8:bQ (λw=>A w\/B w) w↔bQ (dp (bQ A) (bQ B)) w:=by
 constructor
 ·exact bQ.mono (λw h=>h.elim (λa=>⟨w,[],(be w).symm,.one a,.nil⟩) λb=>⟨[],w,rfl,.nil,.one b⟩) w
 ·exact bQ.sub (λw ⟨u,v,e,a,b⟩=>e▸(a.mono λw_ h=> .inl h).append (b.mono λw_ h=> .inr h)) w
theorem NE:bQ A w↔dp (λw=>∃n,0<=n/\n<=2/\fg A n w) (bQ λw=>∃n,3<=n/\n<=3/\fg A n w) w:=by
 constructor
 ·intro h
  obtain⟨n,h⟩:=h.pow;obtain⟨r,hr,p,q,rfl,hp,hq⟩:=h.three;exact⟨p,q,rfl,⟨r,bg _,hr,hp⟩,hq.mono λw_ h=>⟨3,aG _,aG _,h⟩⟩
 ·rintro⟨p,q,rfl,⟨_,_,_,hp⟩,hq⟩
  exact hp.star.append (hq.sub λ_ ⟨_,_,_,h⟩=>h.star)
theorem Nm: (∃n,1<=n/\n<=3/\fg A n w)↔dp A (dp (λw=>w=[]\/A w) λw=>w=[]\/A w) w:=by
 constructor
 ·rintro⟨n,h1,h3,h⟩
  obtain rfl|rfl|rfl:n=1\/n=2\/n=3:=by lia
  ·clear h3 h1;refine cr h ?_;clear h;rintro u v rfl a h
   exact⟨u,v,rfl,a,[],[],by clear a;cases h;rfl,.inl rfl,.inl rfl⟩
  ·obtain⟨u,_,rfl,a,v,x,rfl,b,h⟩:=h
   cases h;exact⟨u,v++[],rfl,a,v,[],rfl,.inr b,.inl rfl⟩
  ·obtain⟨u,_,rfl,a,v,_,rfl,b,x,y,rfl,c,h⟩:=h
   cases h;exact⟨u,_,rfl,a,v,x,by rw[be],.inr b,.inr c⟩
 ·rintro⟨u,_,rfl,a,p,q,rfl,hp,hq⟩
  have one:∀{v},A v->fg A 1 v:=λh=>fS.mpr h;rcases hp with rfl|hp<;>rcases hq with rfl|hq
  ·exact⟨1,by decide,by decide,u,[],rfl,a,rfl⟩
  ·exact⟨2,by decide,by decide,u,q,rfl,a,one hq⟩
  ·exact⟨2,by decide,by decide,u,p++[],rfl,a,by rw[be];exact one hp⟩
  ·exact⟨3,by decide,by decide,u,p++q,rfl,a,p,q,rfl,hp,one hq⟩
end
theorem Mm{p:List (Nat×Nat)->Nat->Bool}(n:Nat)(x y z:Rx)(w:Wd):dP p (Iz n x y z).1 w↔dP p (Iz n x y z).2 w:=by
 have or_comm3:∀{p q r:Prop},(p\/q\/r)↔((r\/q)\/p):=λ{p q r}=>⟨λh=>h.elim .inr λh=> .inl h.symm,λh=>h.elim (λh=> .inr h.symm) .inl⟩;refine CR (P:=λe=>dP p e.1 w↔dP p e.2 w) iw (.c ?_ (.c ?_ (.c ?_ (.c ?_ (.c ?_ (.c ?_ (.c ?_ (.c ?_ (.c ?_ (.c ?_ (.c ?_ (.c ?_ (.c ?_ (.c ?_ (.c ?_ (.c ?_ (.c ?_ (.c ?_ .z)))))))))))))))))) n
 ·exact or_comm3
 ·exact⟨λh=> .inr (h.elim id id),λh=> .inl (h.elim cG id)⟩
 ·exact m6.symm
 ·exact fS.trans om.symm
 ·constructor
  ·intro h;refine cr h ?_;clear h;intro _ _ _ h _;exact h.elim
  ·intro h;refine cr h ?_;clear h;intro _ _ _ _ h;exact h.elim
 ·constructor
  ·intro h;refine cr h ?_;clear h;intro u v e a h;exact h.imp (⟨u,v,e,a,·⟩) (⟨u,v,e,a,·⟩)
  ·exact λh=>h.elim (dp.mono (λw_ h=>h) λw_=> .inl) (dp.mono (λw_ h=>h) λw_=> .inr)
 ·constructor
  ·intro h;refine cr h ?_;clear h;intro u v e h a;exact h.imp (⟨u,v,e,·,a⟩) (⟨u,v,e,·,a⟩)
  ·exact λh=>h.elim (dp.mono (λw_=> .inl) λw_ h=>h) (dp.mono (λw_=> .inr) λw_ h=>h)
 ·exact bQ.unfold
 ·have s:∀w,dp (bQ (dP p x)) (dP p x) w↔dp (dP p x) (bQ (dP p x)) w:=λw=>⟨vY (λw_ h=>h) w,uA (λw_ h=>h) w⟩
  exact bQ.unfold.trans (or_congr iw (s w).symm)
 ·exact Op
 ·exact⟨uA (λw h=>m6.mpr h) w,vY (λw h=>m6.mp h) w⟩
 ·exact⟨λh=>uB.mpr (h.sub λw_ h=>h),λh=> .one (uB.mp h)⟩
 ·exact iw
 ·exact⟨λh=>h.elim (λe=>⟨0,aG _,by decide,e⟩) λh=>⟨1,by decide,aG _,fS.mpr h⟩,λh=>by
   refine d4 h ?_;clear h;intro n _ h1 h;cases n with
   |zero=>exact .inl h
   |succ n=>cases n with
    |zero=>exact .inr (fS.mp h)
    |succ n=>exact absurd h1 (by exact λh=>nomatch(Nat.le_of_succ_le_succ h))⟩
 ·exact Nm
 ·constructor
  ·intro h;refine cr h ?_;clear h;intro _ v e h s;refine cr h ?_;clear h;intro u p e' a h;refine cr h ?_;clear h;intro q r e'' b h
   exact⟨u,q++v,by cases h;refine ao e ?_;refine ao e' ?_;refine ao e'' ?_;rewrite[be];rewrite[aJ];with_reducible rfl,a,q,v,rfl,b,s⟩
  ·intro h;refine cr h ?_;clear h;intro u _ e a h;refine cr h λq v e' b s=>?_;clear h
   exact⟨u++q,v,by refine ao e ?_;refine ao e' ?_;rewrite[aJ];with_reducible rfl,⟨u,q,rfl,a,q,[],(be q).symm,b,rfl⟩,s⟩
 ·exact NE
 ·exact M8
theorem NQ(x y w:Rx)(h:∀u,fJ (.alt x (.cat y w)) u->fJ w u):∀u,fJ (.cat (.star y) x) u->fJ w u:=
 rg (λu q=>h u (.inr q)) λu q=>h u (.inl q)
theorem Cv(x y z:Rx):∀u,fJ (.alt x (.cat y (.cat (.star (.alt y z)) x))) u->fJ (.cat (.star (.alt y z)) x) u:=λu h=>by
 rcases h with h|⟨p,_,rfl,hy,q,r,rfl,hs,hx⟩
 ·exact⟨[],u,rfl,.nil,h⟩
 ·exact⟨p++q,r,by rw[aJ],.app (.inl hy) hs,hx⟩
end
structure Gr where
 mv:List (List (Nat×Nat))
 hp:List (List Nat)
namespace Gr
noncomputable def n(G:Gr):Nat:=G.mv.length
noncomputable def mo(G:Gr)(q:Nat):List (Nat×Nat):=(G.mv[q]?).getD []
noncomputable def ho(G:Gr)(q:Nat):List Nat:=(G.hp[q]?).getD []
noncomputable def e(G:Gr):Nat:=(G.mv.map dW).sum
noncomputable def addState(G:Gr):Gr:=⟨G.mv++[[]],G.hp++[[]]⟩
noncomputable def addMove(G:Gr)(q m g:Nat):Gr:=if m=0 then G else⟨G.mv.set q (G.mo q++[(m,g)]),G.hp⟩
noncomputable def addHop(G:Gr)(q g:Nat):Gr:=if g∈G.ho q then G else⟨G.mv,G.hp.set q (G.ho q++[g])⟩
noncomputable def Ok(G:Gr):Prop:=G.hp.length=G.mv.length
section
variable{G:Gr}{q q' m g:Nat}
theorem zU{α:Type}(l:List (List α))(q:Nat): ((l++[[]])[q]?).getD []=(l[q]?).getD []:=by
 rcases iy q l.length with h|h|h
 ·exact ao (cI h) rfl
 ·subst h;simp
 ·exact ao (cq (by simp;exact bt (nat_lit 0x2b048a158241) rfl h)) (ao (cq (by exact bt (nat_lit 0x80a158241) rfl h)) rfl)
theorem n_state:G.addState.n=G.n+1:=by simp[addState,n]
theorem mo_state:G.addState.mo q=G.mo q:=zU ..
theorem ho_state:G.addState.ho q=G.ho q:=zU ..
theorem e_state:G.addState.e=G.e:=by simp[addState,e]
theorem Ok.state(h:G.Ok):G.addState.Ok:=by simpa[addState,Ok]using h
theorem n_hop: (G.addHop q g).n=G.n:=by unfold addHop n;split<;>rfl
theorem mo_hop: (G.addHop q g).mo q'=G.mo q':=by unfold addHop mo;split<;>rfl
theorem e_hop: (G.addHop q g).e=G.e:=by unfold addHop e;split<;>rfl
theorem ho_hop_ne(h:q'≠q): (G.addHop q g).ho q'=G.ho q':=by
 unfold addHop;split
 ·rfl
 ·show((G.hp.set q _)[q']?).getD []=_
  refine ao (fu (aV h)) ?_;rfl
theorem Ok.hop(h:G.Ok): (G.addHop q g).Ok:=by unfold addHop;split<;>simpa[Ok]using h
theorem ho_hop(h:G.Ok)(hq:q<G.n): (G.addHop q g).ho q=if g∈G.ho q then G.ho q else G.ho q++[g]:=by
 unfold addHop;split
 ·rfl
 ·show((G.hp.set q _)[q]?).getD []=_
  refine ao (dO (by refine ao h ?_;exact hq)) ?_;rfl
theorem ho_hop_nil(h:G.Ok)(hq:q<G.n)(e:G.ho q=[]): (G.addHop q g).ho q=[g]:=by refine ao (ho_hop h hq) (ao e ?_);exact rfl
theorem mem_hop(h:G.Ok)(hq:q<G.n){x:Nat}:x∈(G.addHop q g).ho q↔x∈G.ho q\/x=g:=by
 refine ao (ho_hop h hq) ?_;split
 ·rename_i e;exact⟨.inl,λz=>z.elim id λz=>z▸e⟩
 ·exact aI.trans (or_congr_right aq)
theorem n_move: (G.addMove q m g).n=G.n:=by unfold addMove n;split<;>simp
theorem ho_move: (G.addMove q m g).ho q'=G.ho q':=by unfold addMove ho;split<;>rfl
theorem Ok.move(h:G.Ok): (G.addMove q m g).Ok:=by unfold addMove;split<;>simpa[Ok]using h
theorem mo_move_ne(h:q'≠q): (G.addMove q m g).mo q'=G.mo q':=by
 unfold addMove;split
 ·rfl
 ·show((G.mv.set q _)[q']?).getD []=_
  refine ao (fu (aV h)) ?_;rfl
theorem mo_move(hq:q<G.n): (G.addMove q m g).mo q=if m=0 then G.mo q else G.mo q++[(m,g)]:=by
 unfold addMove;split
 ·rfl
 ·show((G.mv.set q _)[q]?).getD []=_
  refine ao (dO hq) ?_;rfl
theorem mo_ge(h:G.n<=q):G.mo q=[]:=by unfold mo;refine ao (cq h) ?_;rfl
theorem ho_ge(o:G.Ok)(h:G.n<=q):G.ho q=[]:=by unfold ho;refine ao (cq (by refine ao o ?_;exact h)) ?_;rfl
theorem Eb:∀(l:List (List (Nat×Nat))) (q:Nat) (x:Nat×Nat),((l.set q (((l[q]?).getD [])++[x])).map dW).sum<=(l.map dW).sum+1
 |[],_=>λw_=>by exact bg _
 |a::l,0=>λx=>by simp;exact bt (nat_lit 0x2c209482b04a45) rfl
 |a::l,q+1=>λx=>by have:=Eb l q x;simp at this ⊢;exact b9 (nat_lit 0x16114a40148ab0c801) rfl this
theorem e_move: (G.addMove q m g).e<=G.e+1:=by
 unfold addMove;split
 ·exact dI _
 ·exact Eb ..
end
end Gr
inductive sJ(G:Gr)(f:Nat):Nat->Nat->Wd->Prop
 |done:sJ G f 0 f []
 |hop {k q g w}:g∈G.ho q->sJ G f k g w->sJ G f (k+1) q w
 |move {k q m g a w}: (m,g)∈G.mo q->m.testBit a=true->sJ G f k g w->sJ G f (k+1) q (a::w)
noncomputable def gZ(G Gf:Gr)(f a b:Nat)(X:Nat->Prop):Prop:=∀q,a<=q->q<b->¬X q->Gf.mo q=G.mo q/\Gf.ho q=G.ho q/\q≠f
structure Seg(k e:Nat)(G:Gr)(A:Lg)(G':Gr)(h t:Nat):Prop where
 ok:G'.Ok
 size:G.n<=G'.n/\G'.n<=G.n+k
 edges:G'.e<=G.e+e
 hh:G.n<=h/\h<G'.n
 ht:G.n<=t/\t<G'.n
 keep:∀q,q<G.n->G'.mo q=G.mo q/\G'.ho q=G.ho q
 tail:G'.mo t=[]/\G'.ho t=[]
 sound:∀Gf f,gZ G' Gf f G.n G'.n (·=t)->∀i w,sJ Gf f i h w->∃u v j,j<=i/\w=u++v/\A u/\sJ Gf f j t v
 compl:∀Gf f,gZ G' Gf f G.n G'.n (·=t)->∀u v j,A u->sJ Gf f j t v->∃i,sJ Gf f i h (u++v)
section
variable{Gf:Gr}{f i q:Nat}{w:Wd}
theorem sJ.hops(h:sJ Gf f i q w)(hm:Gf.mo q=[])(hf:q≠f):∃g j,i=j+1/\g∈Gf.ho q/\sJ Gf f j g w:=by
 cases h with
 |done=>exact absurd rfl hf
 |hop a b=>exact⟨_,_,rfl,a,b⟩
 |move a=>rw[hm]at a;clear a_2 a_1;cases a
theorem sJ.hop1{g:Nat}(h:sJ Gf f i q w)(hm:Gf.mo q=[])(hh:Gf.ho q=[g])(hf:q≠f):∃j,i=j+1/\sJ Gf f j g w:=by
 refine cr (h.hops hm hf) λg' j e a b=>?_;rw[hh]at a;rw[aq.mp a]at b;exact⟨j,e,b⟩
end
section
variable{k k' e e':Nat}{G bK fP:Gr}{A B:Lg}{h t cA yY:Nat}
theorem Seg.one(o:G.Ok):Seg 1 0 G (λw=>w=[]) G.addState G.n G.n where
 ok:=o.state
 size:=by refine ao Gr.n_state ?_;exact⟨ci (nat_lit 0xb04805) rfl,ci (nat_lit 0x2c1258245) rfl⟩
 edges:=by refine ao Gr.e_state ?_;exact ci (nat_lit 0xa04805) rfl
 hh:=by refine ao Gr.n_state ?_;exact⟨ci (nat_lit 0x5) rfl,ci (nat_lit 0x2c1258245) rfl⟩
 ht:=by refine ao Gr.n_state ?_;exact⟨ci (nat_lit 0x5) rfl,ci (nat_lit 0x2c1258245) rfl⟩
 keep:=λq w_=>⟨Gr.mo_state,Gr.ho_state⟩
 tail:=⟨Gr.mo_state.trans (Gr.mo_ge (aG _)),Gr.ho_state.trans (Gr.ho_ge o (aG _))⟩
 sound:=λGf f w_ i w a=>⟨[],w,i,aG _,rfl,rfl,a⟩
 compl:=λGf f w_ u v j hu a=>⟨j,by refine ao hu ?_;exact a⟩
theorem Seg.iff(s:Seg k e G A bK h t)(hab:∀w,A w↔B w):Seg k e G B bK h t:=
 {s with
  sound:=λGf f ag i w a=>let⟨u,v,j,p,q,r,z⟩:=s.sound Gf f ag i w a;⟨u,v,j,p,q,(hab _).mp r,z⟩
  compl:=λGf f ag u v j a=>s.compl Gf f ag u v j ((hab _).mpr a)}
theorem Seg.le(s:Seg k e G A bK h t)(hk:k<=k')(he:e<=e'):Seg k' e' G A bK h t:=
 {s with size:=⟨s.size.1,by have:=s.size.2;exact ir (nat_lit 0x11c84500e4208401) rfl hk this⟩,edges:=a8 s.edges (by exact b9 (nat_lit 0x229005228401) rfl he)}
theorem two(o:G.Ok):G.addState.addState.Ok/\G.addState.addState.n=G.n+2/\(∀q,G.addState.addState.mo q=G.mo q/\G.addState.addState.ho q=G.ho q)/\G.addState.addState.e=G.e:=
 ⟨o.state.state,by exact ao Gr.n_state (ao Gr.n_state rfl),λq=>⟨by exact ao Gr.mo_state (ao Gr.mo_state rfl),by exact ao Gr.ho_state (ao Gr.ho_state rfl)⟩,by exact ao Gr.e_state (ao Gr.e_state rfl)⟩
theorem Seg.chars(o:G.Ok)(m:Nat):Seg 2 1 G (λw=>∃a,w=[a]/\m.testBit a=true) (G.addState.addState.addMove G.n m (G.n+1)) G.n (G.n+1):=by
 refine iq (two o) λo2 n2 k2 e2=>?_;have n3: (G.addState.addState.addMove G.n m (G.n+1)).n=G.n+2:=Gr.n_move.trans n2;have hm: (G.addState.addState.addMove G.n m (G.n+1)).mo G.n=if m=0 then[]else[(m,G.n+1)]:=by
  refine ao (Gr.mo_move (by exact bt (nat_lit 0xb0c8ac0c803) rfl n2)) (ao ((k2 _).1) (ao (Gr.mo_ge (aG _)) ?_));rfl
 have hh: (G.addState.addState.addMove G.n m (G.n+1)).ho G.n=[]:=by exact ao Gr.ho_move (ao ((k2 _).2) (ao (Gr.ho_ge o (aG _)) rfl))
 refine⟨o2.move,by exact⟨bt (nat_lit 0x4ac0c803) rfl n3,bt (nat_lit 0x181900ac0c802) rfl n3⟩,by have:=@Gr.e_move G.addState.addState G.n m (G.n+1);exact b9 (nat_lit 0xb0c8455824208402) rfl e2 this,by exact⟨ci (nat_lit 0x5) rfl,bt (nat_lit 0xb0c8ac0c803) rfl n3⟩,by exact⟨ci (nat_lit 0xb04805) rfl,bt (nat_lit 0x2d61948ac0c803) rfl n3⟩,λq hq=>⟨by exact ao (Gr.mo_move_ne (by exact λq0=>bt (nat_lit 0x806158241) rfl hq q0)) (ao ((k2 _).1) rfl),by exact ao Gr.ho_move (ao ((k2 _).2) rfl)⟩,
  ⟨by exact ao (Gr.mo_move_ne (by exact λq0=>ci (nat_lit 0x58242) rfl q0)) (ao ((k2 _).1) (ao (Gr.mo_ge (by exact ci (nat_lit 0xb04805) rfl)) rfl)),by exact ao Gr.ho_move (ao ((k2 _).2) (ao (Gr.ho_ge o (by exact ci (nat_lit 0xb04805) rfl)) rfl))⟩,λGf f ag i w a=>?_,λGf f ag u v j hu a=>?_⟩
 ·refine eX (ag G.n (aG _) (by exact bt (nat_lit 0xb0c8ac0c803) rfl n3) (by exact λq0=>ci (nat_lit 0xb04803) rfl q0)) λx y z=>?_
  rw[hm]at x;rw[hh]at y;cases a with
  |done=>exact absurd rfl z
  |hop p=>rw[y]at p;clear a_1;cases p
  | @move j _ m' g a w p b c=>
   rw[x]at p;split at p
   ·clear c b;cases p
   ·cases aq.mp p
    exact⟨[a],w,j,dI _,rfl,⟨a,rfl,b⟩,c⟩
 ·refine eX (ag G.n (aG _) (by exact bt (nat_lit 0xb0c8ac0c803) rfl n3) (by exact λq0=>ci (nat_lit 0xb04803) rfl q0)) λx y z=>?_
  clear z y ag hh n3 e2 k2 n2 o2;refine bJ hu ?_;clear hu;rintro b rfl hb;rw[hm,if_neg (by rintro rfl;simp at hb)]at x;exact⟨j+1,.move (by refine ao x ?_;exact aq.mpr rfl) hb a⟩
theorem Seg.empty(o:G.Ok):Seg 2 0 G (λw=>w=[]) (G.addState.addState.addHop G.n (G.n+1)) G.n (G.n+1):=by
 refine iq (two o) λo2 n2 k2 e2=>?_;have n3: (G.addState.addState.addHop G.n (G.n+1)).n=G.n+2:=Gr.n_hop.trans n2;have hm: (G.addState.addState.addHop G.n (G.n+1)).mo G.n=[]:=by exact ao Gr.mo_hop (ao ((k2 _).1) (ao (Gr.mo_ge (aG _)) rfl))
 have hh: (G.addState.addState.addHop G.n (G.n+1)).ho G.n=[G.n+1]:=Gr.ho_hop_nil o2 (by exact bt (nat_lit 0xb0c8ac0c803) rfl n2) (by exact ao ((k2 _).2) (ao (Gr.ho_ge o (aG _)) rfl));refine⟨o2.hop,by exact⟨bt (nat_lit 0x4ac0c803) rfl n3,bt (nat_lit 0x181900ac0c802) rfl n3⟩,by refine ao Gr.e_hop ?_;exact bt (nat_lit 0x5064028402) rfl e2,by exact⟨ci (nat_lit 0x5) rfl,bt (nat_lit 0xb0c8ac0c803) rfl n3⟩,by exact⟨ci (nat_lit 0xb04805) rfl,bt (nat_lit 0x2d61948ac0c803) rfl n3⟩,λq hq=>⟨by exact ao Gr.mo_hop (ao ((k2 _).1) rfl),by exact ao (Gr.ho_hop_ne (by exact λq0=>bt (nat_lit 0x806158241) rfl hq q0)) (ao ((k2 _).2) rfl)⟩,
  ⟨by exact ao Gr.mo_hop (ao ((k2 _).1) (ao (Gr.mo_ge (by exact ci (nat_lit 0xb04805) rfl)) rfl)),by exact ao (Gr.ho_hop_ne (by exact λq0=>ci (nat_lit 0x58242) rfl q0)) (ao ((k2 _).2) (ao (Gr.ho_ge o (by exact ci (nat_lit 0xb04805) rfl)) rfl))⟩,λGf f ag i w a=>?_,λGf f ag u v j hu a=>?_⟩
 ·refine eX (ag G.n (aG _) (by exact bt (nat_lit 0xb0c8ac0c803) rfl n3) (by exact λq0=>ci (nat_lit 0xb04803) rfl q0)) λx y z=>?_
  clear ag n3 e2 k2 n2 o2;refine bJ (a.hop1 (x.trans hm) (y.trans hh) z) ?_;rintro j rfl a';exact⟨[],w,j,dI _,rfl,rfl,a'⟩
 ·refine eX (ag G.n (aG _) (by exact bt (nat_lit 0xb0c8ac0c803) rfl n3) (by exact λq0=>ci (nat_lit 0xb04803) rfl q0)) λx y z=>?_
  subst hu;exact⟨j+1,.hop (by refine ao y (ao hh ?_);exact aq.mpr rfl) a⟩
theorem Seg.never(o:G.Ok):Seg 2 0 G (λw_=>False) G.addState.addState G.n (G.n+1):=by
 refine iq (two o) λo2 n2 k2 e2=>?_;refine⟨o2,by exact⟨bt (nat_lit 0x4ac0c803) rfl n2,bt (nat_lit 0x181900ac0c802) rfl n2⟩,by exact bt (nat_lit 0x5064028402) rfl e2,by exact⟨ci (nat_lit 0x5) rfl,bt (nat_lit 0xb0c8ac0c803) rfl n2⟩,by exact⟨ci (nat_lit 0xb04805) rfl,bt (nat_lit 0x2d61948ac0c803) rfl n2⟩,λq hq=>k2 q,⟨by exact ao ((k2 _).1) (ao (Gr.mo_ge (by exact ci (nat_lit 0xb04805) rfl)) rfl),by exact ao ((k2 _).2) (ao (Gr.ho_ge o (by exact ci (nat_lit 0xb04805) rfl)) rfl)⟩,λGf f ag i w a=>?_,λGf f ag u v j hu a=>hu.elim⟩;refine eX (ag G.n (aG _) (by exact bt (nat_lit 0xb0c8ac0c803) rfl n2) (by exact λq0=>ci (nat_lit 0xb04803) rfl q0)) λx y z=>?_;refine cr (a.hops (x.trans (by exact ao ((k2 _).1) (ao (Gr.mo_ge (aG _)) rfl))) z) ?_;intro g j _ p _;rw[y,(k2 _).2,Gr.ho_ge o (aG _)]at p;clear a_2;cases p
theorem gZ.seg{G' Gf:Gr}{f a b a' b':Nat}{X X':Nat->Prop}(ag:gZ G' Gf f a b X)(ha:a<=a')(hb:b'<=b)(hk:∀q,a'<=q->q<b'->¬X' q->¬X q/\G'.mo q=bK.mo q/\G'.ho q=bK.ho q):gZ bK Gf f a' b' X':=λq h1 h2 h3=>by
 refine eX (hk q h1 h2 h3) λz x y=>?_;refine eX (ag q (by exact b9 (nat_lit 0x20144108401) rfl ha h1) (by exact b9 (nat_lit 0x158a4502c5208401) rfl hb h2) z) λx' y' z'=>?_;exact⟨x'.trans x,y'.trans y,z'⟩
theorem Seg.cat(s:Seg k e G A bK h t)(dv:Seg k' e' bK B fP cA yY):Seg (k+k') (e+e') G (dp A B) (fP.addHop t cA) h yY:=by
 have i1:=s.size;have i2:=dv.size;have i3:=s.ht;have i4:=dv.ht;have i5:=s.hh;have i6:=dv.hh;have i7:=s.edges;have i8:=dv.edges;have n3: (fP.addHop t cA).n=fP.n:=Gr.n_hop;have tm: (fP.addHop t cA).mo t=[]:=by exact ao Gr.mo_hop (ao ((dv.keep t i3.2).1) (ao (s.tail.1) rfl))
 have th: (fP.addHop t cA).ho t=[cA]:=Gr.ho_hop_nil dv.ok (by exact b9 (nat_lit 0x158a4502c5208401) rfl i2.1 i3.2) (by exact ao ((dv.keep t i3.2).2) (ao (s.tail.2) rfl));have kp:∀q,q≠t->(fP.addHop t cA).mo q=fP.mo q/\(fP.addHop t cA).ho q=fP.ho q:=λq hq=>⟨Gr.mo_hop,Gr.ho_hop_ne hq⟩;have a1:∀{Gf f},gZ (fP.addHop t cA) Gf f G.n (fP.addHop t cA).n (·=yY)->gZ bK Gf f G.n bK.n (·=t):=λag=>ag.seg (aG _) (by exact b9 (nat_lit 0x20142218401) rfl i2.1 n3) λq h1 h2 h3=>
  ⟨by exact λq0=>b9 (nat_lit 0x44302c5208401) rfl i4.1 h2 q0,(kp q h3).1.trans (dv.keep q h2).1,(kp q h3).2.trans (dv.keep q h2).2⟩
 have a2:∀{Gf f},gZ (fP.addHop t cA) Gf f G.n (fP.addHop t cA).n (·=yY)->gZ fP Gf f bK.n fP.n (·=yY):=λag=>ag.seg i1.1 (by exact bt (nat_lit 0x128403) rfl n3) λq h1 h2 h3=>
  ⟨h3,kp q (by exact λq0=>b9 (nat_lit 0x421042158241) rfl i3.2 h1 q0)⟩
 refine⟨dv.ok.hop,by exact⟨ir (nat_lit 0x180a218c4108401) rfl i1.1 i2.1 n3,J6 (nat_lit 0x20a41914a32888090c220c801) rfl i1.2 i2.2 n3⟩,by refine ao Gr.e_hop ?_;exact uk (nat_lit 0x4148321948090c220c801) rfl i7 i8,by exact⟨bt (nat_lit 0x2028401) rfl i5.1,ir (nat_lit 0x1ac522846302c5208401) rfl i2.1 i5.2 n3⟩,by exact⟨b9 (nat_lit 0x20144108401) rfl i1.1 i4.1,b9 (nat_lit 0x2582450886158241) rfl i4.2 n3⟩,λq hq=>?_,?_,λGf f ag i w a=>?_,λGf f ag u v j hu a=>?_⟩
 ·have:=kp q (by exact λq0=>b9 (nat_lit 0x44302c5208401) rfl i3.1 hq q0);have:=dv.keep q (by exact b9 (nat_lit 0x158a4502c5208401) rfl i1.1 hq);have:=s.keep q hq
  simp_all
 ·have:=kp yY (by exact λq0=>b9 (nat_lit 0x421042158241) rfl i3.2 i4.1 q0);have:=dv.tail
  simp_all
 ·clear kp i8 i7 i6 i5 i1;refine eR (s.sound Gf f (a1 ag) i w a) ?_;rintro u v j h1 rfl hu b
  refine eX (ag t (by exact bt (nat_lit 0x2028401) rfl i3.1) (by exact ir (nat_lit 0x1ac522846302c5208401) rfl i2.1 i3.2 n3) (by exact λq0=>b9 (nat_lit 0x8031042158241) rfl i3.2 i4.1 q0)) λx y z=>?_;clear a a1 n3 i4 i3 i2 s;refine bJ (b.hop1 (x.trans tm) (y.trans th) z) ?_;rintro j' rfl b';clear b z y x th tm;refine eR (dv.sound Gf f (a2 ag) j' v b') ?_;rintro u' v' C7 h2 rfl hu' c;exact⟨u++u',v',C7,by exact b9 (nat_lit 0x4450082158241) rfl h1 h2,by rw[aJ],⟨u,u',rfl,hu,hu'⟩,c⟩
 ·clear kp tm i8 i7 i6 i5 i1;refine cr hu ?_;clear hu;rintro p p' rfl hp hp'
  obtain⟨i',b⟩:=dv.compl Gf f (a2 ag) p' v j hp' a;refine eX (ag t (by exact bt (nat_lit 0x2028401) rfl i3.1) (by exact ir (nat_lit 0x1ac522846302c5208401) rfl i2.1 i3.2 n3) (by exact λq0=>b9 (nat_lit 0x8031042158241) rfl i3.2 i4.1 q0)) λx y z=>?_;have c:sJ Gf f (i'+1) t (p'++v):= .hop (by refine ao y (ao th ?_);exact aq.mpr rfl) b;obtain⟨i'',d⟩:=s.compl Gf f (a1 ag) p (p'++v) _ hp c;exact⟨i'',by rw[aJ];exact d⟩
end
noncomputable def Ho(skip again:Bool)(A:Lg):Lg:=λw=>(skip=true/\w=[])\/dp A (if again then bQ A else λw=>w=[]) w
noncomputable def ifHop(b:Bool)(G:Gr)(q g:Nat):Gr:=if b then G.addHop q g else G
section
variable{k k' e e':Nat}{G bK fP:Gr}{A B:Lg}{h t cA yY:Nat}
theorem Seg.loop(o:G.Ok)(s:Seg k e G.addState A bK h t)(skip again:Bool):
  Seg (k+2) e G (Ho skip again A) (ifHop skip (ifHop again ((bK.addState.addHop G.n h).addHop t bK.n) t h) G.n bK.n) G.n bK.n:=by
 have i1:=s.size;have i3:=s.ht;have i5:=s.hh;have i7:=s.edges;have n0:G.addState.n=G.n+1:=Gr.n_state;have e0:G.addState.e=G.e:=Gr.e_state;have o2:bK.addState.Ok:=s.ok.state;have n2:bK.addState.n=bK.n+1:=Gr.n_state;have o3: ((bK.addState.addHop G.n h).addHop t bK.n).Ok:=o2.hop.hop;have n3: ((bK.addState.addHop G.n h).addHop t bK.n).n=bK.n+1:=by exact ao Gr.n_hop (ao Gr.n_hop (ao n2 rfl))
 have f2:bK.addState.ho G.n=[]/\bK.addState.mo G.n=[]:=⟨by exact ao Gr.ho_state (ao ((s.keep _ (by exact bt (nat_lit 0xb0c8ab0c803) rfl n0)).2) (ao Gr.ho_state (ao (Gr.ho_ge o (aG _)) rfl))),by exact ao Gr.mo_state (ao ((s.keep _ (by exact bt (nat_lit 0xb0c8ab0c803) rfl n0)).1) (ao Gr.mo_state (ao (Gr.mo_ge (aG _)) rfl)))⟩;have f3: ((bK.addState.addHop G.n h).addHop t bK.n).ho G.n=[h]:=by exact ao (Gr.ho_hop_ne (by exact λq0=>b9 (nat_lit 0x44358a4018401) rfl i3.1 n0 q0)) (ao (Gr.ho_hop_nil o2 (by exact ir (nat_lit 0x6b148ab0c86358a4018401) rfl i1.1 n0 n2) f2.1) rfl)
 have t3: ((bK.addState.addHop G.n h).addHop t bK.n).ho t=[bK.n]:=by
  rw[Gr.ho_hop_nil o2.hop (by refine ao Gr.n_hop ?_;exact b9 (nat_lit 0x960915619086158241) rfl i3.2 n2)];exact ao (Gr.ho_hop_ne (by exact λq0=>b9 (nat_lit 0x82258a4018401) rfl i3.1 n0 q0)) (ao Gr.ho_state (ao (s.tail.2) rfl))
 have r3:∀q,q≠G.n->q≠t->((bK.addState.addHop G.n h).addHop t bK.n).ho q=bK.ho q:=λq h1 h2=>by exact ao (Gr.ho_hop_ne h2) (ao (Gr.ho_hop_ne h1) (ao Gr.ho_state rfl))
 have m3:∀q,((bK.addState.addHop G.n h).addHop t bK.n).mo q=bK.mo q:=λq=>by exact ao Gr.mo_hop (ao Gr.mo_hop (ao Gr.mo_state rfl))
 have e3: ((bK.addState.addHop G.n h).addHop t bK.n).e=bK.e:=by exact ao Gr.e_hop (ao Gr.e_hop (ao Gr.e_state rfl))
 generalize(bK.addState.addHop G.n h).addHop t bK.n=qa at*;have⟨o4,n4,m4,e4,r4,t4⟩: (ifHop again qa t h).Ok/\(ifHop again qa t h).n=bK.n+1/\(∀q,(ifHop again qa t h).mo q=bK.mo q)/\(ifHop again qa t h).e=bK.e/\(∀q,q≠t->(ifHop again qa t h).ho q=qa.ho q)/\
   ∀x,x∈(ifHop again qa t h).ho t↔x=bK.n\/(again=true/\x=h):=by
  cases again with
  |true=>exact⟨o3.hop,Gr.n_hop.trans n3,λq=>Gr.mo_hop.trans (m3 q),Gr.e_hop.trans e3,λq hq=>Gr.ho_hop_ne hq,λx=>by show x∈(qa.addHop t h).ho t↔_;rewrite[Gr.mem_hop o3 (by exact b9 (nat_lit 0x960915619086158241) rfl i3.2 n3)];refine ao t3 ?_;simp⟩
  |false=>exact⟨o3,n3,m3,e3,λq hq=>rfl,λx=>by show x∈qa.ho t↔_;refine ao t3 ?_;simp⟩
 have r4':∀q,q≠G.n->q≠t->(ifHop again qa t h).ho q=bK.ho q:=λq h1 h2=>(r4 q h2).trans (r3 q h1 h2);have f4:=(r4 G.n (by exact λq0=>b9 (nat_lit 0x44358a4018401) rfl i3.1 n0 q0)).trans f3;generalize ifHop again qa t h=xb at*;have⟨o5,n5,m5,e5,r5,f5⟩: (ifHop skip xb G.n bK.n).Ok/\(ifHop skip xb G.n bK.n).n=bK.n+1/\(∀q,(ifHop skip xb G.n bK.n).mo q=bK.mo q)/\(ifHop skip xb G.n bK.n).e=bK.e/\(∀q,q≠G.n->(ifHop skip xb G.n bK.n).ho q=xb.ho q)/\
   ∀x,x∈(ifHop skip xb G.n bK.n).ho G.n↔x=h\/(skip=true/\x=bK.n):=by
  cases skip with
  |true=>exact⟨o4.hop,Gr.n_hop.trans n4,λq=>Gr.mo_hop.trans (m4 q),Gr.e_hop.trans e4,λq hq=>Gr.ho_hop_ne hq,λx=>by show x∈(xb.addHop G.n bK.n).ho G.n↔_;rewrite[Gr.mem_hop o4 (by exact ir (nat_lit 0x6b148ab0c86358a4018401) rfl i1.1 n0 n4)];refine ao f4 ?_;simp⟩
  |false=>exact⟨o4,n4,m4,e4,λq hq=>rfl,λx=>by show x∈xb.ho G.n↔_;refine ao f4 ?_;simp⟩
 have r5':∀q,q≠G.n->q≠t->(ifHop skip xb G.n bK.n).ho q=bK.ho q:=λq h1 h2=>(r5 q h1).trans (r4' q h1 h2);have t5:∀x,x∈(ifHop skip xb G.n bK.n).ho t↔x=bK.n\/(again=true/\x=h):=λx=>by refine ao (r5 t (by exact λq0=>b9 (nat_lit 0x82258a4018401) rfl i3.1 n0 q0)) ?_;exact t4 x
 generalize ifHop skip xb G.n bK.n=N9 at*;have kk:∀q,q<G.n->bK.mo q=G.mo q/\bK.ho q=G.ho q:=λq hq=>by
  have:=s.keep q (by exact b9 (nat_lit 0x1629142b1482b0c803) rfl n0 hq);rw[Gr.mo_state,Gr.ho_state]at this;exact this
 have a1:∀{Gf f},gZ N9 Gf f G.n N9.n (·=bK.n)->gZ bK Gf f G.addState.n bK.n (·=t):=λag=>ag.seg (by exact bt (nat_lit 0x4ab0c803) rfl n0) (by exact bt (nat_lit 0x4ab0c803) rfl n5) λq h1 h2 h3=>⟨by exact λq0=>bt (nat_lit 0x806158241) rfl h2 q0,m5 q,r5' q (by exact λq0=>b9 (nat_lit 0x4421002b0c803) rfl n0 h1 q0) h3⟩;have fm:bK.mo G.n=[]:=Gr.mo_state.symm.trans f2.2;refine⟨o5,by exact⟨ir (nat_lit 0x188ab0c86358a4018401) rfl i1.1 n0 n5,uk (nat_lit 0x18290e442ac1220963904420c801) rfl i1.2 n0 n5⟩,by exact uk (nat_lit 0x10e4428082184420c801) rfl i7 e0 e5,by exact⟨ci (nat_lit 0x5) rfl,ir (nat_lit 0x6b148ab0c86358a4018401) rfl i1.1 n0 n5⟩,by exact⟨b9 (nat_lit 0x44558a4018401) rfl i1.1 n0,bt (nat_lit 0xb0c8ab0c803) rfl n5⟩,λq hq=>⟨(m5 q).trans (kk q hq).1,(r5' q (by exact λq0=>bt (nat_lit 0x806158241) rfl hq q0) (by exact λq0=>ir (nat_lit 0x8c6258e4158a4018401) rfl i3.1 n0 hq q0)).trans (kk q hq).2⟩,⟨(m5 _).trans (Gr.mo_ge (aG _)),(r5' _ (by exact λq0=>b9 (nat_lit 0x82258a4018401) rfl i1.1 n0 q0) (by exact λq0=>bt (nat_lit 0x44158241) rfl i3.2 q0)).trans (Gr.ho_ge s.ok (aG _))⟩,λGf f ag i w a=>?_,λGf f ag u v j hu a=>?_⟩
 ·refine eX (ag G.n (aG _) (by exact ir (nat_lit 0x6b148ab0c86358a4018401) rfl i1.1 n0 n5) (by exact λq0=>b9 (nat_lit 0x44358a4018401) rfl i1.1 n0 q0)) λx y z=>?_
  refine eX (ag t (by exact b9 (nat_lit 0x44558a4018401) rfl i3.1 n0) (by exact b9 (nat_lit 0x960915619086158241) rfl i3.2 n5) (by exact λq0=>bt (nat_lit 0x806158241) rfl i3.2 q0)) λx' y' z'=>?_;have rest:∀i w,sJ Gf f i h w->∃u v j,j<=i/\w=u++v/\dp A (if again then bQ A else λw=>w=[]) u/\sJ Gf f j bK.n v:=by
   intro i
   induction i using w7 with
   |ind i ih=>
    intro w a;clear z y x fm kk r5' f5 r5 e5 n5 f4 r4' t4 r4 e4 m4 n4 e3 m3 r3 t3 f3 n3 f2 n2 e0 n0 i7 i5 i3 i1;refine eR (s.sound Gf f (a1 ag) i w a) ?_;rintro u v j h1 rfl hu b;clear a ag a1;clear a;refine cr (b.hops (x'.trans ((m5 t).trans s.tail.1)) z') ?_;rintro g j' rfl hg c;rw[y']at hg;rcases(t5 g).mp hg with rfl|⟨ha,rfl⟩
    ·exact⟨u,v,j',by exact bt (nat_lit 0x80a158241) rfl h1,rfl,⟨u,[],(be u).symm,hu,by split;exact .nil;rfl⟩,c⟩
    ·clear t5 s hg b z' y' x' m5;refine eR (ih j' (by exact bt (nat_lit 0x2b048a158241) rfl h1) v c) ?_;rintro u' v' C7 h2 rfl hu' d
     rw[if_pos ha]at hu' ⊢;clear c ih ha;refine cr hu' ?_;clear hu';rintro p p' rfl hp hp';exact⟨u++(p++p'),v',C7,by exact b9 (nat_lit 0x4450082158241) rfl h1 h2,by simp only[aJ],⟨u,_,rfl,hu,.app hp hp'⟩,d⟩
  clear z' y' x' ag a1 kk t5 r5' r5 e5 n5 f4 r4' t4 r4 e4 m4 n4 e3 m3 r3 t3 f3 n3 f2 n2 e0 n0 i7 i5 i3 i1 s;refine cr (a.hops (x.trans ((m5 _).trans fm)) z) ?_;rintro g j rfl hg b;rw[y]at hg;rcases(f5 g).mp hg with rfl|⟨hs,rfl⟩
  ·clear f5 hg a z y x fm m5;refine eR (rest j w b) ?_;rintro u v C7 h1 rfl hu c
   exact⟨u,v,C7,by exact bt (nat_lit 0x5864028401) rfl h1,rfl,.inr hu,c⟩
  ·exact⟨[],w,j,by exact ci (nat_lit 0xb04805) rfl,rfl,.inl ⟨hs,rfl⟩,b⟩
 ·refine eX (ag G.n (aG _) (by exact ir (nat_lit 0x6b148ab0c86358a4018401) rfl i1.1 n0 n5) (by exact λq0=>b9 (nat_lit 0x44358a4018401) rfl i1.1 n0 q0)) λx y z=>?_
  refine eX (ag t (by exact b9 (nat_lit 0x44558a4018401) rfl i3.1 n0) (by exact b9 (nat_lit 0x960915619086158241) rfl i3.2 n5) (by exact λq0=>bt (nat_lit 0x806158241) rfl i3.2 q0)) λx' y' z'=>?_;have last:∀{j v},sJ Gf f j bK.n v->∃i,sJ Gf f i t v:=λb=>⟨_,.hop (by refine ao y' ?_;rewrite[t5];exact .inl rfl) b⟩;rcases hu with⟨hs,rfl⟩|⟨p,p',rfl,hp,hp'⟩
  ·exact⟨_,.hop (by refine ao y ?_;rewrite[f5];exact .inr ⟨hs,rfl⟩) a⟩
  ·have key:∃i,sJ Gf f i t (p'++v):=by
    split at hp'
    ·rename_i ha
     induction hp' with
     |nil=>exact last a
     | @app c c' hc hc' ih=>
      obtain⟨i,b⟩:=ih;obtain⟨i',d⟩:=s.compl Gf f (a1 ag) c (c'++v) i hc b;exact⟨_,.hop (by refine ao y' ?_;rewrite[t5];exact .inr ⟨ha,rfl⟩) (by rw[aJ];exact d)⟩
    ·subst hp';exact last a
   obtain⟨i,b⟩:=key;obtain⟨i',d⟩:=s.compl Gf f (a1 ag) p (p'++v) i hp b;exact⟨_,.hop (by refine ao y ?_;rewrite[f5];exact .inl rfl) (by rw[aJ];exact d)⟩
end
noncomputable def Reads(Gf:Gr)(f:Nat)(A:Lg)(h t:Nat):Prop:=(∀i w,sJ Gf f i h w->∃u v j,j<=i/\w=u++v/\A u/\sJ Gf f j t v)/\∀u v j,A u->sJ Gf f j t v->∃i,sJ Gf f i h (u++v)
structure AJ where
 A:Lg
 h:Nat
 t:Nat
noncomputable def A6(first:Nat)(ps:List AJ)(q:Nat):Prop:=q=first\/∃p∈ps,p.t=q
structure AA(k e:Nat)(G:Gr)(ps:List AJ)(G':Gr):Prop where
 ok:G'.Ok
 size:G.n<G'.n/\G'.n<=G.n+1+k
 edges:G'.e<=G.e+e
 keep:∀q,q<G.n->G'.mo q=G.mo q/\G'.ho q=G.ho q
 fm:G'.mo G.n=[]
 fh:∀x,x∈G'.ho G.n↔∃p∈ps,p.h=x
 ts:∀p∈ps,G.n<p.t/\p.t<G'.n/\G'.mo p.t=[]/\G'.ho p.t=[]
 br:∀p∈ps,∀Gf f,gZ G' Gf f G.n G'.n (A6 G.n ps)->Reads Gf f p.A p.h p.t
noncomputable def j1(G:Gr)(ts:List Nat)(last:Nat):Gr:=ts.foldl (λG t=>G.addHop t last) G
theorem zS{last:Nat}:∀(ts:List Nat) (G:Gr),G.Ok->(∀t∈ts,t<G.n/\(G.ho t=[]\/G.ho t=[last]))->(j1 G ts last).Ok/\(j1 G ts last).n=G.n/\(j1 G ts last).e=G.e/\(∀q,(j1 G ts last).mo q=G.mo q)/\
  (∀q,q∉ts->(j1 G ts last).ho q=G.ho q)/\∀t,t∈ts\/G.ho t=[last]->(j1 G ts last).ho t=[last]
 |[]=>λG o w_=>⟨o,rfl,rfl,λw_=>rfl,λw_ w_=>rfl,λt h=>h.elim (λh=>(nomatch h)) id⟩
 |t::ts=>λG o h=>by
  have ht:=h t (bF ..);have e1: (G.addHop t last).ho t=[last]:=by
   rcases ht.2 with e|e
   ·exact Gr.ho_hop_nil o ht.1 e
   ·refine ao (Gr.ho_hop o ht.1) (ao e ?_);simp
  refine Aj (zS ts (G.addHop t last) o.hop λq hq=>by
   refine⟨by refine ao Gr.n_hop ?_;exact(h q (bA _ hq)).1,?_⟩;by_cases z:q=t
   ·clear hq;subst z;exact .inr e1
   ·refine ao (Gr.ho_hop_ne z) ?_;exact(h q (bA _ hq)).2) λa b c d x y=>?_
  refine⟨a,b.trans Gr.n_hop,c.trans Gr.e_hop,λq=>(d q).trans Gr.mo_hop,λq hq=>?_,λq hq=>y q ?_⟩
  ·rw[a9,not_or]at hq
   exact(x q hq.2).trans (Gr.ho_hop_ne hq.1)
  ·by_cases z:q=t
   ·clear hq y x d c b a ht h;subst z;exact .inr e1
   ·refine ao (Gr.ho_hop_ne z) ?_
    exact hq.imp (λw=>(a9.mp w).resolve_left z) id
section
variable{k k' e e':Nat}{G bK fP:Gr}{A B:Lg}{h t cA yY:Nat}{ps:List AJ}
theorem Seg.reads(s:Seg k e G A bK h t){Gf:Gr}{f:Nat}(ag:gZ bK Gf f G.n bK.n (·=t)):Reads Gf f A h t:=⟨s.sound Gf f ag,s.compl Gf f ag⟩
theorem AA.nil(o:G.Ok):AA 0 0 G [] G.addState where
 ok:=o.state
 size:=by refine ao Gr.n_state ?_;exact⟨ci (nat_lit 0x2c1258245) rfl,ci (nat_lit 0xa5825258245) rfl⟩
 edges:=by refine ao Gr.e_state ?_;exact aG _
 keep:=λq w_=>⟨Gr.mo_state,Gr.ho_state⟩
 fm:=Gr.mo_state.trans (Gr.mo_ge (aG _))
 fh:=λx=>by refine ao Gr.ho_state (ao (Gr.ho_ge o (aG _)) ?_);simp
 ts:=λp hp=>(nomatch hp)
 br:=λp hp=>(nomatch hp)
theorem AA.snoc(a:AA k e G ps bK)(s:Seg k' e' bK A fP h t):AA (k+k') (e+e') G (ps++[⟨A,h,t⟩]) (fP.addHop G.n h):=by
 have i1:=a.size;have i2:=s.size;have i3:=s.ht;have i5:=a.edges;have i6:=s.edges;have kp:∀q,q≠G.n->(fP.addHop G.n h).mo q=fP.mo q/\(fP.addHop G.n h).ho q=fP.ho q:=λq hq=>⟨Gr.mo_hop,Gr.ho_hop_ne hq⟩;have n3: (fP.addHop G.n h).n=fP.n:=Gr.n_hop;have k1:∀q,q≠G.n->q<bK.n->(fP.addHop G.n h).mo q=bK.mo q/\(fP.addHop G.n h).ho q=bK.ho q:=λq h1 h2=>⟨(kp q h1).1.trans (s.keep q h2).1,(kp q h1).2.trans (s.keep q h2).2⟩;refine⟨s.ok.hop,by exact⟨ir (nat_lit 0x1ac12288631042158241) rfl i1.1 i2.1 n3,J6 (nat_lit 0x20a4b0ca4528ca2202430896194801) rfl i1.2 i2.2 n3⟩,by refine ao Gr.e_hop ?_;exact uk (nat_lit 0x4148321948090c220c801) rfl i5 i6,λq hq=>?_,by exact ao Gr.mo_hop (ao ((s.keep _ i1.1).1) (ao a.fm rfl)),λx=>?_,λp hp=>?_,λp hp Gf f ag=>?_⟩
 ·obtain⟨x,y⟩:=k1 q (by exact λq0=>bt (nat_lit 0x806158241) rfl hq q0) (by exact b9 (nat_lit 0x5629140b1482158241) rfl i1.1 hq);obtain⟨x',y'⟩:=a.keep q hq
  exact⟨x.trans x',y.trans y'⟩
 ·rewrite[Gr.mem_hop s.ok (by exact b9 (nat_lit 0x2582451042158241) rfl i1.1 i2.1)];refine ao ((s.keep _ i1.1).2) ?_;rewrite[a.fh]
  simp only[aI,aq];constructor
  ·rintro(⟨p,hp,rfl⟩|rfl)
   ·exact⟨p,.inl hp,rfl⟩
   ·exact⟨_,.inr rfl,rfl⟩
  ·rintro⟨p,hp|rfl,rfl⟩
   ·exact .inl ⟨p,hp,rfl⟩
   ·exact .inr rfl
 ·rcases aI.mp hp with hp|hp
  ·refine iq (a.ts p hp) λx y z z'=>?_
   obtain⟨m,m'⟩:=k1 p.t (by exact λq0=>bt (nat_lit 0x44158241) rfl x q0) y;exact⟨x,by exact ir (nat_lit 0x12c72281639042218401) rfl i2.1 n3 y,m.trans z,m'.trans z'⟩
  ·cases aq.mp hp
   obtain⟨m,m'⟩:=kp t (by exact λq0=>b9 (nat_lit 0x421042158241) rfl i1.1 i3.1 q0);exact⟨by show G.n<t;exact b9 (nat_lit 0x2582451042158241) rfl i1.1 i3.1,by show t<_;exact b9 (nat_lit 0x2582450886158241) rfl i3.2 n3,m.trans s.tail.1,m'.trans s.tail.2⟩
 ·have mem:∀q,A6 G.n (ps++[⟨A,h,t⟩]) q↔A6 G.n ps q\/q=t:=λq=>by
   unfold A6;simp only[aI,aq];constructor
   ·rintro(h|⟨p,hp|rfl,rfl⟩)
    ·exact .inl (.inl h)
    ·exact .inl (.inr ⟨p,hp,rfl⟩)
    ·exact .inr rfl
   ·rintro((h|⟨p,hp,rfl⟩)|h)
    ·exact .inl h
    ·exact .inr ⟨p,.inl hp,rfl⟩
    ·exact .inr ⟨_,.inr rfl,h.symm⟩
  rcases aI.mp hp with hp|hp
  ·refine a.br p hp Gf f (ag.seg (aG _) (by exact b9 (nat_lit 0x20142218401) rfl i2.1 n3) λq h1 h2 h3=>⟨λz=>?_,k1 q (λz=>h3 (.inl z)) h2⟩)
   rcases(mem q).mp z with z|z
   ·exact h3 z
   ·exact b9 (nat_lit 0x44302c5208401) rfl i3.1 h2 z
  ·cases aq.mp hp
   refine s.reads (ag.seg (by exact bt (nat_lit 0x80a158241) rfl i1.1) (by exact bt (nat_lit 0x128403) rfl n3) λq h1 h2 h3=>⟨λz=>?_,kp q (by exact λq0=>b9 (nat_lit 0x421042158241) rfl i1.1 h1 q0)⟩);rcases(mem q).mp z with(z|⟨p,hp,z⟩)|z
   ·exact b9 (nat_lit 0x421042158241) rfl i1.1 h1 z
   ·have:=(a.ts p hp).2.1;exact b9 (nat_lit 0x1629042218401) rfl h1 z this
   ·exact h3 z
theorem Seg.alt(a:AA k e G ps bK):Seg (k+2) e G (λw=>∃p∈ps,p.A w) (j1 bK.addState (ps.map (·.t)) bK.n) G.n bK.n:=by
 have i1:=a.size;have i5:=a.edges;refine Aj (zS (last:=bK.n) (ps.map (·.t)) bK.addState a.ok.state λt ht=>by
  clear i5 i1;refine bJ (bG.mp ht) ?_;rintro p hp rfl;refine iq (a.ts p hp) ?_;intro _ x _ y;exact⟨by refine ao Gr.n_state ?_;exact bt (nat_lit 0x5864b048a158241) rfl x,.inl (by exact ao Gr.ho_state (ao y rfl))⟩) λo n' e' m' h1 h2=>?_
 rw[Gr.n_state]at n';rw[Gr.e_state]at e';have m2:∀q,(j1 bK.addState (ps.map (·.t)) bK.n).mo q=bK.mo q:=λq=>(m' q).trans Gr.mo_state;have h3:∀q,(∀p∈ps,p.t≠q)->(j1 bK.addState (ps.map (·.t)) bK.n).ho q=bK.ho q:=λq hq=>(h1 q λz=>by refine bJ (bG.mp z) λp hp e=>?_;exact hq p hp e).trans Gr.ho_state;have h4:∀p∈ps,(j1 bK.addState (ps.map (·.t)) bK.n).ho p.t=[bK.n]:=λp hp=>h2 p.t (.inl (jc hp));generalize j1 bK.addState (ps.map (·.t)) bK.n=qa at*;have lo:∀q,q<=G.n->∀p∈ps,p.t≠q:=λq hq p hp=>by have:=(a.ts p hp).1;exact λq0=>b9 (nat_lit 0x4212c3208401) rfl hq this q0
 have hi:∀p∈ps,p.t≠bK.n:=λp hp=>by have:=(a.ts p hp).2.1;exact λq0=>bt (nat_lit 0x806158241) rfl this q0
 have ag1:∀{Gf f},gZ qa Gf f G.n qa.n (·=bK.n)->∀p∈ps,Reads Gf f p.A p.h p.t:=λag p hp=>a.br p hp _ _ (ag.seg (aG _) (by exact bt (nat_lit 0x4ab0c803) rfl n') λq h1 h2 h3'=>⟨by exact λq0=>bt (nat_lit 0x806158241) rfl h2 q0,m2 q,h3 q λp hp e=>h3' (.inr ⟨p,hp,e⟩)⟩);refine⟨o,by exact⟨b9 (nat_lit 0x2015619086158241) rfl i1.1 n',ir (nat_lit 0x30520c865582431096194801) rfl i1.2 n'⟩,by exact ir (nat_lit 0x20c86500c420c801) rfl i5 e',by exact⟨ci (nat_lit 0x5) rfl,b9 (nat_lit 0x960915619086158241) rfl i1.1 n'⟩,by exact⟨bt (nat_lit 0x80a158241) rfl i1.1,bt (nat_lit 0xb0c8ab0c803) rfl n'⟩,λq hq=>⟨(m2 q).trans (a.keep q hq).1,(h3 q (lo q (by exact bt (nat_lit 0x80a158241) rfl hq))).trans (a.keep q hq).2⟩,⟨(m2 _).trans (Gr.mo_ge (aG _)),(h3 _ hi).trans (Gr.ho_ge a.ok (aG _))⟩,λGf f ag i w c=>?_,λGf f ag u v j hu c=>?_⟩
 ·refine eX (ag G.n (aG _) (by exact b9 (nat_lit 0x960915619086158241) rfl i1.1 n') (by exact λq0=>bt (nat_lit 0x806158241) rfl i1.1 q0)) λx y z=>?_
  clear h2 h1 m' e' i5 i1;refine cr (c.hops (x.trans ((m2 _).trans a.fm)) z) ?_;rintro g j rfl hg b;rw[y,h3 _ (lo _ (aG _))]at hg;clear c z y x lo h3;refine bJ ((a.fh g).mp hg) ?_;rintro p hp rfl;clear hg;refine eR ((ag1 ag p hp).1 j w b) ?_;rintro u v C7 q1 rfl hu d;refine iq (a.ts p hp) λleft t1 t2 t3=>?_;refine eX (ag p.t (by exact bt (nat_lit 0x80a158241) rfl left) (by exact b9 (nat_lit 0x1629142b1482b0c803) rfl n' t1) (hi p hp)) λx' y' z'=>?_;clear t3 t1 left b ag ag1 hi n' a;refine bJ (d.hop1 (x'.trans ((m2 _).trans t2)) (y'.trans (h4 p hp)) z') ?_;rintro OV rfl d';exact⟨u,v,OV,by exact bt (nat_lit 0x161900a158241) rfl q1,rfl,⟨p,hp,hu⟩,d'⟩
 ·refine bJ hu ?_;clear hu;intro p hp hu
  refine iq (a.ts p hp) λleft t1 t2 t3=>?_;refine eX (ag p.t (by exact bt (nat_lit 0x80a158241) rfl left) (by exact b9 (nat_lit 0x1629142b1482b0c803) rfl n' t1) (hi p hp)) λx' y' z'=>?_;obtain⟨i,d⟩:=(ag1 ag p hp).2 u v (j+1) hu (.hop (by refine ao y' (ao (h4 p hp) ?_);exact aq.mpr rfl) c);refine eX (ag G.n (aG _) (by exact b9 (nat_lit 0x960915619086158241) rfl i1.1 n') (by exact λq0=>bt (nat_lit 0x806158241) rfl i1.1 q0)) λx y z=>?_;exact⟨_,.hop (by refine ao y (ao (h3 _ (lo _ (aG _))) ?_);exact(a.fh _).mpr ⟨p,hp,rfl⟩) d⟩
structure Be(k e lo j:Nat)(G:Gr)(A:Lg)(G':Gr)(last en:Nat):Prop where
 ok:G'.Ok
 size:G.n<=G'.n/\G'.n<=G.n+k
 edges:G'.e<=G.e+e
 keep:∀q,q<G.n->G'.mo q=G.mo q/\G'.ho q=G.ho q
 rl:G.n<=last/\last<G'.n/\last≠en
 re:G.n<=en/\en<G'.n/\G.n<G'.n
 ol:G'.mo last=[]/\G'.ho last=[en]
 oe:G'.mo en=[]/\G'.ho en=[]
 sound:∀Gf f,gZ G' Gf f G.n G'.n (λq=>q=en\/q=last)->∀i w,sJ Gf f i G.n w->∃u v i',i'<=i/\w=u++v/\(((∃n,lo<=n/\n<lo+j/\fg A n u)/\sJ Gf f i' en v)\/(fg A (lo+j) u/\sJ Gf f i' last v))
 compl:∀Gf f,gZ G' Gf f G.n G'.n (λq=>q=en\/q=last)->∀u v i,(((∃n,lo<=n/\n<lo+j/\fg A n u)/\sJ Gf f i en v)\/(fg A (lo+j) u/\sJ Gf f i last v))->∃i,sJ Gf f i G.n (u++v)
theorem Be.init{lo:Nat}(s:Seg k e G (fg A lo) bK G.n t):Be (k+1) e lo 0 G A (bK.addState.addHop t bK.n) t bK.n:=by
 have i1:=s.size;have i3:=s.ht;have i5:=s.edges;have i6:=s.hh;have n2:bK.addState.n=bK.n+1:=Gr.n_state;have n3: (bK.addState.addHop t bK.n).n=bK.n+1:=Gr.n_hop.trans n2;have kp:∀q,q≠t->(bK.addState.addHop t bK.n).mo q=bK.mo q/\(bK.addState.addHop t bK.n).ho q=bK.ho q:=λq hq=>⟨Gr.mo_hop.trans Gr.mo_state,(Gr.ho_hop_ne hq).trans Gr.ho_state⟩;have ag1:∀{Gf f},gZ (bK.addState.addHop t bK.n) Gf f G.n (bK.addState.addHop t bK.n).n (λq=>q=bK.n\/q=t)->gZ bK Gf f G.n bK.n (·=t):=λag=>ag.seg (aG _) (by exact bt (nat_lit 0x4ab0c803) rfl n3) λq h1 h2 h3=>⟨by lia,kp q h3⟩;refine⟨s.ok.state.hop,by exact⟨b9 (nat_lit 0x8055864218401) rfl i1.1 n3,ir (nat_lit 0xb148321956090c420c801) rfl i1.2 n3⟩,by refine ao Gr.e_hop (ao Gr.e_state ?_);exact i5,λq hq=>?_,by exact⟨bt (nat_lit 0x2028401) rfl i3.1,⟨b9 (nat_lit 0x960915619086158241) rfl i3.2 n3,λq0=>bt (nat_lit 0x806158241) rfl i3.2 q0⟩⟩,by exact⟨bt (nat_lit 0x2028401) rfl i1.1,⟨bt (nat_lit 0xb0c8ab0c803) rfl n3,b9 (nat_lit 0x2582455864218401) rfl i1.1 n3⟩⟩,⟨Gr.mo_hop.trans (Gr.mo_state.trans s.tail.1),Gr.ho_hop_nil s.ok.state (by exact b9 (nat_lit 0x960915619086158241) rfl i3.2 n2) (by exact ao Gr.ho_state (ao (s.tail.2) rfl))⟩,
  ⟨(kp _ (by exact λq0=>bt (nat_lit 0x44158241) rfl i3.2 q0)).1.trans (Gr.mo_ge (aG _)),(kp _ (by exact λq0=>bt (nat_lit 0x44158241) rfl i3.2 q0)).2.trans (Gr.ho_ge s.ok (aG _))⟩,λGf f ag i w a=>?_,λGf f ag u v i hu=>?_⟩
 ·obtain⟨x,y⟩:=kp q (by exact λq0=>b9 (nat_lit 0x44302c5208401) rfl i3.1 hq q0);obtain⟨x',y'⟩:=s.keep q hq
  exact⟨x.trans x',y.trans y'⟩
 ·refine eR (s.sound Gf f (ag1 ag) i w a) λu v j h1 h2 h3 h4=>?_
  exact⟨u,v,j,h1,h2,.inr ⟨h3,h4⟩⟩
 ·rcases hu with⟨⟨n,h1,h2,_⟩,_⟩|⟨h1,h2⟩
  ·lia
  ·exact s.compl Gf f (ag1 ag) u v i h1 h2
theorem Be.step{lo j last en:Nat}(o:Be k e lo j G A bK last en)(s:Seg k' e' bK A fP h t):Be (k+k') (e+e') lo (j+1) G A ((fP.addHop last h).addHop t en) t en:=by
 have i1:=o.size;have i2:=s.size;have i3:=s.ht;have i4:=o.rl;have i5:=o.re;have i6:=o.edges;have i7:=s.edges;have i8:=s.hh;have n3: ((fP.addHop last h).addHop t en).n=fP.n:=Gr.n_hop.trans Gr.n_hop;have kp:∀q,q≠last->q≠t->((fP.addHop last h).addHop t en).mo q=fP.mo q/\((fP.addHop last h).addHop t en).ho q=fP.ho q:=λq h1 h2=>⟨Gr.mo_hop.trans Gr.mo_hop,(Gr.ho_hop_ne h2).trans (Gr.ho_hop_ne h1)⟩;have k1:∀q,q≠last->q<bK.n->((fP.addHop last h).addHop t en).mo q=bK.mo q/\((fP.addHop last h).addHop t en).ho q=bK.ho q:=λq h1 h2=>⟨(kp q h1 (by exact λq0=>b9 (nat_lit 0x44302c5208401) rfl i3.1 h2 q0)).1.trans (s.keep q h2).1,(kp q h1 (by exact λq0=>b9 (nat_lit 0x44302c5208401) rfl i3.1 h2 q0)).2.trans (s.keep q h2).2⟩;have lm: ((fP.addHop last h).addHop t en).mo last=[]:=Gr.mo_hop.trans (Gr.mo_hop.trans ((s.keep _ i4.2.1).1.trans o.ol.1));have lh:∀x,x∈((fP.addHop last h).addHop t en).ho last↔x=en\/x=h:=λx=>by
  refine ao (Gr.ho_hop_ne (by exact λq0=>b9 (nat_lit 0x44302c5208401) rfl i3.1 i4.2.1 q0)) ?_;rewrite[Gr.mem_hop s.ok (by exact b9 (nat_lit 0x158a4502c5208401) rfl i2.1 i4.2.1)];refine ao ((s.keep _ i4.2.1).2) ?_;refine ao (o.ol.2) ?_;rewrite[aq];with_reducible rfl
 have tm: ((fP.addHop last h).addHop t en).mo t=[]:=Gr.mo_hop.trans (Gr.mo_hop.trans s.tail.1);have th: ((fP.addHop last h).addHop t en).ho t=[en]:=by
  rw[Gr.ho_hop_nil s.ok.hop (by refine ao Gr.n_hop ?_;exact bt (nat_lit 0x2b048a158241) rfl i3.2)];exact ao (Gr.ho_hop_ne (by exact λq0=>b9 (nat_lit 0x82202c5208401) rfl i3.1 i4.2.1 q0)) (ao (s.tail.2) rfl)
 have o3: ((fP.addHop last h).addHop t en).Ok:=s.ok.hop.hop;have e3: ((fP.addHop last h).addHop t en).e=fP.e:=Gr.e_hop.trans Gr.e_hop;generalize(fP.addHop last h).addHop t en=qa at*;have ag1:∀{Gf f},gZ qa Gf f G.n qa.n (λq=>q=en\/q=t)->gZ bK Gf f G.n bK.n (λq=>q=en\/q=last):=λag=>ag.seg (aG _) (by exact b9 (nat_lit 0x20142218401) rfl i2.1 n3) λq h1 h2 h3=>⟨by lia,k1 q (by lia) h2⟩;have ag2:∀{Gf f},gZ qa Gf f G.n qa.n (λq=>q=en\/q=t)->gZ fP Gf f bK.n fP.n (·=t):=λag=>ag.seg (by exact bt (nat_lit 0x2028401) rfl i1.1) (by exact bt (nat_lit 0x128403) rfl n3) λq h1 h2 h3=>⟨by lia,kp q (by exact λq0=>b9 (nat_lit 0x421042158241) rfl i4.2.1 h1 q0) h3⟩;refine⟨o3,by exact⟨ir (nat_lit 0x180a218c4108401) rfl i1.1 i2.1 n3,J6 (nat_lit 0x20a41914a32888090c220c801) rfl i1.2 i2.2 n3⟩,by exact J6 (nat_lit 0x20a41914a32888090c220c801) rfl i6 i7 e3,λq hq=>?_,by exact⟨b9 (nat_lit 0x20144108401) rfl i1.1 i3.1,⟨b9 (nat_lit 0x2582450886158241) rfl i3.2 n3,λq0=>b9 (nat_lit 0x82202c5208401) rfl i3.1 i5.2.1 q0⟩⟩,by exact⟨bt (nat_lit 0x2028401) rfl i5.1,⟨ir (nat_lit 0x1ac522846302c5208401) rfl i2.1 i5.2.1 n3,ir (nat_lit 0x1ac522846302c5208401) rfl i2.1 i5.2.2 n3⟩⟩,⟨tm,th⟩,⟨(k1 en (by lia) i5.2.1).1.trans o.oe.1,(k1 en (by lia) i5.2.1).2.trans o.oe.2⟩,λGf f ag i w a=>?_,λGf f ag u v i hu=>?_⟩
 ·obtain⟨x,y⟩:=k1 q (by exact λq0=>b9 (nat_lit 0x44302c5208401) rfl i4.1 hq q0) (by exact b9 (nat_lit 0x158a4502c5208401) rfl i1.1 hq);obtain⟨x',y'⟩:=o.keep q hq
  exact⟨x.trans x',y.trans y'⟩
 ·refine nE (o.sound Gf f (ag1 ag) i w a) ?_;rintro u v i' h1 rfl h2
  rcases h2 with⟨⟨n,p1,p2,p3⟩,b⟩|⟨p,b⟩
  ·exact⟨u,v,i',h1,rfl,.inl ⟨⟨n,p1,by exact b9 (nat_lit 0x58a4192c122883258241) rfl p2,p3⟩,b⟩⟩
  ·refine eX (ag last (by exact bt (nat_lit 0x2028401) rfl i4.1) (by exact ir (nat_lit 0x1ac522846302c5208401) rfl i2.1 i4.2.1 n3) (by lia)) λx y z=>?_
   clear a ag1 e3 th tm k1 kp n3 i8 i7 i6 i5 i4 i3 i2 i1 o;refine cr (b.hops (x.trans lm) z) ?_;rintro g j' rfl hg c;rw[y,lh]at hg;rcases hg with rfl|rfl
   ·exact⟨u,v,j',by exact bt (nat_lit 0x80a158241) rfl h1,rfl,.inl ⟨⟨lo+j,by exact bt (nat_lit 0x104805) rfl,by exact bt (nat_lit 0x2c320496104a45) rfl,p⟩,c⟩⟩
   ·clear lh b z y x lm;refine eR (s.sound Gf f (ag2 ag) j' v c) ?_;rintro u' v' C7 q1 rfl hu' d
    exact⟨u++u',v',C7,by exact b9 (nat_lit 0x4450082158241) rfl h1 q1,by rw[aJ],.inr ⟨f8.mpr ⟨u,u',rfl,p,hu'⟩,d⟩⟩
 ·rcases hu with⟨⟨n,p1,p2,p3⟩,b⟩|⟨p,b⟩
  ·by_cases hn:n<lo+j
   ·exact o.compl Gf f (ag1 ag) u v i (.inl ⟨⟨n,p1,hn,p3⟩,b⟩)
   ·refine eX (ag last (by exact bt (nat_lit 0x2028401) rfl i4.1) (by exact ir (nat_lit 0x1ac522846302c5208401) rfl i2.1 i4.2.1 n3) (by lia)) λx y z=>?_
    have:n=lo+j:=by exact aN (b9 (nat_lit 0x41900ab1483258241) rfl p2) (b9 (nat_lit 0x8322883258244) rfl hn)
    clear hn p2 p1;subst this;exact o.compl Gf f (ag1 ag) u v (i+1) (.inr ⟨p3,.hop (by refine ao y ?_;rewrite[lh];exact .inl rfl) b⟩)
  ·refine cr (f8.mp p) ?_;rintro p' q' rfl hp hq
   obtain⟨OX,c⟩:=s.compl Gf f (ag2 ag) q' v i hq b;refine eX (ag last (by exact bt (nat_lit 0x2028401) rfl i4.1) (by exact ir (nat_lit 0x1ac522846302c5208401) rfl i2.1 i4.2.1 n3) (by lia)) λx y z=>?_;obtain⟨OY,d⟩:=o.compl Gf f (ag1 ag) p' (q'++v) (OX+1) (.inr ⟨hp,.hop (by refine ao y ?_;rewrite[lh];exact .inr rfl) c⟩);exact⟨OY,by rw[aJ];exact d⟩
theorem Be.fin{lo j last en:Nat}(o:Be k e lo j G A bK last en):Seg k e G (λw=>∃n,lo<=n/\n<=lo+j/\fg A n w) bK G.n en:=by
 have i1:=o.size;have i4:=o.rl;have i5:=o.re;have ag1:∀{Gf f},gZ bK Gf f G.n bK.n (·=en)->gZ bK Gf f G.n bK.n (λq=>q=en\/q=last):=λag=>ag.seg (aG _) (aG _) λq h1 h2 h3=>⟨by lia,rfl,rfl⟩;refine⟨o.ok,o.size,o.edges,⟨aG _,i5.2.2⟩,⟨i5.1,i5.2.1⟩,o.keep,o.oe,λGf f ag i w a=>?_,λGf f ag u v i hu a=>?_⟩
 ·refine nE (o.sound Gf f (ag1 ag) i w a) ?_;rintro u v i' h1 rfl h2
  rcases h2 with⟨⟨n,p1,p2,p3⟩,b⟩|⟨p,b⟩
  ·exact⟨u,v,i',h1,rfl,⟨n,p1,by exact b9 (nat_lit 0x106402883258241) rfl p2,p3⟩,b⟩
  ·refine eX (ag last (by exact bt (nat_lit 0x2028401) rfl i4.1) (by exact bt (nat_lit 0x2b048a158241) rfl i4.2.1) (by lia)) λx y z=>?_
   clear a ag ag1 i5 i4 i1;refine bJ (b.hop1 (x.trans o.ol.1) (y.trans o.ol.2) z) ?_;rintro j' rfl c;exact⟨u,v,j',by exact bt (nat_lit 0x80a158241) rfl h1,rfl,⟨lo+j,by exact bt (nat_lit 0x104805) rfl,by exact bt (nat_lit 0x41208245) rfl,p⟩,c⟩
 ·refine d4 hu λn p1 p2 p3=>?_;clear hu
  by_cases hn:n<lo+j
  ·exact o.compl Gf f (ag1 ag) u v i (.inl ⟨⟨n,p1,hn,p3⟩,a⟩)
  ·refine eX (ag last (by exact bt (nat_lit 0x2028401) rfl i4.1) (by exact bt (nat_lit 0x2b048a158241) rfl i4.2.1) (by lia)) λx y z=>?_
   have:n=lo+j:=by exact aN (b9 (nat_lit 0x41900a20c801) rfl p2) (b9 (nat_lit 0x8322883258244) rfl hn)
   clear hn p2 p1;subst this;exact o.compl Gf f (ag1 ag) u v (i+1) (.inr ⟨p3,.hop (by refine ao y (ao (o.ol.2) ?_);exact aq.mpr rfl) a⟩)
end
noncomputable def NL(G:Gr)(f q:Nat)(w:Wd):Prop:=∃i,sJ G f i q w
inductive nC(G:Gr):Nat->Nat->Prop
 |refl {q}:nC G q q
 |step {q g s}:g∈G.ho q->nC G g s->nC G q s
theorem nC.snoc{G:Gr}{q s g:Nat}(h:nC G q s)(hg:g∈G.ho s):nC G q g:=by
 induction h with
 |refl=>exact .step hg .refl
 |step a _ ih=>exact .step a (ih hg)
noncomputable def HZ(G:Gr)(f q b:Nat):Prop:=nC G q b/\(G.mo b≠ []\/b=f)
noncomputable def zn(G:Gr)(f q m:Nat):Prop:=∀b,m.testBit b=true↔HZ G f q b
noncomputable def qX(G:Gr)(f M a M':Nat):Prop:=∀b,M'.testBit b=true↔∃s m g,M.testBit s=true/\(m,g)∈G.mo s/\m.testBit a=true/\HZ G f g b
noncomputable def FX(G:Gr)(f:Nat)(S:Nat->Prop)(M:Nat):Prop:=∀b,M.testBit b=true↔∃g,S g/\HZ G f g b
section
variable{G:Gr}{f q:Nat}{w:Wd}
theorem Gg{k e:Nat}{A:Lg}{bK:Gr}{h t:Nat}(s:Seg k e (Gr.addState ⟨[],[]⟩) A bK h t):NL (bK.addHop 0 h) t 0 w↔A w:=by
 have i1:=s.size;have i2:=s.hh;have i3:=s.ht;have n0: (Gr.addState ⟨[],[]⟩).n=1:=rfl;have k0:=s.keep 0 (by exact ci (nat_lit 0x2d522ac03) rfl n0);have h0: (bK.addHop 0 h).ho 0=[h]:=Gr.ho_hop_nil s.ok (by exact bt (nat_lit 0x2b548a158241) rfl i2.2) k0.2;have m0: (bK.addHop 0 h).mo 0=[]:=Gr.mo_hop.trans k0.1;have ag:gZ bK (bK.addHop 0 h) t (Gr.addState ⟨[],[]⟩).n bK.n (·=t):=λq h1 h2 h3=>⟨Gr.mo_hop,Gr.ho_hop_ne (by exact λq0=>bt (nat_lit 0xa088200ac03) rfl n0 h1 q0),h3⟩;have mt: (bK.addHop 0 h).mo t=[]:=Gr.mo_hop.trans s.tail.1;have ht: (bK.addHop 0 h).ho t=[]:=(Gr.ho_hop_ne (by exact λq0=>bt (nat_lit 0xa0896018401) rfl i3.1 n0 q0)).trans s.tail.2;constructor
 ·rintro⟨i,a⟩
  clear k0 i2 i1;refine bJ (a.hop1 m0 h0 (by exact λq0=>bt (nat_lit 0x150d6018401) rfl i3.1 n0 q0)) ?_;rintro j rfl b;clear a m0 h0 n0 i3;refine eR (s.sound _ t ag j w b) ?_;rintro u v j' _ rfl hu c;cases c with
  |done=>rw[be];exact hu
  |hop x=>rw[ht]at x;clear a_1;cases x
  |move x=>rw[mt]at x;clear a_3 a_2;cases x
 ·intro a
  obtain⟨i,b⟩:=s.compl _ t ag w [] 0 a .done;exact⟨i+1,.hop (by refine ao h0 ?_;exact aq.mpr rfl) (by rwa [be]at b)⟩
theorem NL.of_reach{s:Nat}(h:nC G q s)(a:NL G f s w):NL G f q w:=by
 induction h with
 |refl=>exact a
 |step x _ ih=>obtain⟨i,b⟩:=ih a;exact⟨i+1,.hop x b⟩
theorem ty:NL G f q []↔nC G q f:=by
 constructor
 ·rintro⟨i,a⟩
  generalize hw: ([]:Wd)=w at a
  induction a with
  |done=>exact .refl
  |hop x _ ih=>exact .step x (ih hw)
  |move=>cases hw
 ·exact λh=> .of_reach h ⟨0,.done⟩
theorem rf{a:Nat}:NL G f q (a::w)↔∃s m g,nC G q s/\(m,g)∈G.mo s/\m.testBit a=true/\NL G f g w:=by
 constructor
 ·rintro⟨i,h⟩
  generalize hw:a::w=w' at h
  induction h with
  |done=>cases hw
  |hop x _ ih=>refine kC (ih hw) λs m g r z=>?_;exact⟨s,m,g,.step x r,z⟩
  |move x y z=>cases hw;exact⟨_,_,_,.refl,x,y,_,z⟩
 ·rintro⟨s,m,g,r,x,y,i,z⟩
  exact .of_reach r ⟨i+1,.move x y z⟩
theorem FX.nil{S:Nat->Prop}{M:Nat}(h:FX G f S M):M.testBit f=true↔∃g,S g/\NL G f g []:=by
 rw[h f];exact exists_congr λg=>and_congr_right λw_=>⟨λz=>ty.mpr z.1,λz=>⟨ty.mp z,.inr rfl⟩⟩
theorem FX.after{S:Nat->Prop}{M a M':Nat}(h:FX G f S M)(h':qX G f M a M'):∃S',FX G f S' M'/\∀w,(∃g,S g/\NL G f g (a::w))↔∃g,S' g/\NL G f g w:=by
 refine⟨λg=>∃s m,M.testBit s=true/\(m,g)∈G.mo s/\m.testBit a=true,λb=>?_,λw=>?_⟩
 ·rw[h' b]
  constructor
  ·rintro⟨s,m,g,x,y,z,i⟩;exact⟨g,⟨s,m,x,y,z⟩,i⟩
  ·rintro⟨g,⟨s,m,x,y,z⟩,i⟩;exact⟨s,m,g,x,y,z,i⟩
 ·constructor
  ·rintro⟨g,hg,n⟩
   refine eR (rf.mp n) λs m g' r x y z=>?_;exact⟨g',⟨s,m,(h s).mpr ⟨g,hg,r,.inl λe=>by rw[e]at x;cases x⟩,x,y⟩,z⟩
  ·rintro⟨g',⟨s,m,x,y,z⟩,n⟩
   refine d4 ((h s).mp x) ?_;intro g hg r _;exact⟨g,hg,rf.mpr ⟨s,m,g',r,y,z,n⟩⟩
theorem HZ.lt{b:Nat}(hf:f<G.n)(h:HZ G f q b):b<G.n:=by
 rcases h.2 with h|h
 ·exact kJ λz=>h (Gr.mo_ge z)
 ·exact h▸hf
end
theorem gI{α:Type} [DecidableEq α]:∀{l l':List α},l.Nodup->(∀x∈l,x∈l')->l.length<=l'.length
 |[],_,_,_=>bg _
 |x::l,l',h,hs=>by
  have hx:=hs x (bF ..);have:=gI (l:=l) (l':=l'.erase x) (cC.mp h).2 λy hy=>(List.mem_erase_of_ne λ(e:y=x)=>(cC.mp h).1 (by refine dk e ?_;exact hy)).mpr (hs y (bA _ hy));rw[List.length_erase_of_mem hx]at this;have:=List.length_pos_of_mem hx;simp;lia
noncomputable def CE{α:Type}:List α->List (List α)
 |[]=>[[]]
 |x::l=>CE l++(CE l).map (x::·)
theorem vI{α:Type}:∀l:List α,(CE l).length=2 ^ l.length
 |[]=>rfl
 |x::l=>by
  show(CE l++(CE l).map (x::·)).length=2 ^ (l.length+1);refine ao aC ?_;rewrite[ai];refine ao (vI l) ?_;rewrite[Nat.pow_succ];rewrite[Nat.mul_two];with_reducible rfl
theorem Cm{α:Type}:∀l:List α,[]∈CE l
 |[]=>aq.mpr rfl
 |_::l=>bh _ (Cm l)
theorem qG{α:Type}(p:α->Bool):∀l:List α,l.filter p∈CE l
 |[]=>aq.mpr rfl
 |x::l=>by
  refine ao pi ?_;split
  ·exact aL _ (jc (qG p l))
  ·exact bh _ (qG p l)
structure Da where
 rows:List (List Int)
 tags:List Bool
namespace Da
noncomputable def goal(D:Da)(i:Int)(a:Nat):Int:=if i=-1 then -1 else(((D.rows[i.toNat]?).getD [])[a]?).getD (-1)
noncomputable def tag(D:Da)(i:Int):Bool:=if i=-1 then false else(D.tags[i.toNat]?).getD false
noncomputable def acc(D:Da):Int->Wd->Bool
 |i,[]=>D.tag i
 |i,a::w=>D.acc (D.goal i a) w
structure Ok(D:Da)(c:Nat):Prop where
 pos:0<D.rows.length
 tags:D.tags.length=D.rows.length
 row:∀r∈D.rows,r.length=c/\∀x∈r,(-1:Int)<=x/\x< (D.rows.length:Int)
structure Is(D:Da)(c e:Nat)(L:Lg):Prop where
 ok:D.Ok c
 len:D.rows.length<=2 ^ e+1
 gl:∃gl:List Int,gl.length<=2 ^ e/\-1∈gl/\∀r∈D.rows,∀x∈r,x∈gl
 acc:∀w,(∀a∈w,a<c)->(D.acc 0 w=true↔L w)
end Da
structure qP(G:Gr)(f c:Nat)(order:List Nat)(rows:List (List Int)):Prop where
 nd:order.Nodup
 zero:∃M rest,order=M::rest/\zn G f 0 M/\∀M'∈rest,∃M a,qX G f M a M'
 len:rows.length<=order.length
 row:∀(i:Nat) (r:List Int),rows[i]?=some r->∃M,order[i]?=some M/\r.length=c/\∀(a:Nat) (x:Int),r[a]?=some x->∃M',qX G f M a M'/\((M'=0/\x=-1)\/∃j:Nat,order[j]?=some M'/\M'≠0/\x=j)
noncomputable def Gr.edges(G:Gr):List (Nat×Nat×Nat):=(bN G.n).flatMap λs=>(G.mo s).map λp=>(s,p)
theorem Gr.edges_length(G:Gr):G.edges.length=G.e:=by
 unfold edges e mo n;refine ao List.length_flatMap ?_;congr 1;apply List.ext_getElem?;intro i;simp only[bb,ai];by_cases h:i<G.mv.length
 ·refine ao (l9 h) (ao (ah h) ?_);simp[ah h]
 ·refine ao (cq (by simpa using h)) (ao (cq (by simpa using h)) ?_);rfl
theorem Gr.mem_edges{G:Gr}{s m g:Nat}: (s,m,g)∈G.edges↔(m,g)∈G.mo s:=by
 unfold edges;simp only[pj,du,bG];constructor
 ·rintro⟨s',_,p,hp,e⟩;cases e;exact hp
 ·intro h
  exact⟨s,kJ λz=>(by rw[Gr.mo_ge z]at h;cases h),_,h,rfl⟩
noncomputable def imgs(G:Gr)(f:Nat):List Nat:=(CE G.edges).map λT=>Classical.epsilon λM':Nat=>∀b,M'.testBit b=true↔∃x∈T,HZ G f x.2.2 b
theorem vJ(G:Gr)(f:Nat): (imgs G f).length=2 ^ G.e:=by rw[imgs,ai,vI,Gr.edges_length]
theorem Fs(G:Gr)(f:Nat):0∈imgs G f:=by
 have h:∀b,(0:Nat).testBit b=true↔∃x∈([]:List (Nat×Nat×Nat)),HZ G f x.2.2 b:=λb=>by simp
 have hz:=pY (p:=λM':Nat=>∀b,M'.testBit b=true↔∃x∈([]:List (Nat×Nat×Nat)),HZ G f x.2.2 b) ⟨0,h⟩;exact bG.mpr ⟨_,Cm _,cK λi=>g8.mpr ((hz i).trans (h i).symm)⟩
theorem qX.imgs{G:Gr}{f M a M':Nat}(h:qX G f M a M'):M'∈imgs G f:=by
 let p:Nat×Nat×Nat->Bool:=λx=>M.testBit x.1 && x.2.1.testBit a;have hm:∀b,M'.testBit b=true↔∃x∈G.edges.filter p,HZ G f x.2.2 b:=λb=>by
  rw[h b];constructor
  ·rintro⟨s,m,g,x,y,z,i⟩
   exact⟨(s,m,g),fG.mpr ⟨Gr.mem_edges.mpr y,by simp[p,x,z]⟩,i⟩
  ·rintro⟨⟨s,m,g⟩,hx,i⟩
   obtain⟨y,xz⟩:=fG.mp hx;obtain⟨x,z⟩:=bo.mp xz;exact⟨s,m,g,x,Gr.mem_edges.mp y,z,i⟩
 refine bG.mpr ⟨_,qG p _,?_⟩;have hz:=pY (p:=λM':Nat=>∀b,M'.testBit b=true↔∃x∈G.edges.filter p,HZ G f x.2.2 b) ⟨M',hm⟩;exact cK λi=>g8.mpr ((hz i).trans (hm i).symm)
theorem qP.order_le{G:Gr}{f c:Nat}{order:List Nat}{rows:List (List Int)}(h:qP G f c order rows):order.length<=2 ^ G.e+1:=by
 obtain⟨M,rest,e,_,hr⟩:=h.zero;have nd:=h.nd;clear left h;subst e;have:=gI (l:=rest) (l':=imgs G f) (cC.mp nd).2 λx hx=>let⟨_,_,z⟩:=hr x hx;z.imgs;rw[vJ]at this;exact c5 (this)
theorem qP.is{G:Gr}{f c:Nat}{order:List Nat}{rows:List (List Int)}(h:qP G f c order rows)(hl:rows.length=order.length)(hc:0<c):Da.Is ⟨rows,order.map (·.testBit f)⟩ c G.e (NL G f 0):=by
 obtain⟨M0,rest,e0,c0,hr⟩:=h.zero;have pos:0<rows.length:=by refine ao hl (ao e0 ?_);exact aj rfl
 have rowOf:∀r∈rows,∃i,rows[i]?=some r:=λr hr=>let⟨i,hi,e⟩:=cX hr;⟨i,by exact ao (ah hi) (ao e rfl)⟩;refine⟨⟨pos,by rw[ai];exact hl.symm,λr hr=>?_⟩,by show rows.length<=_;refine ao hl ?_;exact h.order_le,⟨(imgs G f).map λM=>if M=0 then -1 else((order.idxOf M:Nat):Int),by rw[ai,vJ];exact aG _,bG.mpr ⟨0,Fs G f,rfl⟩,λr hr x hx=>?_⟩,λw hw=>?_⟩
 ·obtain⟨i,hi⟩:=rowOf r hr
  refine d4 (h.row i r hi) ?_;intro M _ l z;refine⟨l,λx hx=>?_⟩;obtain⟨a,ha,e⟩:=cX hx;clear hx hr c0 h;clear hr;refine bJ (z a x (by exact ao (ah ha) (ao e rfl))) ?_;rintro M' _ (q|⟨j,hj,_,rfl⟩)
  ·have:=q.2;lia
  ·have:=(aE.mp hj).1
   show -1<=(j:Int)/\(j:Int)< (rows.length:Nat);lia
 ·obtain⟨i,hi⟩:=rowOf r hr
  refine d4 (h.row i r hi) ?_;intro M _ l z;obtain⟨a,ha,e⟩:=cX hx;refine bJ (z a x (by exact ao (ah ha) (ao e rfl))) λM' hM q=>?_;refine bG.mpr ⟨M',hM.imgs,?_⟩;rcases q with⟨rfl,rfl⟩|⟨j,hj,hn,rfl⟩
  ·rfl
  ·obtain⟨hlt,e⟩:=aE.mp hj
   refine ao (if_neg hn) ?_;refine dk e ?_;rewrite[h.nd.idxOf_getElem];with_reducible rfl
 ·have key:∀(w:Wd),(∀a∈w,a<c)->∀(i:Nat) (M:Nat) (S:Nat->Prop),order[i]?=some M->FX G f S M->(Da.acc ⟨rows,order.map (·.testBit f)⟩ i w=true↔∃g,S g/\NL G f g w):=by
   intro w
   induction w with
   |nil=>
    intro _ i M S hi hS;show Da.tag _ (i:Int)=true↔_;unfold Da.tag;refine ao (if_neg (by lia)) ?_;rewrite[<- hS.nil];simp[hi]
   |cons a w ih=>
    intro hw i M S hi hS;obtain⟨r,hr⟩:∃r,rows[i]?=some r:=⟨_,ah (by refine ao hl ?_;exact(aE.mp hi).1)⟩;refine d4 (h.row i r hr) λPH e1 l z=>?_;rw[hi]at e1;replace e1:=ac e1;subst e1;obtain⟨x,hx⟩:∃x,r[a]?=some x:=⟨_,ah (by refine ao l ?_;exact hw a (bF ..))⟩;refine bJ (z a x hx) λM' hM q=>?_;refine bJ (hS.after hM) λS' hS' hw'=>?_;have eg:Da.goal ⟨rows,order.map (·.testBit f)⟩ (i:Int) a=x:=by
     unfold Da.goal;refine ao (if_neg (by lia)) ?_;simp[hr,hx]
    show Da.acc _ (Da.goal _ (i:Int) a) w=true↔_;refine ao eg ?_;rewrite[hw' w];rcases q with⟨rfl,rfl⟩|⟨j,hj,_,rfl⟩
    ·have no:∀g,S' g->∀b,¬HZ G f g b:=λg hg b hb=>by have:=(hS' b).mpr ⟨g,hg,hb⟩;simp at this
     have dead:∀w:Wd,Da.acc ⟨rows,order.map (·.testBit f)⟩ (-1) w=false:=λw=>by
      induction w with
      |nil=>rfl
      |cons b w ih=>exact ih
     rw[dead];refine⟨λq=>(nomatch q),λ⟨g,hg,n⟩=>?_⟩;cases w with
     |nil=>exact(no g hg f ⟨ty.mp n,.inr rfl⟩).elim
     |cons b w=>
      refine nE (rf.mp n) ?_;intro s m g' r' x' _;exact(no g hg s ⟨r',.inl λe=>by rw[e]at x';clear a_1;cases x'⟩).elim
    ·exact ih (λb hb=>hw b (bA _ hb)) j M' S' hj hS'
  exact(key w hw 0 M0 (·=0) (by refine ao e0 ?_;rfl) λb=>by rw[c0 b];simp).trans ⟨λ⟨g,e,n⟩=>e▸n,λn=>⟨0,rfl,n⟩⟩
theorem tS{α:Type}{P:List α->Prop}(h0:P [])(h1:∀l a,P l->P (l++[a]))(l:List α):P l:=by
 have:∀n (l:List α),l.length=n->P l:=λn=>by
  induction n with
  |zero=>intro l e;refine ao (co.mp e) ?_;exact h0
  |succ n ih=>
   intro l e;have hne:l≠ []:=by rintro rfl;cases e
   refine dk (ca hne) ?_;exact h1 _ _ (ih _ (by simp[e]))
 exact this _ l rfl
namespace Da
noncomputable def run(D:Da)(i:Int)(w:Wd):Int:=w.foldl D.goal i
theorem acc_run(D:Da):∀(w:Wd) (i:Int),D.acc i w=D.tag (D.run i w)
 |[]=>λw_=>rfl
 |a::w=>λi=>acc_run D w (D.goal i a)
theorem run_snoc(D:Da)(i:Int)(w:Wd)(a:Nat):D.run i (w++[a])=D.goal (D.run i w) a:=by simp[run]
theorem Ok.goal{D:Da}{c:Nat}(h:D.Ok c){i:Int}(h1:-1<=i)(h2:i<D.rows.length)(a:Nat):-1<=D.goal i a/\D.goal i a<D.rows.length:=by
 unfold Da.goal;split
 ·have:=h.pos;lia
 ·cases hr:D.rows[i.toNat]? with
  |none=>have:=h.pos;simp;lia
  |some r=>
   have hm:=aX hr;cases hx:r[a]? with
   |none=>have:=h.pos;simp[hx];lia
   |some x=>have:=(h.row r hm).2 x (aX hx);simpa[hx]using this
theorem Ok.run{D:Da}{c:Nat}(h:D.Ok c)(w:Wd):-1<=D.run 0 w/\D.run 0 w<D.rows.length:=by
 induction w using tS with
 |h0=>have:=h.pos;simp[Da.run];exact this
 |h1 w a ih=>rw[run_snoc];exact h.goal ih.1 ih.2 a
end Da
noncomputable def val(c:Nat)(w:Wd):Nat:=w.foldl (λs a=>s*c+(a+1)) 0
theorem iH(c:Nat)(w:Wd)(a:Nat):val c (w++[a])=val c w*c+(a+1):=by simp[val]
theorem HY{c:Nat}{u w:Wd}{a b:Nat}(h:val c u<val c w)(ha:a<c):val c (u++[a])<val c (w++[b]):=by
 rw[iH,iH];have:val c u*c+c<=val c w*c:=by rw[<- kg];exact dh c h
 exact uk (nat_lit 0x2c921c96b04852914611482158241) rfl ha this
theorem BK{c:Nat}{u w:Wd}{a:Nat}(h:val c u<=val c w):val c (u++[a])<=val c (w++[a]):=by
 rw[iH,iH];have:=dh c h;exact b9 (nat_lit 0x1629064b1481228401) rfl this
theorem Cu{c:Nat}(w:Wd)(a:Nat)(ha:a<c):val c w<val c (w++[a]):=by
 rw[iH];have:=pq (val c w) (show 0<c by exact bt (nat_lit 0x2b548a158241) rfl ha);exact b9 (nat_lit 0x58a4192c1228401) rfl this
structure Bfs(D E:Da)(c:Nat)(pairs:List (Int×Int))(ws:List Wd)(at_ m:Nat):Prop where
 len:ws.length=pairs.length
 run:∀(i:Nat) (w:Wd),ws[i]?=some w->(∀a∈w,a<c)/\pairs[i]?=some (D.run 0 w,E.run 0 w)
 nd:pairs.Nodup
 inc:∀(i j:Nat) (u v:Wd),i<j->ws[i]?=some u->ws[j]?=some v->val c u<val c v
 done:∀(i:Nat) (w:Wd) (a:Nat),ws[i]?=some w->(i<at_\/(i=at_/\a<m))->a<c->∃(k:Nat) (u:Wd),ws[k]?=some u/\pairs[k]?=some (D.run 0 (w++[a]),E.run 0 (w++[a]))/\val c u<=val c (w++[a])
 par:∀(k:Nat) (u:Wd),ws[k]?=some u->(k=0/\u=[])\/∃(j a:Nat) (w:Wd),ws[j]?=some w/\j<k/\u=w++[a]/\a<c/\(j<at_\/(j=at_/\a<m))
section
variable{D E:Da}{c:Nat}{pairs:List (Int×Int)}{ws:List Wd}{p m:Nat}
theorem Bfs.init:Bfs D E c [(0,0)] [[]] 0 0 where
 len:=rfl
 run:=λi w h=>by
  cases i with
  |zero=>replace h:=ac h;subst h;exact⟨λa ha=>(nomatch ha),rfl⟩
  |succ i=>exact bx h
 nd:=by exact cb _ _
 inc:=λi j u v h h1 h2=>by
  cases j with
  |zero=>lia
  |succ j=>clear h;exact bx h2
 done:=λi w a h h1=>by lia
 par:=λk u h=>by
  cases k with
  |zero=>replace h:=ac h;subst h;exact .inl ⟨rfl,rfl⟩
  |succ k=>exact bx h
theorem Bfs.first{u:Wd}(b:Bfs D E c pairs ws p m)(h:ws[0]?=some u):u=[]:=by
 rcases b.par 0 u h with⟨_,e⟩|⟨j,a,w,_,h,_⟩
 ·exact e
 ·lia
theorem Bfs.front{kQ u:Wd}{k:Nat}(b:Bfs D E c pairs ws p m)(h:ws[p]?=some kQ)(hk:ws[k]?=some u):val c u<val c (kQ++[m]):=by
 rcases b.par k u hk with⟨_,rfl⟩|⟨j,a,w,h1,_,rfl,ha,h2|⟨rfl,h2⟩⟩
 ·rw[iH];show 0<_;exact bt (nat_lit 0xb0c8125aa45) rfl
 ·exact HY (b.inc j p w kQ h2 h1 h) ha
 ·rw[h]at h1;replace h1:=ac h1;subst h1
  rw[iH,iH];exact b9 (nat_lit 0x16190a4b58242948a158241) rfl h2
theorem Bfs.old{kQ:Wd}(b:Bfs D E c pairs ws p m)(h:ws[p]?=some kQ)(hp: (D.run 0 (kQ++[m]),E.run 0 (kQ++[m]))∈pairs):Bfs D E c pairs ws p (m+1):=
 {b with
  done:=λi w a h1 h2 h3=>by
   by_cases e:i=p/\a=m
   ·clear h3 h2;obtain⟨rfl,rfl⟩:=e
    rw[h]at h1;replace h1:=ac h1;subst h1;obtain⟨k,hk,e⟩:=cX hp;obtain⟨u,hu⟩:∃u,ws[k]?=some u:=⟨_,ah (by refine ao b.len ?_;exact hk)⟩;exact⟨k,u,hu,by exact ao (ah hk) (ao e rfl),mz (b.front h hu)⟩
   ·exact b.done i w a h1 (by lia) h3
  par:=λk u h1=>(b.par k u h1).imp id λq=>eR q λj a w x y z q=>⟨j,a,w,x,y,z,q.1,by exact q.2.elim (λq0=> .inl (bt (nat_lit 0x2b048a158241) rfl q0)) (λq0=> .inr (⟨aN (bt (nat_lit 0x2028402) rfl q0.1) (bt (nat_lit 0x128403) rfl q0.1),bt (nat_lit 0x5864b048a158241) rfl q0.2⟩))⟩}
theorem Bfs.push{kQ:Wd}(b:Bfs D E c pairs ws p m)(h:ws[p]?=some kQ)(hm:m<c)(hp: (D.run 0 (kQ++[m]),E.run 0 (kQ++[m]))∉pairs):
  Bfs D E c (pairs++[(D.run 0 (kQ++[m]),E.run 0 (kQ++[m]))]) (ws++[kQ++[m]]) p (m+1):=by
 have old:∀{k:Nat} {u:Wd},(ws++[kQ++[m]])[k]?=some u->ws[k]?=some u\/(k=ws.length/\u=kQ++[m]):=λ{k u} hk=>by
  by_cases z:k<ws.length
  ·rw[cI z]at hk;exact .inl hk
  ·rw[eC (by exact bt (nat_lit 0x4a158244) rfl z)]at hk
   obtain⟨h1,h2⟩:=aE.mp hk;simp at h1;have:k=ws.length:=by exact aN (b9 (nat_lit 0x445104121a802) rfl h1 (ar (bt (nat_lit 0x4a158244) rfl z))) (bt (nat_lit 0x4a158244) rfl z)
   clear h1 z hk h b;subst this;simp at h2;exact .inr ⟨rfl,h2.symm⟩
 have up:∀{k:Nat} {u:Wd},ws[k]?=some u->(ws++[kQ++[m]])[k]?=some u:=λ{k u} hk=>by
  refine ao (cI (aE.mp hk).1) ?_;exact hk
 have upP:∀{k:Nat} {x:Int×Int},pairs[k]?=some x->(pairs++[(D.run 0 (kQ++[m]),E.run 0 (kQ++[m]))])[k]?=some x:=λ{k u} hk=>by
  refine ao (cI (aE.mp hk).1) ?_;exact hk
 have lw:=(aE.mp h).1;refine⟨by simp[b.len],λi w hi=>?_,?_,λi j u v hij hi hj=>?_,λi w a hi h2 h3=>?_,λk u hk=>?_⟩
 ·rcases old hi with hi|⟨rfl,rfl⟩
  ·exact⟨(b.run i w hi).1,upP (b.run i w hi).2⟩
  ·refine⟨λa ha=>?_,by refine ao b.len ?_;exact eC (aG _)|>.trans (by rw[pZ];rfl)⟩
   rcases aI.mp ha with ha|ha
   ·exact(b.run p kQ h).1 a ha
   ·refine ao (aq.mp ha) ?_;exact hm
 ·exact c7.mpr ⟨b.nd,by exact cb _ _,λx hx y hy e=>by subst e;rw[aq.mp hy]at hx;exact hp hx⟩
 ·rcases old hi with hi|⟨rfl,rfl⟩
  ·rcases old hj with hj|⟨rfl,rfl⟩
   ·exact b.inc i j u v hij hi hj
   ·exact b.front h hi
  ·rcases old hj with hj|⟨rfl,rfl⟩
   ·have:=(aE.mp hj).1;lia
   ·exact bt (nat_lit 0x2b0c8a058241) rfl hij
 ·rcases old hi with hi|⟨rfl,rfl⟩
  ·by_cases e:i=p/\a=m
   ·obtain⟨rfl,rfl⟩:=e
    have hi':kQ=w:=ac (h.symm.trans (by assumption));clear hi upP up old hp h;clear hi;subst hi';exact⟨ws.length,kQ++[a],by exact eC (aG _)|>.trans (by rw[pZ];rfl),by refine ao b.len ?_;exact eC (aG _)|>.trans (by rw[pZ];rfl),aG _⟩
   ·refine cr (b.done i w a hi (by lia) h3) λk u x y z=>?_
    exact⟨k,u,up x,upP y,z⟩
  ·lia
 ·rcases old hk with hk|⟨rfl,rfl⟩
  ·exact(b.par k u hk).imp id λ⟨j,a,w,x,y,z,t,s⟩=>⟨j,a,w,up x,y,z,t,by exact s.elim (λq0=> .inl (bt (nat_lit 0x2b048a158241) rfl q0)) (λq0=> .inr (⟨aN (bt (nat_lit 0x2028402) rfl q0.1) (bt (nat_lit 0x128403) rfl q0.1),bt (nat_lit 0x5864b048a158241) rfl q0.2⟩))⟩
  ·exact .inr ⟨p,m,kQ,up h,lw,rfl,hm,.inr ⟨rfl,bR m⟩⟩
theorem Bfs.next(b:Bfs D E c pairs ws p c):Bfs D E c pairs ws (p+1) 0:=
 {b with
  done:=λi w a h1 h2 h3=>b.done i w a h1 (by lia) h3
  par:=λk u h1=>(b.par k u h1).imp id λq=>eR q λj a w x y z q=>⟨j,a,w,x,y,z,q.1,by exact q.2.elim (λq0=> .inl (bt (nat_lit 0x5864b048a158241) rfl q0)) (λq0=> .inl (bt (nat_lit 0x16192c1228402) rfl q0.1))⟩}
theorem Bfs.cover{kQ:Wd}(b:Bfs D E c pairs ws p 0)(h:ws[p]?=some kQ)(v:Wd): (∀a∈v,a<c)->val c v<val c kQ->∃(k:Nat) (u:Wd),k<p/\ws[k]?=some u/\pairs[k]?=some (D.run 0 v,E.run 0 v)/\val c u<=val c v:=by
 induction v using tS with
 |h0=>
  intro _ hv;obtain⟨u,hu⟩:∃u,ws[0]?=some u:=⟨_,ah (by have:=(aE.mp h).1;exact bt (nat_lit 0x2b548a158241) rfl this)⟩;have:=b.first hu;subst this;refine⟨0,[],Nat.pos_of_ne_zero λe=>?_,hu,(b.run 0 _ hu).2,aG _⟩;clear b;subst e;rw[hu]at h;replace h:=ac h;subst h;exact absurd hv (fo _)
 |h1 v a ih=>
  intro hl hv;have ha:a<c:=hl a (by exact aL _ (.head _));refine Ag (ih (λx hx=>hl x (by simp[hx])) (uP (Cu v a ha) hv)) λk u h1 h2 h3 h4=>?_;refine cr (b.done k u a h2 (.inl h1) ha) λk' u' h5 h6 h7=>?_;have e: (D.run 0 u,E.run 0 u)=(D.run 0 v,E.run 0 v):=by have:=(b.run k u h2).2;rw[h3]at this;exact(ac this).symm
  have hle:val c u'<=val c (v++[a]):=a8 h7 (BK h4);refine⟨k',u',kJ λz=>?_,h5,?_,hle⟩
  ·rcases dJ z with z|rfl
   ·have:=b.inc p k' kQ u' z h h5;exact b9 (nat_lit 0x2586410082158241) rfl hv hle this
   ·rw[h]at h5;replace h5:=ac h5;subst h5;exact bt (nat_lit 0x42158241) rfl hv hle
  ·refine ao h6 ?_;rewrite[Da.run_snoc];rewrite[Da.run_snoc];rewrite[Da.run_snoc];rewrite[Da.run_snoc];refine ao ((eL e).1) ?_;refine ao ((eL e).2) ?_;with_reducible rfl
theorem Bfs.all(b:Bfs D E c pairs ws p 0)(h:ws.length<=p)(h0:0<ws.length)(v:Wd): (∀a∈v,a<c)->∃(k:Nat) (u:Wd),ws[k]?=some u/\pairs[k]?=some (D.run 0 v,E.run 0 v):=by
 induction v using tS with
 |h0=>
  intro _;obtain⟨u,hu⟩:∃u,ws[0]?=some u:=⟨_,ah h0⟩;have:=b.first hu;subst this;exact⟨0,[],hu,(b.run 0 _ hu).2⟩
 |h1 v a ih=>
  intro hl;refine lk (ih (λx hx=>hl x (by simp[hx]))) λk u h2 h3=>?_;refine cr (b.done k u a h2 (.inl (by have:=(aE.mp h2).1;exact b9 (nat_lit 0x158a4502c5208401) rfl h this)) (hl a (by exact aL _ (.head _)))) λk' u' h5 h6 h7=>?_;have e: (D.run 0 u,E.run 0 u)=(D.run 0 v,E.run 0 v):=by have:=(b.run k u h2).2;rw[h3]at this;exact(ac this).symm
  exact⟨k',u',h5,by refine ao h6 ?_;rewrite[Da.run_snoc];rewrite[Da.run_snoc];rewrite[Da.run_snoc];rewrite[Da.run_snoc];refine ao ((eL e).1) ?_;refine ao ((eL e).2) ?_;with_reducible rfl⟩
theorem Bfs.bound{e e':Nat}{L L':Lg}(b:Bfs D E c pairs ws p m)(hD:D.Is c e L)(hE:E.Is c e' L'):pairs.length<=2 ^ (e+e')+1:=by
 obtain⟨gl,l1,z1,h1⟩:=hD.gl;obtain⟨gl',l2,z2,h2⟩:=hE.gl;have key:∀{F:Da} {g:List Int} {e:Nat} {L:Lg},F.Is c e L-> -1∈g->(∀r∈F.rows,∀x∈r,x∈g)->∀(w:Wd) (a:Nat),a<c->F.run 0 (w++[a])∈g:=λ{F g e L} hF hz hg w a ha=>by
  have hr:=hF.ok.run w;rw[Da.run_snoc];unfold Da.goal;split
  ·exact hz
  ·obtain⟨r,hr'⟩:∃r,F.rows[(F.run 0 w).toNat]?=some r:=⟨_,ah (by lia)⟩
   obtain⟨x,hx⟩:∃x,r[a]?=some x:=⟨_,ah (by refine ao ((hF.ok.row r (aX hr')).1) ?_;exact ha)⟩;simp only[hr',Option.getD_some,hx];exact hg r (aX hr') x (aX hx)
 have:=gI (l:=pairs) (l':=(0,0)::gl.flatMap λx=>gl'.map λy=>(x,y)) b.nd λq hq=>by
  obtain⟨k,hk,e⟩:=cX hq;obtain⟨u,hu⟩:∃u,ws[k]?=some u:=⟨_,ah (by refine ao b.len ?_;exact hk)⟩;have hr:=(b.run k u hu).2;rw[ah hk,e]at hr;refine ao (ac hr) ?_;rcases b.par k u hu with⟨_,rfl⟩|⟨j,a,w,_,_,rfl,ha,_⟩
  ·exact bF ..
  ·exact bA _ (pj.mpr ⟨_,key hD z1 h1 w a ha,bG.mpr ⟨_,key hE z2 h2 w a ha,rfl⟩⟩)
 have e1:∀l:List Int,(l.flatMap λx=>gl'.map λy=>(x,y)).length=l.length*gl'.length:=λl=>by
  induction l with
  |nil=>simp
  |cons x l ih=>refine ao kh ?_;refine ao aC ?_;refine ao ih ?_;rewrite[ai];refine ao bv ?_;rewrite[kg];rewrite[pN];with_reducible rfl
 rw[bv,e1]at this;have h3:gl.length*gl'.length<=2 ^ e*2 ^ e':=rJ l1 l2;rw[<- Nat.pow_add]at h3;exact b9 (nat_lit 0xb148051042b0c801) rfl this h3
end
structure Uf(N:Nat)(heads:List Nat)(rt ds:Nat->Nat):Prop where
 len:heads.length=N
 at_:∀(i h:Nat),heads[i]?=some h->h<N/\rt h=rt i/\(h=i↔rt i=i)/\(h≠i->ds h<ds i)
 root:∀i,i<N->rt i<N/\rt (rt i)=rt i
section
variable{N:Nat}{heads:List Nat}{rt ds:Nat->Nat}
theorem Uf.init(N:Nat):Uf N (bN N) id id where
 len:=b7
 at_:=λi h e=>by
  obtain⟨a,b⟩:=aE.mp e;rw[List.getElem_range]at b;rw[b7]at a;clear e;subst b;exact⟨a,rfl,⟨λw_=>rfl,λw_=>rfl⟩,λz=>absurd rfl z⟩
 root:=λi h=>⟨h,rfl⟩
theorem Uf.halve(u:Uf N heads rt ds){i h g:Nat}(hi:heads[i]?=some h)(hn:h≠i)(hg:heads[h]?=some g):Uf N (heads.set i g) rt ds where
 len:=by exact ao fF (ao u.len rfl)
 at_:=λj x e=>by
  by_cases z:j=i
  ·subst z
   rw[dO (aE.mp hi).1]at e;replace e:=ac e;subst e;refine iq (u.at_ j h hi) λa1 a2 a3 a4=>?_;refine iq (u.at_ h g hg) λb1 b2 b3 b4=>?_;have lt:ds g<ds j:=by
    by_cases q:g=h
    ·refine ao q ?_;exact a4 hn
    ·have:=b4 q;have:=a4 hn;lia
   exact⟨b1,b2.trans a2,⟨λq=>by subst q;lia,λq=>absurd (a3.mpr q) hn⟩,λw_=>lt⟩
  ·rw[fu (aV z)]at e
   exact u.at_ j x e
 root:=u.root
noncomputable def iF(rt:Nat->Nat)(low high:Nat)(i:Nat):Nat:=if rt i=low then high else rt i
theorem Uf.join(u:Uf N heads rt ds){low high:Nat}(hl:low<N)(hh:high<N)(rl:rt low=low)(rh:rt high=high)(hn:high≠low):
  Uf N (heads.set low high) (iF rt low high) (λi=>if rt i=low then ds i+ds high+1 else ds i) where
 len:=by exact ao fF (ao u.len rfl)
 at_:=λj x e=>by
  have mh:iF rt low high high=high:=by unfold iF;exact ao rh (ao (if_neg hn) rfl)
  by_cases z:j=low
  ·subst z
   rw[dO (by refine ao u.len ?_;exact hl)]at e;replace e:=ac e;subst e;have ml:iF rt j high j=high:=by unfold iF;exact ao (if_pos rl) rfl
   exact⟨hh,mh.trans ml.symm,⟨λq=>absurd q hn,λq=>absurd (ml.symm.trans q) hn⟩,λw_=>by refine ao (if_neg (by refine ao rh ?_;exact hn)) (ao (if_pos rl) ?_);exact bt (nat_lit 0xb0065258245) rfl⟩
  ·rw[fu (aV z)]at e
   refine iq (u.at_ j x e) λa1 a2 a3 a4=>?_;refine⟨a1,by unfold iF;exact ao a2 rfl,?_,λq=>?_⟩
   ·rw[a3]
    unfold iF;split
    ·rename_i q
     exact⟨λr=>absurd (r.symm.trans q) z,λr=>absurd (show low=high by exact dk q (dk r (ao rh rfl))) (aV hn)⟩
    ·exact iw
   ·refine ao a2 ?_
    have:=a4 q;split<;>(first|exact b9 (nat_lit 0x1620ca4b58812948a158241) rfl this|exact this)
 root:=λi hi=>by
  obtain⟨a,b⟩:=u.root i hi;unfold iF;split
  ·refine ao rh (ao (if_neg hn) ?_);exact⟨hh,rfl⟩
  ·rename_i q;refine ao b (ao (if_neg q) ?_);exact⟨a,rfl⟩
noncomputable def qW(N:Nat)(rt:Nat->Nat):Nat:=((bN N).filter λi=>rt i==i).length
theorem Bc{low high:Nat}(hl:low<N)(rl:rt low=low)(rh:rt high=high)(hn:high≠low):qW N (iF rt low high)<qW N rt:=by
 have:=gI (l:=low:: (bN N).filter λi=>iF rt low high i==i) (l':=(bN N).filter λi=>rt i==i)
  (cC.mpr ⟨λh=>by have:=(fG.mp h).2;simp[iF,rl]at this;exact hn this,pt.filter _⟩) λx hx=>by
   rcases a9.mp hx with rfl|hx
   ·exact fG.mpr ⟨du.mpr hl,by simpa using rl⟩
   ·obtain⟨a,b⟩:=fG.mp hx
    refine fG.mpr ⟨a,?_⟩;unfold iF at b;split at b
    ·have:high=x:=by exact of_decide_eq_true (b)
     refine dk this ?_;simpa using rh
    ·exact b
 exact this
theorem z6{low high i j:Nat}:iF rt low high i=iF rt low high j↔rt i=rt j\/(rt i=low/\rt j=high)\/(rt i=high/\rt j=low):=by
 unfold iF;split<;>split<;>rename_i a b<;>simp[a,b]<;>lia
end
structure Pr(S:Nat->Nat->Prop):Prop where
 refl:∀i,S i i
 symm:∀{i j},S i j->S j i
 trans:∀{i j k},S i j->S j k->S i k
section
variable(D E:Da)(c:Nat)
noncomputable def pl(l:Int):Nat:=if l=-1 then 0 else 1+l.toNat
noncomputable def pr(r:Int):Nat:=if r=-1 then 0 else 1+D.rows.length+r.toNat
noncomputable def dl(i a:Nat):Nat:=if i=0 then 0 else if i<=D.rows.length then pl (D.goal ((i-1:Nat):Int) a)else pr D (E.goal ((i-1-D.rows.length:Nat):Int) a)
noncomputable def tg(i:Nat):Bool:=if i=0 then false else if i<=D.rows.length then D.tag ((i-1:Nat):Int)else E.tag ((i-1-D.rows.length:Nat):Int)
noncomputable def d2:Nat:=D.rows.length+E.rows.length+1
structure Hk(rt:Nat->Nat)(wt:List (Int×Int)):Prop where
 cong:∀S,Pr S->(∀i j,i<d2 D E->j<d2 D E->rt i=rt j->S i j)->(∀p∈wt,S (pl p.1) (pr D p.2))->(∀i j a,i<d2 D E->j<d2 D E->a<c->rt i=rt j->S (dl D E i a) (dl D E j a))/\S (pl 0) (pr D 0)
 tags:∀i j,i<d2 D E->j<d2 D E->rt i=rt j->tg D E i=tg D E j
 wit:∀p∈wt,∃w:Wd,(∀a∈w,a<c)/\p=(D.run 0 w,E.run 0 w)
end
section
variable{D E:Da}{c:Nat}{rt:Nat->Nat}{wt:List (Int×Int)}
theorem Km{l:Int}(h:-1<=l/\l<D.rows.length)(a:Nat):dl D E (pl l) a=pl (D.goal l a):=by
 unfold dl pl;by_cases e:l=-1
 ·clear h;subst e;rfl
 ·exact ao (if_neg e) (ao (if_neg (by exact λq0=>ci (nat_lit 0xa02e42) rfl q0)) (ao (if_pos (by lia)) (ao (show((1+l.toNat-1:Nat):Int)=l by lia) rfl)))
theorem KI{r:Int}(h:-1<=r/\r<E.rows.length)(a:Nat):dl D E (pr D r) a=pr D (E.goal r a):=by
 unfold dl;by_cases e:r=-1
 ·clear h;subst e;rfl
 ·have:pr D r=1+D.rows.length+r.toNat:=if_neg e
  exact ao this (ao (if_neg (by exact λq0=>bt (nat_lit 0x28205ca42) rfl q0)) (ao (if_neg (by exact λq0=>bt (nat_lit 0x205ca41) rfl q0)) (ao (show((1+D.rows.length+r.toNat-1-D.rows.length:Nat):Int)=r by lia) rfl)))
theorem Kp{l:Int}(h:-1<=l/\l<D.rows.length):tg D E (pl l)=D.tag l:=by
 unfold tg pl;by_cases e:l=-1
 ·clear h;subst e;rfl
 ·exact ao (if_neg e) (ao (if_neg (by exact λq0=>ci (nat_lit 0xa02e42) rfl q0)) (ao (if_pos (by lia)) (ao (show((1+l.toNat-1:Nat):Int)=l by lia) rfl)))
theorem Kn{r:Int}(h:-1<=r/\r<E.rows.length):tg D E (pr D r)=E.tag r:=by
 unfold tg;by_cases e:r=-1
 ·clear h;subst e;rfl
 ·have:pr D r=1+D.rows.length+r.toNat:=if_neg e
  exact ao this (ao (if_neg (by exact λq0=>bt (nat_lit 0x28205ca42) rfl q0)) (ao (if_neg (by exact λq0=>bt (nat_lit 0x205ca41) rfl q0)) (ao (show((1+D.rows.length+r.toNat-1-D.rows.length:Nat):Int)=r by lia) rfl)))
theorem B5{l:Int}(h:-1<=l/\l<D.rows.length):pl l<d2 D E:=by unfold pl d2;split<;>lia
theorem Cr{r:Int}(h:-1<=r/\r<E.rows.length):pr D r<d2 D E:=by unfold pr d2;split<;>lia
theorem Hk.init:Hk D E c id [(0,0)] where
 cong:=λS e h1 h2=>⟨λi j a w_ w_ w_ h=>by cases(show i=j from h);exact e.refl _,h2 _ (aq.mpr rfl)⟩
 tags:=λi j w_ w_ h=>by cases(show i=j from h);rfl
 wit:=λp hp=>⟨[],λa ha=>(nomatch ha),aq.mp hp⟩
variable(hD:D.Ok c)(hE:E.Ok c)
include hD hE
theorem Hk.rng{p:Int×Int}(h:Hk D E c rt wt)(hp:p∈wt): (-1<=p.1/\p.1<D.rows.length)/\-1<=p.2/\p.2<E.rows.length:=by
 refine bJ (h.wit p hp) ?_;rintro w _ rfl;exact⟨hD.run w,hE.run w⟩
theorem Hk.skip{p:Int×Int}(h:Hk D E c rt (wt++[p]))(e:rt (pl p.1)=rt (pr D p.2)):Hk D E c rt wt where
 cong:=λS q h1 h2=>h.cong S q h1 λx hx=>by
  rcases aI.mp hx with hx|hx
  ·exact h2 x hx
  ·have:=h.rng hD hE (p:=p) (by exact aL _ (.head _))
   refine ao (aq.mp hx) ?_;exact h1 _ _ (B5 this.1) (Cr this.2) e
 tags:=h.tags
 wit:=λp hp=>h.wit p (bh _ hp)
theorem Hk.join{p:Int×Int}{rt':Nat->Nat}(h:Hk D E c rt (wt++[p]))(ht:D.tag p.1=E.tag p.2)
  (hr:∀i j,rt' i=rt' j↔rt i=rt j\/(rt i=rt (pl p.1)/\rt j=rt (pr D p.2))\/(rt i=rt (pr D p.2)/\rt j=rt (pl p.1))):
  Hk D E c rt' (wt++(bN c).map λa=>(D.goal p.1 a,E.goal p.2 a)):=by
 obtain⟨r1,r2⟩:=h.rng hD hE (p:=p) (by exact aL _ (.head _));have l1:=B5 (E:=E) r1;have l2:=Cr (D:=D) r2;refine⟨λS q h1 h2=>?_,λi j hi hj e=>?_,λx hx=>?_⟩
 ·have hS:=h.cong S q (λi j hi hj e=>h1 i j hi hj ((hr i j).mpr (.inl e))) λx hx=>by
   rcases aI.mp hx with hx|hx
   ·exact h2 x (bh _ hx)
   ·refine ao (aq.mp hx) ?_
    exact h1 _ _ l1 l2 ((hr _ _).mpr (.inr (.inl ⟨rfl,rfl⟩)))
  refine⟨λi j a hi hj ha e=>?_,hS.2⟩;have push:S (dl D E (pl p.1) a) (dl D E (pr D p.2) a):=by
   rw[Km r1,KI r2];exact h2 (D.goal p.1 a,E.goal p.2 a) (aL _ (bG.mpr ⟨a,du.mpr ha,rfl⟩))
  rcases(hr i j).mp e with e|⟨e1,e2⟩|⟨e1,e2⟩
  ·exact hS.1 i j a hi hj ha e
  ·exact q.trans (hS.1 i _ a hi l1 ha e1) (q.trans push (hS.1 _ j a l2 hj ha e2.symm))
  ·exact q.trans (hS.1 i _ a hi l2 ha e1) (q.trans (q.symm push) (hS.1 _ j a l1 hj ha e2.symm))
 ·have tt:tg D E (pl p.1)=tg D E (pr D p.2):=by exact ao (Kp r1) (ao (Kn r2) (ao ht rfl))
  rcases(hr i j).mp e with e|⟨e1,e2⟩|⟨e1,e2⟩
  ·exact h.tags i j hi hj e
  ·exact(h.tags i _ hi l1 e1).trans (tt.trans (h.tags _ j l2 hj e2.symm))
  ·exact(h.tags i _ hi l2 e1).trans (tt.symm.trans (h.tags _ j l1 hj e2.symm))
 ·rcases aI.mp hx with hx|hx
  ·exact h.wit x (bh _ hx)
  ·clear l2 l1 r2 r1 hr ht;refine bJ (bG.mp hx) ?_;rintro a ha rfl
   clear hx;clear hx;refine bJ (h.wit p (by exact aL _ (.head _))) ?_;rintro w hw rfl;refine⟨w++[a],λb hb=>?_,by rw[Da.run_snoc,Da.run_snoc]⟩;rcases aI.mp hb with hb|hb
   ·exact hw b hb
   ·refine ao (aq.mp hb) ?_;exact du.mp ha
theorem Hk.fin(h:Hk D E c rt [])(w:Wd)(hw:∀a∈w,a<c):D.acc 0 w=E.acc 0 w:=by
 obtain⟨hc,h0⟩:=h.cong (λi j=>i=j\/(i<d2 D E/\j<d2 D E/\rt i=rt j)) ⟨λw_=> .inl rfl,λh=>h.imp Eq.symm λ⟨a,b,c⟩=>⟨b,a,c.symm⟩,λ{i j k} h1 h2=>by
  rcases h1 with rfl|⟨a,b,e⟩
  ·exact h2
  ·rcases h2 with rfl|⟨a',b',e'⟩
   ·exact .inr ⟨a,b,e⟩
   ·exact .inr ⟨a,b',e.trans e'⟩⟩ (λi j a b e=> .inr ⟨a,b,e⟩) λp hp=>(nomatch hp)
 have out:∀{i j},(i=j\/(i<d2 D E/\j<d2 D E/\rt i=rt j))->rt i=rt j:=λh=>h.elim (λe=>by exact ao e rfl) λh=>h.2.2;have key:∀(w:Wd) (l r:Int),(∀a∈w,a<c)->(-1<=l/\l<D.rows.length)->(-1<=r/\r<E.rows.length)->rt (pl l)=rt (pr D r)->D.acc l w=E.acc r w:=by
  intro w
  induction w with
  |nil=>
   intro l r _ hl hr e;have:=h.tags _ _ (B5 hl) (Cr hr) e;rw[Kp hl,Kn hr]at this;exact this
  |cons a w ih=>
   intro l r hw hl hr e;have ha:=hw a (bF ..);have:=out (hc _ _ a (B5 hl) (Cr hr) ha e);rw[Km hl,KI hr]at this;exact ih _ _ (λb hb=>hw b (bA _ hb)) (hD.goal hl.1 hl.2 a) (hE.goal hr.1 hr.2 a) this
 exact key w 0 0 hw ⟨by lia,by have:=hD.pos;lia⟩ ⟨by lia,by have:=hE.pos;lia⟩ (out h0)
theorem Hk.bad{p:Int×Int}(h:Hk D E c rt (wt++[p]))(ht:D.tag p.1≠E.tag p.2):∃w:Wd,(∀a∈w,a<c)/\D.acc 0 w≠E.acc 0 w:=by
 refine bJ (h.wit p (by exact aL _ (.head _))) ?_;rintro w hw rfl;exact⟨w,hw,by rw[Da.acc_run,Da.acc_run];exact ht⟩
end
noncomputable abbrev Sp:=List (Nat×Nat)
noncomputable def S4:List Sp:=[[(97,97)],[(98,98)],[(97,98)],[(0,96),(98,127)]]
noncomputable def tog(s:Sp):List Nat:=s.flatMap λp=>if p.2<127 then[p.1,p.2+1]else[p.1]
noncomputable def tr(sets:List Sp)(f:Sp->Bool):Nat:=sets.zipIdx.foldl (λacc x=>acc ^^^ (if f x.1 then 1 <<< x.2 else 0)) 0
theorem zY(sets:List Sp)(s:Sp)(f:Sp->Bool):tr (sets++[s]) f=tr sets f ^^^ (if f s then 1 <<< sets.length else 0):=by
 simp[tr,List.zipIdx_append]
theorem lg(f:Sp->Bool)(q:Nat)(sets:List Sp): (tr sets f).testBit q=((sets[q]?).map f).getD false:=by
 induction sets using tS with
 |h0=>simp[tr]
 |h1 sets s ih=>
  rewrite[zY];rewrite[js];refine ao ih ?_;have hb: (if f s then 1 <<< sets.length else 0).testBit q=(f s && decide (sets.length=q)):=by
   cases f s with
   |true=>refine ao (if_pos rfl) ?_;rewrite[nR];refine ao mf ?_;rfl
   |false=>simp
  refine ao hb ?_;rcases iy q sets.length with h|h|h
  ·refine ao (cI h) (ao (show decide (sets.length=q)=false from decide_eq_false (by exact λq0=>bt (nat_lit 0x44158241) rfl h q0)) ?_);simp
  ·clear hb ih;subst h;simp
  ·refine ao (cq (mz h)) (ao (cq (by refine ao aC ?_;exact h)) (ao (show decide (sets.length=q)=false from decide_eq_false (by exact λq0=>bt (nat_lit 0x806158241) rfl h q0)) ?_));simp
theorem GD(f g:Sp->Bool)(sets:List Sp):tr sets f ^^^ tr sets (λs=>f s !=g s)=tr sets g:=by
 apply cK;intro i;rw[js,lg,lg,lg];cases sets[i]? with
 |none=>rfl
 |some s=>show(f s ^^ (f s !=g s))=g s;cases f s<;>cases g s<;>rfl
theorem yE{f g:Sp->Bool}{sets:List Sp}(h:∀s∈sets,f s=g s):tr sets f=tr sets g:=by
 apply cK;intro i;rw[lg,lg];cases e:sets[i]? with
 |none=>rfl
 |some s=>exact h s (aX e)
noncomputable def hold(sets:List Sp)(c:Nat):Nat:=tr sets λs=>qC s c
noncomputable def turn(sets:List Sp)(c:Nat):Nat:=tr sets λs=>(tog s).contains c
theorem LZ:∀s∈S4,∀c,c<128->(tog s).contains c=((decide (c≠0) && qC s (c-1)) !=qC s c):=by decide+kernel
theorem K7:∀s∈S4,∀c∈tog s,c=0\/c=97\/c=98\/c=99:=by decide
theorem AC:∀s∈S4,∀p∈s,p.1∈tog s/\p.1<=p.2/\(p.2<127->p.2+1∈tog s)/\p.2<=127:=by decide
theorem Fe:∀s∈S4,s.Pairwise λp q=>p.1<=q.1:=by decide
theorem Gi:∀s∈S4,s.length<=2:=by decide
noncomputable def EO(sets:List Sp)(c:Nat):Nat:=if c=0 then 0 else hold sets (c-1)
theorem z8{sets:List Sp}(h:∀s∈sets,s∈S4){c:Nat}(hc:c<128):EO sets c ^^^ turn sets c=hold sets c:=by
 have e1:EO sets c=tr sets λs=>decide (c≠0) && qC s (c-1):=by
  unfold EO;split
  ·rename_i e
   apply cK;intro i;rw[lg];cases sets[i]?<;>simp[e]
  ·rename_i e;exact yE λs w_=>by simp[e]
 have e2:turn sets c=tr sets λs=>(decide (c≠0) && qC s (c-1)) !=qC s c:=yE λs hs=>LZ s (h s hs) c hc;refine ao e1 ?_;refine ao e2 ?_;rewrite[GD];rfl
theorem Fi{sets:List Sp}{c:Nat}(h:∀s∈sets,c∉tog s):turn sets c=0:=by
 apply cK;intro i;unfold turn;rw[lg];cases e:sets[i]? with
 |none=>simp
 |some s=>have:=h s (aX e);simpa using this
theorem tj{sets:List Sp}(h:∀s∈sets,s∈S4){x:Nat}:∀(y:Nat),x<=y->y<128->(∀c,x<c->c<=y->∀s∈sets,c∉tog s)->hold sets y=hold sets x
 |0=>λh1 w_ w_=>by exact ao (Nat.le_zero.mp h1) rfl
 |y+1=>λh1 h2 h3=>by
  by_cases e:x=y+1
  ·exact ao e rfl
  ·have:=z8 h h2
   rw[Fi (h3 (y+1) (by lia) (aG _)),BB]at this;refine dk this ?_;show hold sets y=_;exact tj h y (by lia) (by exact ci (nat_lit 0x2026b048a404d6b04a41) rfl h2) λc a b=>h3 c a (by exact bt (nat_lit 0x5864028401) rfl b)
theorem At{sets:List Sp}{c c':Nat}(h:hold sets c=hold sets c'){s:Sp}(hs:s∈sets):qC s c=qC s c':=by
 obtain⟨i,hi,e⟩:=cX hs;have:=congrArg (λx=>x.testBit i) h;simp only[hold,lg,ah hi,e]at this;exact this
structure tK(sets:List Sp)(bounds numbers:List Nat)(count:Nat):Prop where
 len:numbers.length=bounds.length
 first:bounds[0]?=some 0
 inc:bounds.Pairwise (· < ·)
 lt:∀b∈bounds,b<128
 tog:∀s∈sets,∀c∈tog s,c∈bounds
 s4:∀s∈sets,s∈S4
 kn:∃kn:List Nat,kn.length=count/\kn.Nodup/\∀(i b:Nat),bounds[i]?=some b->∃n,numbers[i]?=some n/\kn[n]?=some (hold sets b)
 full:∀n,n<count->n∈numbers
 small:bounds.length<=4
noncomputable def least(bounds numbers:List Nat)(n:Nat):Nat:=(bounds[numbers.idxOf n]?).getD 0
noncomputable def iK(bounds:List Nat)(i:Nat):Nat:=match bounds[i+1]? with
 |some b=>b-1
 |none=>127
section
variable{sets:List Sp}{bounds numbers:List Nat}{count:Nat}
theorem tK.num_lt(h:tK sets bounds numbers count){i n:Nat}(e:numbers[i]?=some n):n<count:=by
 obtain⟨kn,k1,_,k3⟩:=h.kn;have hi:=(aE.mp e).1;refine bJ (k3 i _ (ah (by refine dk h.len ?_;exact hi))) λn' e' q=>?_;rw[e]at e';replace e':=ac e';subst e';refine dk k1 ?_;exact(aE.mp q).1
theorem tK.same(h:tK sets bounds numbers count){i j n b b':Nat}(hi:bounds[i]?=some b)(hj:bounds[j]?=some b')(ni:numbers[i]?=some n)(nj:numbers[j]?=some n):hold sets b=hold sets b':=by
 obtain⟨kn,_,_,k3⟩:=h.kn;refine bJ (k3 i b hi) λn1 e1 q1=>?_;refine bJ (k3 j b' hj) λn2 e2 q2=>?_;rw[ni]at e1;replace e1:=ac e1;subst e1;rw[nj]at e2;replace e2:=ac e2;subst e2;rw[q1]at q2;exact ac q2
theorem tK.least_at(h:tK sets bounds numbers count){n:Nat}(hn:n<count):∃i,numbers.idxOf n=i/\numbers[i]?=some n/\bounds[i]?=some (least bounds numbers n):=by
 have hm:=h.full n hn;have hi:numbers.idxOf n<numbers.length:=iz hm;refine⟨_,rfl,by refine ao (ah hi) ?_;rewrite[jE];with_reducible rfl,?_⟩;unfold least;refine ao (ah (by refine dk h.len ?_;exact hi)) ?_;rfl
theorem tK.least_lt(h:tK sets bounds numbers count){n:Nat}(hn:n<count):least bounds numbers n<128:=by
 refine d4 (h.least_at hn) ?_;intro i _ _ e;exact h.lt _ (aX e)
set_option tactic.hygienic true in
theorem tK.high(h:tK sets bounds numbers count){i b:Nat}(hi:bounds[i]?=some b):b<=iK bounds i/\iK bounds i<128/\∀c,b<c->c<=iK bounds i->c∉bounds:=by
 have lb:=h.lt b (aX hi);obtain⟨hil,ei⟩:=aE.mp hi;have inc:=iZ.mp h.inc;unfold iK;split
 ·rename_i b' e
  obtain⟨hl,e⟩:=aE.mp e;have:=inc i (i+1) hil hl (bR i);have:=h.lt b' (e▸pu hl);refine⟨by lia,by exact bt (nat_lit 0x404d61914010901358241) rfl this (yU _ _),λc h1 h2 hc=>?_⟩;obtain⟨j,hj,ec⟩:=cX hc;rcases iy j (i+1)with q|q|q
  ·rcases dJ (dX q)with q|q
   ·have:=inc j i hj hil q;exact ir (nat_lit 0x2c720886312c3208402) rfl ei h1 ec this
   ·clear e hi;clear e;subst q;exact b9 (nat_lit 0x420886158241) rfl h1 ec ei
  ·clear ei hi;subst q;exact ir (nat_lit 0x2b1c8420086208403) rfl e h2 ec (ar (ir (nat_lit 0x2b28c031ac5208402) rfl e h1 ec))
  ·have:=inc (i+1) j hl hj q;exact uk (nat_lit 0x11848b048222086208403) rfl e h2 ec this (yU _ _)
 ·rename_i e
  refine⟨by exact ci (nat_lit 0x1fe602901358241) rfl lb,by exact Oz (nat_lit 0x404d63fce45) rfl,λc h1 h2 hc=>?_⟩;obtain⟨j,hj,ec⟩:=cX hc;have:bounds.length<=i+1:=List.getElem?_eq_none_iff.mp e;rcases dJ (show j<=i by exact b9 (nat_lit 0x2015629042158241) rfl hj this)with q|q
  ·have:=inc j i hj hil q;exact ir (nat_lit 0x2c720886312c3208402) rfl ei h1 ec this
  ·clear this e hi;subst q;exact b9 (nat_lit 0x420886158241) rfl h1 ec ei
theorem tK.rep(h:tK sets bounds numbers count){c:Nat}(hc:c<128):∃n,n<count/\∀s∈sets,qC s c=qC s (least bounds numbers n):=by
 have key:∀k,k<bounds.length->(∀b,bounds[k]?=some b->b<=c)->∃i b,bounds[i]?=some b/\b<=c/\c<=iK bounds i:=by
  intro k;generalize hm:bounds.length-k=m
  induction m generalizing k with
  |zero=>intro hk;lia
  |succ m ih=>
   intro hk hb;by_cases hk':k+1<bounds.length
   ·by_cases hc':bounds[k+1]<=c
    ·exact ih (k+1) (by exact aN (uk (nat_lit 0x90a358a44908620486b0c802) rfl hm (ar (bt (nat_lit 0x80a158241) rfl hk)) (ar (bt (nat_lit 0x2b048a158241) rfl hk))) (uk (nat_lit 0x204a358a4490c620484b0c803) rfl hm (ar (bt (nat_lit 0x80a158241) rfl hk)) (ar (bt (nat_lit 0x2b048a158241) rfl hk)))) hk' λb e=>by rw[ah hk']at e;replace e:=ac e;subst e;exact hc'
    ·refine⟨k,_,ah hk,hb _ (ah hk),?_⟩
     unfold iK;refine ao (ah hk') ?_;dsimp only;exact b9 (nat_lit 0x82502c5218404) rfl hc' (ar (bt (nat_lit 0xb28404) rfl hc'))
   ·refine⟨k,_,ah hk,hb _ (ah hk),?_⟩
    unfold iK;refine ao (cq (by exact bt (nat_lit 0x582412856b04a44) rfl hk')) ?_;dsimp only;exact ci (nat_lit 0x1fe602901358241) rfl hc
 refine cr (key 0 (aE.mp h.first).1 λb e=>by rw[h.first]at e;replace e:=ac e;subst e;exact ci (nat_lit 0x145) rfl) λi b hi h1 h2=>?_;refine eX (h.high hi) ?_;intro _ h3 h4;obtain⟨kn,_,_,k3⟩:=h.kn;refine bJ (k3 i b hi) ?_;intro n hn _;have nl:=h.num_lt hn;refine d4 (h.least_at nl) ?_;intro j _ e1 e2;refine⟨n,nl,λs hs=>?_⟩;have a:=tj h.s4 c h1 hc λc' x y s' hs' z=>h4 c' x (by exact b9 (nat_lit 0x11140208401) rfl h2 y) (h.tog s' hs' c' z);exact At (a.trans (h.same hi e2 hn e1)) hs
end
noncomputable def leaves:Rx->List Sp
 | .chars s=>[s]
 | .empty=>[]
 | .never=>[]
 | .cat a b=>leaves a++leaves b
 | .alt a b=>leaves a++leaves b
 | .star a=>leaves a
 | .plus a=>leaves a
 | .opt a=>leaves a
 | .rep a _ _=>leaves a
section
variable{A B A' B':Lg}{ok:Nat->Prop}{g:Nat->Nat}
noncomputable def Tr(ok:Nat->Prop)(g:Nat->Nat)(A A':Lg):Prop:=∀v:Wd,(∀n∈v,ok n)->(A v↔A' (v.map g))
theorem Tr.cat(a:Tr ok g A A')(b:Tr ok g B B'):Tr ok g (dp A B) (dp A' B'):=λv hv=>by
 constructor
 ·rintro⟨u,w,rfl,x,y⟩
  exact⟨u.map g,w.map g,bw,(a u λn h=>hv n (bh _ h)).mp x,(b w λn h=>hv n (aL _ h)).mp y⟩
 ·rintro⟨u,w,e,x,y⟩
  refine cr (List.map_eq_append_iff.mp e) ?_;rintro u' w' rfl rfl rfl;exact⟨u',w',rfl,(a u' λn h=>hv n (bh _ h)).mpr x,(b w' λn h=>hv n (aL _ h)).mpr y⟩
theorem Tr.one:Tr ok g (λw=>w=[]) (λw=>w=[]):=λv w_=>by simp
theorem Tr.pow(a:Tr ok g A A'):∀n,Tr ok g (fg A n) (fg A' n)
 |0=>Tr.one
 |n+1=>a.cat (Tr.pow a n)
theorem oq{w:Wd}:bQ A w↔∃n,fg A n w:=⟨bQ.pow,λ⟨_,h⟩=>h.star⟩
theorem Tr.star(a:Tr ok g A A'):Tr ok g (bQ A) (bQ A'):=λv hv=>by
 rw[oq,oq];exact exists_congr λn=>a.pow n v hv
end
theorem LangP_map{p p':Sp->Nat->Bool}{ok:Nat->Prop}{g:Nat->Nat}:∀(r:Rx),(∀s∈leaves r,∀n,ok n->p s n=p' s (g n))->Tr ok g (dP p r) (dP p' r)
 | .chars s=>λh=>λv hv=>by
  constructor
  ·rintro⟨c,rfl,hc⟩
   exact⟨g c,rfl,by refine dk (h s (aq.mpr rfl) c (hv c (aq.mpr rfl))) ?_;exact hc⟩
  ·rintro⟨c,e,hc⟩
   refine bJ (List.map_eq_singleton_iff.mp e) ?_;rintro x rfl rfl;exact⟨x,rfl,by refine ao (h s (aq.mpr rfl) x (hv x (aq.mpr rfl))) ?_;exact hc⟩
 | .empty=>λw_=>Tr.one
 | .never=>λw_=>λw_ w_=>iw
 | .cat a b=>λh=>(LangP_map a λs hs=>h s (bh _ hs)).cat (LangP_map b λs hs=>h s (aL _ hs))
 | .alt a b=>λh=>λv hv=>or_congr (LangP_map a (λs hs=>h s (bh _ hs)) v hv) (LangP_map b (λs hs=>h s (aL _ hs)) v hv)
 | .star a=>λh=>(LangP_map a h).star
 | .plus a=>λh=>(LangP_map a h).cat (LangP_map a h).star
 | .opt a=>λh=>λv hv=>or_congr (Tr.one v hv) (LangP_map a h v hv)
 | .rep a lo none=>λh=>((LangP_map a h).pow lo).cat (LangP_map a h).star
 | .rep a lo (some hi)=>λh=>λv hv=>exists_congr λn=>and_congr_right λw_=>and_congr_right λw_=>(LangP_map a h).pow n v hv
noncomputable def i9(c:Nat):Nat->List Wd
 |0=>[[]]
 |n+1=>(i9 c n).flatMap λu=>(bN c).map λa=>u++[a]
noncomputable def x8(c:Nat):Nat->Nat
 |0=>0
 |n+1=>x8 c n*c+1
theorem Cc(c:Nat):∀n,(i9 c n).map (val c)=nT (x8 c n) ((i9 c n).length)
 |0=>rfl
 |n+1=>by
  have ih:=Cc c n;have key:∀(l:List Wd) (s:Nat),l.map (val c)=nT s l.length->(l.flatMap λu=>(bN c).map λa=>u++[a]).map (val c)=nT (s*c+1) (l.flatMap λu=>(bN c).map λa=>u++[a]).length:=by
   intro l
   induction l with
   |nil=>intro s _;rfl
   |cons u l ih=>
    intro s e;rw[bC,bv,List.range'_succ]at e;obtain⟨e1,e2⟩:=jo e;refine ao kh ?_;refine ao bw ?_;refine ao (ih _ e2) ?_;refine ao aC ?_;rewrite[ai];refine ao b7 ?_;have h1: ((bN c).map λa=>u++[a]).map (val c)=nT (s*c+1) c:=by
     refine ao dE (ao lz (ao (List.range'_eq_map_range (s:=s*c+1)) (ao lz ?_)));refine dA λa w_=>?_;show val c (u++[a])=_;rewrite[iH];refine ao e1 ?_;exact aN (bt (nat_lit 0x5609496190245) rfl) (bt (nat_lit 0x2c320482b04a45) rfl)
    refine ao h1 ?_;have h2: (s+1)*c+1=s*c+1+c:=by rw[kg];exact aN (bt (nat_lit 0x5609496104a45) rfl) (bt (nat_lit 0x2c209482b04a45) rfl)
    refine ao h2 ?_;exact List.range'_append_1 ..
  exact key _ _ ih
theorem kX{c:Nat}:∀{n:Nat} {w:Wd},w∈i9 c n↔w.length=n/\∀a∈w,a<c
 |0,w=>by
  rw[i9,aq,co];exact⟨λe=>⟨e,by subst e;exact λa h=>(nomatch h)⟩,λh=>h.1⟩
 |n+1,w=>by
  rw[i9,pj];constructor
  ·rintro⟨u,hu,hw⟩
   refine bJ (bG.mp hw) ?_;rintro a ha rfl;obtain⟨h1,h2⟩:=kX.mp hu;refine⟨by simp[h1],λb hb=>?_⟩;rcases aI.mp hb with hb|hb
   ·exact h2 b hb
   ·refine ao (aq.mp hb) ?_;exact du.mp ha
  ·rintro⟨h1,h2⟩
   have hne:w≠ []:=by rintro rfl;cases h1
   have e:=ca hne;refine⟨w.dropLast,kX.mpr ⟨by simp[h1],λa ha=>h2 a (lB _ ha)⟩,bG.mpr ⟨w.getLast hne,du.mpr (h2 _ (vD hne)),e⟩⟩
theorem CM{c:Nat}:∀{n:Nat} {w:Wd},w.length=n->(∀a∈w,a<c)->x8 c n<=val c w
 |0,w,h,_=>bg _
 |n+1,w,h,hl=>by
  have hne:w≠ []:=by rintro rfl;cases h
  have e:=ca hne;refine dk e ?_;rewrite[iH];have:=CM (n:=n) (w:=w.dropLast) (by simp[h]) λa ha=>hl a (lB _ ha);have:=dh c this;show x8 c n*c+1<=_;exact b9 (nat_lit 0x58a4192c1228401) rfl this
theorem xH{c:Nat}:∀{n:Nat} {w:Wd},w.length=n->(∀a∈w,a<c)->val c w<x8 c (n+1)
 |0,w,h,_=>by refine ao (co.mp h) ?_;show 0<_*c+1;exact ci (nat_lit 0x2c125aa45) rfl
 |n+1,w,h,hl=>by
  have hne:w≠ []:=by rintro rfl;cases h
  have e:=ca hne;refine dk e ?_;rewrite[iH];have h1:=xH (n:=n) (w:=w.dropLast) (by simp[h]) λa ha=>hl a (lB _ ha);have h2:=hl _ (vD hne);have:=dh c (Nat.succ_le_of_lt h1);rw[kg]at this;show _<x8 c (n+1)*c+1;exact ir (nat_lit 0xb1c96b04852914611482158241) rfl h2 this
theorem Fh{c:Nat}(hc:0<c):∀{m n:Nat},m<=n->x8 c m<=x8 c n:=by
 intro m n h
 induction h with
 |refl=>exact aG _
 |step _ ih=>
  refine a8 ih ?_;show _<=x8 c _*c+1;have:=pq (x8 c ‹Nat›) hc;exact bt (nat_lit 0x5864028401) rfl this
theorem Fv{c n i:Nat}{bad:Wd->Prop}{v w:Wd}(hi: (i9 c n)[i]?=some v)(hv:bad v)(hw:bad w)(hl:∀a∈w,a<c)(hmin:∀u:Wd,(∀a∈u,a<c)->val c u<val c w->¬bad u)
  (h1:∀m,m<n->∀u∈i9 c m,¬bad u) (h2:∀(j:Nat) (u:Wd),j<i->(i9 c n)[j]?=some u->¬bad u):v=w:=by
 obtain⟨lv,av⟩:=kX.mp (aX hi);have le:val c w<=val c v:=gM λz=>hmin v av z hv;have ln:n<=w.length:=gM λz=>h1 _ z w (kX.mpr ⟨rfl,hl⟩) hw;have lw:w.length=n:=by
  rcases dJ ln with z|z
  ·exfalso
   have hc:0<c:=by
    cases w with
    |nil=>clear ln lv h2 h1 hi;cases z
    |cons a w=>have:=hl a (bF ..);exact bt (nat_lit 0x2b548a158241) rfl this
   have a1:=xH lv av;have a2:=CM rfl hl;have a3:=Fh hc (show n+1<=w.length from z);exact ir (nat_lit 0x620806112c3208401) rfl le a1 a2 a3
  ·exact z.symm
 obtain⟨j,hj,e⟩:=cX (kX.mpr ⟨lw,hl⟩);have hj': (i9 c n)[j]?=some w:=by exact ao (ah hj) (ao e rfl)
 have vals:∀(k:Nat) (u:Wd),(i9 c n)[k]?=some u->val c u=x8 c n+k:=λk u hk=>by
  have a:=congrArg (λl=>l[k]?) (Cc c n);simp only[bb,hk,lW]at a;rw[List.getElem?_range' (aE.mp hk).1]at a;have:=ac a;exact aN (b9 (nat_lit 0x20c805100340c802) rfl this) (b9 (nat_lit 0x10645100340c803) rfl this)
 have a:=vals i v hi;have b:=vals j w hj';rcases iy j i with z|z|z
 ·exact absurd hw (h2 j w z hj')
 ·clear b a e hj h2;subst z;rw[hi]at hj';exact ac hj'
 ·lia
noncomputable def Bb(A:Lg)(codes:Wd)(i j:Nat):Prop:=i<=j/\j<=codes.length/\A ((codes.take j).drop i)
noncomputable def gH(A:Lg)(codes:Wd)(m m':Nat):Prop:=∀j,m'.testBit j=true↔∃i,m.testBit i=true/\Bb A codes i j
section
variable{A B:Lg}{codes:Wd}{i j m m' m'':Nat}
theorem qc{k:Nat}(h1:i<=k)(h2:k<=j): (codes.take j).drop i=(codes.take k).drop i++(codes.take j).drop k:=by
 have e:codes.take k=(codes.take j).take k:=by exact ao List.take_take (ao (ju h2) rfl)
 refine ao e ?_;generalize codes.take j=l;have a:=ku (k-i) (l.drop i);rw[yV,show i+(k-i)=k by exact aN (b9 (nat_lit 0x400c8a208242) rfl (ar (bt (nat_lit 0x2028401) rfl h1))) (b9 (nat_lit 0x1908a208243) rfl (ar (bt (nat_lit 0x2028401) rfl h1)))]at a;refine ao List.drop_take ?_;exact a.symm
theorem Bb.cat:Bb (dp A B) codes i j↔∃k,Bb A codes i k/\Bb B codes k j:=by
 constructor
 ·rintro⟨h1,h2,u,v,e,hu,hv⟩
  have hl:=congrArg dW e;rw[kM,iX,ju h2,aC]at hl;have hj:j=i+(u.length+v.length):=by refine dk hl ?_;exact(su h1).symm
  have sp:=qc (codes:=codes) (show i<=i+u.length by exact bt (nat_lit 0x104805) rfl) (show i+u.length<=j by exact ir (nat_lit 0x83228c520c803) rfl hj);rw[e]at sp;have hu': ((codes.take (i+u.length)).drop i).length=u.length:=by refine ao kM ?_;refine ao iX ?_;refine ao (ju (by exact uk (nat_lit 0x4629148390a4018401) rfl h2 hj)) ?_;rewrite[Nat.add_sub_cancel_left];with_reducible rfl
  obtain⟨a,b⟩:=List.append_inj sp hu'.symm;exact⟨i+u.length,⟨by exact bt (nat_lit 0x104805) rfl,by exact uk (nat_lit 0x4629148390a4018401) rfl h2 hj,a▸hu⟩,by exact ir (nat_lit 0x83228c520c803) rfl hj,h2,b▸hv⟩
 ·rintro⟨k,⟨h1,h2,ha⟩,h3,h4,hb⟩
  exact⟨by exact b9 (nat_lit 0x20144108401) rfl h1 h3,h4,_,_,qc h1 h3,ha,hb⟩
theorem Bb.one:Bb (λw=>w=[]) codes i j↔i=j/\j<=codes.length:=by
 constructor
 ·rintro⟨h1,h2,h3⟩
  have:=congrArg dW h3;rw[kM,iX,ju h2]at this;exact⟨aN h1 (Nat.le_of_sub_eq_zero this),h2⟩
 ·rintro⟨rfl,h⟩
  exact⟨aG _,h,lH.mpr (by refine ao iX ?_;exact wX ..)⟩
theorem gH.iff(h:gH A codes m m')(e:∀w,A w↔B w):gH B codes m m':=λj=>(h j).trans (exists_congr λi=>and_congr_right λw_=>by unfold Bb;rw[e])
theorem gH.cat(h:gH A codes m m')(h':gH B codes m' m''):gH (dp A B) codes m m'':=λj=>by
 rw[h' j];constructor
 ·rintro⟨k,hk,b⟩
  refine bJ ((h k).mp hk) λi hi a=>?_;exact⟨i,hi,Bb.cat.mpr ⟨k,a,b⟩⟩
 ·rintro⟨i,hi,s⟩
  refine bJ (Bb.cat.mp s) λk a b=>?_;exact⟨k,(h k).mpr ⟨i,hi,a⟩,b⟩
theorem gH.or(h:gH A codes m m')(h':gH B codes m m''):gH (λw=>A w\/B w) codes m (m'|||m''):=λj=>by
 rw[dH,fE,h j,h' j];constructor
 ·rintro(⟨i,a,b,c,d⟩|⟨i,a,b,c,d⟩)
  ·exact⟨i,a,b,c,.inl d⟩
  ·exact⟨i,a,b,c,.inr d⟩
 ·rintro⟨i,a,b,c,d|d⟩
  ·exact .inl ⟨i,a,b,c,d⟩
  ·exact .inr ⟨i,a,b,c,d⟩
noncomputable def J4(codes:Wd)(m:Nat):Prop:=∀i,m.testBit i=true->i<=codes.length
theorem gH.pl(h:gH A codes m m'):J4 codes m':=λj hj=>let⟨_,_,_,q,_⟩:=(h j).mp hj;q
theorem gH.one(h:J4 codes m):gH (λw=>w=[]) codes m m:=λj=>⟨λa=>⟨j,a,Bb.one.mpr ⟨rfl,h j a⟩⟩,λ⟨i,a,s⟩=>by refine dk ((Bb.one.mp s).1) ?_;exact a⟩
theorem gH.zero:gH A codes 0 0:=λj=>by simp
theorem gH.never:gH (λw_=>False) codes m 0:=λj=>by simp[Bb]
theorem gH.fit(h:gH A codes 1 m'):m'.testBit codes.length=true↔A codes:=by
 rw[h];constructor
 ·rintro⟨i,hi,_,_,a⟩
  have:i=0:=by
   have:=im.mp hi;exact this
  clear left hi;subst this;simpa using a
 ·intro a
  exact⟨0,by exact rfl,bg _,aG _,by simpa using a⟩
theorem rR(x y i:Nat): (x- (x &&& y)).testBit i=(x.testBit i && !y.testBit i):=by
 have e:x- (x &&& y)=x ^^^ (x &&& y):=by
  have:=qb x (x &&& y);rw[show x &&& (x &&& y)=x &&& y by rw[<- Nat.and_assoc,Nat.and_self]]at this;exact aN (ir (nat_lit 0x3288239082290402a0243) rfl this (ar (b9 (nat_lit 0x20942290402a0242) rfl this))) (ir (nat_lit 0x602882390c2290402a0242) rfl this (ar (b9 (nat_lit 0x20942290402a0242) rfl this)))
 refine ao e ?_;rewrite[js];rewrite[jt];cases x.testBit i<;>cases y.testBit i<;>rfl
structure oQ(A:Lg)(codes:Wd)(m found fresh:Nat):Prop where
 pf:J4 codes m
 sub:∀i,m.testBit i=true->found.testBit i=true
 star:∀j,found.testBit j=true->∃i,m.testBit i=true/\Bb (bQ A) codes i j
 frs:∀i,fresh.testBit i=true->found.testBit i=true
 cls:∀i j,found.testBit i=true->fresh.testBit i=false->Bb A codes i j->found.testBit j=true
theorem oQ.init(h:J4 codes m):oQ A codes m m m where
 pf:=h
 sub:=λw_ h=>h
 star:=λj hj=>⟨j,hj,aG _,h j hj,by refine ao (show(codes.take j).drop j=[] by rw[lH];simp;lia) ?_;exact .nil⟩
 frs:=λw_ h=>h
 cls:=λi j h1 h2=>by rw[h1]at h2;exact Ig h2
theorem oQ.step{found fresh g:Nat}(a:oQ A codes m found fresh)(h:gH A codes fresh g):oQ A codes m (found|||(g- (g &&& found))) (g- (g &&& found)) where
 pf:=a.pf
 sub:=λi h=>by rewrite[dH];refine ao (a.sub i h) ?_;rfl
 star:=λj hj=>by
  rw[dH,rR,fE,bD]at hj;rcases hj with hj|⟨hj,_⟩
  ·exact a.star j hj
  ·refine bJ ((h j).mp hj) λk hk s=>?_
   refine bJ (a.star k (a.frs k hk)) λi hi t=>?_;refine eX (Bb.cat.mpr ⟨k,t,s⟩) λp q r=>?_;exact⟨i,hi,p,q,let⟨u,v,e,x,y⟩:=r;e▸x.append (.one y)⟩
 frs:=λi h=>by rewrite[dH];refine ao h ?_;rewrite[uL];with_reducible rfl
 cls:=λi j h1 h2 s=>by
  rw[dH,h2,zD]at h1;rw[dH,rR];cases hf:fresh.testBit i with
  |true=>refine ao ((h j).mpr ⟨i,hf,s⟩) ?_;cases found.testBit j<;>rfl
  |false=>refine ao (a.cls i j h1 hf s) ?_;rfl
theorem oQ.fin{found:Nat}(a:oQ A codes m found 0):gH (bQ A) codes m found:=λj=>by
 refine⟨a.star j,λ⟨i,hi,s⟩=>?_⟩;have key:∀n i j,found.testBit i=true->Bb (fg A n) codes i j->found.testBit j=true:=λn=>by
  induction n with
  |zero=>intro i j h s;refine dk ((Bb.one.mp s).1) ?_;exact h
  |succ n ih=>
   intro i j h s;refine bJ (Bb.cat.mp s) λk x y=>?_;exact ih k j (a.cls i k h (by simp) x) y
 refine eX s λp q r=>?_;clear s;obtain⟨n,r⟩:=r.pow;exact key n i j (a.sub i hi) ⟨p,q,r⟩
end
noncomputable def k5(r:Rx):Prop:=(∃s∈S4,r= .chars s)\/r= .empty\/r= .never
inductive f6:Rx->Prop
 |leaf {r}:k5 r->f6 r
 |star {a}:k5 a->f6 (.star a)
 |plus {a}:k5 a->f6 (.plus a)
 |opt {a}:k5 a->f6 (.opt a)
 |r22 {a}:k5 a->f6 (.rep a 2 (some 2))
 |r12 {a}:k5 a->f6 (.rep a 1 (some 2))
 |r2n {a}:k5 a->f6 (.rep a 2 none)
 |cat {a b}:k5 a->k5 b->f6 (.cat a b)
 |alt {a b}:k5 a->k5 b->f6 (.alt a b)
 |cats {a b}:k5 a->k5 b->f6 (.cat a (.star b))
 |alts {a b}:k5 a->k5 b->f6 (.alt a (.star b))
noncomputable def jL:Rx->Nat
 | .chars _=>2
 | .empty=>2
 | .never=>2
 | .cat a b=>jL a+jL b
 | .alt a b=>2+jL a+jL b
 | .star a=>2+jL a
 | .plus a=>2+jL a
 | .opt a=>2+jL a
 | .rep a lo none=>3+(lo+1)*jL a
 | .rep a _ (some hi)=>2+hi*jL a
noncomputable def vU:Rx->Nat
 | .chars _=>1
 | .empty=>0
 | .never=>0
 | .cat a b=>vU a+vU b
 | .alt a b=>vU a+vU b
 | .star a=>vU a
 | .plus a=>vU a
 | .opt a=>vU a
 | .rep a lo none=>(lo+1)*vU a
 | .rep a _ (some hi)=>hi*vU a
noncomputable def gz:Rx->Nat
 | .chars _=>1
 | .empty=>1
 | .never=>1
 | .cat a b=>1+gz a+gz b
 | .alt a b=>1+gz a+gz b
 | .star a=>1+gz a
 | .plus a=>1+gz a
 | .opt a=>1+gz a
 | .rep a _ _=>1+gz a
noncomputable def Wf:Rx->Prop
 | .chars s=>s∈S4
 | .empty=>True
 | .never=>True
 | .cat a b=>Wf a/\Wf b
 | .alt a b=>Wf a/\Wf b
 | .star a=>Wf a
 | .plus a=>Wf a
 | .opt a=>Wf a
 | .rep a lo none=>Wf a/\lo<=3
 | .rep a lo (some hi)=>Wf a/\lo<=hi/\hi<=3
theorem Wf.leaves:∀{r:Rx},Wf r->∀s∈leaves r,s∈S4
 | .chars s=>λh x hx=>by refine ao (aq.mp hx) ?_;exact h
 | .empty=>λw_ w_ hx=>nomatch hx
 | .never=>λw_ w_ hx=>nomatch hx
 | .cat _ _=>λh x hx=>(aI.mp hx).elim (h.1.leaves x) (h.2.leaves x)
 | .alt _ _=>λh x hx=>(aI.mp hx).elim (h.1.leaves x) (h.2.leaves x)
 | .star a=>λh x hx=>Wf.leaves (r:=a) h x hx
 | .plus a=>λh x hx=>Wf.leaves (r:=a) h x hx
 | .opt a=>λh x hx=>Wf.leaves (r:=a) h x hx
 | .rep a _ none=>λh x hx=>Wf.leaves (r:=a) h.1 x hx
 | .rep a _ (some _)=>λh x hx=>Wf.leaves (r:=a) h.1 x hx
structure dC(k e g:Nat)(r:Rx):Prop where
 st:jL r<=k
 ed:vU r<=e
 ht:gz r<=g
 wf:Wf r
theorem k5.small{r:Rx}(h:k5 r):dC 2 1 1 r:=by
 rcases h with⟨s,hs,rfl⟩|rfl|rfl
 ·exact⟨aG _,aG _,aG _,hs⟩
 ·exact⟨aG _,bg _,aG _,trivial⟩
 ·exact⟨aG _,bg _,aG _,trivial⟩
section
variable{k e g k' e' g' lo hi:Nat}{x y:Rx}
theorem dC.up(h:dC k e g x)(q:iu k k'=true)(q':iu e e'=true)(q'':iu g g'=true):dC k' e' g' x:=
 ⟨a8 h.st (aj q),a8 h.ed (aj q'),a8 h.ht (aj q''),h.wf⟩
theorem dC.alt(h:dC k e g x)(h':dC k' e' g' y):dC (2+k+k') (e+e') (1+g+g') (.alt x y):=
 ⟨fT (bV h.st 2) h'.st,fT h.ed h'.ed,fT (bV h.ht 1) h'.ht,h.wf,h'.wf⟩
theorem dC.cat(h:dC k e g x)(h':dC k' e' g' y):dC (k+k') (e+e') (1+g+g') (.cat x y):=
 ⟨fT h.st h'.st,fT h.ed h'.ed,fT (bV h.ht 1) h'.ht,h.wf,h'.wf⟩
theorem dC.star(h:dC k e g x):dC (2+k) e (1+g) (.star x):=⟨bV h.st 2,h.ed,bV h.ht 1,h.wf⟩
theorem dC.plus(h:dC k e g x):dC (2+k) e (1+g) (.plus x):=⟨bV h.st 2,h.ed,bV h.ht 1,h.wf⟩
theorem dC.opt(h:dC k e g x):dC (2+k) e (1+g) (.opt x):=⟨bV h.st 2,h.ed,bV h.ht 1,h.wf⟩
theorem dC.rep(h:dC k e g x)(q:lo<=hi/\hi<=3):dC (2+hi*k) (hi*e) (1+g) (.rep x lo (some hi)):=
 ⟨bV (dT _ h.st) 2,dT _ h.ed,bV h.ht 1,h.wf,q⟩
theorem dC.ren(h:dC k e g x)(q:lo<=3):dC (3+(lo+1)*k) ((lo+1)*e) (1+g) (.rep x lo none):=
 ⟨bV (dT _ h.st) 3,dT _ h.ed,bV h.ht 1,h.wf,q⟩
end
theorem f6.small{r:Rx}(h:f6 r):dC 9 3 4 r:=by
 cases h with
 |leaf h=>exact h.small.up rfl rfl rfl
 |star h=>exact h.small.star.up rfl rfl rfl
 |plus h=>exact h.small.plus.up rfl rfl rfl
 |opt h=>exact h.small.opt.up rfl rfl rfl
 |r22 h=>exact(h.small.rep (by decide)).up rfl rfl rfl
 |r12 h=>exact(h.small.rep (by decide)).up rfl rfl rfl
 |r2n h=>exact(h.small.ren (by decide)).up rfl rfl rfl
 |cat h h'=>exact(h.small.cat h'.small).up rfl rfl rfl
 |alt h h'=>exact(h.small.alt h'.small).up rfl rfl rfl
 |cats h h'=>exact(h.small.cat h'.small.star).up rfl rfl rfl
 |alts h h'=>exact(h.small.alt h'.small.star).up rfl rfl rfl
theorem E5{n:Nat}{x y z:Rx}(hx:f6 x)(hy:f6 y)(hz:f6 z):dC 55 15 20 (Iz n x y z).1/\dC 55 15 20 (Iz n x y z).2:=by
 have a:=hx.small;have b:=hy.small;have c:=hz.small;have em:dC 2 0 1 .empty:=⟨aG _,aG _,aG _,trivial⟩;have ne:dC 2 0 1 .never:=⟨aG _,aG _,aG _,trivial⟩;have u:∀{k e g k' e' g' r r'},dC k e g r->dC k' e' g' r'->(iu k 55 && (iu e 15 && (iu g 20 && (iu k' 55 && (iu e' 15 && iu g' 20)))))=true->dC 55 15 20 r/\dC 55 15 20 r':=λh h' q=>by
  rw[bD,bD,bD,bD,bD]at q;exact⟨h.up q.1 q.2.1 q.2.2.1,h'.up q.2.2.2.1 q.2.2.2.2.1 q.2.2.2.2.2⟩
 refine CR (P:=λe=>dC 55 15 20 e.1/\dC 55 15 20 e.2) (u em em rfl) ?_ n;refine .c (u (a.alt (b.alt c)) ((c.alt b).alt a) rfl) ?_;refine .c (u (a.alt a) (ne.alt a) rfl) ?_;refine .c (u (a.cat (b.cat c)) ((a.cat b).cat c) rfl) ?_;refine .c (u (a.cat em) (em.cat a) rfl) ?_;refine .c (u (ne.cat a) (b.cat ne) rfl) ?_;refine .c (u (a.cat (b.alt c)) ((a.cat b).alt (a.cat c)) rfl) ?_;refine .c (u ((a.alt b).cat c) ((a.cat c).alt (b.cat c)) rfl) ?_;refine .c (u (a.star) (em.alt (a.cat a.star)) rfl) ?_;refine .c (u (a.star) (em.alt (a.star.cat a)) rfl) ?_;refine .c (u ((a.alt b).star) (a.star.cat (b.cat a.star).star) rfl) ?_;refine .c (u (a.cat (b.cat a).star) ((a.cat b).star.cat a) rfl) ?_;refine .c (u (a.star.star) (a.star.cat a.star) rfl) ?_;refine .c (u (a.plus) (a.cat a.star) rfl) ?_;refine .c (u (a.opt) (a.rep (by decide)) rfl) ?_;refine .c (u (a.rep (by decide)) (a.cat (a.opt.cat a.opt)) rfl) ?_;refine .c (u (a.ren (by decide)) (a.cat a.plus) rfl) ?_;refine .c (u (a.star) ((a.rep (by decide)).cat (a.rep (by decide)).star) rfl) ?_;exact .c (u ((a.alt b).star) ((a.star.cat b.star).star) rfl) .z
theorem Lo{s:Sp}(h:s∈S4){c:Nat}(hc:qC s c=true):c<128:=by
 refine bJ (vE.mp hc) λp hp h2=>?_;have:=(AC s h p hp).2.2.2;simp at h2;exact bt (nat_lit 0x10135864500423fcc01) rfl this h2.2
theorem fg.all{A:Lg}{k:Nat->Prop}(h:∀u,A u->∀c∈u,k c):∀(n:Nat) (u:Wd),fg A n u->∀c∈u,k c
 |0,u,e=>λc hc=>by rw[show u=[]from e]at hc;cases hc
 |n+1,u,⟨v,w,e,a,b⟩=>λc hc=>by
  rw[e]at hc;exact(aI.mp hc).elim (h v a c) (fg.all h n w b c)
theorem bQ.all{A:Lg}{k:Nat->Prop}(h:∀u,A u->∀c∈u,k c)(u:Wd)(s:bQ A u):∀c∈u,k c:=let⟨n,hn⟩:=oq.mp s;fg.all h n u hn
theorem dp.all{A B:Lg}{k:Nat->Prop}(h:∀u,A u->∀c∈u,k c)(h':∀u,B u->∀c∈u,k c)(u:Wd):dp A B u->∀c∈u,k c:=λ⟨v,w,e,a,b⟩ c hc=>(aI.mp (e▸hc)).elim (h v a c) (h' w b c)
theorem jp:∀{r:Rx},(∀s∈leaves r,s∈S4)->∀u,fJ r u->∀c∈u,c<128
 | .chars s,h,u,⟨x,e,hx⟩=>λc hc=>by
  rw[e,aq]at hc;refine ao hc ?_;exact Lo (h s (aq.mpr rfl)) hx
 | .empty,_,u,e=>λc hc=>by rw[show u=[]from e]at hc;cases hc
 | .never,_,u,e=>λc hc=>cG e
 | .cat a b,h,u,e=>λc hc=>dp.all (jp λs hs=>h s (bh _ hs)) (jp λs hs=>h s (aL _ hs)) u e c hc
 | .alt a b,h,u,e=>λc hc=>e.elim (λe=>jp (λs hs=>h s (bh _ hs)) u e c hc) λe=>jp (λs hs=>h s (aL _ hs)) u e c hc
 | .star a,h,u,e=>λc hc=>bQ.all (jp (r:=a) h) u e c hc
 | .plus a,h,u,e=>λc hc=>dp.all (jp (r:=a) h) (bQ.all (jp (r:=a) h)) u e c hc
 | .opt a,h,u,e=>λc hc=>e.elim (λe=>by rw[show u=[]from e]at hc;cases hc) λe=>jp (r:=a) h u e c hc
 | .rep a lo none,h,u,e=>λc hc=>dp.all (fg.all (jp (r:=a) h) lo) (bQ.all (jp (r:=a) h)) u e c hc
 | .rep a lo (some hi),h,u,⟨n,_,_,e⟩=>λc hc=>fg.all (jp (r:=a) h) n u e c hc
noncomputable def pC(bounds numbers:List Nat)(count:Nat):Sp->Nat->Bool:=λs a=>decide (a<count) && qC s (least bounds numbers a)
section
variable{sets:List Sp}{bounds numbers:List Nat}{count:Nat}(h:tK sets bounds numbers count)
theorem rW(r:Rx)(w:Wd)(hw:∀a∈w,a<count):dP (pC bounds numbers count) r w↔fJ r (w.map (least bounds numbers)):=
 LangP_map (p:=pC bounds numbers count) (p':=qC) (ok:=λn=>n<count) r (λs w_ n hn=>by unfold pC;refine ao (decide_eq_true hn) ?_;rewrite[sT];with_reducible rfl) w hw
include h
theorem HN(u:Wd)(hu:∀c∈u,c<128):∃w:Wd,(∀a∈w,a<count)/\∀r,(∀s∈leaves r,s∈sets)->(fJ r u↔dP (pC bounds numbers count) r w):=by
 have hf:∀c,∃n,c<128->n<count/\∀s∈sets,qC s c=qC s (least bounds numbers n):=λc=>by
  by_cases hc:c<128
  ·obtain⟨n,hn⟩:=h.rep hc;exact⟨n,λw_=>hn⟩
  ·exact⟨0,λq=>absurd q hc⟩
 obtain⟨f,hf⟩:=Classical.axiomOfChoice hf;refine⟨u.map f,λa ha=>?_,λr hr=>?_⟩
 ·clear h;refine bJ (bG.mp ha) ?_;rintro c hc rfl
  exact(hf c (hu c hc)).1
 ·exact LangP_map (p:=qC) (p':=pC bounds numbers count) (ok:=λc=>c<128) r (λs hs c hc=>by
   obtain⟨a,b⟩:=hf c hc;unfold pC;refine ao (decide_eq_true a) ?_;rewrite[sT];refine ao (b s (hr s hs)) ?_;with_reducible rfl) u hu
theorem Bf(F:Prop->Prop->Prop)(h0:F False False){r r':Rx}(h1:∀s∈leaves r,s∈sets)(h2:∀s∈leaves r',s∈sets):
  (∀w:Wd,(∀a∈w,a<count)->F (dP (pC bounds numbers count) r w) (dP (pC bounds numbers count) r' w))↔∀u,F (fJ r u) (fJ r' u):=by
 constructor
 ·intro hw u
  by_cases hu:∀c∈u,c<128
  ·refine bJ (HN h u hu) λw w1 w2=>?_
   have:=hw w w1;rwa [<- propext (w2 r h1),<- propext (w2 r' h2)]at this
  ·have n:∀{x:Rx},(∀s∈leaves x,s∈sets)->(fJ x u)=False:=λhx=>propext ⟨λq=>hu (jp (λs hs=>h.s4 s (hx s hs)) u q),cG⟩
   refine ao (n h1) (ao (n h2) ?_);exact h0
 ·intro hu w hw
  refine ao (propext (rW r w hw)) (ao (propext (rW r' w hw)) ?_);exact hu _
end
section
set_option maxRecDepth 20000
section
variable{C:Cx}{d:Nat}{σ:AH}{vs:List V}{Q:V->AH->Prop}
theorem cn{q c n:String}{f:dm}(k:Nat)(hk:oI[k]?=some (q,c,n))(hf:LF PG c n=some f)(hP:C.prog=PG)(hl:vs.length=f.params.length)(W:wpSs C d [] f.body (I8 f vs) σ (q6 Q)):se C (d+1) q vs σ Q:=
 Js (aX hk) (hP▸hf) hl W
noncomputable def RT(C:Cx)(d:Nat)(σ:AH)(vs:List V)(Q:V->AH->Prop)(q:String)(f:dm):Prop:=vs.length=f.params.length->wpSs C d [] f.body (I8 f vs) σ (q6 Q)->se C (d+1) q vs σ Q
noncomputable def Jf:dm:=⟨4,[0],[.assign (.nm 1) (.list []),.assign (.nm 2) (.int 0),.assign (.nm 3) (.loc 0),.whiles (.cmp .Gt (.loc 3) (.int 0)) [.ifs (.cmp .Eq (.bin .BitAnd (.loc 3) (.int 1)) (.int 1)) [.expr (.mcall (.loc 1) "append" [.loc 2])] [],.assign (.nm 3) (.bin .RShift (.loc 3) (.int 1)),.assign (.nm 2) (.bin .Add (.loc 2) (.int 1))],.ret (.loc 1)]⟩
theorem LU(hP:C.prog=PG):RT C d σ vs Q "bits" Jf:=cn 0 rfl (by kernel_rfl) hP
noncomputable def CQ:dm:=⟨7,[0],[.assign (.nm 1) (.list []),.assign (.nm 2) (.list [.loc 0]),.whiles (.cmp .Gt (.call (.glob "len") [.loc 2]) (.int 0)) [.assign (.nm 3) (.mcall (.loc 2) "pop" []),.ifs (.cmp .Eq (.attr (.loc 3) "name") (.str "chars")) [.ifs (.cmp .NotIn (.mcall (.attr (.loc 3) "charset") "key" []) (.comp [none,none] 1 (.loc 1) [] (.mcall (.loc 1) "key" []))) [.expr (.mcall (.loc 1) "append" [.attr (.loc 3) "charset"])] []] [.assign (.nm 4) (.mcall (.loc 3) "parts" []),.expr (.mcall (.loc 4) "reverse" []),.fors (.nm 5) (.loc 4) [.expr (.mcall (.loc 2) "append" [.loc 5])]]],.ret (.loc 1)]⟩
theorem DS(hP:C.prog=PG):RT C d σ vs Q "charsets" CQ:=cn 1 rfl (by kernel_rfl) hP
noncomputable def H1:dm:=⟨3,[0,1],[.assign (.nm 2) (.list []),.whiles (.cmp .Eq (.attr (.loc 0) "name") (.loc 1)) [.expr (.mcall (.loc 2) "append" [.attr (.loc 0) "right"]),.assign (.nm 0) (.attr (.loc 0) "left")],.expr (.mcall (.loc 2) "append" [.loc 0]),.expr (.mcall (.loc 2) "reverse" []),.ret (.loc 2)]⟩
theorem Ju(hP:C.prog=PG):RT C d σ vs Q "chain" H1:=cn 2 rfl (by kernel_rfl) hP
noncomputable def xN:dm:=⟨11,[0,1,2],[.assign (.nm 3) (.attr (.loc 1) "name"),.ifs (.cmp .Eq (.loc 3) (.str "cat")) [.ret (.call (.glob "build_row") [.loc 0,.call (.glob "chain") [.loc 1,.str "cat"],.loc 2])] [],.ifs (.cmp .Eq (.loc 3) (.str "alt")) [.ret (.call (.glob "build_choice") [.loc 0,.call (.glob "chain") [.loc 1,.str "alt"],.loc 2])] [],.ifs (.cmp .Eq (.loc 3) (.str "star")) [.ret (.call (.glob "build_loop") [.loc 0,.attr (.loc 1) "body",.loc 2,.bool true,.bool true])] [],.ifs (.cmp .Eq (.loc 3) (.str "plus")) [.ret (.call (.glob "build_loop") [.loc 0,.attr (.loc 1) "body",.loc 2,.bool false,.bool true])] [],.ifs (.cmp .Eq (.loc 3) (.str "opt")) [.ret (.call (.glob "build_loop") [.loc 0,.attr (.loc 1) "body",.loc 2,.bool true,.bool false])] [],.ifs (.cmp .Eq (.loc 3) (.str "repeat")) [.ret (.call (.glob "build_copies") [.loc 0,.loc 1,.loc 2])] [],.assign (.nm 4) (.mcall (.loc 0) "add_state" []),.assign (.nm 5) (.mcall (.loc 0) "add_state" []),.ifs (.cmp .Eq (.loc 3) (.str "chars")) [.expr (.mcall (.loc 0) "add_move" [.loc 4,.mcall (.loc 2) "mask" [.attr (.loc 1) "charset"],.loc 5])] [.ifs (.cmp .Eq (.loc 3) (.str "empty")) [.expr (.mcall (.loc 0) "add_hop" [.loc 4,.loc 5])] []],.ret (.tup [.loc 4,.loc 5])]⟩
theorem IR(hP:C.prog=PG):RT C d σ vs Q "build" xN:=cn 3 rfl (by kernel_rfl) hP
noncomputable def Bm:dm:=⟨9,[0,1,2],[.assign (.tup [3,4]) (.call (.glob "build") [.loc 0,.sub (.loc 1) (.int 0),.loc 2]),.fors (.nm 5) (.slice (.loc 1) (some (.int 1)) none) [.assign (.tup [6,7]) (.call (.glob "build") [.loc 0,.loc 5,.loc 2]),.expr (.mcall (.loc 0) "add_hop" [.loc 4,.loc 6]),.assign (.nm 4) (.loc 7)],.ret (.tup [.loc 3,.loc 4])]⟩
theorem Cf(hP:C.prog=PG):RT C d σ vs Q "build_row" Bm:=cn 4 rfl (by kernel_rfl) hP
noncomputable def wC:dm:=⟨10,[0,1,2],[.assign (.nm 3) (.mcall (.loc 0) "add_state" []),.assign (.nm 4) (.list []),.fors (.nm 5) (.loc 1) [.assign (.tup [6,7]) (.call (.glob "build") [.loc 0,.loc 5,.loc 2]),.expr (.mcall (.loc 0) "add_hop" [.loc 3,.loc 6]),.expr (.mcall (.loc 4) "append" [.loc 7])],.assign (.nm 8) (.mcall (.loc 0) "add_state" []),.fors (.nm 7) (.loc 4) [.expr (.mcall (.loc 0) "add_hop" [.loc 7,.loc 8])],.ret (.tup [.loc 3,.loc 8])]⟩
theorem yw(hP:C.prog=PG):RT C d σ vs Q "build_choice" wC:=cn 5 rfl (by kernel_rfl) hP
noncomputable def sF:dm:=⟨10,[0,1,2,3,4],[.assign (.nm 5) (.mcall (.loc 0) "add_state" []),.assign (.tup [6,7]) (.call (.glob "build") [.loc 0,.loc 1,.loc 2]),.assign (.nm 8) (.mcall (.loc 0) "add_state" []),.expr (.mcall (.loc 0) "add_hop" [.loc 5,.loc 6]),.expr (.mcall (.loc 0) "add_hop" [.loc 7,.loc 8]),.ifs (.loc 4) [.expr (.mcall (.loc 0) "add_hop" [.loc 7,.loc 6])] [],.ifs (.loc 3) [.expr (.mcall (.loc 0) "add_hop" [.loc 5,.loc 8])] [],.ret (.tup [.loc 5,.loc 8])]⟩
theorem Bd(hP:C.prog=PG):RT C d σ vs Q "build_loop" sF:=cn 6 rfl (by kernel_rfl) hP
noncomputable def wG:dm:=⟨12,[0,1,2],[.assign (.nm 3) (.mcall (.loc 0) "add_state" []),.assign (.nm 4) (.loc 3),.fors (.nm 5) (.call (.glob "range") [.attr (.loc 1) "low"]) [.assign (.tup [6,7]) (.call (.glob "build") [.loc 0,.attr (.loc 1) "body",.loc 2]),.expr (.mcall (.loc 0) "add_hop" [.loc 4,.loc 6]),.assign (.nm 4) (.loc 7)],.ifs (.cmp .Is (.attr (.loc 1) "high") (.none)) [.assign (.tup [6,7]) (.call (.glob "build_loop") [.loc 0,.attr (.loc 1) "body",.loc 2,.bool true,.bool true]),.expr (.mcall (.loc 0) "add_hop" [.loc 4,.loc 6]),.ret (.tup [.loc 3,.loc 7])] [],.assign (.nm 8) (.mcall (.loc 0) "add_state" []),.expr (.mcall (.loc 0) "add_hop" [.loc 4,.loc 8]),.fors (.nm 5) (.call (.glob "range") [.bin .Sub (.attr (.loc 1) "high") (.attr (.loc 1) "low")]) [.assign (.tup [6,7]) (.call (.glob "build") [.loc 0,.attr (.loc 1) "body",.loc 2]),.expr (.mcall (.loc 0) "add_hop" [.loc 4,.loc 6]),.expr (.mcall (.loc 0) "add_hop" [.loc 7,.loc 8]),.assign (.nm 4) (.loc 7)],.ret (.tup [.loc 3,.loc 8])]⟩
theorem yI(hP:C.prog=PG):RT C d σ vs Q "build_copies" wG:=cn 7 rfl (by kernel_rfl) hP
noncomputable def zf:dm:=⟨9,[0,1],[.assign (.nm 2) (.call (.glob "Nfa") []),.expr (.mcall (.loc 2) "set_first" [.mcall (.loc 2) "add_state" []]),.fors (.tup [3,4]) (.loc 0) [.assign (.tup [5,6]) (.call (.glob "build") [.loc 2,.loc 3,.loc 1]),.expr (.mcall (.loc 2) "add_hop" [.attr (.loc 2) "first",.loc 5]),.expr (.mcall (.loc 2) "set_tag" [.loc 6,.loc 4])],.ret (.loc 2)]⟩
theorem Bh(hP:C.prog=PG):RT C d σ vs Q "joined_nfa" zf:=cn 8 rfl (by kernel_rfl) hP
noncomputable def DT:dm:=⟨8,[0,1],[.assign (.nm 3) (.dcomp [none,none] 1 (.loc 1) (.loc 1) (.bool true)),.assign (.nm 4) (.call (.glob "sorted") [.loc 3]),.whiles (.loc 4) [.assign (.nm 2) (.mcall (.loc 4) "pop" []),.fors (.nm 5) (.sub (.attr (.loc 0) "hops") (.loc 2)) [.ifs (.cmp .NotIn (.loc 5) (.loc 3)) [.assign (.sub (.loc 3) (.loc 5)) (.bool true),.expr (.mcall (.loc 4) "append" [.loc 5])] []]],.ret (.call (.glob "tuple") [.call (.glob "sorted") [.loc 3]])]⟩
theorem Fm(hP:C.prog=PG):RT C d σ vs Q "closure" DT:=cn 9 rfl (by kernel_rfl) hP
noncomputable def Dd:dm:=⟨6,[0,1],[.assign (.nm 2) (.dict [] []),.fors (.nm 3) (.loc 1) [.ifs (.cmp .In (.loc 3) (.attr (.loc 0) "tags")) [.assign (.sub (.loc 2) (.sub (.attr (.loc 0) "tags") (.loc 3))) (.bool true)] []],.ret (.call (.glob "tuple") [.call (.glob "sorted") [.loc 2]])]⟩
theorem Fa(hP:C.prog=PG):RT C d σ vs Q "tags_of" Dd:=cn 10 rfl (by kernel_rfl) hP
noncomputable def sC:dm:=⟨15,[0,1],[.assign (.nm 2) (.call (.glob "Subsets") [.loc 0]),.assign (.nm 3) (.list [.mcall (.loc 2) "begin" []]),.assign (.nm 4) (.dict [.sub (.loc 3) (.int 0)] [.int 0]),.assign (.nm 5) (.list []),.whiles (.cmp .Lt (.call (.glob "len") [.loc 5]) (.call (.glob "len") [.loc 3])) [.assign (.nm 6) (.mcall (.loc 2) "ways" [.sub (.loc 3) (.call (.glob "len") [.loc 5])]),.assign (.nm 7) (.list []),.fors (.nm 8) (.call (.glob "range") [.loc 1]) [.assign (.nm 9) (.mcall (.loc 2) "after" [.loc 6,.loc 8]),.ifs (.cmp .Eq (.loc 9) (.int 0)) [.expr (.mcall (.loc 7) "append" [.glob "DEAD"]),.cont] [],.ifs (.cmp .NotIn (.loc 9) (.loc 4)) [.assign (.sub (.loc 4) (.loc 9)) (.call (.glob "len") [.loc 3]),.expr (.mcall (.loc 3) "append" [.loc 9])] [],.expr (.mcall (.loc 7) "append" [.sub (.loc 4) (.loc 9)])],.expr (.mcall (.loc 5) "append" [.loc 7])],.ret (.call (.glob "Dfa") [.loc 5,.comp [none,none,some 2] 1 (.loc 3) [] (.mcall (.loc 2) "tags" [.loc 1])])]⟩
theorem AN(hP:C.prog=PG):RT C d σ vs Q "subset_dfa" sC:=cn 11 rfl (by kernel_rfl) hP
noncomputable def F4:dm:=⟨4,[0,1],[.ret (.call (.glob "subset_dfa") [.call (.glob "joined_nfa") [.list [.tup [.loc 0,.int 0]],.loc 1],.attr (.loc 1) "count"])]⟩
theorem HR(hP:C.prog=PG):RT C d σ vs Q "dfa_of" F4:=cn 12 rfl (by kernel_rfl) hP
noncomputable def Dl:dm:=⟨4,[0,1,2],[.ifs (.cmp .Eq (.loc 1) (.glob "DEAD")) [.ret (.glob "DEAD")] [],.ret (.sub (.sub (.attr (.loc 0) "rows") (.loc 1)) (.loc 2))]⟩
theorem E8(hP:C.prog=PG):RT C d σ vs Q "goal_of" Dl:=cn 13 rfl (by kernel_rfl) hP
noncomputable def DB:dm:=⟨3,[0,1],[.ifs (.cmp .Eq (.loc 1) (.glob "DEAD")) [.ret (.tup [])] [],.ret (.sub (.attr (.loc 0) "tags") (.loc 1))]⟩
theorem FV(hP:C.prog=PG):RT C d σ vs Q "tags_at" DB:=cn 14 rfl (by kernel_rfl) hP
noncomputable def CB:dm:=⟨3,[0,1],[.ifs (.cmp .Eq (.loc 0) (.glob "DEAD")) [.ret (.int 0)] [],.ret (.bin .Add (.bin .Add (.int 1) (.loc 1)) (.loc 0))]⟩
theorem Dr(hP:C.prog=PG):RT C d σ vs Q "place_of" CB:=cn 15 rfl (by kernel_rfl) hP
noncomputable def wU:dm:=⟨3,[0,1],[.ifs (.cmp .NotEq (.mcall (.loc 0) "class_count" []) (.mcall (.loc 1) "class_count" [])) [.stuck] []]⟩
theorem xX(hP:C.prog=PG):RT C d σ vs Q "check_counts" wU:=cn 16 rfl (by kernel_rfl) hP
noncomputable def Jl:dm:=⟨14,[0,1],[.expr (.call (.glob "check_counts") [.loc 0,.loc 1]),.assign (.nm 2) (.mcall (.loc 0) "state_count" []),.assign (.nm 3) (.call (.glob "Merger") [.bin .Add (.bin .Add (.loc 2) (.mcall (.loc 1) "state_count" [])) (.int 1)]),.assign (.nm 4) (.list [.tup [.int 0,.int 0]]),.whiles (.loc 4) [.assign (.tup [5,6]) (.mcall (.loc 4) "pop" []),.ifs (.mcall (.loc 3) "join" [.call (.glob "place_of") [.loc 5,.int 0],.call (.glob "place_of") [.loc 6,.loc 2]]) [.ifs (.cmp .NotEq (.call (.glob "tags_at") [.loc 0,.loc 5]) (.call (.glob "tags_at") [.loc 1,.loc 6])) [.ret (.bool false)] [],.fors (.nm 7) (.call (.glob "range") [.mcall (.loc 0) "class_count" []]) [.expr (.mcall (.loc 4) "append" [.tup [.call (.glob "goal_of") [.loc 0,.loc 5,.loc 7],.call (.glob "goal_of") [.loc 1,.loc 6,.loc 7]]])]] []],.ret (.bool true)]⟩
theorem K2(hP:C.prog=PG):RT C d σ vs Q "same" Jl:=cn 17 rfl (by kernel_rfl) hP
noncomputable def sE:dm:=⟨22,[0,1,2],[.expr (.call (.glob "check_counts") [.loc 0,.loc 1]),.assign (.nm 3) (.bin .Add (.mcall (.loc 1) "state_count" []) (.int 1)),.assign (.nm 4) (.list [.tup [.int 0,.int 0]]),.assign (.nm 5) (.list [.tup [.neg (.int 1),.neg (.int 1)]]),.assign (.nm 6) (.dict [.bin .Add (.loc 3) (.int 1)] [.int 0]),.assign (.nm 7) (.int 0),.whiles (.cmp .Lt (.loc 7) (.call (.glob "len") [.loc 4])) [.assign (.tup [8,9]) (.sub (.loc 4) (.loc 7)),.assign (.nm 10) (.call (.glob "tags_at") [.loc 0,.loc 8]),.assign (.nm 11) (.call (.glob "tags_at") [.loc 1,.loc 9]),.ifs (.bool2 false [.bool2 true [.loc 2,.loc 10,.not (.loc 11)],.bool2 true [.not (.loc 2),.cmp .NotEq (.loc 10) (.loc 11)]]) [.assign (.nm 12) (.list []),.whiles (.cmp .GtE (.sub (.sub (.loc 5) (.loc 7)) (.int 0)) (.int 0)) [.expr (.mcall (.loc 12) "append" [.sub (.sub (.loc 5) (.loc 7)) (.int 1)]),.assign (.nm 7) (.sub (.sub (.loc 5) (.loc 7)) (.int 0))],.expr (.mcall (.loc 12) "reverse" []),.ret (.loc 12)] [],.fors (.nm 13) (.call (.glob "range") [.mcall (.loc 0) "class_count" []]) [.assign (.nm 14) (.call (.glob "goal_of") [.loc 0,.loc 8,.loc 13]),.assign (.nm 15) (.call (.glob "goal_of") [.loc 1,.loc 9,.loc 13]),.assign (.nm 16) (.bin .Add (.bin .Add (.bin .Mult (.bin .Add (.loc 14) (.int 1)) (.loc 3)) (.loc 15)) (.int 1)),.ifs (.cmp .NotIn (.loc 16) (.loc 6)) [.assign (.sub (.loc 6) (.loc 16)) (.call (.glob "len") [.loc 4]),.expr (.mcall (.loc 4) "append" [.tup [.loc 14,.loc 15]]),.expr (.mcall (.loc 5) "append" [.tup [.loc 7,.loc 13]])] []],.assign (.nm 7) (.bin .Add (.loc 7) (.int 1))],.ret (.none)]⟩
theorem AS(hP:C.prog=PG):RT C d σ vs Q "first_word" sE:=cn 18 rfl (by kernel_rfl) hP
noncomputable def zv:dm:=⟨3,[0,1],[.ret (.call (.glob "first_word") [.loc 0,.loc 1,.bool false])]⟩
theorem AV(hP:C.prog=PG):RT C d σ vs Q "difference" zv:=cn 19 rfl (by kernel_rfl) hP
noncomputable def Dc:dm:=⟨3,[0,1],[.ret (.call (.glob "first_word") [.loc 0,.loc 1,.bool true])]⟩
theorem Fo(hP:C.prog=PG):RT C d σ vs Q "missing" Dc:=cn 20 rfl (by kernel_rfl) hP
noncomputable def zx:dm:=⟨4,[0,1],[.ret (.call (.glob "Classes") [.bin .Add (.call (.glob "charsets") [.loc 0]) (.call (.glob "charsets") [.loc 1])])]⟩
theorem Bp(hP:C.prog=PG):RT C d σ vs Q "classes_of" zx:=cn 21 rfl (by kernel_rfl) hP
noncomputable def u4:dm:=⟨6,[0,1],[.assign (.nm 2) (.call (.glob "classes_of") [.loc 0,.loc 1]),.ret (.call (.glob "same") [.call (.glob "dfa_of") [.loc 0,.loc 2],.call (.glob "dfa_of") [.loc 1,.loc 2]])]⟩
theorem wQ(hP:C.prog=PG):RT C d σ vs Q "equal_regexes" u4:=cn 22 rfl (by kernel_rfl) hP
noncomputable def Gm:dm:=⟨7,[0,1],[.assign (.nm 2) (.call (.glob "classes_of") [.loc 0,.loc 1]),.assign (.nm 3) (.call (.glob "difference") [.call (.glob "dfa_of") [.loc 0,.loc 2],.call (.glob "dfa_of") [.loc 1,.loc 2]]),.ifs (.cmp .Is (.loc 3) (.none)) [.ret (.none)] [],.ret (.mcall (.loc 2) "text" [.loc 3])]⟩
theorem IY(hP:C.prog=PG):RT C d σ vs Q "apart" Gm:=cn 23 rfl (by kernel_rfl) hP
noncomputable def Hb:dm:=⟨3,[0],[.assign (.nm 1) (.list []),.assign (.nm 2) (.loc 0),.whiles (.bool2 true [.cmp .Eq (.attr (.loc 2) "name") (.attr (.loc 0) "name"),.bool2 false [.cmp .Eq (.attr (.loc 2) "name") (.str "cat"),.cmp .Eq (.attr (.loc 2) "name") (.str "alt")]]) [.expr (.mcall (.loc 1) "append" [.attr (.loc 2) "right"]),.assign (.nm 2) (.attr (.loc 2) "left")],.expr (.mcall (.loc 1) "append" [.loc 2]),.expr (.mcall (.loc 1) "reverse" []),.ret (.loc 1)]⟩
theorem EN(hP:C.prog=PG):RT C d σ vs Q "spine" Hb:=cn 24 rfl (by kernel_rfl) hP
noncomputable def yq:dm:=⟨0,[],[.ret (.list [.tup [.str "chars",.tup [.tup [.int 97,.int 97]]],.tup [.str "chars",.tup [.tup [.int 98,.int 98]]],.tup [.str "chars",.tup [.tup [.int 97,.int 98]]],.tup [.str "chars",.tup [.tup [.int 0,.int 96],.tup [.int 98,.int 127]]],.tup [.str "empty"],.tup [.str "never"]])]⟩
theorem zh(hP:C.prog=PG):RT C d σ vs Q "_law_leaves" yq:=cn 25 rfl (by kernel_rfl) hP
noncomputable def B4:dm:=⟨1,[0],[.ret (.list [.comp [none,none,none] 1 (.slice (.loc 0) none (some (.int 63))) [] (.call (.glob "int") [.loc 1]),.int 0,.int 0])]⟩
theorem Dy(hP:C.prog=PG):RT C d σ vs Q "_law_pen" B4:=cn 26 rfl (by kernel_rfl) hP
noncomputable def mx:dm:=⟨10,[0,1],[.ifs (.cmp .Gt (.sub (.loc 0) (.int 2)) (.int 0)) [.assign (.nm 2) (.bin .Mod (.call (.glob "int") [.sub (.loc 0) (.int 2)]) (.loc 1)),.assign (.sub (.loc 0) (.int 2)) (.bin .FloorDiv (.call (.glob "int") [.sub (.loc 0) (.int 2)]) (.loc 1)),.ret (.loc 2)] [],.assign (.nm 3) (.sub (.loc 0) (.int 1)),.assign (.sub (.loc 0) (.int 1)) (.bin .Add (.loc 3) (.int 1)),.assign (.nm 4) (.int 0),.ifs (.cmp .NotEq (.sub (.loc 0) (.int 0)) (.list [])) [.assign (.nm 4) (.sub (.sub (.loc 0) (.int 0)) (.bin .Mod (.call (.glob "int") [.loc 3]) (.call (.glob "len") [.sub (.loc 0) (.int 0)])))] [],.ifs (.bool2 true [.cmp .Lt (.loc 3) (.call (.glob "len") [.sub (.loc 0) (.int 0)]),.cmp .GtE (.call (.glob "abs") [.loc 4]) (.bin .Pow (.int 10) (.int 18))]) [.assign (.nm 5) (.bin .Sub (.call (.glob "abs") [.loc 4]) (.bin .Pow (.int 10) (.int 18))),.assign (.sub (.loc 0) (.int 2)) (.bin .FloorDiv (.call (.glob "int") [.loc 5]) (.loc 1)),.ret (.bin .Mod (.call (.glob "int") [.loc 5]) (.loc 1))] [],.assign (.nm 6) (.bin .Mod (.call (.glob "int") [.bin .Pow (.bin .Add (.bin .Add (.bin .Mod (.call (.glob "int") [.loc 4]) (.int 2147483587)) (.bin .Mult (.int 41017) (.loc 3))) (.int 3001)) (.int 5)]) (.int 2147483629)),.assign (.nm 6) (.bin .Mod (.call (.glob "int") [.bin .Pow (.bin .Add (.bin .Add (.bin .Mult (.loc 6) (.bin .Add (.bin .Mult (.int 2) (.loc 3)) (.int 6011))) (.bin .Mult (.bin .Mult (.int 1009) (.loc 3)) (.loc 3))) (.int 23)) (.int 3)]) (.int 2147483579)),.ret (.bin .Mod (.call (.glob "int") [.bin .FloorDiv (.loc 6) (.int 32)]) (.loc 1))]⟩
theorem Cq(hP:C.prog=PG):RT C d σ vs Q "_law_draw" mx:=cn 27 rfl (by kernel_rfl) hP
noncomputable def pE:dm:=⟨6,[0],[.assign (.nm 1) (.sub (.call (.glob "_law_leaves") []) (.call (.glob "_law_draw") [.loc 0,.int 6])),.assign (.nm 2) (.call (.glob "_law_draw") [.loc 0,.int 6]),.ifs (.cmp .Lt (.loc 2) (.int 3)) [.ret (.sub (.list [.loc 1,.tup [.str "star",.loc 1],.tup [.str "plus",.loc 1]]) (.loc 2))] [],.ifs (.cmp .Eq (.loc 2) (.int 3)) [.ret (.sub (.list [.tup [.str "opt",.loc 1],.tup [.str "repeat",.loc 1,.int 2,.int 2],.tup [.str "repeat",.loc 1,.int 1,.int 2],.tup [.str "repeat",.loc 1,.int 2,.none]]) (.call (.glob "_law_draw") [.loc 0,.int 4]))] [],.assign (.nm 3) (.sub (.call (.glob "_law_leaves") []) (.call (.glob "_law_draw") [.loc 0,.int 6])),.ifs (.cmp .Eq (.call (.glob "_law_draw") [.loc 0,.int 3]) (.int 0)) [.assign (.nm 3) (.tup [.str "star",.loc 3])] [],.ret (.tup [.sub (.list [.str "cat",.str "alt"]) (.bin .Sub (.loc 2) (.int 4)),.loc 1,.loc 3])]⟩
theorem Cj(hP:C.prog=PG):RT C d σ vs Q "_law_tree" pE:=cn 28 rfl (by kernel_rfl) hP
noncomputable def Aw:dm:=⟨13,[0],[.assign (.nm 1) (.sub (.loc 0) (.int 0)),.ifs (.cmp .Eq (.loc 1) (.str "chars")) [.ret (.call (.glob "Chars") [.mcall (.glob "CharSet") "made" [.sub (.loc 0) (.int 1)]])] [],.ifs (.cmp .Eq (.loc 1) (.str "empty")) [.ret (.call (.glob "Empty") [])] [],.ifs (.cmp .Eq (.loc 1) (.str "never")) [.ret (.call (.glob "Never") [])] [],.ifs (.cmp .Eq (.loc 1) (.str "cat")) [.ret (.call (.glob "Cat") [.call (.glob "_law_node") [.sub (.loc 0) (.int 1)],.call (.glob "_law_node") [.sub (.loc 0) (.int 2)]])] [],.ifs (.cmp .Eq (.loc 1) (.str "alt")) [.ret (.call (.glob "Alt") [.call (.glob "_law_node") [.sub (.loc 0) (.int 1)],.call (.glob "_law_node") [.sub (.loc 0) (.int 2)]])] [],.ifs (.cmp .Eq (.loc 1) (.str "star")) [.ret (.call (.glob "Star") [.call (.glob "_law_node") [.sub (.loc 0) (.int 1)]])] [],.ifs (.cmp .Eq (.loc 1) (.str "plus")) [.ret (.call (.glob "Plus") [.call (.glob "_law_node") [.sub (.loc 0) (.int 1)]])] [],.ifs (.cmp .Eq (.loc 1) (.str "opt")) [.ret (.call (.glob "Opt") [.call (.glob "_law_node") [.sub (.loc 0) (.int 1)]])] [],.ret (.call (.glob "Repeat") [.call (.glob "_law_node") [.sub (.loc 0) (.int 1)],.sub (.loc 0) (.int 2),.sub (.loc 0) (.int 3)])]⟩
theorem gh(hP:C.prog=PG):RT C d σ vs Q "_law_node" Aw:=cn 29 rfl (by kernel_rfl) hP
noncomputable def zd:dm:=⟨4,[0,1],[.assign (.nm 2) (.loc 1),.assign (.nm 3) (.loc 1),.whiles (.cmp .Gt (.loc 3) (.int 0)) [.assign (.nm 3) (.call (.loc 0) [.loc 3]),.assign (.nm 3) (.bin .Sub (.loc 3) (.bin .BitAnd (.loc 3) (.loc 2))),.assign (.nm 2) (.bin .BitOr (.loc 2) (.loc 3))],.ret (.loc 2)]⟩
theorem AT(hP:C.prog=PG):RT C d σ vs Q "_law_again" zd:=cn 30 rfl (by kernel_rfl) hP
noncomputable def BL:dm:=⟨4,[0,1],[.ret (.cmp .Eq (.bin .BitAnd (.bin .RShift (.call (.glob "_law_ends") [.loc 0,.loc 1,.int 1]) (.call (.glob "len") [.loc 1])) (.int 1)) (.int 1))]⟩
theorem Df(hP:C.prog=PG):RT C d σ vs Q "_law_fit" BL:=cn 32 rfl (by kernel_rfl) hP
noncomputable def va:dm:=⟨12,[0,1,2,3],[.ifs (.cmp .Eq (.loc 0) (.int 0)) [.ret (.tup [.call (.glob "Alt") [.loc 1,.call (.glob "Alt") [.loc 2,.loc 3]],.call (.glob "Alt") [.call (.glob "Alt") [.loc 3,.loc 2],.loc 1]])] [],.ifs (.cmp .Eq (.loc 0) (.int 1)) [.ret (.tup [.call (.glob "Alt") [.loc 1,.loc 1],.call (.glob "Alt") [.call (.glob "Never") [],.loc 1]])] [],.ifs (.cmp .Eq (.loc 0) (.int 2)) [.ret (.tup [.call (.glob "Cat") [.loc 1,.call (.glob "Cat") [.loc 2,.loc 3]],.call (.glob "Cat") [.call (.glob "Cat") [.loc 1,.loc 2],.loc 3]])] [],.ifs (.cmp .Eq (.loc 0) (.int 3)) [.ret (.tup [.call (.glob "Cat") [.loc 1,.call (.glob "Empty") []],.call (.glob "Cat") [.call (.glob "Empty") [],.loc 1]])] [],.ifs (.cmp .Eq (.loc 0) (.int 4)) [.ret (.tup [.call (.glob "Cat") [.call (.glob "Never") [],.loc 1],.call (.glob "Cat") [.loc 2,.call (.glob "Never") []]])] [],.ifs (.cmp .Eq (.loc 0) (.int 5)) [.ret (.tup [.call (.glob "Cat") [.loc 1,.call (.glob "Alt") [.loc 2,.loc 3]],.call (.glob "Alt") [.call (.glob "Cat") [.loc 1,.loc 2],.call (.glob "Cat") [.loc 1,.loc 3]]])] [],.ifs (.cmp .Eq (.loc 0) (.int 6)) [.ret (.tup [.call (.glob "Cat") [.call (.glob "Alt") [.loc 1,.loc 2],.loc 3],.call (.glob "Alt") [.call (.glob "Cat") [.loc 1,.loc 3],.call (.glob "Cat") [.loc 2,.loc 3]]])] [],.ifs (.cmp .Eq (.loc 0) (.int 7)) [.ret (.tup [.call (.glob "Star") [.loc 1],.call (.glob "Alt") [.call (.glob "Empty") [],.call (.glob "Cat") [.loc 1,.call (.glob "Star") [.loc 1]]]])] [],.ifs (.cmp .Eq (.loc 0) (.int 8)) [.ret (.tup [.call (.glob "Star") [.loc 1],.call (.glob "Alt") [.call (.glob "Empty") [],.call (.glob "Cat") [.call (.glob "Star") [.loc 1],.loc 1]]])] [],.ifs (.cmp .Eq (.loc 0) (.int 9)) [.ret (.tup [.call (.glob "Star") [.call (.glob "Alt") [.loc 1,.loc 2]],.call (.glob "Cat") [.call (.glob "Star") [.loc 1],.call (.glob "Star") [.call (.glob "Cat") [.loc 2,.call (.glob "Star") [.loc 1]]]]])] [],.ifs (.cmp .Eq (.loc 0) (.int 10)) [.ret (.tup [.call (.glob "Cat") [.loc 1,.call (.glob "Star") [.call (.glob "Cat") [.loc 2,.loc 1]]],.call (.glob "Cat") [.call (.glob "Star") [.call (.glob "Cat") [.loc 1,.loc 2]],.loc 1]])] [],.ifs (.cmp .Eq (.loc 0) (.int 11)) [.ret (.tup [.call (.glob "Star") [.call (.glob "Star") [.loc 1]],.call (.glob "Cat") [.call (.glob "Star") [.loc 1],.call (.glob "Star") [.loc 1]]])] [],.ifs (.cmp .Eq (.loc 0) (.int 12)) [.ret (.tup [.call (.glob "Plus") [.loc 1],.call (.glob "Cat") [.loc 1,.call (.glob "Star") [.loc 1]]])] [],.ifs (.cmp .Eq (.loc 0) (.int 13)) [.ret (.tup [.call (.glob "Opt") [.loc 1],.call (.glob "Repeat") [.loc 1,.int 0,.int 1]])] [],.ifs (.cmp .Eq (.loc 0) (.int 14)) [.ret (.tup [.call (.glob "Repeat") [.loc 1,.int 1,.int 3],.call (.glob "Cat") [.loc 1,.call (.glob "Cat") [.call (.glob "Opt") [.loc 1],.call (.glob "Opt") [.loc 1]]]])] [],.ifs (.cmp .Eq (.loc 0) (.int 15)) [.ret (.tup [.call (.glob "Repeat") [.loc 1,.int 2,.none],.call (.glob "Cat") [.loc 1,.call (.glob "Plus") [.loc 1]]])] [],.ifs (.cmp .Eq (.loc 0) (.int 16)) [.ret (.tup [.call (.glob "Star") [.loc 1],.call (.glob "Cat") [.call (.glob "Repeat") [.loc 1,.int 0,.int 2],.call (.glob "Star") [.call (.glob "Repeat") [.loc 1,.int 3,.int 3]]]])] [],.ret (.tup [.call (.glob "Star") [.call (.glob "Alt") [.loc 1,.loc 2]],.call (.glob "Star") [.call (.glob "Cat") [.call (.glob "Star") [.loc 1],.call (.glob "Star") [.loc 2]]]])]⟩
theorem wD(hP:C.prog=PG):RT C d σ vs Q "_law_equation" va:=cn 33 rfl (by kernel_rfl) hP
noncomputable def mS:dm:=⟨15,[0,1,2,3],[.assign (.nm 4) (.call (.glob "apart") [.loc 0,.loc 1]),.assign (.nm 5) (.cmp .Is (.loc 4) (.none)),.ifs (.cmp .NotEq (.call (.glob "equal_regexes") [.loc 0,.loc 1]) (.loc 5)) [.ret (.bool false)] [],.ifs (.bool2 true [.cmp .IsNot (.loc 4) (.none),.cmp .Eq (.call (.glob "_law_fit") [.sub (.loc 2) (.int 0),.comp [none,none,none] 1 (.loc 4) [] (.call (.glob "ord") [.loc 1])]) (.call (.glob "_law_fit") [.sub (.loc 2) (.int 1),.comp [none,none,none] 1 (.loc 4) [] (.call (.glob "ord") [.loc 1])])]) [.ret (.bool false)] [],.assign (.nm 6) (.list [.str ""]),.fors (.nm 7) (.call (.glob "range") [.ite (.loc 5) (.int 4) (.bin .Add (.call (.glob "len") [.loc 4]) (.int 1))]) [.ifs (.cmp .Gt (.call (.glob "len") [.loc 6]) (.int 20)) [.ret (.bool true)] [],.fors (.nm 8) (.loc 6) [.assign (.nm 9) (.comp [none,none,none] 1 (.loc 8) [] (.call (.glob "ord") [.loc 1])),.ifs (.cmp .NotEq (.call (.glob "_law_fit") [.sub (.loc 2) (.int 0),.loc 9]) (.call (.glob "_law_fit") [.sub (.loc 2) (.int 1),.loc 9])) [.ret (.cmp .Eq (.loc 8) (.loc 4))] []],.assign (.nm 6) (.comp2 [none,none,none,some 3] 1 (.loc 6) 2 (.loc 3) (.bin .Add (.loc 1) (.loc 2)))],.ret (.loc 5)]⟩
theorem uu(hP:C.prog=PG):RT C d σ vs Q "_law_apart_told" mS:=cn 34 rfl (by kernel_rfl) hP
noncomputable def r8:dm:=⟨7,[0,1],[.assign (.nm 2) (.call (.glob "Classes") [.bin .Add (.call (.glob "charsets") [.loc 0]) (.call (.glob "charsets") [.loc 1])]),.ret (.cmp .Is (.call (.glob "missing") [.call (.glob "dfa_of") [.loc 0,.loc 2],.call (.glob "dfa_of") [.loc 1,.loc 2]]) (.none))]⟩
theorem sZ(hP:C.prog=PG):RT C d σ vs Q "_law_lies_within" r8:=cn 35 rfl (by kernel_rfl) hP
noncomputable def Hl:dm:=⟨25,[0],[.assign (.nm 1) (.call (.glob "_law_pen") [.loc 0]),.assign (.nm 2) (.list [.call (.glob "_law_tree") [.loc 1],.call (.glob "_law_tree") [.loc 1],.call (.glob "_law_tree") [.loc 1]]),.assign (.tup [3,4,5]) (.comp [none,none,none] 1 (.loc 2) [] (.call (.glob "_law_node") [.loc 1])),.fors (.nm 6) (.call (.glob "range") [.int 2]) [.assign (.tup [7,8]) (.call (.glob "_law_equation") [.call (.glob "_law_draw") [.loc 1,.int 18],.loc 3,.loc 4,.loc 5]),.ifs (.not (.call (.glob "equal_regexes") [.loc 7,.loc 8])) [.ret (.bool false)] []],.assign (.nm 9) (.call (.glob "Classes") [.bin .Add (.call (.glob "charsets") [.loc 3]) (.call (.glob "charsets") [.loc 4])]),.ifs (.not (.call (.glob "_law_apart_told") [.loc 3,.loc 4,.loc 2,.comp [none,none,none,some 9] 1 (.call (.glob "range") [.attr (.loc 9) "count"]) [] (.call (.glob "chr") [.mcall (.loc 3) "least" [.loc 1]])])) [.ret (.bool false)] [],.ifs (.cmp .NotEq (.call (.glob "_law_lies_within") [.loc 3,.loc 4]) (.call (.glob "equal_regexes") [.call (.glob "Alt") [.loc 3,.loc 4],.loc 4])) [.ret (.bool false)] [],.assign (.nm 10) (.sub (.list [.loc 5,.call (.glob "Cat") [.call (.glob "Star") [.call (.glob "Alt") [.loc 4,.loc 5]],.loc 3]]) (.call (.glob "_law_draw") [.loc 1,.int 2])),.assign (.nm 11) (.call (.glob "_law_lies_within") [.call (.glob "Alt") [.loc 3,.call (.glob "Cat") [.loc 4,.loc 10]],.loc 10]),.ifs (.not (.loc 11)) [.ret (.cmp .Eq (.mcall (.loc 10) "told" []) (.mcall (.loc 5) "told" []))] [],.ret (.call (.glob "_law_lies_within") [.call (.glob "Cat") [.call (.glob "Star") [.loc 4],.loc 3],.loc 10])]⟩
theorem Nh(hP:C.prog=PG):RT C d σ vs Q "law" Hl:=cn 36 rfl (by kernel_rfl) hP
noncomputable def sf:dm:=⟨2,[0,1],[.assign (.attr (.loc 0) "spans") (.loc 1)]⟩
theorem sW(hP:C.prog=PG):RT C d σ vs Q "CharSet.__init__" sf:=cn 37 rfl (by kernel_rfl) hP
noncomputable def wJ:dm:=⟨13,[0],[.assign (.nm 1) (.list []),.fors (.tup [2,3]) (.loc 0) [.assign (.nm 4) (.call (.glob "max") [.loc 2,.int 0]),.assign (.nm 5) (.call (.glob "min") [.loc 3,.glob "TOP"]),.ifs (.cmp .LtE (.loc 4) (.loc 5)) [.expr (.mcall (.loc 1) "append" [.tup [.loc 4,.loc 5]])] []],.assign (.nm 6) (.list []),.fors (.tup [4,5]) (.call (.glob "sorted") [.loc 1]) [.ifs (.bool2 true [.loc 6,.cmp .LtE (.loc 4) (.bin .Add (.sub (.sub (.loc 6) (.neg (.int 1))) (.int 1)) (.int 1))]) [.ifs (.cmp .Gt (.loc 5) (.sub (.sub (.loc 6) (.neg (.int 1))) (.int 1))) [.assign (.sub (.loc 6) (.neg (.int 1))) (.tup [.sub (.sub (.loc 6) (.neg (.int 1))) (.int 0),.loc 5])] []] [.expr (.mcall (.loc 6) "append" [.tup [.loc 4,.loc 5]])]],.ret (.call (.glob "CharSet") [.call (.glob "tuple") [.loc 6]])]⟩
theorem xV(hP:C.prog=PG):RT C d σ vs Q "CharSet.made" wJ:=cn 38 rfl (by kernel_rfl) hP
noncomputable def yy:dm:=⟨1,[0],[.ret (.attr (.loc 0) "spans")]⟩
theorem zg(hP:C.prog=PG):RT C d σ vs Q "CharSet.key" yy:=cn 39 rfl (by kernel_rfl) hP
noncomputable def r9:dm:=⟨13,[0,1],[.assign (.nm 2) (.dict [.int 0] [.int 0]),.fors (.nm 3) (.call (.glob "range") [.call (.glob "len") [.loc 1]]) [.fors (.tup [4,5]) (.attr (.sub (.loc 1) (.loc 3)) "spans") [.assign (.sub (.loc 2) (.loc 4)) (.bin .BitXor (.mcall (.loc 2) "get" [.loc 4,.int 0]) (.bin .LShift (.int 1) (.loc 3))),.ifs (.cmp .Lt (.loc 5) (.glob "TOP")) [.assign (.sub (.loc 2) (.bin .Add (.loc 5) (.int 1))) (.bin .BitXor (.mcall (.loc 2) "get" [.bin .Add (.loc 5) (.int 1),.int 0]) (.bin .LShift (.int 1) (.loc 3)))] []]],.assign (.attr (.loc 0) "bounds") (.list []),.assign (.attr (.loc 0) "numbers") (.list []),.assign (.nm 6) (.dict [] []),.assign (.nm 7) (.int 0),.fors (.nm 8) (.sortedKeys (.loc 2)) [.assign (.nm 7) (.bin .BitXor (.loc 7) (.sub (.loc 2) (.loc 8))),.ifs (.cmp .NotIn (.loc 7) (.loc 6)) [.assign (.sub (.loc 6) (.loc 7)) (.call (.glob "len") [.loc 6])] [],.expr (.mcall (.attr (.loc 0) "bounds") "append" [.loc 8]),.expr (.mcall (.attr (.loc 0) "numbers") "append" [.sub (.loc 6) (.loc 7)])],.assign (.attr (.loc 0) "count") (.call (.glob "len") [.loc 6])]⟩
theorem sY(hP:C.prog=PG):RT C d σ vs Q "Classes.__init__" r9:=cn 40 rfl (by kernel_rfl) hP
noncomputable def lO:dm:=⟨13,[0,1],[.assign (.nm 2) (.int 0),.assign (.nm 3) (.int 0),.assign (.nm 4) (.attr (.loc 1) "spans"),.assign (.nm 5) (.int 0),.fors (.nm 6) (.call (.glob "range") [.call (.glob "len") [.attr (.loc 0) "bounds"]]) [.assign (.nm 7) (.sub (.attr (.loc 0) "bounds") (.loc 6)),.assign (.nm 8) (.glob "TOP"),.ifs (.cmp .Lt (.bin .Add (.loc 6) (.int 1)) (.call (.glob "len") [.attr (.loc 0) "bounds"])) [.assign (.nm 8) (.bin .Sub (.sub (.attr (.loc 0) "bounds") (.bin .Add (.loc 6) (.int 1))) (.int 1))] [],.whiles (.bool2 true [.cmp .Lt (.loc 5) (.call (.glob "len") [.loc 4]),.cmp .Lt (.sub (.sub (.loc 4) (.loc 5)) (.int 1)) (.loc 7)]) [.assign (.nm 5) (.bin .Add (.loc 5) (.int 1))],.ifs (.bool2 true [.cmp .Lt (.loc 5) (.call (.glob "len") [.loc 4]),.cmp .LtE (.sub (.sub (.loc 4) (.loc 5)) (.int 0)) (.loc 8)]) [.ifs (.bool2 false [.cmp .Gt (.sub (.sub (.loc 4) (.loc 5)) (.int 0)) (.loc 7),.cmp .Lt (.sub (.sub (.loc 4) (.loc 5)) (.int 1)) (.loc 8)]) [.stuck] [],.assign (.nm 2) (.bin .BitOr (.loc 2) (.bin .LShift (.int 1) (.sub (.attr (.loc 0) "numbers") (.loc 6))))] [.assign (.nm 3) (.bin .BitOr (.loc 3) (.bin .LShift (.int 1) (.sub (.attr (.loc 0) "numbers") (.loc 6))))]],.ifs (.bin .BitAnd (.loc 2) (.loc 3)) [.stuck] [],.ret (.loc 2)]⟩
theorem xC(hP:C.prog=PG):RT C d σ vs Q "Classes.mask" lO:=cn 41 rfl (by kernel_rfl) hP
noncomputable def vi:dm:=⟨2,[0,1],[.ret (.sub (.attr (.loc 0) "bounds") (.mcall (.attr (.loc 0) "numbers") "index" [.loc 1]))]⟩
theorem wF(hP:C.prog=PG):RT C d σ vs Q "Classes.least" vi:=cn 42 rfl (by kernel_rfl) hP
noncomputable def wE:dm:=⟨2,[0,1],[.ret (.mcall (.str "") "join" [.comp [none,none,none,some 0] 1 (.loc 1) [] (.call (.glob "chr") [.mcall (.loc 3) "least" [.loc 1]])])]⟩
theorem xP(hP:C.prog=PG):RT C d σ vs Q "Classes.text" wE:=cn 43 rfl (by kernel_rfl) hP
noncomputable def wM:dm:=⟨1,[0],[.assign (.attr (.loc 0) "moves") (.list []),.assign (.attr (.loc 0) "hops") (.list []),.assign (.attr (.loc 0) "tags") (.dict [] []),.assign (.attr (.loc 0) "first") (.int 0)]⟩
theorem yD(hP:C.prog=PG):RT C d σ vs Q "Nfa.__init__" wM:=cn 44 rfl (by kernel_rfl) hP
noncomputable def vp:dm:=⟨2,[0],[.expr (.mcall (.attr (.loc 0) "moves") "append" [.list []]),.expr (.mcall (.attr (.loc 0) "hops") "append" [.list []]),.ret (.bin .Sub (.call (.glob "len") [.attr (.loc 0) "moves"]) (.int 1))]⟩
theorem wS(hP:C.prog=PG):RT C d σ vs Q "Nfa.add_state" vp:=cn 45 rfl (by kernel_rfl) hP
noncomputable def wP:dm:=⟨4,[0,1,2,3],[.ifs (.cmp .NotEq (.loc 2) (.int 0)) [.expr (.mcall (.sub (.attr (.loc 0) "moves") (.loc 1)) "append" [.tup [.loc 2,.loc 3]])] []]⟩
theorem xI(hP:C.prog=PG):RT C d σ vs Q "Nfa.add_move" wP:=cn 46 rfl (by kernel_rfl) hP
noncomputable def yx:dm:=⟨3,[0,1,2],[.ifs (.cmp .NotIn (.loc 2) (.sub (.attr (.loc 0) "hops") (.loc 1))) [.expr (.mcall (.sub (.attr (.loc 0) "hops") (.loc 1)) "append" [.loc 2])] []]⟩
theorem zu(hP:C.prog=PG):RT C d σ vs Q "Nfa.add_hop" yx:=cn 47 rfl (by kernel_rfl) hP
noncomputable def vg:dm:=⟨2,[0,1],[.assign (.attr (.loc 0) "first") (.loc 1)]⟩
theorem wH(hP:C.prog=PG):RT C d σ vs Q "Nfa.set_first" vg:=cn 48 rfl (by kernel_rfl) hP
noncomputable def xG:dm:=⟨3,[0,1,2],[.assign (.sub (.attr (.loc 0) "tags") (.loc 1)) (.loc 2)]⟩
theorem zm(hP:C.prog=PG):RT C d σ vs Q "Nfa.set_tag" xG:=cn 49 rfl (by kernel_rfl) hP
noncomputable def r7:dm:=⟨2,[0,1],[.assign (.attr (.loc 0) "nfa") (.loc 1),.assign (.attr (.loc 0) "kept") (.dict [] [])]⟩
theorem to(hP:C.prog=PG):RT C d σ vs Q "Subsets.__init__" r7:=cn 50 rfl (by kernel_rfl) hP
noncomputable def qt:dm:=⟨5,[0,1],[.ifs (.cmp .NotIn (.loc 1) (.attr (.loc 0) "kept")) [.assign (.nm 2) (.int 0),.fors (.nm 3) (.call (.glob "closure") [.attr (.loc 0) "nfa",.list [.loc 1]]) [.ifs (.bool2 false [.sub (.attr (.attr (.loc 0) "nfa") "moves") (.loc 3),.cmp .In (.loc 3) (.attr (.attr (.loc 0) "nfa") "tags")]) [.aug 2 .BitOr (.bin .LShift (.int 1) (.loc 3))] []],.assign (.sub (.attr (.loc 0) "kept") (.loc 1)) (.loc 2)] [],.ret (.sub (.attr (.loc 0) "kept") (.loc 1))]⟩
theorem qQ(hP:C.prog=PG):RT C d σ vs Q "Subsets.closure_of" qt:=cn 51 rfl (by kernel_rfl) hP
noncomputable def vj:dm:=⟨1,[0],[.ret (.mcall (.loc 0) "closure_of" [.attr (.attr (.loc 0) "nfa") "first"])]⟩
theorem wR(hP:C.prog=PG):RT C d σ vs Q "Subsets.begin" vj:=cn 52 rfl (by kernel_rfl) hP
noncomputable def wA:dm:=⟨7,[0,1],[.assign (.nm 2) (.list []),.fors (.nm 3) (.call (.glob "bits") [.loc 1]) [.fors (.tup [4,5]) (.sub (.attr (.attr (.loc 0) "nfa") "moves") (.loc 3)) [.expr (.mcall (.loc 2) "append" [.tup [.loc 4,.mcall (.loc 0) "closure_of" [.loc 5]]])]],.ret (.loc 2)]⟩
theorem xM(hP:C.prog=PG):RT C d σ vs Q "Subsets.ways" wA:=cn 53 rfl (by kernel_rfl) hP
noncomputable def uY:dm:=⟨6,[0,1,2],[.assign (.nm 3) (.int 0),.fors (.tup [4,5]) (.loc 1) [.ifs (.bin .BitAnd (.bin .RShift (.loc 4) (.loc 2)) (.int 1)) [.aug 3 .BitOr (.loc 5)] []],.ret (.loc 3)]⟩
theorem wK(hP:C.prog=PG):RT C d σ vs Q "Subsets.after" uY:=cn 54 rfl (by kernel_rfl) hP
noncomputable def wL:dm:=⟨4,[0,1],[.ret (.call (.glob "tags_of") [.attr (.loc 0) "nfa",.call (.glob "bits") [.loc 1]])]⟩
theorem xF(hP:C.prog=PG):RT C d σ vs Q "Subsets.tags" wL:=cn 55 rfl (by kernel_rfl) hP
noncomputable def wO:dm:=⟨3,[0,1,2],[.assign (.attr (.loc 0) "rows") (.loc 1),.assign (.attr (.loc 0) "tags") (.loc 2)]⟩
theorem yu(hP:C.prog=PG):RT C d σ vs Q "Dfa.__init__" wO:=cn 56 rfl (by kernel_rfl) hP
noncomputable def tp:dm:=⟨2,[0],[.ret (.call (.glob "len") [.sub (.attr (.loc 0) "rows") (.int 0)])]⟩
theorem tO(hP:C.prog=PG):RT C d σ vs Q "Dfa.class_count" tp:=cn 57 rfl (by kernel_rfl) hP
noncomputable def tx:dm:=⟨2,[0],[.ret (.call (.glob "len") [.attr (.loc 0) "rows"])]⟩
theorem ud(hP:C.prog=PG):RT C d σ vs Q "Dfa.state_count" tx:=cn 58 rfl (by kernel_rfl) hP
noncomputable def s8:dm:=⟨4,[0,1],[.assign (.attr (.loc 0) "heads") (.call (.glob "list") [.call (.glob "range") [.loc 1]]),.assign (.attr (.loc 0) "sizes") (.bin .Mult (.list [.int 1]) (.loc 1))]⟩
theorem tR(hP:C.prog=PG):RT C d σ vs Q "Merger.__init__" s8:=cn 59 rfl (by kernel_rfl) hP
noncomputable def yo:dm:=⟨2,[0,1],[.whiles (.cmp .NotEq (.sub (.attr (.loc 0) "heads") (.loc 1)) (.loc 1)) [.assign (.sub (.attr (.loc 0) "heads") (.loc 1)) (.sub (.attr (.loc 0) "heads") (.sub (.attr (.loc 0) "heads") (.loc 1))),.assign (.nm 1) (.sub (.attr (.loc 0) "heads") (.loc 1))],.ret (.loc 1)]⟩
theorem zw(hP:C.prog=PG):RT C d σ vs Q "Merger.head" yo:=cn 60 rfl (by kernel_rfl) hP
noncomputable def qU:dm:=⟨5,[0,1,2],[.assign (.nm 3) (.mcall (.loc 0) "head" [.loc 1]),.assign (.nm 4) (.mcall (.loc 0) "head" [.loc 2]),.ifs (.cmp .Eq (.loc 3) (.loc 4)) [.ret (.bool false)] [],.ifs (.cmp .Lt (.sub (.attr (.loc 0) "sizes") (.loc 3)) (.sub (.attr (.loc 0) "sizes") (.loc 4))) [.assign (.tup [3,4]) (.tup [.loc 4,.loc 3])] [],.assign (.sub (.attr (.loc 0) "heads") (.loc 4)) (.loc 3),.assign (.sub (.attr (.loc 0) "sizes") (.loc 3)) (.bin .Add (.sub (.attr (.loc 0) "sizes") (.loc 3)) (.sub (.attr (.loc 0) "sizes") (.loc 4))),.ret (.bool true)]⟩
theorem zc(hP:C.prog=PG):RT C d σ vs Q "Merger.join" qU:=cn 61 rfl (by kernel_rfl) hP
noncomputable def zb:dm:=⟨1,[0],[.ret (.list [])]⟩
theorem tP(hP:C.prog=PG):RT C d σ vs Q "Node.parts" zb:=cn 62 rfl (by kernel_rfl) hP
noncomputable def AR:dm:=⟨1,[0],[.ret (.tup [.attr (.loc 0) "name"])]⟩
theorem vS(hP:C.prog=PG):RT C d σ vs Q "Node.told" AR:=cn 63 rfl (by kernel_rfl) hP
noncomputable def tT:dm:=⟨2,[0,1],[.assign (.attr (.loc 0) "charset") (.loc 1)]⟩
theorem u7(hP:C.prog=PG):RT C d σ vs Q "Chars.__init__" tT:=cn 64 rfl (by kernel_rfl) hP
noncomputable def zo:dm:=⟨1,[0],[.ret (.tup [.attr (.loc 0) "name",.mcall (.attr (.loc 0) "charset") "key" []])]⟩
theorem AY(hP:C.prog=PG):RT C d σ vs Q "Chars.told" zo:=cn 65 rfl (by kernel_rfl) hP
noncomputable def uX:dm:=⟨3,[0,1,2],[.assign (.attr (.loc 0) "left") (.loc 1),.assign (.attr (.loc 0) "right") (.loc 2)]⟩
theorem qd(hP:C.prog=PG):RT C d σ vs Q "Pair.__init__" uX:=cn 66 rfl (by kernel_rfl) hP
noncomputable def zk:dm:=⟨1,[0],[.ret (.list [.attr (.loc 0) "left",.attr (.loc 0) "right"])]⟩
theorem tV(hP:C.prog=PG):RT C d σ vs Q "Pair.parts" zk:=cn 67 rfl (by kernel_rfl) hP
noncomputable def A1:dm:=⟨5,[0],[.assign (.nm 1) (.call (.glob "spine") [.loc 0]),.assign (.nm 2) (.mcall (.sub (.loc 1) (.int 0)) "told" []),.fors (.nm 3) (.slice (.loc 1) (some (.int 1)) none) [.assign (.nm 2) (.tup [.attr (.loc 0) "name",.loc 2,.mcall (.loc 3) "told" []])],.ret (.loc 2)]⟩
theorem vX(hP:C.prog=PG):RT C d σ vs Q "Pair.told" A1:=cn 68 rfl (by kernel_rfl) hP
noncomputable def u8:dm:=⟨2,[0,1],[.assign (.attr (.loc 0) "body") (.loc 1)]⟩
theorem wu(hP:C.prog=PG):RT C d σ vs Q "Loop.__init__" u8:=cn 69 rfl (by kernel_rfl) hP
noncomputable def zA:dm:=⟨1,[0],[.ret (.list [.attr (.loc 0) "body"])]⟩
theorem mn(hP:C.prog=PG):RT C d σ vs Q "Loop.parts" zA:=cn 70 rfl (by kernel_rfl) hP
noncomputable def Aq:dm:=⟨1,[0],[.ret (.tup [.attr (.loc 0) "name",.mcall (.attr (.loc 0) "body") "told" []])]⟩
theorem qK(hP:C.prog=PG):RT C d σ vs Q "Loop.told" Aq:=cn 71 rfl (by kernel_rfl) hP
noncomputable def mU:dm:=⟨8,[0,1,2,3],[.expr (.mcall (.glob "Loop") "__init__" [.loc 0,.loc 1]),.ifs (.bool2 false [.cmp .Lt (.loc 2) (.int 0),.cmp .Gt (.loc 2) (.glob "MOST_REPEAT")]) [.stuck] [],.ifs (.bool2 true [.cmp .IsNot (.loc 3) (.none),.bool2 false [.cmp .Lt (.loc 3) (.loc 2),.cmp .Gt (.loc 3) (.glob "MOST_REPEAT")]]) [.stuck] [],.assign (.attr (.loc 0) "low") (.loc 2),.assign (.attr (.loc 0) "high") (.loc 3)]⟩
theorem tZ(hP:C.prog=PG):RT C d σ vs Q "Repeat.__init__" mU:=cn 72 rfl (by kernel_rfl) hP
noncomputable def xW:dm:=⟨1,[0],[.ret (.tup [.attr (.loc 0) "name",.mcall (.attr (.loc 0) "body") "told" [],.attr (.loc 0) "low",.attr (.loc 0) "high"])]⟩
theorem oj(hP:C.prog=PG):RT C d σ vs Q "Repeat.told" xW:=cn 73 rfl (by kernel_rfl) hP
end
end
section
variable{C:Cx}{d:Nat}{σ:AH}{Q:V->AH->Prop}
theorem iJ{α:Type}{T:bT->AH->(Bool->AH->Prop)->Prop}{B:bT->AH->dy->Prop}{K:dy}(μ:α->Nat)(E:α->bT)(S:α->AH)(I:α->Prop)
  (step:∀x,I x->∀R:bT->AH->Prop,(∀y,μ y<μ x->I y->R (E y) (S y))->let e:=E x;T e (S x) λb σ'=>(b=true->B e σ' (mO R K))/\(b=false->K .next e σ'))
  (x:α) (h:I x):∃f,rQ T B K f (E x) (S x):=by
 have go:∀f x,μ x<f->I x->rQ T B K f (E x) (S x):=by
  intro f
  induction f with
  |zero=>intro x h;exact absurd h (jv _)
  |succ f ih=>intro x h hI;exact step x hI _ λy hy hI'=>ih y (jF hy (dX h)) hI'
 exact⟨μ x+1,go _ _ (bR _) h⟩
theorem cJ{vs:List V}(h:vs.length<=16777216)(k:∀a,σ a=none->Q (.ref a) (σ.set a (.list vs))):jU vs σ Q:=jf.mpr ⟨h,.inl k⟩
theorem d6{vs:List V}(h:vs.length<=16777216)(k:Q (.list vs) σ):jU vs σ Q:=jf.mpr ⟨h,.inr k⟩
theorem jV{c:Prop} [Decidable c]{A B:Prop}(ha:c->A)(hb:¬c->B): (decide c=true->A)/\(decide c=false->B):=⟨λh=>ha (of_decide_eq_true h),λh=>hb (of_decide_eq_false h)⟩
theorem ub{a:aY}{vs:List V}{m:String}(h:σ a=some (.list vs)):j3 σ (.ref a) m=(ue m).map (·,true):=by
 delta j3 pJ;dsimp only;exact ao (show pM σ (.ref a)=none from congrArg (eJ · KX) h) (ao (show d7 σ (.ref a)=some vs from congrArg (eJ · Ky) h) rfl)
theorem fH{a:aY}{v:V}{vs:List V}{K:V->AH->Prop}(e:σ a=some (.list vs))(hl:vs.length<=16777216)(q:K .none (σ.set a (.list (vs++[v])))):
  mW σ (.ref a) "append" λq=>callN C d q.1 (iY q.2 (.ref a) [v]) σ K:=mW_of (q:=("list.append",true)) (ub e) (bU.mpr (yd e hl q))
noncomputable abbrev cP(l:List Nat):List V:=l.map λk=> .int (k:Nat)
theorem iR(l:List Nat)(k:Nat):cP l++[.int (k:Nat)]=cP (l++[k]):=(bw (l₁:=l) (l₂:=[k])).symm
section
variable{a b:Nat}{Q:Int->Prop}
theorem uV(q:Q ((a &&& b:Nat):Int)):km .BitAnd a b Q:=by unfold km;exact⟨cu _,cu _,q⟩
theorem ut(q:Q ((a|||b:Nat):Int)):km .BitOr a b Q:=by unfold km;exact⟨cu _,cu _,q⟩
theorem Dt(q:Q ((a ^^^ b:Nat):Int)):km .BitXor a b Q:=by unfold km;exact⟨cu _,cu _,q⟩
theorem xQ(h:b<1000000)(q:Q ((a >>>b:Nat):Int)):km .RShift a b Q:=by unfold km;exact⟨cu _,cu _,by lia,q⟩
theorem eY{a b:Int}(q:Q (a+b)):km .Add a b Q:=by unfold km;exact q
theorem tv{a b:Int}(q:Q (a-b)):km .Sub a b Q:=by unfold km;exact q
theorem vo(h:b<1000000)(q:Q ((1 <<< b:Nat):Int)):km .LShift 1 b Q:=by unfold km;exact⟨by decide,by decide,cu _,by lia,q⟩
end
theorem K0{n:String}{vs:List V}(T:se C d n vs σ (λv σ'=>∃a us,v= .ref a/\σ'=σ.set a (.list us)/\σ a=none/\Q (.list us) σ)):callN C d n vs σ Q:=bU.mpr (c9.freezeList T.call)
structure t0 where
 left:Nat
 k:Nat
 r:Nat
 found:List Nat
noncomputable def t0.Inv(m w:Nat)(x:t0):Prop:=x.left<2 ^ x.r/\x.found.length+x.r<=w/\∀q,m.testBit q=true↔(q∈x.found\/∃i,q=x.k+i/\x.left.testBit i=true)
theorem t0.next{m w:Nat}{x:t0}(h:x.Inv m w)(hp:0<x.left){f:List Nat}(h4:f.length<=x.found.length+1)(h5:∀q,q∈f↔(q∈x.found\/q=x.k/\x.left % 2=1)):t0.Inv m w ⟨x.left >>>1,x.k+1,x.r-1,f⟩:=by
 obtain⟨left,k,r,found⟩:=x;refine eX h λh1 h2 h3=>?_;clear h;dsimp only at*;obtain⟨r,rfl⟩:∃r',r=r'+1:=by
  cases r with
  |zero=>simp at h1;lia
  |succ r=>exact⟨r,rfl⟩
 refine⟨?_,by simp;exact ir (nat_lit 0x3102451ac520c82b0c801) rfl h4 h2,λq=>?_⟩
 ·show left / 2<2 ^ r
  exact Nat.div_lt_of_lt_mul (by refine dk Nat.pow_succ' ?_;exact h1)
 ·show m.testBit q=true↔(q∈f\/∃i,q=(k+1)+i/\(left / 2).testBit i=true)
  rw[h3 q,h5 q];constructor
  ·rintro(h|⟨i,rfl,h⟩)
   ·exact .inl (.inl h)
   ·cases i with
    |zero=>exact .inl (.inr ⟨rfl,by simpa[vF]using h⟩)
    |succ i=>exact .inr ⟨i,by exact aN (bt (nat_lit 0x5609496190245) rfl) (bt (nat_lit 0x2c320482b04a45) rfl),by rwa [vG]at h⟩
  ·rintro((h|⟨rfl,h⟩)|⟨i,rfl,h⟩)
   ·exact .inl h
   ·exact .inr ⟨0,rfl,by simpa[vF]using h⟩
   ·exact .inr ⟨i+1,by exact aN (bt (nat_lit 0x2c320482b04a45) rfl) (bt (nat_lit 0x5609496190245) rfl),by rwa [vG]⟩
theorem H6(hP:C.prog=PG){m w:Nat}(hm:m<2 ^ w)(hw:w<=16777216)(h:∀l:List Nat,(∀q,m.testBit q=true↔q∈l)->l.length<=w->Q (.list (cP l)) σ):callN C (d+1) "bits" [.int m] σ Q:=by
 refine K0 (LU hP rfl ?_);refine cJ (aj rfl) λa ha=>?_;refine iJ (α:=t0) (λx=>x.left) (λx=>[some (.int m),some (.ref a),some (.int x.k),some (.int x.left)]) (λx=>σ.set a (.list (cP x.found)))
  (t0.Inv m w) (λx hI R hR=>jV (λgz=>?_) λgz=>?_) ⟨m,0,w,[]⟩ ⟨hm,by simp,λq=>by simp⟩
 ·have hpos:0<x.left:=ft.mp gz
  have hl:x.left >>>1<x.left:=Nat.div_lt_self hpos (aG 2);have e2:x.left &&& 1=x.left % 2:=tD _;refine uV (b:=1) (jV (λc=>?_) λc=>?_)
  ·have c':x.left % 2=1:=e2▸cQ c
   refine fH (by exact az ..) (by have:=hI.2.1;simp;exact b9 (nat_lit 0x316094020c820c5801) rfl hw this) (xQ (b:=1) (aj rfl) (eY ?_));rw[bO,iR];exact hR ⟨x.left >>>1,x.k+1,x.r-1,x.found++[x.k]⟩ hl (t0.next hI hpos (by exact my (aC ..)) λq=>by simp[c'])
  ·have c':¬x.left % 2=1:=λq=>c (congrArg hX (e2.trans q))
   exact xQ (b:=1) (aj rfl) (eY (hR ⟨x.left >>>1,x.k+1,x.r-1,x.found⟩ hl (t0.next hI hpos (dI _) λq=>by simp[c'])))
 ·have h0:x.left=0:=by have:¬0< (x.left:Int):=gz;lia
  exact⟨a,cP x.found,rfl,rfl,ha,h x.found (λq=>by rewrite[hI.2.2 q];refine ao h0 ?_;simp) (a8 (bE ..) hI.2.1)⟩
theorem oV{σ:AH}{a:aY}{m:fM}(h:σ a=some m):σ.set a m=σ:=by
 funext b;unfold AH.set;split
 ·rename_i e;exact ao e (ao h rfl)
 ·rfl
theorem CS{σ:AH}{a b:aY}{m n:fM}(h:a≠b): (σ.set a m).set b n=(σ.set b n).set a m:=by
 funext c;unfold AH.set;by_cases h1:c=b
 ·exact ao (if_pos h1) (ao (if_neg (λe=>h (e.symm.trans h1))) (ao (if_pos h1) rfl))
 ·exact ao (if_neg h1) (ao (if_neg h1) rfl)
section
variable{A B:Prop}
theorem kj(h:A): (true=true->A)/\(true=false->B):=⟨λw_=>h,λe=>(nomatch e)⟩
theorem cU(h:B): (false=true->A)/\(false=false->B):=⟨λe=>(nomatch e),λw_=>h⟩
theorem mN{c:Prop} [Decidable c](h:c)(ha:A): (decide c=true->A)/\(decide c=false->B):=⟨λw_=>ha,λe=>absurd h (of_decide_eq_false e)⟩
theorem fj{c:Prop} [Decidable c](h:¬c)(hb:B): (decide c=true->A)/\(decide c=false->B):=⟨λe=>absurd (of_decide_eq_true e) h,λw_=>hb⟩
theorem CI{c:Prop} [Decidable c](hb:¬c->A)(ha:c->B): (decide c=false->A)/\(decide c=(!false)->B):=⟨λh=>hb (of_decide_eq_false h),λh=>ha (of_decide_eq_true h)⟩
theorem y8{b:Bool}(ha:b=true->A)(hb:b=false->B): (b=true->A)/\(b=false->B):=⟨ha,hb⟩
theorem dF{n:String}{vs:List V}(T:se C d n vs σ Q):callN C d n vs σ Q:=bU.mpr T.call
theorem mK{n:String}{vs:List V}(T:se C d n vs σ (λv σ'=>∃u,Sub σ σ'/\Dp σ σ' v u/\Q u σ)):callN C d n vs σ Q:=bU.mpr (c9.seal T.call)
theorem lR{d':Nat}{n:String}{vs:List V}(T:callN C d n vs σ Q)(h:d<=d'):callN C d' n vs σ Q:=bU.mpr ((bU.mp T).le h)
theorem jN{v:V}{n:Nat}(hl:Fj σ v=some n)(hn:n<=1073741824)(q:Q (.int n) σ):callN C d "len" [v] σ Q:=bU.mpr (Nl hl hn q)
theorem gU{n:Int}(q:Q (.range 0 n) σ):callN C d "range" [.int n] σ Q:=bU.mpr (JZ q)
theorem sG{i:Int}(q:Q (.int i) σ):callN C d "int" [.int i] σ Q:=bU.mpr (NH q)
theorem As{v:V}{vs:List V}(hv:d7 σ v=some vs)(hl:vs.length<=16777216)(q:Q (.tup vs) σ):callN C d "tuple" [v] σ Q:=bU.mpr (IV hv hl q)
theorem Nc{c:Nat}(q:Q (.int c) σ):callN C d "ord" [.str ⟨#[c]⟩] σ Q:=bU.mpr (Nd q)
theorem Kq{i:Int}(h0:0<=i)(h1:i<=1114111)(q:Q (.str ⟨#[i.toNat]⟩) σ):callN C d "chr" [.int i] σ Q:=bU.mpr (Nz h0 h1 q)
theorem iG{a:aY}{vs:List V}(h:σ a=some (.list vs)):d7 σ (.ref a)=some vs:=congrArg (eJ · Ky) h
theorem li{a:aY}{vs:List V}(h:σ a=some (.list vs)):Fj σ (.ref a)=some vs.length:=by delta Fj Gz;dsimp only;exact ao (show kq σ (.ref a)=some vs from iG h) rfl
theorem rS{a:aY}{vs:List V}(h:σ a=some (.list vs)):mJ σ (.ref a)=some (!vs.isEmpty):=by delta mJ;dsimp only;refine ao (show kq σ (.ref a)=some vs from iG h) ?_;rfl
theorem dU{a:aY}{vs:List V}{i:Nat}{v:V}(h:σ a=some (.list vs))(e:vs[i]?=some v)(hi:i<1152921504606846976):oT σ (.ref a) (.int i)=some v:=by
 delta oT;dsimp only;refine ao (show kq σ (.ref a)=some vs from iG h) ?_;dsimp only;refine ao (A8 hi) ?_;exact e
theorem mZ{vs:List V}{i:Nat}{v:V}(e:vs[i]?=some v)(hi:i<1152921504606846976):oT σ (.list vs) (.int i)=some v:=by
 delta oT;dsimp only;refine ao (show kq σ (.list vs)=some vs from rfl) ?_;dsimp only;refine ao (A8 hi) ?_;exact e
theorem GH{a:aY}{v:V}{vs:List V}(e:σ a=some (.list (vs++[v])))(hl:vs.length<16777216)(q:Q v (σ.set a (.list vs))):
  mW σ (.ref a) "pop" λq=>callN C d q.1 (iY q.2 (.ref a) []) σ Q:=mW_of (q:=("list.pop",true)) (ub e) (bU.mpr (MZ e hl q))
theorem oR{a:aY}{vs:List V}(e:σ a=some (.list vs))(hl:vs.length<=16777216)(q:Q .none (σ.set a (.list vs.reverse))):
  mW σ (.ref a) "reverse" λq=>callN C d q.1 (iY q.2 (.ref a) []) σ Q:=mW_of (q:=("list.reverse",true)) (ub e) (bU.mpr (FG e hl q))
theorem oO{a:aY}{vs:List V}{i:Nat}{v:V}{K:AH->Prop}(h:σ a=some (.list vs))(hi:i<vs.length)(q:K (σ.set a (.list (vs.set i v)))):tu (.ref a) (.int i) v σ K:=by
 exact⟨oW_of rfl (oW_of rfl (oW_of h ⟨λw_=>⟨hi,q⟩,λn=>absurd (cu i) n⟩))⟩
theorem Gv{a:aY}{ks:List Int}{vs:List V}{k:Int}{v:V}{K:AH->Prop}(h:σ a=some (.dict ks vs))(hl:ks.length<=16777216)(q:K (σ.set a (.dict (vf ks k) (vPut ks vs k v)))):tu (.ref a) (.int k) v σ K:=by
 exact⟨oW_of rfl (oW_of rfl (oW_of h ⟨hl,q⟩))⟩
theorem d5{a dd:aY}{c:String}{ns:List String}{vs:List V}{n:String}{v:V}{K:AH->Prop}(h:σ a=some (.inst c dd ns vs))(h1: (fB.find? λp=>p.1==c).isSome=true)(h2: (k8 c).contains n=true)(h3:ns.length<=20)
  (q:K (σ.set a (.inst c dd (dB ns vs n v).1 (dB ns vs n v).2))):ve (.ref a) n v σ K:=by
 unfold ve;exact oW_of rfl (oW_of (congrArg (eJ · OD) h) ⟨h1,h2,h3,q⟩)
theorem CD{a dd:aY}{c:String}{ns:List String}{vs:List V}(h:σ a=some (.inst c dd ns vs)):pM σ (.ref a)=some (c,ns,vs):=congrArg (eJ · KX) h
theorem cF{a dd:aY}{c:String}{ns:List String}{vs:List V}{n:String}{v:V}(h:σ a=some (.inst c dd ns vs))(e:uo σ (.inst c ns vs) n=some v):uo σ (.ref a) n=some v:=by
 unfold uo at e ⊢;refine ao (CD h) ?_;exact e
theorem fR{a dd:aY}{c:String}{ns:List String}{vs:List V}{n:String}{r:String×Bool}(h:σ a=some (.inst c dd ns vs))(e:j3 σ (.inst c ns vs) n=some r):j3 σ (.ref a) n=some r:=by
 delta j3 pJ at e ⊢;dsimp only at e ⊢;refine ao (CD h) ?_;exact e
theorem vT(n:Nat)(h:n<2 ^ 60):dw σ (.range 0 n)=some ((bN n).map λ(i:Nat)=>V.int i):=by
 show qD 0 n=_;unfold qD;refine ao (if_pos ⟨by lia,by lia,by lia⟩) ?_;unfold j2;congr 1;have: ((n:Int)-0).toNat=n:=by lia
 refine ao this ?_;exact dA λi w_=>by rw[BC]
theorem oE{a:aY}{vs:List V}(h:σ a=some (.list vs)):dw σ (.ref a)=some vs:=iG h
end
theorem GM{α β:Type}{tgt:V->bT->AH->(bT->AH->Prop)->Prop}{body:bT->AH->dy->Prop}{src:V}{all:List V}{K:dy}(enc:β->V)(E:α->bT)(S:α->AH)(I:List β->α->Prop)
  (hs:∀bs x,I bs x->kY src all (S x))
  (step:∀b bs x,I (b::bs) x->∀R:bT->AH->Prop,(∀y,I bs y->R (E y) (S y))->let e:=E x;tgt (enc b) e (S x) λe σ=>body e σ (mO R K))
  (last:∀x,I [] x->let e:=E x;K .next e (S x)):∀(l:List β) (x:α),I l x->qe tgt body src all K (l.map enc) (E x) (S x):=by
 intro l
 induction l with
 |nil=>intro x h;exact⟨hs _ x h,last x h⟩
 |cons b bs ih=>intro x h;exact⟨hs _ x h,step b bs x h _ λy hy=>ih y hy⟩
theorem j7{α β:Type}{tgt:V->bT->AH->(bT->AH->Prop)->Prop}{body:bT->AH->dy->Prop}{src:V}{all:List V}{K:dy}(enc:β->V)(E:α->bT)(S:α->AH)(I:List β->α->Prop)
  (hs:∀bs x,I bs x->kY src all (S x))
  (step:∀b bs x,I (b::bs) x->∀(K:dy) (R:bT->AH->Prop),(∀y,I bs y->R (E y) (S y))->let e:=E x;tgt (enc b) e (S x) λe σ=>body e σ (mO R K))
  (last:∀x,I [] x->let e:=E x;K .next e (S x)):∀(l:List β) (x:α),I l x->qe tgt body src all K (l.map enc) (E x) (S x):=GM enc E S I hs (λb bs x h=>step b bs x h K) last
theorem xY{α:Type}{C:Cx}{d:Nat}{fz:List Nat}{t:wB}{body:bT->AH->dy->Prop}{K:dy}{σ:AH}{env:bT}{n:Nat}(h:n<2 ^ 60)(E:α->bT)(S:α->AH)(I:Nat->α->Prop)
  (step:∀i x,i<n->I i x->∀R:bT->AH->Prop,(∀y,I (i+1) y->R (E y) (S y))->let e:=E x;Ea C d fz t (.int i) e (S x) λe σ=>body e σ (mO R K))
  (last:∀x,I n x->let e:=E x;K .next e (S x)) (x:α) (h0:I 0 x) (he:env=E x) (hσ:σ=S x):oW (dw σ (.range 0 n)) λitems=>qe (Ea C d fz t) body (.range 0 n) items K items env σ:=by
 subst he hσ;have e0:=vT (σ:=S x) n h;refine ao e0 ?_;show qe _ _ _ _ _ _ _ _;have key:∀k i x,i+k=n->I i x->qe (Ea C d fz t) body (.range 0 n) ((bN n).map λ(i:Nat)=>V.int i) K ((nT i k).map λ(i:Nat)=>V.int i) (E x) (S x):=by
  intro k
  induction k with
  |zero=>intro i x e h;exact o9 bL (last x (by rwa [show i=n by exact aN (bt (nat_lit 0x80a150242) rfl e) (bt (nat_lit 0x4a150243) rfl e)]at h))
  |succ k ih=>intro i x e h;exact o9 bL (step i x (by exact b9 (nat_lit 0x12c122896190242) rfl e) h _ λy hy=>ih (i+1) y (by exact aN (b9 (nat_lit 0x41582522896190242) rfl e) (b9 (nat_lit 0x2b04a422896190243) rfl e)) hy)
 have:=key n 0 x (dM n) h0;rwa [<- lz]at this
theorem hC{α:Type}{C:Cx}{d:Nat}{fz:List Nat}{t:wB}{body:bT->AH->dy->Prop}{K:dy}{σ:AH}{env:bT}{n:Nat}(h:n<2 ^ 60)(E:α->bT)(S:α->AH)(I:Nat->α->Prop)
  (step:∀i x,i<n->I i x->∀(K:dy) (R:bT->AH->Prop),(∀y,I (i+1) y->R (E y) (S y))->let e:=E x;Ea C d fz t (.int i) e (S x) λe σ=>body e σ (mO R K))
  (last:∀x,I n x->let e:=E x;K .next e (S x)) (x:α) (h0:I 0 x) (he:env=E x) (hσ:σ=S x):oW (dw σ (.range 0 n)) λitems=>qe (Ea C d fz t) body (.range 0 n) items K items env σ:=
 xY h E S I (λi x hi hx=>step i x hi hx K) last x h0 he hσ
noncomputable def xn(s:Sp):V:= .tup (s.map λp=> .tup [.int (p.1:Nat),.int (p.2:Nat)])
noncomputable def tL(s:Sp):V:= .inst "CharSet" ["spans"] [xn s]
noncomputable def MA:Option Nat->V
 |none=> .none
 |some n=> .int n
noncomputable def bq:Rx->V
 | .chars s=> .inst "Chars" ["charset"] [tL s]
 | .empty=> .inst "Empty" [] []
 | .never=> .inst "Never" [] []
 | .cat a b=> .inst "Cat" ["left","right"] [bq a,bq b]
 | .alt a b=> .inst "Alt" ["left","right"] [bq a,bq b]
 | .star a=> .inst "Star" ["body"] [bq a]
 | .plus a=> .inst "Plus" ["body"] [bq a]
 | .opt a=> .inst "Opt" ["body"] [bq a]
 | .rep a lo hi=> .inst "Repeat" ["body","low","high"] [bq a,.int lo,MA hi]
noncomputable def qV(s:String):V:= .str (ae s)
noncomputable def cg:Rx->V
 | .chars s=> .tup [qV "chars",xn s]
 | .empty=> .tup [qV "empty"]
 | .never=> .tup [qV "never"]
 | .cat a b=> .tup [qV "cat",cg a,cg b]
 | .alt a b=> .tup [qV "alt",cg a,cg b]
 | .star a=> .tup [qV "star",cg a]
 | .plus a=> .tup [qV "plus",cg a]
 | .opt a=> .tup [qV "opt",cg a]
 | .rep a lo hi=> .tup [qV "repeat",cg a,.int lo,MA hi]
section
theorem vQ{c q:String}{ns:List String}{us vs:List V}(hc:c∈fB.map (·.1))(hq:tq c=some q)
  (W:∀a dd,a≠dd->σ a=none->se C d q (.ref a::vs) (mkInst σ c a dd) (λv σ'=>v= .none/\σ'=(σ.set dd (.aux a)).set a (.inst c dd ns us))) (k:Q (.inst c ns us) σ):callN C (d+1) c vs σ Q:=
 bU.mpr (c9.freezeInst (mI hc hq λa dd h1 h2 h3=>(W a dd h3 h1).mono λv σ' h=>⟨h.1,a,c,dd,ns,us,rfl,h.2,h1,h2,h3,k⟩))
theorem Gu{c:String}(hc:c∈fB.map (·.1))(hq:tq c=none)(k:Q (.inst c [] []) σ):callN C (d+1) c [] σ Q:=
 bU.mpr (c9.freezeInst (Dm hc hq λa dd h1 h2 h3=>⟨a,c,dd,[],[],rfl,rfl,h1,h2,h3,k⟩))
theorem jy{c:String}(k:Nat)(h: (fB.map (·.1))[k]?=some c):c∈fB.map (·.1):=aX h
theorem ED(k:Q (bq .empty) σ):callN C (d+1) "Empty" [] σ Q:=Gu (jy 0 rfl) rfl k
theorem EF(k:Q (bq .never) σ):callN C (d+1) "Never" [] σ Q:=Gu (jy 1 rfl) rfl k
variable(hP:C.prog=PG)
include hP
theorem Bo{a dd:aY}{c:String}{b:V}(h1: (fB.find? λp=>p.1==c).isSome=true)(h2: (k8 c).contains "body"=true):se C (d+1) "Loop.__init__" [.ref a,b] (mkInst σ c a dd) (λv σ'=>v= .none/\σ'=(σ.set dd (.aux a)).set a (.inst c dd ["body"] [b])):=
 wu hP rfl (d5 (az ..) h1 h2 (by decide) ⟨rfl,bO ..⟩)
theorem JK{s:Sp}(k:Q (bq (.chars s)) σ):callN C (d+2) "Chars" [tL s] σ Q:=vQ (jy 2 rfl) rfl (λa dd w_ w_=>u7 hP rfl (d5 (az ..) rfl rfl (by decide) ⟨rfl,bO ..⟩)) k
theorem FA{v:V}(k:Q (.inst "CharSet" ["spans"] [v]) σ):callN C (d+2) "CharSet" [v] σ Q:=vQ (jy 9 rfl) rfl (λa dd w_ w_=>sW hP rfl (d5 (az ..) rfl rfl (by decide) ⟨rfl,bO ..⟩)) k
theorem Ca{a b:Rx}(k:Q (bq (.cat a b)) σ):callN C (d+2) "Cat" [bq a,bq b] σ Q:=
 vQ (jy 3 rfl) rfl (λa dd w_ w_=>qd hP rfl (d5 (az ..) rfl rfl (aj rfl) (d5 (az ..) rfl rfl (aj rfl) ⟨rfl,by rw[bO,mkInst,bO];rfl⟩))) k
theorem Ct{a b:Rx}(k:Q (bq (.alt a b)) σ):callN C (d+2) "Alt" [bq a,bq b] σ Q:=
 vQ (jy 4 rfl) rfl (λa dd w_ w_=>qd hP rfl (d5 (az ..) rfl rfl (aj rfl) (d5 (az ..) rfl rfl (aj rfl) ⟨rfl,by rw[bO,mkInst,bO];rfl⟩))) k
theorem AW{a:Rx}(k:Q (bq (.star a)) σ):callN C (d+2) "Star" [bq a] σ Q:=vQ (jy 5 rfl) rfl (λa dd w_ w_=>Bo hP rfl rfl) k
theorem HX{a:Rx}(k:Q (bq (.plus a)) σ):callN C (d+2) "Plus" [bq a] σ Q:=vQ (jy 6 rfl) rfl (λa dd w_ w_=>Bo hP rfl rfl) k
theorem Kh{a:Rx}(k:Q (bq (.opt a)) σ):callN C (d+2) "Opt" [bq a] σ Q:=vQ (jy 7 rfl) rfl (λa dd w_ w_=>Bo hP rfl rfl) k
theorem BX{a:Rx}{lo:Nat}{hi:Option Nat}(h1:lo<=40)(h2:∀n,hi=some n->lo<=n/\n<=40)(k:Q (bq (.rep a lo hi)) σ):callN C (d+3) "Repeat" [bq a,.int lo,MA hi] σ Q:=by
 refine vQ (jy 8 rfl) rfl (λp dd w_ w_=>tZ hP rfl ?_) k;refine mW_of (q:=("Loop.__init__",false)) rfl ?_;refine dF ((Bo hP rfl rfl).mono λv σ' h=>?_);clear k hP;obtain⟨rfl,rfl⟩:=h;have fin:wpSs C (d+1) [] [.assign (.attr (.loc 0) "low") (.loc 2),.assign (.attr (.loc 0) "high") (.loc 3)] (I8 mU [.ref p,bq a,.int lo,MA hi]) ((σ.set dd (.aux p)).set p (.inst "Repeat" dd ["body"] [bq a]))
   (q6 (λv σ'=>v=V.none/\σ'=(σ.set dd (.aux p)).set p (.inst "Repeat" dd ["body","low","high"] [bq a,.int lo,MA hi]))):=
  d5 (az ..) rfl rfl (aj rfl) (d5 (az ..) rfl rfl (aj rfl) ⟨rfl,by rw[bO,bO];rfl⟩)
 refine CI (λw_=>?_) λh=>?_
 ·refine jV (λh=>?_) λw_=>?_
  ·have:¬((lo:Int) >40):=by lia
   exact absurd h this
  ·cases hi with
   |none=>exact cU (cU fin)
   |some n=>
    obtain⟨a1,a2⟩:=h2 n rfl;refine kj (CI (λw_=>?_) λh=>?_)
    ·refine jV (λh=>?_) λw_=>fin
     have:¬((n:Int) >40):=by lia
     exact absurd h this
    ·have:¬((n:Int)<lo):=by lia
     exact absurd h this
 ·have:¬((lo:Int)<0):=by lia
  exact absurd h this
end
section
set_option maxRecDepth 1000
theorem Ah:∀l:List Int,dR (l.map V.int)=some (l.map nk)
 |[]=>rfl
 |x::l=>(congrArg (λ(o:Option (List ja))=>(some (nk x)).bind λd=>o.map λr=>d::r) (Ah l))
theorem Ak:∀l:List Int,fA (l.map .int)=true/\g0 (l.map .int)=0
 |[]=>⟨rfl,rfl⟩
 |x::l=>⟨(congrArg (λb=>(nk x).canLay0 && b) (Ak l).1:_),(congrArg (max (nk x).depth ·) (Ak l).2:_)⟩
theorem KG(l:List Int):jg (.list (l.map .int))=true:=by
 unfold jg gN mB;refine ao ((Ak l).1) (ao ((Ak l).2) ?_);rfl
theorem Ls(l:List Int):IA (.list (l.map .int)) (.list [])=some l.isEmpty:=by
 show((nr (.list (l.map V.int))).bind λx=>(nr (.list [])).bind λy=>if jg x && jg y then some (fC x y)else none)=_;refine ao (show nr (.list (l.map V.int))=some (.list (l.map .int))from congrArg (fV ja.list) (Ah l)) ?_;show(if jg (.list (l.map .int)) && jg (.list [])then some (fC (.list (l.map .int)) (.list []))else none)=_;rewrite[KG];refine ao (show jg (.list [])=true from rfl) ?_;cases l<;>rfl
section
variable{a b:Int}{Q:Int->Prop}
theorem tc(h:0<b)(q:Q (a % b)):km .Mod a b Q:=by unfold km;exact⟨h,q⟩
theorem Dv(h:0<b)(h':b<1073741824)(q:Q (a / b)):km .FloorDiv a b Q:=by unfold km;exact⟨h,h',q⟩
theorem vq(h:a.natAbs<2 ^ 64)(q:Q (a*b)):km .Mult a b Q:=by unfold km;exact⟨h,q⟩
theorem AK(h:0<=a)(h1:a<2 ^ 64)(h2:0<=b)(h3:b<=100)(q:Q (a ^ b.toNat)):km .Pow a b Q:=by unfold km;exact⟨h,h1,h2,h3,q⟩
end
section
variable(hP:C.prog=PG)
theorem Ks{i:Int}(q:Q (.int (i.natAbs:Int)) σ):callN C d "abs" [.int i] σ Q:=bU.mpr (MF q)
noncomputable def mM(cells:List Int)(spot rest:Int):fM:= .list [.list (cells.map .int),.int spot,.int rest]
theorem Ly(cells:List Int){i:Int}(h:0<=i)(h':i<cells.length)(h63:cells.length<=63):∃v,oT σ (.list (cells.map .int)) (.int i)=some (.int v):=by
 have hi:i=((i.toNat:Nat):Int):=by lia
 refine ao hi ?_;exact⟨_,mZ (v:= .int cells[i.toNat]) (by refine ao bb ?_;rewrite[ah];rfl) (by lia)⟩
include hP
theorem LB{p:aY}{cells:List Int}{spot:Nat}{rest:Int}{many:Nat}(h1:1<=many)(h2:many<=18)(hp:σ p=some (mM cells spot rest))(hs:spot<=100)(hc:cells.length<=63)
  (q:∀(k spot':Nat) (rest':Int),k<many->spot'<=spot+1->Q (.int k) (σ.set p (mM cells spot' rest'))):callN C (d+1) "_law_draw" [.ref p,.int many] σ Q:=by
 have hm: (0:Int)<many:=by lia
 have nat:∀(x:Int) (spot':Nat) (rest':Int),spot'<=spot+1->Q (.int (x % many)) (σ.set p (mM cells spot' rest')):=λx spot' rest' hs'=>by
  have h0:=l5 x (show(many:Int)≠0 by lia);have hlt:=jG x hm;have:=q (x % many).toNat spot' rest' (by lia) hs';rwa [l8 h0]at this
 refine dF (Cq hP rfl ?_);refine oW_of (dU (i:=2) hp rfl (by decide)) ?_;refine jV (λhr=>?_) λhr=>?_
 ·refine oW_of (dU (i:=2) hp rfl (by decide)) ?_
  refine sG (tc hm ?_);refine oW_of (dU (i:=2) hp rfl (by decide)) ?_;refine sG (Dv hm (by lia) ?_);refine oO (i:=2) hp (by exact aG _) ?_;exact nat rest spot (rest / many) (dI _)
 ·refine oW_of (dU (i:=1) hp rfl (by decide)) ?_
  refine eY ?_;refine oO (i:=1) hp (by exact aj rfl) ?_;show wpSs C d [] (mx.body.drop 3) [some (.ref p),some (.int many),none,some (.int spot),none,none,none,none,none,none] (σ.set p (mM cells (spot+1) rest)) (q6 Q);have hp': (σ.set p (mM cells (spot+1) rest)) p=some (mM cells (spot+1) rest):=az ..;refine oW_of (dU (i:=0) hp' rfl (by decide)) ?_;refine d6 (bg _) ?_;have tail:∀cell:Int,wpSs C d [] (mx.body.drop 5) [some (.ref p),some (.int many),none,some (.int spot),some (.int cell),none,none,none,none,none] (σ.set p (mM cells (spot+1) rest)) (q6 Q):=λcell=>by
   have hp': (σ.set p (mM cells (spot+1) rest)) p=some (mM cells (spot+1) rest):=az ..;have e1: (spot:Int)+1=((spot+1:Nat):Int):=by lia
   have fall:wpSs C d [] (mx.body.drop 6) [some (.ref p),some (.int many),none,some (.int spot),some (.int cell),none,none,none,none,none] (σ.set p (mM cells (spot+1) rest)) (q6 Q):=by
    have m1:=l5 cell (show(2147483587:Int)≠0 by decide);have m2:=jG cell (show(0:Int)<2147483587 by decide);refine sG (tc (by decide) (vq (by decide) (eY (eY (AK (by lia) (by lia) (by decide) (by decide) (sG (tc (by decide) ?_)))))));generalize hx: ((cell % 2147483587+41017*(spot:Int)+3001) ^ (5:Int).toNat) % 2147483629=x;have x1:0<=x:=hx▸l5 _ (by decide);have x2:x<2147483629:=hx▸jG _ (by decide);clear hx;refine vq (by decide) (eY (vq (by lia) (vq (by decide) (vq (by lia) (eY (eY ?_))))));have y1:x*(2*(spot:Int)+6011)<=2147483629*6211:=yW (by lia) (by lia) (by lia) (by decide);have y2:0<=x*(2*(spot:Int)+6011):=rK x1 (by lia);have y3:1009*(spot:Int)*spot<=100900*100:=yW (by lia) (by lia) (by lia) (by decide);have y4:0<=1009*(spot:Int)*spot:=rK (by lia) (by lia);refine AK (by lia) (by lia) (by decide) (by decide) (sG (tc (by decide) (Dv (by decide) (by decide) (sG (tc hm ?_)))));refine ao e1 ?_;exact nat _ (spot+1) rest (aG _)
   refine oW_of (dU (i:=0) hp' rfl (by decide)) (jN rfl (by rw[ai];exact ci (nat_lit 0x1eb00a1fcc01) rfl hc) ?_);refine jV (λw_=>?_) λh=>fj h fall;refine Ks (AK (by decide) (by decide) (by decide) (by decide) ?_);refine jV (λw_=>?_) λw_=>fall;refine Ks (AK (by decide) (by decide) (by decide) (by decide) (tv (sG (Dv hm (by lia) ?_))));refine oO (i:=2) hp' (by exact aG _) (sG (tc hm ?_));rewrite[mM];rewrite[bO];refine ao e1 ?_;exact nat _ (spot+1) _ (aG _)
  refine oW_of (a:= !cells.isEmpty) (congrArg (fV (!·)) (Ls cells)) (y8 (λhne=>?_) λw_=>tail 0);have hl:0<cells.length:=by cases cells<;>first|(simp at hne;done)|(exact aj rfl)
  refine oW_of (dU (i:=0) hp' rfl (by decide)) ?_;refine sG ?_;refine oW_of (dU (i:=0) hp' rfl (by decide)) ?_;refine jN rfl (by rw[ai];exact ci (nat_lit 0x1eb00a1fcc01) rfl hc) ?_;rw[ai];have n1: (0:Int)< (cells.length:Nat):=by lia
  refine tc n1 ?_;have e0:=l5 (spot:Int) (Int.ne_of_gt n1);have e1:=jG (spot:Int) n1;generalize(spot:Int) % (cells.length:Nat)=i at*;obtain⟨v,hv⟩:=Ly (σ:=σ.set p (mM cells (spot+1) rest)) cells e0 e1 hc;exact oW_of hv (tail v)
end
end
structure St(β:Type) where
 b:β
 o:Option V
 p:Option V
 q:Option V
 r:Option V
section
variable(hP:C.prog=PG)
theorem MO{i j:Int}(q:Q (.int (max i j)) σ):callN C d "max" [.int i,.int j] σ Q:=bU.mpr (MV q)
theorem MX{i j:Int}(q:Q (.int (min i j)) σ):callN C d "min" [.int i,.int j] σ Q:=bU.mpr (MS q)
theorem ES{a:aY}{v:V}{vs:List V}{K:V->AH->Prop}{τ:AH}(hτ:τ=σ.set a (.list vs))(hl:vs.length<=16777216)(q:K .none (σ.set a (.list (vs++[v])))):
  mW τ (.ref a) "append" λq=>callN C d q.1 (iY q.2 (.ref a) [v]) τ K:=by
 subst hτ;exact fH (az ..) hl (by rw[bO];exact q)
include hP
theorem IZ{s:Sp}(h1:∀p∈s,p.1<=p.2/\p.2<=127)(h2:s.length<=2)(h3:Ko (s.map λp=>((p.1:Int),(p.2:Int)))=s.map λp=>((p.1:Int),(p.2:Int)))(h4:s.Pairwise λp q=>p.2+1<q.1)(q:Q (tL s) σ):callN C (d+3) "CharSet.made" [xn s] σ Q:=by
 refine mK (xV hP rfl ?_);refine cJ (bg _) λk hk=>?_;refine j7 (β:=Nat×Nat) (α:=St Sp) (λp=> .tup [.int (p.1:Nat),.int (p.2:Nat)]) (λx=>[some (xn s),some (.ref k),x.o,x.p,x.q,x.r,none,none,none,none,none,none,none]) (λx=>σ.set k (.list (x.b.map λp=>oH (p.1,p.2))))
  (λbs x=>x.b++bs=s) ?_ (λp bs x hx w_ R hR=>?_) (λx hx=>?_) s ⟨[],none,none,none,none⟩ rfl
 ·exact λw_ w_ w_=>bL
 ·intro En;obtain⟨a1,a2⟩:=h1 p (hx▸by exact aL _ (.head _))
  have hl:x.b.length<=2:=a8 (by refine dk hx (ao aC ?_);exact bE ..) h2;have e1:max (p.1:Int) 0=p.1:=by lia
  have e2:min (p.2:Int) 127=p.2:=by lia
  refine MO (MX ?_);refine ao e1 (ao e2 ?_);refine mN (mC.mpr a1) ?_;refine ES rfl (by rw[ai];exact ci (nat_lit 0x62c02b001) rfl hl) ?_;have:=hR ⟨x.b++[p],some (.int p.1),some (.int p.2),some (.int p.1),some (.int p.2)⟩ (by refine dk hx ?_;exact aJ ..);rw[bw]at this;exact this
 ·intro En;rw[be]at hx
  refine cJ (bg _) λsp hs=>?_;have hne:k≠sp:=by rintro rfl;rw[az]at hs;exact n9 hs
  refine ao hx ?_;have e0: (s.map λp=>oH ((p.1:Int),(p.2:Int)))=(s.map λp=>((p.1:Int),(p.2:Int))).map oH:=by refine ao dE ?_;rfl
  have hlen: (s.map λp=>oH ((p.1:Int),(p.2:Int))).length<=2:=by rw[ai];exact h2
  refine bU.mpr (F0 (ps:=s.map λp=>((p.1:Int),(p.2:Int))) (iG (by refine ao (ay _ _ hne) ?_;rewrite[az];refine ao e0 ?_;with_reducible rfl)) (by rw[ai];exact h2) (jf.mpr ⟨by refine ao h3 ?_;rewrite[ai];rewrite[ai];exact ci (nat_lit 0x62c02b001) rfl h2,.inr ?_⟩));refine ao h3 (dk e0 ?_);refine j7 (β:=Nat×Nat) (α:=St Sp) (λp=>oH (p.1,p.2)) (λy=>[some (xn s),some (.ref k),x.o,x.p,y.o,y.p,some (.ref sp),none,none,none,none,none,none]) (λy=>(σ.set k (.list (s.map λp=>oH (p.1,p.2)))).set sp (.list (y.b.map λp=>oH (p.1,p.2))))
   (λbs y=>y.b++bs=s) ?_ (λp bs y hy w_ R hR=>?_) (λy hy=>?_) s ⟨[],x.q,x.r,none,none⟩ rfl
  ·exact λw_ w_ w_=>bL
  ·intro En;have hl:y.b.length<=2:=a8 (by refine dk hy (ao aC ?_);exact bE ..) h2
   have fin:R [some (xn s),some (.ref k),x.o,x.p,some (.int p.1),some (.int p.2),some (.ref sp),none,none,none,none,none,none] ((σ.set k (.list (s.map λp=>oH (p.1,p.2)))).set sp (.list ((y.b.map λp=>oH (p.1,p.2))++[oH (p.1,p.2)]))):=by
    have:=hR ⟨y.b++[p],some (.int p.1),some (.int p.2),none,none⟩ (by refine dk hy ?_;exact aJ ..);rw[bw]at this;exact this
   refine oW_of (rS (az ..)) (y8 (λhne'=>?_) λhn=>?_)
   ·obtain⟨l,z,e⟩:∃l z,y.b=l++[z]:=⟨y.b.dropLast,y.b.getLast (by rintro e;rw[e]at hne';exact mj hne'),(ca _).symm⟩
    have hz:z.2+1<p.1:=by
     rw[<- hy,e]at h4;exact(fw.mp h4).2.2 z (by exact aL _ (.head _)) p (by exact .head _)
    have hsub:oT ((σ.set k (.list (s.map λp=>oH (p.1,p.2)))).set sp (.list (y.b.map λp=>oH (p.1,p.2)))) (.ref sp) (.int (-1))=some (oH (z.1,z.2)):=by
     delta oT;dsimp only;refine ao (show kq _ (.ref sp)=_ from iG (az ..)) (ao e ?_);show(if 0< ((l++[z]).map λp=>oH ((p.1:Int),(p.2:Int))).length then _ else none)=_;refine ao (if_pos (by simp)) ?_;rewrite[ai];refine ao aC ?_;simp
    refine oW_of hsub (eY ?_);refine fj (by lia) ?_;exact ES rfl (by rw[ai];exact ci (nat_lit 0x62c02b001) rfl hl) fin
   ·exact oW_of (rS (az ..)) (y8 (λh=>by rw[show(!_)=false from hn]at h;exact mj h) λw_=>ES rfl (by rw[ai];exact ci (nat_lit 0x62c02b001) rfl hl) fin)
  ·intro En;rw[be]at hy
   refine ao hy ?_;refine As (iG (az ..)) (by rw[ai];exact ci (nat_lit 0x62c02b001) rfl h2) (FA hP ⟨tL s,(Sub.refl.set hk _).set ?_ _,Dp.refl,q⟩);rw[ay _ _ (aV hne)]at hs;exact hs
theorem Mk{s:Sp}(hs:s∈S4)(q:Q (tL s) σ):callN C (d+3) "CharSet.made" [xn s] σ Q:=by
 simp only[S4,a9,dN,or_false]at hs;rcases hs with rfl|rfl|rfl|rfl<;>exact IZ hP (by decide) (by decide) rfl (by decide) q
end
noncomputable def BO:List Rx:=S4.map .chars++[.empty,.never]
theorem GE:∀r∈BO,k5 r:=λr h=>by
 rcases aI.mp h with h|h
 ·refine bJ (bG.mp h) ?_;rintro s hs rfl
  exact .inl ⟨s,hs,rfl⟩
 ·simp only[a9,dN,or_false]at h
  exact .inr h
section
variable(hP:C.prog=PG)
include hP
theorem pB{p:aY}{cells:List Int}{spot:Nat}{rest:Int}{many:Nat}(h1:1<=many)(h2:many<=18)(hs:spot<=100)(hc:cells.length<=63)
  (q:∀(k spot':Nat) (rest':Int),k<many->spot'<=spot+1->Q (.int k) (σ.set p (mM cells spot' rest'))):callN C (d+1) "_law_draw" [.ref p,.int many] (σ.set p (mM cells spot rest)) Q:=
 LB hP h1 h2 (az ..) hs hc λk s' r' hk hs'=>by rw[bO];exact q k s' r' hk hs'
theorem BQ(q:Q (.list (BO.map cg)) σ):callN C (d+1) "_law_leaves" [] σ Q:=
 dF (zh hP rfl (d6 (aj rfl) q))
theorem Er{k:Nat}(h:k<6):∃r,k5 r/\oT σ (.list (BO.map cg)) (.int k)=some (cg r):=by
 obtain⟨r,hr⟩:∃r,BO[k]?=some r:=⟨_,ah (show k<BO.length from h)⟩;exact⟨r,GE r (aX hr),mZ (by refine ao bb (ao hr ?_);rfl) (by exact ci (nat_lit 0xf2cb048b058241) rfl h)⟩
theorem Dq{p:aY}{cells:List Int}{spot:Nat}{rest:Int}(hs:spot<=90)(hc:cells.length<=63)
  (q:∀(r:Rx) (spot':Nat) (rest':Int),f6 r->spot'<=spot+5->Q (cg r) (σ.set p (mM cells spot' rest'))):callN C (d+2) "_law_tree" [.ref p] (σ.set p (mM cells spot rest)) Q:=by
 refine dF (Cj hP rfl ?_);refine BQ hP (pB hP (many:=6) (by decide) (by decide) (by exact ci (nat_lit 0x64980a2d4c01) rfl hs) hc λk s1 r1 hk hs1=>?_);refine bJ (Er (σ:=σ.set p (mM cells s1 r1)) hP hk) λa la ea=>?_;refine oW_of ea (pB hP (many:=6) (by decide) (by decide) (by exact bt (nat_lit 0xc930956090422d4c01) rfl hs hs1) hc λway s2 r2 hw hs2=>?_);have pair:way=4\/way=5->wpSs C (d+1) [] (pE.body.drop 4) [some (.ref p),some (cg a),some (.int way),none,none,none] (σ.set p (mM cells s2 r2)) (q6 Q):=λhw=>by
  refine BQ hP (pB hP (many:=6) (by decide) (by decide) (by exact b9 (nat_lit 0x192622ac321056090422d4c01) rfl hs hs1 hs2) hc λk s3 r3 hk hs3=>?_);refine bJ (Er (σ:=σ.set p (mM cells s3 r3)) hP hk) λb lb eb=>?_;refine oW_of eb (pB hP (many:=3) (by decide) (by decide) (by exact ir (nat_lit 0x324c6558a430ac321056090422d4c01) rfl hs hs1 hs2 hs3) hc λk4 s4 r4 hk4 hs4=>?_);have fin:∀b',(b'=b\/b'= .star b)->wpSs C (d+1) [] (pE.body.drop 6) [some (.ref p),some (cg a),some (.int way),some (cg b'),none,none] (σ.set p (mM cells s4 r4)) (q6 Q):=λb' hb=>by
   refine d6 (aj rfl) (tv ?_);rcases hw with rfl|rfl
   ·refine q (.cat a b') s4 r4 ?_ (by exact uk (nat_lit 0xf0c88558e440ac52185609082b0c801) rfl hs1 hs2 hs3 hs4)
    rcases hb with rfl|rfl
    ·exact .cat la lb
    ·exact .cats la lb
   ·refine q (.alt a b') s4 r4 ?_ (by exact uk (nat_lit 0xf0c88558e440ac52185609082b0c801) rfl hs1 hs2 hs3 hs4)
    rcases hb with rfl|rfl
    ·exact .alt la lb
    ·exact .alts la lb
  exact jV (λw_=>fin (.star b) (.inr rfl)) λw_=>fin b (.inl rfl)
 obtain hw|hw|hw:way<3\/way=3\/(way=4\/way=5):=by lia
 ·refine mN (by lia) (d6 (aj rfl) ?_)
  obtain rfl|rfl|rfl:way=0\/way=1\/way=2:=by lia
  ·exact q a s2 r2 (.leaf la) (by exact b9 (nat_lit 0x3c32115609082b0c801) rfl hs1 hs2)
  ·exact q (.star a) s2 r2 (.star la) (by exact b9 (nat_lit 0x3c32115609082b0c801) rfl hs1 hs2)
  ·exact q (.plus a) s2 r2 (.plus la) (by exact b9 (nat_lit 0x3c32115609082b0c801) rfl hs1 hs2)
 ·subst hw
  refine fj (by decide) (mN rfl (d6 (aj rfl) ?_));refine pB hP (many:=4) (by decide) (by decide) (by exact b9 (nat_lit 0x192622ac321056090422d4c01) rfl hs hs1 hs2) hc λk s3 r3 hk hs3=>?_;obtain rfl|rfl|rfl|rfl:k=0\/k=1\/k=2\/k=3:=by lia
  ·exact q (.opt a) s3 r3 (.opt la) (by exact ir (nat_lit 0x786432ac52185609082b0c801) rfl hs1 hs2 hs3)
  ·exact q (.rep a 2 (some 2)) s3 r3 (.r22 la) (by exact ir (nat_lit 0x786432ac52185609082b0c801) rfl hs1 hs2 hs3)
  ·exact q (.rep a 1 (some 2)) s3 r3 (.r12 la) (by exact ir (nat_lit 0x786432ac52185609082b0c801) rfl hs1 hs2 hs3)
  ·exact q (.rep a 2 none) s3 r3 (.r2n la) (by exact ir (nat_lit 0x786432ac52185609082b0c801) rfl hs1 hs2 hs3)
 ·exact fj (by lia) (fj (by lia) (pair hw))
end
theorem BG{n k:Nat}{G:Prop}(h:n<k+1)(a:n=k->G)(b:n<k->G):G:=(dJ (dX h)).elim b a
theorem Os{n:Nat}{G:Prop}(h:n<18)(h0:n=0->G)(h1:n=1->G)(h2:n=2->G)(h3:n=3->G)(h4:n=4->G)(h5:n=5->G)(h6:n=6->G)(h7:n=7->G)(h8:n=8->G)(h9:n=9->G)(h10:n=10->G)(h11:n=11->G)(h12:n=12->G)(h13:n=13->G)(h14:n=14->G)(h15:n=15->G)(h16:n=16->G)(h17:n=17->G):G:=
 BG h h17 λh=>BG h h16 λh=>BG h h15 λh=>BG h h14 λh=>BG h h13 λh=>BG h h12 λh=>BG h h11 λh=>BG h h10 λh=>BG h h9 λh=>BG h h8 λh=>BG h h7 λh=>BG h h6 λh=>BG h h5 λh=>BG h h4 λh=>BG h h3 λh=>BG h h2 λh=>BG h h1 λh=>BG h h0 λh=>absurd h (jv _)
section
variable(hP:C.prog=PG)
include hP
theorem pG:∀{r:Rx} {d d':Nat} {σ:AH} {Q:V->AH->Prop},Wf r->d+3+gz r<=d'->Q (bq r) σ->callN C d' "_law_node" [cg r] σ Q
 | .chars s,d,d',σ,Q,w,h,q=>lR (d:=d+4) (dF (gh hP rfl (kj (mW_of (q:=("CharSet.made",false)) rfl (Mk hP w (lR (d:=d+2) (JK hP q) (by exact ci (nat_lit 0x341260245) rfl))))))) h
 | .empty,d,d',σ,Q,w,h,q=>lR (d:=d+4) (dF (gh hP rfl (cU (kj (ED q))))) h
 | .never,d,d',σ,Q,w,h,q=>lR (d:=d+4) (dF (gh hP rfl (cU (cU (kj (EF q)))))) h
 | .cat a b,d,d',σ,Q,w,h,q=>lR (d:=d+3+gz a+gz b+1) (dF (gh hP rfl (cU (cU (cU (kj (pG (d:=d) w.1 (by exact b9 (nat_lit 0x20b4129482d04a45) rfl) (pG (d:=d) w.2 (by exact b9 (nat_lit 0x1134129482d04a45) rfl) (lR (d:=d+2) (Ca hP q) (by exact b9 (nat_lit 0x82d04a5260245) rfl)))))))))) (by exact ir (nat_lit 0x6b105a094a5228c415ca4d04a41) rfl h)
 | .alt a b,d,d',σ,Q,w,h,q=>lR (d:=d+3+gz a+gz b+1) (dF (gh hP rfl (cU (cU (cU (cU (kj (pG (d:=d) w.1 (by exact b9 (nat_lit 0x20b4129482d04a45) rfl) (pG (d:=d) w.2 (by exact b9 (nat_lit 0x1134129482d04a45) rfl) (lR (d:=d+2) (Ct hP q) (by exact b9 (nat_lit 0x82d04a5260245) rfl))))))))))) (by exact ir (nat_lit 0x6b105a094a5228c415ca4d04a41) rfl h)
 | .star a,d,d',σ,Q,w,h,q=>lR (d:=d+3+gz a+1) (dF (gh hP rfl (cU (cU (cU (cU (cU (kj (pG (d:=d) (r:=a) w (by exact bt (nat_lit 0x5a09482d04a45) rfl) (lR (d:=d+2) (AW hP q) (by exact bt (nat_lit 0x16825260245) rfl))))))))))) (by exact b9 (nat_lit 0x4b0b412948a20ae4d04a41) rfl h)
 | .plus a,d,d',σ,Q,w,h,q=>lR (d:=d+3+gz a+1) (dF (gh hP rfl (cU (cU (cU (cU (cU (cU (kj (pG (d:=d) (r:=a) w (by exact bt (nat_lit 0x5a09482d04a45) rfl) (lR (d:=d+2) (HX hP q) (by exact bt (nat_lit 0x16825260245) rfl)))))))))))) (by exact b9 (nat_lit 0x4b0b412948a20ae4d04a41) rfl h)
 | .opt a,d,d',σ,Q,w,h,q=>lR (d:=d+3+gz a+1) (dF (gh hP rfl (cU (cU (cU (cU (cU (cU (cU (kj (pG (d:=d) (r:=a) w (by exact bt (nat_lit 0x5a09482d04a45) rfl) (lR (d:=d+2) (Kh hP q) (by exact bt (nat_lit 0x16825260245) rfl))))))))))))) (by exact b9 (nat_lit 0x4b0b412948a20ae4d04a41) rfl h)
 | .rep a lo hi,d,d',σ,Q,w,h,q=>by
  have w':Wf a/\lo<=40/\∀n,hi=some n->lo<=n/\n<=40:=by
   cases hi with
   |none=>exact⟨w.1,by have:=w.2;exact ci (nat_lit 0xa2602b401) rfl this,λn e=>nomatch e⟩
   |some n=>exact⟨w.1,by have:=w.2;exact bt (nat_lit 0x513015a108401) rfl this.1 this.2,λm e=>by replace e:=ac e;subst e;have:=w.2;exact⟨bt (nat_lit 0x2028401) rfl this.1,ci (nat_lit 0xa2602b401) rfl this.2⟩⟩
  refine lR (d:=d+3+gz a+1) (dF (gh hP rfl (cU (cU (cU (cU (cU (cU (cU (cU ?_)))))))))) (by exact b9 (nat_lit 0x4b0b412948a20ae4d04a41) rfl h);exact pG (d:=d) (r:=a) w'.1 (by exact bt (nat_lit 0x5a09482d04a45) rfl) (lR (d:=d+3) (BX hP w'.2.1 w'.2.2 q) (by exact bt (nat_lit 0x16825268245) rfl))
theorem M7{n:Nat}{x y z:Rx}(hn:n<18)(q:Q (.tup [bq (Iz n x y z).1,bq (Iz n x y z).2]) σ):callN C (d+4) "_law_equation" [.int n,bq x,bq y,bq z] σ Q:=by
 refine dF (wD hP rfl ?_);have st:∀{a:Rx} {σ:AH} {K:V->AH->Prop},K (bq (.star a)) σ->callN C (d+3) "Star" [bq a] σ K:=λk=>lR (d:=d+2) (AW hP k) (by exact ci (nat_lit 0x341260245) rfl);have pl:∀{a:Rx} {σ:AH} {K:V->AH->Prop},K (bq (.plus a)) σ->callN C (d+3) "Plus" [bq a] σ K:=λk=>lR (d:=d+2) (HX hP k) (by exact ci (nat_lit 0x341260245) rfl);have op:∀{a:Rx} {σ:AH} {K:V->AH->Prop},K (bq (.opt a)) σ->callN C (d+3) "Opt" [bq a] σ K:=λk=>lR (d:=d+2) (Kh hP k) (by exact ci (nat_lit 0x341260245) rfl);have ct:∀{a b:Rx} {σ:AH} {K:V->AH->Prop},K (bq (.cat a b)) σ->callN C (d+3) "Cat" [bq a,bq b] σ K:=λk=>lR (d:=d+2) (Ca hP k) (by exact ci (nat_lit 0x341260245) rfl);have al:∀{a b:Rx} {σ:AH} {K:V->AH->Prop},K (bq (.alt a b)) σ->callN C (d+3) "Alt" [bq a,bq b] σ K:=λk=>lR (d:=d+2) (Ct hP k) (by exact ci (nat_lit 0x341260245) rfl);have em:∀{σ:AH} {K:V->AH->Prop},K (bq .empty) σ->callN C (d+3) "Empty" [] σ K:=λk=>lR (d:=d+1) (ED k) (by exact ci (nat_lit 0x341258245) rfl);have ne:∀{σ:AH} {K:V->AH->Prop},K (bq .never) σ->callN C (d+3) "Never" [] σ K:=λk=>lR (d:=d+1) (EF k) (by exact ci (nat_lit 0x341258245) rfl);have rp:∀{a:Rx} {lo:Nat} {hi:Option Nat} {σ:AH} {K:V->AH->Prop},lo<=40->(∀n,hi=some n->lo<=n/\n<=40)->K (bq (.rep a lo hi)) σ->callN C (d+3) "Repeat" [bq a,.int lo,MA hi] σ K:=λh1 h2 k=>BX hP h1 h2 k;have no:∀{k a:Nat} {A B:Prop},n=k->jr k a=false->B->(decide ((n:Int)=(a:Int))=true->A)/\(decide ((n:Int)=(a:Int))=false->B):=λe h=>fj λg=>by rw[cQ (g:hX n=hX _)]at e;rw[e,Nat.beq_refl]at h;exact Ig h
 have yes:∀{k:Nat} {A B:Prop},n=k->A->(decide ((n:Int)=(k:Int))=true->A)/\(decide ((n:Int)=(k:Int))=false->B):=λe a=>mN (congrArg hX e) a;have qq:∀{k:Nat},n=k->Q (.tup [bq (Iz k x y z).1,bq (Iz k x y z).2]) σ:=λe=>e▸q;clear q;refine Os hn (λe=>?_) (λe=>?_) (λe=>?_) (λe=>?_) (λe=>?_) (λe=>?_) (λe=>?_) (λe=>?_) (λe=>?_) (λe=>?_) (λe=>?_) (λe=>?_) (λe=>?_) (λe=>?_) (λe=>?_) (λe=>?_) (λe=>?_) (λe=>?_)
 ·exact yes e (al (al (al (al (qq e)))))
 ·iterate 1 refine no e rfl ?_
  exact yes e (al (ne (al (qq e))))
 ·iterate 2 refine no e rfl ?_
  exact yes e (ct (ct (ct (ct (qq e)))))
 ·iterate 3 refine no e rfl ?_
  exact yes e (em (ct (em (ct (qq e)))))
 ·iterate 4 refine no e rfl ?_
  exact yes e (ne (ct (ne (ct (qq e)))))
 ·iterate 5 refine no e rfl ?_
  exact yes e (al (ct (ct (ct (al (qq e))))))
 ·iterate 6 refine no e rfl ?_
  exact yes e (al (ct (ct (ct (al (qq e))))))
 ·iterate 7 refine no e rfl ?_
  exact yes e (st (em (st (ct (al (qq e))))))
 ·iterate 8 refine no e rfl ?_
  exact yes e (st (em (st (ct (al (qq e))))))
 ·iterate 9 refine no e rfl ?_
  exact yes e (al (st (st (st (ct (st (ct (qq e))))))))
 ·iterate 10 refine no e rfl ?_
  exact yes e (ct (st (ct (ct (st (ct (qq e)))))))
 ·iterate 11 refine no e rfl ?_
  exact yes e (st (st (st (st (ct (qq e))))))
 ·iterate 12 refine no e rfl ?_
  exact yes e (pl (st (ct (qq e))))
 ·iterate 13 refine no e rfl ?_
  exact yes e (op (rp (lo:=0) (hi:=some 1) (by decide) (λn e=>by replace e:=ac e;subst e;decide) (qq e)))
 ·iterate 14 refine no e rfl ?_
  exact yes e (rp (lo:=1) (hi:=some 3) (by decide) (λn e=>by replace e:=ac e;subst e;decide) (op (op (ct (ct (qq e))))))
 ·iterate 15 refine no e rfl ?_
  exact yes e (rp (lo:=2) (hi:=none) (by decide) (λn e=>nomatch e) (pl (ct (qq e))))
 ·iterate 16 refine no e rfl ?_
  exact yes e (st (rp (lo:=0) (hi:=some 2) (by decide) (λn e=>by replace e:=ac e;subst e;decide) (rp (lo:=3) (hi:=some 3) (by decide) (λn e=>by replace e:=ac e;subst e;decide) (st (ct (qq e))))))
 ·iterate 17 refine no e rfl ?_
  exact al (st (st (st (ct (st (qq e))))))
end
theorem jM{β:Type}{elt:bT->AH->(V->AH->Prop)->Prop}{ka:bT->V->bT}{src:V}{all:List V}{Q:V->AH->Prop}{σ:AH}(enc f:β->V)(E:V->bT)(hs:kY src all σ)
  (hE:∀v v',ka (E v) v'=E v'):∀(l:List β) (acc:List V) (env:bT),(∀v,ka env v=E v)->acc.length+l.length<=16777216->(∀b∈l,∀K:V->AH->Prop,K (f b) σ->elt (E (enc b)) σ K)->jU (acc++l.map f) σ Q->
   compLoop elt (λw_ σ K=>K true σ) ka src all Q (l.map enc) acc env σ
 |[]=>λacc env w_ w_ w_ q=>⟨hs,by simpa using q⟩
 |b::l=>λacc env h0 hl hb q=>by
  refine⟨hs,⟨λw_=>?_,λh=>nomatch h⟩⟩;show elt (ka env (enc b)) σ _;rw[h0];rw[bv]at hl;refine hb b (bF ..) _ ⟨by exact bt (nat_lit 0x62cb048a0c596190241) rfl hl,?_⟩;exact jM enc f E hs hE l (acc++[f b]) (E (enc b)) (λv=>hE _ v) (by simp;exact bt (nat_lit 0x18b0560948a0c596190241) rfl hl) (λb' h=>hb b' (bA _ h)) (by simpa using q)
noncomputable def qO(s:Sp):ja:= .tuple (s.map λp=> .tuple [.int (p.1:Nat),.int (p.2:Nat)])
theorem Ao(s:Sp):nr (xn s)=some (qO s):=by
 have key:∀l:Sp,dR (l.map λp=>V.tup [.int (p.1:Nat),.int (p.2:Nat)])=some (l.map λp=>dj [.int (p.1:Nat),.int (p.2:Nat)]):=λl=>by
  induction l with
  |nil=>rfl
  |cons p l ih=>refine ao bC ?_;rewrite[dR];refine ao ih ?_;rfl
 show(dR _).map dj=_;rw[key];rfl
theorem CG(s:Sp):gN (qO s)=true/\mB (qO s)<=2:=by
 have key:∀l:Sp,fA (l.map λp=>dj [.int (p.1:Nat),.int (p.2:Nat)])=true/\g0 (l.map λp=>dj [.int (p.1:Nat),.int (p.2:Nat)])<=1:=λl=>by
  induction l with
  |nil=>exact⟨rfl,bg _⟩
  |cons p l ih=>
   refine⟨by refine ao bC ?_;rewrite[fA];refine ao (ih.1) ?_;rfl,?_⟩;refine ao bC ?_;rewrite[g0];exact Nat.max_le.mpr ⟨aG _,ih.2⟩
 exact⟨(key s).1,c5 (key s).2⟩
theorem Mg:∀s∈S4,∀s'∈S4,fC (qO s) (qO s')=decide (s=s'):=by decide+kernel
theorem Ny{σ:AH}{s:Sp}{l:List Sp}(hs:s∈S4)(hl:∀x∈l,x∈S4):IQ σ (xn s) (.list (l.map xn))=some (l.contains s):=by
 have e1:∀l:List Sp,dR (l.map xn)=some (l.map qO):=λl=>by
  induction l with
  |nil=>rfl
  |cons p l ih=>refine ao bC ?_;rewrite[dR];refine ao ih ?_;rewrite[Ao];rfl
 have e2:∀l:List Sp,fA (l.map qO)=true/\g0 (l.map qO)<=2:=λl=>by
  induction l with
  |nil=>exact⟨rfl,bg _⟩
  |cons p l ih=>
   refine⟨by refine ao bC ?_;rewrite[fA];refine ao (ih.1) ?_;refine ao ((CG p).1) ?_;rfl,?_⟩;refine ao bC ?_;rewrite[g0];exact Nat.max_le.mpr ⟨(CG p).2,ih.2⟩
 have e3:jg (.list (l.map qO))=true:=by
  unfold jg gN mB;refine ao ((e2 l).1) (ao (decide_eq_true (a8 (c5 (e2 l).2) (by decide))) ?_);rfl
 have e4:jg (qO s)=true:=by
  unfold jg;refine ao ((CG s).1) (ao (decide_eq_true (a8 (CG s).2 (by decide))) ?_);rfl
 have e5:tN (qO s) (l.map qO)=some (l.contains s):=by
  unfold tN;refine ao e3 (ao e4 ?_);show some ((l.map qO).any _)=_;refine ao List.any_map (ao List.contains_eq_any_beq ?_);congr 1;clear e3 e4
  induction l with
  |nil=>rfl
  |cons x l ih=>
   refine ao jk (ao jk (ao (ih λy hy=>hl y (bA _ hy)) ?_));congr 1;show fC (qO x) (qO s)=_;refine ao (Mg x (hl x (bF ..)) s hs) ?_;by_cases h:x=s
   ·clear hl ih hs;subst h;simp
   ·simp[h,aV h]
 show((nr (xn s)).bind λx=>(d7 σ (.list (l.map xn))).bind λys=>(dR ys).bind (tN x))=_;rw[Ao];show(dR (l.map xn)).bind (tN (qO s))=_;rw[e1];exact e5
mutual
theorem CC:∀d:ja,d.canLay0=true->d.eqv d=true
 | .none=>λw_=>rfl
 | .bool b=>λw_=>by cases b<;>rfl
 | .int i=>λw_=>by show(i==i)=true;exact beq_self_eq_true _
 | .str s=>λw_=>by show(s==s)=true;exact beq_self_eq_true _
 | .list xs=>λh=>qM xs h
 | .tuple xs=>λh=>qM xs h
 | .dict _=>λh=>nomatch h
theorem qM:∀l:List ja,fA l=true->zE l l=true
 |[]=>λw_=>rfl
 |x::l=>λh=>by
  rw[fA,bD]at h;rewrite[zE];refine ao (CC x h.1) ?_;refine ao (qM l h.2) ?_;rfl
end
noncomputable def G9:Option Nat->ja
 |none=> .none
 |some n=> .int n
noncomputable def Bg:Rx->ja
 | .chars s=> .tuple [.str (ae "chars"),qO s]
 | .empty=> .tuple [.str (ae "empty")]
 | .never=> .tuple [.str (ae "never")]
 | .cat a b=> .tuple [.str (ae "cat"),Bg a,Bg b]
 | .alt a b=> .tuple [.str (ae "alt"),Bg a,Bg b]
 | .star a=> .tuple [.str (ae "star"),Bg a]
 | .plus a=> .tuple [.str (ae "plus"),Bg a]
 | .opt a=> .tuple [.str (ae "opt"),Bg a]
 | .rep a lo hi=> .tuple [.str (ae "repeat"),Bg a,.int lo,G9 hi]
theorem hQ:∀r:Rx,nr (cg r)=some (Bg r)
 | .chars s=>by show((dR [_,xn s]).map dj)=_;rw[dR,dR,Ao];rfl
 | .empty=>rfl
 | .never=>rfl
 | .cat a b=>by show((dR [_,cg a,cg b]).map dj)=_;rewrite[dR];rewrite[dR];rewrite[dR];refine ao (hQ a) ?_;refine ao (hQ b) ?_;rfl
 | .alt a b=>by show((dR [_,cg a,cg b]).map dj)=_;rewrite[dR];rewrite[dR];rewrite[dR];refine ao (hQ a) ?_;refine ao (hQ b) ?_;rfl
 | .star a=>by show((dR [_,cg a]).map dj)=_;rewrite[dR];rewrite[dR];refine ao (hQ a) ?_;rfl
 | .plus a=>by show((dR [_,cg a]).map dj)=_;rewrite[dR];rewrite[dR];refine ao (hQ a) ?_;rfl
 | .opt a=>by show((dR [_,cg a]).map dj)=_;rewrite[dR];rewrite[dR];refine ao (hQ a) ?_;rfl
 | .rep a lo none=>by show((dR [_,cg a,.int lo,.none]).map dj)=_;rewrite[dR];rewrite[dR];refine ao (hQ a) ?_;rfl
 | .rep a lo (some hi)=>by show((dR [_,cg a,.int lo,.int hi]).map dj)=_;rewrite[dR];rewrite[dR];refine ao (hQ a) ?_;rfl
theorem Nk(h:Option Nat):gN (G9 h)=true/\mB (G9 h)=0:=by cases h<;>exact⟨rfl,rfl⟩
theorem Jd{a b:ja}{n:Nat}(ha:a.canLay0=true/\a.depth<=n)(hb:b.canLay0=true/\b.depth<=n): (dj [a,b]).canLay0=true/\(dj [a,b]).depth<=n+1:=by
 refine⟨?_,?_⟩
 ·show(a.canLay0 && (b.canLay0 && true))=true;refine ao (ha.1) (ao (hb.1) ?_);rfl
 ·show max a.depth (max b.depth 0)+1<=_;have:=ha.2;have:=hb.2;lia
theorem vn{s:Str}(h:gN (.str s)=true)(n:Nat):gN (.str s)=true/\mB (.str s)<=n:=⟨h,bg _⟩
theorem NO{a b c:ja}{n:Nat}(ha:a.canLay0=true/\a.depth<=n)(hb:b.canLay0=true/\b.depth<=n)(hc:c.canLay0=true/\c.depth<=n): (dj [a,b,c]).canLay0=true/\(dj [a,b,c]).depth<=n+1:=by
 refine⟨?_,?_⟩
 ·show(a.canLay0 && (b.canLay0 && (c.canLay0 && true)))=true;refine ao (ha.1) (ao (hb.1) (ao (hc.1) ?_));rfl
 ·show max a.depth (max b.depth (max c.depth 0))+1<=_;have:=ha.2;have:=hb.2;have:=hc.2;lia
theorem uv{a:ja}{m n:Nat}(h:a.canLay0=true/\a.depth<=m)(hl:m<=n):a.canLay0=true/\a.depth<=n:=⟨h.1,a8 h.2 hl⟩
theorem jW:∀r:Rx,(Bg r).canLay0=true/\(Bg r).depth<=gz r+2
 | .chars s=>Jd (vn (by decide+kernel) _) (CG s)
 | .empty=>⟨by decide+kernel,aj rfl⟩
 | .never=>⟨by decide+kernel,aj rfl⟩
 | .cat a b=>uv (NO (n:=gz a+gz b+2) (vn (by decide+kernel) _) (uv (jW a) (by exact bt (nat_lit 0xc0825260245) rfl)) (uv (jW b) (by exact bt (nat_lit 0xc0065260245) rfl))) (by exact bt (nat_lit 0x30205ca525b02094a45) rfl)
 | .alt a b=>uv (NO (n:=gz a+gz b+2) (vn (by decide+kernel) _) (uv (jW a) (by exact bt (nat_lit 0xc0825260245) rfl)) (uv (jW b) (by exact bt (nat_lit 0xc0065260245) rfl))) (by exact bt (nat_lit 0x30205ca525b02094a45) rfl)
 | .star a=>uv (Jd (vn (by decide+kernel) _) (jW a)) (by exact ci (nat_lit 0x300b9496c04a45) rfl)
 | .plus a=>uv (Jd (vn (by decide+kernel) _) (jW a)) (by exact ci (nat_lit 0x300b9496c04a45) rfl)
 | .opt a=>uv (Jd (vn (by decide+kernel) _) (jW a)) (by exact ci (nat_lit 0x300b9496c04a45) rfl)
 | .rep a lo hi=>by
  have h:=jW a;have h':=Nk hi;have hd: (Bg (.rep a lo hi)).depth=max 0 (max (Bg a).depth (max 0 (max (G9 hi).depth 0)))+1:=rfl;refine⟨?_,by refine ao hd (ao (h'.2) ?_);show _<=1+gz a+2;lia⟩;show(gN (.str (ae "repeat")) && ((Bg a).canLay0 && (true && ((G9 hi).canLay0 && true))))=true;refine ao (h.1) (ao (h'.1) ?_);decide+kernel
theorem I4{r:Rx}(h:gz r<=300):IA (cg r) (cg r)=some true:=by
 have e:IA (cg r) (cg r)=(nr (cg r)).bind λx=>(nr (cg r)).bind λy=>if jg x && jg y then some (fC x y)else none:=by cases r<;>rfl
 have o:jg (Bg r)=true:=by
  unfold jg;refine ao ((jW r).1) (ao (decide_eq_true (a8 (jW r).2 (by exact ci (nat_lit 0x6426c048a964c01) rfl h))) ?_);rfl
 refine ao e ?_;rewrite[hQ];show(if jg (Bg r) && jg (Bg r)then some (fC (Bg r) (Bg r))else none)=_;refine ao o (ao (CC _ (jW r).1) ?_);rfl
noncomputable def lS:Rx->List Rx
 | .cat a b=>[a,b]
 | .alt a b=>[a,b]
 | .star a=>[a]
 | .plus a=>[a]
 | .opt a=>[a]
 | .rep a _ _=>[a]
 |_=>[]
noncomputable def qR:Rx->String
 | .chars _=>"chars"
 | .empty=>"empty"
 | .never=>"never"
 | .cat _ _=>"cat"
 | .alt _ _=>"alt"
 | .star _=>"star"
 | .plus _=>"plus"
 | .opt _=>"opt"
 | .rep _ _ _=>"repeat"
structure Od where
 stack:List Rx
 found:List Sp
 τ:AH
 o:Option V
 p:Option V
 q:Option V
noncomputable def nt(l:List Rx):Nat:=(l.map gz).sum
theorem fK(r:Rx):1<=gz r:=by cases r<;>(first|exact Oz (nat_lit 0x2d65) rfl|exact bt (nat_lit 0x40b94965) rfl|exact ci (nat_lit 0x5c965) rfl)
theorem BM:∀l:List Rx,l.length<=nt l
 |[]=>aG _
 |r::l=>by have:=BM l;have:=fK r;simp only[nt,bC,kW,bv]at*;lia
theorem yk(l l':List Rx):nt (l++l')=nt l+nt l':=by simp[nt]
theorem Ie(l:List Rx):nt l.reverse=nt l:=by simp[nt,kN,List.sum_reverse]
theorem DN(r:Rx):nt (lS r)<gz r:=by
 have h1:∀x,x+0<1+x:=λx=>by exact ci (nat_lit 0x5c96a04a45) rfl
 have h2:∀x y,x+(y+0)<1+x+y:=λx y=>by exact bt (nat_lit 0x102e525a83204a45) rfl
 cases r<;>first|exact h1 _|exact h2 _ _|exact Nat.one_pos
theorem A5{r:Rx}(h:∀s,r≠ .chars s):leaves r=(lS r).flatMap leaves:=by
 cases r with
 |chars s=>exact absurd rfl (h s)
 |cat a b=>exact congrArg (leaves a++·) (be _).symm
 |alt a b=>exact congrArg (leaves a++·) (be _).symm
 |_=>first|rfl|exact(be _).symm
noncomputable def BP(l:List Sp)(s:Sp):List Sp:=if s∈l then l else l++[s]
noncomputable def Kl(r:Rx):List Sp:=(leaves r).foldl BP []
theorem zI{s:Sp}:∀(l acc:List Sp),s∈l.foldl BP acc↔s∈acc\/s∈l
 |[]=>λacc=>by simp
 |a::l=>λacc=>by
  refine ao lZ ?_;rewrite[zI l];unfold BP;split
  ·rename_i h
   rw[a9];exact⟨λh'=>h'.elim .inl λq=> .inr (.inr q),λh'=>h'.elim .inl λq=>q.elim (λe=> .inl (e▸h)) .inr⟩
  ·rw[aI,aq,a9,or_assoc]
theorem xk{r:Rx}{s:Sp}:s∈Kl r↔s∈leaves r:=(zI _ _).trans (by simp)
theorem Hx{r:Rx}(h:Wf r):∀x∈lS r,Wf x:=by
 cases r with
 |cat a b=>intro x hx;rcases a9.mp hx with rfl|hx;exact h.1;exact aq.mp hx▸h.2
 |alt a b=>intro x hx;rcases a9.mp hx with rfl|hx;exact h.1;exact aq.mp hx▸h.2
 |star a=>intro x hx;refine ao (aq.mp hx) ?_;exact h
 |plus a=>intro x hx;refine ao (aq.mp hx) ?_;exact h
 |opt a=>intro x hx;refine ao (aq.mp hx) ?_;exact h
 |rep a lo hi=>intro x hx;refine ao (aq.mp hx) ?_;cases hi<;>exact h.1
 |_=>intro x hx;cases hx
structure Od.Inv(σ:AH)(r:Rx)(f w:aY)(x:Od):Prop where
 af:x.τ f=some (.list (x.found.map tL))
 aw:x.τ w=some (.list (x.stack.map bq))
 sub:Sub σ x.τ
 wf:∀y∈x.stack,Wf y
 cov:∃done,leaves r=done++x.stack.reverse.flatMap leaves/\x.found=done.foldl BP []
 s4:∀s∈x.found,s∈S4
 nd:x.found.Nodup
 sz:nt x.stack<=gz r
section
variable(hP:C.prog=PG)
theorem rO(r:Rx):uo σ (bq r) "name"=some (qV (qR r)):=by cases r<;>rfl
theorem Jr{r:Rx}(h:∀s,r≠ .chars s):¬ae (qR r)=ae "chars":=by
 cases r with
 |chars s=>exact absurd rfl (h s)
 |empty=>exact(by decide:¬ae "empty"=ae "chars")
 |never=>exact(by decide:¬ae "never"=ae "chars")
 |cat a b=>exact(by decide:¬ae "cat"=ae "chars")
 |alt a b=>exact(by decide:¬ae "alt"=ae "chars")
 |star a=>exact(by decide:¬ae "star"=ae "chars")
 |plus a=>exact(by decide:¬ae "plus"=ae "chars")
 |opt a=>exact(by decide:¬ae "opt"=ae "chars")
 |rep a lo hi=>exact(by decide:¬ae "repeat"=ae "chars")
include hP
theorem Hm{s:Sp}{K:V->AH->Prop}(q:K (xn s) σ):mW σ (tL s) "key" λq=>callN C (d+1) q.1 (iY q.2 (tL s) []) σ K:=mW_of (q:=("CharSet.key",true)) rfl (dF (zg hP rfl q))
theorem JB{r:Rx}(h:∀s,r≠ .chars s){K:V->AH->Prop}(q:∀k,σ k=none->K (.ref k) (σ.set k (.list ((lS r).map bq)))):mW σ (bq r) "parts" λq=>callN C (d+1) q.1 (iY q.2 (bq r) []) σ K:=by
 cases r with
 |chars s=>exact absurd rfl (h s)
 |empty=>exact mW_of (q:=("Node.parts",true)) rfl (dF (tP hP rfl (cJ (bg _) q)))
 |never=>exact mW_of (q:=("Node.parts",true)) rfl (dF (tP hP rfl (cJ (bg _) q)))
 |cat a b=>exact mW_of (q:=("Pair.parts",true)) rfl (dF (tV hP rfl (cJ (aj rfl) q)))
 |alt a b=>exact mW_of (q:=("Pair.parts",true)) rfl (dF (tV hP rfl (cJ (aj rfl) q)))
 |star a=>exact mW_of (q:=("Loop.parts",true)) rfl (dF (mn hP rfl (cJ (aj rfl) q)))
 |plus a=>exact mW_of (q:=("Loop.parts",true)) rfl (dF (mn hP rfl (cJ (aj rfl) q)))
 |opt a=>exact mW_of (q:=("Loop.parts",true)) rfl (dF (mn hP rfl (cJ (aj rfl) q)))
 |rep a lo hi=>exact mW_of (q:=("Loop.parts",true)) rfl (dF (mn hP rfl (cJ (aj rfl) q)))
theorem kE{r:Rx}(hw:Wf r)(hh:gz r<=300)(q: (Kl r).length<=4->Q (.list ((Kl r).map tL)) σ):callN C (d+2) "charsets" [bq r] σ Q:=by
 refine mK (DS hP rfl ?_);refine cJ (bg _) λf hf=>cJ (aj rfl) λw hw'=>?_;have hne:w≠f:=by rintro rfl;rw[az]at hw';exact n9 hw'
 rw[ay _ _ hne]at hw';refine iJ (α:=Od) (λx=>nt x.stack) (λx=>[some (bq r),some (.ref f),some (.ref w),x.o,x.p,x.q,none]) (λx=>x.τ) (Od.Inv σ r f w) (λx hI R hR=>?_) ⟨[r],[],(σ.set f (.list [])).set w (.list [bq r]),none,none,none⟩
  ⟨(ay _ _ (aV hne)).trans (az ..),az ..,(Sub.refl.set hf _).set hw' _,λy hy=>by refine ao (aq.mp hy) ?_;exact hw,⟨[],by exact(be _).symm,rfl⟩,λs hs=>(nomatch hs),fW,by simp[nt]⟩
 intro En;have hlen:x.stack.length<=300:=a8 (BM _) (a8 hI.sz hh);have flen:x.found.length<=4:=gI (l':=S4) hI.nd hI.s4;refine jN (li hI.aw) (by rw[ai];exact ci (nat_lit 0x1eb00a964c01) rfl hlen) ?_;refine jV (λhpos=>?_) λhz=>?_
 ·rw[ai]at hpos
  have hne':x.stack≠ []:=by rintro e;rw[e]at hpos;exact absurd hpos (by decide)
  obtain⟨l,y,e⟩:∃l y,x.stack=l++[y]:=⟨_,_,(ca hne').symm⟩;have aw:=hI.aw;rw[e,bw]at aw;have sz:=hI.sz;rw[e,yk]at sz;have h1:nt [y]=gz y:=by simp[nt]
  refine GH aw (by rw[ai];rw[e,aC]at hlen;exact bt (nat_lit 0x18b2c122a59308241) rfl hlen) ?_;have wy:Wf y:=hI.wf y (by refine ao e ?_;exact aL _ (.head _));have dec:∀l':List Rx,nt l'<gz y->nt (l++l')<nt x.stack:=λl' h=>by refine ao e ?_;rewrite[yk];rewrite[yk];exact ir (nat_lit 0x1c9621ca450ac5208403) rfl h1 h
  by_cases hc:∃s,y= .chars s
  ·clear aw hne' hpos hlen hh;obtain⟨s,rfl⟩:=hc
   have hs4:s∈S4:=wy;refine kj (Hm hP ?_);refine oW_of (oE (by refine ao (ay _ _ (aV hne)) ?_;exact hI.af)) ?_;refine jM (β:=Sp) (enc:=tL) (f:=xn) (E:=λv=>[none,some v]) (by exact(ay _ _ (aV hne)).trans hI.af) (λw_ w_=>rfl) x.found [] _ (λw_=>rfl) (by simp;exact ci (nat_lit 0x62c02b801) rfl flen) (λb w_ K k=>Hm hP k) ?_;refine d6 (by simp;exact ci (nat_lit 0x62c02b801) rfl flen) ?_;refine oW_of (a:= !x.found.contains s) (congrArg (fV (!·)) (Ny hs4 hI.s4)) (y8 (λhn=>?_) λhn=>?_)
   ·have hn':s∉x.found:=by exact λz=>by rw[qA.mpr z]at*;exact absurd (hn) nofun
    refine fH (by exact(ay _ _ (aV hne)).trans hI.af) (by rw[ai];exact ci (nat_lit 0x62c02b801) rfl flen) ?_;refine hR ⟨l,x.found++[s],(x.τ.set w (.list (l.map bq))).set f (.list (x.found.map tL++[tL s])),some (bq (.chars s)),x.p,x.q⟩ (by have:=dec [] (fK _);simpa using this)
     ⟨(az ..).trans (by refine ao bw ?_;rfl),(ay _ _ hne).trans (az ..),(hI.sub.set hw' _).set hf _,λz hz=>hI.wf z (by refine ao e ?_;simp[hz]),?_,λt ht=>?_,?_,by show nt l<=gz r;exact b9 (nat_lit 0x100a208241) rfl sz⟩
    ·obtain⟨done,h1,h2⟩:=hI.cov
     rw[e,gG]at h1;exact⟨done++[s],h1.trans (aJ done [s] _).symm,by refine ao iA (dk h2 ?_);show _=BP x.found s;unfold BP;exact ao (if_neg hn') rfl⟩
    ·rcases aI.mp ht with h|h
     ·exact hI.s4 t h
     ·refine ao (aq.mp h) ?_;exact hs4
    ·exact c7.mpr ⟨hI.nd,by exact cb _ _,λa ha b hb e'=>hn' (by rw[aq.mp hb]at e';refine dk e' ?_;exact ha)⟩
   ·have hn':s∈x.found:=by simpa using hn
    refine hR ⟨l,x.found,x.τ.set w (.list (l.map bq)),some (bq (.chars s)),x.p,x.q⟩ (by have:=dec [] (fK _);simpa using this)
     ⟨(ay _ _ (aV hne)).trans hI.af,az ..,hI.sub.set hw' _,λz hz=>hI.wf z (by refine ao e ?_;simp[hz]),?_,hI.s4,hI.nd,by show nt l<=gz r;exact b9 (nat_lit 0x100a208241) rfl sz⟩
    obtain⟨done,h1,h2⟩:=hI.cov;rw[e,gG]at h1;exact⟨done++[s],h1.trans (aJ done [s] _).symm,by refine ao iA (dk h2 ?_);show _=BP x.found s;unfold BP;exact ao (if_pos hn') rfl⟩
  ·have hc':∀s,y≠ .chars s:=λs e=>hc ⟨s,e⟩
   refine oW_of (rO y) ?_;refine fj (Jr hc') ?_;refine JB hP hc' λk hk=>?_;have hkw:k≠w:=by rintro rfl;rw[az]at hk;clear aw;exact n9 hk
   have hkf:k≠f:=by rintro rfl;rw[ay _ _ (aV hne),hI.af]at hk;clear aw hne' hpos flen;exact n9 hk
   have hk0:σ k=none:=by
    cases hq:σ k with
    |none=>rfl
    |some m=>rw[ay _ _ hkw,hI.sub _ _ hq]at hk;clear hq;exact n9 hk
   have plen: (lS y).length<=2:=by clear hc aw;cases y<;>first|exact aj rfl
   refine oR (az ..) (by rw[ai];exact ci (nat_lit 0x62c02b001) rfl plen) ?_;rewrite[bO];refine dk kN ?_;refine oW_of (oE (az ..)) ?_;generalize hcur: ((x.τ.set w (.list (l.map bq))).set k (.list ((lS y).reverse.map bq)))=cur;have cw:cur w=some (.list (l.map bq)):=by refine dk hcur ?_;refine ao (ay _ _ (aV hkw)) ?_;rewrite[az];with_reducible rfl
   have cf:cur f=some (.list (x.found.map tL)):=by exact dk hcur (ao (ay _ _ (aV hkf)) (ao (ay _ _ (aV hne)) (ao hI.af rfl)))
   have ck:cur k=some (.list ((lS y).reverse.map bq)):=by refine dk hcur ?_;rewrite[az];with_reducible rfl
   have cs:Sub σ cur:=hcur▸(hI.sub.set hw' _).set hk0 _;clear hcur;refine dk (oV cw) ?_;refine j7 (β:=Rx) (α:=List Rx×Option V) bq (λz=>[some (bq r),some (.ref f),some (.ref w),some (bq y),some (.ref k),z.2,none]) (λz=>cur.set w (.list (z.1.map bq)))
    (λbs z=>z.1++bs=l++(lS y).reverse) ?_ (λb bs z hz w_ R' hR'=>?_) (λz hz=>?_) (lS y).reverse (l,x.q) rfl
   ·exact λbs z w_=>(ay _ _ hkw).trans ck
   ·intro En;refine ES rfl ?_ ?_
    ·have:=congrArg dW hz
     simp only[aC,bv,sv]at this;rw[ai];rw[e,aC]at hlen;exact uk (nat_lit 0x62c32881259243909820a59308241) rfl hlen plen this
    ·have:=hR' (z.1++[b],some (bq b)) (by refine dk hz ?_;exact aJ ..)
     rw[bw]at this;exact this
   ·intro En;rw[be]at hz
    refine ao hz ?_;have hlt:nt (l++(lS y).reverse)<nt x.stack:=dec _ (by rw[Ie];exact DN y);refine hR ⟨l++(lS y).reverse,x.found,cur.set w (.list ((l++(lS y).reverse).map bq)),some (bq y),some (.ref k),z.2⟩ hlt
     ⟨(ay _ _ (aV hne)).trans cf,az ..,cs.set hw' _,λu hu=>?_,?_,hI.s4,hI.nd,a8 (mz hlt) hI.sz⟩
    ·rcases aI.mp hu with hu|hu
     ·exact hI.wf u (by refine ao e ?_;simp[hu])
     ·exact Hx wy u (List.mem_reverse.mp hu)
    ·obtain⟨done,h1,h2⟩:=hI.cov
     rw[e,gG]at h1;exact⟨done,h1.trans (by simp[A5 hc']),h2⟩
 ·have h0:x.stack=[]:=by
   have:¬(((x.stack.map bq).length:Nat):Int) >0:=hz;rw[ai]at this;exact co.mp (by lia)
  obtain⟨done,h1,h2⟩:=hI.cov;rw[h0]at h1;have ef:x.found=Kl r:=by unfold Kl;refine ao h1 (ao h2 ?_);simp
  rw[ef]at flen;exact⟨.list ((Kl r).map tL),hI.sub,.inr ⟨f,_,rfl,hf,ef▸hI.af,tI.refl⟩,q flen⟩
end
section
variable(hP:C.prog=PG)
theorem xd{r:Rx}(h:k5 r): (¬ae (qR r)=ae "cat")/\¬ae (qR r)=ae "alt":=by
 rcases h with⟨s,_,rfl⟩|rfl|rfl
 ·exact⟨(by decide:¬ae "chars"=ae "cat"),(by decide:¬ae "chars"=ae "alt")⟩
 ·exact⟨(by decide:¬ae "empty"=ae "cat"),(by decide:¬ae "empty"=ae "alt")⟩
 ·exact⟨(by decide:¬ae "never"=ae "cat"),(by decide:¬ae "never"=ae "alt")⟩
include hP
theorem mQ{r:Rx}{K:V->AH->Prop}(h:k5 r)(q:K (cg r) σ):mW σ (bq r) "told" λq=>callN C (d+2) q.1 (iY q.2 (bq r) []) σ K:=by
 rcases h with⟨s,_,rfl⟩|rfl|rfl
 ·exact mW_of (q:=("Chars.told",true)) rfl (dF (AY hP rfl (Hm hP q)))
 ·exact mW_of (q:=("Node.told",true)) rfl (dF (vS hP rfl q))
 ·exact mW_of (q:=("Node.told",true)) rfl (dF (vS hP rfl q))
theorem Db{r:Rx}{K:V->AH->Prop}(h:k5 r)(q:K (cg (.star r)) σ):mW σ (bq (.star r)) "told" λq=>callN C (d+3) q.1 (iY q.2 (bq (.star r)) []) σ K:=
 mW_of (q:=("Loop.told",true)) rfl (dF (qK hP rfl (mQ hP h q)))
theorem GS{a b:Rx}(h:k5 a)(q:Q (.list [bq a,bq b]) σ):callN C (d+1) "spine" [bq (.cat a b)] σ Q:=by
 refine mK (EN hP rfl ?_);refine cJ (bg _) λk hk=>?_;refine⟨2,?_⟩;refine mN rfl (CI (λh=>absurd rfl h) λw_=>kj ?_);refine fH (az ..) (bg _) ?_;rw[bO];refine oW_of (rO a) ?_;refine fj (xd h).1 (fj (xd h).1 ?_);refine fH (az ..) (aj rfl) ?_;rw[bO];refine oR (az ..) (aj rfl) ?_;rw[bO];exact⟨.list [bq a,bq b],Sub.refl.set hk _,.inr ⟨k,_,rfl,hk,az ..,tI.refl⟩,q⟩
theorem Io{a b:Rx}(h:k5 a)(q:Q (.list [bq a,bq b]) σ):callN C (d+1) "spine" [bq (.alt a b)] σ Q:=by
 refine mK (EN hP rfl ?_);refine cJ (bg _) λk hk=>?_;refine⟨2,?_⟩;refine mN rfl (CI (λw_=>kj ?_) λh=>absurd h (by decide:¬ae "alt"=ae "cat"));refine fH (az ..) (bg _) ?_;rw[bO];refine oW_of (rO a) ?_;refine fj (xd h).2 (fj (xd h).2 ?_);refine fH (az ..) (aj rfl) ?_;rw[bO];refine oR (az ..) (aj rfl) ?_;rw[bO];exact⟨.list [bq a,bq b],Sub.refl.set hk _,.inr ⟨k,_,rfl,hk,az ..,tI.refl⟩,q⟩
theorem Ex{a b:Rx}{K:V->AH->Prop}(h:k5 a)(hb:∀K:V->AH->Prop,K (cg b) σ->mW σ (bq b) "told" λq=>callN C (d+3) q.1 (iY q.2 (bq b) []) σ K)(q:K (cg (.cat a b)) σ):mW σ (bq (.cat a b)) "told" λq=>callN C (d+4) q.1 (iY q.2 (bq (.cat a b)) []) σ K:=by
 refine mW_of (q:=("Pair.told",true)) rfl (dF (vX hP rfl ?_));refine GS hP h (mQ hP h ?_);refine⟨aj rfl,d6 (aj rfl) ⟨bL,hb _ ⟨bL,q⟩⟩⟩
theorem EW{a b:Rx}{K:V->AH->Prop}(h:k5 a)(hb:∀K:V->AH->Prop,K (cg b) σ->mW σ (bq b) "told" λq=>callN C (d+3) q.1 (iY q.2 (bq b) []) σ K)(q:K (cg (.alt a b)) σ):mW σ (bq (.alt a b)) "told" λq=>callN C (d+4) q.1 (iY q.2 (bq (.alt a b)) []) σ K:=by
 refine mW_of (q:=("Pair.told",true)) rfl (dF (vX hP rfl ?_));refine Io hP h (mQ hP h ?_);refine⟨aj rfl,d6 (aj rfl) ⟨bL,hb _ ⟨bL,q⟩⟩⟩
theorem HI{r:Rx}{K:V->AH->Prop}(h:f6 r)(q:K (cg r) σ):mW σ (bq r) "told" λq=>callN C (d+4) q.1 (iY q.2 (bq r) []) σ K:=by
 cases h with
 |leaf h=>exact mQ hP h q
 |star h=>exact Db hP h q
 |plus h=>exact mW_of (q:=("Loop.told",true)) rfl (dF (qK hP rfl (mQ hP h q)))
 |opt h=>exact mW_of (q:=("Loop.told",true)) rfl (dF (qK hP rfl (mQ hP h q)))
 |r22 h=>exact mW_of (q:=("Repeat.told",true)) rfl (dF (oj hP rfl (mQ hP h q)))
 |r12 h=>exact mW_of (q:=("Repeat.told",true)) rfl (dF (oj hP rfl (mQ hP h q)))
 |r2n h=>exact mW_of (q:=("Repeat.told",true)) rfl (dF (oj hP rfl (mQ hP h q)))
 |cat ha hb=>exact Ex hP ha (λK q=>mQ hP hb q) q
 |cats ha hb=>exact Ex hP ha (λK q=>Db hP hb q) q
 |alt ha hb=>exact EW hP ha (λK q=>mQ hP hb q) q
 |alts ha hb=>exact EW hP ha (λK q=>Db hP hb q) q
theorem Nn{l:List Int}(hl:l.length<=63)(q:∀p,σ p=none->Q (.ref p) (σ.set p (mM l 0 0))):callN C (d+1) "_law_pen" [.arg (l.map .int)] σ Q:=by
 refine dF (Dy hP rfl ?_);refine⟨by rw[ai];exact ci (nat_lit 0x18b00a1fcc01) rfl hl,?_⟩;have ht: (l.map V.int).take 63=l.map V.int:=List.take_of_length_le (by rw[ai];exact hl);show jU ((l.map V.int).take 63) σ _;refine ao ht ?_;refine d6 (by rw[ai];exact ci (nat_lit 0x18b00a1fcc01) rfl hl) ?_;refine jM (β:=Int) (enc:=V.int) (f:=V.int) (E:=λv=>[none,some v,none]) ?_ (λw_ w_=>rfl) l [] _ (λw_=>rfl) (by simp;exact ci (nat_lit 0x18b00a1fcc01) rfl hl) (λb w_ K k=>sG k) ?_
 ·exact bL
 refine d6 (by simp;exact ci (nat_lit 0x18b00a1fcc01) rfl hl) ?_;exact cJ (aj rfl) q
end
noncomputable abbrev vc(k:Nat):Int:=(k:Int)
noncomputable def cV(kl:List Nat)(g:Nat->V):fM:= .dict (kl.map vc) (kl.map g)
noncomputable def upd{α:Type}(g:Nat->α)(k:Nat)(v:α):Nat->α:=λn=>if n=k then v else g n
theorem j8{α:Type}{g:Nat->α}{k:Nat}{v:α}:upd g k v k=v:=if_pos rfl
theorem pA{α:Type}{g:Nat->α}{k n:Nat}{v:α}(h:n≠k):upd g k v n=g n:=if_neg h
theorem Hv{kl:List Nat}{k:Nat}: (kl.map vc).contains (k:Int)=decide (k∈kl):=by
 rw[g8];simp only[List.contains_eq_mem,decide_eq_true_eq,bG];exact⟨λ⟨a,h,e⟩=>cQ e▸h,λh=>⟨k,h,rfl⟩⟩
theorem xf{g:Nat->V}{k:Nat}:∀{kl:List Nat},k∈kl->oi (kl.map vc) (kl.map g) (k:Int)=some (g k)
 |j::kl,h=>by
  refine ao bC ?_;refine ao bC ?_;refine ao um ?_;by_cases e:j=k
  ·clear h;subst e;exact ao (if_pos rfl) rfl
  ·exact ao (if_neg (λq:vc j=(k:Int)=>e (cQ q))) (ao (xf (by rcases a9.mp h with h|h;exact absurd h.symm e;exact h)) rfl)
theorem DD{g:Nat->V}{k:Nat}:∀{kl:List Nat},k∉kl->oi (kl.map vc) (kl.map g) (k:Int)=none
 |[]=>λh=>rfl
 |j::kl=>λh=>by
  refine ao bC ?_;refine ao bC ?_;refine ao um ?_;refine ao (if_neg (λq:vc j=(k:Int)=>h (by refine ao (show k=j from(cQ q).symm) ?_;exact bF ..))) ?_;refine ao (DD λq=>h (bA _ q)) ?_;with_reducible rfl
theorem M5{kl:List Nat}{k:Nat}:vf (kl.map vc) k=(if k∈kl then kl else kl++[k]).map vc:=by
 unfold vf;refine ao Hv ?_;by_cases h:k∈kl
 ·exact ao (if_pos h) (ao (if_pos (decide_eq_true h)) rfl)
 ·refine ao (if_neg h) (ao (if_neg (by simpa using h)) (ao bw ?_));rfl
theorem Jc{α:Type}{g:Nat->α}{k:Nat}{v:α}{l:List Nat}(h:k∉l):l.map (upd g k v)=l.map g:=
 dA λn hn=>pA λe=>h (e▸hn)
theorem Kj{g:Nat->V}{k:Nat}{v:V}:∀{kl:List Nat},kl.Nodup->vPut (kl.map vc) (kl.map g) (k:Int) v=(if k∈kl then kl else kl++[k]).map (upd g k v)
 |[]=>λw_=>by show[v]=[upd g k v k];exact ao j8 rfl
 |j::kl=>λh=>by
  have hn:=cC.mp h;refine ao bC ?_;refine ao bC ?_;refine ao rd ?_;by_cases e:j=k
  ·clear h;subst e
   exact ao (if_pos rfl) (ao (if_pos (bF ..)) (ao bC (ao j8 (ao (Jc hn.1) rfl))))
  ·refine ao (if_neg (λq:vc j=(k:Int)=>e (cQ q))) (ao (Kj hn.2) ?_)
   have: (k∈j::kl)=(k∈kl):=by simp[show¬k=j from λq=>e q.symm]
   simp only[this];by_cases hm:k∈kl
   ·exact ao (if_pos hm) (ao (if_pos hm) (ao bC (ao (pA e) rfl)))
   ·exact ao (if_neg hm) (ao (if_neg hm) (ao iV (ao bC (ao (pA e) rfl))))
noncomputable def j0(kl:List Nat)(k:Nat):List Nat:=if k∈kl then kl else kl++[k]
theorem k6{kl:List Nat}{k n:Nat}:n∈j0 kl k↔n∈kl\/n=k:=by
 unfold j0;split
 ·rename_i h;exact⟨.inl,λq=>q.elim id λe=>e▸h⟩
 ·exact aI.trans (or_congr_right aq)
theorem s7{kl:List Nat}{k:Nat}(h:kl.Nodup): (j0 kl k).Nodup:=by
 unfold j0;split
 ·exact h
 ·rename_i hn;exact c7.mpr ⟨h,by exact cb _ _,λa ha b hb e=>hn (by rw[aq.mp hb]at e;refine dk e ?_;exact ha)⟩
section
variable{a:aY}{kl:List Nat}{g:Nat->V}{k:Nat}
theorem AH.ne{b:aY}{m:fM}(h:σ a=none)(h':σ b=some m):a≠b:=by rintro rfl;rw[h]at h';exact bx h'
theorem dG{b:aY}{m m':fM}(h:σ a=some m)(h':σ b=some m')(hm:m≠m'):a≠b:=by rintro rfl;rw[h]at h';exact hm (ac h')
theorem jY(h:σ a=some (cV kl g)):iQ σ (.ref a)=some (kl.map vc,kl.map g):=congrArg (eJ · MK) h
theorem uq(h:σ a=some (cV kl g)):kq σ (.ref a)=none:=congrArg (eJ · Ky) h
theorem ux(h:σ a=some (cV kl g)):IQ σ (.int k) (.ref a)=some (decide (k∈kl)):=by
 unfold IQ;refine ao (jY h) ?_;show some ((kl.map vc).contains (k:Int))=_;exact ao Hv rfl
theorem qH(h:σ a=some (cV kl g))(hk:k∈kl):oT σ (.ref a) (.int k)=some (g k):=by
 delta oT;dsimp only;refine ao (uq h) (ao (jY h) ?_);exact xf hk
theorem kZ{v:V}{K:AH->Prop}(h:σ a=some (cV kl g))(hn:kl.Nodup)(hl:kl.length<=16777216)(q:K (σ.set a (cV (j0 kl k) (upd g k v)))):tu (.ref a) (.int k) v σ K:=by
 refine Gv h (by rw[ai];exact hl) ?_;refine ao M5 (ao (Kj hn) ?_);exact q
theorem NN{df:V}{K:V->AH->Prop}(h:σ a=some (cV kl g))(q:K (if k∈kl then g k else df) σ):mW σ (.ref a) "get" λq=>callN C d q.1 (iY q.2 (.ref a) [.int k,df]) σ K:=by
 refine mW_of (q:=("dict.get",true)) ?_ (bU.mpr (Kb (jY h) ?_))
 ·delta j3 pJ;dsimp only
  refine ao (show pM σ (.ref a)=none from congrArg (eJ · KX) h) (ao (show d7 σ (.ref a)=none from uq h) (ao (jY h) ?_));rfl
 ·by_cases hk:k∈kl
  ·refine ao (xf hk) ?_;rw[if_pos hk]at q;exact q
  ·refine ao (DD hk) ?_;rw[if_neg hk]at q;exact q
theorem BI{kl:List Nat}{ms:List Int}(h:ms.Perm (kl.map vc))(hp:ms.Pairwise (·<=·)):∃nl:List Nat,ms=nl.map vc/\nl.Perm kl/\nl.Pairwise (·<=·):=by
 have e: (ms.map vH).map vc=ms:=by
  refine ao dE ?_;refine(dA λx hx=>?_).trans (CY ms);clear hp;refine bJ (bG.mp (h.mem_iff.mp hx)) ?_;rintro n _ rfl;rfl
 refine⟨ms.map vH,e.symm,?_,?_⟩
 ·have:=h.map vH
  rw[dE]at this;rwa [show kl.map (vH ∘ vc)=kl from CY kl]at this
 ·rw[<- e]at hp
  exact(nQ.mp hp).imp λh=>mC.mp h
theorem Gl(h:σ a=some (cV kl g))(hn:kl.length<=1073741824)(q:Q (.int kl.length) σ):callN C d "len" [.ref a] σ Q:=by
 refine jN ?_ hn q;delta Fj Gz;dsimp only;refine ao (uq h) (ao (jY h) ?_);show some (kl.map vc).length=_;rw[ai]
end
noncomputable def gE(f:Nat->Nat):Nat->V:=λc=> .int (f c:Nat)
theorem xl{f:Nat->Nat}{k v:Nat}:upd (gE f) k (.int v)=gE (upd f k v):=by
 funext n;by_cases h:n=k
 ·subst h;refine ao j8 ?_;unfold gE;exact ao j8 rfl
 ·refine ao (pA h) ?_;unfold gE;exact ao (pA h) rfl
structure Tg(sets:List Sp)(i:Nat)(kl:List Nat)(f:Nat->Nat)(l:List Nat):Prop where
 nd:kl.Nodup
 z:0∈kl
 r4:∀c∈kl,c∈ [0,97,98,99]
 onl:∀c∈kl,c=0\/∃s∈sets,c∈tog s
 no:∀c,c∉kl->f c=0
 val:∀c,f c=turn (sets.take i) c ^^^ (if c∈l then 1 <<< i else 0)
 has:∀s∈sets.take i,∀c∈tog s,c∈kl
 now:∀c∈l,c∈kl
section
variable{sets:List Sp}{i:Nat}{kl l:List Nat}{f:Nat->Nat}
theorem Tg.len(h:Tg sets i kl f l):kl.length<=4:=gI (l':=[0,97,98,99]) h.nd h.r4
theorem Tg.tick(h:Tg sets i kl f l){c:Nat}(hc:c∉l)(h4:c∈ [0,97,98,99])(ho:∃s∈sets,c∈tog s):Tg sets i (j0 kl c) (upd f c (f c ^^^ 1 <<< i)) (l++[c]) where
 nd:=s7 h.nd
 z:=k6.mpr (.inl h.z)
 r4 x hx:=(k6.mp hx).elim (h.r4 x) λe=>e▸h4
 onl x hx:=(k6.mp hx).elim (h.onl x) λe=>e▸ .inr ho
 no x hx:=by
  rw[k6]at hx;exact ao (pA λe=>hx (.inr e)) (ao (h.no x λq=>hx (.inl q)) rfl)
 val x:=by
  by_cases e:x=c
  ·clear ho h4;subst e
   refine ao j8 ?_;rewrite[h.val];refine ao (if_neg hc) ?_;refine ao (if_pos (by exact aL _ (.head _))) ?_;rewrite[BB];with_reducible rfl
  ·refine ao (pA e) ?_;rewrite[h.val]
   simp[e]
 has s hs x hx:=k6.mpr (.inl (h.has s hs x hx))
 now x hx:=k6.mpr (by
  rcases aI.mp hx with q|q
  ·exact .inl (h.now x q)
  ·exact .inr (aq.mp q))
theorem Tg.next{s:Sp}(hs:sets[i]?=some s)(h:Tg sets i kl f (tog s)):Tg sets (i+1) kl f []:=by
 obtain⟨hi,e⟩:=aE.mp hs;have et:sets.take (i+1)=sets.take i++[s]:=by refine ao ki (ao hs ?_);rfl
 refine⟨h.nd,h.z,h.r4,h.onl,h.no,λc=>?_,λt ht c hc=>?_,λc hc=>(nomatch hc)⟩
 ·rewrite[h.val];refine ao et ?_
  unfold turn;rewrite[zY];refine ao iX ?_;refine ao (ju (mz hi)) ?_;simp
 ·rw[et]at ht
  rcases aI.mp ht with q|q
  ·exact h.has t q c hc
  ·rw[aq.mp q]at hc;exact h.now c hc
theorem Tg.init:Tg sets 0 [0] (λw_=>0) [] where
 nd:=by exact cb _ _
 z:=by exact .head _
 r4:=by exact(by decide)
 onl:=λc hc=> .inl (aq.mp hc)
 no _ _:=rfl
 val c:=by simp[turn,tr]
 has s hs:=by cases hs
 now _ hc:=by cases hc
end
theorem Nj:∀s∈S4,(tog s).Nodup:=by decide
theorem xS(l:Sp)(p:Nat×Nat):tog (l++[p])=tog l++if p.2<127 then[p.1,p.2+1]else[p.1]:=by simp[tog]
theorem LG{a:aY}{kl:List Nat}{f:Nat->Nat}{k:Nat}{K:V->AH->Prop}(h:σ a=some (cV kl (gE f)))(h0:k∉kl->f k=0)(q:K (.int (f k:Nat)) σ):mW σ (.ref a) "get" λq=>callN C d q.1 (iY q.2 (.ref a) [.int k,.int 0]) σ K:=by
 refine NN h ?_;split
 ·exact q
 ·rename_i hk;rw[h0 hk]at q;exact q
theorem KJ{a:aY}{kl:List Nat}{f:Nat->Nat}{k v:Nat}{K:AH->Prop}{τ:AH}(h:τ=σ.set a (cV kl (gE f)))(hn:kl.Nodup)(hl:kl.length<=16777216)(q:K (σ.set a (cV (j0 kl k) (gE (upd f k v))))):tu (.ref a) (.int k) (.int v) τ K:=by
 subst h;refine kZ (az ..) hn hl ?_;rewrite[bO];refine ao xl ?_;exact q
theorem L7{a:aY}{kl:List Nat}{f:Nat->Nat}{k:Nat}(h:σ a=some (cV kl (gE f)))(h0:k∉kl->f k=0)(q:Q (.int (f k:Nat)) σ):callN C d "dict.get" [.ref a,.int k,.int 0] σ Q:=by
 refine bU.mpr (Kb (jY h) ?_);by_cases hk:k∈kl
 ·refine ao (xf hk) ?_;exact q
 ·refine ao (DD hk) ?_;rw[h0 hk]at q;exact q
theorem OQ{a:aY}{kl:List Nat}{g:Nat->V}{k:String×Bool->Prop}(h:σ a=some (cV kl g))(x:k ("dict.get",true)):mW σ (.ref a) "get" k:=by
 refine mW_of (q:=("dict.get",true)) ?_ x;delta j3 pJ;dsimp only;refine ao (show pM σ (.ref a)=none from congrArg (eJ · KX) h) (ao (show d7 σ (.ref a)=none from uq h) (ao (jY h) ?_));rfl
theorem AI{a:aY}{vs:List V}{k:String×Bool->Prop}(e:σ a=some (.list vs))(x:k ("list.append",true)):mW σ (.ref a) "append" k:=mW_of (q:=("list.append",true)) (ub e) x
theorem j4{a:aY}{v:V}{vs:List V}(e:σ a=some (.list vs))(hl:vs.length<=16777216)(q:Q .none (σ.set a (.list (vs++[v])))):callN C d "list.append" [.ref a,v] σ Q:=bU.mpr (yd e hl q)
structure Pb where
 kl:List Nat
 f:Nat->Nat
 o:Option V
 p:Option V
 q:Option V
structure L3 where
 done:List Nat
 kn:List Nat
 hold:Nat
 τ:AH
 o:Option V
noncomputable def xJ(bounds numbers:List Nat)(count:Nat):V:= .inst "Classes" ["bounds","numbers","count"] [.list (cP bounds),.list (cP numbers),.int count]
noncomputable def DE(sets:List Sp)(nl:List Nat):List Nat:=(nl.map (hold sets)).foldl j0 []
theorem F8(sets:List Sp)(nl:List Nat)(c:Nat):DE sets (nl++[c])=j0 (DE sets nl) (hold sets c):=by
 unfold DE;refine ao bw (ao iA ?_);rfl
structure LV(sets:List Sp)(bounds numbers:List Nat)(count:Nat):Prop where
 bd:∀c,c∈bounds↔c=0\/∃s∈sets,c∈tog s
 inc:bounds.Pairwise (· < ·)
 nu:numbers=bounds.map λb=>(DE sets bounds).idxOf (hold sets b)
 ct:count=(DE sets bounds).length
theorem vV:∀{l l':List Nat},l.Pairwise (· < ·)->l'.Pairwise (· < ·)->(∀c,c∈l↔c∈l')->l=l'
 |[],[]=>λw_ w_ w_=>rfl
 |[],a::l'=>λw_ w_ h=>absurd ((h a).mpr (bF ..)) (by exact nofun)
 |a::l,[]=>λw_ w_ h=>absurd ((h a).mp (bF ..)) (by exact nofun)
 |a::l,b::l'=>λh1 h2 h=>by
  obtain⟨a1,a2⟩:=fX.mp h1;obtain⟨b1,b2⟩:=fX.mp h2;have e:a=b:=by
   rcases a9.mp ((h a).mp (bF ..))with q|q
   ·exact q
   ·rcases a9.mp ((h b).mpr (bF ..))with r|r
    ·exact r.symm
    ·have:=b1 a q;have:=a1 b r;lia
  clear h2 h1;subst e;refine congrArg (a::·) (vV a2 b2 λc=>?_);constructor
  ·intro hc
   rcases a9.mp ((h c).mp (bA _ hc))with q|q
   ·clear b1 h;subst q;exact absurd (a1 c hc) (fo _)
   ·exact q
  ·intro hc
   rcases a9.mp ((h c).mpr (bA _ hc))with q|q
   ·clear h a1;subst q;exact absurd (b1 c hc) (fo _)
   ·exact q
theorem LV.uniq{sets:List Sp}{b b' n n':List Nat}{c c':Nat}(h:LV sets b n c)(h':LV sets b' n' c'):b=b'/\n=n'/\c=c':=by
 have e:=vV h.inc h'.inc λc=>(h.bd c).trans (h'.bd c).symm;subst e;exact⟨rfl,h.nu.trans h'.nu.symm,h.ct.trans h'.ct.symm⟩
structure L3.Inv(σ:AH)(sets:List Sp)(kl:List Nat)(f:Nat->Nat)(nl:List Nat)(T K B N a dd:aY)(bs:List Nat)(x:L3):Prop where
 e:x.done++bs=nl
 at':x.τ T=some (cV kl (gE f))
 ak:x.τ K=some (cV x.kn (gE λh=>x.kn.idxOf h))
 ab:x.τ B=some (.list (cP x.done))
 an:x.τ N=some (.list (cP (x.done.map λb=>x.kn.idxOf (Mine.Internal.hold sets b))))
 as':x.τ a=some (.inst "Classes" dd ["bounds","numbers"] [.ref B,.ref N])
 sub:Sub σ x.τ
 nd:x.kn.Nodup
 cov:∀h,h∈x.kn↔∃b∈x.done,Mine.Internal.hold sets b=h
 kd:x.kn=DE sets x.done
 h0:x.done=[]->x.hold=0
 h1:∀b,x.done.getLast?=some b->x.hold=Mine.Internal.hold sets b
theorem BH{kn:List Nat}{h x:Nat}(hx:x∈kn): (kn++[h]).idxOf x=kn.idxOf x:=by exact ao uQ (ao (if_pos hx) rfl)
theorem EJ{kn:List Nat}{h:Nat}(hn:h∉kn): (j0 kn h).map (gE (upd (λx=>kn.idxOf x) h kn.length))=(kn++[h]).map (gE λx=>(kn++[h]).idxOf x):=by
 unfold j0;refine ao (if_neg hn) ?_;refine dA λx hx=>?_;show V.int (upd (λx=>kn.idxOf x) h kn.length x:Nat)=V.int ((kn++[h]).idxOf x:Nat);by_cases e:x=h
 ·clear hx;subst e;refine ao j8 ?_;refine ao uQ (ao (if_neg hn) ?_);simp
 ·exact ao (pA e) (ao (BH ((aI.mp hx).elim id λq=>absurd (aq.mp q) e)) rfl)
theorem Sub.no{σ τ:AH}(h:Sub σ τ){a:aY}(e:τ a=none):σ a=none:=by
 cases q:σ a with
 |none=>rfl
 |some m=>rw[h a m q]at e;clear q;exact n9 e
theorem E9{sets:List Sp}(h4:∀s∈sets,s∈S4){nl done bs:List Nat}{c x:Nat}(e:done++c::bs=nl)(hs:nl.Pairwise (· < ·))(hm:0∈nl)(h128:∀b∈nl,b<128)(ht:∀s∈sets,∀b∈tog s,b∈nl)
  (h0:done=[]->x=0) (h1:∀b,done.getLast?=some b->x=hold sets b):x ^^^ turn sets c=hold sets c:=by
 subst e;have hc:c<128:=h128 c (by exact aL _ (.head _));refine dk (z8 h4 hc) ?_;congr 1;unfold EO;rcases List.eq_nil_or_concat done with rfl|⟨l,b,e⟩
 ·refine ao (h0 rfl) ?_
  have:c=0:=by
   rcases a9.mp hm with q|q
   ·exact q.symm
   ·have:=(fX.mp hs).1 0 q;exact aN (ci (nat_lit 0x500aa58241) rfl this) (ci (nat_lit 0x145) rfl)
  exact ao (if_pos this) rfl
 ·rw[List.concat_eq_append]at e
  clear h128 hm h0;subst e;refine ao (h1 b (by simp)) ?_;have hbc:b<c:=(fw.mp hs).2.2 b (by exact aL _ (.head _)) c (by exact .head _);refine ao (if_neg (by exact λq0=>bt (nat_lit 0x5044158241) rfl hbc q0)) ?_;refine(tj h4 (c-1) (by exact b9 (nat_lit 0x20142b1486158241) rfl hbc (ar (bt (nat_lit 0xaca158241) rfl hbc))) (by exact bt (nat_lit 0x10135864502c321101358241) rfl hc (ar (bt (nat_lit 0xaca158241) rfl hbc))) λy hy1 hy2 s hs' hy=>?_).symm;have:=ht s hs' y hy;rcases aI.mp this with q|q
  ·rcases aI.mp q with q|q
   ·have:=(fw.mp (fw.mp hs).1).2.2 y q b (by exact .head _);exact bt (nat_lit 0xb0c82158241) rfl hy1 this
   ·rw[aq.mp q]at hy1;exact ci (nat_lit 0x58241) rfl hy1
  ·rcases a9.mp q with q|q
   ·exact b9 (nat_lit 0x9619084018401) rfl hy2 q (ar (bt (nat_lit 0xaca158241) rfl hbc))
   ·have:=(fX.mp (fw.mp hs).2.1).1 y q;exact b9 (nat_lit 0x25864202c5208401) rfl hy2 this (ar (bt (nat_lit 0xaca158241) rfl hbc))
theorem LC{sets:List Sp}(h4:∀s∈sets,s∈S4){nl kn:List Nat}(hs:nl.Pairwise (· < ·))(hm:0∈nl)(h128:∀b∈nl,b<128)(ht:∀s∈sets,∀b∈tog s,b∈nl)(hl:nl.length<=4)
  (nd:kn.Nodup) (cov:∀h,h∈kn↔∃b∈nl,hold sets b=h):tK sets nl (nl.map λb=>kn.idxOf (hold sets b)) kn.length where
 len:=by rw[ai]
 first:=by
  cases nl with
  |nil=>cases hm
  |cons a nl=>
   rcases a9.mp hm with q|q
   ·refine dk q ?_;rfl
   ·have:=(fX.mp hs).1 0 q;lia
 inc:=hs
 lt:=h128
 tog:=ht
 s4:=h4
 kn:=⟨kn,rfl,nd,λi b e=>by
  have hb:hold sets b∈kn:=(cov _).mpr ⟨b,aX e,rfl⟩;refine⟨_,by refine ao bb (ao e ?_);rfl,?_⟩;refine ao (ah (iz hb)) ?_;rewrite[jE];with_reducible rfl⟩
 full n hn:=by
  refine bJ ((cov _).mp (pu hn)) λb hb e=>?_;refine bG.mpr ⟨b,hb,?_⟩;refine ao e ?_;exact nd.idxOf_getElem n hn
 small:=hl
section
variable(hP:C.prog=PG)
include hP
theorem u6{sets:List Sp}(h4:∀s∈sets,s∈S4)(h8:sets.length<=1000)(q:∀bounds numbers count,tK sets bounds numbers count->LV sets bounds numbers count->Q (xJ bounds numbers count) σ):callN C (d+2) "Classes" [.list (sets.map tL)] σ Q:=by
 refine bU.mpr (c9.seal (mI (jy 10 rfl) rfl λa dd ha hd hne=>sY hP rfl ?_));intro T hT;have hTa:T≠a:=AH.ne hT (az ..);have hT0:=hT;rw[mkInst,ay _ _ hTa]at hT0;rw[ay _ _ (AH.ne hT0 (az ..))]at hT0;generalize hσ1:mkInst σ "Classes" a dd=σ1;have sub1:Sub σ σ1:=hσ1▸(Sub.refl.set hd _).set ha _;have a1:σ1 a=some (.inst "Classes" dd [] []):=hσ1▸az ..;clear hσ1 hT;refine jN rfl (by rw[ai];exact ci (nat_lit 0x1eb00bf44c01) rfl h8) (gU ?_);refine hC (α:=Pb) (n:=(sets.map tL).length) ?_ (λx=>[some (.ref a),some (.list (sets.map tL)),some (.ref T),x.o,x.p,x.q,none,none,none,none,none,none,none]) (λx=>σ1.set T (cV x.kl (gE x.f))) (λi x=>Tg sets i x.kl x.f []) (λi x hi hI w_ R hR=>?_) (λx hI=>?_) ⟨[0],λw_=>0,none,none,none⟩ Tg.init rfl rfl
 ·rw[ai];exact ci (nat_lit 0xf2cb048bf44c01) rfl h8
 ·intro En;rw[ai]at hi
  have es:sets[i]?=some sets[i]:=ah hi;generalize sets[i]=s at es;have s4:=h4 s (aX es);refine oW_of (mZ (v:=tL s) (by refine ao bb (ao es ?_);rfl) (by exact bt (nat_lit 0x1e59619140b0c83f44c01) rfl h8 hi)) ?_;refine j7 (β:=Nat×Nat) (α:=Pb) (λp=> .tup [.int (p.1:Nat),.int (p.2:Nat)]) (λx=>[some (.ref a),some (.list (sets.map tL)),some (.ref T),some (.int i),x.p,x.q,none,none,none,none,none,none,none]) (λx=>σ1.set T (cV x.kl (gE x.f)))
   (λbs x=>∃l,l++bs=s/\Tg sets i x.kl x.f (tog l)) ?_ (λp bs x hx w_ R' hR'=>?_) (λx hx=>?_) s ⟨x.kl,x.f,none,x.p,x.q⟩ ⟨[],rfl,hI⟩
  ·exact λw_ w_ w_=>bL
  ·intro En;refine bJ hx λl e hg=>?_;clear hx
   have nd: (tog l++((if p.2<127 then[p.1,p.2+1]else[p.1])++tog bs)).Nodup:=by
    have:=Nj s s4;rw[<- e,show l++p::bs=(l++[p])++bs by exact(by rw[aJ];rfl)]at this;rw[show tog ((l++[p])++bs)=tog (l++[p])++tog bs by simp[tog],xS,aJ]at this;exact this
   have n1:p.1∉tog l:=λh=>by
    have:=(c7.mp nd).2.2 p.1 h p.1 (by split<;>(exact .head _));exact this rfl
   refine iq (AC s s4 p (e▸by exact aL _ (.head _))) λt1 t2 t3 t4=>?_;have r4:∀c∈tog s,c∈ [0,97,98,99]:=λc hc=>by simpa using K7 s s4 c hc
   have g1:=hg.tick n1 (r4 _ t1) ⟨s,aX es,t1⟩;have len:=hg.len;refine LG (az ..) (hg.no _) (vo (by exact bt (nat_lit 0xf424025d619140b0c83f44c01) rfl h8 hi) (Dt ?_));refine KJ rfl hg.nd (by exact ci (nat_lit 0x62c02b801) rfl len) ?_;refine jV (λhlt=>?_) λhge=>?_
   ·have hlt:p.2<127:=ft.mp hlt
    rw[if_pos hlt]at nd;have n2:p.2+1∉tog l++[p.1]:=λh=>by
     rw[show tog l++([p.1,p.2+1]++tog bs)=(tog l++[p.1])++((p.2+1)::tog bs) by exact(by rw[aJ];rfl)]at nd;exact(c7.mp nd).2.2 _ h _ (by exact .head _) rfl
    have g2:=g1.tick n2 (r4 _ (t3 hlt)) ⟨s,aX es,t3 hlt⟩;have len':=g1.len;refine OQ (az ..) (eY ?_);refine L7 (k:=p.2+1) (az ..) (g1.no _) (vo (by exact bt (nat_lit 0xf424025d619140b0c83f44c01) rfl h8 hi) (Dt ?_));refine eY ?_;refine KJ (k:=p.2+1) rfl g1.nd (by exact ci (nat_lit 0x62c02b801) rfl len') ?_;refine hR' ⟨_,_,none,some (.int p.1),some (.int p.2)⟩ ⟨l++[p],by refine dk e ?_;exact aJ ..,?_⟩;rewrite[xS];refine ao (if_pos hlt) ?_;refine ao (show tog l++[p.1,p.2+1]=tog l++[p.1]++[p.2+1] by exact(by rw[aJ];rfl)) ?_;exact g2
   ·have hge:¬p.2<127:=λh=>hge (ft.mpr h)
    refine hR' ⟨_,_,none,some (.int p.1),some (.int p.2)⟩ ⟨l++[p],by refine dk e ?_;exact aJ ..,?_⟩;rewrite[xS];refine ao (if_neg hge) ?_;exact g1
  ·intro En;refine bJ hx λl e hg=>?_;clear hx
   rw[be]at e;clear s4;subst e;exact hR ⟨x.kl,x.f,some (.int i),x.p,x.q⟩ (hg.next es)
 ·intro En;rw[ai]at hI
  obtain⟨kl,f,xo,xp,xq⟩:=x;replace hI:Tg sets sets.length kl f []:=hI;have hf:∀c,f c=turn sets c:=λc=>by rewrite[hI.val];refine ao pg ?_;simp
  have has:∀s∈sets,∀c∈tog s,c∈kl:=by have:=hI.has;rwa [pg]at this
  have k4:=hI.len;generalize hσ2:σ1.set T (cV kl (gE f))=σ2;have sub2:Sub σ σ2:=hσ2▸sub1.set hT0 _;have a2:σ2 a=some (.inst "Classes" dd [] []):=hσ2▸(ay _ _ (aV hTa)).trans a1;have t2:σ2 T=some (cV kl (gE f)):=hσ2▸az ..;clear hσ2;refine cJ (bg _) λB hB=>?_;have Ba:=AH.ne hB a2;have BT:=AH.ne hB t2;refine d5 ((ay _ _ (aV Ba)).trans a2) rfl rfl (aj rfl) ?_;refine cJ (bg _) λN hN=>?_;generalize hσ3: (σ2.set B (.list [])).set a (.inst "Classes" dd (dB [] [] "bounds" (.ref B)).1 (dB [] [] "bounds" (.ref B)).2)=σ3 at hN;have sub3:Sub σ σ3:=hσ3▸(sub2.set (sub2.no hB) _).set ha _;have a3:σ3 a=some (.inst "Classes" dd ["bounds"] [.ref B]):=hσ3▸az ..;have b3:σ3 B=some (.list []):=hσ3▸(ay _ _ Ba).trans (az ..);have t3:σ3 T=some (cV kl (gE f)):=hσ3▸(ay _ _ hTa).trans ((ay _ _ (aV BT)).trans t2);clear hσ3;have Na:=AH.ne hN a3;have NT:=AH.ne hN t3;have NB:=AH.ne hN b3;refine d5 ((ay _ _ (aV Na)).trans a3) rfl rfl (aj rfl) ?_;intro K hK;generalize hσ4: (σ3.set N (.list [])).set a (.inst "Classes" dd (dB ["bounds"] [.ref B] "numbers" (.ref N)).1 (dB ["bounds"] [.ref B] "numbers" (.ref N)).2)=σ4 at hK;have sub4:Sub σ σ4:=hσ4▸(sub3.set (sub3.no hN) _).set ha _;have a4:σ4 a=some (.inst "Classes" dd ["bounds","numbers"] [.ref B,.ref N]):=hσ4▸az ..;have b4:σ4 B=some (.list []):=hσ4▸(ay _ _ Ba).trans ((ay _ _ (aV NB)).trans b3);have n4:σ4 N=some (.list []):=hσ4▸(ay _ _ Na).trans (az ..);have t4:σ4 T=some (cV kl (gE f)):=hσ4▸(ay _ _ hTa).trans ((ay _ _ (aV NT)).trans t3);clear hσ4;have Ka:=AH.ne hK a4;have KT:=AH.ne hK t4;have KB:=AH.ne hK b4;have KN:=AH.ne hK n4;generalize hσ5:σ4.set K (.dict [] [])=σ5;have inv:L3.Inv σ sets kl f [] T K B N a dd [] ⟨[],[],0,σ5,none⟩:=by
   subst hσ5;exact⟨rfl,(ay _ _ (aV KT)).trans t4,az ..,(ay _ _ (aV KB)).trans b4,(ay _ _ (aV KN)).trans n4,(ay _ _ (aV Ka)).trans a4,sub4.set (sub4.no hK) _,fW,λh=>⟨λq=>(nomatch q),λ⟨_,q,_⟩=>(nomatch q)⟩,rfl,λw_=>rfl,λb q=>(nomatch q)⟩
  clear hσ5;refine oW_of (jY inv.at') ⟨by rw[ai];exact ci (nat_lit 0x409ac122b801) rfl k4,λms hp hs=>?_⟩;clear t4 n4 b4 a4 t3 b3 a3 t2 a2 a1 hT0 hTa hne hP;refine d4 (BI hp hs) ?_;rintro nl rfl np ns;have nl4:nl.length<=4:=np.length_eq▸k4;have ns:nl.Pairwise (· < ·):=(ns.and (np.nodup_iff.mpr hI.nd)).imp λh=>nn h.1 h.2;refine d6 (by simp;exact ci (nat_lit 0x62c02b801) rfl nl4) ?_;have r128:∀b∈nl,b<128:=λb hb=>by
   have:=hI.r4 b (np.mem_iff.mp hb);simp only[a9,dN,or_false]at this;exact this.elim (λq0=>ci (nat_lit 0x809ac122a802) rfl q0) (λq0=>q0.elim (λq1=>ci (nat_lit 0x2026b048a30cc02) rfl q1) (λq1=>q1.elim (λq2=>ci (nat_lit 0x2026b048a314c02) rfl q2) (λq2=>ci (nat_lit 0x2026b048a31cc02) rfl q2)))
  have rt:∀s∈sets,∀b∈tog s,b∈nl:=λs hs b hb=>np.mem_iff.mpr (has s hs b hb);have z0:0∈nl:=np.mem_iff.mpr hI.z;refine ao dE ?_;have knl:∀{bs} (x:L3),L3.Inv σ sets kl f nl T K B N a dd bs x->x.kn.length<=4:=λx hx=>by
   have h1:=gI (l':=x.done.map (hold sets)) hx.nd λh hh=>by
    refine bJ ((hx.cov h).mp hh) λb hb e=>?_;exact bG.mpr ⟨b,hb,e⟩
   have h2:=congrArg dW hx.e;rw[ai]at h1;rw[aC]at h2;exact ir (nat_lit 0x1c128062908410b801) rfl nl4 h1 h2
  refine j7 (β:=Nat) (α:=L3) (λc=> .int (c:Nat)) (λx=>[some (.ref a),some (.list (sets.map tL)),some (.ref T),xo,xp,xq,some (.ref K),some (.int (x.hold:Nat)),x.o,none,none,none,none]) (λx=>x.τ)
   (λbs x=>L3.Inv σ sets kl f nl T K B N a dd bs x) ?_ (λc bs x hx w_ R hR=>?_) (λx hx=>?_) nl ⟨[],[],0,σ5,none⟩ {inv with e:=rfl}
  ·exact λw_ w_ w_=>bL
  ·intro En;have hck:c∈kl:=np.mem_iff.mp (hx.e▸by exact aL _ (.head _))
   refine oW_of (qH hx.at' hck) (Dt ?_);refine ao (hf c) (ao (E9 h4 hx.e ns z0 r128 rt hx.h0 hx.h1) ?_);have dlen:x.done.length<4:=by
    have:=congrArg dW hx.e;simp only[aC,bv]at this;exact b9 (nat_lit 0x39619140b1483213801) rfl nl4 this
   have fin:∀(KK:dy) (τ:AH) (kn':List Nat),(∀e τ,R e τ->KK .next e τ)->(∀z,z∈kn'↔z∈x.kn\/z=hold sets c)->kn'.Nodup->(∀z∈x.kn,kn'.idxOf z=x.kn.idxOf z)->kn'=j0 x.kn (hold sets c)->τ K=some (cV kn' (gE λh=>kn'.idxOf h))->τ B=x.τ B->τ N=x.τ N->τ a=x.τ a->τ T=x.τ T->Sub σ τ->
     wpSs C d [] [.expr (.mcall (.attr (.loc 0) "bounds") "append" [.loc 8]),.expr (.mcall (.attr (.loc 0) "numbers") "append" [.sub (.loc 6) (.loc 7)])] [some (.ref a),some (.list (sets.map tL)),some (.ref T),xo,xp,xq,some (.ref K),some (.int (hold sets c:Nat)),some (.int (c:Nat)),none,none,none,none] τ KK:=by
    intro KK τ kn' hKK m1 m2 m3 m4 τK τB τN τa τT sb;refine oW_of (cF (τa.trans hx.as') rfl) ?_;refine fH (τB.trans hx.ab) (by simp;exact ci (nat_lit 0x18b00ae58241) rfl dlen) ?_;refine oW_of (cF ((ay _ _ (aV Ba)).trans (τa.trans hx.as')) rfl) ?_;refine AI ((ay _ _ NB).trans (τN.trans hx.an)) ?_;refine oW_of (qH (k:=hold sets c) ((ay _ _ KB).trans τK) ((m1 _).mpr (.inr rfl))) ?_;refine j4 ((ay _ _ NB).trans (τN.trans hx.an)) (by simp;exact ci (nat_lit 0x18b00ae58241) rfl dlen) ?_;refine hKK _ _ (hR ⟨x.done++[c],kn',hold sets c,_,some (.int c)⟩ ?_);refine⟨by refine dk hx.e ?_;exact aJ ..,(ay _ _ (aV NT)).trans ((ay _ _ (aV BT)).trans (τT.trans hx.at')),(ay _ _ KN).trans ((ay _ _ KB).trans τK),(ay _ _ (aV NB)).trans ((az ..).trans (by rw[iR])),(az ..).trans ?_,
     (ay _ _ (aV Na)).trans ((ay _ _ (aV Ba)).trans (τa.trans hx.as')),(sb.set (sub2.no hB) _).set (sub3.no hN) _,m2,λh=>?_,by show kn'=DE sets (x.done++[c]);rewrite[F8];refine dk hx.kd ?_;exact m4,λq=>by simp at q,λb q=>by simp at q;exact ao q rfl⟩
    ·have eN:x.done.map (λb=>x.kn.idxOf (hold sets b))=x.done.map (λb=>kn'.idxOf (hold sets b)):=dA λb hb=>(m3 _ ((hx.cov _).mpr ⟨b,hb,rfl⟩)).symm
     show some (fM.list (cP _++[V.int (kn'.idxOf (hold sets c):Nat)]))=some (fM.list (cP ((x.done++[c]).map λb=>kn'.idxOf (hold sets b))));rewrite[iR];refine ao eN ?_;refine ao bw ?_;rfl
    ·rw[m1,hx.cov]
     constructor
     ·rintro(⟨b,hb,e⟩|e)
      ·exact⟨b,bh _ hb,e⟩
      ·exact⟨c,by exact aL _ (.head _),e.symm⟩
     ·rintro⟨b,hb,e⟩
      rcases aI.mp hb with q|q
      ·exact .inl ⟨b,q,e⟩
      ·rw[aq.mp q]at e;exact .inr e.symm
   refine oW_of (congrArg (fV (!·)) (ux (k:=hold sets c) hx.ak)) (y8 (λhn=>?_) λhn=>?_)
   ·have hn':hold sets c∉x.kn:=by simpa using hn
    refine Gl hx.ak (by have:=knl x hx;exact ci (nat_lit 0x7ac02b801) rfl this) ?_;refine kZ hx.ak hx.nd (by have:=knl x hx;exact ci (nat_lit 0x62c02b801) rfl this) ?_;have ed:cV (j0 x.kn (hold sets c)) (upd (gE λh=>x.kn.idxOf h) (hold sets c) (.int (x.kn.length:Nat)))=cV (x.kn++[hold sets c]) (gE λh=>(x.kn++[hold sets c]).idxOf h):=by
     refine ao xl ?_;unfold cV;refine ao (EJ hn') ?_;unfold j0;exact ao (if_neg hn') rfl
    refine ao ed ?_;refine fin _ _ (x.kn++[hold sets c]) (λw_ w_ h=>h) (λz=>by exact aI.trans (or_congr_right aq)) (c7.mpr ⟨hx.nd,by exact cb _ _,λy hy b hb e=>hn' (by rw[aq.mp hb]at e;refine dk e ?_;exact hy)⟩) (λz hz=>BH hz) (by unfold j0;exact ao (if_neg hn') rfl) (az ..) (ay _ _ (aV KB)) (ay _ _ (aV KN)) (ay _ _ (aV Ka)) (ay _ _ (aV KT)) (hx.sub.set (sub4.no hK) _)
   ·have hn':hold sets c∈x.kn:=by simpa using hn
    exact fin _ x.τ x.kn (λw_ w_ h=>h) (λz=>⟨.inl,λh=>h.elim id λe=>e▸hn'⟩) hx.nd (λw_ w_=>rfl) (by unfold j0;exact ao (if_pos hn') rfl) hx.ak rfl rfl rfl rfl hx.sub
  ·intro En;have e:=hx.e
   rw[be]at e;refine Gl hx.ak (by have:=knl x hx;exact ci (nat_lit 0x7ac02b801) rfl this) ?_;refine d5 hx.as' rfl rfl (aj rfl) ?_;refine⟨rfl,xJ nl (nl.map λb=>x.kn.idxOf (hold sets b)) x.kn.length,hx.sub.set ha _,.inr ⟨a,dd,[.ref B,.ref N,.int x.kn.length],rfl,ha,hd,az ..,?_⟩,q _ _ _ (LC h4 ns z0 r128 rt nl4 hx.nd λh=>by rewrite[hx.cov];refine ao e ?_;with_reducible rfl) ⟨λc=>⟨λh=>hI.onl c (np.mem_iff.mp h),λh=>h.elim (λh=>h▸z0) λ⟨s,hs,h⟩=>rt s hs c h⟩,ns,by exact ao hx.kd (ao e rfl),by exact ao hx.kd (ao e rfl)⟩⟩;refine⟨_,_,rfl,.inr ⟨B,_,rfl,sub2.no hB,(ay _ _ Ba).trans (hx.ab.trans (by exact ao e rfl)),tI.refl⟩,_,_,rfl,.inr ⟨N,_,rfl,sub3.no hN,(ay _ _ Na).trans (hx.an.trans (by exact ao e rfl)),tI.refl⟩,tI.refl⟩
end
noncomputable def xj:IS->List IS
 | .fors _ _ b=>b
 |_=>[]
structure MB where
 w:Nat
 b:Nat
 place:Nat
 o:Option V
 p:Option V
 q:Option V
structure MB.Inv(s:Sp)(bounds numbers:List Nat)(i:Nat)(x:MB):Prop where
 w:∀n,x.w.testBit n=true↔∃j b,j<i/\numbers[j]?=some n/\bounds[j]?=some b/\qC s b=true
 b:∀n,x.b.testBit n=true↔∃j b,j<i/\numbers[j]?=some n/\bounds[j]?=some b/\qC s b=false
 pl:x.place<=s.length
 past:∀p∈s.take x.place,∀j b,i<=j->bounds[j]?=some b->p.2<b
theorem Em{s:Sp}{c:Nat}:qC s c=true↔∃p∈s,p.1<=c/\c<=p.2:=by simp[qC]
section
variable{sets:List Sp}{bounds numbers:List Nat}{count:Nat}
theorem tK.span(h:tK sets bounds numbers count){s:Sp}(hs:s∈sets){i lo:Nat}(hi:bounds[i]?=some lo){p:Nat×Nat}(hp:p∈s)(h1:p.1<=iK bounds i)(h2:lo<=p.2):p.1<=lo/\iK bounds i<=p.2:=by
 refine eX (h.high hi) λa b c=>?_;refine iq (AC s (h.s4 s hs) p hp) λt1 t2 t3 t4=>?_;refine⟨gM λq=>c p.1 q h1 (h.tog s hs _ t1),gM λq=>c (p.2+1) (by exact bt (nat_lit 0x16192c1228401) rfl h2) q (h.tog s hs _ (t3 (by exact bt (nat_lit 0xff35864502c320901358241) rfl b q)))⟩
theorem Fu(h:tK sets bounds numbers count){s:Sp}(hs:s∈sets){x:MB}(I:MB.Inv s bounds numbers bounds.length x):x.w &&& x.b=0/\∀n,x.w.testBit n=true↔n<count/\qC s (least bounds numbers n)=true:=by
 constructor
 ·apply cK
  intro n;rw[jt,oZ];rw[d9];intro q;rw[bD,I.w,I.b]at q;obtain⟨⟨j,b,_,n1,b1,c1⟩,j',b',_,n2,b2,c2⟩:=q;rw[At (h.same b1 b2 n1 n2) hs,c2]at c1;exact mj c1
 ·intro n
  rw[I.w];constructor
  ·rintro⟨j,b,_,n1,b1,c1⟩
   have nl:=h.num_lt n1;refine d4 (h.least_at nl) ?_;intro j' _ n2 b2;exact⟨nl,by refine dk (At (h.same b1 b2 n1 n2) hs) ?_;exact c1⟩
  ·rintro⟨nl,c⟩
   refine d4 (h.least_at nl) ?_;intro j _ n2 b2;exact⟨j,_,(aE.mp b2).1,n2,b2,c⟩
end
theorem Dg{x n m:Nat}: (x|||1 <<< n).testBit m=true↔x.testBit m=true\/n=m:=by
 rewrite[dH];rewrite[nR];refine ao mf ?_;rewrite[fE];refine ao decide_eq_true_eq ?_;with_reducible rfl
theorem xc{s:Sp}{bounds numbers:List Nat}{i n lo m:Nat}{v:Bool}(en:numbers[i]?=some n)(ei:bounds[i]?=some lo):
  (∃j b,j<i+1/\numbers[j]?=some m/\bounds[j]?=some b/\qC s b=v)↔(∃j b,j<i/\numbers[j]?=some m/\bounds[j]?=some b/\qC s b=v)\/(n=m/\qC s lo=v):=by
 constructor
 ·rintro⟨j,b,hj,e1,e2,e3⟩
  rcases dJ (dX hj)with h|rfl
  ·exact .inl ⟨j,b,h,e1,e2,e3⟩
  ·rw[en]at e1;replace e1:=ac e1;subst e1
   rw[ei]at e2;replace e2:=ac e2;subst e2;exact .inr ⟨rfl,e3⟩
 ·rintro(⟨j,b,hj,e⟩|⟨rfl,e⟩)
  ·exact⟨j,b,cM hj,e⟩
  ·exact⟨i,lo,bR _,en,ei,e⟩
section
variable{sets:List Sp}{bounds numbers:List Nat}{count:Nat}(hP:C.prog=PG)
theorem yC{l:List Nat}{i n:Nat}(h:l[i]?=some n)(hi:i<1152921504606846976):oT σ (.list (cP l)) (.int i)=some (.int n):=mZ (by refine ao bb (ao h ?_);rfl) hi
theorem Jy{vs:List V}{i:Nat}{v:V}(e:vs[i]?=some v)(hi:i<1152921504606846976):oT σ (.tup vs) (.int i)=some v:=by
 delta oT;dsimp only;refine ao (show kq σ (.tup vs)=some vs from rfl) ?_;dsimp only;refine ao (A8 hi) ?_;exact e
theorem xi{s:Sp}{i:Nat}{p:Nat×Nat}(h:s[i]?=some p)(hi:i<1152921504606846976):oT σ (xn s) (.int i)=some (.tup [.int (p.1:Nat),.int (p.2:Nat)]):=Jy (by refine ao bb (ao h ?_);rfl) hi
theorem HH{l:List Nat}(hn:l.length<=1073741824)(q:Q (.int l.length) σ):callN C d "len" [.list (cP l)] σ Q:=jN (by show some (cP l).length=_;rw[ai]) hn q
theorem HP{s:Sp}(hn:s.length<=1073741824)(q:Q (.int s.length) σ):callN C d "len" [xn s] σ Q:=jN (by show some (dW (s.map _))=_;rw[ai]) hn q
include hP
theorem La(h:tK sets bounds numbers count){s:Sp}(hs:s∈sets)(q:∀m:Nat,(∀n,m.testBit n=true↔n<count/\qC s (least bounds numbers n)=true)->Q (.int m) σ):callN C (d+1) "Classes.mask" [xJ bounds numbers count,tL s] σ Q:=by
 refine dF (xC hP rfl ?_);have sl:=Gi s (h.s4 s hs);have bl:=h.small;refine HH (by exact ci (nat_lit 0x7ac02b801) rfl bl) (gU ?_);refine hC (α:=MB) (n:=bounds.length) (by exact ci (nat_lit 0x3cb2c122b801) rfl bl) (λx=>[some (xJ bounds numbers count),some (tL s),some (.int (x.w:Nat)),some (.int (x.b:Nat)),some (xn s),some (.int (x.place:Nat)),x.o,x.p,x.q,none,none,none,none]) (λx=>σ) (λi x=>MB.Inv s bounds numbers i x) (λi x hi hI w_ R hR=>?_) (λx hI=>?_) ⟨0,0,0,none,none,none⟩ ?_ rfl rfl
 ·intro En;have ei:bounds[i]?=some bounds[i]:=ah hi
  generalize bounds[i]=lo at ei;obtain⟨n,en⟩:∃n,numbers[i]?=some n:=⟨_,ah (by refine ao h.len ?_;exact hi)⟩;have nsm:n<4:=by
   obtain⟨kn,k1,k2,k3⟩:=h.kn;have h1:=h.num_lt en;have h2:=gI (l:=bN count) (l':=numbers) pt λm hm=>h.full m (du.mp hm);rw[b7,h.len]at h2;exact b9 (nat_lit 0x72c322804112c320b801) rfl bl h1 h2
  refine oW_of (yC ei (by exact bt (nat_lit 0x7965864502c320b801) rfl bl hi)) ?_;have fin:∀KK:dy,(∀e τ,R e τ->KK .next e τ)->wpSs C d [] ((xj (lO.body.getD 4 .stuck)).drop 3) [some (xJ bounds numbers count),some (tL s),some (.int (x.w:Nat)),some (.int (x.b:Nat)),some (xn s),some (.int (x.place:Nat)),some (.int i),some (.int (lo:Nat)),some (.int (iK bounds i:Nat)),none,none,none,none] σ KK:=by
   intro KK hKK;refine iJ (α:=Nat) (λp=>s.length-p) (λp=>[some (xJ bounds numbers count),some (tL s),some (.int (x.w:Nat)),some (.int (x.b:Nat)),some (xn s),some (.int (p:Nat)),some (.int i),some (.int (lo:Nat)),some (.int (iK bounds i:Nat)),none,none,none,none]) (λw_=>σ) (λp=>p<=s.length/\∀z∈s.take p,z.2<lo) (λp hp R' hR'=>?_) x.place ⟨hI.pl,λz hz=>hI.past z hz i lo (aG _) ei⟩;intro En;obtain⟨pl,past⟩:=hp;have last: (∀z,s[p]?=some z->lo<=z.2)->wpSs C d [] ((xj (lO.body.getD 4 .stuck)).drop 4) [some (xJ bounds numbers count),some (tL s),some (.int (x.w:Nat)),some (.int (x.b:Nat)),some (xn s),some (.int (p:Nat)),some (.int i),some (.int (lo:Nat)),some (.int (iK bounds i:Nat)),none,none,none,none] σ KK:=by
    intro hlo;have later:∀j b,i+1<=j->bounds[j]?=some b->lo<b:=λj b hj ej=>by
     obtain⟨l1,e1⟩:=aE.mp ei;obtain⟨l2,e2⟩:=aE.mp ej;have:=iZ.mp h.inc i j l1 l2 (by exact bt (nat_lit 0x2b048a158241) rfl hj);rw[e1,e2]at this;exact this
    have no: (∀z∈s.drop p,lo<z.1)->wpSs C d [] [.assign (.nm 3) (.bin .BitOr (.loc 3) (.bin .LShift (.int 1) (.sub (.attr (.loc 0) "numbers") (.loc 6))))] [some (xJ bounds numbers count),some (tL s),some (.int (x.w:Nat)),some (.int (x.b:Nat)),some (xn s),some (.int (p:Nat)),some (.int i),some (.int (lo:Nat)),some (.int (iK bounds i:Nat)),none,none,none,none] σ KK:=by
     intro hd;have nin:qC s lo=false:=d9.mpr λq=>by
      refine d4 (Em.mp q) λz hz z1 z2=>?_;rw[<- ku p s]at hz;rcases aI.mp hz with q|q
      ·have:=past z q;exact bt (nat_lit 0x2c3208401) rfl z2 this
      ·have:=hd z q;exact bt (nat_lit 0x2c3208401) rfl z1 this
     refine oW_of (yC en (by exact bt (nat_lit 0x7965864502c320b801) rfl bl hi)) (vo (by exact ci (nat_lit 0x7a12012eb048ae58241) rfl nsm) (ut (hKK _ _ (hR ⟨x.w,x.b|||1 <<< n,p,_,_,_⟩ ⟨λm=>?_,λm=>?_,pl,λz hz j b hj ej=>?_⟩))))
     ·rewrite[xc en ei];rewrite[hI.w];refine ao nin ?_;simp
     ·rewrite[xc en ei];rewrite[Dg];rewrite[hI.b];refine ao nin ?_;simp
     ·exact uP (past z hz) (later j b hj ej)
    refine HP (by exact ci (nat_lit 0x7ac02b001) rfl sl) (jV (λhlt=>?_) λhge=>?_)
    ·have hlt:p<s.length:=by lia
     obtain⟨z,ez⟩:∃z,s[p]?=some z:=⟨_,ah hlt⟩;refine oW_of (xi ez (by exact bt (nat_lit 0x1e5961914010b001) rfl sl pl)) ?_;refine jV (λh1=>?_) λh1=>?_
     ·refine oW_of (xi ez (by exact bt (nat_lit 0x1e5961914010b001) rfl sl pl)) ?_
      obtain⟨b1,b2⟩:=h.span hs ei (aX ez) (mC.mp h1) (hlo z ez);have yin:qC s lo=true:=Em.mpr ⟨z,aX ez,b1,hlo z ez⟩;refine CI (λw_=>?_) λq=>absurd q (by lia);refine oW_of (xi ez (by exact bt (nat_lit 0x1e5961914010b001) rfl sl pl)) ?_;refine fj (by lia) ?_;refine oW_of (yC en (by exact bt (nat_lit 0x7965864502c320b801) rfl bl hi)) (vo (by exact ci (nat_lit 0x7a12012eb048ae58241) rfl nsm) (ut (hKK _ _ (hR ⟨x.w|||1 <<< n,x.b,p,_,_,_⟩ ⟨λm=>?_,λm=>?_,pl,λz hz j b hj ej=>?_⟩))))
      ·rewrite[xc en ei];rewrite[Dg];rewrite[hI.w];refine ao yin ?_;simp
      ·rewrite[xc en ei];rewrite[hI.b];refine ao yin ?_;simp
      ·exact uP (past z hz) (later j b hj ej)
     ·refine no λy hy=>?_
      have hz:lo<z.1:=jA (h.high ei).1 (by lia);rw[cc hlt]at hy;have eg:s[p]=z:=by rw[ah hlt]at ez;exact ac ez
      have so:=Fe s (h.s4 s hs);rw[<- ku p s,cc hlt,eg]at so;rw[eg]at hy;rcases a9.mp hy with rfl|q
      ·exact hz
      ·have:=(fX.mp (fw.mp so).2.1).1 y q;exact b9 (nat_lit 0x2582451042158241) rfl hz this
    ·exact fj hge (no λy hy=>by rw[List.drop_eq_nil_of_le (by lia)]at hy;cases hy)
   refine HP (by exact ci (nat_lit 0x7ac02b001) rfl sl) (jV (λhlt=>?_) λhge=>?_)
   ·have hlt:p<s.length:=by lia
    obtain⟨z,ez⟩:∃z,s[p]?=some z:=⟨_,ah hlt⟩;refine oW_of (xi ez (by exact bt (nat_lit 0x1e5961914010b001) rfl sl pl)) ?_;refine jV (λh2=>?_) λh2=>?_
    ·refine eY (hR' (p+1) (by exact ir (nat_lit 0x358245104721896190242) rfl (ar (bt (nat_lit 0x2b048a158241) rfl hlt)) (ar (bt (nat_lit 0x2028401) rfl pl))) ⟨hlt,λy hy=>?_⟩)
     rw[ki,ez]at hy;rcases aI.mp hy with q|q
     ·exact past y q
     ·refine ao (aq.mp q) ?_;exact ft.mp h2
    ·exact last λy ey=>by rw[ez]at ey;replace ey:=ac ey;subst ey;lia
   ·exact fj hge (last λy ey=>by have:=(aE.mp ey).1;lia)
  refine eY (HH (by exact ci (nat_lit 0x7ac02b801) rfl bl) (jV (λhlt=>?_) λhge=>?_))
  ·have hlt:i+1<bounds.length:=by lia
   have eh:bounds[i+1]?=some bounds[i+1]:=ah hlt;have hp:0<bounds[i+1]:=jA (bg _) (iZ.mp h.inc i (i+1) hi hlt (bR i));have hh:iK bounds i=bounds[i+1]-1:=by unfold iK;exact ao eh rfl
   generalize bounds[i+1]=b' at*;refine eY ?_;refine oW_of (yC (i:=i+1) eh (by exact bt (nat_lit 0x1e596b0ca4502c320b801) rfl bl hi)) (tv ?_);rw[hh,show((b'-1:Nat):Int)=(b':Int)-1 by lia]at fin;exact fin _ λw_ w_ h=>h
  ·have hh:iK bounds i=127:=by unfold iK;exact ao (cq (by lia)) rfl
   rw[hh]at fin;exact fin _ λw_ w_ h=>h
 ·intro En;obtain⟨z,t⟩:=Fu h hs hI
  refine uV ?_;refine ao z ?_;exact fj (by decide) (q _ t)
 ·exact⟨λn=>by simp,λn=>by simp,bg _,λp hp=>by clear sl q hs;cases hp⟩
end
theorem D6{n:Nat}:∀l:List Nat,(l.map vc).idxOf (n:Int)=l.idxOf n
 |[]=>rfl
 |a::l=>by
  refine ao bC (ao w8 (ao w8 (ao (D6 l) ?_)));have: (vc a==(n:Int))=(a==n):=by
   rw[g8];simp only[beq_iff_eq];exact⟨λh=>cQ h,λh=>h▸rfl⟩
  exact ao this rfl
theorem xT(l:List Nat):cP l=(l.map vc).map V.int:=by refine ao dE ?_;rfl
theorem G0(l:List Nat):CX ⟨#[]⟩ (l.map λc=>(⟨#[c]⟩:Str))=⟨l.toArray⟩:=by
 have e:∀a b:Str,(a++b).cps.toList=a.cps.toList++b.cps.toList:=λa b=>Array.toList_append;show PySem.Builtin.Str.glued ⟨#[]⟩ _=_;rw[StrLaws.glued_eq_join];have key:∀l:List Nat,(CZ ⟨#[]⟩ (l.map λc=>(⟨#[c]⟩:Str))).cps.toList=l:=λl=>by
  induction l with
  |nil=>rfl
  |cons c l ih=>
   cases l with
   |nil=>rfl
   |cons c' l=>
    show(_++_++CZ ⟨#[]⟩ ((c'::l).map λc=>(⟨#[c]⟩:Str)):Str).cps.toList=_;rewrite[e];rewrite[e];refine ao ih ?_;rfl
 generalize hx:CZ ⟨#[]⟩ (l.map λc=>(⟨#[c]⟩:Str))=x;have k:=key l;rw[hx]at k;cases x with
 |mk cps=>exact dk k rfl
section
variable{sets:List Sp}{bounds numbers:List Nat}{count:Nat}(hP:C.prog=PG)
include hP
theorem JS(h:tK sets bounds numbers count){n:Nat}(hn:n<count)(q:Q (.int (least bounds numbers n:Nat)) σ):callN C (d+1) "Classes.least" [xJ bounds numbers count,.int n] σ Q:=by
 refine d4 (h.least_at hn) λi ei e1 e2=>?_;have hs:=h.small;have hl:=h.len;refine dF (wF hP rfl ?_);refine mW_of (q:=("list.index",true)) rfl (bU.mpr (JM (ns:=numbers.map vc) (by rw[<- xT];rfl) (bG.mpr ⟨n,h.full n hn,rfl⟩) (by rw[ai];exact bt (nat_lit 0x3160940113801) rfl hs hl) ?_));rewrite[D6];refine ao ei ?_;have il:=(aE.mp e2).1;exact oW_of (yC e2 (by exact bt (nat_lit 0x7965864502c320b801) rfl hs il)) q
theorem EQ(h:tK sets bounds numbers count){n:Nat}(hn:n<count){K:V->AH->Prop}(q:K (.int (least bounds numbers n:Nat)) σ):mW σ (xJ bounds numbers count) "least" λq=>callN C (d+1) q.1 (iY q.2 (xJ bounds numbers count) [.int n]) σ K:=
 mW_of (q:=("Classes.least",true)) rfl (JS hP h hn q)
theorem Mb(h:tK sets bounds numbers count){w:List Nat}(hw:∀n∈w,n<count)(hl:w.length<=16777216)(q:Q (.str ⟨(w.map (least bounds numbers)).toArray⟩) σ):callN C (d+2) "Classes.text" [xJ bounds numbers count,.list (cP w)] σ Q:=by
 refine dF (xP hP rfl ?_);refine mW_of (q:=("str.join",true)) rfl ?_;refine jM (β:=Nat) (enc:=λn=> .int (n:Nat)) (f:=λn=> .str ⟨#[least bounds numbers n]⟩) (E:=λv=>[none,some v,none,some (xJ bounds numbers count)]) ?_ (λw_ w_=>rfl) w [] _ (λw_=>rfl) (by simpa using hl) (λn hn K k=>EQ hP h (hw n hn) ?_) ?_
 ·exact bL
 ·have:=h.least_lt (hw n hn)
  exact Kq (by lia) (by lia) k
 ·refine d6 (by exact(ai ..).symm▸(hl)) ?_
  refine bU.mpr (LA (y:=⟨#[]⟩) (ys:=(w.map (least bounds numbers)).map λc=>⟨#[c]⟩) (by simp only[dE,jx];rfl) ?_ ?_)
  ·have e: (((w.map (least bounds numbers)).map λc=>(⟨#[c]⟩:Str)).map (·.length)).sum=w.length:=by
    refine ao dE (ao dE ?_);generalize w=w
    induction w with
    |nil=>rfl
    |cons a w ih=>refine ao bC (ao kW (ao ih ?_));show 1+_=_;refine ao bv ?_;exact aN (ci (nat_lit 0x2c1202e45) rfl) (ci (nat_lit 0x17258245) rfl)
   refine ao e ?_;show w.length+_*0<=_;exact bt (nat_lit 0x31608015048a0c5801) rfl hl
  ·rw[G0];exact q
end
noncomputable def wV(p:Nat×Nat):V:= .tup [.int (p.1:Nat),.int (p.2:Nat)]
structure NA where
 A:aY
 D:aY
 M:aY
 H:aY
 T:aY
structure dq(N:NA)(first:Nat)(kl:List Nat)(tg:Nat->V)(τ:AH)(ms hs:List aY)(G:Gr):Prop where
 aA:τ N.A=some (.inst "Nfa" N.D ["moves","hops","tags","first"] [.ref N.M,.ref N.H,.ref N.T,.int (first:Nat)])
 aM:τ N.M=some (.list (ms.map .ref))
 aH:τ N.H=some (.list (hs.map .ref))
 aT:τ N.T=some (cV kl tg)
 lm:ms.length=G.mv.length
 lh:hs.length=G.hp.length
 ok:G.Ok
 rm:∀i a,ms[i]?=some a->τ a=some (.list ((G.mo i).map wV))
 rh:∀i a,hs[i]?=some a->τ a=some (.list (cP (G.ho i)))
 nd: (N.M::N.H:: (ms++hs)).Nodup
noncomputable def NA.all(N:NA)(ms hs:List aY):List aY:=N.A::N.T::N.M::N.H:: (ms++hs)
structure gO(N:NA)(τ τ':AH)(ms hs ms' hs':List aY):Prop where
 keep:∀a m,τ a=some m->a∉N.all ms hs->τ' a=some m
 new:∀a∈N.all ms' hs',a∈N.all ms hs\/τ a=none
 has:∀a m,τ a=some m->∃m',τ' a=some m'
section
variable{N:NA}{first:Nat}{kl:List Nat}{tg:Nat->V}{τ τ' τ'':AH}{ms hs ms' hs' ms'' hs'':List aY}{G:Gr}
theorem gO.refl:gO N τ τ ms hs ms hs:=⟨λw_ w_ h w_=>h,λw_ h=> .inl h,λa m h=>⟨m,h⟩⟩
theorem gO.trans(h:gO N τ τ' ms hs ms' hs')(h':gO N τ' τ'' ms' hs' ms'' hs''):gO N τ τ'' ms hs ms'' hs'' where
 keep a m e n:=h'.keep a m (h.keep a m e n) λq=>(h.new a q).elim n λz=>by rw[e]at z;exact n9 z
 new a q:=(h'.new a q).elim (h.new a) λz=>by
  cases e:τ a with
  |none=>exact .inr rfl
  |some m=>obtain⟨m',e'⟩:=h.has a m e;rw[z]at e';exact bx e'
 has a m e:=let⟨m',e'⟩:=h.has a m e;h'.has a m' e'
theorem gO.set{a:aY}{m:fM}(h:gO N τ τ' ms hs ms' hs')(ha:a∈N.all ms hs\/τ a=none):gO N τ (τ'.set a m) ms hs ms' hs' where
 keep b n e q:=by
  rw[ay]
  ·exact h.keep b n e q
  ·rintro rfl;rcases ha with ha|ha
   ·exact q ha
   ·rw[e]at ha;clear e;exact n9 ha
 new:=h.new
 has b n e:=by
  by_cases q:b=a
  ·exact⟨m,q▸az ..⟩
  ·refine ao (ay _ _ q) ?_;exact h.has b n e
theorem dq.live(h:dq N first kl tg τ ms hs G){a:aY}(ha:a∈N.all ms hs):∃m,τ a=some m:=by
 simp only[NA.all,a9,aI]at ha;rcases ha with rfl|rfl|rfl|rfl|ha|ha
 ·exact⟨_,h.aA⟩
 ·exact⟨_,h.aT⟩
 ·exact⟨_,h.aM⟩
 ·exact⟨_,h.aH⟩
 ·obtain⟨i,hi⟩:=ky.mp ha;exact⟨_,h.rm i a hi⟩
 ·obtain⟨i,hi⟩:=ky.mp ha;exact⟨_,h.rh i a hi⟩
theorem dq.frame(h:dq N first kl tg τ ms hs G)(k:∀a m,τ a=some m->a∈N.all ms hs->τ' a=some m):dq N first kl tg τ' ms hs G where
 aA:=k _ _ h.aA (by simp[NA.all])
 aM:=k _ _ h.aM (by simp[NA.all])
 aH:=k _ _ h.aH (by simp[NA.all])
 aT:=k _ _ h.aT (by simp[NA.all])
 lm:=h.lm
 lh:=h.lh
 ok:=h.ok
 rm i a e:=k _ _ (h.rm i a e) (by have:=aX e;simp[NA.all,this])
 rh i a e:=k _ _ (h.rh i a e) (by have:=aX e;simp[NA.all,this])
 nd:=h.nd
theorem dq.put(h:dq N first kl tg τ ms hs G){a:aY}{m:fM}(ha:a∉N.all ms hs):dq N first kl tg (τ.set a m) ms hs G:=
 h.frame λb n e q=>(ay _ _ λz:b=a=>ha (z▸q)).trans e
theorem dq.fresh(h:dq N first kl tg τ ms hs G){a:aY}(ha:τ a=none):a∉N.all ms hs:=λq=>by obtain⟨m,e⟩:=h.live q;rw[ha]at e;exact bx e
theorem IK(G:Gr)(q:Nat): (Gr.addState G).mo q=G.mo q:=Gr.mo_state
theorem mT{α:Type}{l:List α}{x y:α}{i:Nat}(h: (l++[x])[i]?=some y):l[i]?=some y\/(i=l.length/\y=x):=by
 rcases iy i l.length with q|q|q
 ·rw[cI q]at h;exact .inl h
 ·subst q;rw[iB]at h;replace h:=ac h;subst h;exact .inr ⟨rfl,rfl⟩
 ·rw[cq (by refine ao aC ?_;exact q)]at h;clear q;exact bx h
theorem dq.state(h:dq N first kl tg τ ms hs G){a b:aY}(ha:τ a=none)(hb:τ b=none)(hab:a≠b)(ea:τ' a=some (.list []))(eb:τ' b=some (.list []))(eM:τ' N.M=some (.list ((ms++[a]).map .ref)))(eH:τ' N.H=some (.list ((hs++[b]).map .ref)))
  (k:∀c m,τ c=some m->c≠N.M->c≠N.H->τ' c=some m):dq N first kl tg τ' (ms++[a]) (hs++[b]) G.addState where
 aA:=k _ _ h.aA (dG h.aA h.aM (by nofun)) (dG h.aA h.aH (by nofun))
 aM:=eM
 aH:=eH
 aT:=k _ _ h.aT (dG h.aT h.aM (by nofun)) (dG h.aT h.aH (by nofun))
 lm:=by refine ao aC (ao h.lm ?_);show _=(G.mv++[[]]).length;refine ao aC ?_;rfl
 lh:=by refine ao aC (ao h.lh ?_);show _=(G.hp++[[]]).length;refine ao aC ?_;rfl
 ok:=h.ok.state
 rm i c e:=by
  rw[IK];rcases mT e with e|⟨rfl,rfl⟩
  ·have m:=aX e
   have nd:=h.nd;simp only[cC,a9,aI,not_or]at nd;exact k _ _ (h.rm i c e) (λq=>nd.1.2.1 (q▸m)) λq=>nd.2.1.1 (q▸m)
  ·refine ao ea (ao (Gr.mo_ge (by rewrite[Gr.n];refine ao h.lm ?_;exact aG _)) ?_);rfl
 rh i c e:=by
  refine ao Gr.ho_state ?_;rcases mT e with e|⟨rfl,rfl⟩
  ·have m:=aX e
   have nd:=h.nd;simp only[cC,a9,aI,not_or]at nd;exact k _ _ (h.rh i c e) (λq=>nd.1.2.2 (q▸m)) λq=>nd.2.1.2 (q▸m)
  ·refine ao eb (ao (Gr.ho_ge h.ok (by refine ao h.lh ?_;exact my h.ok.symm)) ?_);rfl
 nd:=by
  have nd:=h.nd;have fa:=h.fresh ha;have fb:=h.fresh hb;simp only[NA.all,a9,aI,not_or]at fa fb;simp only[cC,a9,aI,not_or,c7,dN,not_false_eq_true,or_false]at nd ⊢;refine nY nd ?_;clear nd;rintro⟨n1,n2,n3⟩ ⟨n4,n5⟩ n6 n7 n8;refine⟨⟨n1,⟨n2,λq=>fa.2.2.1 q.symm⟩,n3,λq=>fb.2.2.1 q.symm⟩,⟨⟨n4,λq=>fa.2.2.2.1 q.symm⟩,n5,λq=>fb.2.2.2.1 q.symm⟩,⟨n6,⟨trivial,fW⟩,λx hx y hy=>?_⟩,⟨n7,⟨trivial,fW⟩,λx hx y hy=>?_⟩,λx hx y hy=>?_⟩
  ·clear eM ea hab ha;subst hy;exact λq=>fa.2.2.2.2.1 (q▸hx)
  ·clear eH eb hab hb;subst hy;exact λq=>fb.2.2.2.2.2 (q▸hx)
  ·rcases hx with hx|rfl
   ·rcases hy with hy|rfl
    ·exact n8 x hx y hy
    ·exact λq=>fb.2.2.2.2.1 (q▸hx)
   ·rcases hy with hy|rfl
    ·exact λq=>fa.2.2.2.2.2 (q▸hy)
    ·exact hab
end
theorem I9{σ:AH}{g:Nat}{l:List Nat}{v:V}(hv:d7 σ v=some (cP l))(hd:iQ σ v=none):IQ σ (.int g) v=some (decide (g∈l)):=by
 have e1:dR (cP l)=some ((l.map vc).map nk):=by rw[xT,Ah]
 have e2:jg (.list ((l.map vc).map .int))=true:=KG _;have e3: ((l.map vc).map nk).any (λy=>fC y (.int g))=decide (g∈l):=by
  clear hv e1 e2
  induction l with
  |nil=>rfl
  |cons a l ih=>
   rw[bC,bC,jk];refine ao ih ?_;have ea:fC (.int (vc a)) (.int g)=decide (g=a):=by
    show(((a:Int)==(g:Int)):Bool)=_;rw[g8];simp only[beq_iff_eq,decide_eq_true_eq];exact⟨λh=>(cQ h).symm,λh=>h▸rfl⟩
   refine ao ea ?_;simp
 unfold IQ;refine ao hd ?_;show(nr (.int g)).bind _=_;refine ao hv ?_;show(dR (cP l)).bind (tN (.int g))=_;refine ao e1 ?_;show tN (.int g) ((l.map vc).map .int)=_;unfold tN;refine ao e2 (ao (show jg (.int g)=true from rfl) (ao e3 ?_));rfl
theorem LW{A B:Prop}{c:Prop} [Decidable c](ha:¬c->A)(hb:c->B): ((!decide c)=true->A)/\((!decide c)=false->B):=⟨λh=>ha (by simpa using h),λh=>hb (by simpa using h)⟩
section
variable{N:NA}{first:Nat}{kl:List Nat}{tg:Nat->V}{τ τ' τ'':AH}{ms hs ms' hs' ms'' hs'':List aY}{G:Gr}
theorem gO.more{a b:aY}(h:gO N τ τ' ms hs ms hs)(ha:τ a=none)(hb:τ b=none):gO N τ τ' ms hs (ms++[a]) (hs++[b]) where
 keep:=h.keep
 new c hc:=by
  simp only[NA.all,a9,aI,dN,or_false]at hc ⊢;rcases hc with h|h|h|h|(h|rfl)|(h|rfl)
  ·simp[h]
  ·simp[h]
  ·simp[h]
  ·simp[h]
  ·simp[h]
  ·exact .inr ha
  ·simp[h]
  ·exact .inr hb
 has:=h.has
theorem dq.rowM(h:dq N first kl tg τ ms hs G){q:Nat}{a:aY}(ea:ms[q]?=some a)(l:List (Nat×Nat)):dq N first kl tg (τ.set a (.list (l.map wV))) ms hs ⟨G.mv.set q l,G.hp⟩:=by
 have m:=aX ea;have nd:=h.nd;simp only[cC,a9,aI,not_or,c7]at nd;refine nY nd ?_;clear nd;rintro⟨n1,n2,n3⟩ ⟨n4,n5⟩ n6 n7 n8;have r:=h.rm q a ea;refine⟨(ay _ _ (dG h.aA r (by nofun))).trans h.aA,(ay _ _ λz:N.M=a=>n2 (z▸m)).trans h.aM,(ay _ _ λz:N.H=a=>n4 (z▸m)).trans h.aH,(ay _ _ (dG h.aT r (by nofun))).trans h.aT,by refine ao h.lm ?_;exact(fF ..).symm,h.lh,h.ok.trans (fF ..).symm,λi c e=>?_,λi c e=>?_,h.nd⟩
 ·by_cases hi:i=q
  ·clear r;subst hi
   rw[ea]at e;replace e:=ac e;subst e;rw[az];show _=some (fM.list (((((G.mv.set i l)[i]?).getD [])).map wV));refine ao (dO (by refine dk h.lm ?_;exact(aE.mp ea).1)) ?_;rfl
  ·have:c≠a:=λz=>hi (by
    clear r m;subst z;exact(uR (aE.mp e).1 n6).mp (e.trans ea.symm))
   refine ao (ay _ _ this) (ao (h.rm i c e) ?_);show some (fM.list ((((G.mv)[i]?).getD []).map wV))=some (fM.list (((((G.mv.set q l)[i]?).getD [])).map wV));exact ao (fu (aV hi)) rfl
 ·refine ao (ay _ _ λz=>n8 a m c (aX e) z.symm) (ao (h.rh i c e) ?_);rfl
theorem dq.rowH(h:dq N first kl tg τ ms hs G){q:Nat}{a:aY}(ea:hs[q]?=some a)(l:List Nat):dq N first kl tg (τ.set a (.list (cP l))) ms hs ⟨G.mv,G.hp.set q l⟩:=by
 have m:=aX ea;have nd:=h.nd;simp only[cC,a9,aI,not_or,c7]at nd;refine nY nd ?_;clear nd;rintro⟨n1,n2,n3⟩ ⟨n4,n5⟩ n6 n7 n8;have r:=h.rh q a ea;refine⟨(ay _ _ (dG h.aA r (by nofun))).trans h.aA,(ay _ _ λz:N.M=a=>n3 (z▸m)).trans h.aM,(ay _ _ λz:N.H=a=>n5 (z▸m)).trans h.aH,(ay _ _ (dG h.aT r (by nofun))).trans h.aT,h.lm,by refine ao h.lh ?_;exact(fF ..).symm,(fF ..).trans h.ok,λi c e=>?_,λi c e=>?_,h.nd⟩
 ·refine ao (ay _ _ λz=>n8 c (aX e) a m z) (ao (h.rm i c e) ?_);rfl
 ·by_cases hi:i=q
  ·clear r;subst hi
   rw[ea]at e;replace e:=ac e;subst e;rw[az];show _=some (fM.list (cP (((G.hp.set i l)[i]?).getD [])));refine ao (dO (by refine dk h.lh ?_;exact(aE.mp ea).1)) ?_;rfl
  ·have:c≠a:=λz=>hi (by
    clear r m;subst z;exact(uR (aE.mp e).1 n7).mp (e.trans ea.symm))
   refine ao (ay _ _ this) (ao (h.rh i c e) ?_);show some (fM.list (cP (((G.hp)[i]?).getD [])))=some (fM.list (cP (((G.hp.set q l)[i]?).getD [])));exact ao (fu (aV hi)) rfl
theorem dq.memM(h:dq N first kl tg τ ms hs G){q:Nat}{a:aY}(ea:ms[q]?=some a):a∈N.all ms hs:=by have:=aX ea;simp[NA.all,this]
theorem dq.memH(h:dq N first kl tg τ ms hs G){q:Nat}{a:aY}(ea:hs[q]?=some a):a∈N.all ms hs:=by have:=aX ea;simp[NA.all,this]
end
section
variable{N:NA}{first:Nat}{kl:List Nat}{tg:Nat->V}{τ:AH}{ms hs:List aY}{G:Gr}(hP:C.prog=PG)
include hP
theorem Jm(h:dq N first kl tg τ ms hs G)(hn:G.n<=1000)(q:∀τ' ms' hs',dq N first kl tg τ' ms' hs' G.addState->gO N τ τ' ms hs ms' hs'->Q (.int (G.n:Nat)) τ'):callN C (d+1) "Nfa.add_state" [.ref N.A] τ Q:=by
 have lm:ms.length<=1000:=by refine ao h.lm ?_;exact hn
 have lh:hs.length<=1000:=by refine ao h.lh (ao h.ok ?_);exact hn
 refine dF (wS hP rfl ?_);refine oW_of (cF h.aA rfl) ?_;refine AI h.aM ?_;refine cJ (bg _) λa ha=>?_;have aA:=AH.ne ha h.aA;have aM:=AH.ne ha h.aM;have aH:=AH.ne ha h.aH;have MH:N.M≠N.H:=λq=>by have:=h.nd;rw[q]at this;simp at this
 refine j4 ((ay _ _ (aV aM)).trans h.aM) (by rw[ai];exact ci (nat_lit 0x18b00bf44c01) rfl lm) ?_;generalize h2: (τ.set a (.list [])).set N.M (.list (ms.map .ref++[.ref a]))=τ2;have k2:∀c m,τ c=some m->c≠N.M->τ2 c=some m:=λc m e n=>by
  exact dk h2 (ao (ay _ _ n) (ao (ay _ _ (aV (AH.ne ha e))) (ao e rfl)))
 have a2:τ2 a=some (.list []):=by refine dk h2 ?_;refine ao (ay _ _ aM) ?_;rewrite[az];with_reducible rfl
 have M2:τ2 N.M=some (.list (ms.map .ref++[.ref a])):=by refine dk h2 ?_;rewrite[az];with_reducible rfl
 have g2:gO N τ τ2 ms hs ms hs:=h2▸(gO.refl.set (.inr ha)).set (.inl (by simp[NA.all]));clear h2;have A2:=k2 _ _ h.aA (dG h.aA h.aM (by nofun));refine oW_of (cF A2 rfl) ?_;have H2:=k2 _ _ h.aH (aV MH);refine AI H2 ?_;refine cJ (bg _) λb hb=>?_;have ba:=AH.ne hb a2;have bM:=AH.ne hb M2;have bH:=AH.ne hb H2;have hb0:τ b=none:=by
  cases e:τ b with
  |none=>rfl
  |some m=>rw[k2 b m e bM]at hb;clear e;exact n9 hb
 refine j4 ((ay _ _ (aV bH)).trans H2) (by rw[ai];exact ci (nat_lit 0x18b00bf44c01) rfl lh) ?_;generalize h4: (τ2.set b (.list [])).set N.H (.list (hs.map .ref++[.ref b]))=τ4;have k4:∀c m,τ2 c=some m->c≠N.H->τ4 c=some m:=λc m e n=>by
  exact dk h4 (ao (ay _ _ n) (ao (ay _ _ (aV (AH.ne hb e))) (ao e rfl)))
 have b4:τ4 b=some (.list []):=by refine dk h4 ?_;refine ao (ay _ _ bH) ?_;rewrite[az];with_reducible rfl
 have H4:τ4 N.H=some (.list (hs.map .ref++[.ref b])):=by refine dk h4 ?_;rewrite[az];with_reducible rfl
 have g4:gO N τ τ4 ms hs ms hs:=h4▸(g2.set (.inr hb0)).set (.inl (by simp[NA.all]));clear h4;have A4:=k4 _ _ A2 (dG h.aA h.aH (by nofun));have M4:=k4 _ _ M2 MH;have a4:=k4 _ _ a2 aH;have z:=h.state ha hb0 (aV ba) a4 b4 (by refine ao M4 (ao bw ?_);rfl) (by refine ao H4 (ao bw ?_);rfl) λc m e n1 n2=>k4 c m (k2 c m e n1) n2;refine oW_of (cF A4 rfl) ?_;refine jN (li M4) (by refine ao aC ?_;rewrite[ai];simp;exact ci (nat_lit 0x7ffffffe6b80bf44c01) rfl lm) (tv ?_);have e: (((ms.map V.ref++[V.ref a]).length:Nat):Int)-1=(G.n:Nat):=by
  refine ao aC ?_;rewrite[ai];refine ao h.lm ?_;show((G.n+1:Nat):Int)-1=_;lia
 refine ao e ?_;exact q τ4 _ _ z (g4.more ha hb0)
theorem Lb(h:dq N first kl tg τ ms hs G){s m g:Nat}(hs':s<G.n)(hsm:G.n<=1000)(hl: (G.mo s).length<=1000)(q:∀τ',dq N first kl tg τ' ms hs (G.addMove s m g)->gO N τ τ' ms hs ms hs->Q .none τ'):callN C (d+1) "Nfa.add_move" [.ref N.A,.int s,.int m,.int g] τ Q:=by
 refine dF (xI hP rfl ?_);obtain⟨a,ea⟩:∃a,ms[s]?=some a:=⟨_,ah (by refine ao h.lm ?_;exact hs')⟩;refine LW (λhm=>?_) λhm=>?_
 ·have hm:m≠0:=λe=>hm (by refine ao e ?_;rfl)
  refine oW_of (cF h.aA rfl) ?_;refine oW_of rfl ?_;refine oW_of (dU h.aM (by refine ao bb (ao ea ?_);rfl) (by exact bt (nat_lit 0x1e5960917e89842158241) rfl hs' hsm)) ?_;refine fH (h.rm s a ea) (by rw[ai];exact ci (nat_lit 0x18b00bf44c01) rfl hl) ?_;have:=h.rowM ea (G.mo s++[(m,g)]);rw[bw]at this;refine q _ ?_ (gO.refl.set (.inl (h.memM ea)));unfold Gr.addMove;refine ao (if_neg hm) ?_;exact this
 ·have hm:m=0:=cQ hm
  refine q _ ?_ gO.refl;unfold Gr.addMove;refine ao (if_pos hm) ?_;exact h
theorem Ku(h:dq N first kl tg τ ms hs G){s g:Nat}(hs':s<G.n)(hsm:G.n<=1000)(hl: (G.ho s).length<=1000)(q:∀τ',dq N first kl tg τ' ms hs (G.addHop s g)->gO N τ τ' ms hs ms hs->Q .none τ'):callN C (d+1) "Nfa.add_hop" [.ref N.A,.int s,.int g] τ Q:=by
 refine dF (zu hP rfl ?_);obtain⟨a,ea⟩:∃a,hs[s]?=some a:=⟨_,ah (by refine ao h.lh (ao h.ok ?_);exact hs')⟩;refine oW_of (cF h.aA rfl) ?_;refine oW_of rfl ?_;refine oW_of (dU h.aH (by refine ao bb (ao ea ?_);rfl) (by exact bt (nat_lit 0x1e5960917e89842158241) rfl hs' hsm)) ?_;have r:=h.rh s a ea;refine oW_of (congrArg (fV (!·)) (I9 (g:=g) (iG r) (congrArg (eJ · MK) r))) (y8 (λhn=>?_) λhn=>?_)
 ·have hn:g∉G.ho s:=by simpa using hn
  refine oW_of (cF h.aA rfl) ?_;refine oW_of rfl ?_;refine oW_of (dU h.aH (by refine ao bb (ao ea ?_);rfl) (by exact bt (nat_lit 0x1e5960917e89842158241) rfl hs' hsm)) ?_;refine fH r (by rw[ai];exact ci (nat_lit 0x18b00bf44c01) rfl hl) ?_;have:=h.rowH ea (G.ho s++[g]);rw[<- iR]at this;refine q _ ?_ (gO.refl.set (.inl (h.memH ea)));unfold Gr.addHop;refine ao (if_neg hn) ?_;exact this
 ·have hn:g∈G.ho s:=by simpa using hn
  refine q _ ?_ gO.refl;unfold Gr.addHop;refine ao (if_pos hn) ?_;exact h
theorem mm(h:dq N first kl tg τ ms hs G)(hn:G.n<=1000){K:V->AH->Prop}(q:∀τ' ms' hs',dq N first kl tg τ' ms' hs' G.addState->gO N τ τ' ms hs ms' hs'->K (.int (G.n:Nat)) τ'):mW τ (.ref N.A) "add_state" λq=>callN C (d+1) q.1 (iY q.2 (.ref N.A) []) τ K:=
 mW_of (q:=("Nfa.add_state",true)) (fR h.aA rfl) (Jm hP h hn q)
theorem oA(h:dq N first kl tg τ ms hs G){s g:Nat}(hs':s<G.n)(hsm:G.n<=1000)(hl: (G.ho s).length<=1000){K:V->AH->Prop}(q:∀τ',dq N first kl tg τ' ms hs (G.addHop s g)->gO N τ τ' ms hs ms hs->K .none τ'):mW τ (.ref N.A) "add_hop" λq=>callN C (d+1) q.1 (iY q.2 (.ref N.A) [.int s,.int g]) τ K:=
 mW_of (q:=("Nfa.add_hop",true)) (fR h.aA rfl) (Ku hP h hs' hsm hl q)
end
noncomputable def Oe:Bool->String
 |true=>"cat"
 |false=>"alt"
noncomputable def tJ:Bool->Rx->Rx->Rx
 |true,a,b=> .cat a b
 |false,a,b=> .alt a b
noncomputable def ch:Bool->Rx->List Rx
 |true,.cat a b=>ch true a++[b]
 |false,.alt a b=>ch false a++[b]
 |_,r=>[r]
noncomputable def pK(s t:String):Bool:= !decide (ae s=ae t)
theorem k9{s t:String}(h:pK s t=true)(e:ae s=ae t):False:=by
 unfold pK at h;rw[decide_eq_true e]at h;exact mj h
theorem MJ(c:Bool)(y:Rx)(h:ae (qR y)=ae (Oe c)):∃a b,y=tJ c a b:=by
 cases c with
 |true=>
  cases y with
  |cat a b=>exact⟨a,b,rfl⟩
  |chars s=>exact(k9 (by decide:pK "chars" "cat"=true) h).elim
  |empty=>exact(k9 (by decide:pK "empty" "cat"=true) h).elim
  |never=>exact(k9 (by decide:pK "never" "cat"=true) h).elim
  |alt a b=>exact(k9 (by decide:pK "alt" "cat"=true) h).elim
  |star a=>exact(k9 (by decide:pK "star" "cat"=true) h).elim
  |plus a=>exact(k9 (by decide:pK "plus" "cat"=true) h).elim
  |opt a=>exact(k9 (by decide:pK "opt" "cat"=true) h).elim
  |rep a lo hi=>exact(k9 (by decide:pK "repeat" "cat"=true) h).elim
 |false=>
  cases y with
  |alt a b=>exact⟨a,b,rfl⟩
  |chars s=>exact(k9 (by decide:pK "chars" "alt"=true) h).elim
  |empty=>exact(k9 (by decide:pK "empty" "alt"=true) h).elim
  |never=>exact(k9 (by decide:pK "never" "alt"=true) h).elim
  |cat a b=>exact(k9 (by decide:pK "cat" "alt"=true) h).elim
  |star a=>exact(k9 (by decide:pK "star" "alt"=true) h).elim
  |plus a=>exact(k9 (by decide:pK "plus" "alt"=true) h).elim
  |opt a=>exact(k9 (by decide:pK "opt" "alt"=true) h).elim
  |rep a lo hi=>exact(k9 (by decide:pK "repeat" "alt"=true) h).elim
theorem ER(c:Bool)(a b:Rx):ch c (tJ c a b)=ch c a++[b]:=by cases c<;>rfl
theorem Nq(c:Bool)(y:Rx)(h:¬ae (qR y)=ae (Oe c)):ch c y=[y]:=by
 cases c with
 |true=>cases y<;>first|exact absurd rfl h|rfl
 |false=>cases y<;>first|exact absurd rfl h|rfl
theorem vk(c:Bool)(a b:Rx):gz (tJ c a b)=gz a+gz b+1:=by cases c<;>(exact aN (bt (nat_lit 0x2c20948205ca45) rfl) (bt (nat_lit 0x40b9496104a45) rfl))
structure OI where
 y:Rx
 ps:List Rx
section
variable(hP:C.prog=PG)
theorem Ez{c:Bool}{a b:Rx}:uo σ (bq (tJ c a b)) "left"=some (bq a)/\uo σ (bq (tJ c a b)) "right"=some (bq b):=by cases c<;>exact⟨rfl,rfl⟩
include hP
theorem EK{c:Bool}{r:Rx}(hh:gz r<=300)(q:Q (.list ((ch c r).map bq)) σ):callN C (d+1) "chain" [bq r,qV (Oe c)] σ Q:=by
 refine mK (Ju hP rfl ?_);refine cJ (bg _) λk hk=>?_;refine iJ (α:=OI) (λx=>gz x.y) (λx=>[some (bq x.y),some (qV (Oe c)),some (.ref k)]) (λx=>σ.set k (.list (x.ps.map bq))) (λx=>ch c x.y++x.ps.reverse=ch c r/\x.ps.length+gz x.y<=gz r) (λx hx R hR=>?_) ⟨r,[]⟩ ⟨by exact be _,by simp⟩;intro En;obtain⟨y,ps⟩:=x;obtain⟨e,le⟩:=hx;refine oW_of (rO y) (jV (λh=>?_) λh=>?_)
 ·clear hk q hP;refine zt (MJ c y h) ?_;rintro a b rfl
  have ha:=vk c a b;have le:ps.length+gz (tJ c a b)<=gz r:=le;refine AI (az ..) (oW_of Ez.2 (j4 (az ..) (by rw[ai];exact b9 (nat_lit 0x316094020c82964c01) rfl hh le) ?_));rw[bO];refine oW_of Ez.1 ?_;have:=hR ⟨a,ps++[b]⟩ (by show gz a<gz (tJ c a b);exact b9 (nat_lit 0x2c322ac4194803) rfl ha) ⟨by refine dk e ?_;show _=ch c (tJ c a b)++_;rw[ER];simp,by simp only[aC,bv,gc];exact uk (nat_lit 0x40ad521ca45200720ac4194803) rfl ha le⟩;rw[bw]at this;exact this
 ·have le:ps.length+gz y<=gz r:=le
  have e:ch c y++ps.reverse=ch c r:=e;rw[Nq c y h]at e;refine fH (az ..) (by rw[ai];exact b9 (nat_lit 0x316094020c82964c01) rfl hh le) ?_;rw[bO];refine oR (az ..) (by refine ao aC ?_;rewrite[ai];simp;have:=fK y;exact b9 (nat_lit 0x3fffffcb7094020c82964c01) rfl hh le) ?_;rw[bO];refine⟨.list ((ch c r).map bq),Sub.refl.set hk _,.inr ⟨k,_,rfl,hk,az ..,?_⟩,q⟩;refine dk e ?_;simp only[bw,kN,gG,nJ,List.reverse_nil,jx,bC,mA];exact tI.refl
end
noncomputable def Sm(G:Gr):Prop:=∀q,(G.ho q).Nodup/\(∀g∈G.ho q,g<1000/\g<G.n)/\∀p∈G.mo q,p.2<G.n
theorem Sm.len{G:Gr}(h:Sm G)(q:Nat): (G.ho q).length<=1000:=by
 have:=gI (l':=bN 1000) (h q).1 λg hg=>du.mpr ((h q).2.1 g hg).1;rwa [b7]at this
theorem Sm.state{G:Gr}(h:Sm G):Sm G.addState:=λq=>by
 refine ao Gr.ho_state (ao Gr.mo_state (ao Gr.n_state ?_));exact⟨(h q).1,λg hg=>⟨((h q).2.1 g hg).1,cM ((h q).2.1 g hg).2⟩,λp hp=>cM ((h q).2.2 p hp)⟩
theorem Sm.move{G:Gr}(h:Sm G){s m g:Nat}(hs:s<G.n)(hg:g<G.n):Sm (G.addMove s m g):=λq=>by
 refine ao Gr.ho_move (ao Gr.n_move ?_);refine⟨(h q).1,(h q).2.1,λp hp=>?_⟩;by_cases e:q=s
 ·subst e
  rw[Gr.mo_move hs]at hp;split at hp
  ·exact(h q).2.2 p hp
  ·rcases aI.mp hp with z|z
   ·exact(h q).2.2 p z
   ·refine ao (aq.mp z) ?_;exact hg
 ·rw[Gr.mo_move_ne e]at hp;exact(h q).2.2 p hp
theorem Sm.hop{G:Gr}(h:Sm G)(o:G.Ok){s g:Nat}(hs:s<G.n)(hg:g<1000/\g<G.n):Sm (G.addHop s g):=λq=>by
 refine ao Gr.mo_hop (ao Gr.n_hop ?_);by_cases e:q=s
 ·subst e
  refine ao (Gr.ho_hop o hs) ?_;split
  ·exact h q
  ·rename_i hn
   refine⟨c7.mpr ⟨(h q).1,by exact cb _ _,λa ha b hb e=>hn (by rw[aq.mp hb]at e;refine dk e ?_;exact ha)⟩,λx hx=>?_,(h q).2.2⟩;rcases aI.mp hx with z|z
   ·exact(h q).2.1 x z
   ·refine ao (aq.mp z) ?_;exact hg
 ·refine ao (Gr.ho_hop_ne e) ?_;exact h q
noncomputable def uy(C:Cx)(d:Nat)(vC:V)(P:Sp->Nat->Bool)(r:Rx):Prop:=∀(N:NA) (first:Nat) (kl:List Nat) (tg:Nat->V) (τ:AH) (ms hs:List aY) (G:Gr) (Q:V->AH->Prop),dq N first kl tg τ ms hs G->Sm G->G.n+jL r<=500->
 (∀τ' ms' hs' G' h t,dq N first kl tg τ' ms' hs' G'->gO N τ τ' ms hs ms' hs'->Sm G'->Seg (jL r) (vU r) G (dP P r) G' h t->Q (.tup [.int (h:Nat),.int (t:Nat)]) τ')->callN C d "build" [.ref N.A,bq r,vC] τ Q
structure Og where
 τ:AH
 ms:List aY
 hs:List aY
 G:Gr
 acc:Rx
 t:Nat
 o:Option V
 p:Option V
 q:Option V
structure Og.Inv(N:NA)(first:Nat)(kl:List Nat)(tg:Nat->V)(P:Sp->Nat->Bool)(τ:AH)(ms hs:List aY)(G:Gr)(h:Nat)(r:Rx)(bs:List Rx)(x:Og):Prop where
 at':dq N first kl tg x.τ x.ms x.hs x.G
 gr:gO N τ x.τ ms hs x.ms x.hs
 sm:Sm x.G
 seg:Seg (jL x.acc) (vU x.acc) G (dP P x.acc) x.G h x.t
 e:bs.foldl .cat x.acc=r
theorem yB:∀(bs:List Rx) (a:Rx),jL a<=jL (bs.foldl .cat a)
 |[]=>λa=>aG _
 |b::bs=>λa=>a8 (by show jL a<=jL a+jL b;exact bt (nat_lit 0x104805) rfl) (yB bs (.cat a b))
theorem IH(c:Bool):∀r:Rx,∃p ps,ch c r=p::ps/\ps.foldl (tJ c) p=r/\∀x∈p::ps,gz x<=gz r:=by
 have base:∀r:Rx,ch c r=[r]->∃p ps,ch c r=p::ps/\ps.foldl (tJ c) p=r/\∀x∈p::ps,gz x<=gz r:=λr e=>⟨r,[],e,rfl,λx hx=>by refine ao (aq.mp hx) ?_;exact aG _⟩;have step:∀a b:Rx,(∃p ps,ch c a=p::ps/\ps.foldl (tJ c) p=a/\∀x∈p::ps,gz x<=gz a)->∃p ps,ch c (tJ c a b)=p::ps/\ps.foldl (tJ c) p=tJ c a b/\∀x∈p::ps,gz x<=gz (tJ c a b):=by
  intro a b ⟨p,ps,e1,e2,e3⟩;refine⟨p,ps++[b],by rewrite[ER];refine ao e1 ?_;rfl,by refine ao iA (ao e2 ?_);rfl,λx hx=>?_⟩;rw[vk];rw[<- iV]at hx;rcases aI.mp hx with z|z
  ·have:=e3 x z;exact b9 (nat_lit 0x1620ca4028401) rfl this
  ·refine ao (aq.mp z) ?_;exact bt (nat_lit 0x2c0194805) rfl
 intro r
 induction r with
 |cat a b iha ihb=>cases c with
  |true=>exact step a b iha
  |false=>exact base _ rfl
 |alt a b iha ihb=>cases c with
  |true=>exact base _ rfl
  |false=>exact step a b iha
 |chars s=>exact base _ (by clear step;cases c<;>rfl)
 |empty=>exact base _ (by clear step;cases c<;>rfl)
 |never=>exact base _ (by clear step;cases c<;>rfl)
 |star a=>exact base _ (by clear a_ih step;cases c<;>rfl)
 |plus a=>exact base _ (by clear a_ih step;cases c<;>rfl)
 |opt a=>exact base _ (by clear a_ih step;cases c<;>rfl)
 |rep a lo hi=>exact base _ (by clear a_ih step base;cases c<;>rfl)
section
variable{N:NA}{first:Nat}{kl:List Nat}{tg:Nat->V}{τ:AH}{ms hs:List aY}{G:Gr}{vC:V}{P:Sp->Nat->Bool}(hP:C.prog=PG)
include hP
theorem Nw(h0:dq N first kl tg τ ms hs G)(sm:Sm G){p0:Rx}{ps:List Rx}(hl:ps.length<=300)(hb:∀x∈p0::ps,uy C (d+1) vC P x)(hn:G.n+jL (ps.foldl .cat p0)<=500)
  (q:∀τ' ms' hs' G' h t,dq N first kl tg τ' ms' hs' G'->gO N τ τ' ms hs ms' hs'->Sm G'->Seg (jL (ps.foldl .cat p0)) (vU (ps.foldl .cat p0)) G (dP P (ps.foldl .cat p0)) G' h t->Q (.tup [.int (h:Nat),.int (t:Nat)]) τ'):
  callN C (d+2) "build_row" [.ref N.A,.list ((p0::ps).map bq),vC] τ Q:=by
 refine dF (Cf hP rfl ?_);refine hb p0 (bF ..) N first kl tg τ ms hs G _ h0 sm (by have:=yB ps p0;exact b9 (nat_lit 0xfa4c40914220be9308241) rfl hn this) λτ1 ms1 hs1 G1 h t a1 g1 s1 seg1=>?_
 refine⟨by rewrite[ai];refine ao bv ?_;exact ci (nat_lit 0x62cb048a964c01) rfl hl,?_⟩;refine d6 (by refine ao kM ?_;rewrite[ai];refine ao bv ?_;exact bt (nat_lit 0x316095609042964c01) rfl hl (yU _ _)) ?_;refine j7 (β:=Rx) (α:=Og) bq (λx=>[some (.ref N.A),some (.list ((p0::ps).map bq)),some vC,some (.int (h:Nat)),some (.int (x.t:Nat)),x.o,x.p,x.q,none]) (λx=>x.τ) (λbs x=>(∀b∈bs,uy C (d+1) vC P b)/\Og.Inv N first kl tg P τ ms hs G h (ps.foldl .cat p0) bs x)
  ?_ (λb bs x hx w_ R hR=>?_) (λx hx=>?_) ps ⟨τ1,ms1,hs1,G1,p0,t,none,none,none⟩ ⟨λb hb'=>hb b (bA _ hb'),a1,g1,s1,seg1,rfl⟩
 ·exact λw_ w_ w_=>bL
 ·intro En;obtain⟨hbs,I⟩:=hx
  have le:=yB bs (.cat x.acc b);have e:bs.foldl Rx.cat (.cat x.acc b)=ps.foldl Rx.cat p0:=I.e;rw[e]at le;have le:jL x.acc+jL b<=jL (ps.foldl Rx.cat p0):=le;have s1:=I.seg.size;have s2:=I.seg.ht;refine hbs b (bF ..) N first kl tg x.τ x.ms x.hs x.G _ I.at' I.sm (by exact uk (nat_lit 0x7d263248a20488108c520be9308241) rfl hn le s1.2) λτ2 ms2 hs2 G2 h2 t2 a2 g2 sm2 seg2=>?_
  have s3:=seg2.size;have s4:=seg2.hh;refine oA hP a2 (by exact b9 (nat_lit 0x2582451042158241) rfl s2.2 s3.1) (by exact J6 (nat_lit 0x7d1329464914220488108c520be9308241) rfl hn le s1.2 s3.2) (sm2.len _) λτ3 a3 g3=>?_;exact hR ⟨τ3,ms2,hs2,G2.addHop x.t h2,.cat x.acc b,t2,_,_,_⟩ ⟨λb' hb'=>hbs b' (bA _ hb'),a3,(I.gr.trans g2).trans g3,sm2.hop seg2.ok (by exact b9 (nat_lit 0x2582451042158241) rfl s2.2 s3.1) (by exact⟨Nv (nat_lit 0x3e89acd22956690464914220488108c520be9308241) rfl hn le s1.2 s3.2 s4.2,bt (nat_lit 0x2b048a158241) rfl s4.2⟩),I.seg.cat seg2,I.e⟩
 ·intro En;obtain⟨_,I⟩:=hx
  have e:x.acc=ps.foldl .cat p0:=I.e;have:=I.seg;rw[e]at this;exact q _ _ _ _ _ _ I.at' I.gr I.sm this
end
structure IW where
 τ:AH
 ms:List aY
 hs:List aY
 G:Gr
 ps:List AJ
 done:List Rx
 o:Option V
 p:Option V
 q:Option V
structure IW.Inv(N:NA)(first:Nat)(kl:List Nat)(tg:Nat->V)(P:Sp->Nat->Bool)(τ:AH)(ms hs:List aY)(G:Gr)(T:aY)(l bs:List Rx)(x:IW):Prop where
 at':dq N first kl tg x.τ x.ms x.hs x.G
 gr:gO N τ x.τ ms hs x.ms x.hs
 sm:Sm x.G
 alt:AA (x.done.map jL).sum (x.done.map vU).sum G x.ps x.G
 e:x.done++bs=l
 pa:x.ps.map (·.A)=x.done.map (dP P)
 tl:x.τ T=some (.list (cP (x.ps.map (·.t))))
 tn:T∉N.all x.ms x.hs
structure Jo where
 τ:AH
 G:Gr
 q:Option V
structure Jo.Inv(N:NA)(first:Nat)(kl:List Nat)(tg:Nat->V)(τ:AH)(ms hs ms1 hs1:List aY)(G:Gr)(T:aY)(l:List Nat)(n last:Nat)(bs:List Nat)(x:Jo):Prop where
 at':dq N first kl tg x.τ ms1 hs1 x.G
 gr:gO N τ x.τ ms hs ms1 hs1
 sm:Sm x.G
 n':x.G.n=n
 e:j1 x.G bs last=G
 tl:x.τ T=some (.list (cP l))
 lt:∀t∈bs,t<n
section
variable{N:NA}{first:Nat}{kl:List Nat}{tg:Nat->V}{τ τ':AH}{ms hs ms' hs':List aY}{G:Gr}{vC:V}{P:Sp->Nat->Bool}(hP:C.prog=PG)
theorem gO.no(h:gO N τ τ' ms hs ms' hs'){a:aY}(e:τ' a=none):τ a=none:=by
 cases q:τ a with
 |none=>rfl
 |some m=>obtain⟨m',e'⟩:=h.has a m q;rw[e]at e';exact bx e'
theorem gO.out(h:gO N τ τ' ms hs ms' hs'){a:aY}{m:fM}(e:τ a=some m)(n:a∉N.all ms hs):a∉N.all ms' hs':=λq=>(h.new a q).elim n λz=>by rw[e]at z;exact n9 z
theorem K8{f:Rx->Nat}{l l':List Rx}{b:Rx}: (l.map f).sum+f b<=((l++b::l').map f).sum:=by simp
include hP
theorem Hg(h0:dq N first kl tg τ ms hs G)(sm:Sm G){l:List Rx}(hl:l.length<=300)(hb:∀x∈l,uy C (d+1) vC P x)(hn:G.n+((l.map jL).sum+2)<=500)
  (q:∀τ' ms' hs' G' h t,dq N first kl tg τ' ms' hs' G'->gO N τ τ' ms hs ms' hs'->Sm G'->Seg ((l.map jL).sum+2) (l.map vU).sum G (λw=>∃x∈l,dP P x w) G' h t->Q (.tup [.int (h:Nat),.int (t:Nat)]) τ'):
  callN C (d+2) "build_choice" [.ref N.A,.list (l.map bq),vC] τ Q:=by
 refine dF (yw hP rfl ?_);refine mm hP h0 (by exact bt (nat_lit 0x3e8980afa4d8190241) rfl hn) λτ1 ms1 hs1 a1 g1=>?_;refine cJ (bg _) λT hT=>?_;have hT0:=g1.no hT;refine j7 (β:=Rx) (α:=IW) bq (λx=>[some (.ref N.A),some (.list (l.map bq)),some vC,some (.int (G.n:Nat)),some (.ref T),x.o,x.p,x.q,none,none]) (λx=>x.τ) (λbs x=>IW.Inv N first kl tg P τ ms hs G T l bs x)
  ?_ (λb bs x I w_ R hR=>?_) (λx I=>?_) l ⟨τ1.set T (.list []),ms1,hs1,G.addState,[],[],none,none,none⟩ ⟨a1.put (a1.fresh hT),g1.set (.inr hT0),sm.state,AA.nil h0.ok,rfl,rfl,az ..,a1.fresh hT⟩
 ·exact λw_ w_ w_=>bL
 ·intro En;have hb':b∈l:=I.e▸by exact aL _ (.head _)
  have s1:=I.alt.size;have le: (x.done.map jL).sum+jL b<=(l.map jL).sum:=by refine dk I.e ?_;exact K8
  refine hb b hb' N first kl tg x.τ x.ms x.hs x.G _ I.at' I.sm (by exact uk (nat_lit 0x7d264148a120e411ac129082fa4d8190241) rfl hn s1.2 le) λτ2 ms2 hs2 G2 h2 t2 a2 g2 sm2 seg2=>?_
  have s2:=seg2.size;have s4:=seg2.hh;refine oA hP a2 (by exact b9 (nat_lit 0x2582451042158241) rfl s1.1 s2.1) (by exact J6 (nat_lit 0x7d13294829142120e411ac129082fa4d8190241) rfl hn s1.2 le s2.2) (sm2.len _) λτ3 a3 g3=>?_;have g:=g2.trans g3;have T3:=g.keep _ _ I.tl I.tn;have n3:=g.out I.tl I.tn;have pl: (x.ps.map (·.t)).length<=300:=by
   have h1:=congrArg dW I.pa;have h2:=congrArg dW I.e;simp only[ai,aC]at h1 h2 ⊢;exact ir (nat_lit 0x12c984a018a421044964c01) rfl hl h1 h2
  refine fH T3 (by rw[ai];exact ci (nat_lit 0x18b00a964c01) rfl pl) ?_;refine hR ⟨τ3.set T (.list (cP (x.ps.map (·.t))++[.int (t2:Nat)])),ms2,hs2,G2.addHop G.n h2,x.ps++[⟨dP P b,h2,t2⟩],x.done++[b],_,_,_⟩ ⟨a3.put n3,(I.gr.trans g).set (.inr hT0),sm2.hop seg2.ok (by exact b9 (nat_lit 0x2582451042158241) rfl s1.1 s2.1) (by exact⟨Nv (nat_lit 0x3e89acd229566904829142120e411ac129082fa4d8190241) rfl hn s1.2 le s2.2 s4.2,bt (nat_lit 0x2b048a158241) rfl s4.2⟩),?_,by refine dk I.e ?_;exact aJ ..,?_,?_,n3⟩
  ·show AA (((x.done++[b]).map jL).sum) (((x.done++[b]).map vU).sum) _ _ _
   refine ao bw (ao bw (ao w9 (ao w9 ?_)));exact I.alt.snoc seg2
  ·show(x.ps++[_]).map _=(x.done++[b]).map _
   refine ao bw (ao bw (ao I.pa ?_));rfl
  ·show(τ3.set T _) T=some (.list (cP ((x.ps++[_]).map _)))
   rewrite[az];refine ao bw ?_;rewrite[iR];rfl
 ·intro En;have e:x.done=l:=by have:=I.e;rwa [be]at this
  have alt:=I.alt;rw[e]at alt;have s1:=alt.size;refine mm hP I.at' (by exact b9 (nat_lit 0x1f44c450ac129082fa4d8190241) rfl hn s1.2) λτ2 ms2 hs2 a2 g2=>?_;have T2:=g2.keep _ _ I.tl I.tn;have n2:=g2.out I.tl I.tn;refine oW_of (oE T2) ?_;refine j7 (β:=Nat) (α:=Jo) (λt=> .int (t:Nat)) (λy=>[some (.ref N.A),some (.list (l.map bq)),some vC,some (.int (G.n:Nat)),some (.ref T),x.o,x.p,y.q,some (.int (x.G.n:Nat)),none]) (λy=>y.τ)
   (λbs y=>Jo.Inv N first kl tg τ ms hs ms2 hs2 (j1 x.G.addState (x.ps.map (·.t)) x.G.n) T (x.ps.map (·.t)) (x.G.n+1) x.G.n bs y) ?_ (λb bs y J w_ R hR=>?_) (λy J=>?_) (x.ps.map (·.t)) ⟨τ2,x.G.addState,x.q⟩
   ⟨a2,I.gr.trans g2,I.sm.state,Gr.n_state,rfl,T2,λt ht=>?_⟩
  ·exact λbs y J=>J.tl
  ·intro En;have hbn:=J.lt b (bF ..)
   have jn:=J.n';refine oA hP J.at' (by exact b9 (nat_lit 0x258245586421ac3258241) rfl hbn jn) (by exact ir (nat_lit 0x3e898cab148620ac129082fa4d8190241) rfl hn s1.2 jn) (J.sm.len _) λτ3 a3 g3=>?_;exact hR ⟨τ3,y.G.addHop b x.G.n,_⟩ ⟨a3,J.gr.trans g3,J.sm.hop J.at'.ok (by exact b9 (nat_lit 0x258245586421ac3258241) rfl hbn jn) (by exact⟨b9 (nat_lit 0x7d1358a450ac129082fa4d8190241) rfl hn s1.2,bt (nat_lit 0xb0c8ab0c803) rfl jn⟩),Gr.n_hop.trans J.n',J.e,g3.keep _ _ J.tl n2,λt ht=>J.lt t (bA _ ht)⟩
  ·intro En;have eG:y.G=j1 x.G.addState (x.ps.map (·.t)) x.G.n:=J.e
   have at':=J.at';have sm':=J.sm;rw[eG]at at' sm';refine q _ _ _ _ _ _ at' J.gr sm' ((Seg.alt alt).iff λw=>?_);constructor
   ·rintro⟨p,hp,hw⟩
    have:p.A∈x.ps.map (·.A):=jc hp;rw[I.pa,e]at this;refine bJ (bG.mp this) λr hr er=>?_;exact⟨r,hr,er▸hw⟩
   ·rintro⟨r,hr,hw⟩
    have:dP P r∈l.map (dP P):=jc hr;rw[<- e,<- I.pa]at this;refine bJ (bG.mp this) λp hp ep=>?_;exact⟨p,hp,by refine ao ep ?_;exact hw⟩
  ·clear n2 T2 g2 a2 s1 e I hT0 hT g1 a1 q hn hb hl h0 hP;refine bJ (bG.mp ht) ?_;rintro p hp rfl
   have:=(alt.ts p hp).2.1;exact bt (nat_lit 0x5864b048a158241) rfl this
end
theorem Jt{b:Bool}{G:Gr}{s g:Nat}: (ifHop b G s g).n=G.n:=by cases b;rfl;exact Gr.n_hop
theorem Sm.ifHop{b:Bool}{G:Gr}(h:Sm G)(o:G.Ok){s g:Nat}(hs:s<G.n)(hg:g<1000/\g<G.n):Sm (ifHop b G s g):=by cases b;exact h;exact h.hop o hs hg
structure Pf where
 τ:AH
 ms:List aY
 hs:List aY
 G:Gr
 t:Nat
 o:Option V
 p:Option V
 q:Option V
section
variable{N:NA}{first:Nat}{kl:List Nat}{tg:Nat->V}{τ τ':AH}{ms hs ms' hs':List aY}{G:Gr}{vC:V}{P:Sp->Nat->Bool}(hP:C.prog=PG)
include hP
theorem AU(h0:dq N first kl tg τ ms hs G)(sm:Sm G){a:Rx}(hb:uy C (d+1) vC P a)(hn:G.n+(jL a+2)<=500){skip again:Bool}
  (q:∀τ' ms' hs' G' h t,dq N first kl tg τ' ms' hs' G'->gO N τ τ' ms hs ms' hs'->Sm G'->Seg (jL a+2) (vU a) G (Ho skip again (dP P a)) G' h t->Q (.tup [.int (h:Nat),.int (t:Nat)]) τ'):
  callN C (d+2) "build_loop" [.ref N.A,bq a,vC,.bool skip,.bool again] τ Q:=by
 refine dF (Bd hP rfl ?_);refine mm hP h0 (by exact bt (nat_lit 0x3e8980afa4d8190241) rfl hn) λτ1 ms1 hs1 a1 g1=>?_;have n1:G.addState.n=G.n+1:=Gr.n_state;refine hb N first kl tg τ1 ms1 hs1 _ _ a1 sm.state (by exact b9 (nat_lit 0xfa4c22915609084fa4d8190241) rfl hn n1) λτ2 ms2 hs2 G2 h t a2 g2 sm2 seg=>?_
 have s1:=seg.size;have s2:=seg.hh;have s3:=seg.ht;refine mm hP a2 (by exact ir (nat_lit 0xfa26328452185609084fa4d8190241) rfl hn n1 s1.2) λτ3 ms3 hs3 a3 g3=>?_;have n3:G2.addState.n=G2.n+1:=Gr.n_state;refine oA hP a3 (by exact ir (nat_lit 0x6b0c8ab148631002b0c803) rfl n1 s1.1 n3) (by exact uk (nat_lit 0x1f44c8558e4410452185609084fa4d8190241) rfl hn n1 s1.2 n3) (sm2.state.len _) λτ4 a4 g4=>?_;have sm4:=sm2.state.hop (s:=G.n) (g:=h) a3.ok (by exact ir (nat_lit 0x6b0c8ab148631002b0c803) rfl n1 s1.1 n3) (by exact⟨uk (nat_lit 0x7d13592451ac9208452185609084fa4d8190241) rfl hn n1 s1.2 s2.2,b9 (nat_lit 0x960915619086158241) rfl s2.2 n3⟩);have n4: (G2.addState.addHop G.n h).n=G2.n+1:=Gr.n_hop.trans n3;refine oA hP a4 (by exact b9 (nat_lit 0x960915619086158241) rfl s3.2 n4) (by exact uk (nat_lit 0x1f44c8558e4410452185609084fa4d8190241) rfl hn n1 s1.2 n4) (sm4.len _) λτ5 a5 g5=>?_;have sm5:=sm4.hop (s:=t) (g:=G2.n) a4.ok (by exact b9 (nat_lit 0x960915619086158241) rfl s3.2 n4) (by exact⟨ir (nat_lit 0x3e89ac7228452185609084fa4d8190241) rfl hn n1 s1.2,bt (nat_lit 0xb0c8ab0c803) rfl n4⟩);have n5: ((G2.addState.addHop G.n h).addHop t G2.n).n=G2.n+1:=Gr.n_hop.trans n4;have loop:=Seg.loop h0.ok seg skip again;have g:=(((g1.trans g2).trans g3).trans g4).trans g5;generalize(G2.addState.addHop G.n h).addHop t G2.n=G5 at*;have sm6:=sm5.ifHop (b:=again) (s:=t) (g:=h) a5.ok (by exact b9 (nat_lit 0x960915619086158241) rfl s3.2 n5) (by exact⟨uk (nat_lit 0x7d13592451ac9208452185609084fa4d8190241) rfl hn n1 s1.2 s2.2,b9 (nat_lit 0x960915619086158241) rfl s2.2 n5⟩);have n6: (ifHop again G5 t h).n=G2.n+1:=Jt.trans n5;have fin:∀τ6,dq N first kl tg τ6 ms3 hs3 (ifHop again G5 t h)->gO N τ τ6 ms hs ms3 hs3->wpSs C (d+1) [] (sF.body.drop 6) [some (.ref N.A),some (bq a),some vC,some (.bool skip),some (.bool again),some (.int (G.n:Nat)),some (.int (h:Nat)),some (.int (t:Nat)),some (.int (G2.n:Nat)),none] τ6 (q6 Q):=by
  intro τ6 a6 g6;have sm7:=sm6.ifHop (b:=skip) (s:=G.n) (g:=G2.n) a6.ok (by exact ir (nat_lit 0x6b0c8ab148631002b0c803) rfl n1 s1.1 n6) (by exact⟨ir (nat_lit 0x3e89ac7228452185609084fa4d8190241) rfl hn n1 s1.2,bt (nat_lit 0xb0c8ab0c803) rfl n6⟩);refine y8 (λe=>?_) λe=>?_
  ·subst e
   refine oA hP a6 (by exact ir (nat_lit 0x6b0c8ab148631002b0c803) rfl n1 s1.1 n6) (by exact uk (nat_lit 0x1f44c8558e4410452185609084fa4d8190241) rfl hn n1 s1.2 n6) (sm6.len _) λτ7 a7 g7=>?_;exact q _ _ _ _ _ _ a7 (g6.trans g7) sm7 loop
  ·subst e
   exact q _ _ _ _ _ _ a6 g6 sm7 loop
 refine y8 (λe=>?_) λe=>?_
 ·clear n6 sm6 loop q;subst e
  refine oA hP a5 (by exact b9 (nat_lit 0x960915619086158241) rfl s3.2 n5) (by exact uk (nat_lit 0x1f44c8558e4410452185609084fa4d8190241) rfl hn n1 s1.2 n5) (sm5.len _) λτ6 a6 g6=>?_;exact fin τ6 a6 (g.trans g6)
 ·clear n6 sm6 loop q;subst e
  exact fin τ5 a5 g
omit hP in
theorem uZ{A:Lg}{w:Wd}:Ho true true A w↔bQ A w:=⟨λh=>bQ.unfold.mpr (h.imp_left (·.2)),λh=>(bQ.unfold.mp h).imp_left (⟨rfl,·⟩)⟩
theorem H0(h0:dq N first kl tg τ ms hs G)(sm:Sm G){a:Rx}(hb:uy C (d+1) vC P a){lo:Nat}{hi:Option Nat}(hlo:lo<=3)(hhi:∀n,hi=some n->lo<=n/\n<=3)(hn:G.n+jL (.rep a lo hi)<=500)
  (q:∀τ' ms' hs' G' h t,dq N first kl tg τ' ms' hs' G'->gO N τ τ' ms hs ms' hs'->Sm G'->Seg (jL (.rep a lo hi)) (vU (.rep a lo hi)) G (dP P (.rep a lo hi)) G' h t->Q (.tup [.int (h:Nat),.int (t:Nat)]) τ'):
  callN C (d+3) "build_copies" [.ref N.A,bq (.rep a lo hi),vC] τ Q:=by
 have hb2:uy C (d+2) vC P a:=λN first kl tg τ ms hs G Q x1 x2 x3 x4=>lR (hb N first kl tg τ ms hs G Q x1 x2 x3 x4) (dI _)
 have lo_le:1+lo*jL a<=jL (.rep a lo hi):=by
  cases hi with
  |none=>show _<=3+(lo+1)*jL a;rw[fN];exact bt (nat_lit 0x8034049b202e45) rfl
  |some n=>
   have:=dh (jL a) (hhi n rfl).1;exact bt (nat_lit 0x2c9017228401) rfl this
 refine dF (yI hP rfl ?_);refine mm hP h0 (by exact bt (nat_lit 0xfa2602be9308241) rfl hn) λτ1 ms1 hs1 a1 g1=>?_;refine gU ?_;refine hC (α:=Pf) (n:=lo) (by exact ci (nat_lit 0x3cb2c122b401) rfl hlo) (λx=>[some (.ref N.A),some (bq (.rep a lo hi)),some vC,some (.int (G.n:Nat)),some (.int (x.t:Nat)),x.o,x.p,x.q,none,none,none,none]) (λx=>x.τ)
  (λi x=>dq N first kl tg x.τ x.ms x.hs x.G/\gO N τ x.τ ms hs x.ms x.hs/\Sm x.G/\Seg (1+i*jL a) (i*vU a) G (fg (dP P a) i) x.G G.n x.t) (λi x hi' I w_ R hR=>?_) (λx I=>?_) ⟨τ1,ms1,hs1,G.addState,G.n,none,none,none⟩
  ⟨a1,g1,sm.state,(Seg.one h0.ok).le (by exact ci (nat_lit 0x145c965) rfl) (by exact ci (nat_lit 0x5145) rfl)⟩ rfl rfl
 ·intro En;refine iq I λat' gr sm' seg=>?_;clear I
  have le: (i+1)*jL a<=lo*jL a:=dh _ hi';rw[fN,gR]at le;have s1:=seg.size;have s2:=seg.ht;refine hb2 N first kl tg x.τ x.ms x.hs x.G _ at' sm' (by exact J6 (nat_lit 0x3e93216451ae409142220e41089720be9308241) rfl hn lo_le le s1.2) λτ2 ms2 hs2 G2 h2 t2 a2 g2 sm2 seg2=>?_
  have s3:=seg2.size;have s4:=seg2.hh;refine oA hP a2 (by exact b9 (nat_lit 0x2582451042158241) rfl s2.2 s3.1) (by exact Nv (nat_lit 0x3e8998a42c8c11ae409142220e41089720be9308241) rfl hn lo_le le s1.2 s3.2) (sm2.len _) λτ3 a3 g3=>?_;refine hR ⟨τ3,ms2,hs2,G2.addHop x.t h2,t2,_,_,_⟩ ⟨a3,(gr.trans g2).trans g3,sm2.hop seg2.ok (by exact b9 (nat_lit 0x2582451042158241) rfl s2.2 s3.1) (by exact⟨Oq (nat_lit 0x1f44d67914cb3c8242c8c11ae409142220e41089720be9308241) rfl hn lo_le le s1.2 s3.2 s4.2,bt (nat_lit 0x2b048a158241) rfl s4.2⟩),?_⟩;exact((seg.cat seg2).iff λw=>f8.symm).le (by rw[fN,gR];exact bt (nat_lit 0x4125c8205ca45) rfl) (by rw[fN,gR];exact bt (nat_lit 0x41208245) rfl)
 ·intro En;refine iq I λat' gr sm' seg=>?_;clear I
  have s1:=seg.size;have s2:=seg.ht;cases hi with
  |none=>
   refine kj ?_;have hn':G.n+(3+(lo+1)*jL a)<=500:=hn;rw[fN,gR]at hn';refine AU hP at' sm' hb (by exact ir (nat_lit 0x3e9360e40915f498c526c832089720c801) rfl s1.2 hn') (skip:=true) (again:=true) λτ2 ms2 hs2 G2 h2 t2 a2 g2 sm2 seg2=>?_;have s3:=seg2.size;have s4:=seg2.hh;refine oA hP a2 (by exact b9 (nat_lit 0x2582451042158241) rfl s2.2 s3.1) (by exact uk (nat_lit 0x3e8990ac1c812205f498c526c832089720c801) rfl s1.2 hn' s3.2) (sm2.len _) λτ3 a3 g3=>?_;refine q _ _ _ _ _ _ a3 ((gr.trans g2).trans g3) (sm2.hop seg2.ok (by exact b9 (nat_lit 0x2582451042158241) rfl s2.2 s3.1) (by exact⟨J6 (nat_lit 0x1f44d659148b2c82c1c812205f498c526c832089720c801) rfl s1.2 hn' s3.2 s4.2,bt (nat_lit 0x2b048a158241) rfl s4.2⟩)) ?_;refine((seg.cat seg2).iff λw=>?_).le (by show _<=3+(lo+1)*jL a;rw[fN];exact bt (nat_lit 0x8034049b2606405ca45) rfl) (by show _<=(lo+1)*vU a;rw[fN];exact bt (nat_lit 0x200d01208245) rfl);exact⟨dp.mono (λw_ h=>h) (λw_=>uZ.mp),dp.mono (λw_ h=>h) (λw_=>uZ.mpr)⟩
  |some hi=>
   obtain⟨l1,l2⟩:=hhi hi rfl;have hn':G.n+(2+hi*jL a)<=500:=hn;refine cU ?_;have ml:lo*jL a<=hi*jL a:=dh _ l1;refine mm hP at' (by exact ir (nat_lit 0xfa26028c4b905f498c32089720c801) rfl s1.2 hn lo_le) λτ2 ms2 hs2 a2 g2=>?_;have n2:x.G.addState.n=x.G.n+1:=Gr.n_state;refine oA hP a2 (by exact b9 (nat_lit 0x960915619086158241) rfl s2.2 n2) (by exact uk (nat_lit 0x1f44c855824410c4b905f498c32089720c801) rfl s1.2 hn lo_le n2) (sm'.state.len _) λτ3 a3 g3=>?_;have e1: ((hi:Nat):Int)- (lo:Nat)=((hi-lo:Nat):Int):=by lia
   refine tv ?_;refine ao e1 ?_;refine gU ?_;refine hC (α:=Pf) (n:=hi-lo) (by exact b9 (nat_lit 0x796586450083213401) rfl l2 (ar (bt (nat_lit 0x2028401) rfl l1))) (λy=>[some (.ref N.A),some (bq (.rep a lo (some hi))),some vC,some (.int (G.n:Nat)),some (.int (y.t:Nat)),y.o,y.p,y.q,some (.int (x.G.n:Nat)),none,none,none]) (λy=>y.τ)
    (λj y=>dq N first kl tg y.τ y.ms y.hs y.G/\gO N τ y.τ ms hs y.ms y.hs/\Sm y.G/\∃k e,k=2+(lo+j)*jL a/\e=(lo+j)*vU a/\Be k e lo j G (dP P a) y.G y.t x.G.n) (λj y hj J w_ R hR=>?_) (λy J=>?_) ⟨τ3,ms2,hs2,_,x.t,x.o,x.p,x.q⟩
    ⟨a3,(gr.trans g2).trans g3,sm'.state.hop a2.ok (by exact b9 (nat_lit 0x960915619086158241) rfl s2.2 n2) (by exact⟨ir (nat_lit 0x3e89ac1228c4b905f498c32089720c801) rfl s1.2 hn lo_le,bt (nat_lit 0xb0c8ab0c803) rfl n2⟩),_,_,?_,?_,Be.init seg⟩ rfl rfl
   ·intro En;obtain⟨at',gr,sm',k,e,ek,ee,op⟩:=J
    have le: (lo+j+1)*jL a<=hi*jL a:=dh _ (by exact ir (nat_lit 0x358052914620c84158241) rfl hj (ar (bt (nat_lit 0x2028401) rfl l1)));rw[fN _ 1,gR]at le;have s1:=op.size;have s2:=op.rl;have s5:=op.re;refine hb2 N first kl tg y.τ y.ms y.hs y.G _ at' sm' (by exact J6 (nat_lit 0x3e932164510245084839046c9084fa4c2c90241) rfl hn' ek le s1.2) λτ2 ms2 hs2 G2 h2 t2 a2 g2 sm2 seg2=>?_
    have s3:=seg2.size;have s4:=seg2.hh;have s6:=seg2.ht;refine oA hP a2 (by exact b9 (nat_lit 0x2582451042158241) rfl s2.2.1 s3.1) (by exact Nv (nat_lit 0x3e8998a42c8c110245084839046c9084fa4c2c90241) rfl hn' ek le s1.2 s3.2) (sm2.len _) λτ3 a3 g3=>?_;have n3: (G2.addHop y.t h2).n=G2.n:=Gr.n_hop;have sm3:=sm2.hop (s:=y.t) (g:=h2) a2.ok (by exact b9 (nat_lit 0x2582451042158241) rfl s2.2.1 s3.1) (by exact⟨Oq (nat_lit 0x1f44d67914cb3c8242c8c110245084839046c9084fa4c2c90241) rfl hn' ek le s1.2 s3.2 s4.2,bt (nat_lit 0x2b048a158241) rfl s4.2⟩);refine oA hP a3 (by exact b9 (nat_lit 0x2582450886158241) rfl s6.2 n3) (by exact Oq (nat_lit 0x1f44ce531c442c8c110245084839046c9084fa4c2c90241) rfl hn' ek le s1.2 s3.2 n3) (sm3.len _) λτ4 a4 g4=>?_;refine hR ⟨τ4,ms2,hs2,_,t2,_,_,_⟩ ⟨a4,((gr.trans g2).trans g3).trans g4,sm3.hop a3.ok (by exact b9 (nat_lit 0x2582450886158241) rfl s6.2 n3) (by exact⟨Nv (nat_lit 0xfa26b348a559a4110245084839046c9084fa4c2c90241) rfl hn' ek le s1.2 s5.2.1,ir (nat_lit 0x1ac12288631042158241) rfl s5.2.1 s3.1 n3⟩),_,_,?_,?_,op.step seg2⟩
    ·refine ao ek ?_;rewrite[<- sM lo];rewrite[fN _ 1];rewrite[gR];exact aN (bt (nat_lit 0x4126482064a45) rfl) (bt (nat_lit 0x40c9482093245) rfl)
    ·refine ao ee ?_;rewrite[<- sM lo];rewrite[fN _ 1];rewrite[gR];with_reducible rfl
   ·intro En;obtain⟨at',gr,sm',k,e,ek,ee,op⟩:=J
    have eh:lo+(hi-lo)=hi:=by exact aN (b9 (nat_lit 0x400c8a208242) rfl (ar (bt (nat_lit 0x2028401) rfl l1))) (b9 (nat_lit 0x1908a208243) rfl (ar (bt (nat_lit 0x2028401) rfl l1)))
    rw[eh]at ek ee;refine q _ _ _ _ _ _ at' gr sm' ((op.fin.iff λw=>?_).le (by refine ao ek ?_;exact aG _) (by refine ao ee ?_;exact aG _));refine ao eh ?_;exact iw
   ·show 1+lo*jL a+1=2+lo*jL a;exact aN (ci (nat_lit 0x649605ca45) rfl) (ci (nat_lit 0xb02e5203245) rfl)
   ·exact rfl
end
theorem iC(s t:String)(h:pK s t=true):¬ae s=ae t:=λe=>k9 h e
theorem pH(f:Rx->Nat)(c:Bool)(hf:∀a b,f (tJ c a b)=f a+f b+k):∀(ps:List Rx) (p:Rx),f (ps.foldl (tJ c) p)=((p::ps).map f).sum+ps.length*k
 |[]=>λp=>by simp
 |b::ps=>λp=>by
  refine ao lZ ?_;rewrite[pH f c hf ps];refine ao bC ?_;refine ao bC ?_;refine ao bC ?_;refine ao kW ?_;refine ao kW ?_;refine ao kW ?_;rewrite[hf];refine ao bv ?_;rewrite[fN];rewrite[gR];exact aN (uk (nat_lit 0x89218640948831041294a45) rfl) (uk (nat_lit 0xc4408252948839083204a45) rfl)
theorem z4(P:Sp->Nat->Bool)(w:Wd):∀(ps:List Rx) (p:Rx),dP P (ps.foldl (tJ false) p) w↔∃x∈p::ps,dP P x w
 |[]=>λp=>by simp
 |b::ps=>λp=>by
  refine ao lZ ?_;rewrite[z4 P w ps];simp only[a9,exists_eq_or_imp];show((dP P p w\/dP P b w)\/_)↔_;rw[or_assoc]
theorem BW:∀(ps:List Rx) (p:Rx),ps.foldl (tJ true) p=ps.foldl .cat p
 |[]=>λp=>rfl
 |b::ps=>λp=>BW ps _
theorem Hi(c:Bool)(r:Rx): (∀x∈ch c r,(Wf r->Wf x)/\∀s∈leaves x,s∈leaves r)/\(ch c r).length<=gz r:=by
 have base:∀r:Rx,ch c r=[r]->(∀x∈ch c r,(Wf r->Wf x)/\∀s∈leaves x,s∈leaves r)/\(ch c r).length<=gz r:=λr e=>by
  refine ao e ?_;exact⟨λx hx=>by refine ao (aq.mp hx) ?_;exact⟨id,λw_ h=>h⟩,fK r⟩
 have step:∀a b:Rx,(Wf (tJ c a b)->Wf a/\Wf b)->leaves (tJ c a b)=leaves a++leaves b->((∀x∈ch c a,(Wf a->Wf x)/\∀s∈leaves x,s∈leaves a)/\(ch c a).length<=gz a)->(∀x∈ch c (tJ c a b),(Wf (tJ c a b)->Wf x)/\∀s∈leaves x,s∈leaves (tJ c a b))/\(ch c (tJ c a b)).length<=gz (tJ c a b):=by
  intro a b hw hl ⟨h1,h2⟩;rewrite[ER];refine ao hl ?_;rewrite[vk];refine⟨λx hx=>?_,by refine ao aC ?_;have:=fK b;simp;exact b9 (nat_lit 0x1064028401) rfl h2⟩;rcases aI.mp hx with z|z
  ·exact⟨λw=>(h1 x z).1 (hw w).1,λs hs=>bh _ ((h1 x z).2 s hs)⟩
  ·refine ao (aq.mp z) ?_;exact⟨λw=>(hw w).2,λs hs=>aL _ hs⟩
 induction r with
 |cat a b iha ihb=>cases c with
  |true=>exact step a b id rfl iha
  |false=>exact base _ rfl
 |alt a b iha ihb=>cases c with
  |true=>exact base _ rfl
  |false=>exact step a b id rfl iha
 |chars s=>exact base _ (by clear step;cases c<;>rfl)
 |empty=>exact base _ (by clear step;cases c<;>rfl)
 |never=>exact base _ (by clear step;cases c<;>rfl)
 |star a=>exact base _ (by clear a_ih step;cases c<;>rfl)
 |plus a=>exact base _ (by clear a_ih step;cases c<;>rfl)
 |opt a=>exact base _ (by clear a_ih step;cases c<;>rfl)
 |rep a lo hi=>exact base _ (by clear a_ih step base;cases c<;>rfl)
theorem HQ(c:Bool)(a b:Rx):∃p ps,ch c (tJ c a b)=p:: (ps++[b])/\(ps++[b]).foldl (tJ c) p=tJ c a b/\∀x∈p:: (ps++[b]),gz x+1<=gz (tJ c a b):=by
 refine cr (IH c a) λp ps e1 e2 e3=>?_;refine⟨p,ps,by rewrite[ER];refine ao e1 ?_;rfl,by refine ao iA (ao e2 ?_);rfl,λx hx=>?_⟩;rw[vk];rw[<- iV]at hx;rcases aI.mp hx with z|z
 ·have:=e3 x z;exact b9 (nat_lit 0x5883292c1228401) rfl this
 ·refine ao (aq.mp z) ?_;exact bt (nat_lit 0xb0065258245) rfl
section
variable{sets:List Sp}{bounds numbers:List Nat}{count:Nat}(hP:C.prog=PG)
include hP
theorem J0(hc:tK sets bounds numbers count):∀(n d':Nat) (r:Rx),gz r<=n->n<=300->Wf r->(∀s∈leaves r,s∈sets)->3*gz r<=d'->uy C d' (xJ bounds numbers count) (pC bounds numbers count) r:=by
 intro n
 induction n with
 |zero=>intro d' r h;have:=fK r;lia
 |succ n ih=>
  intro d' r hn h300 wf lv hd N first kl tg τ ms hs G Q h0 sm hG q
  have hp:=fK r;obtain⟨d,rfl⟩:∃d,d'=d+3:=⟨d'-3,by exact aN (bt (nat_lit 0x1a0904a168243) rfl (ar (bt (nat_lit 0xb4a05ac2000e81) rfl hd hp))) (bt (nat_lit 0x2d048a168242) rfl (ar (bt (nat_lit 0xb4a05ac2000e81) rfl hd hp)))⟩;refine dF (IR hP rfl ?_);have two:∀Q':V->AH->Prop,(∀τ' ms' hs',dq N first kl tg τ' ms' hs' G.addState.addState->gO N τ τ' ms hs ms' hs'->G.addState.addState.n=G.n+2->wpSs C (d+2) [] (xN.body.drop 9) [some (.ref N.A),some (bq r),some (xJ bounds numbers count),some (qV (qR r)),some (.int (G.n:Nat)),some (.int (G.n+1:Nat)),none,none,none,none,none] τ' (q6 Q'))->
    G.n+2<=500->wpSs C (d+2) [] (xN.body.drop 7) [some (.ref N.A),some (bq r),some (xJ bounds numbers count),some (qV (qR r)),none,none,none,none,none,none,none] τ (q6 Q'):=by
   intro Q' k h5;refine mm hP h0 (by exact bt (nat_lit 0xfa2602be9308241) rfl hG) λτ1 ms1 hs1 a1 g1=>?_;have n1:G.addState.n=G.n+1:=Gr.n_state;have n2:G.addState.addState.n=G.addState.n+1:=Gr.n_state;refine mm hP a1 (by exact b9 (nat_lit 0x1f44c455824213e9308241) rfl hG n1) λτ2 ms2 hs2 a2 g2=>?_;refine ao n1 ?_;exact k τ2 ms2 hs2 a2 (g1.trans g2) (by exact aN (b9 (nat_lit 0x3032115609084b0c802) rfl n1 n2) (b9 (nat_lit 0x981915609086b0c803) rfl n1 n2))
  cases r with
  |chars s=>
   have hs':s∈sets:=lv s (.head _);refine fj (iC "chars" "cat" rfl) (fj (iC "chars" "alt" rfl) (fj (iC "chars" "star" rfl) (fj (iC "chars" "plus" rfl) (fj (iC "chars" "opt" rfl) (fj (iC "chars" "repeat" rfl) ?_)))));refine two Q (λτ2 ms2 hs2 a2 g2 n2=>?_) hG;refine mN rfl ?_;refine mW_of (q:=("Nfa.add_move",true)) (fR a2.aA rfl) ?_;refine mW_of (q:=("Classes.mask",true)) rfl (La hP hc hs' λm hm=>?_);refine Lb hP a2 (by exact bt (nat_lit 0xb0c8ac0c803) rfl n2) (by exact b9 (nat_lit 0x1f44c456024213e9308241) rfl hG n2) (by refine ao Gr.mo_state (ao Gr.mo_state (ao (Gr.mo_ge (aG _)) ?_));exact bg _) λτ3 a3 g3=>?_;refine q _ _ _ _ _ _ a3 (g2.trans g3) (sm.state.state.move (by exact bt (nat_lit 0xb0c8ac0c803) rfl n2) (by exact bt (nat_lit 0x2d61948ac0c803) rfl n2)) ((Seg.chars h0.ok m).iff λw=>exists_congr λa=>and_congr_right λw_=>?_);rw[hm];unfold pC;rewrite[bD];refine ao decide_eq_true_eq ?_;with_reducible rfl
  |empty=>
   refine fj (iC "empty" "cat" rfl) (fj (iC "empty" "alt" rfl) (fj (iC "empty" "star" rfl) (fj (iC "empty" "plus" rfl) (fj (iC "empty" "opt" rfl) (fj (iC "empty" "repeat" rfl) ?_)))));refine two Q (λτ2 ms2 hs2 a2 g2 n2=>?_) hG;refine fj (iC "empty" "chars" rfl) (mN rfl ?_);refine oA hP a2 (by exact bt (nat_lit 0xb0c8ac0c803) rfl n2) (by exact b9 (nat_lit 0x1f44c456024213e9308241) rfl hG n2) (sm.state.state.len _) λτ3 a3 g3=>?_;exact q _ _ _ _ _ _ a3 (g2.trans g3) (sm.state.state.hop a2.ok (by exact bt (nat_lit 0xb0c8ac0c803) rfl n2) (by have:G.n+2<=500:=hG;exact⟨bt (nat_lit 0xfa26b582522be9308241) rfl hG,bt (nat_lit 0x2d61948ac0c803) rfl n2⟩)) (Seg.empty h0.ok)
  |never=>
   refine fj (iC "never" "cat" rfl) (fj (iC "never" "alt" rfl) (fj (iC "never" "star" rfl) (fj (iC "never" "plus" rfl) (fj (iC "never" "opt" rfl) (fj (iC "never" "repeat" rfl) ?_)))));refine two Q (λτ2 ms2 hs2 a2 g2 n2=>?_) hG;refine fj (iC "never" "chars" rfl) (fj (iC "never" "empty" rfl) ?_);exact q _ _ _ _ _ _ a2 g2 sm.state.state (Seg.never h0.ok)
  |star a=>
   have hh:gz a+1<=n+1:=by have:1+gz a<=n+1:=hn;exact bt (nat_lit 0x16192c122ac3202e41) rfl this
   have hd:3*(1+gz a)<=d+3:=hd;have hG:G.n+(2+jL a)<=500:=hG;refine fj (iC "star" "cat" rfl) (fj (iC "star" "alt" rfl) (mN rfl ?_));refine AU hP h0 sm (ih (d+1) a (by exact bt (nat_lit 0x202ac3258241) rfl hh) (by exact ci (nat_lit 0x4b2602a59358241) rfl h300) wf lv (by exact bt (nat_lit 0x16190003a15a19017200e81) rfl hd)) (by exact bt (nat_lit 0x1f49b032048afa4c2c90241) rfl hG) λτ' ms' hs' G' h t a' g' s' seg=>?_;exact q _ _ _ _ _ _ a' g' s' ((seg.iff λw=>uZ).le (by show _<=2+jL a;exact ci (nat_lit 0x19260245) rfl) (aG _))
  |plus a=>
   have hh:gz a+1<=n+1:=by have:1+gz a<=n+1:=hn;exact bt (nat_lit 0x16192c122ac3202e41) rfl this
   have hd:3*(1+gz a)<=d+3:=hd;have hG:G.n+(2+jL a)<=500:=hG;refine fj (iC "plus" "cat" rfl) (fj (iC "plus" "alt" rfl) (fj (iC "plus" "star" rfl) (mN rfl ?_)));refine AU hP h0 sm (ih (d+1) a (by exact bt (nat_lit 0x202ac3258241) rfl hh) (by exact ci (nat_lit 0x4b2602a59358241) rfl h300) wf lv (by exact bt (nat_lit 0x16190003a15a19017200e81) rfl hd)) (by exact bt (nat_lit 0x1f49b032048afa4c2c90241) rfl hG) λτ' ms' hs' G' h t a' g' s' seg=>?_;exact q _ _ _ _ _ _ a' g' s' ((seg.iff λw=>⟨λh=>h.elim (λh=>mj h.1) id,.inr⟩).le (by show _<=2+jL a;exact ci (nat_lit 0x19260245) rfl) (aG _))
  |opt a=>
   have hh:gz a+1<=n+1:=by have:1+gz a<=n+1:=hn;exact bt (nat_lit 0x16192c122ac3202e41) rfl this
   have hd:3*(1+gz a)<=d+3:=hd;have hG:G.n+(2+jL a)<=500:=hG;refine fj (iC "opt" "cat" rfl) (fj (iC "opt" "alt" rfl) (fj (iC "opt" "star" rfl) (fj (iC "opt" "plus" rfl) (mN rfl ?_))));refine AU hP h0 sm (ih (d+1) a (by exact bt (nat_lit 0x202ac3258241) rfl hh) (by exact ci (nat_lit 0x4b2602a59358241) rfl h300) wf lv (by exact bt (nat_lit 0x16190003a15a19017200e81) rfl hd)) (by exact bt (nat_lit 0x1f49b032048afa4c2c90241) rfl hG) λτ' ms' hs' G' h t a' g' s' seg=>?_;exact q _ _ _ _ _ _ a' g' s' ((seg.iff λw=>⟨λh=>h.elim (λh=> .inl h.2) λh=> .inr (fS.mp h),λh=>h.elim (λh=> .inl ⟨rfl,h⟩) λh=> .inr (fS.mpr h)⟩).le (by show _<=2+jL a;exact ci (nat_lit 0x19260245) rfl) (aG _))
  |rep a lo hi=>
   have hh:gz a+1<=n+1:=by have:1+gz a<=n+1:=hn;exact bt (nat_lit 0x16192c122ac3202e41) rfl this
   have hd:3*(1+gz a)<=d+3:=hd;have ha:=fK a;obtain⟨e,rfl⟩:∃e,d=e+1:=⟨d-1,by exact aN (bt (nat_lit 0x160904a158243) rfl (ar (bt (nat_lit 0xaca0585a19017200e81) rfl hd ha))) (bt (nat_lit 0x2b048a158242) rfl (ar (bt (nat_lit 0xaca0585a19017200e81) rfl hd ha)))⟩;have hw:Wf a/\lo<=3/\∀m,hi=some m->lo<=m/\m<=3:=by
    cases hi with
    |none=>exact⟨wf.1,wf.2,λm e=>nomatch e⟩
    |some m=>exact⟨wf.1,a8 wf.2.1 wf.2.2,λm' e=>by replace e:=ac e;subst e;exact wf.2⟩
   refine fj (iC "repeat" "cat" rfl) (fj (iC "repeat" "alt" rfl) (fj (iC "repeat" "star" rfl) (fj (iC "repeat" "plus" rfl) (fj (iC "repeat" "opt" rfl) (mN rfl ?_)))));exact H0 hP h0 sm (ih (e+1) a (by exact bt (nat_lit 0x202ac3258241) rfl hh) (by exact ci (nat_lit 0x4b2602a59358241) rfl h300) hw.1 lv (by exact bt (nat_lit 0x5864000e856ac329017200e81) rfl hd)) hw.2.1 hw.2.2 hG q
  |cat a b=>
   have hg:=vk true a b;refine cr (HQ true a b) λp ps e1 e2 e3=>?_;obtain⟨w1,w2⟩:=Hi true (.cat a b);rw[BW]at e2;have e1:ch true (.cat a b)=p:: (ps++[b]):=e1;have hb:∀x∈p:: (ps++[b]),uy C (d+1) (xJ bounds numbers count) (pC bounds numbers count) x:=λx hx=>by
    have h1:gz x+1<=gz (.cat a b):=e3 x hx;obtain⟨w3,w4⟩:=w1 x (e1▸hx);exact ih (d+1) x (by exact b9 (nat_lit 0x11140b1482b0c801) rfl hn h1) (by exact ci (nat_lit 0x4b2602a59358241) rfl h300) (w3 wf) (λs hs=>lv s (w4 s hs)) (by exact b9 (nat_lit 0xb0c8401d0a058a4b6864000e81) rfl hd h1)
   refine mN rfl ?_;refine EK hP (c:=true) (by exact bt (nat_lit 0x964c25582410a59358241) rfl h300 hn) ?_;refine ao e1 ?_;rw[e1,bv]at w2;exact Nw hP h0 sm (by exact b9 (nat_lit 0x12c988a158a41582410a59358241) rfl h300 hn w2) hb (by refine ao e2 ?_;exact hG) (by refine ao e2 ?_;exact q)
  |alt a b=>
   have hg:=vk false a b;refine cr (HQ false a b) λp ps e1 e2 e3=>?_;obtain⟨w1,w2⟩:=Hi false (.alt a b);have e1:ch false (.alt a b)=p:: (ps++[b]):=e1;have hb:∀x∈p:: (ps++[b]),uy C (d+1) (xJ bounds numbers count) (pC bounds numbers count) x:=λx hx=>by
    have h1:gz x+1<=gz (.alt a b):=e3 x hx;obtain⟨w3,w4⟩:=w1 x (e1▸hx);exact ih (d+1) x (by exact b9 (nat_lit 0x11140b1482b0c801) rfl hn h1) (by exact ci (nat_lit 0x4b2602a59358241) rfl h300) (w3 wf) (λs hs=>lv s (w4 s hs)) (by exact b9 (nat_lit 0xb0c8401d0a058a4b6864000e81) rfl hd h1)
   have f1:=pH jL false (k:=2) (λa b=>by exact aN (bt (nat_lit 0x30209482064a45) rfl) (bt (nat_lit 0x40c9498104a45) rfl)) (ps++[b]) p;have f2:=pH vU false (k:=0) (λa b=>by exact aN (bt (nat_lit 0xa0825208245) rfl) (bt (nat_lit 0x10494104a45) rfl)) (ps++[b]) p;have f3:=λw=>z4 (pC bounds numbers count) w (ps++[b]) p;rw[e2]at f1 f2;simp only[e2]at f3;rw[aC]at f1;have f1:jL (.alt a b)=((p:: (ps++[b])).map jL).sum+(ps.length+1)*2:=f1;have f2:vU (.alt a b)=((p:: (ps++[b])).map vU).sum+_*0:=f2;refine fj (iC "alt" "cat" rfl) (mN rfl ?_);refine EK hP (c:=false) (by exact bt (nat_lit 0x964c25582410a59358241) rfl h300 hn) ?_;refine ao e1 ?_;rw[e1]at w2;exact Hg hP h0 sm (by exact b9 (nat_lit 0x4b26228441582410a59358241) rfl h300 hn w2) hb (by exact ir (nat_lit 0x1f49b052048ab1c802a8a411be9308241) rfl hG f1) λτ' ms' hs' G' h t a' g' s' seg=>q _ _ _ _ _ _ a' g' s' ((seg.iff λw=>(f3 w).symm).le (by exact b9 (nat_lit 0x18191562900550c803) rfl f1) (by exact b9 (nat_lit 0x25100150c803) rfl f2))
end
noncomputable def wT(G:Gr)(t:Nat):V:= .inst "Nfa" ["moves","hops","tags","first"] [.list (G.mv.map λl=> .list (l.map wV)),.list (G.hp.map λl=> .list (cP l)),.dict [(t:Int)] [.int 0],.int 0]
structure KH(k e:Nat)(G:Gr)(t:Nat)(A:Lg):Prop where
 ok:G.Ok
 sm:Sm G
 n:G.n<=k
 pos:0<G.n
 e':G.e<=e
 ht:t<G.n
 lang:∀w,NL G t 0 w↔A w
theorem tM{α:Type}{fZ σ:AH}{f:α->List V}:∀(as:List aY) (ls:List α),as.length=ls.length->(∀(i:Nat) (a:aY),as[i]?=some a->fZ a=none/\∃l,ls[i]?=some l/\σ a=some (.list (f l)))->tI fZ σ (as.map V.ref) (ls.map λl=>V.list (f l))
 |[],[]=>λw_ w_=>rfl
 |a::as,l::ls=>λe h=>by
  refine NS (h 0 a rfl) λh1 l' e1 h2=>?_;replace e1:=ac e1;subst e1;exact⟨_,_,rfl,.inr ⟨a,_,rfl,h1,h2,tI.refl⟩,tM as ls (cL e) λi b e=>h (i+1) b e⟩
 |[],_::_=>λe w_=>nomatch e
 |_::_,[]=>λe w_=>nomatch e
theorem DV{σ:AH}{a dd:aY}{c:String}{ns:List String}{vs:List V}{n:String}{v:V}{K:AH->Prop}(h:σ a=some (.inst c dd ns vs))(h1: (fB.find? λp=>p.1==c).isSome=true)(h2: (k8 c).contains n=true)(h3:ns.length<=20)(e:dB ns vs n v=(ns,vs))(q:K σ):ve (.ref a) n v σ K:=
 d5 h h1 h2 h3 (by refine ao e ?_;refine ao (oV h) ?_;exact q)
section
variable{sets:List Sp}{bounds numbers:List Nat}{count:Nat}(hP:C.prog=PG)
include hP
theorem MG(q:∀N τ,dq N 0 [] (λw_=> .none) τ [] [] ⟨[],[]⟩->(∀a∈N.all [] [],σ a=none)->σ N.D=none->Sub σ τ->Q (.ref N.A) τ):callN C (d+2) "Nfa" [] σ Q:=by
 refine bU.mpr (mI (jy 11 rfl) rfl λa dd ha hd hne=>yD hP rfl ?_);refine cJ (bg _) λM hM=>?_;generalize hσ1:mkInst σ "Nfa" a dd=σ1 at hM;have sub1:Sub σ σ1:=hσ1▸(Sub.refl.set hd _).set ha _;have a1:σ1 a=some (.inst "Nfa" dd [] []):=hσ1▸az ..;clear hσ1;have Ma:=AH.ne hM a1;refine d5 ((ay _ _ (aV Ma)).trans a1) rfl rfl (aj rfl) ?_;refine cJ (bg _) λH hH=>?_;generalize hσ2: (σ1.set M (.list [])).set a (.inst "Nfa" dd (dB [] [] "moves" (.ref M)).1 (dB [] [] "moves" (.ref M)).2)=σ2 at hH;have sub2:Sub σ σ2:=hσ2▸(sub1.set (sub1.no hM) _).set ha _;have a2:σ2 a=some (.inst "Nfa" dd ["moves"] [.ref M]):=hσ2▸az ..;have M2:σ2 M=some (.list []):=hσ2▸(ay _ _ Ma).trans (az ..);clear hσ2;have Ha:=AH.ne hH a2;have HM:=AH.ne hH M2;refine d5 ((ay _ _ (aV Ha)).trans a2) rfl rfl (aj rfl) ?_;intro T hT;generalize hσ3: (σ2.set H (.list [])).set a (.inst "Nfa" dd (dB ["moves"] [.ref M] "hops" (.ref H)).1 (dB ["moves"] [.ref M] "hops" (.ref H)).2)=σ3 at hT;have sub3:Sub σ σ3:=hσ3▸(sub2.set (sub2.no hH) _).set ha _;have a3:σ3 a=some (.inst "Nfa" dd ["moves","hops"] [.ref M,.ref H]):=hσ3▸az ..;have M3:σ3 M=some (.list []):=hσ3▸(ay _ _ Ma).trans ((ay _ _ (aV HM)).trans M2);have H3:σ3 H=some (.list []):=hσ3▸(ay _ _ Ha).trans (az ..);clear hσ3;have Ta:=AH.ne hT a3;have TM:=AH.ne hT M3;have TH:=AH.ne hT H3;refine d5 ((ay _ _ (aV Ta)).trans a3) rfl rfl (aj rfl) ?_;refine d5 (az ..) rfl rfl (aj rfl) ?_;rw[bO];refine⟨rfl,q ⟨a,dd,M,H,T⟩ _ ⟨az ..,(ay _ _ Ma).trans ((ay _ _ (aV TM)).trans M3),(ay _ _ Ha).trans ((ay _ _ (aV TH)).trans H3),(ay _ _ Ta).trans (az ..),rfl,rfl,rfl,λi a e=>by simp at e,λi a e=>by simp at e,by simp[aV HM]⟩ (λb hb=>?_) hd ((sub3.set (sub3.no hT) _).set ha _)⟩;simp only[NA.all,be,a9,dN,or_false]at hb;rcases hb with rfl|rfl|rfl|rfl
 ·exact ha
 ·exact sub3.no hT
 ·exact sub1.no hM
 ·exact sub2.no hH
theorem Hf(hc:tK sets bounds numbers count){r:Rx}(wf:Wf r)(lv:∀s∈leaves r,s∈sets)(h300:gz r<=100)(hd:3*gz r<=d)(hst:jL r<=400)(q:∀G t,KH (1+jL r) (vU r) G t (dP (pC bounds numbers count) r)->Q (wT G t) σ):
  callN C (d+1) "joined_nfa" [.list [.tup [bq r,.int 0]],xJ bounds numbers count] σ Q:=by
 have hp:=fK r;obtain⟨d,rfl⟩:∃e,d=e+2:=⟨d-2,by exact aN (bt (nat_lit 0x180904a160243) rfl (ar (bt (nat_lit 0xb0a05982000e81) rfl hd hp))) (bt (nat_lit 0x2c048a160242) rfl (ar (bt (nat_lit 0xb0a05982000e81) rfl hd hp)))⟩;refine mK (Bh hP rfl ?_);refine MG hP λN τ0 a0 new hD sub0=>?_;have sm0:Sm ⟨[],[]⟩:=λq=>⟨by simp[Gr.ho],by simp[Gr.ho],by simp[Gr.mo]⟩;refine mW_of (q:=("Nfa.set_first",true)) (fR a0.aA rfl) ?_;refine mm hP a0 (by decide) λτ1 ms1 hs1 a1 g1=>?_;refine dF (wH hP rfl ?_);refine DV a1.aA rfl rfl (aj rfl) rfl ?_;have n1: (Gr.addState ⟨[],[]⟩).n=1:=rfl;refine⟨bL,?_⟩;refine J0 hP hc (gz r) (d+2) r (aG _) (by exact ci (nat_lit 0x12c980a324c01) rfl h300) wf lv hd N 0 [] _ τ1 ms1 hs1 _ _ a1 sm0.state (by exact bt (nat_lit 0x3e93006455844c84c01) rfl hst n1) λτ2 ms2 hs2 G2 h t a2 g2 sm2 seg=>?_;have s1:=seg.size;have s2:=seg.hh;have s3:=seg.ht;refine mW_of (q:=("Nfa.add_hop",true)) (fR a2.aA rfl) ?_;refine oW_of (cF a2.aA rfl) ?_;refine Ku hP (s:=0) a2 (by exact bt (nat_lit 0x2b548a158241) rfl s2.2) (by exact b9 (nat_lit 0x3e8988a00c8415844c84c01) rfl hst n1 s1.2) (sm2.len _) λτ3 a3 g3=>?_;have sm3:=sm2.hop (s:=0) (g:=h) a2.ok (by exact bt (nat_lit 0x2b548a158241) rfl s2.2) (by exact⟨ir (nat_lit 0x1f44d639144b1c8200c8415844c84c01) rfl hst n1 s1.2 s2.2,bt (nat_lit 0x2b048a158241) rfl s2.2⟩);refine mW_of (q:=("Nfa.set_tag",true)) (fR a3.aA rfl) ?_;refine dF (zm hP rfl ?_);refine oW_of (cF a3.aA rfl) ?_;refine oW_of rfl ?_;refine kZ (k:=t) a3.aT fW (bg _) ?_;refine⟨bL,?_⟩;generalize hτ4:τ3.set N.T (cV (j0 [] t) (upd (λw_=> .none) t (.int 0)))=τ4;have g:=(g1.trans g2).trans g3;have n3: (G2.addHop 0 h).n=G2.n:=Gr.n_hop;have lang:∀w,NL (G2.addHop 0 h) t 0 w↔dP (pC bounds numbers count) r w:=λw=>Gg seg;have ed: (G2.addHop 0 h).e<=vU r:=by refine ao Gr.e_hop ?_;exact a8 seg.edges (by show 0+_<=_;exact ci (nat_lit 0x2a45) rfl)
 generalize G2.addHop 0 h=G3 at*;have new3:∀a∈N.all ms2 hs2,σ a=none:=λa ha=>(g.new a ha).elim (new a) sub0.no;have k4:∀a m,τ3 a=some m->a≠N.T->τ4 a=some m:=λa m e n=>by exact dk hτ4 (ao (ay _ _ n) (ao e rfl))
 have sub4:Sub σ τ4:=λa m e=>by
  have na:a∉N.all ms2 hs2:=λz=>by rw[new3 a z]at e;exact bx e
  refine k4 a m (g.keep a m (sub0 a m e) λz=>by rw[new a z]at e;exact bx e) λz=>na (by simp[NA.all,z])
 have TA:=dG a3.aT a3.aA (by nofun);have TM:=dG a3.aT a3.aM (by nofun);have TH:=dG a3.aT a3.aH (by nofun);refine⟨wT G3 t,sub4,.inr ⟨N.A,N.D,_,rfl,new3 _ (by simp[NA.all]),hD,k4 _ _ a3.aA (aV TA),?_⟩,q G3 t ⟨a3.ok,sm3,by exact ir (nat_lit 0x12e4328462102410ac02) rfl n1 s1.2 n3,by exact b9 (nat_lit 0x25aa450886158241) rfl s2.2 n3,ed,by exact b9 (nat_lit 0x2582450886158241) rfl s3.2 n3,lang⟩⟩;refine⟨_,_,rfl,.inr ⟨N.M,_,rfl,new3 _ (by simp[NA.all]),k4 _ _ a3.aM (aV TM),tM ms2 G3.mv a3.lm λi a e=>?_⟩,_,_,rfl,.inr ⟨N.H,_,rfl,new3 _ (by simp[NA.all]),k4 _ _ a3.aH (aV TH),tM hs2 G3.hp a3.lh λi a e=>?_⟩,_,_,rfl,.inr ⟨N.T,_,rfl,new3 _ (by simp[NA.all]),?_,tI.refl⟩,tI.refl⟩
 ·have hi:=(aE.mp e).1
  obtain⟨l,em⟩:∃l,G3.mv[i]?=some l:=⟨_,ah (by refine dk a3.lm ?_;exact hi)⟩;refine⟨new3 a (a3.memM e),l,em,k4 _ _ ?_ (aV (dG a3.aT (a3.rm i a e) (by nofun)))⟩;refine ao (a3.rm i a e) ?_;unfold Gr.mo;refine ao em ?_;rfl
 ·have hi:=(aE.mp e).1
  obtain⟨l,em⟩:∃l,G3.hp[i]?=some l:=⟨_,ah (by refine dk a3.lh ?_;exact hi)⟩;refine⟨new3 a (a3.memH e),l,em,k4 _ _ ?_ (aV (dG a3.aT (a3.rh i a e) (by nofun)))⟩;refine ao (a3.rh i a e) ?_;unfold Gr.ho;refine ao em ?_;rfl
 ·refine dk hτ4 ?_;rewrite[az]
  have:j0 [] t=[t]:=by unfold j0;exact rfl
  refine ao this ?_;show some (fM.dict [(t:Int)] [upd _ t (.int 0) t])=_;exact ao j8 rfl
end
noncomputable abbrev DQ:Nat->V:=λw_=> .bool true
theorem Eo{k:Nat}:upd DQ k (.bool true)=DQ:=by funext n;unfold upd;split<;>rfl
structure Jp where
 kl:List Nat
 st:List Nat
 τ:AH
 o:Option V
 p:Option V
structure Jp.Inv(σ:AH)(G:Gr)(s:Nat)(S W:aY)(x:Jp):Prop where
 aS:x.τ S=some (cV x.kl DQ)
 aW:x.τ W=some (.list (cP x.st))
 sub:Sub σ x.τ
 nd:x.kl.Nodup
 re:∀b∈x.kl,nC G s b/\b<G.n
 hs:s∈x.kl
 st':∀b∈x.st,b∈x.kl
 sl:x.st.length<=x.kl.length
theorem Jp.Inv.len{σ:AH}{G:Gr}{s:Nat}{S W:aY}{x:Jp}(I:Jp.Inv σ G s S W x):x.kl.length<=G.n:=by
 have:=gI (l':=bN G.n) I.nd λb hb=>du.mpr (I.re b hb).2;rwa [b7]at this
section
variable(hP:C.prog=PG)
theorem xU{a:aY}{kl:List Nat}{g:Nat->V}(h:σ a=some (cV kl g))(hl:kl.length<64)(q:∀nl:List Nat,nl.Perm kl->nl.Pairwise (·<=·)->jU (cP nl) σ Q):callN C d "sorted" [.ref a] σ Q:=
 bU.mpr (GP (jY h) (by rw[ai];exact hl) λms hp hs=>by
  clear hl h;refine d4 (BI hp hs) ?_;rintro nl rfl h1 h2;rw[<- xT];exact q nl h1 h2)
include hP
theorem Fd{G:Gr}{t s:Nat}(sm:Sm G)(ok:G.Ok)(hn:G.n<=63)(hs:s<G.n)(q:∀l:List Nat,(∀b,b∈l↔nC G s b)->(∀b∈l,b<G.n)->l.length<=63->Q (.tup (cP l)) σ):callN C (d+1) "closure" [wT G t,.list [.int s]] σ Q:=by
 refine mK (Fm hP rfl ?_);refine⟨bL,aj rfl,bL,λS hS=>?_⟩;have eS: (fM.dict [(s:Int)] [.bool true])=cV [s] DQ:=rfl;refine ao (show(fM.dict (vf [] (s:Int)) (vPut [] [] (s:Int) (V.bool true)))=cV [s] DQ from rfl) ?_;refine xU (az ..) (aj rfl) λnl hp w_=>?_;refine ao (sw.mp hp) ?_;refine cJ (aj rfl) λW hW=>?_;have WS:=AH.ne hW (az ..);have hW0:=(Sub.refl.set hS (cV [s] DQ)).no hW;refine iJ (α:=Jp) (λx=>2*(64-x.kl.length)+x.st.length) (λx=>[some (wT G t),some (.list [.int s]),x.o,some (.ref S),some (.ref W),x.p,none,none]) (λx=>x.τ)
  (λx=>Jp.Inv σ G s S W x/\∀b∈x.kl,b∈x.st\/∀g∈G.ho b,g∈x.kl) (λx hx R hR=>?_) ⟨[s],[s],_,none,none⟩ ⟨⟨(ay _ _ (aV WS)).trans (az ..),az ..,(Sub.refl.set hS _).set hW0 _,by exact cb _ _,λb hb=>by refine ao (aq.mp hb) ?_;exact⟨.refl,hs⟩,by exact .head _,λw_ h=>h,aG _⟩,λb hb=> .inl hb⟩
 intro En;obtain⟨I,cov⟩:=hx;have kl63:=I.len;have sl:=I.sl;refine oW_of (rS I.aW) (y8 (λhe=>?_) λhe=>?_)
 ·have hne:x.st≠ []:=by rintro e;rw[e]at he;exact mj he
  obtain⟨l,b,e⟩:∃l b,x.st=l++[b]:=⟨_,_,(ca hne).symm⟩;have aW:=I.aW;rw[e,<- iR]at aW;rw[e,aC]at sl;have sl:l.length+1<=x.kl.length:=sl;have hb:b∈x.kl:=I.st' b (by refine ao e ?_;exact aL _ (.head _));have bn:=(I.re b hb).2;refine GH aW (by rw[ai];exact b9 (nat_lit 0x62cb148a158a4100421fcc01) rfl hn kl63 sl) ?_;obtain⟨row,er⟩:∃row,G.hp[b]?=some row:=⟨_,ah (by refine ao ok ?_;exact bn)⟩;have eho:G.ho b=row:=by unfold Gr.ho;refine ao er ?_;rfl
  refine oW_of (mZ (v:= .list (cP row)) (by refine ao bb (ao er ?_);rfl) (by exact bt (nat_lit 0x1e59619140b0c821fcc01) rfl hn bn)) ?_;refine j7 (β:=Nat) (α:=Jp) (λg=> .int (g:Nat)) (λy=>[some (wT G t),some (.list [.int s]),some (.int (b:Nat)),some (.ref S),some (.ref W),y.p,none,none]) (λy=>y.τ)
   (λbs y=>Jp.Inv σ G s S W y/\(∃done,done++bs=row/\∀g∈done,g∈y.kl)/\(∀c∈y.kl,c=b\/c∈y.st\/∀g∈G.ho c,g∈y.kl)/\b∈y.kl/\2*(64-y.kl.length)+y.st.length<2*(64-x.kl.length)+x.st.length) ?_ (λg bs y J w_ R' hR'=>?_) (λy J=>?_) row ⟨x.kl,l,_,none,x.p⟩
   ⟨⟨(ay _ _ (aV WS)).trans I.aS,az ..,I.sub.set hW0 _,I.nd,I.re,I.hs,λc hc=>I.st' c (by refine ao e ?_;simp[hc]),by show l.length<=x.kl.length;exact bt (nat_lit 0x80a158241) rfl sl⟩,⟨[],rfl,λw_ h=>nomatch h⟩,λc hc=>?_,hb,by show 2*(64-x.kl.length)+l.length<_;refine ao e (ao aC ?_);exact aG _⟩
  ·exact λw_ w_ w_=>bL
  ·intro En;refine nY J ?_;clear J;rintro J ⟨done,ed,hd⟩ cv hb' mu
   have gm:g∈G.ho b:=by refine ao eho (dk ed ?_);exact aL _ (.head _)
   have j63:=J.len;have jl:=J.sl;refine oW_of (congrArg (fV (!·)) (ux (k:=g) J.aS)) (y8 (λhn=>?_) λhn=>?_)
   ·have hn:g∉y.kl:=by simpa using hn
    have ek:j0 y.kl g=y.kl++[g]:=by unfold j0;exact ao (if_neg hn) rfl
    refine kZ J.aS J.nd (by lia) ?_;refine ao Eo ?_;refine fH ((ay _ _ WS).trans J.aW) (by rw[ai];lia) ?_;have kn: (y.kl++[g]).Nodup:=ek▸s7 J.nd;have re:∀c∈y.kl++[g],nC G s c/\c<G.n:=λc hc=>by
     rcases aI.mp hc with z|z
     ·exact J.re c z
     ·refine ao (aq.mp z) ?_
      exact⟨(J.re b hb').1.snoc gm,((sm b).2.1 g gm).2⟩
    have kl2: (y.kl++[g]).length<=G.n:=by
     have:=gI (l':=bN G.n) kn λc hc=>du.mpr (re c hc).2;rwa [b7]at this
    rw[aC]at kl2;have kl2:y.kl.length+1<=G.n:=kl2;refine hR' ⟨y.kl++[g],y.st++[g],_,none,some (.int g)⟩ ⟨⟨(ay _ _ (aV WS)).trans ((az ..).trans (by exact ao ek rfl)),(az ..).trans (by rw[iR]),(J.sub.set hS _).set hW0 _,kn,re,bh _ J.hs,λc hc=>?_,by simp only[aC,bv,gc];exact bt (nat_lit 0x16a9064b5481228401) rfl jl⟩,⟨done++[g],by refine dk ed ?_;exact aJ ..,λc hc=>?_⟩,λc hc=>?_,bh _ hb',by simp only[aC,bv,gc];lia⟩
    ·rcases aI.mp hc with z|z
     ·exact bh _ (J.st' c z)
     ·exact aL _ z
    ·rcases aI.mp hc with z|z
     ·exact bh _ (hd c z)
     ·exact aL _ z
    ·rcases aI.mp hc with z|z
     ·rcases cv c z with z|z|z
      ·exact .inl z
      ·exact .inr (.inl (bh _ z))
      ·exact .inr (.inr λg' hg'=>bh _ (z g' hg'))
     ·exact .inr (.inl (aL _ z))
   ·have hn:g∈y.kl:=by simpa using hn
    refine hR' ⟨y.kl,y.st,y.τ,none,some (.int g)⟩ ⟨⟨J.aS,J.aW,J.sub,J.nd,J.re,J.hs,J.st',J.sl⟩,⟨done++[g],by refine dk ed ?_;exact aJ ..,λc hc=>?_⟩,cv,hb',mu⟩;rcases aI.mp hc with z|z
    ·exact hd c z
    ·refine ao (aq.mp z) ?_;exact hn
  ·intro En;refine nY J ?_;clear J;rintro J ⟨done,ed,hd⟩ cv hb' mu
   rw[be]at ed;refine hR ⟨y.kl,y.st,y.τ,some (.int b),y.p⟩ mu ⟨⟨J.aS,J.aW,J.sub,J.nd,J.re,J.hs,J.st',J.sl⟩,λc hc=>?_⟩;rcases cv c hc with rfl|z|z
   ·exact .inr λg hg=>hd g (by refine ao ed (dk eho ?_);exact hg)
   ·exact .inl z
   ·exact .inr z
  ·rcases cov c hc with z|z
   ·rw[e]at z
    rcases aI.mp z with z|z
    ·exact .inr (.inl z)
    ·exact .inl (aq.mp z)
   ·exact .inr (.inr z)
 ·have e:x.st=[]:=by
   have: (cP x.st).isEmpty=true:=by simpa using he
   simpa using this
  refine xU I.aS (by exact bt (nat_lit 0x8135864500421fcc01) rfl hn kl63) λnl hp w_=>?_;have nl63:nl.length<=63:=by refine ao hp.length_eq ?_;exact bt (nat_lit 0x1fcc2500421fcc01) rfl hn kl63
  refine d6 (by rw[ai];exact ci (nat_lit 0x18b00a1fcc01) rfl nl63) ?_;refine As rfl (by rw[ai];exact ci (nat_lit 0x18b00a1fcc01) rfl nl63) ?_;refine⟨_,I.sub,Dp.refl,q nl (λb=>?_) (λb hb=>(I.re b (hp.mem_iff.mp hb)).2) nl63⟩;rw[hp.mem_iff];refine⟨λh=>(I.re b h).1,λh=>?_⟩;have key:∀{a b},nC G a b->a∈x.kl->b∈x.kl:=λ{a b} h=>by
   induction h with
   |refl=>exact id
   |step hg _ ih=>exact λha=>ih ((cov _ ha).elim (λz=>by rw[e]at z;clear ha;cases z) λz=>z _ hg)
  exact key h I.hs
end
noncomputable def r6(b:Bool):V:= .tup (if b then[.int 0]else[])
noncomputable def wN(b:Bool):List Nat:=if b then[0]else[]
structure iI(S D K:aY)(G:Gr)(t:Nat)(kl:List Nat)(f:Nat->Nat)(τ:AH):Prop where
 aS:τ S=some (.inst "Subsets" D ["nfa","kept"] [wT G t,.ref K])
 aK:τ K=some (cV kl (gE f))
 nd:kl.Nodup
 cl:∀k∈kl,k<G.n/\zn G t k (f k)
theorem iI.len{S D K:aY}{G:Gr}{t:Nat}{kl:List Nat}{f:Nat->Nat}{τ:AH}(h:iI S D K G t kl f τ):kl.length<=G.n:=by
 have:=gI (l':=bN G.n) h.nd λk hk=>du.mpr (h.cl k hk).1;rwa [b7]at this
structure Pp where
 b:Bool
 o:Option V
structure Pn where
 m:Nat
 o:Option V
section
variable{S D K:aY}{G:Gr}{t:Nat}{kl:List Nat}{f:Nat->Nat}{τ:AH}(hP:C.prog=PG)
theorem AG{x t:Nat}: [(t:Int)].contains (x:Int)=decide (x=t):=by
 have:=Hv (kl:=[t]) (k:=x);rw[bC,mA]at this;refine ao (show[(t:Int)]=[vc t]from rfl) (ao this ?_);simp
include hP
theorem FE{l:List Nat}(hl:l.length<=16777216)(q:Q (r6 (decide (t∈l))) σ):callN C (d+1) "tags_of" [wT G t,.list (cP l)] σ Q:=by
 refine mK (Fa hP rfl ?_);intro F hF;refine j7 (β:=Nat) (α:=Pp) (λg=> .int (g:Nat)) (λy=>[some (wT G t),some (.list (cP l)),some (.ref F),y.o,none,none]) (λy=>σ.set F (cV (wN y.b) DQ)) (λbs y=>∃done,done++bs=l/\y.b=decide (t∈done)) ?_ (λg bs y J w_ R' hR'=>?_) (λy J=>?_) l ⟨false,none⟩ ⟨[],rfl,by exact rfl⟩
 ·exact λw_ w_ w_=>bL
 ·intro En;refine bJ J λdone ed eb=>?_;clear J
  refine y8 (λh=>?_) λh=>?_
  ·rw[AG]at h
   have h:=of_decide_eq_true h;clear eb q;subst h;refine oW_of (a:=V.int 0) (by exact if_pos rfl) ?_;refine kZ (k:=0) (az ..) (by unfold wN;split<;>simp) (by unfold wN;split<;>simp) ?_;rewrite[bO];refine ao Eo ?_;refine ao (show j0 (wN y.b) 0=wN true by unfold wN j0;cases y.b<;>(exact rfl)) ?_;exact hR' ⟨true,some (.int g)⟩ ⟨done++[g],by refine dk ed ?_;exact aJ ..,by simp⟩
  ·rw[AG]at h
   have h:=of_decide_eq_false h;refine hR' ⟨y.b,some (.int g)⟩ ⟨done++[g],by refine dk ed ?_;exact aJ ..,?_⟩;show y.b=_;refine ao eb ?_;have:¬t=g:=λe=>h e.symm;simp[this]
 ·intro En;refine bJ J λdone ed eb=>?_;clear J
  rw[be]at ed;subst ed;refine xU (az ..) (by unfold wN;split<;>(exact aj rfl)) λnl hp w_=>?_;have e:nl=wN y.b:=by
   unfold wN at hp ⊢;split at hp
   ·refine ao (if_pos (by assumption)) ?_;exact sw.mp hp
   ·refine ao (if_neg (by assumption)) ?_;exact List.perm_nil.mp hp
  have l1:nl.length<=1:=by refine ao e ?_;unfold wN;split<;>simp
  refine d6 (by rw[ai];exact ci (nat_lit 0x62c02ac01) rfl l1) (As rfl (by rw[ai];exact ci (nat_lit 0x62c02ac01) rfl l1) ⟨_,Sub.refl.set hF _,Dp.refl,?_⟩);refine ao e (ao eb ?_);have:V.tup (cP (wN (decide (t∈done))))=r6 (decide (t∈done)):=by unfold wN r6;split<;>rfl
  refine ao this ?_;exact q
theorem tW(sm:Sm G)(ok:G.Ok)(hn:G.n<=63){s:Nat}(hs:s<G.n)(h:iI S D K G t kl f τ)(q:∀kl' f' m,zn G t s m->iI S D K G t kl' f' (τ.set K (cV kl' (gE f')))->Q (.int (m:Nat)) (τ.set K (cV kl' (gE f')))):callN C (d+2) "Subsets.closure_of" [.ref S,.int s] τ Q:=by
 have kl63:=h.len;refine dF (qQ hP rfl ?_);refine oW_of (cF h.aS rfl) ?_;refine oW_of (congrArg (fV (!·)) (ux (k:=s) h.aK)) (y8 (λhe=>?_) λhe=>?_)
 ·have he:s∉kl:=by simpa using he
  refine oW_of (cF h.aS rfl) ?_;refine d6 (aj rfl) ?_;refine Fd hP sm ok hn hs λl hl hlt hlen=>?_;refine j7 (β:=Nat) (α:=Pn) (λg=> .int (g:Nat)) (λy=>[some (.ref S),some (.int s),some (.int (y.m:Nat)),y.o,none]) (λy=>τ) (λbs y=>∃done,done++bs=l/\∀b,y.m.testBit b=true↔b∈done/\(G.mo b≠ []\/b=t)) ?_ (λg bs y J w_ R' hR'=>?_) (λy J=>?_) l ⟨0,none⟩ ⟨[],rfl,λb=>by simp⟩
  ·exact λw_ w_ w_=>bL
  ·intro En;refine bJ J λdone ed hm=>?_;clear J
   have gn:=hlt g (by refine dk ed ?_;exact aL _ (.head _));obtain⟨row,er⟩:∃row,G.mv[g]?=some row:=⟨_,ah gn⟩;have emo:G.mo g=row:=by unfold Gr.mo;refine ao er ?_;rfl
   have on:∀KK:dy,(∀e τ,R' e τ->KK .next e τ)->(G.mo g≠ []\/g=t)->wpSs C (d+1) [] [.aug 2 .BitOr (.bin .LShift (.int 1) (.loc 3))] [some (.ref S),some (.int s),some (.int (y.m:Nat)),some (.int (g:Nat)),none] τ KK:=by
    intro KK hKK hw;refine vo (by exact bt (nat_lit 0xf424025d619140b0c821fcc01) rfl hn gn) (ut ?_);refine hKK _ _ (hR' ⟨y.m|||1 <<< g,_⟩ ⟨done++[g],by refine dk ed ?_;exact aJ ..,λb=>?_⟩);rw[Dg,hm];constructor
    ·rintro(⟨h1,h2⟩|rfl)
     ·exact⟨bh _ h1,h2⟩
     ·exact⟨by exact aL _ (.head _),hw⟩
    ·rintro⟨h1,h2⟩
     rcases aI.mp h1 with z|z
     ·exact .inl ⟨z,h2⟩
     ·exact .inr (aq.mp z).symm
   have off: (G.mo g=[]/\g≠t)->R' [some (.ref S),some (.int s),some (.int (y.m:Nat)),some (.int (g:Nat)),none] τ:=λhw=>by
    refine hR' ⟨y.m,some (.int g)⟩ ⟨done++[g],by refine dk ed ?_;exact aJ ..,λb=>?_⟩;rw[hm];refine⟨λz=>⟨bh _ z.1,z.2⟩,λz=>⟨(aI.mp z.1).elim id λe=>?_,z.2⟩⟩;rw[aq.mp e]at z;exact(z.2.elim (λq=>q hw.1) hw.2).elim
   refine oW_of (cF h.aS rfl) ?_;refine oW_of rfl ?_;refine oW_of rfl ?_;refine oW_of (mZ (v:= .list (row.map wV)) (by refine ao bb (ao er ?_);rfl) (by exact bt (nat_lit 0x1e59619140b0c821fcc01) rfl hn gn)) ?_;refine⟨λh0=>?_,λh1=>?_⟩
   ·have h0:G.mo g=[]:=by refine ao emo ?_;simpa using h0
    refine oW_of (cF h.aS rfl) ?_;refine oW_of rfl ?_;exact y8 (λe=>by rw[AG]at e;exact on _ (λw_ w_ h=>h) (.inr (of_decide_eq_true e))) λe=>by rw[AG]at e;exact off ⟨h0,of_decide_eq_false e⟩
   ·have h1':G.mo g≠ []:=by refine ao emo ?_;simpa using h1
    exact y8 (λw_=>on _ (λw_ w_ h=>h) (.inl h1')) λh=>by rw[h]at h1;exact mj h1
  ·intro En;refine bJ J λdone ed hm=>?_;clear J
   rw[be]at ed;clear hlen hlt;subst ed;have hcl:zn G t s y.m:=λb=>by rw[hm,hl];exact iw
   refine oW_of (cF h.aS rfl) ?_;refine oW_of rfl ?_;refine kZ (k:=s) h.aK h.nd (by exact bt (nat_lit 0xc582500421fcc01) rfl hn kl63) ?_;refine ao xl ?_;have ha:iI S D K G t (j0 kl s) (upd f s y.m) (τ.set K (cV (j0 kl s) (gE (upd f s y.m)))):=⟨(ay _ _ (dG h.aS h.aK (by nofun))).trans h.aS,az ..,s7 h.nd,λk hk=>by
    by_cases e:k=s
    ·clear hk hl he q;clear he;subst e;refine ao j8 ?_;exact⟨hs,hcl⟩
    ·refine ao (pA e) ?_;exact h.cl k ((k6.mp hk).resolve_right e)⟩
   refine oW_of (cF ha.aS rfl) ?_;refine oW_of rfl ?_;refine oW_of (qH ha.aK (k6.mpr (.inr rfl))) ?_;have:gE (upd f s y.m) s= .int (y.m:Nat):=by unfold gE;exact ao j8 rfl
   refine ao this ?_;exact q _ _ _ hcl ha
 ·have he:s∈kl:=by simpa using he
  refine oW_of (cF h.aS rfl) ?_;refine oW_of rfl ?_;refine oW_of (qH h.aK he) ?_;have:=q kl f (f s) (h.cl s he).2;rw[oV h.aK]at this;exact this h
end
theorem Mo{G:Gr}{q:Nat}: (G.mo q).length<=G.e:=by
 unfold Gr.mo Gr.e;generalize G.mv=l
 induction l generalizing q with
 |nil=>exact bg _
 |cons a l ih=>
  cases q with
  |zero=>exact bE _ _
  |succ q=>have:=ih (q:=q);simp at this ⊢;exact b9 (nat_lit 0x8a4028401) rfl this
structure KA where
 kl:List Nat
 f:Nat->Nat
 ws:List (Nat×Nat)
 o:Option V
 p:Option V
 q:Option V
structure KA.Inv(S D K:aY)(G:Gr)(t:Nat)(τ:AH)(F:aY)(P:Nat->Nat->Nat->Prop)(x:KA):Prop where
 at':iI S D K G t x.kl x.f ((τ.set K (cV x.kl (gE x.f))).set F (.list (x.ws.map wV)))
 s:∀m c,(m,c)∈x.ws->∃st g,P st m g/\zn G t g c
 c:∀st m g,P st m g->∃c,(m,c)∈x.ws/\zn G t g c
section
variable{S D K:aY}{G:Gr}{t:Nat}{kl:List Nat}{f:Nat->Nat}{τ:AH}(hP:C.prog=PG)
include hP
theorem II(sm:Sm G)(ok:G.Ok)(hn:G.n<=63)(hp:0<G.n)(h:iI S D K G t kl f τ){K':V->AH->Prop}(q:∀kl' f' m,zn G t 0 m->iI S D K G t kl' f' (τ.set K (cV kl' (gE f')))->K' (.int (m:Nat)) (τ.set K (cV kl' (gE f')))):
  mW τ (.ref S) "begin" λq=>callN C (d+3) q.1 (iY q.2 (.ref S) []) τ K':=by
 refine mW_of (q:=("Subsets.begin",true)) (fR h.aS rfl) (dF (wR hP rfl ?_));refine mW_of (q:=("Subsets.closure_of",true)) (fR h.aS rfl) ?_;refine oW_of (cF h.aS rfl) ?_;exact tW (s:=0) hP sm ok hn hp h q
theorem Mf{M:Nat}(hM:M<2 ^ 63)(h:iI S D K G t kl f τ){K':V->AH->Prop}(q:K' (r6 (M.testBit t)) τ):
  mW τ (.ref S) "tags" λq=>callN C (d+3) q.1 (iY q.2 (.ref S) [.int M]) τ K':=by
 refine mW_of (q:=("Subsets.tags",true)) (fR h.aS rfl) (dF (xF hP rfl ?_));refine oW_of (cF h.aS rfl) ?_;refine H6 hP hM (by decide) λl hl hl'=>?_;refine FE hP (by exact ci (nat_lit 0x18b00a1fcc01) rfl hl') ?_;have:decide (t∈l)=M.testBit t:=by rewrite[g8];refine ao decide_eq_true_eq ?_;rewrite[hl];with_reducible rfl
 refine ao this ?_;exact q
theorem I6{F:aY}{ws:List (Nat×Nat)}{a:Nat}(ha:a<1000)(h:iI S D K G t kl f τ)(hF:τ F=some (.list (ws.map wV))){K':V->AH->Prop}(q:∀m:Nat,(∀b,m.testBit b=true↔∃x∈ws,x.1.testBit a=true/\x.2.testBit b=true)->K' (.int m) τ):
  mW τ (.ref S) "after" λq=>callN C (d+3) q.1 (iY q.2 (.ref S) [.ref F,.int a]) τ K':=by
 refine mW_of (q:=("Subsets.after",true)) (fR h.aS rfl) (dF (wK hP rfl ?_));refine oW_of (oE hF) ?_;refine j7 (β:=Nat×Nat) (α:=KA) wV (λy=>[some (.ref S),some (.ref F),some (.int a),y.o,y.p,y.q]) (λy=>τ) (λbs y=>∃done m,done++bs=ws/\y.o=some (.int (m:Nat))/\∀b,m.testBit b=true↔∃x∈done,x.1.testBit a=true/\x.2.testBit b=true) ?_ (λg bs y J w_ R' hR'=>?_) (λy J=>?_) ws ⟨[],id,[],some (.int (0:Nat)),none,none⟩ ⟨[],0,rfl,rfl,λb=>by simp⟩
 ·exact λw_ w_ w_=>hF
 ·intro En;refine cr J λdone m ed eo hm=>?_;clear J
  obtain⟨kl0,f0,ws0,o,p,q'⟩:=y;have eo:o=some (.int (m:Nat)):=eo;subst eo;refine xQ (by exact ci (nat_lit 0x1e84804bac122fd1358241) rfl ha) (uV (b:=1) ?_);have eb: (g.1 >>>a &&& 1=0)↔g.1.testBit a=false:=by
   rw[Nat.testBit,p8];cases h: (1 &&& g.1 >>>a !=0)<;>simpa using h
  refine jV (λhb=>?_) λhb=>?_
  ·have hb:g.1.testBit a=true:=by
    cases h:g.1.testBit a with
    |true=>rfl
    |false=>exact absurd (congrArg hX (eb.mpr h)) hb
   refine ut ?_;refine hR' ⟨[],id,[],some (.int ((m|||g.2:Nat):Nat)),some (.int g.1),some (.int g.2)⟩ ⟨done++[g],_,by refine dk ed ?_;exact aJ ..,rfl,λb=>?_⟩;rw[dH,fE,hm];constructor
   ·rintro(⟨x,hx,z⟩|z)
    ·exact⟨x,bh _ hx,z⟩
    ·exact⟨g,by exact aL _ (.head _),hb,z⟩
   ·rintro⟨x,hx,z⟩
    rcases aI.mp hx with w|w
    ·exact .inl ⟨x,w,z⟩
    ·rw[aq.mp w]at z;exact .inr z.2
  ·have hb:g.1.testBit a=false:=eb.mp (cQ (uO.mp hb))
   refine hR' ⟨[],id,[],some (.int (m:Nat)),some (.int g.1),some (.int g.2)⟩ ⟨done++[g],m,by refine dk ed ?_;exact aJ ..,rfl,λb=>?_⟩;rw[hm];constructor
   ·rintro⟨x,hx,z⟩;exact⟨x,bh _ hx,z⟩
   ·rintro⟨x,hx,z⟩
    rcases aI.mp hx with w|w
    ·exact⟨x,w,z⟩
    ·rw[aq.mp w,hb]at z;cases z.1
 ·intro En;refine cr J λdone m ed eo hm=>?_;clear J
  obtain⟨kl0,f0,ws0,o,p,q'⟩:=y;have eo:o=some (.int (m:Nat)):=eo;subst eo;rw[be]at ed;clear hF;subst ed;exact q m hm
end
noncomputable def q5(τ:AH)(K F:aY)(x:KA):AH:=(τ.set K (cV x.kl (gE x.f))).set F (.list (x.ws.map wV))
section
variable{S D K:aY}{G:Gr}{t:Nat}{kl:List Nat}{f:Nat->Nat}{τ:AH}(hP:C.prog=PG)
include hP
theorem Lw(sm:Sm G)(ok:G.Ok)(hn:G.n<=63)(he:G.e<=1000){M:Nat}(hM:∀b,M.testBit b=true->b<G.n)(h:iI S D K G t kl f τ)(q:∀(F:aY) (kl':List Nat) (f':Nat->Nat) (ws:List (Nat×Nat)),τ F=none->iI S D K G t kl' f' ((τ.set K (cV kl' (gE f'))).set F (.list (ws.map wV)))->
  (∀a M',(∀b,M'.testBit b=true↔∃x∈ws,x.1.testBit a=true/\x.2.testBit b=true)->qX G t M a M')->Q (.ref F) ((τ.set K (cV kl' (gE f'))).set F (.list (ws.map wV)))):callN C (d+3) "Subsets.ways" [.ref S,.int M] τ Q:=by
 have hM63:M<2 ^ 63:=i0 M λi hi=>by
  rw[d9];intro z;have:=hM i z;exact bt (nat_lit 0x16190421fcc21fcc01) rfl hn hi this
 refine dF (xM hP rfl ?_);refine cJ (bg _) λF hF=>?_;have FS:=AH.ne hF h.aS;have FK:=AH.ne hF h.aK;have SK:=dG h.aS h.aK (by nofun);refine H6 hP hM63 (by decide) λl hl hlen=>?_;have e0:τ.set F (.list [])=q5 τ K F ⟨kl,f,[],none,none,none⟩:=by
  show _=(τ.set K (cV kl (gE f))).set F (.list []);exact ao (oV h.aK) rfl
 have s0:iI S D K G t kl f (q5 τ K F ⟨kl,f,[],none,none,none⟩):=by
  refine dk e0 ?_;exact⟨(ay _ _ (aV FS)).trans h.aS,(ay _ _ (aV FK)).trans h.aK,h.nd,h.cl⟩
 refine ao e0 ?_;refine j7 (β:=Nat) (α:=KA) (λg=> .int (g:Nat)) (λy=>[some (.ref S),some (.int M),some (.ref F),y.o,y.p,y.q,none]) (λy=>q5 τ K F y) (λbs y=>∃done,done++bs=l/\KA.Inv S D K G t τ F (λst m g=>st∈done/\(m,g)∈G.mo st) y/\y.ws.length<=done.length*1000) ?_ (λst bs y J w_ R' hR'=>?_) (λy J=>?_) l ⟨kl,f,[],none,none,none⟩
  ⟨[],rfl,⟨s0,λm c hm=>(nomatch hm),λst m g hm=>(nomatch hm.1)⟩,bg _⟩
 ·exact λw_ w_ w_=>bL
 ·intro En;refine d4 J λdone ed I wl=>?_;clear J
  have dl:done.length<=63:=by
   have:=congrArg dW ed;rw[aC]at this;exact b9 (nat_lit 0x7f3094020c841fcc01) rfl hlen this
  have stn:=hM st ((hl st).mpr (by refine dk ed ?_;simp));obtain⟨row,er⟩:∃row,G.mv[st]?=some row:=⟨_,ah stn⟩;have emo:G.mo st=row:=by unfold Gr.mo;refine ao er ?_;rfl
  have rl:row.length<=1000:=by have:=Mo (G:=G) (q:=st);rw[emo]at this;exact bt (nat_lit 0x1f44c250043f44c01) rfl he this
  refine oW_of (cF I.at'.aS rfl) ?_;refine oW_of rfl ?_;refine oW_of rfl ?_;refine oW_of (mZ (v:= .list (row.map wV)) (by refine ao bb (ao er ?_);rfl) (by exact bt (nat_lit 0x1e59619140b0c821fcc01) rfl hn stn)) ?_;refine j7 (β:=Nat×Nat) (α:=KA) wV (λy=>[some (.ref S),some (.int M),some (.ref F),some (.int (st:Nat)),y.p,y.q,none]) (λy=>q5 τ K F y) (λbs y=>∃done2,done2++bs=row/\KA.Inv S D K G t τ F (λs m g=>(s∈done/\(m,g)∈G.mo s)\/(s=st/\(m,g)∈done2)) y/\y.ws.length<=done.length*1000+done2.length) ?_ (λg bs2 z J2 w_ R2 hR2=>?_) (λz J2=>?_) row ⟨y.kl,y.f,y.ws,none,y.p,y.q⟩
   ⟨[],rfl,⟨I.at',λm c hm=>let⟨st,g,h1,h2⟩:=I.s m c hm;⟨st,g,.inl h1,h2⟩,λst m g hm=>I.c st m g (hm.elim id λz=>nomatch z.2)⟩,by simpa using wl⟩
  ·exact λw_ w_ w_=>bL
  ·intro En;refine d4 J2 λdone2 ed2 I2 wl2=>?_;clear J2
   have dl2:done2.length<=1000:=by
    have:=congrArg dW ed2;rw[aC]at this;exact b9 (nat_lit 0x7d13094020c85f44c01) rfl rl this
   have gm: (g.1,g.2)∈G.mo st:=by refine ao emo (dk ed2 ?_);simp
   have gn:=(sm st).2.2 g gm;refine AI (az ..) ?_;refine mW_of (q:=("Subsets.closure_of",true)) (fR I2.at'.aS rfl) ?_;refine tW hP sm ok hn gn I2.at' λkl2 f2 m hm sub2=>?_;have eh: (q5 τ K F z).set K (cV kl2 (gE f2))=q5 τ K F ⟨kl2,f2,z.ws,none,none,none⟩:=by
    unfold q5;refine ao (CS FK) ?_;rewrite[bO];with_reducible rfl
   rw[eh]at sub2 ⊢;refine j4 (az ..) (by rw[ai];show z.ws.length<=_;lia) ?_;have eh2: (q5 τ K F ⟨kl2,f2,z.ws,none,none,none⟩).set F (.list (z.ws.map wV++[wV (g.1,m)]))=q5 τ K F ⟨kl2,f2,z.ws++[(g.1,m)],none,none,none⟩:=by
    unfold q5;rewrite[bO];refine ao bw ?_;rfl
   have at2:iI S D K G t kl2 f2 (q5 τ K F ⟨kl2,f2,z.ws++[(g.1,m)],none,none,none⟩):=by
    refine dk eh2 ?_;exact⟨(ay _ _ (aV FS)).trans sub2.aS,(ay _ _ (aV FK)).trans sub2.aK,sub2.nd,sub2.cl⟩
   have fin:=hR2 ⟨kl2,f2,z.ws++[(g.1,m)],none,some (.int g.1),some (.int g.2)⟩ ⟨done2++[g],by refine dk ed2 ?_;simp,⟨at2,λm' c hm'=>?_,λs m' g' hm'=>?_⟩,by simp only[aC,bv,gc];exact b9 (nat_lit 0x5aa42907e8ac96a90245107e8ac801) rfl wl2⟩
   ·exact eh2▸fin
   ·rcases aI.mp hm' with w|w
    ·refine lk (I2.s m' c w) λs g' h1 h2=>?_
     exact⟨s,g',h1.imp id λz=>⟨z.1,bh _ z.2⟩,h2⟩
    ·cases aq.mp w
     exact⟨st,g.2,.inr ⟨rfl,by simp⟩,hm⟩
   ·have old: ((s∈done/\(m',g')∈G.mo s)\/(s=st/\(m',g')∈done2))->∃c,(m',c)∈z.ws++[(g.1,m)]/\zn G t g' c:=λq=>let⟨c,h1,h2⟩:=I2.c s m' g' q;⟨c,bh _ h1,h2⟩
    rcases hm' with w|⟨w,w'⟩
    ·exact old (.inl w)
    ·rcases aI.mp w' with v|v
     ·exact old (.inr ⟨w,v⟩)
     ·have v:=aq.mp v
      clear w' old at2 eh2 gn gm ed2;subst v;exact⟨m,by simp,hm⟩
  ·intro En;refine d4 J2 λdone2 ed2 I2 wl2=>?_;clear J2
   rw[be]at ed2;clear er;subst ed2;refine hR' ⟨z.kl,z.f,z.ws,some (.int st),z.p,z.q⟩ ⟨done++[st],by refine dk ed ?_;simp,⟨I2.at',λm c hm=>?_,λs m g hm=>?_⟩,by simp only[aC,bv,gc];exact b9 (nat_lit 0x2d520cbe8a80bf44c41107e8ac801) rfl wl2 rl⟩
   ·refine lk (I2.s m c hm) λs g h1 h2=>?_
    refine⟨s,g,?_,h2⟩;rcases h1 with w|⟨rfl,w⟩
    ·exact⟨bh _ w.1,w.2⟩
    ·exact⟨by simp,emo▸w⟩
   ·refine I2.c s m g ?_
    rcases aI.mp hm.1 with w|w
    ·exact .inl ⟨w,hm.2⟩
    ·have w:=aq.mp w
     clear I2 stn ed;subst w;exact .inr ⟨rfl,emo▸hm.2⟩
 ·intro En;refine d4 J λdone ed I wl=>?_;clear J
  rw[be]at ed;clear wl hlen;subst ed;refine q F y.kl y.f y.ws hF I.at' λa M' hM' b=>?_;rw[hM'];constructor
  ·rintro⟨⟨m,c⟩,hx,h1,h2⟩
   refine lk (I.s m c hx) ?_;rintro st g ⟨p1,p2⟩ p3;exact⟨st,m,g,(hl st).mpr p1,p2,h1,(p3 b).mp h2⟩
  ·rintro⟨st,m,g,p1,p2,p3,p4⟩
   refine bJ (I.c st m g ⟨(hl st).mp p1,p2⟩) λc h1 h2=>?_;exact⟨(m,c),h1,p3,(h2 b).mpr p4⟩
end
noncomputable def OM(G:Gr)(t:Nat)(M:Nat):Prop:=zn G t 0 M\/∃M0 a,qX G t M0 a M
theorem OM.lt{G:Gr}{t M:Nat}(ht:t<G.n)(h:OM G t M):∀b,M.testBit b=true->b<G.n:=λb hb=>by
 rcases h with h|⟨M0,a,h⟩
 ·exact((h b).mp hb).lt ht
 ·refine eR ((h b).mp hb) ?_;intro _ _ _ _ _ _ i;exact i.lt ht
noncomputable def qF(G:Gr)(t:Nat)(order:List Nat)(M:Nat)(r:List Int):Prop:=∀(a:Nat) (x:Int),r[a]?=some x->∃M',qX G t M a M'/\((M'=0/\x=-1)\/∃j:Nat,order[j]?=some M'/\M'≠0/\x=j)
section
variable{G:Gr}{t c:Nat}{order:List Nat}{rows:List (List Int)}{M:Nat}{r:List Int}
theorem qP.got(h:qP G t c order rows):∀M∈order,OM G t M:=λM hM=>by
 obtain⟨M0,rest,e,h0,hr⟩:=h.zero;rw[e]at hM;rcases a9.mp hM with rfl|h
 ·exact .inl h0
 ·refine zt (hr M h) λM1 a h=>?_;exact .inr ⟨M1,a,h⟩
theorem mq{α:Type}{l l':List α}{i:Nat}{x:α}(h:l[i]?=some x): (l++l')[i]?=some x:=by
 refine ao (cI (aE.mp h).1) ?_;exact h
theorem qF.grow{M':Nat}(h:qF G t order M r):qF G t (order++[M']) M r:=λa x e=>by
 refine bJ (h a x e) λM1 h1 h2=>?_;exact⟨M1,h1,h2.imp id λ⟨j,q1,q2⟩=>⟨j,mq q1,q2⟩⟩
theorem qF.snoc(h:qF G t order M r){x:Int}{M':Nat}(ha:qX G t M r.length M')(hx: (M'=0/\x=-1)\/∃j:Nat,order[j]?=some M'/\M'≠0/\x=j):qF G t order M (r++[x]):=λa y e=>by
 rcases mT e with e|⟨rfl,rfl⟩
 ·exact h a y e
 ·exact⟨M',ha,hx⟩
theorem qP.grow(h:qP G t c order rows){M':Nat}(hn:M'∉order)(ha:qX G t M a M'):qP G t c (order++[M']) rows where
 nd:=c7.mpr ⟨h.nd,by exact cb _ _,λx hx y hy e=>hn (by rw[aq.mp hy]at e;refine dk e ?_;exact hx)⟩
 zero:=by
  obtain⟨M0,rest,e,h0,hr⟩:=h.zero;refine⟨M0,rest++[M'],by refine ao e ?_;rfl,h0,λx hx=>?_⟩;rcases aI.mp hx with z|z
  ·exact hr x z
  ·refine ao (aq.mp z) ?_;exact⟨_,_,ha⟩
 len:=by refine ao aC ?_;have:=h.len;exact b9 (nat_lit 0x1064028401) rfl this
 row i r e:=by
  refine d4 (h.row i r e) λM1 h1 h2 h3=>?_;exact⟨M1,mq h1,h2,qF.grow h3⟩
theorem qP.row_app(h:qP G t c order rows)(hM:order[rows.length]?=some M)(hl:r.length=c)(hr:qF G t order M r):qP G t c order (rows++[r]) where
 nd:=h.nd
 zero:=h.zero
 len:=by refine ao aC ?_;have:=(aE.mp hM).1;simp;exact bt (nat_lit 0x2b048a158241) rfl this
 row i r' e:=by
  rcases mT e with e|⟨rfl,rfl⟩
  ·exact h.row i r' e
  ·exact⟨M,hM,hl,hr⟩
theorem qP.init{M:Nat}(h:zn G t 0 M):qP G t c [M] [] where
 nd:=by exact cb _ _
 zero:=⟨M,[],rfl,h,λw_ h=>nomatch h⟩
 len:=bg _
 row i r e:=by simp at e
end
section
variable{G:Gr}{t:Nat}(hP:C.prog=PG)
include hP
theorem FJ(q:∀S D K τ,iI S D K G t [] id τ->σ S=none->σ K=none->σ D=none->Sub σ τ->(∀a,σ a=none->a≠S->a≠D->a≠K->τ a=none)->Q (.ref S) τ):callN C (d+2) "Subsets" [wT G t] σ Q:=by
 refine bU.mpr (mI (jy 12 rfl) rfl λa dd ha hd hne=>to hP rfl ?_);refine d5 (az ..) rfl rfl (aj rfl) ?_;intro K hK;rw[mkInst,bO]at hK ⊢;have Ka:K≠a:=AH.ne hK (az ..);have hK1:=hK;rw[ay _ _ Ka]at hK1;have Kd:K≠dd:=AH.ne hK1 (az ..);rw[ay _ _ Kd]at hK1;refine d5 ((ay _ _ (aV Ka)).trans (az ..)) rfl rfl (aj rfl) ?_;refine⟨rfl,q a dd K _ ⟨az ..,(ay _ _ Ka).trans (az ..),fW,λk hk=>nomatch hk⟩ ha hK1 hd (((((Sub.refl.set hd _).set ha _).set hK1 _)).set ha _) λb hb h1 h2 h3=>?_⟩;exact ao (ay _ _ h1) (ao (ay _ _ h3) (ao (ay _ _ h1) (ao (ay _ _ h2) (ao hb rfl))))
end
structure L9 where
 S:aY
 D:aY
 K:aY
 O:aY
 P:aY
 W:aY
structure CH where
 order:List Nat
 rows:List (List Int)
 rs:List aY
 kl:List Nat
 f:Nat->Nat
 τ:AH
 o:Option V
 p:Option V
 q:Option V
 r:Option V
noncomputable def I1(order:List Nat):fM:=cV order (gE λm=>order.idxOf m)
structure CH.Inv(σ:AH)(A:L9)(G:Gr)(t c:Nat)(x:CH):Prop where
 sa:iI A.S A.D A.K G t x.kl x.f x.τ
 aO:x.τ A.O=some (.list (cP x.order))
 aP:x.τ A.P=some (I1 x.order)
 aW:x.τ A.W=some (.list (x.rs.map .ref))
 rl:x.rs.length=x.rows.length
 rc:∀(i:Nat) (a:aY),x.rs[i]?=some a->∃r:List Int,x.rows[i]?=some r/\x.τ a=some (.list (r.map .int))
 rn:∀a∈x.rs,σ a=none/\a≠A.O/\a≠A.W
 sub:Sub σ x.τ
 sm:qP G t c x.order x.rows
structure L9.Ok(σ:AH)(A:L9):Prop where
 hK:σ A.K=none
 hO:σ A.O=none
 hP:σ A.P=none
 hW:σ A.W=none
 OW:A.O≠A.W
 KP:A.K≠A.P
structure Li where
 order:List Nat
 r:List Int
 τ:AH
 o:Option V
 p:Option V
structure Li.Inv(σ:AH)(A:L9)(G:Gr)(t c:Nat)(rows:List (List Int))(rs:List aY)(kl:List Nat)(f:Nat->Nat)(M:Nat)(F R:aY)(ws:List (Nat×Nat))(i:Nat)(x:Li):Prop where
 b:CH.Inv σ A G t c ⟨x.order,rows,rs,kl,f,x.τ,none,none,none,none⟩
 aF:x.τ F=some (.list (ws.map wV))
 aR:x.τ R=some (.list (x.r.map .int))
 hM:x.order[rows.length]?=some M
 ro:qF G t x.order M x.r
 len:x.r.length=i
section
variable{A:L9}{G:Gr}{t c:Nat}{rows:List (List Int)}{rs:List aY}{kl:List Nat}{f:Nat->Nat}{M:Nat}{F R:aY}{ws:List (Nat×Nat)}(hP:C.prog=PG)
theorem CH.Inv.frame{x:CH}(I:CH.Inv σ A G t c x)(ok:A.Ok σ){τ':AH}{order':List Nat}(k:∀a m,x.τ a=some m->a≠A.O->a≠A.P->(a=A.S\/a=A.K\/a=A.W\/a∈x.rs)->τ' a=some m)(hO:τ' A.O=some (.list (cP order')))(hP':τ' A.P=some (I1 order'))(sub:Sub σ τ')(sm:qP G t c order' x.rows):
  CH.Inv σ A G t c ⟨order',x.rows,x.rs,x.kl,x.f,τ',none,none,none,none⟩ where
 sa:=⟨k _ _ I.sa.aS (dG I.sa.aS I.aO (by nofun)) (dG I.sa.aS I.aP (by nofun)) (.inl rfl),k _ _ I.sa.aK (dG I.sa.aK I.aO (by nofun)) ok.KP (.inr (.inl rfl)),I.sa.nd,I.sa.cl⟩
 aO:=hO
 aP:=hP'
 aW:=k _ _ I.aW (aV ok.OW) (dG I.aW I.aP (by nofun)) (.inr (.inr (.inl rfl)))
 rl:=I.rl
 rc i a e:=by
  refine bJ (I.rc i a e) λr e1 e2=>?_;have hm:=aX e;exact⟨r,e1,k _ _ e2 (I.rn a hm).2.1 (dG e2 I.aP (by nofun)) (.inr (.inr (.inr hm)))⟩
 rn:=I.rn
 sub:=sub
 sm:=sm
include hP
theorem HW(ok:A.Ok σ)(hF:σ F=none)(hR:σ R=none)(FO:F≠A.O)(RO:R≠A.O)(RF:R≠F)(RW:R≠A.W)(Rr:R∉rs)(he:G.e<=20)(hc:c<=100)(aft:∀a M',(∀b,M'.testBit b=true↔∃x∈ws,x.1.testBit a=true/\x.2.testBit b=true)->qX G t M a M')
  {x:Li} {i:Nat} (hi:i<c) (I:Li.Inv σ A G t c rows rs kl f M F R ws i x) {v0 v1 v5:Option V} {Rr':bT->AH->Prop} {KK:dy}
  (hR':∀y,Li.Inv σ A G t c rows rs kl f M F R ws (i+1) y->Rr' [v0,v1,some (.ref A.S),some (.ref A.O),some (.ref A.P),v5,some (.ref F),some (.ref R),y.o,y.p,none,none,none,none,none] y.τ):
  wpSs C (d+3) [] (xj ((match sC.body.getD 4 .stuck with| .whiles _ b=>b|_=>[]).getD 2 .stuck)) [v0,v1,some (.ref A.S),some (.ref A.O),some (.ref A.P),v5,some (.ref F),some (.ref R),some (.int i),x.p,none,none,none,none,none] x.τ (mO Rr' KK):=by
 have B:=I.b;have ol:=B.sm.order_le;have ol:x.order.length<=2 ^ 20+1:=a8 ol (c5 (dZ (by decide) he));have lr:=I.len;refine I6 hP (by exact bt (nat_lit 0x1f44d619140b0c82324c01) rfl hc hi) B.sa I.aF λm hm=>?_;have am:=aft i m hm;have fin:∀(τ1:AH) (order1:List Nat) (v:Int),CH.Inv σ A G t c ⟨order1,rows,rs,kl,f,τ1,none,none,none,none⟩->τ1 F=some (.list (ws.map wV))->τ1 R=some (.list (x.r.map .int))->order1[rows.length]?=some M->qF G t order1 M x.r->((m=0/\v=-1)\/∃j:Nat,order1[j]?=some m/\m≠0/\v=j)->
   Rr' [v0,v1,some (.ref A.S),some (.ref A.O),some (.ref A.P),v5,some (.ref F),some (.ref R),some (.int i),some (.int m),none,none,none,none,none] (τ1.set R (.list (x.r.map .int++[.int v]))):=by
  intro τ1 order1 v B1 F1 R1 M1 ro1 hv;refine hR' ⟨order1,x.r++[v],_,some (.int i),some (.int m)⟩ ⟨B1.frame ok (λa m e h1 h2 h3=>(ay _ _ ?_).trans e) ((ay _ _ (aV RO)).trans B1.aO) ((ay _ _ (dG B1.aP R1 (by nofun))).trans B1.aP) (B1.sub.set hR _) B1.sm,(ay _ _ (aV RF)).trans F1,(az ..).trans (by refine ao bw ?_;rfl),M1,ro1.snoc (lr.symm▸am) hv,by show(x.r++[v]).length=_;refine ao aC (ao lr ?_);rfl⟩;rcases h3 with rfl|rfl|rfl|h3
  ·exact dG B1.sa.aS R1 (by nofun)
  ·exact dG B1.sa.aK R1 (by nofun)
  ·exact aV RW
  ·exact λq=>Rr (q▸h3)
 refine jV (λhz=>?_) λhz=>?_
 ·have hz:m=0:=cQ hz
  refine fH I.aR (by rw[ai];exact b9 (nat_lit 0x18b08a11080b0c82324c01) rfl hc hi lr) ?_;exact fin _ _ _ B I.aF I.aR I.hM I.ro (.inl ⟨hz,rfl⟩)
 ·have hz:m≠0:=λe=>hz (congrArg hX e)
  have last:∀(KK':dy) (τ1:AH) (order1:List Nat),(∀e τ,Rr' e τ->KK' .next e τ)->CH.Inv σ A G t c ⟨order1,rows,rs,kl,f,τ1,none,none,none,none⟩->τ1 F=some (.list (ws.map wV))->τ1 R=some (.list (x.r.map .int))->order1[rows.length]?=some M->qF G t order1 M x.r->m∈order1->
    wpSs C (d+3) [] [.expr (.mcall (.loc 7) "append" [.sub (.loc 4) (.loc 9)])] [v0,v1,some (.ref A.S),some (.ref A.O),some (.ref A.P),v5,some (.ref F),some (.ref R),some (.int i),some (.int m),none,none,none,none,none] τ1 KK':=by
   intro KK' τ1 order1 hKK B1 F1 R1 M1 ro1 hmem;refine AI R1 ?_;refine oW_of (qH B1.aP hmem) (j4 R1 (by rw[ai];exact b9 (nat_lit 0x18b08a11080b0c82324c01) rfl hc hi lr) (hKK _ _ (fin τ1 order1 _ B1 F1 R1 M1 ro1 (.inr ⟨order1.idxOf m,?_,hz,rfl⟩))));refine ao (ah (iz hmem)) ?_;rewrite[jE];with_reducible rfl
  refine oW_of (congrArg (fV (!·)) (ux (k:=m) B.aP)) (y8 (λhn=>?_) λhn=>?_)
  ·have hn:m∉x.order:=by simpa using hn
   refine jN (li B.aO) (by rw[ai];show x.order.length<=_;exact ci (nat_lit 0x7ac02ac14b4801) rfl ol) ?_;refine kZ B.aP B.sm.nd (by show x.order.length<=_;exact ci (nat_lit 0x62c02ac14b4801) rfl ol) ?_;have ed:cV (j0 x.order m) (upd (gE λh=>x.order.idxOf h) m (.int ((cP x.order).length:Nat)))=I1 (x.order++[m]):=by
    rewrite[ai];refine ao xl ?_;unfold I1 cV;refine ao (EJ hn) ?_;unfold j0;exact ao (if_neg hn) rfl
   have OP:=dG B.aO B.aP (by nofun);have FP:=dG I.aF B.aP (by nofun);have RP:=dG I.aR B.aP (by nofun);refine fH ((ay _ _ OP).trans B.aO) (by rw[ai];show x.order.length<=_;exact ci (nat_lit 0x62c02ac14b4801) rfl ol) ?_;refine last _ _ (x.order++[m]) (λw_ w_ h=>h) (B.frame ok (λa m' e h1 h2 h3=>(ay _ _ h1).trans ((ay _ _ h2).trans e)) ((az ..).trans (by rw[iR])) ((ay _ _ (aV OP)).trans ((az ..).trans (congrArg some ed))) ((B.sub.set ok.hP _).set ok.hO _) (B.sm.grow hn am)) ((ay _ _ FO).trans ((ay _ _ FP).trans I.aF)) ((ay _ _ RO).trans ((ay _ _ RP).trans I.aR)) (mq I.hM) I.ro.grow (by exact aL _ (.head _))
  ·have hn:m∈x.order:=by simpa using hn
   exact last _ _ _ (λw_ w_ h=>h) B I.aF I.aR I.hM I.ro hn
end
noncomputable def nZ(D:Da):V:= .inst "Dfa" ["rows","tags"] [.list (D.rows.map λr=> .list (r.map .int)),.list (D.tags.map r6)]
theorem CH.Inv.up{σ:AH}{A:L9}{G:Gr}{t c:Nat}{x:CH}(I:CH.Inv σ A G t c x)(ok:A.Ok σ){τ':AH}{kl':List Nat}{f':Nat->Nat}{o p q r:Option V}(sa:iI A.S A.D A.K G t kl' f' τ')(k:∀a m,x.τ a=some m->a≠A.K->τ' a=some m)(sub:Sub σ τ'):CH.Inv σ A G t c ⟨x.order,x.rows,x.rs,kl',f',τ',o,p,q,r⟩ where
 sa:=sa
 aO:=k _ _ I.aO (dG I.aO I.sa.aK (by nofun))
 aP:=k _ _ I.aP (aV ok.KP)
 aW:=k _ _ I.aW (dG I.aW I.sa.aK (by nofun))
 rl:=I.rl
 rc i a e:=by
  refine bJ (I.rc i a e) λr e1 e2=>?_;exact⟨r,e1,k _ _ e2 (dG e2 I.sa.aK (by nofun))⟩
 rn:=I.rn
 sub:=sub
 sm:=I.sm
section
variable{G:Gr}{t c:Nat}{L:Lg}{k e:Nat}(hP:C.prog=PG)
include hP
theorem L4{x y:V}(q:∀a dd τ',σ a=none->σ dd=none->τ' a=some (.inst "Dfa" dd ["rows","tags"] [x,y])->Sub σ τ'->Q (.ref a) τ'):callN C (d+2) "Dfa" [x,y] σ Q:=by
 refine bU.mpr (mI (jy 13 rfl) rfl λa dd ha hd hne=>yu hP rfl ?_);refine d5 (az ..) rfl rfl (aj rfl) (d5 (az ..) rfl rfl (aj rfl) ⟨rfl,q a dd _ ha hd (az ..) ((((Sub.refl.set hd _).set ha _).set ha _).set ha _)⟩)
theorem GF(hk:KH k e G t L)(hn:G.n<=63)(he:G.e<=20)(hc:c<=100)(hc0:0<c)(q:∀D:Da,D.Is c G.e (NL G t 0)->Q (nZ D) σ):callN C (d+5) "subset_dfa" [wT G t,.int c] σ Q:=by
 refine mK (AN hP rfl ?_);refine FJ hP λS D K τ0 s0 hS hK hD sub0 w_=>?_;refine II hP hk.sm hk.ok hn hk.pos s0 λkl1 f1 M0 hM0 s1=>?_;generalize hτ1:τ0.set K (cV kl1 (gE f1))=τ1 at s1;have sub1:Sub σ τ1:=hτ1▸sub0.set hK _;clear hτ1;refine cJ (aj rfl) λO hO=>?_;refine oW_of (dU (i:=0) (az ..) rfl (by decide)) ?_;intro P hP';have PO:=AH.ne hP' (az ..);have hP1:τ1 P=none:=by rw[ay _ _ PO]at hP';exact hP'
 refine cJ (bg _) λW hW=>?_;have WP:=AH.ne hW (az ..);have WO:=AH.ne hW ((ay _ _ (aV PO)).trans (az ..));have hW1:τ1 W=none:=by rw[ay _ _ WP,ay _ _ WO]at hW;exact hW
 have KP:=AH.ne hP1 s1.aK;have ok:L9.Ok σ ⟨S,D,K,O,P,W⟩:=⟨hK,sub1.no hO,sub1.no hP1,sub1.no hW1,aV WO,aV KP⟩;have OS:=AH.ne hO s1.aS;have OK:=AH.ne hO s1.aK;have PS:=AH.ne hP1 s1.aS;have WS:=AH.ne hW1 s1.aS;have WK:=AH.ne hW1 s1.aK;refine iJ (α:=CH) (λx=>2 ^ G.e+2-x.rows.length) (λx=>[some (wT G t),some (.int c),some (.ref S),some (.ref O),some (.ref P),some (.ref W),x.o,x.p,x.q,x.r,none,none,none,none,none]) (λx=>x.τ)
  (λx=>CH.Inv σ ⟨S,D,K,O,P,W⟩ G t c x) (λx I R hR=>?_) ⟨[M0],[],[],kl1,f1,_,none,none,none,none⟩ ⟨⟨?_,?_,s1.nd,s1.cl⟩,?_,?_,az ..,rfl,λi a e=>by simp at e,λa h=>(nomatch h),?_,qP.init hM0⟩
 ·intro En;have ol:=I.sm.order_le
  have ol20:x.order.length<=2 ^ 20+1:=a8 ol (c5 (dZ (by decide) he));have rlen:=I.sm.len;have rl:=I.rl;refine jN (li I.aW) (by rw[ai];exact b9 (nat_lit 0x1eb08a1108010ac14b4801) rfl ol20 rlen rl) (jN (li I.aO) (by rw[ai];exact ci (nat_lit 0x7ac02ac14b4801) rfl ol20) ?_);rewrite[ai];rewrite[ai];refine ao rl ?_;refine jV (λhlt=>?_) λhge=>?_
  ·have hlt:x.rows.length<x.order.length:=ft.mp hlt
   obtain⟨M,eM⟩:∃M,x.order[x.rows.length]?=some M:=⟨_,ah hlt⟩;refine mW_of (q:=("Subsets.ways",true)) (fR I.sa.aS rfl) ?_;refine jN (li I.aW) (by rw[ai];exact b9 (nat_lit 0x1eb08a1108010ac14b4801) rfl ol20 rlen rl) ?_;rewrite[ai];refine ao rl ?_;refine oW_of (dU I.aO (by refine ao bb (ao eM ?_);rfl) (by exact bt (nat_lit 0x1e5961914010ac14b4801) rfl ol20 rlen)) ?_;refine Lw hP hk.sm hk.ok hn (by exact ci (nat_lit 0x3e8980a0a4c01) rfl he) ((I.sm.got M (aX eM)).lt hk.ht) I.sa λF kl2 f2 ws hF sa2 aft=>?_;have k2:∀a m,x.τ a=some m->a≠K->((x.τ.set K (cV kl2 (gE f2))).set F (.list (ws.map wV))) a=some m:=λa m ea na=>(ay _ _ (aV (AH.ne hF ea))).trans ((ay _ _ na).trans ea);have F2: ((x.τ.set K (cV kl2 (gE f2))).set F (.list (ws.map wV))) F=some (.list (ws.map wV)):=az ..;have hF0:=I.sub.no hF;have sub2:Sub σ ((x.τ.set K (cV kl2 (gE f2))).set F (.list (ws.map wV))):=(I.sub.set hK _).set hF0 _;have FO:=AH.ne hF I.aO;generalize(x.τ.set K (cV kl2 (gE f2))).set F (.list (ws.map wV))=τ2 at*;have B2:CH.Inv σ ⟨S,D,K,O,P,W⟩ G t c ⟨x.order,x.rows,x.rs,kl2,f2,τ2,none,none,none,none⟩:=I.up ok sa2 k2 sub2;refine cJ (bg _) λRw hRw=>?_;have RO:=AH.ne hRw B2.aO;have RW:=AH.ne hRw B2.aW;have RF:=AH.ne hRw F2;have RS:=AH.ne hRw B2.sa.aS;have RK:=AH.ne hRw B2.sa.aK;have hRw0:=sub2.no hRw;have Rr:Rw∉x.rs:=λh=>by
    obtain⟨i,hi⟩:=ky.mp h;refine bJ (B2.rc i Rw hi) ?_;intro r _ e2;exact absurd (hRw.symm.trans e2) (by nofun)
   have B3:CH.Inv σ ⟨S,D,K,O,P,W⟩ G t c ⟨x.order,x.rows,x.rs,kl2,f2,τ2.set Rw (.list []),none,none,none,none⟩:=
    B2.up ok ⟨(ay _ _ (aV RS)).trans B2.sa.aS,(ay _ _ (aV RK)).trans B2.sa.aK,B2.sa.nd,B2.sa.cl⟩ (λa m ea w_=>(ay _ _ (aV (AH.ne hRw ea))).trans ea) (sub2.set hRw0 _)
   refine gU ?_;refine hC (α:=Li) (n:=c) (by exact ci (nat_lit 0xf2cb048a324c01) rfl hc) (λy=>[some (wT G t),some (.int c),some (.ref S),some (.ref O),some (.ref P),some (.ref W),some (.ref F),some (.ref Rw),y.o,y.p,none,none,none,none,none]) (λy=>y.τ) (λi y=>Li.Inv σ ⟨S,D,K,O,P,W⟩ G t c x.rows x.rs kl2 f2 M F Rw ws i y) (λi y hi J w_ R' hR'=>?_) (λy J=>?_) ⟨x.order,[],_,x.q,x.r⟩ ⟨B3,(ay _ _ (aV RF)).trans F2,az ..,eM,λa x e=>by simp at e,rfl⟩ rfl rfl
   ·intro En;exact HW hP ok hF0 hRw0 FO RO RF RW Rr he hc aft hi J hR'
   ·intro En;have B:=J.b
    refine fH B.aW (by rw[ai];show x.rs.length<=_;exact b9 (nat_lit 0x18b08a1108010ac14b4801) rfl ol20 rlen rl) ?_;refine hR ⟨y.order,x.rows++[y.r],x.rs++[Rw],kl2,f2,y.τ.set W (.list (x.rs.map .ref++[.ref Rw])),some (.ref F),some (.ref Rw),y.o,y.p⟩ (by show 2 ^ G.e+2- (x.rows++[y.r]).length<2 ^ G.e+2-x.rows.length;refine ao aC ?_;simp;exact ir (nat_lit 0xd6091582904721ac5208242) rfl (ar (b9 (nat_lit 0xb0c8450082b0c801) rfl ol rlen)) (ar (b9 (nat_lit 0x60a412ac5208242) rfl (ar (b9 (nat_lit 0xb0c8450082b0c801) rfl ol rlen))))) ?_;have OW:O≠W:=aV WO;refine⟨⟨(ay _ _ (aV WS)).trans B.sa.aS,(ay _ _ (aV WK)).trans B.sa.aK,B.sa.nd,B.sa.cl⟩,(ay _ _ OW).trans B.aO,(ay _ _ (aV WP)).trans B.aP,(az ..).trans (by refine ao bw ?_;rfl),by refine ao aC (ao aC (ao rl ?_));rfl,λi a ea=>?_,λa ha=>?_,B.sub.set ok.hW _,B.sm.row_app J.hM J.len J.ro⟩
    ·rcases mT ea with ea|⟨rfl,rfl⟩
     ·refine bJ (B.rc i a ea) λr e1 e2=>?_
      exact⟨r,mq e1,(ay _ _ (B.rn a (aX ea)).2.2).trans e2⟩
     ·exact⟨y.r,by refine ao rl ?_;exact iB ..,(ay _ _ RW).trans J.aR⟩
    ·rcases aI.mp ha with z|z
     ·exact B.rn a z
     ·refine ao (aq.mp z) ?_;exact⟨hRw0,RO,RW⟩
  ·have hge:¬x.rows.length<x.order.length:=λh=>hge (ft.mpr h)
   refine oW_of (oE I.aO) ?_;refine jM (β:=Nat) (enc:=λm=> .int (m:Nat)) (f:=λm=>r6 (m.testBit t)) (E:=λv=>[none,some v,some (.ref S)]) ?_ (λw_ w_=>rfl) x.order [] _ (λw_=>rfl) (by simp;exact ci (nat_lit 0x62c02ac14b4801) rfl ol20) (λM hM K' k=>Mf hP ?_ I.sa k) ?_
   ·exact I.aO
   ·exact i0 M λi hi=>by
     rw[d9];intro z;have:=(I.sm.got M hM).lt hk.ht i z;exact bt (nat_lit 0x16190421fcc21fcc01) rfl hn hi this
   refine d6 (by simp;exact ci (nat_lit 0x62c02ac14b4801) rfl ol20) ?_;refine L4 hP λa dd τ' ha hdd ea sb=>?_;refine⟨nZ ⟨x.rows,x.order.map (·.testBit t)⟩,λb m eb=>sb b m (I.sub b m eb),.inr ⟨a,dd,_,rfl,I.sub.no ha,I.sub.no hdd,ea,?_⟩,q _ (I.sm.is (by exact aN (bt (nat_lit 0x2028401) rfl rlen) (bt (nat_lit 0x4a158244) rfl hge)) hc0)⟩;refine⟨_,_,rfl,.inr ⟨W,_,rfl,ok.hW,sb _ _ I.aW,tM x.rs x.rows rl λi a e=>?_⟩,_,_,rfl,?_,rfl⟩
   ·refine bJ (I.rc i a e) λr e1 e2=>?_
    exact⟨(I.rn a (aX e)).1,r,e1,sb _ _ e2⟩
   ·refine ao dE ?_;exact Dp.refl
 ·exact(ay _ _ (aV WS)).trans ((ay _ _ (aV PS)).trans ((ay _ _ (aV OS)).trans s1.aS))
 ·exact(ay _ _ (aV WK)).trans ((ay _ _ (aV KP)).trans ((ay _ _ (aV OK)).trans s1.aK))
 ·exact(ay _ _ (aV WO)).trans ((ay _ _ (aV PO)).trans (az ..))
 ·refine(ay _ _ (aV WP)).trans ((az ..).trans ?_)
  show some (fM.dict [(M0:Int)] [.int 0])=some (fM.dict [(M0:Int)] [.int ((([M0]:List Nat).idxOf M0:Nat):Int)]);simp
 ·exact((sub1.set (sub1.no hO) _).set (sub1.no hP1) _).set (sub1.no hW1) _
end
theorem Da.Is.up{D:Da}{c e e':Nat}{L L':Lg}(h:D.Is c e L)(he:e<=e')(hl:∀w,L w↔L' w):D.Is c e' L' where
 ok:=h.ok
 len:=a8 h.len (c5 (dZ (by decide) he))
 gl:=let⟨gl,a,b⟩:=h.gl;⟨gl,a8 a (dZ (by decide) he),b⟩
 acc w hw:=(h.acc w hw).trans (hl w)
theorem tK.cnt{sets:List Sp}{bounds numbers:List Nat}{count:Nat}(h:tK sets bounds numbers count):0<count/\count<=4:=by
 obtain⟨kn,k1,k2,k3⟩:=h.kn;refine bJ (k3 0 0 h.first) λn e1 e2=>?_;have h1:=h.num_lt e1;have h2:=gI (l:=bN count) (l':=numbers) pt λm hm=>h.full m (du.mp hm);rw[b7,h.len]at h2;have:=h.small;exact⟨bt (nat_lit 0x2b548a158241) rfl h1,bt (nat_lit 0xe015c108401) rfl h2 this⟩
section
variable{sets:List Sp}{bounds numbers:List Nat}{count:Nat}(hP:C.prog=PG)
include hP
theorem oF(hc:tK sets bounds numbers count){r:Rx}{k e g:Nat}(sm:dC k e g r)(hk:k<=60)(he:e<=20)(hg:g<=100)(hd:3*g+4<=d)(lv:∀s∈leaves r,s∈sets)(q:∀D:Da,D.Is count e (dP (pC bounds numbers count) r)->Q (nZ D) σ):
  callN C (d+1) "dfa_of" [bq r,xJ bounds numbers count] σ Q:=by
 have h1:=sm.st;have h2:=sm.ed;have h3:=sm.ht;obtain⟨c0,c4⟩:=hc.cnt;obtain⟨d,rfl⟩:∃d',d=d'+5:=by
  have:=fK r;exact⟨d-5,by exact aN (bt (nat_lit 0x1e0904a178243) rfl (ar (b9 (nat_lit 0x17944b080410b8001d241) rfl hd h3 this))) (bt (nat_lit 0x2f048a178242) rfl (ar (b9 (nat_lit 0x17944b080410b8001d241) rfl hd h3 this)))⟩
 refine dF (HR hP rfl ?_);refine d6 (aj rfl) ?_;refine Hf hP hc sm.wf lv (by exact bt (nat_lit 0x324c250042324c01) rfl hg h3) (by exact b9 (nat_lit 0xe148001d0af149c100e920840b) rfl h3 hd) (by exact bt (nat_lit 0xc84c2500421e4c01) rfl hk h1) λG t hG=>?_;have hGe:=hG.e';refine GF hP hG (by have:=hG.n;exact b9 (nat_lit 0x3f988a15c84100421e4c01) rfl hk h1 this) (by exact b9 (nat_lit 0x52622844100420a4c01) rfl he h2 hGe) (by exact ci (nat_lit 0x192602b801) rfl c4) c0 λD hD=>?_;exact q D (hD.up (by exact b9 (nat_lit 0x11140208401) rfl h2 hGe) hG.lang)
end
section
variable{D:Da}{c:Nat}(hP:C.prog=PG)
theorem GG(h:D.Ok c){n:Nat}(hn:n<D.rows.length):∃r,D.rows[n]?=some r/\r.length=c:=⟨_,ah hn,(h.row _ (pu hn)).1⟩
include hP
theorem rV(h:D.Ok c)(hs:D.rows.length<=1073741824){l:Int}(h1:-1<=l/\l<D.rows.length){a:Nat}(ha:a<c)(hc:c<=1000)(q:Q (.int (D.goal l a)) σ):callN C (d+1) "goal_of" [nZ D,.int l,.int a] σ Q:=by
 refine dF (E8 hP rfl ?_);refine jV (λe=>?_) λe=>?_
 ·clear h1;subst e;exact q
 ·obtain⟨n,rfl⟩:∃n:Nat,l=n:=⟨l.toNat,by have:l≠-1:=e;lia⟩
  have hn:n<D.rows.length:=by lia
  refine bJ (GG h hn) λr er el=>?_;obtain⟨x,ex⟩:∃x,r[a]?=some x:=⟨_,ah (by exact b9 (nat_lit 0x2582450886158241) rfl ha el)⟩;refine oW_of (mZ (v:= .list (r.map .int)) (by refine ao bb (ao er ?_);rfl) (by exact bt (nat_lit 0x1e59619140b0c820f5801) rfl hs hn)) ?_;refine oW_of rfl ?_;refine oW_of (mZ (v:= .int x) (by refine ao bb (ao ex ?_);rfl) (by exact bt (nat_lit 0x1e5960917e89842158241) rfl ha hc)) ?_;have:D.goal (n:Int) a=x:=by
   unfold Da.goal;refine ao (if_neg (by exact e)) ?_;rewrite[nU];refine ao er ?_;show(r[a]?).getD (-1)=x;refine ao ex ?_;rfl
  rw[this]at q;exact q
theorem rX(h:D.Ok c)(hs:D.rows.length<=1073741824){l:Int}(h1:-1<=l/\l<D.rows.length)(q:Q (r6 (D.tag l)) σ):callN C (d+1) "tags_at" [nZ D,.int l] σ Q:=by
 refine dF (FV hP rfl ?_);refine jV (λe=>?_) λe=>?_
 ·clear h1;subst e;exact q
 ·obtain⟨n,rfl⟩:∃n:Nat,l=n:=⟨l.toNat,by have:l≠-1:=e;lia⟩
  have hn:n<D.tags.length:=by refine ao h.tags ?_;lia
  obtain⟨b,eb⟩:∃b,D.tags[n]?=some b:=⟨_,ah hn⟩;refine oW_of (mZ (v:=r6 b) (by refine ao bb (ao eb ?_);rfl) (by rw[h.tags]at hn;exact bt (nat_lit 0x1e59619140b0c820f5801) rfl hs hn)) ?_;have:D.tag (n:Int)=b:=by
   unfold Da.tag;refine ao (if_neg (by exact e)) ?_;rewrite[nU];refine ao eb ?_;rfl
  rw[this]at q;exact q
theorem EB{l:Int}(h1:-1<=l){lead:Nat}(q:Q (.int ((if l=-1 then 0 else 1+lead+l.toNat:Nat):Int)) σ):callN C (d+1) "place_of" [.int l,.int lead] σ Q:=by
 refine dF (Dr hP rfl ?_);refine jV (λe=>?_) λe=>?_
 ·have e:l=-1:=e
  rw[if_pos e]at q;exact q
 ·have e:l≠-1:=e
  rw[if_neg e]at q;refine eY (eY ?_);have: (1:Int)+lead+l=((1+lead+l.toNat:Nat):Int):=by lia
  refine ao this ?_;exact q
theorem Jk(h:D.Ok c)(hc:c<=1000)(q:Q (.int c) σ):callN C (d+1) "Dfa.class_count" [nZ D] σ Q:=by
 refine bJ (GG h h.pos) λr er el=>?_;refine dF (tO hP rfl ?_);refine oW_of (mZ (i:=0) (v:= .list (r.map .int)) (by refine ao bb (ao er ?_);rfl) (by decide)) ?_;refine jN rfl (by rw[ai];exact bt (nat_lit 0xf58250045f44c01) rfl hc el) ?_;rewrite[ai];refine ao el ?_;exact q
theorem LO(hs:D.rows.length<=1073741824)(q:Q (.int D.rows.length) σ):callN C (d+1) "Dfa.state_count" [nZ D] σ Q:=by
 refine dF (ud hP rfl ?_);refine jN rfl (by rw[ai];exact hs) ?_;rw[ai];exact q
theorem Ew{E:Da}(h:D.Ok c)(h':E.Ok c)(hc:c<=1000)(q:Q .none σ):callN C (d+2) "check_counts" [nZ D,nZ E] σ Q:=by
 refine dF (xX hP rfl ?_);refine mW_of (q:=("Dfa.class_count",true)) rfl (Jk hP h hc ?_);refine mW_of (q:=("Dfa.class_count",true)) rfl (Jk hP h' hc ?_);exact LW (λe=>absurd rfl e) λw_=>q
end
structure Ke where
 A:aY
 D:aY
 H:aY
 Z:aY
structure tX(M:Ke)(heads sizes:List Nat)(τ:AH):Prop where
 aA:τ M.A=some (.inst "Merger" M.D ["heads","sizes"] [.ref M.H,.ref M.Z])
 aH:τ M.H=some (.list (cP heads))
 aZ:τ M.Z=some (.list (cP sizes))
 ne:M.H≠M.Z
theorem tX.setH{M:Ke}{heads sizes:List Nat}{τ:AH}(h:tX M heads sizes τ)(heads':List Nat):tX M heads' sizes (τ.set M.H (.list (cP heads'))):=
 ⟨(ay _ _ (dG h.aA h.aH (by nofun))).trans h.aA,az ..,(ay _ _ (aV h.ne)).trans h.aZ,h.ne⟩
theorem tX.setZ{M:Ke}{heads sizes:List Nat}{τ:AH}(h:tX M heads sizes τ)(sizes':List Nat):tX M heads sizes' (τ.set M.Z (.list (cP sizes'))):=
 ⟨(ay _ _ (dG h.aA h.aZ (by nofun))).trans h.aA,(ay _ _ h.ne).trans h.aH,az ..,h.ne⟩
structure Pz where
 n:Nat
 heads:List Nat
theorem yG(l:List Nat)(i k:Nat): (cP l).set i (.int (k:Nat))=cP (l.set i k):=(List.map_set ..).symm
section
variable{M:Ke}{heads sizes:List Nat}{τ:AH}{N:Nat}{rt ds:Nat->Nat}(hP:C.prog=PG)
include hP
theorem He(u:Uf N heads rt ds)(hN:N<=1073741824)(h:tX M heads sizes τ){n:Nat}(hn:n<N)(q:∀heads',Uf N heads' rt ds->Q (.int (rt n:Nat)) (τ.set M.H (.list (cP heads')))):callN C (d+1) "Merger.head" [.ref M.A,.int n] τ Q:=by
 refine dF (zw hP rfl ?_);have e0:τ=τ.set M.H (.list (cP heads)):=(oV h.aH).symm;have key:∃f,rQ (Mj C d (.cmp .NotEq (.sub (.attr (.loc 0) "heads") (.loc 1)) (.loc 1))) (wpSs C d [] [.assign (.sub (.attr (.loc 0) "heads") (.loc 1)) (.sub (.attr (.loc 0) "heads") (.sub (.attr (.loc 0) "heads") (.loc 1))),.assign (.nm 1) (.sub (.attr (.loc 0) "heads") (.loc 1))]) (JR (wpSs C d [] [.ret (.loc 1)]) (q6 Q)) f [some (.ref M.A),some (.int (n:Nat))] (τ.set M.H (.list (cP heads))):=by
  refine iJ (α:=Pz) (λx=>ds x.n) (λx=>[some (.ref M.A),some (.int (x.n:Nat))]) (λx=>τ.set M.H (.list (cP x.heads))) (λx=>Uf N x.heads rt ds/\x.n<N/\rt x.n=rt n) (λx hx R hR=>?_) ⟨n,heads⟩ ⟨u,hn,rfl⟩;intro En;refine eX hx ?_;clear hx;intro u hx er;have at1:=h.setH x.heads;obtain⟨g,eg⟩:∃g,x.heads[x.n]?=some g:=⟨_,ah (by refine ao u.len ?_;exact hx)⟩;refine iq (u.at_ _ _ eg) λa1 a2 a3 a4=>?_;obtain⟨g2,eg2⟩:∃g2,x.heads[g]?=some g2:=⟨_,ah (by refine ao u.len ?_;exact a1)⟩;refine iq (u.at_ _ _ eg2) λb1 b2 b3 b4=>?_;refine oW_of (cF at1.aA rfl) ?_;refine oW_of rfl ?_;refine oW_of (dU at1.aH (by refine ao bb (ao eg ?_);rfl) (by exact bt (nat_lit 0x1e59619140b0c820f5801) rfl hN hx)) ?_;refine LW (λhne=>?_) λhe=>?_
  ·have hne:g≠x.n:=λe=>hne (congrArg hX e)
   refine oW_of (cF at1.aA rfl) ?_;refine oW_of (cF at1.aA rfl) ?_;refine oW_of rfl ?_;refine oW_of (dU at1.aH (by refine ao bb (ao eg ?_);rfl) (by exact bt (nat_lit 0x1e59619140b0c820f5801) rfl hN hx)) ?_;refine oW_of (dU at1.aH (by refine ao bb (ao eg2 ?_);rfl) (by exact bt (nat_lit 0x1e59619140b0c820f5801) rfl hN a1)) ?_;refine oW_of (cF at1.aA rfl) ?_;refine oW_of rfl ?_;refine oO at1.aH (by rewrite[ai];refine ao u.len ?_;exact hx) ?_;rw[yG,bO];have at2:=h.setH (x.heads.set x.n g2);refine oW_of (cF at2.aA rfl) ?_;refine oW_of rfl ?_;refine oW_of (dU at2.aH (v:= .int g2) (by refine ao bb (ao (dO (by refine ao u.len ?_;exact hx)) ?_);rfl) (by exact bt (nat_lit 0x1e59619140b0c820f5801) rfl hN hx)) ?_;refine hR ⟨g2,x.heads.set x.n g2⟩ ?_ ⟨u.halve eg hne eg2,b1,(b2.trans a2).trans er⟩;have:=a4 hne;by_cases e:g2=g
   ·refine ao e ?_;exact this
   ·have:=b4 e;show ds g2<ds x.n;lia
  ·have he:g=x.n:=cQ he
   have:=a3.mp he;have en:x.n=rt n:=by refine dk er ?_;exact this.symm
   have:=q x.heads u;rw[<- en]at this;exact this
 rw[<- e0]at key;exact key
end
section
variable{M:Ke}{heads sizes:List Nat}{τ:AH}{N:Nat}{rt ds:Nat->Nat}(hP:C.prog=PG)
include hP
theorem G8{N:Nat}(hN:N<=16777216)(q:∀M τ,tX M (bN N) (bX N 1) τ->Sub σ τ->(σ M.A=none/\σ M.D=none/\σ M.H=none/\σ M.Z=none)->Q (.ref M.A) τ):callN C (d+2) "Merger" [.int N] σ Q:=by
 refine bU.mpr (mI (jy 14 rfl) rfl λa dd ha hd hne=>tR hP rfl ?_);refine gU (bU.mpr (LH (by lia) (by lia) ?_));have er:j2 0 (N:Int)=cP (bN N):=by
  unfold j2;refine ao (show((N:Int)-0).toNat=N by lia) ?_;exact dA λi w_=>by rw[BC]
 refine ao er ?_;refine cJ (by simpa using hN) λH hH=>?_;have a1: (mkInst σ "Merger" a dd) a=some (.inst "Merger" dd [] []):=az ..;have sub1:Sub σ (mkInst σ "Merger" a dd):=(Sub.refl.set hd _).set ha _;generalize mkInst σ "Merger" a dd=σ1 at*;have Ha:=AH.ne hH a1;refine d5 ((ay _ _ (aV Ha)).trans a1) rfl rfl (aj rfl) ?_;generalize hσ2: (σ1.set H (.list (cP (bN N)))).set a (.inst "Merger" dd (dB [] [] "heads" (.ref H)).1 (dB [] [] "heads" (.ref H)).2)=σ2;have sub2:Sub σ σ2:=hσ2▸(sub1.set (sub1.no hH) _).set ha _;have a2:σ2 a=some (.inst "Merger" dd ["heads"] [.ref H]):=hσ2▸az ..;have H2:σ2 H=some (.list (cP (bN N))):=hσ2▸(ay _ _ Ha).trans (az ..);clear hσ2;refine d6 (aj rfl) ?_;refine⟨by lia,?_⟩;have ez:bX (N:Int).toNat (V.int 1)=cP (bX N 1):=by
  rewrite[cP];refine ao List.map_replicate ?_;rewrite[nU];rfl
 refine ao ez ?_;refine cJ (by simpa using hN) λZ hZ=>?_;have Za:=AH.ne hZ a2;have ZH:=AH.ne hZ H2;refine d5 ((ay _ _ (aV Za)).trans a2) rfl rfl (aj rfl) ?_;exact⟨rfl,q ⟨a,dd,H,Z⟩ _ ⟨az ..,(ay _ _ Ha).trans ((ay _ _ (aV ZH)).trans H2),(ay _ _ Za).trans (az ..),aV ZH⟩ ((sub2.set (sub2.no hZ) _).set ha _) ⟨ha,hd,sub1.no hH,sub2.no hZ⟩⟩
end
theorem de{C:Cx}{d:Nat}{fz:List Nat}{env:bT}{σ:AH}{K:dy}(h:K .next env σ):wpSs C d fz [] env σ K:=h
theorem dg{R:bT->AH->dy->Prop}{K:dy}{env:bT}{σ:AH}(h:R env σ K):JR R K .next env σ:=h
theorem Lp{C:Cx}{d:Nat}{i j:Nat}{fz:List Nat}{env:bT}{σ:AH}{K:bT->AH->Prop}{v w:V}(h1:fz.contains i=false)(h2:fz.contains j=false)(h:K (c8 (c8 env i v) j w) σ):Ea C d fz (.tup [i,j]) (.tup [v,w]) env σ K:=by
 show zL (!fz.contains i && (!fz.contains j && true)) _;refine ao h1 (ao h2 ?_);exact h
theorem LN{C:Cx}{d:Nat}{i j a b:Nat}{fz:List Nat}{env:bT}{σ:AH}{K:dy}{v w:V}(h1:fz.contains i=false)(h2:fz.contains j=false)(h3:nv env a=some v)(h4:nv env b=some w)(h:K .next (c8 (c8 env i v) j w) σ):wpSs C d fz [.assign (.tup [i,j]) (.tup [.loc a,.loc b])] env σ K:=
 oW_of h3 (oW_of h4 (Lp (C:=C) (d:=d) h1 h2 h))
section
variable{M:Ke}{heads sizes:List Nat}{τ:AH}{N:Nat}{rt ds:Nat->Nat}(hP:C.prog=PG)
include hP
theorem LY(u:Uf N heads rt ds)(hN:N<=16777216)(h:tX M heads sizes τ)(hz:sizes.length=N){i j:Nat}(hi:i<N)(hj:j<N)(q0:rt i=rt j->∀heads',Uf N heads' rt ds->Q (.bool false) (τ.set M.H (.list (cP heads'))))
  (q1:rt i≠rt j->∀heads' sizes' rt' ds',Uf N heads' rt' ds'->sizes'.length=N->(∀x y,rt' x=rt' y↔rt x=rt y\/(rt x=rt i/\rt y=rt j)\/(rt x=rt j/\rt y=rt i))->qW N rt'<qW N rt->Q (.bool true) ((τ.set M.H (.list (cP heads'))).set M.Z (.list (cP sizes')))):
  callN C (d+2) "Merger.join" [.ref M.A,.int i,.int j] τ Q:=by
 refine dF (zc hP rfl ?_);refine mW_of (q:=("Merger.head",true)) (fR h.aA rfl) (He hP u (by exact ci (nat_lit 0x1eb00a0c5801) rfl hN) h hi λh1 u1=>?_);have a1:=h.setH h1;refine mW_of (q:=("Merger.head",true)) (fR a1.aA rfl) (He hP u1 (by exact ci (nat_lit 0x1eb00a0c5801) rfl hN) a1 hj λh2 u2=>?_);rw[bO];have a2:=h.setH h2;obtain⟨r1,r2⟩:=u.root i hi;obtain⟨r3,r4⟩:=u.root j hj;refine jV (λe=>?_) λe=>?_
 ·exact q0 (cQ e) h2 u2
 ·have ne:rt i≠rt j:=λz=>e (congrArg hX z)
  have fin:∀hi' lo:Nat,hi'<N->lo<N->rt hi'=hi'->rt lo=lo->hi'≠lo->(∀x y,iF rt lo hi' x=iF rt lo hi' y↔rt x=rt y\/(rt x=rt i/\rt y=rt j)\/(rt x=rt j/\rt y=rt i))->
    wpSs C (d+1) [] (qU.body.drop 4) [some (.ref M.A),some (.int i),some (.int j),some (.int (hi':Nat)),some (.int (lo:Nat))] (τ.set M.H (.list (cP h2))) (q6 Q):=by
   intro hi' lo b1 b2 b3 b4 b5 b6;refine oW_of (cF a2.aA rfl) ?_;refine oW_of rfl ?_;refine oO a2.aH (by rewrite[ai];refine ao u2.len ?_;exact b2) ?_;rw[yG,bO];have a3:=h.setH (h2.set lo hi');obtain⟨s1,e1⟩:∃s,sizes[hi']?=some s:=⟨_,ah (by exact b9 (nat_lit 0x58a450ac5208403) rfl hz b1)⟩;obtain⟨s2,e2⟩:∃s,sizes[lo]?=some s:=⟨_,ah (by exact b9 (nat_lit 0x58a450ac5208403) rfl hz b2)⟩;refine oW_of (cF a3.aA rfl) ?_;refine oW_of rfl ?_;refine oW_of (dU a3.aZ (by refine ao bb (ao e1 ?_);rfl) (by exact bt (nat_lit 0x1e59619140b0c820c5801) rfl hN b1)) ?_;refine oW_of (cF a3.aA rfl) ?_;refine oW_of rfl ?_;refine oW_of (dU a3.aZ (by refine ao bb (ao e2 ?_);rfl) (by exact bt (nat_lit 0x1e59619140b0c820c5801) rfl hN b2)) ?_;refine eY ?_;refine oW_of (cF a3.aA rfl) ?_;refine oW_of rfl ?_;refine oO a3.aZ (by rewrite[ai];refine ao hz ?_;exact b1) ?_;refine ao (show(V.int ((s1:Int)+(s2:Int)))= .int ((s1+s2:Nat):Int)from rfl) ?_;rewrite[yG];exact q1 ne _ _ _ _ (u2.join b2 b1 b4 b3 b5) (by exact ao fF (ao hz rfl)) b6 (Bc b2 b4 b3 b5)
  obtain⟨s1,e1⟩:∃s,sizes[rt i]?=some s:=⟨_,ah (by exact b9 (nat_lit 0x58a450ac5208403) rfl hz r1)⟩;obtain⟨s2,e2⟩:∃s,sizes[rt j]?=some s:=⟨_,ah (by exact b9 (nat_lit 0x58a450ac5208403) rfl hz r3)⟩;refine oW_of (cF a2.aA rfl) ?_;refine oW_of rfl ?_;refine oW_of (dU a2.aZ (by refine ao bb (ao e1 ?_);rfl) (by exact bt (nat_lit 0x1e59619140b0c820c5801) rfl hN r1)) ?_;refine oW_of (cF a2.aA rfl) ?_;refine oW_of rfl ?_;refine oW_of (dU a2.aZ (by refine ao bb (ao e2 ?_);rfl) (by exact bt (nat_lit 0x1e59619140b0c820c5801) rfl hN r3)) ?_;refine jV (λw_=>?_) λw_=>?_
  ·refine LN rfl rfl rfl rfl (dg ?_)
   exact fin (rt j) (rt i) r3 r1 r4 r2 (aV ne) λx y=>by rw[z6]
  ·refine de (dg ?_)
   exact fin (rt i) (rt j) r1 r3 r2 r4 ne λx y=>by rw[z6,or_comm (a:=rt x=rt j/\_)]
end
noncomputable def k7(p:Int×Int):V:= .tup [.int p.1,.int p.2]
structure Ob where
 wt:List (Int×Int)
 rt:Nat->Nat
 τ:AH
 l:Option V
 r:Option V
 n:Option V
structure Ob.Inv(σ:AH)(D E:Da)(c:Nat)(M:Ke)(W:aY)(x:Ob):Prop where
 mg:∃heads sizes ds,tX M heads sizes x.τ/\Uf (d2 D E) heads x.rt ds/\sizes.length=d2 D E
 aW:x.τ W=some (.list (x.wt.map k7))
 sub:Sub σ x.τ
 hk:Hk D E c x.rt x.wt
 cnt:x.wt.length+c*qW (d2 D E) x.rt<=1+c*d2 D E
theorem tX.setW{M:Ke}{heads sizes:List Nat}{τ:AH}(h:tX M heads sizes τ){W:aY}(m:fM)(h1:W≠M.A)(h2:W≠M.H)(h3:W≠M.Z):tX M heads sizes (τ.set W m):=
 ⟨(ay _ _ (aV h1)).trans h.aA,(ay _ _ (aV h2)).trans h.aH,(ay _ _ (aV h3)).trans h.aZ,h.ne⟩
theorem HG(N:Nat)(rt:Nat->Nat):qW N rt<=N:=by
 have:=qB (λi=>rt i==i) (bN N);rwa [b7]at this
theorem Lr(a b:Bool)(τ:AH):yc .NotEq (r6 a) (r6 b) τ=some (a !=b):=by cases a<;>cases b<;>rfl
structure Ps where
 τ:AH
 n:Option V
section
variable{D E:Da}{c:Nat}(hP:C.prog=PG)
include hP
theorem Le(hD:D.Ok c)(hE:E.Ok c)(hc:c<=4)(hN:d2 D E<=4194303)(q:∀b:Bool,(b=true↔∀w:Wd,(∀a∈w,a<c)->D.acc 0 w=E.acc 0 w)->Q (.bool b) σ):callN C (d+3) "same" [nZ D,nZ E] σ Q:=by
 have dn:D.rows.length<=1073741824:=by unfold d2 at hN;exact bt (nat_lit 0x1eb00a3fffff2dd6104a41) rfl hN
 have en:E.rows.length<=1073741824:=by unfold d2 at hN;exact bt (nat_lit 0x1eb04a3fffff2dd6104a41) rfl hN
 refine mK (K2 hP rfl ?_);refine Ew hP hD hE (by exact ci (nat_lit 0xfa2602b801) rfl hc) ?_;refine mW_of (q:=("Dfa.state_count",true)) rfl (LO hP dn ?_);refine mW_of (q:=("Dfa.state_count",true)) rfl (LO hP en ?_);refine eY (eY ?_);refine G8 hP (N:=d2 D E) (by exact ci (nat_lit 0x18b00a3fffff2dc01) rfl hN) λM τ0 m0 sub0 fr=>?_;refine cJ (aj rfl) λW hW=>?_;refine iq fr λfrA frD frH frZ=>?_;clear fr;have WA:=AH.ne hW m0.aA;have WH:=AH.ne hW m0.aH;have WZ:=AH.ne hW m0.aZ;have hW0:=sub0.no hW;refine iJ (α:=Ob) (λx=>qW (d2 D E) x.rt*(c+1)+x.wt.length) (λx=>[some (nZ D),some (nZ E),some (.int (D.rows.length:Nat)),some (.ref M.A),some (.ref W),x.l,x.r,x.n,none,none,none,none,none,none]) (λx=>x.τ)
  (λx=>Ob.Inv σ D E c M W x) (λx I R hR=>?_) ⟨[(0,0)],id,_,none,none,none⟩ ⟨⟨_,_,_,⟨(ay _ _ (aV WA)).trans m0.aA,(ay _ _ (aV WH)).trans m0.aH,(ay _ _ (aV WZ)).trans m0.aZ,m0.ne⟩,Uf.init _,qw⟩,az ..,sub0.set hW0 _,Hk.init,?_⟩
 ·intro En;obtain⟨heads,sizes,ds,mg,u,hz⟩:=I.mg
  refine oW_of (rS I.aW) (y8 (λhe=>?_) λhe=>?_)
  ·have hne:x.wt≠ []:=by rintro e;rw[e]at he;exact mj he
   obtain⟨l,p,e⟩:∃l p,x.wt=l++[p]:=⟨_,_,(ca hne).symm⟩;have aW:=I.aW;have hk:=I.hk;have cnt:=I.cnt;rw[e]at hk cnt;rw[e,bw]at aW;rw[aC]at cnt;have cnt:l.length+1+c*qW (d2 D E) x.rt<=1+c*d2 D E:=cnt;have hcN:c*d2 D E<=4*4194303:=rJ hc hN;obtain⟨r1,r2⟩:=hk.rng hD hE (p:=p) (by exact aL _ (.head _));refine GH aW (by rw[ai];exact b9 (nat_lit 0x62cb048a3fffff2dc04a08225c82b04a41) rfl cnt hcN) ?_;have mg1:=mg.setW (.list (l.map k7)) WA WH WZ;have aW1: (x.τ.set W (.list (l.map k7))) W=some (.list (l.map k7)):=az ..;have sub1:Sub σ (x.τ.set W (.list (l.map k7))):=I.sub.set hW0 _;generalize x.τ.set W (.list (l.map k7))=τ1 at*;refine mW_of (q:=("Merger.join",true)) (fR mg1.aA rfl) ?_;refine EB hP (lead:=0) r1.1 (EB hP r2.1 ?_);refine ao (show(if p.1=-1 then 0 else 1+0+p.1.toNat)=pl p.1 from rfl) (ao (show(if p.2=-1 then 0 else 1+D.rows.length+p.2.toNat)=pr D p.2 from rfl) ?_);refine LY hP u (by exact ci (nat_lit 0x18b00a3fffff2dc01) rfl hN) mg1 hz (B5 r1) (Cr r2) (λer heads' u'=>?_) λner heads' sizes' rt' ds' u' hz' hr lt=>?_
   ·refine cU (hR ⟨l,x.rt,_,_,_,_⟩ ?_ ⟨⟨_,_,_,mg1.setH _,u',hz⟩,(ay _ _ WH).trans aW1,sub1.set frH _,hk.skip hD hE er,?_⟩)
    ·show _+l.length<_+x.wt.length
     refine ao e (ao aC ?_);exact bR _
    ·exact a8 (ri (dI _) _) cnt
   ·refine kj ?_
    have mg2:=(mg1.setH heads').setZ sizes';have aW2: ((τ1.set M.H (.list (cP heads'))).set M.Z (.list (cP sizes'))) W=some (.list (l.map k7)):=(ay _ _ WZ).trans ((ay _ _ WH).trans aW1);have sub2:Sub σ ((τ1.set M.H (.list (cP heads'))).set M.Z (.list (cP sizes'))):=(sub1.set frH _).set frZ _;generalize(τ1.set M.H (.list (cP heads'))).set M.Z (.list (cP sizes'))=τ2 at*;refine rX hP hD dn r1 (rX hP hE en r2 ?_);refine oW_of (Lr _ _ _) (y8 (λhne=>?_) λheq=>?_)
    ·refine⟨_,sub2,Dp.refl,q false ⟨λh=>(nomatch h),λh=>?_⟩⟩
     refine bJ (hk.bad hD hE (by simpa using hne)) λw hw ne=>?_;exact absurd (h w hw) ne
    ·have heq:D.tag p.1=E.tag p.2:=by simpa using heq
     refine de (dg ?_);refine mW_of (q:=("Dfa.class_count",true)) rfl (Jk hP hD (by exact ci (nat_lit 0xfa2602b801) rfl hc) (gU ?_));refine hC (α:=Ps) (n:=c) (by exact ci (nat_lit 0x3cb2c122b801) rfl hc) (λy=>[some (nZ D),some (nZ E),some (.int (D.rows.length:Nat)),some (.ref M.A),some (.ref W),some (.int p.1),some (.int p.2),y.n,none,none,none,none,none,none]) (λy=>y.τ)
      (λi y=>tX M heads' sizes' y.τ/\y.τ W=some (.list ((l++(bN i).map λa=>(D.goal p.1 a,E.goal p.2 a)).map k7))/\Sub σ y.τ) (λi y hi J w_ R' hR'=>?_) (λy J=>?_) ⟨τ2,x.n⟩ ⟨mg2,by refine ao List.range_zero ?_;refine ao mA ?_;rewrite[be];exact aW2,sub2⟩ rfl rfl
     ·intro En;refine eX J λJ1 J2 J3=>?_;clear J
      refine mW_of (q:=("list.append",true)) (ub J2) ?_;refine rV hP hD dn r1 hi (by exact ci (nat_lit 0xfa2602b801) rfl hc) (rV hP hE en r2 hi (by exact ci (nat_lit 0xfa2602b801) rfl hc) ?_);have ll: ((l++(bN i).map λa=>(D.goal p.1 a,E.goal p.2 a)).map k7).length<=16777216:=by
       rewrite[ai];refine ao aC ?_;rewrite[ai];refine ao b7 ?_;exact uk (nat_lit 0x62c40c8a0592411fffff96e0250611ae42586520b801) rfl hc cnt hcN hi
      refine bU.mpr (yd J2 ll ?_);refine hR' ⟨_,_⟩ ⟨J1.setW _ WA WH WZ,(az ..).trans ?_,J3.set hW0 _⟩;simp[List.range_succ,k7]
     ·intro En;refine eX J λJ1 J2 J3=>?_;clear J
      refine hR ⟨_,rt',y.τ,_,_,_⟩ ?_ ⟨⟨_,_,_,J1,u',hz'⟩,J2,J3,hk.join hD hE heq hr,?_⟩
      ·show qW (d2 D E) rt'*(c+1)+_<_
       refine ao e ?_;refine ao aC ?_;refine ao aC ?_;rewrite[ai];refine ao b7 ?_;have:=dh (c+1) lt;rw[kg]at this;show _<_+(_+1);exact ir (nat_lit 0x58e4292c23902522896190241) rfl this
      ·show(l++(bN c).map _).length+c*qW (d2 D E) rt'<=_
       refine ao aC ?_;rewrite[ai];refine ao b7 ?_;have:=dT c lt;rw[Nat.mul_succ]at this;exact uk (nat_lit 0x97219012914241c8225c82b04a41) rfl cnt this
  ·have e:x.wt=[]:=by
    cases h:x.wt with
    |nil=>rfl
    |cons a b=>rw[h]at he;clear h;exact Ig he
   have hk:=I.hk;rw[e]at hk;exact⟨_,I.sub,Dp.refl,q true ⟨λw_ w hw=>hk.fin hD hE w hw,λw_=>rfl⟩⟩
 ·show 1+c*qW (d2 D E) id<=_
  exact bV (dT c (HG _ _)) 1
end
noncomputable def Fr(ws:List Wd)(fr:List (Int×Int)):Prop:=fr.length=ws.length/\∀(k:Nat) (u:Wd),ws[k]?=some u->(u=[]/\fr[k]?=some (-1,-1))\/∃(j a:Nat) (w:Wd),fr[k]?=some ((j:Int),(a:Int))/\j<k/\ws[j]?=some w/\u=w++[a]
theorem Fr.init:Fr [[]] [(-1,-1)]:=⟨rfl,λk u h=>by
 cases k with
 |zero=>replace h:=ac h;subst h;exact .inl ⟨rfl,rfl⟩
 |succ k=>exact bx h⟩
theorem Fr.push{ws:List Wd}{fr:List (Int×Int)}(h:Fr ws fr){p a:Nat}{w:Wd}(hp:ws[p]?=some w):Fr (ws++[w++[a]]) (fr++[((p:Int),(a:Int))]):=by
 refine⟨by refine ao aC (ao aC (ao (h.1) ?_));rfl,λk u hk=>?_⟩;rcases mT hk with hk|⟨rfl,rfl⟩
 ·rcases h.2 k u hk with⟨e1,e2⟩|⟨j,b,v,e1,e2,e3,e4⟩
  ·exact .inl ⟨e1,mq e2⟩
  ·exact .inr ⟨j,b,v,mq e1,e2,mq e3,e4⟩
 ·exact .inr ⟨p,a,w,by refine dk (h.1) ?_;exact iB ..,(aE.mp hp).1,mq hp,rfl⟩
theorem Fr.le{ws:List Wd}{fr:List (Int×Int)}(h:Fr ws fr):∀(n k:Nat) (u:Wd),k<=n->ws[k]?=some u->u.length<=k
 |0=>λk u hn hk=>by
  rcases h.2 k u hk with⟨e1,_⟩|⟨j,b,v,_,e2,_⟩
  ·refine ao e1 ?_;exact bg _
  ·lia
 |n+1=>λk u hn hk=>by
  rcases h.2 k u hk with⟨e1,_⟩|⟨j,b,v,_,e2,e3,e4⟩
  ·refine ao e1 ?_;exact bg _
  ·have:=Fr.le h n j v (by exact b9 (nat_lit 0x11140b1482b0c801) rfl hn e2) e3
   refine ao e4 (ao aC ?_);exact jA this e2
noncomputable def bad(b x y:Bool):Bool:=if b then x && !y else x !=y
theorem OJ{A B:Prop}(h:A): (false=false->A)/\(false=true->B):=⟨λw_=>h,λe=>(nomatch e)⟩
theorem Oj{A B:Prop}(h:B): (true=false->A)/\(true=true->B):=⟨λe=>(nomatch e),λw_=>h⟩
theorem Lq{C:Cx}{d:Nat}{σ:AH}{b x y:Bool}{K:Bool->AH->Prop}{v0 v1 v3 v4 v5 v6 v7 v8 v9:Option V}{es:bT}(h:K (bad b x y) σ):Mj C d (.bool2 false [.bool2 true [.loc 2,.loc 10,.not (.loc 11)],.bool2 true [.not (.loc 2),.cmp .NotEq (.loc 10) (.loc 11)]]) (v0::v1::some (.bool b)::v3::v4::v5::v6::v7::v8::v9::some (r6 x)::some (r6 y)::es) σ K:=by
 cases b<;>cases x<;>cases y<;>(repeat' (first|exact h|refine kj ?_|refine cU ?_|refine OJ ?_|refine Oj ?_))
structure Pq where
 wd:Wd
 k:Nat
 u:Wd
theorem L5{ws:List Wd}{fr:List (Int×Int)}(hf:Fr ws fr)(hl:ws.length<=16777217){F:aY}(aF:σ F=some (.list (fr.map k7))){k:Nat}{u:Wd}(hk:ws[k]?=some u){v0 v1 v2 v3 v4 v6 v8 v9 v10 v11 v12:Option V}{es:bT}{K:dy}
  (q:∀(W:aY) e,σ W=none->K (.ret (.ref W)) e (σ.set W (.list (cP u)))):
  wpSs C d [] (match sE.body.getD 6 .stuck with| .whiles _ b=>(match b.getD 3 .stuck with| .ifs _ t _=>t|_=>[])|_=>[]) (v0::v1::v2::v3::v4::some (.ref F)::v6::some (.int k)::v8::v9::v10::v11::v12::es) σ K:=by
 refine cJ (bg _) λW hW=>?_;have WF:=AH.ne hW aF;refine iJ (α:=Pq) (λx=>x.k) (λx=>(v0::v1::v2::v3::v4::some (.ref F)::v6::some (.int x.k)::v8::v9::v10::v11::some (.ref W)::es)) (λx=>σ.set W (.list (cP x.wd)))
  (λx=>ws[x.k]?=some x.u/\u=x.u++x.wd.reverse) (λx hx R hR=>?_) ⟨[],k,u⟩ ⟨hk,(be u).symm⟩
 intro En;obtain⟨hx,eu⟩:=hx;have aF': (σ.set W (.list (cP x.wd))) F=some (.list (fr.map k7)):=(ay _ _ (aV WF)).trans aF;have ul:=hf.le _ k u (aG _) hk;have k0:=(aE.mp hk).1;have wl:x.wd.length<=16777216:=by
  rw[eu,aC,sv]at ul;exact ir (nat_lit 0x62c228163904620c830000012dc01) rfl hl ul k0
 have kl:=(aE.mp hx).1;rcases hf.2 x.k x.u hx with⟨e1,e2⟩|⟨j,a,w,e1,e2,e3,e4⟩
 ·refine oW_of (dU aF' (by refine ao bb (ao e2 ?_);rfl) (by exact bt (nat_lit 0x1e59619140b0c830000012dc01) rfl hl kl)) ?_
  refine fj (by decide) ?_;refine oR (az ..) ?_ ?_
  ·rw[ai];exact wl
  rewrite[bO];refine dk kN ?_;refine ao (show x.wd.reverse=u by refine ao eu (ao e1 ?_);rfl) ?_;exact q W _ hW
 ·refine oW_of (dU aF' (by refine ao bb (ao e1 ?_);rfl) (by exact bt (nat_lit 0x1e59619140b0c830000012dc01) rfl hl kl)) ?_
  refine mN (cu j) ?_;refine AI (az ..) ?_;refine oW_of (dU aF' (by refine ao bb (ao e1 ?_);rfl) (by exact bt (nat_lit 0x1e59619140b0c830000012dc01) rfl hl kl)) ?_;refine oW_of rfl ?_;refine j4 (az ..) ?_ ?_
  ·rw[ai];exact wl
  rw[bO];have aF2: (σ.set W (.list (cP x.wd++[.int a]))) F=some (.list (fr.map k7)):=(ay _ _ (aV WF)).trans aF;refine oW_of (dU aF2 (by refine ao bb (ao e1 ?_);rfl) (by exact bt (nat_lit 0x1e59619140b0c830000012dc01) rfl hl kl)) ?_;refine oW_of rfl ?_;rw[iR];exact hR ⟨x.wd++[a],j,w⟩ e2 ⟨e3,by refine ao eu ?_;refine ao e4 ?_;refine ao gG ?_;rewrite[aJ];rfl⟩
noncomputable def kk(E:Da)(p:Int×Int):Nat:=((p.1+1)*((E.rows.length:Int)+1)+p.2+1).toNat
theorem A7{E:Da}{p:Int×Int}(h1:-1<=p.1)(h2:-1<=p.2): (p.1+1)*((E.rows.length:Int)+1)+p.2+1=(kk E p:Nat):=by
 have:=rK (a:=p.1+1) (b:=(E.rows.length:Int)+1) (by lia) (by lia);unfold kk;lia
theorem HU{E:Da}{p q:Int×Int}(h1:-1<=p.1)(h2:-1<=p.2/\p.2<E.rows.length)(h3:-1<=q.1)(h4:-1<=q.2/\q.2<E.rows.length)(e:kk E p=kk E q):p=q:=by
 have e': (p.1+1)*((E.rows.length:Int)+1)+p.2+1=(q.1+1)*((E.rows.length:Int)+1)+q.2+1:=by
  exact ao (A7 h1 h2.1) (ao (A7 h3 h4.1) (ao e rfl))
 have key:∀(x y a b n:Int),0<=a/\a<n->0<=b/\b<n->x*n+a=y*n+b->¬x<y:=by
  intro x y a b n ha hb e l;have: (x+1)*n<=y*n:=Int.mul_le_mul_of_nonneg_right l (by lia);rw[Int.add_mul,Int.one_mul]at this;lia
 have n1:=key (p.1+1) (q.1+1) (p.2+1) (q.2+1) ((E.rows.length:Int)+1) (by lia) (by lia) (by lia);have n2:=key (q.1+1) (p.1+1) (q.2+1) (p.2+1) ((E.rows.length:Int)+1) (by lia) (by lia) (by lia);have e1:p.1=q.1:=by lia
 rw[e1]at e';exact CW e1 (by lia)
structure Dx where
 pairs:List (Int×Int)
 ws:List Wd
 fr:List (Int×Int)
 g:Nat->V
 n:Nat
 τ:AH
 a:Option V
 b:Option V
 c:Option V
 d:Option V
 e:Option V
 f:Option V
 i:Option V
 j:Option V
structure Dx.Inv(σ:AH)(D E:Da)(c:Nat)(b:Bool)(P F K:aY)(m:Nat)(x:Dx):Prop where
 aP:x.τ P=some (.list (x.pairs.map k7))
 aF:x.τ F=some (.list (x.fr.map k7))
 aK:x.τ K=some (cV (x.pairs.map (kk E)) x.g)
 sub:Sub σ x.τ
 bf:Bfs D E c x.pairs x.ws x.n m
 fr':Fr x.ws x.fr
 pos:0<x.pairs.length
 ok:∀(i:Nat) (u:Wd),i<x.n->x.ws[i]?=some u->bad b (D.acc 0 u) (E.acc 0 u)=false
section
variable{D E:Da}{c e e':Nat}{L L':Lg}(hP:C.prog=PG)
theorem Dx.Inv.rng{b:Bool}{P F K:aY}{m:Nat}{x:Dx}(I:Dx.Inv σ D E c b P F K m x)(hD:D.Ok c)(hE:E.Ok c){p:Int×Int}(hp:p∈x.pairs): (-1<=p.1/\p.1<D.rows.length)/\-1<=p.2/\p.2<E.rows.length:=by
 obtain⟨k,hk,ek⟩:=cX hp;obtain⟨u,hu⟩:∃u,x.ws[k]?=some u:=⟨_,ah (by refine ao I.bf.len ?_;exact hk)⟩;have hr:=(I.bf.run k u hu).2;rw[ah hk,ek]at hr;refine ao (ac hr) ?_;exact⟨hD.run u,hE.run u⟩
theorem Dx.Inv.key{b:Bool}{P F K:aY}{m:Nat}{x:Dx}(I:Dx.Inv σ D E c b P F K m x)(hD:D.Ok c)(hE:E.Ok c){p:Int×Int}(hp: (-1<=p.1/\p.1<D.rows.length)/\-1<=p.2/\p.2<E.rows.length):kk E p∈x.pairs.map (kk E)↔p∈x.pairs:=by
 refine⟨λh=>?_,λh=>bG.mpr ⟨p,h,rfl⟩⟩;refine bJ (bG.mp h) λr hr er=>?_;have:=I.rng hD hE hr;refine dk (HU this.1.1 this.2 hp.1.1 hp.2 er) ?_;exact hr
theorem Dx.Inv.good{b:Bool}{P F K:aY}{m:Nat}{x:Dx}(I:Dx.Inv σ D E c b P F K m x){k:Nat}{u v:Wd}(hk:k<x.n)(hu:x.ws[k]?=some u)(hv:x.pairs[k]?=some (D.run 0 v,E.run 0 v)):bad b (D.acc 0 v) (E.acc 0 v)=false:=by
 have:=(I.bf.run k u hu).2;rw[hv]at this;have:=eL (ac this);rewrite[Da.acc_run];rewrite[Da.acc_run];refine ao (this.1) ?_;refine ao (this.2) ?_;rewrite[<- Da.acc_run];rewrite[<- Da.acc_run];exact I.ok k u hk hu
include hP
theorem uw(hD:D.Is c e L)(hE:E.Is c e' L')(hc:c<=4)(he:e+e'<=24)(b:Bool)(q0: (∀w:Wd,(∀a∈w,a<c)->bad b (D.acc 0 w) (E.acc 0 w)=false)->Q .none σ)
  (q1:∀w:Wd,(∀a∈w,a<c)->bad b (D.acc 0 w) (E.acc 0 w)=true->(∀v:Wd,(∀a∈v,a<c)->val c v<val c w->bad b (D.acc 0 v) (E.acc 0 v)=false)->w.length<=2 ^ (e+e')->Q (.list (cP w)) σ):callN C (d+3) "first_word" [nZ D,nZ E,.bool b] σ Q:=by
 have p24:∀{k:Nat},k<=24->2 ^ k<=16777216:=λh=>dZ (by decide) h;have dn:D.rows.length<=16777217:=a8 hD.len (c5 (p24 (by exact bt (nat_lit 0x62602831308241) rfl he)));have en:E.rows.length<=16777217:=a8 hE.len (c5 (p24 (by exact bt (nat_lit 0x62612831308241) rfl he)));refine mK (AS hP rfl ?_);refine Ew hP hD.ok hE.ok (by exact ci (nat_lit 0xfa2602b801) rfl hc) ?_;refine mW_of (q:=("Dfa.state_count",true)) rfl (LO hP (by exact ci (nat_lit 0x1eb00b0000012dc01) rfl en) ?_);refine eY ?_;refine cJ (aj rfl) λP hP0=>?_;refine cJ (aj rfl) λF hF=>?_;have FP:=AH.ne hF (az ..);have hF0:=(Sub.refl.set hP0 _).no hF;refine eY λK hK=>?_;have KF:=AH.ne hK (az ..);have KP:=AH.ne hK ((ay _ _ (aV FP)).trans (az ..));have hK0:=((Sub.refl.set hP0 _).set hF0 _).no hK;refine iJ (α:=Dx) (λx=>16777218-x.n) (λx=>[some (nZ D),some (nZ E),some (.bool b),some (.int ((E.rows.length:Int)+1)),some (.ref P),some (.ref F),some (.ref K),some (.int (x.n:Nat)),x.a,x.b,x.c,x.d,none,x.e,x.f,x.i,x.j,none,none,none,none,none]) (λx=>x.τ)
  (λx=>Dx.Inv σ D E c b P F K 0 x) (λx I R hR=>?_) ⟨[(0,0)],[[]],[(-1,-1)],λw_=> .int 0,0,_,none,none,none,none,none,none,none,none⟩ ⟨?_,?_,?_,((Sub.refl.set hP0 _).set hF0 _).set hK0 _,Bfs.init,Fr.init,Nat.zero_lt_one,λi u h=>absurd h (jv _)⟩
 ·intro En;have pn:x.pairs.length<=16777217:=a8 (I.bf.bound hD hE) (c5 (p24 he))
  refine jN (li I.aP) (by rw[ai];exact ci (nat_lit 0x1eb00b0000012dc01) rfl pn) ?_;rw[ai];refine jV (λhlt=>?_) λhge=>?_
  ·have hlt:x.n<x.pairs.length:=ft.mp hlt
   obtain⟨w,ew⟩:∃w,x.ws[x.n]?=some w:=⟨_,ah (by refine ao I.bf.len ?_;exact hlt)⟩;obtain⟨hw,ep⟩:=I.bf.run _ _ ew;have r1:=hD.ok.run w;have r2:=hE.ok.run w;refine oW_of (dU I.aP (v:=k7 (D.run 0 w,E.run 0 w)) (by refine ao bb (ao ep ?_);rfl) (by exact bt (nat_lit 0x1e59619140b0c830000012dc01) rfl pn hlt)) ?_;refine rX hP hD.ok (by exact ci (nat_lit 0x1eb00b0000012dc01) rfl dn) r1 ?_;refine rX hP hE.ok (by exact ci (nat_lit 0x1eb00b0000012dc01) rfl en) r2 ?_;refine Lq ?_;rw[<- Da.acc_run,<- Da.acc_run];refine y8 (λhbad=>?_) λhgood=>?_
   ·refine L5 I.fr' (by refine ao I.bf.len ?_;exact pn) I.aF ew λW e hW=>?_
    have hW0:=I.sub.no hW;exact⟨.list (cP w),I.sub.set hW0 _,.inr ⟨W,_,rfl,hW0,az ..,tI.refl⟩,q1 w hw hbad (λv hv lt=>by
     refine Ag (I.bf.cover ew v hv lt) ?_;intro k u k1 k2 k3 _;exact I.good k1 k2 k3) (a8 (I.fr'.le _ _ _ (aG _) ew) (dX (jF hlt (I.bf.bound hD hE))))⟩
   ·refine de (dg ?_)
    refine mW_of (q:=("Dfa.class_count",true)) rfl (Jk hP hD.ok (by exact ci (nat_lit 0xfa2602b801) rfl hc) (gU ?_));refine hC (α:=Dx) (n:=c) (by exact ci (nat_lit 0x3cb2c122b801) rfl hc) (λx=>[some (nZ D),some (nZ E),some (.bool b),some (.int ((E.rows.length:Int)+1)),some (.ref P),some (.ref F),some (.ref K),some (.int (x.n:Nat)),some (.int (D.run 0 w)),some (.int (E.run 0 w)),some (r6 (D.acc 0 w)),some (r6 (E.acc 0 w)),none,x.e,x.f,x.i,x.j,none,none,none,none,none]) (λy=>y.τ)
     (λi y=>Dx.Inv σ D E c b P F K i y/\y.ws[y.n]?=some w/\y.n=x.n) (λi y hi J w_ R' hR'=>?_) (λy J=>?_) x ⟨I,ew,rfl⟩ rfl rfl
    ·intro En;refine eX J ?_;clear J;intro J jw jn
     have pn':y.pairs.length<=16777217:=a8 (J.bf.bound hD hE) (c5 (p24 he));refine rV hP hD.ok (by exact ci (nat_lit 0x1eb00b0000012dc01) rfl dn) r1 hi (by exact ci (nat_lit 0xfa2602b801) rfl hc) ?_;refine rV hP hE.ok (by exact ci (nat_lit 0x1eb00b0000012dc01) rfl en) r2 hi (by exact ci (nat_lit 0xfa2602b801) rfl hc) ?_;rw[<- Da.run_snoc,<- Da.run_snoc];have r1':=hD.ok.run (w++[i]);have r2':=hE.ok.run (w++[i]);have eK:=A7 (E:=E) (p:=(D.run 0 (w++[i]),E.run 0 (w++[i]))) r1'.1 r2'.1;refine eY (vq (by lia) (eY (eY ?_)));refine ao eK ?_;refine oW_of (congrArg (fV (!·)) (ux (k:=kk E (D.run 0 (w++[i]),E.run 0 (w++[i]))) J.aK)) (y8 (λhn=>?_) λhn=>?_)
     ·have hn: (D.run 0 (w++[i]),E.run 0 (w++[i]))∉y.pairs:=λh=>by
       rw[decide_eq_true ((J.key hD.ok hE.ok ⟨r1',r2'⟩).mpr h)]at hn;exact mj hn
      have bf:=J.bf.push jw hi hn;have pn2:=bf.bound hD hE;rw[aC]at pn2;have p25:=p24 he;have pn2:y.pairs.length+1<=16777217:=a8 pn2 (c5 p25);have fl:y.fr.length<=16777216:=by refine ao (J.fr'.1) (ao J.bf.len ?_);exact ci (nat_lit 0x62c02c000004b758241) rfl pn2
      have fr:=J.fr'.push (a:=i) jw;have PK:=dG J.aP J.aK (by nofun);have FK:=dG J.aF J.aK (by nofun);refine jN (li J.aP) (by rw[ai];exact ci (nat_lit 0x1eb00b0000012dc01) rfl pn') ?_;refine kZ J.aK ?_ (by rw[ai];exact ci (nat_lit 0x62c02c000004b758241) rfl pn2) ?_
      ·exact nQ.mpr (zF (λ{a b'} ha hb ne e=>ne (HU (J.rng hD.ok hE.ok ha).1.1 (J.rng hD.ok hE.ok ha).2 (J.rng hD.ok hE.ok hb).1.1 (J.rng hD.ok hE.ok hb).2 e)) J.bf.nd)
      refine AI ((ay _ _ PK).trans J.aP) ?_;refine j4 ((ay _ _ PK).trans J.aP) (by rw[ai];exact ci (nat_lit 0x62c02c000004b758241) rfl pn2) ?_;refine AI ((ay _ _ FP).trans ((ay _ _ FK).trans J.aF)) ?_;refine j4 ((ay _ _ FP).trans ((ay _ _ FK).trans J.aF)) (by rw[ai];exact fl) ?_;have ed:∀v,cV (j0 (y.pairs.map (kk E)) (kk E (D.run 0 (w++[i]),E.run 0 (w++[i])))) v=cV ((y.pairs++[(D.run 0 (w++[i]),E.run 0 (w++[i]))]).map (kk E)) v:=λv=>by
       unfold j0;refine ao (if_neg (λh=>hn ((J.key hD.ok hE.ok ⟨r1',r2'⟩).mp h))) (ao bw ?_);rfl
      rw[ed];refine hR' ⟨_,_,_,upd y.g (kk E (D.run 0 (w++[i]),E.run 0 (w++[i]))) (.int ((y.pairs.map k7).length:Nat)),y.n,_,y.a,y.b,y.c,y.d,some (.int i),some (.int (D.run 0 (w++[i]))),some (.int (E.run 0 (w++[i]))),some (.int (kk E (D.run 0 (w++[i]),E.run 0 (w++[i])):Nat))⟩ ⟨⟨(ay _ _ (aV FP)).trans ((az ..).trans (by refine ao bw ?_;rfl)),(az ..).trans (by refine ao bw ?_;rfl),(ay _ _ KF).trans ((ay _ _ KP).trans (az ..)),((J.sub.set hK0 _).set hP0 _).set hF0 _,bf,fr,?_,λk u hk hu=>?_⟩,mq jw,jn⟩
      ·show 0< (y.pairs++_).length
       refine ao aC ?_;exact jF J.pos (bE _ _)
      ·rcases mT hu with hu|⟨rfl,_⟩
       ·exact J.ok k u hk hu
       ·have:=(aE.mp jw).1
        exact absurd hk (by show¬y.ws.length<y.n;exact λq0=>bt (nat_lit 0xb0c82158241) rfl hk this)
     ·have hn: (D.run 0 (w++[i]),E.run 0 (w++[i]))∈y.pairs:=by
       refine(J.key hD.ok hE.ok ⟨r1',r2'⟩).mp ?_;simpa using hn
      refine de (dg (de ?_));exact hR' ⟨y.pairs,y.ws,y.fr,y.g,y.n,y.τ,y.a,y.b,y.c,y.d,some (.int i),some (.int (D.run 0 (w++[i]))),some (.int (E.run 0 (w++[i]))),some (.int (kk E (D.run 0 (w++[i]),E.run 0 (w++[i])):Nat))⟩ ⟨⟨J.aP,J.aF,J.aK,J.sub,J.bf.old jw hn,J.fr',J.pos,J.ok⟩,jw,jn⟩
    ·intro En;refine eX J ?_;clear J;intro J jw jn
     refine eY ?_;refine hR ⟨y.pairs,y.ws,y.fr,y.g,y.n+1,y.τ,some (.int (D.run 0 w)),some (.int (E.run 0 w)),some (r6 (D.acc 0 w)),some (r6 (E.acc 0 w)),y.e,y.f,y.i,y.j⟩ (by show 16777218- (y.n+1)<_;refine ao jn ?_;exact b9 (nat_lit 0x25824580000116e114870000022dd6190242) rfl (ar (bt (nat_lit 0x10000022dd619140b0c830000012dc01) rfl pn hlt)) (ar (bt (nat_lit 0x20000045b84b0000022dd6190242) rfl (ar (bt (nat_lit 0x10000022dd619140b0c830000012dc01) rfl pn hlt))))) ⟨J.aP,J.aF,J.aK,J.sub,J.bf.next,J.fr',J.pos,λk u hk hu=>?_⟩;rcases dJ (dX hk)with hk|rfl
     ·exact J.ok k u hk hu
     ·refine ao (show u=w from ac (hu.symm.trans jw)) ?_;exact hgood
  ·have hge:x.ws.length<=x.n:=by refine ao I.bf.len ?_;exact gM λh=>hge (ft.mpr h)
   refine⟨.none,I.sub,Dp.refl,q0 λw hw=>?_⟩;refine lk (I.bf.all hge (by refine ao I.bf.len ?_;exact I.pos) w hw) λk u hk hp=>?_;exact I.good (jF (aE.mp hk).1 hge) hk hp
 ·exact(ay _ _ (aV KP)).trans ((ay _ _ (aV FP)).trans (az ..))
 ·exact(ay _ _ (aV KF)).trans (az ..)
 ·refine(az ..).trans ?_
  have:=A7 (E:=E) (p:=(0,0)) (by decide) (by decide);have e2: (E.rows.length:Int)+1+1=(kk E (0,0):Nat):=by refine dk this ?_;simp
  show some (fM.dict [(E.rows.length:Int)+1+1] [.int 0])=some (fM.dict [((kk E (0,0):Nat):Int)] [.int 0]);exact ao e2 rfl
end
noncomputable def AQ(x y:Rx):List Sp:=Kl x++Kl y
theorem vm{x y:Rx}:∀s∈leaves x,s∈AQ x y:=λs h=>bh _ (xk.mpr h)
theorem vd{x y:Rx}:∀s∈leaves y,s∈AQ x y:=λs h=>aL _ (xk.mpr h)
theorem ye{σ:AH}{K:V->AH->Prop}{l m:List Sp}(h:l.length<=4)(h':m.length<=4)(q:K (.list ((l++m).map tL)) σ):JF .Add (.list (l.map tL)) (.list (m.map tL)) σ K:=by
 refine d6 (by simp;exact bt (nat_lit 0xc5820915c10b801) rfl h h') ?_;refine dk bw ?_;exact q
theorem Dj{x y:Rx}(hx:Wf x)(hy:Wf y):∀s∈AQ x y,s∈S4:=λs h=>(aI.mp h).elim (λh=>hx.leaves s (xk.mp h)) λh=>hy.leaves s (xk.mp h)
theorem eq_bool(a b:Bool):a=b↔(a=true↔b=true):=by cases a<;>cases b<;>(exact(by decide))
section
variable{x y:Rx}{k k' e e' g g':Nat}(hP:C.prog=PG)
include hP
theorem ui(hx:dC k e g x)(hy:dC k' e' g' y)(hg:g<=100)(hg':g'<=100)(q:∀bounds numbers count,tK (AQ x y) bounds numbers count->LV (AQ x y) bounds numbers count->Q (xJ bounds numbers count) σ):callN C (d+3) "classes_of" [bq x,bq y] σ Q:=by
 refine dF (Bp hP rfl ?_);refine kE hP hx.wf (a8 hx.ht (by exact ci (nat_lit 0x12c980a324c01) rfl hg)) λl1=>?_;refine kE hP hy.wf (a8 hy.ht (by exact ci (nat_lit 0x12c980a324c01) rfl hg')) λl2=>?_;refine ye l1 l2 ?_;refine u6 hP (Dj hx.wf hy.wf) (by refine ao aC ?_;exact bt (nat_lit 0x1f44c20915c10b801) rfl l1 l2) q
theorem xh(hx:dC k e g x)(hy:dC k' e' g' y)(hk:k<=60)(hk':k'<=60)(he:e<=20)(he':e'<=20)(hg:g<=100)(hg':g'<=100)(hd:3*g+4<=d)(hd':3*g'+4<=d)(q:∀b:Bool,(b=true↔∀u,fJ x u↔fJ y u)->Q (.bool b) σ):
  callN C (d+2) "equal_regexes" [bq x,bq y] σ Q:=by
 have h3:=hx.ht;obtain⟨d,rfl⟩:∃d',d=d'+5:=by
  have:=fK x;exact⟨d-5,by exact aN (bt (nat_lit 0x1e0904a178243) rfl (ar (b9 (nat_lit 0x17944b080410b8001d241) rfl hd h3 this))) (bt (nat_lit 0x2f048a178242) rfl (ar (b9 (nat_lit 0x17944b080410b8001d241) rfl hd h3 this)))⟩
 refine dF (wQ hP rfl ?_);refine ui hP hx hy hg hg' λbounds numbers count hc w_=>?_;refine oF hP hc hx hk he hg hd vm λD hD=>?_;refine oF hP hc hy hk' he' hg' hd' vd λE hE=>?_;have pe:∀{n},n<=20->2 ^ n<=1048576:=λh=>dZ (by decide) h;have l1:=hD.len;have l2:=hE.len;have p1:=pe he;have p2:=pe he';refine Le hP hD.ok hE.ok hc.cnt.2 (by unfold d2;exact ir (nat_lit 0x3fffff2dd6204a45052c308296085639082b0c801) rfl l1 l2 p1 p2) λb hb=>q b ?_;rw[hb,<- Bf hc Iff iw vm vd];exact forall_congr' λw=>forall_congr' λhw=>by rw[eq_bool,hD.acc w hw,hE.acc w hw]
end
theorem Ef(a b:Bool):bad true a b=false↔(a=true->b=true):=by cases a<;>cases b<;>simp[bad]
theorem LX(a b:Bool):bad false a b=false↔(a=true↔b=true):=by cases a<;>cases b<;>simp[bad]
section
variable{x y:Rx}{k k' e e' g g':Nat}(hP:C.prog=PG)
include hP
theorem C8(hx:dC k e g x)(hy:dC k' e' g' y)(hk:k<=60)(hk':k'<=60)(he:e+e'<=24)(h20:e<=20/\e'<=20)(hg:g<=100)(hg':g'<=100)(hd:3*g+4<=d)(hd':3*g'+4<=d)(q:∀b:Bool,(b=true↔∀u,fJ x u->fJ y u)->Q (.bool b) σ):
  callN C (d+2) "_law_lies_within" [bq x,bq y] σ Q:=by
 have h3:=hx.ht;obtain⟨d,rfl⟩:∃d',d=d'+5:=by
  have:=fK x;exact⟨d-5,by exact aN (bt (nat_lit 0x1e0904a178243) rfl (ar (b9 (nat_lit 0x17944b080410b8001d241) rfl hd h3 this))) (bt (nat_lit 0x2f048a178242) rfl (ar (b9 (nat_lit 0x17944b080410b8001d241) rfl hd h3 this)))⟩
 refine dF (sZ hP rfl ?_);refine kE hP hx.wf (a8 hx.ht (by exact ci (nat_lit 0x12c980a324c01) rfl hg)) λl1=>?_;refine kE hP hy.wf (a8 hy.ht (by exact ci (nat_lit 0x12c980a324c01) rfl hg')) λl2=>?_;refine ye l1 l2 ?_;refine u6 hP (Dj hx.wf hy.wf) (by refine ao aC ?_;exact bt (nat_lit 0x1f44c20915c10b801) rfl l1 l2) λbounds numbers count hc w_=>?_;refine oF hP hc hx hk h20.1 hg hd vm λD hD=>?_;refine oF hP hc hy hk' h20.2 hg' hd' vd λE hE=>?_;refine dF (Fo hP rfl ?_);have key:=Bf hc (λa b=>a->b) (λh=>h) (r:=x) (r':=y) vm vd;refine uw hP hD hE hc.cnt.2 he true (λh=>?_) λw hw hb hm w_=>?_
 ·refine q true ⟨λw_=>key.mp λw hw=>?_,λw_=>rfl⟩
  have:=(Ef _ _).mp (h w hw);rwa [hD.acc w hw,hE.acc w hw]at this
 ·refine q false ⟨λh=>(nomatch h),λh=>?_⟩
  have:=key.mpr h w hw;rw[<- hD.acc w hw,<- hE.acc w hw]at this;rw[(Ef _ _).mpr this]at hb;exact mj hb
theorem JY(hx:dC k e g x)(hy:dC k' e' g' y)(hk:k<=60)(hk':k'<=60)(he:e+e'<=24)(h20:e<=20/\e'<=20)(hg:g<=100)(hg':g'<=100)(hd:3*g+4<=d)(hd':3*g'+4<=d)(q0: (∀u,fJ x u↔fJ y u)->Q .none σ)
  (q1:∀bounds numbers count,tK (AQ x y) bounds numbers count->LV (AQ x y) bounds numbers count->∀w:Wd,(∀a∈w,a<count)->¬(fJ x (w.map (least bounds numbers))↔fJ y (w.map (least bounds numbers)))->(∀v:Wd,(∀a∈v,a<count)->val count v<val count w->(fJ x (v.map (least bounds numbers))↔fJ y (v.map (least bounds numbers))))->w.length<=2 ^ (e+e')->Q (.str ⟨(w.map (least bounds numbers)).toArray⟩) σ):
  callN C (d+2) "apart" [bq x,bq y] σ Q:=by
 have h3:=hx.ht;obtain⟨d,rfl⟩:∃d',d=d'+5:=by
  have:=fK x;exact⟨d-5,by exact aN (bt (nat_lit 0x1e0904a178243) rfl (ar (b9 (nat_lit 0x17944b080410b8001d241) rfl hd h3 this))) (bt (nat_lit 0x2f048a178242) rfl (ar (b9 (nat_lit 0x17944b080410b8001d241) rfl hd h3 this)))⟩
 refine dF (IY hP rfl ?_);refine ui hP hx hy hg hg' λbounds numbers count hc hdt=>?_;refine oF hP hc hx hk h20.1 hg hd vm λD hD=>?_;refine oF hP hc hy hk' h20.2 hg' hd' vd λE hE=>?_;refine dF (AV hP rfl ?_);have key:=Bf hc Iff iw (r:=x) (r':=y) vm vd;have acc:∀w:Wd,(∀a∈w,a<count)->(bad false (D.acc 0 w) (E.acc 0 w)=false↔(fJ x (w.map (least bounds numbers))↔fJ y (w.map (least bounds numbers)))):=λw hw=>by
  rw[LX,hD.acc w hw,hE.acc w hw,rW x w hw,rW y w hw]
 refine uw hP hD hE hc.cnt.2 he false (λh=>?_) λw hw hb hm hl=>?_
 ·refine kj (q0 (key.mp λw hw=>?_))
  have:=(acc w hw).mp (h w hw);rwa [rW x w hw,rW y w hw]
 ·refine cU (de (dg ?_))
  refine mW_of (q:=("Classes.text",true)) rfl (Mb hP hc hw ?_ ?_)
  ·exact a8 hl (a8 (dZ (by decide) he) (by decide))
  ·exact q1 bounds numbers count hc hdt w hw (λh=>by rw[(acc w hw).mpr h]at hb;exact mj hb) (λv hv lt=>(acc v hv).mp (hm v hv lt)) hl
end
section
set_option maxRecDepth 20000
noncomputable def HF(p:fy):Option zM:=(oU p "" "_law_ends").bind λa=>(jd a.body).bind λx=>EI ⟨x.2.2.1.1,x.2.2.1.2.1,x.2.2.1.2.2.1,x.2.2.1.2.2.2,⟨#[]⟩⟩
noncomputable def Oo:zM:=⟨4,[2,1],0,.call (.glob "_law_ends") [.sub (.loc 2) (.int 1),.loc 1,.loc 0]⟩
noncomputable def Ng:yb:=⟨15,[0,1,2],[.assign (.nm 3) (.sub (.loc 0) (.int 0)),.ifs (.bool2 false [.cmp .Eq (.loc 3) (.str "empty"),.cmp .Eq (.loc 2) (.int 0)]) [.ret (.loc 2)] [],.ifs (.cmp .Eq (.loc 3) (.str "never")) [.ret (.int 0)] [],.ifs (.cmp .Eq (.loc 3) (.str "chars")) [.assign (.nm 4) (.int 0),.forEnum 5 6 (.loc 1) [.ifs (.bool2 true [.bin .BitAnd (.bin .RShift (.loc 2) (.loc 5)) (.int 1),.cmp .Gt (.call (.glob "len") [.comp [none,none,some 6] 1 (.sub (.loc 0) (.int 1)) [.cmp2 .LtE .LtE (.sub (.loc 1) (.int 0)) (.loc 2) (.sub (.loc 1) (.int 1))] (.loc 1)]) (.int 0)]) [.assign (.nm 4) (.bin .BitOr (.loc 4) (.bin .LShift (.int 1) (.bin .Add (.loc 5) (.int 1))))] []],.ret (.loc 4)] [],.ifs (.cmp .Eq (.loc 3) (.str "cat")) [.ret (.call (.glob "_law_ends") [.sub (.loc 0) (.int 2),.loc 1,.call (.glob "_law_ends") [.sub (.loc 0) (.int 1),.loc 1,.loc 2]])] [],.ifs (.cmp .Eq (.loc 3) (.str "alt")) [.ret (.bin .BitOr (.call (.glob "_law_ends") [.sub (.loc 0) (.int 1),.loc 1,.loc 2]) (.call (.glob "_law_ends") [.sub (.loc 0) (.int 2),.loc 1,.loc 2]))] []],7,[0,1],[.ifs (.cmp .Eq (.loc 3) (.str "star")) [.ret (.call (.glob "_law_again") [.loc 7,.loc 2])] [],.ifs (.cmp .Eq (.loc 3) (.str "plus")) [.ret (.call (.glob "_law_again") [.loc 7,.call (.loc 7) [.loc 2]])] [],.ifs (.cmp .Eq (.loc 3) (.str "opt")) [.ret (.bin .BitOr (.loc 2) (.call (.loc 7) [.loc 2]))] [],.assign (.nm 8) (.loc 2),.fors (.nm 9) (.call (.glob "range") [.sub (.loc 0) (.int 2)]) [.assign (.nm 8) (.call (.loc 7) [.loc 8])],.ifs (.cmp .Is (.sub (.loc 0) (.int 3)) (.none)) [.ret (.call (.glob "_law_again") [.loc 7,.loc 8])] [],.assign (.nm 4) (.loc 8),.fors (.nm 9) (.call (.glob "range") [.bin .Sub (.sub (.loc 0) (.int 3)) (.sub (.loc 0) (.int 2))]) [.assign (.nm 8) (.call (.loc 7) [.loc 8]),.assign (.nm 4) (.bin .BitOr (.loc 4) (.loc 8))],.ret (.loc 4)]⟩
theorem K9:HF PG=some Oo:=by kernel_rfl
theorem Lv:GO PG=some Ng:=by kernel_rfl
section
variable(hP:C.prog=PG)
include hP
theorem Lx:EI C.lam=some Oo:=by
 have h:=K9;unfold HF at h;refine oB h λa h1 h2=>?_;refine oB h2 λx h3 h4=>?_;have e:=C.lamEq a x (by refine ao hP ?_;exact h1) h3;rw[e]at h4;exact h4
theorem D1{t c m:V}(W:wpSs C d [] Ng.pre [some t,some c,some m,none,none,none,none,none,none,none,none,none,none,none,none] σ (JW C d Ng Q)):callN C (d+1) "_law_ends" [t,c,m] σ Q:=
 dF (H5 (by refine ao hP ?_;exact Lv) rfl W)
theorem Ot{t c m:V}(W:ig C d Oo.body [some m,some c,some t,none] σ Q):EV C (d+1) [t,c] [m] σ Q:=
 Hh (Lx hP) rfl W
end
end
noncomputable def F9(C:Cx)(d:Nat)(cs:List V)(codes:Wd)(A:Lg):Prop:=∀(m:Nat) (σ:AH) (Q:V->AH->Prop),J4 codes m->(∀m',gH A codes m m'->Q (.int (m':Nat)) σ)->EV C d cs [.int m] σ Q
structure Pv where
 found:Nat
 fresh:Nat
theorem oQ.lt{A:Lg}{codes:Wd}{m found fresh:Nat}(a:oQ A codes m found fresh):found<2 ^ (codes.length+1):=
 i0 found λi hi=>by
  rw[d9];intro h;refine xy (a.star i h) ?_;intro _ _ _ q _;exact bt (nat_lit 0x42158241) rfl hi q
theorem oQ.pl{A:Lg}{codes:Wd}{m found fresh:Nat}(a:oQ A codes m found fresh):J4 codes fresh:=λi h=>by
 refine xy (a.star i (a.frs i h)) ?_;intro _ _ _ q _;exact q
theorem IX{x y:Nat}(h:y- (y &&& x)≠0):x<x|||(y- (y &&& x)):=by
 refine nn Nat.left_le_or λe=>h (cK λi=>?_);have:=congrArg (·.testBit i) e;simp only[dH,rR]at this;rw[rR,oZ]
 revert this
 generalize x.testBit i=a;generalize y.testBit i=b
 revert a b;decide
section
variable(hP:C.prog=PG)
include hP
theorem AF{cs:List V}{codes:Wd}{A:Lg}(go:F9 C d cs codes A){m:Nat}(hm:J4 codes m)(q:∀m',gH (bQ A) codes m m'->Q (.int (m':Nat)) σ):callN C (d+1) "_law_again" [.clo cs,.int m] σ Q:=by
 refine dF (AT hP rfl ?_);refine iJ (α:=Pv) (λx=>2*(2 ^ (codes.length+1)-x.found)+(if x.fresh=0 then 0 else 1)) (λx=>[some (.clo cs),some (.int m),some (.int (x.found:Nat)),some (.int (x.fresh:Nat))]) (λw_=>σ)
  (λx=>oQ A codes m x.found x.fresh) (λx a R hR=>?_) ⟨m,m⟩ (oQ.init hm)
 intro En;refine jV (λhpos=>?_) λhz=>?_
 ·have hpos:x.fresh≠0:=by have: (0:Int)<x.fresh:=hpos;lia
  refine go x.fresh σ _ a.pl λg hg=>?_;refine uV (tv ?_);refine dk (zG Nat.and_le_left) ?_;refine ut ?_;have a':=a.step hg;refine hR ⟨x.found|||(g- (g &&& x.found)),g- (g &&& x.found)⟩ ?_ a';show 2*(2 ^ (codes.length+1)- (x.found|||(g- (g &&& x.found))))+(if g- (g &&& x.found)=0 then 0 else 1)<2*(2 ^ (codes.length+1)-x.found)+(if x.fresh=0 then 0 else 1);have l1:=a.lt;have l2:=a'.lt;refine ao (if_neg hpos) ?_;by_cases h0:g- (g &&& x.found)=0
  ·refine ao h0 ?_;refine ao (if_pos rfl) ?_;rewrite[Nat.or_zero];exact ci (nat_lit 0x2c001524b50002a4a45) rfl
  ·refine ao (if_neg h0) ?_
   have:=IX h0;exact uk (nat_lit 0x16400a925ac401525228c0492061148e158246) rfl this (ar (bt (nat_lit 0x80a158241) rfl l2)) (ar (bt (nat_lit 0x80a158241) rfl l1))
 ·have hz:x.fresh=0:=by have:¬(0:Int)<x.fresh:=hz;lia
  rw[hz]at a;exact q x.found a.fin
end
theorem qL{β:Type}{elt:bT->AH->(V->AH->Prop)->Prop}{test:bT->AH->(Bool->AH->Prop)->Prop}{ka:bT->V->bT}{src:V}{all:List V}{Q:V->AH->Prop}{σ:AH}(enc f:β->V)(p:β->Bool)(E:V->bT)(hs:kY src all σ)
  (hE:∀v v',ka (E v) v'=E v'):∀(l:List β) (acc:List V) (env:bT),(∀v,ka env v=E v)->acc.length+l.length<=16777216->(∀b∈l,∀K:Bool->AH->Prop,K (p b) σ->test (E (enc b)) σ K)->(∀b∈l,∀K:V->AH->Prop,K (f b) σ->elt (E (enc b)) σ K)->jU (acc++(l.filter p).map f) σ Q->
   compLoop elt test ka src all Q (l.map enc) acc env σ
 |[]=>λacc env w_ w_ w_ w_ q=>⟨hs,by simpa using q⟩
 |b::l=>λacc env h0 hl ht hb q=>by
  rw[bv]at hl;refine⟨hs,?_⟩;show test (ka env (enc b)) σ _;rw[h0];refine ht b (bF ..) _ ⟨λe=>hb b (bF ..) _ ⟨by exact bt (nat_lit 0x62cb048a0c596190241) rfl hl,?_⟩,λe=>?_⟩
  ·exact qL enc f p E hs hE l (acc++[f b]) (E (enc b)) (λv=>hE _ v) (by simp;exact bt (nat_lit 0x18b0560948a0c596190241) rfl hl) (λb' h=>ht b' (bA _ h)) (λb' h=>hb b' (bA _ h)) (by rw[pi,e]at q;simpa using q)
  ·exact qL enc f p E hs hE l acc (E (enc b)) (λv=>hE _ v) (by exact bt (nat_lit 0x62c1048a0c596190241) rfl hl) (λb' h=>ht b' (bA _ h)) (λb' h=>hb b' (bA _ h)) (by rw[pi,e]at q;exact q)
theorem El{α β:Type}{i j:Nat}{body:bT->AH->dy->Prop}{K:dy}{σ:AH}(enc:β->V)(E:α->bT)(I:List β->Nat->α->Prop)
  (step:∀b bs n x,I (b::bs) n x->∀R:bT->AH->Prop,(∀y,I bs (n+1) y->R (E y) σ)->body (c8 (c8 (E x) i (.int n)) j (enc b)) σ (mO R K)) (last:∀n x,I [] n x->K .next (E x) σ):∀(l:List β) (n:Nat) (x:α),I l n x->ym i j body K n (l.map enc) (E x) σ
 |[]=>λn x h=>last n x h
 |b::l=>λn x h=>step b l n x h _ λy hy=>El enc E I step last l (n+1) y hy
theorem JD{α β:Type}{i j:Nat}{body:bT->AH->dy->Prop}{K:dy}{σ:AH}(enc:β->V)(E:α->bT)(I:List β->Nat->α->Prop)
  (step:∀b bs n x,I (b::bs) n x->∀(K:dy) (R:bT->AH->Prop),(∀y,I bs (n+1) y->R (E y) σ)->body (c8 (c8 (E x) i (.int n)) j (enc b)) σ (mO R K)) (last:∀n x,I [] n x->K .next (E x) σ) (l:List β) (n:Nat) (x:α) (h:I l n x):ym i j body K n (l.map enc) (E x) σ:=El enc E I (λb bs n x h=>step b bs n x h K) last l n x h
structure Py where
 f:Nat
 o:Option V
 p:Option V
theorem DA{s:Sp}{codes:Wd}{m f:Nat}(h:∀j,f.testBit j=true↔∃i c,codes[i]?=some c/\m.testBit i=true/\qC s c=true/\j=i+1):gH (fJ (.chars s)) codes m f:=λj=>by
 rw[h];constructor
 ·rintro⟨i,c,e,hm,hc,rfl⟩
  have hi:=(aE.mp e).1;refine⟨i,hm,dI i,hi,c,?_,hc⟩;refine ao ki (ao e (ao (lJ (by simp;lia)) ?_));simp
 ·rintro⟨i,hm,h1,h2,c,e,hc⟩
  have hl:=congrArg dW e;simp at hl;have hj:j=i+1:=by lia
  subst hj;refine⟨i,c,?_,hm,hc,rfl⟩;have hi:i<codes.length:=by exact bt (nat_lit 0x2b048a158241) rfl h2
  rw[ki,ah hi,lJ (by simp;lia)]at e;simp at e;refine ao (ah hi) ?_;have:List.drop i (List.take i codes)=[]:=lH.mpr (by simp;lia);simpa using e
noncomputable def LD(s:Sp)(codes:Wd)(m n f:Nat):Prop:=∀j,f.testBit j=true↔∃i c,i<n/\codes[i]?=some c/\m.testBit i=true/\qC s c=true/\j=i+1
theorem LD.skip{s:Sp}{codes:Wd}{m n f b:Nat}(h:LD s codes m n f)(eb:codes[n]?=some b)(hn:¬(m.testBit n=true/\qC s b=true)):LD s codes m (n+1) f:=λj=>(h j).trans (exists_congr λi=>exists_congr λc=>by
 refine⟨λ⟨a,r⟩=>⟨cM a,r⟩,λ⟨a,r⟩=>⟨nn (dX a) λe=>?_,r⟩⟩;clear a h;subst e;rw[eb]at r;refine iq r ?_;clear r;intro e r1 r2 _;replace e:=ac e;subst e;exact hn ⟨r1,r2⟩)
theorem LD.step{s:Sp}{codes:Wd}{m n f b:Nat}(h:LD s codes m n f)(eb:codes[n]?=some b)(h1:m.testBit n=true)(h2:qC s b=true):LD s codes m (n+1) (f|||1 <<< (n+1)):=λj=>by
 rewrite[dH];rewrite[fE];rewrite[h j];rewrite[nR];refine ao mf ?_;rewrite[decide_eq_true_iff];constructor
 ·rintro(⟨i,c,a,r⟩|rfl)
  ·exact⟨i,c,cM a,r⟩
  ·exact⟨n,b,bR n,eb,h1,h2,rfl⟩
 ·rintro⟨i,c,a,r⟩
  rcases dJ (dX a)with a|rfl
  ·exact .inl ⟨i,c,a,r⟩
  ·exact .inr r.2.2.2.symm
section
variable(hP:C.prog=PG)
include hP
theorem JC{s:Sp}(hs:s.length<=2){codes:Wd}(hl:codes.length<=1000){m:Nat}(h0:m≠0)(q:∀m',gH (fJ (.chars s)) codes m m'->Q (.int (m':Nat)) σ):callN C (d+1) "_law_ends" [cg (.chars s),.list (cP codes),.int m] σ Q:=by
 refine D1 hP ?_;refine CI (λw_=>fj (λe=>h0 (cQ e)) (de (dg (cU (de (dg (kj ?_))))))) λh=>absurd h (by decide:¬ae "chars"=ae "empty");refine⟨by rw[ai];exact ci (nat_lit 0x18b00bf44c01) rfl hl,?_⟩;refine JD (α:=Py) (β:=Nat) (λk=> .int (k:Nat)) (λx=>[some (cg (.chars s)),some (.list (cP codes)),some (.int m),some (qV "chars"),some (.int (x.f:Nat)),x.o,x.p,none,none,none,none,none,none,none,none])
  (λbs n x=>n+bs.length=codes.length/\codes.drop n=bs/\LD s codes m n x.f) (λb bs n x hx w_ R hR=>?_) (λn x hx=>?_) codes 0 ⟨0,none,none⟩ ⟨dM _,rfl,λj=>?_⟩
 ·refine eX hx λh1 h2 h3=>?_;clear hx
  have eb:codes[n]?=some b:=by
   have:=congrArg (·[0]?) h2;simpa using this
  have h2':codes.drop (n+1)=bs:=by
   have:=congrArg (List.drop 1) h2;rw[yV]at this;exact this
  have h1':n+1+bs.length=codes.length:=by rw[bv]at h1;exact aN (b9 (nat_lit 0x41582522896190242) rfl h1) (b9 (nat_lit 0x2b04a422896190243) rfl h1)
  refine xQ (by exact b9 (nat_lit 0xf424025d61914020c85f44c01) rfl hl h1) (uV (b:=1) ?_);refine jV (λhbit=>?_) λhbit=>?_
  ·have hbit:m.testBit n=true:=by
    show(1 &&& m >>>n !=0)=true;rw[p8];exact bne_iff_ne.mpr λz=>hbit (congrArg hX z)
   refine qL (β:=Nat×Nat) (λp=> .tup [.int (p.1:Nat),.int (p.2:Nat)]) (λp=> .tup [.int (p.1:Nat),.int (p.2:Nat)]) (λp=>decide (p.1<=b) && decide (b<=p.2)) (λv=>[none,some v,some (.int (b:Nat))]) (by exact bL) (λw_ w_=>rfl) s [] _ (λw_=>rfl) (by show 0+s.length<=_;exact ci (nat_lit 0x18b01522b001) rfl hs) (λp w_ K k=>?_) (λp w_ K k=>k) ?_
   ·refine⟨λh=>?_,λh=>?_⟩
    ·have h:¬p.1<=b:=λz=>of_decide_eq_false h (mC.mpr z)
     rw[decide_eq_false h,Bool.false_and]at k;exact k
    ·have h:p.1<=b:=mC.mp (of_decide_eq_true h)
     rw[decide_eq_true h,sT]at k;have e:decide (b<=p.2)=decide ((b:Int)<=(p.2:Int)):=by simp
     rw[e]at k;exact k
   ·have fl: ((s.filter λp=>decide (p.1<=b) && decide (b<=p.2)).map λp=>V.tup [.int (p.1:Nat),.int (p.2:Nat)]).length<=2:=by
     rw[ai];exact a8 (qB _ _) hs
    refine d6 (a8 fl (by decide)) (jN rfl (a8 fl (by decide)) ?_);have ein:qC s b=true↔0< (s.filter λp=>decide (p.1<=b) && decide (b<=p.2)).length:=by
     rw[List.length_pos_iff_exists_mem];unfold qC;rw[vE];exact⟨λ⟨x,h,h'⟩=>⟨x,fG.mpr ⟨h,h'⟩⟩,λ⟨x,h⟩=>⟨x,fG.mp h⟩⟩
    rw[jx,ai];refine jV (λhin=>?_) λhin=>?_
    ·have hin:qC s b=true:=ein.mpr (ft.mp hin)
     refine eY (vo (b:=n+1) (by exact b9 (nat_lit 0x3d0900975ac32914020c85f44c01) rfl hl h1) (ut ?_));exact hR ⟨x.f|||1 <<< (n+1),some (.int n),some (.int b)⟩ ⟨h1',h2',h3.step eb hbit hin⟩
    ·have hin:¬qC s b=true:=λz=>hin (ft.mpr (ein.mp z))
     exact hR ⟨x.f,some (.int n),some (.int b)⟩ ⟨h1',h2',h3.skip eb λz=>hin z.2⟩
  ·have hraw:=hbit
   have hbit:¬m.testBit n=true:=by
    show¬(1 &&& m >>>n !=0)=true;rw[p8];exact λz=>hbit λw=>bne_iff_ne.mp z (cQ w)
   exact fj hraw (hR ⟨x.f,some (.int n),some (.int b)⟩ ⟨h1',h2',h3.skip eb λz=>hbit z.1⟩)
 ·refine eX hx λh1 h2 h3=>?_;clear hx
  rw[gc,Bt]at h1;refine q x.f (DA λj=>(h3 j).trans (exists_congr λi=>exists_congr λc=>?_));exact⟨λh=>h.2,λh=>⟨h1▸(aE.mp h.1).1,h⟩⟩
 ·refine⟨λh=>?_,λ⟨i,c,h,_⟩=>absurd h (jv i)⟩
  simp at h
end
noncomputable def xO(C:Cx)(d:Nat)(r:Rx):Prop:=∀(codes:Wd) (m:Nat) (σ:AH) (Q:V->AH->Prop),codes.length<=1000->J4 codes m->(∀m',gH (fJ r) codes m m'->Q (.int (m':Nat)) σ)->callN C d "_law_ends" [cg r,.list (cP codes),.int m] σ Q
theorem xO.le{C:Cx}{d d':Nat}{r:Rx}(h:xO C d r)(hd:d<=d'):xO C d' r:=λcodes m σ Q a b q=>lR (h codes m σ Q a b q) hd
theorem HT{σ:AH}(r:Rx):oT σ (cg r) (.int 0)=some (qV (qR r)):=by cases r<;>rfl
structure Pw where
 h:Nat
 o:Option V
structure Pt where
 h:Nat
 f:Nat
 o:Option V
section
variable{codes:Wd}{m:Nat}(hP:C.prog=PG)
include hP
theorem ug{r:Rx}(hn:¬ae (qR r)=ae "empty")(q:∀m',gH (fJ r) codes m m'->Q (.int (m':Nat)) σ)
  (h:m≠0->wpSs C d [] (Ng.pre.drop 2) [some (cg r),some (.list (cP codes)),some (.int m),some (qV (qR r)),none,none,none,none,none,none,none,none,none,none,none] σ (JW C d Ng Q)):callN C (d+1) "_law_ends" [cg r,.list (cP codes),.int m] σ Q:=by
 refine D1 hP (oW_of (HT r) ?_);refine CI (λw_=>jV (λe=>?_) λe=>de (dg ?_)) λh=>absurd h hn
 ·have e:m=0:=cQ e
  clear h;subst e;exact q 0 gH.zero
 ·exact h λz=>e (congrArg hX z)
theorem xD{r a:Rx}(hl:codes.length<=1000)(hs:∀σ,oT σ (cg r) (.int 1)=some (cg a))(h:xO C d a):F9 C (d+1) [cg r,.list (cP codes)] codes (fJ a):=λm σ Q hm q=>Ot hP (oW_of (hs σ) (h codes m σ _ hl hm q))
omit hP in
theorem Ec{A:Lg}{cs:List V}{v0 v1 v3:Option V}{n:Nat}(go:F9 C d cs codes A)(hm:J4 codes m)(hn:n<=3){K:dy}(q:∀h o,gH (fg A n) codes m h->K .next [v0,v1,some (.int m),v3,none,none,none,some (.clo cs),some (.int (h:Nat)),o,none,none,none,none,none] σ):
  oW (dw σ (.range 0 n)) λitems=>qe (Ea C d [0,1] (.nm 9)) (wpSs C d [0,1] [.assign (.nm 8) (.call (.loc 7) [.loc 8])]) (.range 0 n) items K items [v0,v1,some (.int m),v3,none,none,none,some (.clo cs),some (.int m),none,none,none,none,none,none] σ:=by
 refine hC (α:=Pw) (n:=n) (by exact ci (nat_lit 0x3cb2c122b401) rfl hn) (λx=>[v0,v1,some (.int m),v3,none,none,none,some (.clo cs),some (.int (x.h:Nat)),x.o,none,none,none,none,none]) (λw_=>σ) (λi x=>gH (fg A i) codes m x.h) (λi x hi hx w_ R hR=>?_) (λx hx=>q x.h x.o hx) ⟨m,none⟩ (gH.one hm) rfl rfl;intro En;refine go x.h σ _ hx.pl λh hh=>?_;exact hR ⟨h,some (.int i)⟩ ((hx.cat hh).iff λw=>f8.symm)
omit hP in
theorem H7{A:Lg}{cs:List V}{v0 v1 v3:Option V}{lo n h0:Nat}(go:F9 C d cs codes A)(h:gH (fg A lo) codes m h0)(hn:n<=3){o:Option V}{K:dy}(q:∀h f o,gH (λw=>∃k,lo<=k/\k<=lo+n/\fg A k w) codes m f->K .next [v0,v1,some (.int m),v3,some (.int (f:Nat)),none,none,some (.clo cs),some (.int (h:Nat)),o,none,none,none,none,none] σ):
  oW (dw σ (.range 0 n)) λitems=>qe (Ea C d [0,1] (.nm 9)) (wpSs C d [0,1] [.assign (.nm 8) (.call (.loc 7) [.loc 8]),.assign (.nm 4) (.bin .BitOr (.loc 4) (.loc 8))]) (.range 0 n) items K items [v0,v1,some (.int m),v3,some (.int (h0:Nat)),none,none,some (.clo cs),some (.int (h0:Nat)),o,none,none,none,none,none] σ:=by
 refine hC (α:=Pt) (n:=n) (by exact ci (nat_lit 0x3cb2c122b401) rfl hn) (λx=>[v0,v1,some (.int m),v3,some (.int (x.f:Nat)),none,none,some (.clo cs),some (.int (x.h:Nat)),x.o,none,none,none,none,none]) (λw_=>σ) (λi x=>gH (fg A (lo+i)) codes m x.h/\gH (λw=>∃k,lo<=k/\k<=lo+i/\fg A k w) codes m x.f) (λi x hi hx w_ R hR=>?_) (λx hx=>q x.h x.f x.o hx.2) ⟨h0,h0,o⟩ ⟨h,h.iff λw=>⟨λz=>⟨lo,aG _,aG _,z⟩,λ⟨k,a,b,z⟩=>by refine ao (show lo=k from aN a b) ?_;exact z⟩⟩ rfl rfl;intro En;obtain⟨h1,h2⟩:=hx;refine go x.h σ _ h1.pl λg hg=>ut ?_;have e1:gH (fg A (lo+(i+1))) codes m g:=(h1.cat hg).iff λw=>f8.symm;refine hR ⟨g,x.f|||g,some (.int i)⟩ ⟨e1,(h2.or e1).iff λw=>?_⟩;constructor
 ·rintro(⟨k,a,b,z⟩|z)
  ·exact⟨k,a,by exact b9 (nat_lit 0x58a41900a20c801) rfl b,z⟩
  ·exact⟨lo+(i+1),by exact bt (nat_lit 0x2c3204805) rfl,aG _,z⟩
 ·rintro⟨k,a,b,z⟩
  by_cases e:k=lo+(i+1)
  ·exact .inr (e▸z)
  ·exact .inl ⟨k,a,by lia,z⟩
theorem og:∀(r:Rx),Wf r->∀d,3*gz r<=d->xO C d r
 | .empty=>λw_ d hd=>λcodes m σ Q hl hm q=>by
  obtain⟨d,rfl⟩:∃d',d=d'+1:=⟨d-1,by exact aN (bt (nat_lit 0x160904a158243) rfl (ar (ci (nat_lit 0x5940b00e81) rfl hd))) (bt (nat_lit 0x2b048a158242) rfl (ar (ci (nat_lit 0x5940b00e81) rfl hd)))⟩;exact D1 hP (CI (λh=>absurd rfl h) λw_=>kj (q m (gH.one hm)))
 | .never=>λw_ d hd=>λcodes m σ Q hl hm q=>by
  obtain⟨d,rfl⟩:∃d',d=d'+1:=⟨d-1,by exact aN (bt (nat_lit 0x160904a158243) rfl (ar (ci (nat_lit 0x5940b00e81) rfl hd))) (bt (nat_lit 0x2b048a158242) rfl (ar (ci (nat_lit 0x5940b00e81) rfl hd)))⟩;exact ug hP (by decide) q λw_=>kj (q 0 gH.never)
 | .chars s=>λw d hd=>λcodes m σ Q hl hm q=>by
  obtain⟨d,rfl⟩:∃d',d=d'+1:=⟨d-1,by exact aN (bt (nat_lit 0x160904a158243) rfl (ar (ci (nat_lit 0x5940b00e81) rfl hd))) (bt (nat_lit 0x2b048a158242) rfl (ar (ci (nat_lit 0x5940b00e81) rfl hd)))⟩;by_cases h0:m=0
  ·exact ug hP (by decide:¬ae "chars"=ae "empty") q λh=>absurd h0 h
  ·exact JC hP (Gi s w) hl h0 q
 | .cat a b=>λw d hd=>λcodes m σ Q hl hm q=>by
  obtain⟨d,rfl⟩:∃d',d=d'+1:=⟨d-1,by exact aN (bt (nat_lit 0x160904a158243) rfl (ar (b9 (nat_lit 0x25944102e5200e81) rfl hd))) (bt (nat_lit 0x2b048a158242) rfl (ar (b9 (nat_lit 0x25944102e5200e81) rfl hd)))⟩;refine ug hP (by decide:¬ae "cat"=ae "empty") q λw_=>cU (de (dg (cU (de (dg (kj ?_))))));refine og a w.1 d (by exact b9 (nat_lit 0x4000e8558a4102e5200e81) rfl hd) codes m _ _ hl hm λm1 h1=>?_;exact og b w.2 d (by exact b9 (nat_lit 0x4100e8558a4102e5200e81) rfl hd) codes m1 _ _ hl h1.pl λm2 h2=>q m2 (h1.cat h2)
 | .alt a b=>λw d hd=>λcodes m σ Q hl hm q=>by
  obtain⟨d,rfl⟩:∃d',d=d'+1:=⟨d-1,by exact aN (bt (nat_lit 0x160904a158243) rfl (ar (b9 (nat_lit 0x25944102e5200e81) rfl hd))) (bt (nat_lit 0x2b048a158242) rfl (ar (b9 (nat_lit 0x25944102e5200e81) rfl hd)))⟩;refine ug hP (by decide:¬ae "alt"=ae "empty") q λw_=>cU (de (dg (cU (de (dg (cU (de (dg (kj ?_)))))))));refine og a w.1 d (by exact b9 (nat_lit 0x4000e8558a4102e5200e81) rfl hd) codes m _ _ hl hm λm1 h1=>?_;exact og b w.2 d (by exact b9 (nat_lit 0x4100e8558a4102e5200e81) rfl hd) codes m _ _ hl hm λm2 h2=>ut (q _ (h1.or h2))
 | .star a=>λw d hd=>λcodes m σ Q hl hm q=>by
  have:=fK a;obtain⟨d,rfl⟩:∃d',d=d'+3:=⟨d-3,by exact aN (bt (nat_lit 0x1a0904a168243) rfl (ar (bt (nat_lit 0x5a50817200e81) rfl hd))) (bt (nat_lit 0x2d048a168242) rfl (ar (bt (nat_lit 0x5a50817200e81) rfl hd)))⟩;refine ug hP (by decide:¬ae "star"=ae "empty") q λw_=>cU (de (dg (cU (de (dg (cU (de (dg (cU (de (dg ?_)))))))))));refine⟨[cg (.star a),.list (cP codes)],rfl,kj ?_⟩;exact AF hP (xD hP hl (λw_=>rfl) (og a w d (by exact bt (nat_lit 0x8003a15a19017200e81) rfl hd))) hm q
 | .plus a=>λw d hd=>λcodes m σ Q hl hm q=>by
  have:=fK a;obtain⟨d,rfl⟩:∃d',d=d'+3:=⟨d-3,by exact aN (bt (nat_lit 0x1a0904a168243) rfl (ar (bt (nat_lit 0x5a50817200e81) rfl hd))) (bt (nat_lit 0x2d048a168242) rfl (ar (bt (nat_lit 0x5a50817200e81) rfl hd)))⟩;refine ug hP (by decide:¬ae "plus"=ae "empty") q λw_=>cU (de (dg (cU (de (dg (cU (de (dg (cU (de (dg ?_)))))))))));refine⟨[cg (.plus a),.list (cP codes)],rfl,cU (de (dg (kj ?_)))⟩;have ih:=og a w d (by exact bt (nat_lit 0x8003a15a19017200e81) rfl hd);refine xD hP hl (λw_=>rfl) (ih.le (dI d)) m _ _ hm λm1 h1=>?_;exact AF hP (xD hP hl (λw_=>rfl) ih) h1.pl λm2 h2=>q m2 (h1.cat h2)
 | .opt a=>λw d hd=>λcodes m σ Q hl hm q=>by
  have:=fK a;obtain⟨d,rfl⟩:∃d',d=d'+3:=⟨d-3,by exact aN (bt (nat_lit 0x1a0904a168243) rfl (ar (bt (nat_lit 0x5a50817200e81) rfl hd))) (bt (nat_lit 0x2d048a168242) rfl (ar (bt (nat_lit 0x5a50817200e81) rfl hd)))⟩;refine ug hP (by decide:¬ae "opt"=ae "empty") q λw_=>cU (de (dg (cU (de (dg (cU (de (dg (cU (de (dg ?_)))))))))));refine⟨[cg (.opt a),.list (cP codes)],rfl,cU (de (dg (cU (de (dg (kj ?_))))))⟩;have ih:=og a w d (by exact bt (nat_lit 0x8003a15a19017200e81) rfl hd);exact xD hP hl (λw_=>rfl) (ih.le (dI d)) m _ _ hm λm1 h1=>ut (q _ ((gH.one hm).or h1))
 | .rep a lo none=>λw d hd=>λcodes m σ Q hl hm q=>by
  have:=fK a;obtain⟨d,rfl⟩:∃d',d=d'+3:=⟨d-3,by exact aN (bt (nat_lit 0x1a0904a168243) rfl (ar (bt (nat_lit 0x5a50817200e81) rfl hd))) (bt (nat_lit 0x2d048a168242) rfl (ar (bt (nat_lit 0x5a50817200e81) rfl hd)))⟩;refine ug hP (by decide:¬ae "repeat"=ae "empty") q λw_=>cU (de (dg (cU (de (dg (cU (de (dg (cU (de (dg ?_)))))))))));refine⟨[cg (.rep a lo none),.list (cP codes)],rfl,cU (de (dg (cU (de (dg (cU (de (dg ?_))))))))⟩;have ih:=og a w.1 d (by exact bt (nat_lit 0x8003a15a19017200e81) rfl hd);have go2:F9 C (d+2) [cg (.rep a lo none),.list (cP codes)] codes (fJ a):=xD hP hl (λw_=>rfl) (ih.le (dI d));refine gU (Ec (n:=lo) go2 hm w.2 λh o hh=>?_);refine kj ?_;exact AF hP (xD hP hl (λw_=>rfl) ih) hh.pl λm2 h2=>q m2 (hh.cat h2)
 | .rep a lo (some hi)=>λw d hd=>λcodes m σ Q hl hm q=>by
  have:=fK a;obtain⟨d,rfl⟩:∃d',d=d'+3:=⟨d-3,by exact aN (bt (nat_lit 0x1a0904a168243) rfl (ar (bt (nat_lit 0x5a50817200e81) rfl hd))) (bt (nat_lit 0x2d048a168242) rfl (ar (bt (nat_lit 0x5a50817200e81) rfl hd)))⟩;refine ug hP (by decide:¬ae "repeat"=ae "empty") q λw_=>cU (de (dg (cU (de (dg (cU (de (dg (cU (de (dg ?_)))))))))));refine⟨[cg (.rep a lo (some hi)),.list (cP codes)],rfl,cU (de (dg (cU (de (dg (cU (de (dg ?_))))))))⟩;refine eX w λwa w1 w2=>?_;clear w;have ih:=og a wa d (by exact bt (nat_lit 0x8003a15a19017200e81) rfl hd);have go2:F9 C (d+2) [cg (.rep a lo (some hi)),.list (cP codes)] codes (fJ a):=xD hP hl (λw_=>rfl) (ih.le (dI d));refine gU (Ec (n:=lo) go2 hm (by exact bt (nat_lit 0xd015a108401) rfl w1 w2) λh o hh=>?_);refine cU (de (dg (tv ?_)));refine dk (zG w1) ?_;refine gU (H7 (n:=hi-lo) go2 hh (by exact b9 (nat_lit 0x34250083213401) rfl w2 (ar (bt (nat_lit 0x2028401) rfl w1))) λg f o hf=>?_);exact q f (hf.iff λw=>by refine ao (su w1) ?_;exact iw)
end
noncomputable def mL(l:Wd):V:= .str ⟨l.toArray⟩
theorem Ga{σ:AH}{l:Wd}(h:∀c∈l,c<128):dw σ (mL l)=some (l.map λc=> .str ⟨#[c]⟩):=by
 show(if(l.toArray).all (· <128)then some (l.toArray.toList.map λc=>V.str ⟨#[c]⟩)else none)=_;exact ao (if_pos (by rw[Array.all_eq_true'];intro x hx;exact decide_eq_true (h x (by simpa using hx)))) rfl
theorem Ed(a b:Bool)(τ:AH):yc .NotEq (.bool a) (.bool b) τ=some (a !=b):=by cases a<;>cases b<;>rfl
theorem IF(a b:Bool)(τ:AH):yc .Eq (.bool a) (.bool b) τ=some (a==b):=by cases a<;>cases b<;>rfl
section
theorem DF{l:Wd}(h:∀c∈l,c<128)(hl:l.length<=16777216){K:V->AH->Prop}(q:K (.list (cP l)) σ):
  oW (dw σ (mL l)) λitems=>compLoop (ig C d (.call (.glob "ord") [.loc 1])) (GX C d []) (c8 · 1) (mL l) items K items [] [none,none,none] σ:=by
 refine oW_of (Ga h) ?_;refine jM (β:=Nat) (enc:=λc=> .str ⟨#[c]⟩) (f:=λc=> .int (c:Nat)) (E:=λv=>[none,some v,none]) (by exact bL) (λw_ w_=>rfl) l [] _ (λw_=>rfl) (by simpa using hl) (λc hc K k=>?_) (d6 (by exact(ai ..).symm▸(hl)) q);exact Nc k
variable(hP:C.prog=PG)
include hP
theorem D8{r:Rx}(w:Wf r)(hd:3*gz r<=d){codes:Wd}(hl:codes.length<=1000)(q:∀b:Bool,(b=true↔fJ r codes)->Q (.bool b) σ):callN C (d+1) "_law_fit" [cg r,.list (cP codes)] σ Q:=by
 refine dF (Df hP rfl ?_);refine og hP r w d hd codes 1 _ _ hl (λi hi=>?_) λm hm=>?_
 ·have:=im.mp hi
  exact bt (nat_lit 0x202a802) rfl this
 ·refine jN rfl (by rw[ai];exact ci (nat_lit 0x1eb00bf44c01) rfl hl) ?_
  rw[ai];refine xQ (by exact ci (nat_lit 0x7a12012eb048bf44c01) rfl hl) (uV (b:=1) ?_);refine q (decide (((m >>>codes.length &&& 1:Nat):Int)=1)) ?_;rw[<- hm.fit,decide_eq_true_iff];show _↔(1 &&& m >>>codes.length !=0)=true;rw[p8 1,bne_iff_ne];have:m >>>codes.length &&& 1=0\/m >>>codes.length &&& 1=1:=by
   have:=tD (m >>>codes.length);lia
  lia
end
theorem Gh(u:Wd)(c:Nat): ((⟨u.toArray⟩:Str)++(⟨#[c]⟩:Str))=⟨(u++[c]).toArray⟩:=by
 show(⟨u.toArray++#[c]⟩:Str)=_;exact ao (show u.toArray++#[c]=(u++[c]).toArray by simp) rfl
noncomputable abbrev Kv(ls:Wd):V:= .list (ls.map λc=> .str ⟨#[c]⟩)
theorem Hc{u:Wd}{ls:Wd}(hu:u.length<=1000){all:List V}{K:List V->bT->AH->Prop}:∀(l:Wd) (acc:List V) (o:Option V),acc.length+l.length<=10000->(∀o,K (acc++l.map λc=>mL (u++[c])) [none,some (mL u),o,some (Kv ls)] σ)->
  oL (ig C d (.bin .Add (.loc 1) (.loc 2))) (c8 · 2) (Kv ls) all K (l.map λc=> .str ⟨#[c]⟩) acc [none,some (mL u),o,some (Kv ls)] σ
 |[]=>λacc o hl q=>⟨bL,by have:=q o;rwa [mA,be]at this⟩
 |c::l=>λacc o hl q=>by
  rw[bv]at hl;refine⟨bL,rfl,?_,?_⟩
  ·show u.toArray.size+1<=_
   refine ao bB ?_;exact ci (nat_lit 0x7a12012eb048bf44c01) rfl hu
  ·rw[Gh]
   refine⟨by exact bt (nat_lit 0x18b2c122a7101dd6190241) rfl hl,?_⟩;refine Hc hu l (acc++[mL (u++[c])]) _ (by simp;exact bt (nat_lit 0x13880ee1582522a7101dd6190241) rfl hl) λo=>?_;have:=q o;rwa [aJ]
theorem GC{ls:Wd}(hs:ls.length<=4){all:List V}{src:V}(hsrc:kY src all σ):∀(ws:List Wd) (acc:List V) (o p:Option V),(∀u∈ws,u.length<=1000)->acc.length+4*ws.length<=10000->jU (acc++(ws.flatMap λu=>ls.map λc=>mL (u++[c]))) σ Q->
  kG (ig C d (.bin .Add (.loc 1) (.loc 2))) (ig C d (.loc 3)) (c8 · 1) (c8 · 2) src all Q (ws.map mL) acc [none,o,p,some (Kv ls)] σ
 |[]=>λacc o p w_ w_ q=>⟨hsrc,by rwa [List.flatMap_nil,be]at q⟩
 |u::ws=>λacc o p hu hl q=>by
  rw[bv]at hl;refine⟨hsrc,Hc (hu u (bF ..)) ls acc p (by exact b9 (nat_lit 0x13880ee00c8a9c407758a40250320b801) rfl hs hl) λo'=>?_⟩;refine GC hs hsrc ws _ _ _ (λv hv=>hu v (bA _ hv)) (by refine ao aC ?_;rewrite[ai];exact b9 (nat_lit 0x27101dc4025001948a9c407758a40250320b801) rfl hs hl) ?_;rw[kh,<- aJ]at q;exact q
structure PA where
 k:Nat
 o:Option V
 p:Option V
 q:Option V
noncomputable abbrev Cy(c:Nat)(f:Nat->Nat)(k:Nat):List Wd:=(i9 c k).map (·.map f)
theorem FY(c:Nat)(f:Nat->Nat)(k:Nat): ((Cy c f k).flatMap λu=>((bN c).map f).map λx=>mL (u++[x]))=(Cy c f (k+1)).map mL:=by
 unfold Cy;rewrite[i9];rewrite[List.flatMap_map];refine ao dE ?_;refine ao List.map_flatMap ?_;refine congrArg (λg=>(i9 c k).flatMap g) (funext λu=>?_);refine ao dE (ao dE ?_);refine dA λa w_=>?_;show mL (u.map f++[f a])=mL ((u++[a]).map f);refine ao bw ?_;rfl
theorem Eg(c:Nat)(f:Nat->Nat)(k:Nat): (Cy c f k).map mL=(i9 c k).map λu=>mL (u.map f):=by
 unfold Cy;refine ao dE ?_;rfl
theorem IJ(c k:Nat): (i9 c (k+1)).length=(i9 c k).length*c:=by
 rw[i9];generalize i9 c k=l
 induction l with
 |nil=>simp
 |cons u l ih=>refine ao kh ?_;refine ao aC ?_;refine ao ih ?_;rewrite[ai];refine ao b7 ?_;refine ao bv ?_;rewrite[kg];rewrite[pN];with_reducible rfl
section
variable(hP:C.prog=PG)
include hP
theorem GV{x y:Rx}(hx:f6 x)(hy:f6 y){v0 v1 z wv:V}{c N:Nat}{f:Nat->Nat}{isEq:Bool}(hf:∀n,n<c->f n<128)(hc:c<=4)(hN:N<=900)
  (hb:∀(n i:Nat) (v:Wd),(i9 c n)[i]?=some v->¬(fJ x (v.map f)↔fJ y (v.map f))->(∀m,m<n->∀u∈i9 c m,¬¬(fJ x (u.map f)↔fJ y (u.map f)))->(∀(j:Nat) (u:Wd),j<i->(i9 c n)[j]?=some u->¬¬(fJ x (u.map f)↔fJ y (u.map f)))->yc .Eq (mL (v.map f)) wv σ=some true)
  (he: (∀m,m<N->∀u∈i9 c m,¬¬(fJ x (u.map f)↔fJ y (u.map f)))->isEq=true) (q:Q (.bool true) σ):
  oW (dw σ (.range 0 N)) λitems=>qe (Ea C (d+20) [] (.nm 7)) (wpSs C (d+20) [] (xj (mS.body.getD 5 .stuck))) (.range 0 N) items (JR (wpSs C (d+20) [] [.ret (.loc 5)]) (q6 Q)) items [some v0,some v1,some (.list [cg x,cg y,z]),some (Kv ((bN c).map f)),some wv,some (.bool isEq),some (.list ((Cy c f 0).map mL)),none,none,none,none,none,none,none,none] σ:=by
 refine xY (α:=PA) (n:=N) (by exact ci (nat_lit 0xf2cb048bc24c01) rfl hN) (λs=>[some v0,some v1,some (.list [cg x,cg y,z]),some (Kv ((bN c).map f)),some wv,some (.bool isEq),some (.list ((Cy c f s.k).map mL)),s.o,s.p,s.q,none,none,none,none,none]) (λw_=>σ)
  (λi s=>s.k=i/\(i9 c i).length<=80/\∀m,m<i->∀u∈i9 c m,¬¬(fJ x (u.map f)↔fJ y (u.map f))) (λi s hi hs R hR=>?_) (λs hs=>?_) ⟨0,none,none,none⟩ ⟨rfl,by show 1<=80;decide,λm h=>absurd h (jv m)⟩ rfl rfl
 ·dsimp only;refine eX hs ?_;clear hs;rintro rfl h80 old
  refine jN rfl (by simp;exact ci (nat_lit 0x1eb00a284c01) rfl h80) ?_;refine jV (λw_=>q) λh20=>de (dg ?_);have h20: (i9 c s.k).length<=20:=by
   rw[ai,ai]at h20;have:¬(((i9 c s.k).length:Nat):Int) >20:=h20;lia
  have wx:=hx.small;have wy:=hy.small;have hk:s.k<=900:=by exact bt (nat_lit 0x70930940b0c83c24c01) rfl hN hi
  rw[Eg];refine GM (β:=Wd) (α:=Option V×Option V) (λu=>mL (u.map f)) (λp=>[some v0,some v1,some (.list [cg x,cg y,z]),some (Kv ((bN c).map f)),some wv,some (.bool isEq),some (.list ((i9 c s.k).map λu=>mL (u.map f))),some (.int s.k),p.1,p.2,none,none,none,none,none]) (λw_=>σ)
   (λbs w_=>∃pre,pre++bs=i9 c s.k/\∀u∈pre,¬¬(fJ x (u.map f)↔fJ y (u.map f))) ?_ (λu bs p hp R' hR'=>?_) (λp hp=>?_) (i9 c s.k) (s.p,s.q) ⟨[],rfl,λu h=>(nomatch h)⟩
  ·exact λw_ w_ w_=>bL
  ·intro En;refine bJ hp λpre e good=>?_;clear hp
   have hu:u∈i9 c s.k:=by refine dk e ?_;exact aL _ (.head _)
   obtain⟨lu,au⟩:=kX.mp hu;have l128:∀a∈u.map f,a<128:=λa ha=>by
    clear lu hu good e hR' hk wy wx h20 old h80 hR hi q he hb hN hc hP;clear h20;refine bJ (bG.mp ha) ?_;rintro n hn rfl;exact hf n (au n hn)
   have lm: (u.map f).length=s.k:=by rewrite[ai];refine ao lu ?_;with_reducible rfl
   refine DF l128 (by exact bt (nat_lit 0xc58250045c24c01) rfl hk lm) ?_;refine D8 hP wx.wf (by have:=wx.ht;exact bt (nat_lit 0x9cc32000742b80b) rfl this) (by exact bt (nat_lit 0x1f44c250045c24c01) rfl hk lm) λb1 h1=>?_;refine D8 hP wy.wf (by have:=wy.ht;exact bt (nat_lit 0x9cc32000742b80b) rfl this) (by exact bt (nat_lit 0x1f44c250045c24c01) rfl hk lm) λb2 h2=>?_;refine oW_of (Ed b1 b2 _) (y8 (λhne=>?_) λheq=>?_)
   ·have hne:¬(fJ x (u.map f)↔fJ y (u.map f)):=by
     rw[<- h1,<- h2];revert hne;clear h1;cases b1<;>cases b2<;>(exact nofun)
    refine oW_of (hb s.k pre.length u (by refine dk e ?_;exact eC (aG _)|>.trans (by rw[pZ];rfl)) hne old λj v hj hv=>good v ?_) q;rw[<- e,cI hj]at hv;exact aX hv
   ·have heq:fJ x (u.map f)↔fJ y (u.map f):=by
     rw[<- h1,<- h2];revert heq;clear h1;cases b1<;>cases b2<;>simp
    refine hR' (some (mL (u.map f)),some (.list (cP (u.map f)))) ⟨pre++[u],by refine dk e ?_;exact aJ ..,λv hv=>?_⟩;rcases aI.mp hv with hv|hv
    ·exact good v hv
    ·refine ao (aq.mp hv) ?_;exact λz=>z heq
  ·dsimp only;refine bJ hp λpre e good=>?_;clear hp
   rw[be]at e;clear hi he hb hf;subst e;rw[<- Eg];refine GC (ls:=(bN c).map f) (by rewrite[ai];refine ao b7 ?_;exact hc) (by exact bL) (Cy c f s.k) [] none none (λu hu=>?_) (by show 0+4*((i9 c s.k).map _).length<=_;rw[ai];exact ci (nat_lit 0x9c407700094548a284c10) rfl h80) ?_
   ·clear good wy wx h20 old h80 hR q hN hc hP;clear h20;refine bJ (bG.mp hu) ?_;rintro v hv rfl
    rewrite[ai];refine ao ((kX.mp hv).1) ?_;exact ci (nat_lit 0x3e8980bc24c01) rfl hk
   ·have l80: (i9 c (s.k+1)).length<=80:=by
     rw[IJ];exact a8 (rJ h20 hc) (by decide)
    rw[jx,FY];refine d6 (by simp;exact ci (nat_lit 0x18b00a284c01) rfl l80) (hR ⟨s.k+1,some (.int s.k),p.1,p.2⟩ ⟨rfl,l80,λm hm u hu=>?_⟩);rcases dJ (dX hm)with hm|rfl
    ·exact old m hm u hu
    ·exact good u hu
 ·intro En;have:=he (hs.1▸hs.2.2)
  clear he;subst this;exact q
end
theorem Ln(l:Wd)(τ:AH):yc .Eq (mL l) (mL l) τ=some true:=congrArg some (decide_eq_true rfl)
section
variable(hP:C.prog=PG)
include hP
theorem Al{x y:Rx}(hx:f6 x)(hy:f6 y){z:V}{bounds numbers:List Nat}{c:Nat}(hc:tK (AQ x y) bounds numbers c)(hd:LV (AQ x y) bounds numbers c)(q:Q (.bool true) σ):
  callN C (d+21) "_law_apart_told" [bq x,bq y,.list [cg x,cg y,z],Kv ((bN c).map (least bounds numbers))] σ Q:=by
 have wx:=hx.small;have wy:=hy.small;have fl:∀n,n<c->least bounds numbers n<128:=λn hn=>hc.least_lt hn;refine dF (uu hP rfl ?_);refine JY hP wx wy (by decide) (by decide) (by decide) ⟨by decide,by decide⟩ (by decide) (by decide) (by exact ci (nat_lit 0x4a60939c01d245) rfl) (by exact ci (nat_lit 0x4a60939c01d245) rfl) (λheq=>?_) λbounds' numbers' c' hc' hd' w hw hbad hmin hlen=>?_
 ·refine xh hP wx wy (by decide) (by decide) (by decide) (by decide) (by decide) (by decide) (by exact ci (nat_lit 0x4a60939c01d245) rfl) (by exact ci (nat_lit 0x4a60939c01d245) rfl) λb hb=>?_
  have:b=true:=hb.mpr heq;clear hb;subst this;refine cU (de (dg ?_));refine cU (cU (de (dg ?_)));refine d6 (aj rfl) ?_;refine kj (gU (n:=((4:Nat):Int)) ?_);exact GV hP hx hy (f:=least bounds numbers) (c:=c) (N:=4) (isEq:=true) fl hc.cnt.2 (by decide) (λn i v w_ hv w_ w_=>absurd (heq _) hv) (λw_=>rfl) q
 ·refine eX (hd.uniq hd') λe1 e2 e3=>?_
  clear hd' hc' hd;subst e1;subst e2;subst e3;refine xh hP wx wy (by decide) (by decide) (by decide) (by decide) (by decide) (by decide) (by exact ci (nat_lit 0x4a60939c01d245) rfl) (by exact ci (nat_lit 0x4a60939c01d245) rfl) λb hb=>?_;have:b=false:=by
   cases b with
   |false=>rfl
   |true=>exact absurd (hb.mp rfl _) hbad
  clear hb;subst this;have hl64:w.length<=64:=hlen;have l128:∀a∈w.map (least bounds numbers),a<128:=λa ha=>by
   clear hl64 hmin hbad hlen wy wx q hc hP;refine bJ (bG.mp ha) ?_;rintro n hn rfl;exact fl n (hw n hn)
  have lm: (w.map (least bounds numbers)).length=w.length:=ai ..;refine cU (de (dg ?_));refine kj ?_;refine DF l128 (by exact bt (nat_lit 0xc58250044204c01) rfl hl64 lm) ?_;refine D8 hP wx.wf (by have:=wx.ht;exact bt (nat_lit 0x9cc32000742b80b) rfl this) (by exact bt (nat_lit 0x1f44c250044204c01) rfl hl64 lm) λb1 h1=>?_;refine DF l128 (by exact bt (nat_lit 0xc58250044204c01) rfl hl64 lm) ?_;refine D8 hP wy.wf (by have:=wy.ht;exact bt (nat_lit 0x9cc32000742b80b) rfl this) (by exact bt (nat_lit 0x1f44c250044204c01) rfl hl64 lm) λb2 h2=>?_;have hne:¬(b1==b2)=true:=λe=>hbad (by rewrite[<- h1];rewrite[<- h2];refine ao (Ad e) ?_;with_reducible rfl);refine oW_of (IF b1 b2 _) (y8 (λh=>absurd h hne) λw_=>de (dg ?_));refine d6 (aj rfl) ?_;refine cU ?_;refine jN (n:=w.length) ?_ (by exact ci (nat_lit 0x1eb00a204c01) rfl hl64) (eY (gU (n:=((w.length+1:Nat):Int)) ?_))
  ·show some (w.map (least bounds numbers)).toArray.size=some w.length
   exact ao bB (ao lm rfl)
  refine GV hP hx hy (f:=least bounds numbers) (c:=c) (N:=w.length+1) (isEq:=false) fl hc.cnt.2 (by exact ci (nat_lit 0xe126b048a204c01) rfl hl64) (λn i v hi hv h1 h2=>?_) (λh=>?_) q
  ·refine ao (Fv (bad:=λu=>¬(fJ x (u.map (least bounds numbers))↔fJ y (u.map (least bounds numbers)))) hi hv hbad hw (λu hu lt z=>z (hmin u hu lt)) h1 h2) ?_
   exact Ln _ _
  ·exact absurd hbad (h w.length (bR _) w (kX.mpr ⟨rfl,hw⟩))
end
theorem HO(r:Rx)(σ:AH):yc .Eq (cg r) (cg r) σ=IA (cg r) (cg r):=by cases r<;>rfl
structure PB where
 spot:Nat
 rest:Int
 o:Option V
 p:Option V
 q:Option V
section
variable(hP:C.prog=PG)
include hP
theorem MD{l:List Int}(hl:l.length<=63)(q:∀τ,Q (.bool true) τ):callN C (d+100) "law" [.arg (l.map .int)] σ Q:=by
 refine dF (Nh hP rfl ?_);refine Nn hP hl λp hp=>?_;refine Dq hP (by decide) hl λx s1 t1 hx h1=>?_;have h1:s1<=5:=h1;refine Dq hP (by exact ci (nat_lit 0x16a602bc01) rfl h1) hl λy s2 t2 hy h2=>?_;refine Dq hP (by exact bt (nat_lit 0x2d4c25782410bc01) rfl h1 h2) hl λz s3 t3 hz h3=>?_;refine d6 (aj rfl) ?_;have wx:=hx.small;have wy:=hy.small;have wz:=hz.small;refine jM (β:=Rx) (enc:=cg) (f:=bq) (E:=λv=>[none,some v,none]) (by exact bL) (λw_ w_=>rfl) [x,y,z] [] _ (λw_=>rfl) (aj rfl) (λb hb K k=>?_) (d6 (aj rfl) ?_)
 ·have wb:dC 9 3 4 b:=by
   simp only[a9,dN,or_false]at hb;rcases hb with rfl|rfl|rfl
   ·exact wx
   ·exact wy
   ·exact wz
  exact pG hP (d:=0) wb.wf (by have:=wb.ht;exact bt (nat_lit 0x63986406aa522b801) rfl this) k
 ·refine gU (n:=((2:Nat):Int)) ?_
  refine hC (α:=PB) (n:=2) (by decide) (λw=>[some (.arg (l.map .int)),some (.ref p),some (.list [cg x,cg y,cg z]),some (bq x),some (bq y),some (bq z),w.o,w.p,w.q,none,none,none,none,none,none,none,none,none,none,none,none,none,none,none,none]) (λw=>σ.set p (mM l w.spot w.rest)) (λi w=>w.spot<=15+i) (λi w hi hw w_ R hR=>?_) (λw hw=>?_) ⟨s3,t3,none,none,none⟩ (by show s3<=15;exact b9 (nat_lit 0xf988af0c841782410bc01) rfl h1 h2 h3) rfl rfl
  ·intro En;refine pB hP (many:=18) (by decide) (by decide) (by exact bt (nat_lit 0x324c25001f39042c58241) rfl hi hw) hl λn s4 t4 hn h4=>?_
   refine M7 hP hn ?_;obtain⟨e1,e2⟩:=E5 (n:=n) hx hy hz;refine xh hP e1 e2 (by decide) (by decide) (by decide) (by decide) (by decide) (by decide) (by exact ci (nat_lit 0x619824e052601d245) rfl) (by exact ci (nat_lit 0x619824e052601d245) rfl) λb hb=>?_;have:b=true:=hb.mpr λu=>Mm n x y z u;clear hb;subst this;refine cU (de ?_);exact hR ⟨s4,t4,some (.int i),some (bq (Iz n x y z).1),some (bq (Iz n x y z).2)⟩ (by show s4<=15+(i+1);exact b9 (nat_lit 0xb0c80f9c845582420840f9c801) rfl hw h4)
  ·intro En;have hw:w.spot<=17:=hw
   refine dg ?_;refine kE hP wx.wf (a8 wx.ht (by decide)) λl1=>?_;refine kE hP wy.wf (a8 wy.ht (by decide)) λl2=>?_;refine ye l1 l2 ?_;refine u6 hP (Dj wx.wf wy.wf) (by refine ao aC ?_;exact bt (nat_lit 0x1f44c20915c10b801) rfl l1 l2) λbounds numbers c hc hd=>?_;have c4:=hc.cnt.2;refine gU (n:=(c:Int)) ?_;refine oW_of (vT c (by exact ci (nat_lit 0x3cb2c122b801) rfl c4)) ?_;refine jM (β:=Nat) (enc:=λ(i:Nat)=> .int (i:Nat)) (f:=λn=> .str ⟨#[least bounds numbers n]⟩) (E:=λv=>[none,some v,none,some (xJ bounds numbers c)]) (by exact bL) (λw_ w_=>rfl) (bN c) [] _ (λw_=>rfl) (by refine ao b7 ?_;show 0+c<=_;exact ci (nat_lit 0x18b01522b801) rfl c4) (λn hn K k=>?_) (d6 (by simp;exact ci (nat_lit 0x62c02b801) rfl c4) ?_)
   ·have hn:n<c:=du.mp hn
    refine EQ hP hc hn (Kq (cu _) ?_ k);have:=hc.least_lt hn;lia
   ·rewrite[jx];refine ao (show((bN c).map λn=>V.str ⟨#[least bounds numbers n]⟩)=((bN c).map (least bounds numbers)).map λa=>V.str ⟨#[a]⟩ by refine ao dE ?_;rfl) ?_
    refine Al hP hx hy hc hd (cU (de (dg ?_)));refine C8 hP wx wy (by decide) (by decide) (by decide) ⟨by decide,by decide⟩ (by decide) (by decide) (by exact ci (nat_lit 0x18660939c01d245) rfl) (by exact ci (nat_lit 0x18660939c01d245) rfl) λb1 hb1=>?_;have wxy:=wx.alt wy;refine Ct hP (xh hP wxy wy (by decide) (by decide) (by decide) (by decide) (by decide) (by decide) (by exact ci (nat_lit 0x18660939ce5ca401d245) rfl) (by exact ci (nat_lit 0x18660939c01d245) rfl) λb2 hb2=>?_);have e12:b1=b2:=(eq_bool b1 b2).mpr (hb1.trans (Iff.trans ⟨λh u=>⟨λh'=>h'.elim (h u) id,.inr⟩,λh u h'=>(h u).mp (.inl h')⟩ hb2.symm));clear hb2 hb1;subst e12;refine oW_of (Ed b1 b1 _) (y8 (λh=>absurd h (by clear h;cases b1<;>decide)) λw_=>de (dg ?_));have wsy:=wy.star;have wyz:=wy.alt wz;have wk:=wyz.star.cat wx;refine Ct hP (AW hP (Ca hP ?_));refine d6 (aj rfl) ?_;refine pB hP (many:=2) (by decide) (by decide) (by exact ci (nat_lit 0x64980a08cc01) rfl hw) hl λn s4 t4 hn h4=>?_;have fin:∀whole:Rx,dC 40 9 15 whole->(whole=z\/whole= .cat (.star (.alt y z)) x)->wpSs C (d+99) [] (Hl.body.drop 8) [some (.arg (l.map .int)),some (.ref p),some (.list [cg x,cg y,cg z]),some (bq x),some (bq y),some (bq z),w.o,w.p,w.q,some (xJ bounds numbers c),some (bq whole),none,none,none,none,none,none,none,none,none,none,none,none,none,none] (σ.set p (mM l s4 t4)) (q6 Q):=by
     intro whole ww hwh;have wb:=wx.alt (wy.cat ww);have wc:=wsy.cat wx;refine Ca hP (Ct hP (C8 hP wb ww (by decide) (by decide) (by decide) ⟨by decide,by decide⟩ (by decide) (by decide) (by exact ci (nat_lit 0x619824e03e6e5ca4e5ca401d245) rfl) (by exact ci (nat_lit 0x619824e03e601d245) rfl) λb hb=>?_));cases b with
     |false=>
      rcases hwh with rfl|rfl
      ·refine kj ?_
       refine HI hP hz (HI hP hz ?_);refine oW_of (a:=true) ((HO _ _).trans (I4 (a8 wz.ht (by decide)))) ?_;exact q _
      ·exact absurd (hb.mpr (Cv x y z)) (by decide)
     |true=>
      refine cU (de (dg ?_));refine AW hP (Ca hP (C8 hP wc ww (by decide) (by decide) (by decide) ⟨by decide,by decide⟩ (by decide) (by decide) (by exact ci (nat_lit 0x619824e739725ca401d245) rfl) (by exact ci (nat_lit 0x619824e03e601d245) rfl) λb' hb'=>?_));have:b'=true:=hb'.mpr (NQ x y whole (hb.mp rfl));clear hb';subst this;exact q _
    have hn:n=0\/n=1:=by lia
    rcases hn with rfl|rfl
    ·exact fin z ⟨a8 wz.st (by decide),a8 wz.ed (by decide),a8 wz.ht (by decide),wz.wf⟩ (.inl rfl)
    ·exact fin _ ⟨a8 wk.st (by decide),a8 wk.ed (by decide),a8 wk.ht (by decide),wk.wf⟩ (.inr rfl)
end
end
section
set_option tactic.hygienic true
set_option genCtorIdx true
set_option maxRecDepth 100000
theorem left_of{p q:fy}{j5:List Str}{Xt:aU->Bool}{α:Type}{Yf:aU->α}{Ya:m7->α}{N Iw Mx:Nat}{sA:Params->cx}{E2:Array GenState}{My:Drawn}{ann:Option aD}
  (ho:∀w:m7,(fencedOpening hV p w N).map (λs=>(s.heap,s.gens,s.drawn,s.toks))=some (sA w.params,E2,My,Mx))
  (size:∀w:m7,((sA w.params).isNs dz && E2.size==0,(sA w.params).objs.size,(sA w.params).nsMap dz "__annotations__")=(true,Iw,ann))
  (run:∀(w:m7) (os:xr),∃s₁,Bw hV p w Iw ann N ⟨sA w.params,E2,My,Mx,os⟩ (xu p)=some s₁/\
   (o6 (dK p.main.body) (sA w.params) s₁.heap && m8 p s₁.heap && rA s₁ && rC (sA w.params) s₁.heap)=true/\uF q j5 (dK p.main.body) Xt true s₁=uG q j5/\Yf s₁=Ya w):LeftO p q j5 Xt Yf Ya N:=λw=>by
 refine oM (ho w) ?_;rintro⟨h,gs,d,k,os⟩ e e';obtain⟨rfl,rfl,rfl,rfl⟩:h=sA w.params/\gs=E2/\d=My/\k=Mx:=by simpa using e'
 refine xy (run w os) λs₁ t l1 l2 l3=>?_;obtain⟨z1,z2,z3⟩:_/\_/\_:=by simpa only[zC]using size w
 have tf:topFrom hV p w N ⟨sA w.params,gs,d,k,os⟩=some s₁:=by
  unfold topFrom;dsimp only;refine ao z1 (ao z2 (ao z3 (ao t ?_)));show(match o6 (dK p.main.body) (sA w.params) s₁.heap && m8 p s₁.heap && rA s₁ && rC (sA w.params) s₁.heap with|true=>_|false=>_)=_;exact ao l1 rfl
 unfold openEnds;refine ao e ?_;show(topFrom hV p w N _).map _=_;refine ao tf ?_;exact congrArg some (CW l2 l3)
theorem Lh{p q:fy}{w:m7}{j5:List Str}{Xt:aU->Bool}{α:Type}{Yf:aU->α}{Yt:iU->α}{Ya:α}{N Iw:Nat}{sA:cx}{ann:Option aD}{S:iU}{sh:aU}(hs:S.abs=sh)
  (r: (H8 (stepT (denote hV) p w) (stepOk Iw ann) N S (xu p)).map (λs=>(o6 (dK p.main.body) sA s.abs.heap && m8 p s.abs.heap && rA s.abs && rC sA s.abs.heap,uF q j5 (dK p.main.body) Xt true s.abs,Yt s))=some (true,uG q j5,Ya)) (hy:∀s,Yf s.abs=Yt s):
  ∃s₁,Bw hV p w Iw ann N sh (xu p)=some s₁/\(o6 (dK p.main.body) sA s₁.heap && m8 p s₁.heap && rA s₁ && rC sA s₁.heap)=true/\uF q j5 (dK p.main.body) Xt true s₁=uG q j5/\Yf s₁=Ya:=by
 refine oM r λs' r1 r2=>?_;obtain⟨l1,l2⟩:=eL r2;obtain⟨l2,l3⟩:=eL l2;exact⟨s'.abs,hs▸EC r1,l1,l2,(hy s').trans l3⟩
theorem E3(P:Params): ((jR P).isNs dz && (Array.mk []:Array GenState).size==0,(jR P).objs.size,(jR P).nsMap dz "__annotations__")=(true,11,some (.ref 6)):=by kernel_rfl
theorem JQ:opening PG=plainProg PG.main.scope.names:=by kernel_rfl
theorem HL(s:aU):fenceModules? PG s=some s:=by kernel_rfl
theorem LQ(w:m7)(os:xr):∃s₁,Bw hV PG w 11 (some (.ref 6)) 9500 ⟨jR w.params,Array.mk [],yM,Ab,os⟩ (xu PG)=some s₁/\
   (o6 (dK PG.main.body) (jR w.params) s₁.heap && m8 PG s₁.heap && rA s₁ && rC (jR w.params) s₁.heap)=true/\uF qv j5 (dK PG.main.body) Xt0 true s₁=uG qv j5/\Nu s₁=Of:=Lh (L2 w.params os) (Ol w os) NC
theorem left:LeftO PG qv j5 Xt0 Nu (λw_=>Of) 9500:=
 left_of (boot_open (p:=PG) (N:=9500) JQ rfl HL) (λw=>E3 w.params) LQ
end
section
set_option maxRecDepth 100000
theorem Bq{a:aY}{f:aY->Option (aY×Obj)}(hf:∀b p,f b=some p->p.1=b):∀{as:List aY},a∉as->rq a (as.filterMap f)=none
 |[]=>λw_=>rfl
 |b::as=>λh=>by
  have hb:¬a=b:=λe=>h (e▸bF ..);refine ao eE ?_;cases e:f b with
  |none=>exact Bq hf λq=>h (bA _ q)
  |some p=>
   obtain⟨x,o⟩:=p;have:x=b:=hf b _ e;clear e;subst this;show rq a ((x,o)::_)=none;refine ao cz (ao (beq_eq_false_iff_ne.mpr hb) ?_);exact Bq hf λq=>h (bA _ q)
theorem Cs(h:cx): (s9 h).lookup 975=none:=Bq (λb p e=>by
 refine oM e ?_;intro o _ e;exact dk e rfl) (by decide+kernel)
theorem DI{α:Type}{n:String}{v:α}:∀{l:List (String×α)},l.lookup n=some v->(n,v)∈l
 |(m,x)::l,e=>by
  rw[cz]at e;cases hb:n==m with
  |true=>rw[hb]at e;replace e:=ac e;subst e;refine ao (Ad hb) ?_;exact .head _
  |false=>rw[hb]at e;exact .tail _ (DI e)
theorem Ld:∀p∈fB,k8 p.1=p.2.1/\AE p.1=p.2.2.1/\tq p.1=p.2.2.2:=by decide+kernel
theorem FD:Oi.all (λp=>handedIn p.2)=true:=by decide+kernel
theorem M9:∀s∈jK,ae s≠ "__name__":=by decide+kernel
section
variable{K:Bu}
set_option tactic.hygienic true in
theorem IP{p:String×List String×Option String×Option String}(hp:p∈fB)(h:Lf K p=true):∃a,y9 p.1=some (.ref a)/\uf K y9 p.1 a:=by
 refine eX (Ld p hp) λt1 t2 t3=>?_;refine bJ (Ep h) λa ha h=>?_;simp only[bD]at h;obtain⟨⟨⟨⟨⟨⟨⟨⟨⟨h1,h2⟩,h3⟩,h4⟩,h5⟩,h6⟩,h7⟩,h8⟩,h9⟩,h10⟩:=h;refine⟨a,ha,⟨beq_iff_eq.mp h1,beq_iff_eq.mp h2,beq_iff_eq.mp h3,h4,h5,λn hn=>?_,λl hl=>?_,λq hq e=>?_,h9,λe=>?_,λq e=>?_⟩⟩
 ·rw[t1]at hn
  obtain⟨a1,a2⟩:=bo.mp (c3.mp h6 n hn);refine jX a1 λattr ea a1=>?_;exact⟨⟨attr,ea,a1⟩,beq_iff_eq.mp a2⟩
 ·rw[t2]at hl
  rw[hl]at h7;refine jX h7 λo e1 h7=>?_;refine jX h7 λv e2 h7=>?_;refine jX h7 λs e3 h7=>?_;obtain⟨t,e4⟩:=Ji e3;exact⟨t,by exact ao e1 (ao e2 (ao e4 (ao (beq_iff_eq.mp h7) rfl)))⟩
 ·have:=c3.mp h8 q hq
  rw[e]at this;refine bJ (Ep ((ma.mp this).resolve_left (by simp))) λf ef this=>?_;obtain⟨a1,a2⟩:=bo.mp this;exact⟨f,ef,beq_iff_eq.mp a1,a2⟩
 ·rw[t3]at e
  rw[e]at h10;exact beq_iff_eq.mp h10
 ·rw[t3]at e
  rw[e]at h10;refine bJ (Ep h10) λf ef h10=>?_;obtain⟨a1,a2⟩:=bo.mp h10;exact⟨f,ef,beq_iff_eq.mp a1,beq_iff_eq.mp a2⟩
set_option tactic.hygienic true in
theorem Mn{q:String}{a:BZ}(h:OF K q=true)(hd:u9 K q=some (a.params,.stmts a.body,a.scope)):Bi K y9 q a:=by
 obtain⟨f,oc,od,fd,osl,hf,hk,h⟩:=Dz K h;unfold u9 at hd;rw[hf]at hd;replace hd: ((K.lookup f).bind λo=>(HA o.data).map λfd=>(fd.params,fd.body,fd.scope))=some (a.params,.stmts a.body,a.scope):=hd;rw[hk]at hd;simp only[bD]at h;obtain⟨⟨⟨⟨⟨h1,h2⟩,h3⟩,h4⟩,h5⟩,h6⟩:=h;have e1:=eL (ac hd);have e2:=eL e1.2;have e3:fd.globals=dz:=beq_iff_eq.mp h2;have e4:fd.closure=[]:=fe.mp h3;have e5:fd.builtins=kK:=beq_iff_eq.mp h4;have e6:fd.defaults= .none:=beq_iff_eq.mp h5;have e7:fd.kwdefaults= .none:=beq_iff_eq.mp h6;obtain⟨n,qn,ps,bd,sc,gl,cl,df,kd,dc,pm,an,cdv,ct,bn⟩:=fd;dsimp only at e1 e2 e3 e4 e5 e6 e7;refine⟨f,oc,od,n,qn,df,kd,dc,pm,an,cdv,ct,osl,hf,?_,h1,e6,e7⟩;exact ao hk (ao (e1.1) (ao (e2.1) (ao (e2.2) (ao e3 (ao e4 (ao e5 rfl))))))
theorem gj(f:kH K=true): (∀s∈jK,Im K s=true)/\(∀p∈fB,Lf K p=true)/\(∀p∈Oi,GU K p.2=true)/\HS K=true/\Hp K=true/\(∀e∈oI,OF K e.1=true)/\tabB K=true/\(K.lookup gW).isSome=true:=by
 unfold kH at f;simp only[bD]at f;obtain⟨⟨⟨⟨⟨⟨⟨h1,h2⟩,h3⟩,h4⟩,h5⟩,h6⟩,h7⟩,h8⟩:=f;exact⟨λs hs=>c3.mp h1 s hs,λs hs=>c3.mp h2 s hs,λs hs=>c3.mp h3 s hs,h4,h5,λs hs=>c3.mp h6 s hs,h7,h8⟩
structure Fx(p:fy)(K:Bu):Prop where
 nul:K.lookup 975=none
 facts:kH K=true
 fns:oI.map (λe=>u9 K e.1)=oI.map λe=>(oU p e.2.1 e.2.2).map λa=>(a.params,.stmts a.body,a.scope)
noncomputable def LP(p:fy):Option gY:=(oU p "" "_law_ends").bind λa=>(jd a.body).map λx=>x.2.2.1
noncomputable def ze(p:fy):BU:=match LP p with
 |some x=>⟨x.1,x.2.1,x.2.2.1,x.2.2.2,ae "_law_ends"++".<locals>."++"<lambda>"⟩
 |none=>⟨pO,pO,pO,pO,ae "_law_ends"++".<locals>."++"<lambda>"⟩
theorem Ft(p:fy): (ze p).qual=ae "_law_ends"++".<locals>."++"<lambda>":=by unfold ze;split<;>rfl
theorem Jx{p:fy}{a:BZ}{x:List ij×Str×gY×List ij}(ha:oU p "" "_law_ends"=some a)(hx:jd a.body=some x):x.2.2.1=((ze p).params,(ze p).body,(ze p).sc,(ze p).pos):=by
 have:LP p=some x.2.2.1:=by unfold LP;refine ao ha ?_;show(jd a.body).map _=_;refine ao hx ?_;rfl
 unfold ze;exact ao this rfl
theorem GA{D:BU}{P:aY}{F F':dQ}{h h':cx}(i:CA D P F h)(hs:∀a,F a->F' a)(hk:∀a,a=P\/F a->∀o,h.get? a=some o->h'.get? a=some o):CA D P F' h':=by
 rcases i with e|⟨c,f,e,c',o,vs,t,ec,e1,e2,e3⟩
 ·exact .inl (hk _ (.inl rfl) _ e)
 ·cases ec
  exact .inr ⟨c,hs _ f,hk _ (.inl rfl) _ e,c,o,vs,t,rfl,hk _ (.inr f) _ e1,e2,e3⟩
section
variable{p p':fy}{j5:List Str}{mean:ExcName->Option aD}{mg mb:Str->Option aD}{h:cx}
noncomputable abbrev Kw:List (aY×aY):=[(977,975)]
noncomputable abbrev t7(h:cx):cx:=ghostOf h Kw
theorem q8(X:K.In h)(n:K.lookup 975=none):K.In (t7 h):=λa o e=>ghost_ne (X a o e) (by
 intro q;have:a=975:=by exact aq.mp (q)
 clear q;subst this;rw[n]at e;exact bx e)
theorem GN(f:kH K=true):codeHdIn K 977 975=true:=by
 have:=(gj f).2.2.2.2.2.2.1;unfold tabB at this;exact(bo.mp this).1
theorem EG(X:K.In h)(f:kH K=true)(e:h.get? 975=some (rj #[])):TabsAt Kw h:=λq hq=>by
 refine ao (aq.mp hq) ?_;exact⟨codeHd_of_K X (GN f),e⟩
set_option tactic.hygienic true in
theorem Cg(X:K.In h)(f:kH K=true)(T:Top p' j5 mean mg mb h):∀s∈jK,∃v,(mg (ae s)=some v\/(mg (ae s)=none/\mb (ae s)=some v))/\(match rU s with|some i=>∃t,v= .int i t|none=>y9 s=some v):=λs hs=>by
 have hb:=(gj f).1 s hs;unfold Im at hb;cases hg:rU s with
 |some i=>
  rw[hg]at hb;refine jX hb λo e1 hb=>?_;refine jX hb λv e2 hb=>?_;refine jX hb λj e3 hb=>?_;obtain⟨t,e4⟩:=Jz e3;refine⟨_,.inl (mg_of X T.g (by exact ao e1 (ao e2 (ao e4 rfl)))),t,?_⟩;exact ao (beq_iff_eq.mp hb) rfl
 |none=>
  rw[hg]at hb;refine jX hb λv ev hb=>?_;rcases ma.mp hb with q|q
  ·exact⟨v,.inl (mg_of X T.g (beq_iff_eq.mp q)),ev⟩
  ·obtain⟨q1,q2⟩:=bo.mp q
   exact⟨v,.inr ⟨mg_none_of X T.g (beq_iff_eq.mp q1),(T.builtins _ (M9 s hs)).trans (beq_iff_eq.mp q2)⟩,ev⟩
theorem Hn(f:kH K=true):∀n v,y9 n=some v->(match v with| .ref _=>keepIn K v=true| .builtin _=>True| .type _=>True|_=>False):=λn v e=>by
 have:=(gj f).2.2.1 (n,v) (DI e);unfold GU at this
 revert this
 clear e;cases v<;>simp
set_option tactic.hygienic true in
theorem Jb(f:kH K=true):∃a mc p f rest,y9 "CharSet"=some (.ref a)/\o0 K (.ref a) "__getattribute__"=some (some (.builtin "type.__getattribute__"))/\uD K a mc=true/\
  findCls K (.ref a) mc "made"=some (.get (.builtin "staticmethod.__get__") (.ref p) .none (.ref a))/\recIn K p "staticmethod"=some (.ref f::rest)/\y9 "CharSet.made"=some (.ref f):=by
 have hb:=(gj f).2.2.2.1;unfold HS at hb;simp only[bD]at hb;obtain⟨⟨⟨h1,h2⟩,h3⟩,h4⟩:=hb;refine jX h3 λr e h3=>?_;refine jX h3 λx e' h3=>?_;obtain⟨a1,h3⟩:=bo.mp h3;obtain⟨a2,h3⟩:=bo.mp h3;obtain⟨a3,a4⟩:=bo.mp h3;have key:r= .get (.builtin "staticmethod.__get__") (.ref 151) .none (.ref 246):=by
  clear h4 h2 h1 f e h3;cases r with
  |val _=>exact bx e'
  |get _ _ _ _=>
   have e':=ac e';rw[<- e']at a1 a2 a3 a4;exact dk (beq_iff_eq.mp a1) (dk (beq_iff_eq.mp a2) (dk (beq_iff_eq.mp a3) (dk (beq_iff_eq.mp a4) rfl)))
 rw[key]at e;refine jX h4 λl e2 h4=>?_;have k2:∃rest,l= .ref 149::rest:=by
  clear e2 e;cases l with
  |nil=>exact mj h4
  |cons g rest=>exact⟨rest,by exact ao (ac (beq_iff_eq.mp h4)) rfl⟩
 obtain⟨rest,k2⟩:=k2;exact⟨246,.type "type",151,149,rest,by decide+kernel,beq_iff_eq.mp h1,h2,e,by exact ao e2 (ao k2 rfl),by decide+kernel⟩
set_option tactic.hygienic true in
theorem JV(f:kH K=true):∃a mc f,y9 "Loop"=some (.ref a)/\o0 K (.ref a) "__getattribute__"=some (some (.builtin "type.__getattribute__"))/\uD K a mc=true/\
  findCls K (.ref a) mc "__init__"=some (.val (.ref f))/\y9 "Loop.__init__"=some (.ref f):=by
 have hb:=(gj f).2.2.2.2.1;unfold Hp at hb;simp only[bD]at hb;obtain⟨⟨h1,h2⟩,h3⟩:=hb;refine jX h3 λr e h3=>?_;refine jX h3 λv e' h3=>?_;cases beq_iff_eq.mp h3;cases r with
 |get _ _ _ _=>exact bx e'
 |val _=>
  replace e':=ac e';subst e';exact⟨862,.type "type",845,by decide+kernel,beq_iff_eq.mp h1,h2,e,by decide+kernel⟩
set_option tactic.hygienic true in
theorem Lu(f:Fx p K):∀e∈oI,∃a,oU p e.2.1 e.2.2=some a/\Bi K y9 e.1 a:=λe he=>by
 have h1:=List.map_inj_left.mp f.fns e he;have h2:=(gj f.facts).2.2.2.2.2.1 e he;cases ha:oU p e.2.1 e.2.2 with
 |none=>
  exfalso;rw[ha]at h1;obtain⟨g,oc,od,fd,osl,hg,hk,_⟩:=Dz K h2;unfold u9 at h1;rw[hg]at h1;replace h1: ((K.lookup g).bind λo=>(HA o.data).map λfd=>(fd.params,fd.body,fd.scope))=none:=h1;rw[hk]at h1;exact n9 h1
 |some a=>
  rw[ha]at h1;exact⟨a,rfl,Mn h2 h1⟩
set_option tactic.hygienic true in
theorem Hu(f:kH K=true):∀g oc od fd osl,y9 "_law_ends"=some (.ref g)->K.lookup g=some ⟨oc,od,.func fd,osl⟩->fd.code= .ref 977/\fd.qualname++".<locals>."++"<lambda>"=ae "_law_ends"++".<locals>."++"<lambda>":=λg oc od fd osl hg hk=>by
 have hb:=(gj f).2.2.2.2.2.2.1;obtain⟨_,hb⟩:=bo.mp hb;obtain⟨g',oc',od',fd',osl',hg',hk',hb⟩:=Dz K hb;rw[hg]at hg';replace hg':=ac hg';cases hg';rw[hk]at hk';replace hk':=ac hk';cases hk';obtain⟨h1,h2⟩:=bo.mp hb;exact⟨beq_iff_eq.mp h1,by exact ao (beq_iff_eq.mp h2) rfl⟩
theorem JJ(hn:h.get? 975=none)(T:Top p' j5 mean mg mb h):h.BuiltinsAt mg 975:=by
 obtain⟨bm,ob,a1,a2,a3,a4,a5,a6⟩:=T.bmain;refine⟨bm,ob,a1,a2,λe=>?_,λe=>?_,a3,a4,a5,a6⟩
 ·obtain⟨o,es,ep,e1,e2,_⟩:=T.g
  rw[e,e1]at a3;replace a3:=ac a3;subst a3;rw[a6]at e2;cases e2
 ·rw[e,hn]at a3;clear a6 a5 a4;exact bx a3
theorem B8: (t7 h).get? 975=none:=hideAll_none _ (by exact .head _)
theorem Ml(X:K.In h)(f:kH K=true):∃o,h.get? gW=some o:=by
 obtain⟨o,ho⟩:=gC.mp (gj f).2.2.2.2.2.2.2;exact⟨o,X _ _ ho⟩
noncomputable def LI(w:m7)(X:K.In h)(f:Fx p K)(e975:h.get? 975=some (rj #[]))(T:Top p' j5 mean mg mb (t7 h)):Cx where
 prog:=p
 w:=w
 K:=K
 base:=t7 h
 gv:=y9
 mg:=mg
 mb:=mb
 sp:=λa=>a=975
 inv:=λF h=>CA (ze p) 975 F h
 clo:=Ki (ze p)
 kin:=q8 X f.nul
 invKeep:=λF F' h h' i hs hk=>GA i hs hk
 gNs:=T.g
 bNs:=T.b
 names:=Cg (q8 X f.nul) f.facts T
 lim:=T.nolimit
 gvH:=λn v e=>c3.mp FD (n,v) (DI e)
 sysIn:=Ml (q8 X f.nul) f.facts
 cls:=λp hp=>IP hp ((gj f.facts).2.1 p hp)
 keeps:=Hn f.facts
 made:=Jb f.facts
 loop:=JV f.facts
 fns:=Lu f
 blt:=by decide+kernel
 lam:=ze p
 tabA:=975
 tabC:=977
 cloEq:=rfl
 spEq:=λa=>iw
 invEq:=λF h=>iw
 tabHd:=codeHd_of_K (q8 X f.nul) (GN f.facts)
 tabNe:=by decide
 tabB:=JJ B8 T
 lamEq:=λa x ha hx=>Jx ha hx
 tabFn:=λg oc od fd osl hg hk=>(Ft p).symm▸Hu f.facts g oc od fd osl hg hk
end
end
end
section
set_option tactic.hygienic true
set_option genCtorIdx true
set_option maxRecDepth 100000
section
variable{K:Bu}{p':fy}{loose':List Str}{mean:ExcName->Option aD}{mg mb:Str->Option aD}
theorem Ic{w:m7}{s:aU}(X:K.In s.heap)(f:Fx PG K)(e975:s.heap.get? 975=some (rj #[]))(T:Top p' loose' mean mg mb (t7 s.heap)){fv:aD}(hg:y9 "law"=some fv){l:List Int}(hl:l.length<=63){a:aY}{xs:List aD}(hx:s.heap.IsList a xs.toArray)(hr:RL (LI w X f e975 T) (λb=>∃o,(t7 s.heap).get? b=some o) s.heap (l.map .int) xs):
  wpAny (bI PG w) callerA (PySem.call fv [.ref a] []) (λv s'=>v= .bool true/\OldK s.heap s'.heap/\s'.os=s.os/\s'.gens=s.gens) (λw_ w_=>False) s:=by
 have ts:=EG X f.facts e975;have rep:cN (LI w X f e975 T) (λw_=>False) (λb=>∃o,(t7 s.heap).get? b=some o) (λw_=>none) s.heap:={
  base:=λb o e=>⟨⟨o,e⟩,of_hideAll _ e⟩
  fp:=λw_ w_ h=>h
  fal:=λb ⟨o,e⟩=>⟨o,of_hideAll _ e⟩
  pal:=λw_ h=>h.elim
  obj:=λw_ w_ e=>nomatch e
  spx:=λb e=>by
   have e:b=975:=e;subst e;exact⟨λ⟨o,e⟩=>(nomatch B8.symm.trans e),λh=>h,_,e975⟩
  inv:= .inl e975}
 have key:=bU.mp (MD (C:=LI w X f e975 T) (d:=0) (σ:=λw_=>none) (Q:=λv w_=>v= .bool true) rfl hl λw_=>rfl);have ia:∃o,(t7 s.heap).get? a=some o:=by
  refine d4 hx ?_;clear hx;intro o e hc _;exact⟨o,ghost_get ts e (λq=>by rw[q]at hc;cases hc)⟩
 have run:=key callerA (λw_=>False) (λb=>∃o,(t7 s.heap).get? b=some o) s fv [.ref a] ⟨rfl,by decide,by decide⟩ rep hg ⟨⟨a,xs,rfl,ia,hx,hr,by rw[ai];lia⟩,bL⟩;refine b0 run (λv s' ⟨u,F',σ',aft,r,e⟩=>?_) λw_ w_ h=>h.elim;subst e;obtain⟨h',t',es⟩:=aft.rest;refine⟨r,⟨λb o e=>?_,λb o e=>?_⟩,by exact ao es rfl,by exact ao es rfl⟩
 ·by_cases hb:b=975
  ·subst hb
   rw[e975]at e;replace e:=ac e;subst e;have tb:isCodeTable s.heap 975:=((ts (977,975) (by simp)).1.tab e975).isCodeTable;rcases aft.rep.inv with e|⟨c,_,e,_⟩
   ·exact .inl e
   ·exact .inr (.inl ⟨tb,rfl,#[],_,rfl,by rw[Array.empty_append];exact e⟩)
  ·exact .inl (aft.rep.base b o (ghost_ne e (by simpa using hb))).2
 ·by_cases hb:b=975
  ·subst hb
   rcases aft.rep.inv with e|⟨c,_,e,_⟩
   ·exact⟨_,e⟩
   ·exact⟨_,e⟩
  ·exact⟨o,(aft.rep.base b o (ghost_ne e (by simpa using hb))).2⟩
end
end
section
set_option tactic.hygienic true
set_option genCtorIdx true
set_option maxRecDepth 100000
noncomputable abbrev RW:OpenLaw:=PySem.Challenge.rw_nn0408_01
theorem said_rw:RW.wellSaid=true:=by
 refine ao PySem.W.Fast.te9446332074065402090 ?_
 kernel_rfl
theorem ok_rw: (chainsOk qv && opensWell RW.row.prog && (frees RW.row.toRowW && RW.row.within.isEmpty))=true:=by kernel_rfl
theorem bare_rw:PG.bare:=⟨rfl,rfl,rfl,rfl,rfl,by decide+kernel⟩
theorem prom_rw:RW.row.toRowW.promised:=⟨[.list [.int 3,.int 1]],by decide+kernel,by decide+kernel⟩
theorem def_rw: (defOf qv (ae "law")).map (λx=>(some (x.1.params,x.1.body,x.1.scope),kwWritten? x.1.params.kwonlyargs x.1.params.kw_defaults,x.2))=some (PG.theDef (ae "law"),some [],[]):=by kernel_rfl
end
section
set_option tactic.hygienic true
set_option genCtorIdx true
set_option maxRecDepth 100000
noncomputable def YP0(w:m7)(h:cx):Prop:=∃K:Bu,K.In h/\Fx PG K/\h.get? 975=some (rj #[])
theorem yp_of(w:m7)(s:aU)(e:Nu s=Of):YP0 w s.heap:=by
 obtain⟨e1,e2⟩:=eL e;obtain⟨e2,e3⟩:=eL e2;exact⟨s9 s.heap,Fw _,⟨Cs _,e1,e2⟩,e3⟩
theorem yp_keep(w:m7)(h h':cx)(y:YP0 w h)(k:∀b o,h.get? b=some o->h'.get? b=some o):YP0 w h':=
 let⟨K,a,b,c⟩:=y;⟨K,a.keeps k,b,k _ _ c⟩
theorem GJ{R:uS}{d:Ae}(h:yX R d (.list .int)=true):∃xs,d= .list xs/\qm R xs .int=true:=by
 cases d with
 |list xs=>exact⟨xs,rfl,(zD _).symm.trans h⟩
 |_=>exact nomatch(show false=true from h)
theorem IU{R:uS}{d:Ae}(h:yX R d .int=true):∃i,d= .int i:=by
 cases d with
 |int i=>exact⟨i,rfl⟩
 |_=>exact nomatch(show false=true from h)
theorem Cw{R:uS}:∀{xs:List Ae},qm R xs .int=true->∃l:List Int,xs=l.map .int
 |[]=>λw_=>⟨[],rfl⟩
 |x::xs=>λh=>by
  obtain⟨h1,h2⟩:=bo.mp (h: (yX R x .int && qm R xs .int)=true);obtain⟨i,rfl⟩:=IU h1;obtain⟨l,rfl⟩:=Cw h2;exact⟨i::l,rfl⟩
noncomputable def wI:Ae->Option Int
 | .int i=>some i
 |_=>none
theorem L6{R:uS}{cl:Str->Option aY}{h:cx}{v:aD}{d:Ae}{as:List aY}(r:ReadsW R cl h v d as){i:Int}:wI d=some i->∃t,v= .int i t:=by
 refine ReadsW.casesOn (motive_1:=λv d w_ w_=>wI d=some i->∃t,v= .int i t) r ?_ ?_ (λj t e=>⟨t,congrArg (Aa · t) (ac e)⟩) ?_ ?_ ?_ ?_ ?_ ?_ ?_ ?_ ?_ ?_
 all_goals(intros;exact bx ‹none=some i›)
theorem JA{R:uS}{cl:Str->Option aY}{h:cx}{C:Cx}{F:dQ}:∀{l:List Int} {vs:List aD} {as:List aY},ReadsAllW R cl h vs (l.map .int) as->RL C F h (l.map .int) vs:=by
 intro l
 induction l with
 |nil=>intro vs as r;cases r;exact bL
 |cons i l ih=>intro vs as r;cases r with|cons a b=>exact⟨L6 a rfl,ih b⟩
theorem Je{xs:List Ae}(h: (WTm.and (.not (.lt (.lit (.int 63)) (.len (.arg 0)))) (.lit (.bool true))).holds [] {args:=[.list xs]}=true):xs.length<=63:=by
 have v:=w_not (w_lt (R:=[]) (e:={args:=[.list xs]}) (a:= .lit (.int 63)) (b:= .len (.arg 0)) (x:=63) (y:=xs.length) rfl rfl);have w:=(holds_andW h).1;refine gM λg=>?_;have g': (63:Int)< (xs.length:Int):=ft.mpr g;rw[decide_eq_true g']at v;delta Af at w;rw[v]at w;exact nomatch(show false=true from w)
theorem Jg(args ds:List Ae):RW.row.claim.post args (.bool true) ds=true:=by
 show(true && Af [] (.eq .res (.lit (.bool true))) {args:=args,res:=some (.bool true),after:=ds})=true;delta Af;refine ao (w_eq_bool (R:=[]) (e:={args:=args,res:=some (.bool true),after:=ds}) (a:= .res) (b:= .lit (.bool true)) rfl rfl) ?_;rfl
theorem walk{d:DefRec}{kwd:List (Str×Expr)}(hn:d.name=ae "law"):WalkO qv j5 (λw_ w_=>True) YP0 RW.row.toRowW d kwd λf vs=>PySem.call f vs:=by
 intro w s₀ s₁ mg mb G Y a o pm cd doc dV kV ho hd hcd hD hmg hg args vals as hpre hlay hrd hwl hlo;refine d4 Y λK X f e975=>?_;clear Y;obtain⟨p1,p2⟩:=pre_splitW hpre;refine cr (hasAllW_cons p1) ?_;rintro d0 r0 rfl q1 q2;have:=hasAllW_nil q2;subst this;refine bJ (GJ q1) ?_;rintro ws rfl q3;obtain⟨l,rfl⟩:=Cw q3;have hl:l.length<=63:=by
  have:=Je (xs:=l.map .int) p2;rwa [ai]at this
 have ts:=EG X f.facts e975;have T:=ghost_top ts G.T;cases hrd with
 |cons h1 h2=>
  cases h2;cases h1 with
  |list e1 e2 e3 e4=>
   rename_i b o' vs n as';have hx:s₁.heap.IsList b vs.toList.toArray:=⟨_,e1,e2,n,by exact ao e3 rfl⟩;have hgv:y9 "law"=some (.ref a):=by
    refine bJ (Cg (q8 X f.nul) f.facts T "law" (by decide+kernel)) λv hv hv2=>?_;rw[hn]at hmg;have hv2:y9 "law"=some v:=hv2;rcases hv with hv|⟨hv,_⟩
    ·rw[hmg]at hv;replace hv:=ac hv;subst hv;exact hv2
    ·rw[hmg]at hv;exact n9 hv
   refine b0 (Ic X f e975 T hgv hl hx (JA e4)) (λv s' ⟨r1,r2,r3,r4⟩=>?_) λw_ w_ h=>h.elim;subst r1;exact⟨.inl ⟨.bool true,.bool true,[],rfl,λw_=>rfl,.bool true,Jg _ _,λw_=>⟨fW,λw_ h=>nomatch h⟩⟩,r2,r3,.of_eq (r4.trans hg)⟩
end
end Mine.Internal
open PySem PySem.W PySem.Calls PyProof.Rows
set_option maxRecDepth 100000
theorem PySem.Challenge.cw_nn0408_01_holds : PySem.Challenge.rw_nn0408_01.Holds := by
 refine holds_law Mine.Internal.said_rw λsaid=>?_;obtain⟨⟨d,kwd⟩,e,e'⟩:=Option.map_eq_some_iff.mp Mine.Internal.def_rw;obtain⟨e1,e2⟩:=Prod.mk.inj e';obtain⟨e2,e3⟩:=Prod.mk.inj e2;subst e3;exact holds_open (Xt:=Mine.Internal.Xt0) (XP:=λw_ w_=>True) (YP:=Mine.Internal.YP0) Mine.Internal.left Mine.Internal.yp_of Mine.Internal.yp_keep (λw_ w_=>True.intro) (λw_ w_ w_ w_ w_=>True.intro) e e1.symm e2 (λw_ w_=>recFacts_nil rfl) rfl said Mine.Internal.ok_rw Mine.Internal.bare_rw Mine.Internal.prom_rw (Mine.Internal.walk (defOf_name e))
