import PyProof.Rows.All
import Wide.All
import OpenK.AllK
import Wide.FinOn
import Lean
import PySem.Challenge.RW_nm0154_01
set_option Elab.async false
set_option bootstrap.genMatcherCode false
set_option genSizeOf false
set_option genSizeOfSpec false
set_option genInjectivity false
set_option genCtorIdx false
set_option linter.all false
set_option tactic.hygienic false
set_option backward.eqns.nonrecursive false
set_option backward.eqns.deepRecursiveSplit false
set_option maxRecDepth 100000
open _root_.Array renaming length_toList->g6,getElem?_eq_some_iff->q5,mem_toList_iff->x3,getElem?_eq_getElem->zv,toList_append->JY,toList_setIfInBounds->N0,size_setIfInBounds->PJ,isEmpty_iff->R9
open _root_.Bool renaming true->X,false->aN,and_eq_true->e3,false_eq_true->ia,not->i6,not_eq_true'->kx,or_eq_true->nr,or_self->xf,and_eq_true_iff->Ja,eq_iff_iff->JA,or_eq_true_iff->JN,and_true->NW,false_or->N3,not_eq_true->PU,and_false->QI,not_not->RM,not_eq_false->So,not_true->Ud
open _root_.Int renaming natCast_nonneg->jl,sub_nonneg_of_le->md,toNat_natCast->mG,le_of_lt->o8,add_zero->p7,lt_of_le_of_lt->qb,eq_ofNat_of_zero_le->uA,not_lt->uB,zero_add->wb,le_trans->wd,toNat->xn,toNat_of_nonneg->yo,zero_mul->I7,emod_lt_of_pos->NJ,ofNat_natAbs_of_nonpos->NN,ofNat_le->Og,emod_nonneg->Qy,not_le->QU,natAbs_of_nonneg->QV,toNat_of_nonpos->Rh,le_total->Rt,neg_one_mul->S2,mul_nonneg->Tq,neg_le_neg->Tr,add_assoc->TV,mul_zero->Uk,le_of_eq->Ul,lt_trans->Um,sub_zero->Vq
open _root_.List renaming mem_cons->a8,length_append->a9,length_map->d3,length_reverse->eb,getElem?_eq_getElem->ee,not_mem_nil->eA,lookup_cons->eC,getD_eq_getElem?_getD->eI,getElem?_eq_some_iff->fb,length_cons->ff,append_assoc->fJ,mem_singleton->gg,getElem?_map->gX,replicate->g5,reverse_reverse->hC,getElem?_append_left->hH,mem_map->hN,mem_reverse->hO,append_nil->hP,all_eq_true->h8,map_cons->i1,reverse_cons->i7,lookup->jg,mem_filter->jE,getElem?_eq_none->jM,mem_append->ka,length_set->kb,getElem?_set_ne->k7,nil_append->k8,nodup_cons->k9,cons_append->lg,map_append->l9,size_toArray->mE,getElem?_reverse->nL,getElem?_concat_length->oL,length_singleton->o4,range->pd,map_map->p2,length_nil->qg,find?_cons->qm,getElem?_append_right->q0,cons->su,mem_flatMap->sy,map_reverse->s7,perm_middle->tp,getElem?_range->uy,zip_cons_cons->uW,take_append_drop->wh,nodup_nil->xd,rec->xq,length_take->x2,mem_of_getElem?->x7,cons_ne_nil->yj,replicate_succ->yR,getLastD_eq_getLast?->zN,zipWith->A5,length_eq_zero_iff->Df,take_of_length_le->Fe,drop_eq_nil_of_le->Fs,getElem?_set_self->F2,range_succ_eq_map->Gj,filter_cons->Hb,contains_iff_mem->I2,mem_of_mem_take->Jz,getLast?_eq_some_getLast->JH,filterMap_cons->J0,reverse_append->KX,forall_mem_nil->Ln,filterMap->L1,mem_filterMap->Nl,contains_cons->Nn,any_cons->NX,count_append->N4,drop_eq_getElem_cons->Oa,reverse->Oh,length_drop->O4,map_fst_zip->Pq,zip->PV,getElem_mem->PW,forIn_cons->Qt,length->QD,mem_range->QG,length_replicate->QH,pairwise_reverse->QP,set_append_right->QR,mem_append_right->QS,dropLast_concat->Q1,drop_eq_nil_iff->Q5,nodup_iff_count->Q8,count_cons_self->Q9,mem_append_left->Ra,take_succ_cons->Rp,map_congr_left->Rq,pairwise_cons->RR,count_pos_iff->RT,getLastD_cons->RU,map_nil->RV,filterMap_map->RW,any_eq_false->Sf,ext_getElem?->Sn,isEmpty_iff->SA,any_toArray->SI,drop_length->SR,reverse_inj->SY,length_tail->S1,drop_drop->TH
open _root_.Nat renaming le_refl->gk,le_trans->hD,lt_succ_self->iB,lt_succ_of_lt->jc,ne_of_lt->jB,lt_of_lt_of_le->k6,zero_le->la,lt_irrefl->l3,succ->oi,le_succ->o7,le_of_lt->pS,le_succ_of_le->p3,le_of_succ_le->q7,le_add_right->sX,le_of_eq->sY,succ_le_succ->x8,zero_add->zQ,ne_of_gt->A3,lt_of_le_of_ne->A6,lt_of_succ_lt_succ->F1,lt_trans->Ju,exists_eq_succ_of_ne_zero->JL,eq_zero_or_pos->MI,lt_of_le_of_lt->Nu,not_lt->N8,rec->Od,le_of_ble_eq_true->QT,add_le_add_right->Rc,add_sub_cancel'->Rr,mul_mod_right->R5,lt_of_succ_lt->Sd,two_mul->Sp,lt_of_not_ge->SE,succ_ne_self->SK,succ_ne_zero->S0,min_eq_left->S4,succ_pos->Vp
open _root_.Option renaming some->O,none->Q,bind_some->dV,map_some->gL,map_eq_some_iff->h7,eq_none_iff_forall_not_mem->sm,map->uZ,bind_eq_some_iff->Dm,map_map->L2,isNone_iff_eq_none->Ob,rec->Oc
open _root_.PySem renaming wpAny_bind->a4,Value->cc,Str->cD,Expr->c7,Heap->d1,Shared->d2,Stmt->ea,wpAny_pure->ei,model->ej,wpAny->er,Addr->eu,mainGlobals->fw,Around->hX,wpAny_field->ib,Const->iA,NameKind->j2,wpAny_callSpecial?_slot->kP,Builtin->kR,wpAny_holding->kW,intItems->mi,wpAny_truthy_bool->mH,wpAny_loadPart_at->nc,Program->nz,callEnvC->oA,World->oM,Operator->oR,wpAny_call_entry->oX,wpAny_execs_cons->o1,sizeLine_eq->o6,FuncData->pK,Obj->p6,DictEntry->qc,wpAny_execs_nil->qW,builtinsNs->rV,excClassObj->sh,IsL->sA,rawInt->sC,wpAny_isSubtype_exc->uz,numAt->uT,wpAny_Call_ofName->vG,wpAny_setField->wk,wpAny_loadPart->wo,wpAny_isInstance->x4,wpAny_mono->x6,wpAny_attempt->yl,importedModules->zP,slot_listiter_next->AA,starEach->A1,wpAny_Constant_int->A2,codeAny_call_cells->A4,OsState->Bp,recursionLimit->Bx,isSubtype_stop->BX,argBest->B1,codeAny->B2,wpAny_call->CO,wpAny_newObj_type->DT,slot_list_setitem->Eh,wpAny_assign_Name->Ez,wpAny_throw->FK,PyData->FL,CmpOp->Gm,wpAny_standAt->GL,sizeLine->G2,checkBuiltinCall->Ha,cellsFrom->I3,plainObj_wpAny_Assign_Attribute->I4,wpAny_rule->Jm,call_meets->Jr,wpAny_loadName_local->Jv,codeAny_call_builtin->Jx,Scope->JE,wpAny_seqItems->L0,pyNext->M9,wpAny_pyIter_tuple->Nk,ExceptHandler->NU,bootBuiltins->Oy,wpAny_askSetting->Oz,wpAny_mkText->OB,wpAny_updatePart->OC,wpAny_lookBehind->OD,pastItsLine_dict->OE,slot_list_append->O1,wpAny_items_cons->O3,wpAny_comprehension_free->PF,wpAny_listSubscript_int->PX,letOwnedTupleGo->Qu,swapsWith->Qx,aRefKeyMayBeTheName_at->QA,wpAny_isTrue_Compare1->QK,backTo->QL,wpAny_storeName_local->QN,wpAny_Expr_any->QO,raiseNew->QZ,wpAny_pyIter_revIter->Q0,cameBackBy->Q4,wpAny_UnaryOp->Rd,swappedStores->Rg,entry_listiter_next->Ri,wpAny_loadName_cell->Rk,wpAny_isTrue_BoolOp->Rm,wpAt_of_wpAny->Ro,Sem->RF,wpAny_update->RG,args_listiter_next->RH,entry_list_setitem->RI,wpAny_setSeqItemAt->RJ,treeTable->RZ,intKind->R3,relabel->R4,wpAny_sequenceKey->Sa,args_list_setitem->Sb,wpAny_of_eq->Su,IsRangeIter->Sv,noFill_tuple_add->SG,type_list_append->SM,compEnvC->SP,wpAny_madeBy_exc->SX,Params->S3,codeAny_builtin->S7,wpAny_load->S8,wpAny_in_intMap->S9,wpAny_items_nil->Tb,wpAt_bind->Tg,ExcName->Tt,firstArgMember->Tv,wpAny_runValue->Tw,setItem->Tx,getAttr->Tz,setAttr->TA,wpAny_Compare1->TB,methodCallForm->TF,refuseLoop_ref->TK,compareOp->TL,seqIndex?->TM,storeName->TO,noteFrame->TP,Comprehension->TQ,seq_tuple_add->TR,wpAny_handled->TU,call_list_seq->TX,methodCallPos->T5,assignInOrder->T8,cLine->Ug,Thread->Ut,concat_meets->Uw,pyIter->UE,setField->UG,entryPlaceOf->UJ,GenState->Vk,execs->Vt,Keyword->Vu,getItem->Vv,valueAt->Vx,leaving->Vy
open _root_.PySem.AutoListH renaming list___mul___list_int_3->Ss,list_append_list_val_0->SJ
open _root_.PySem.Builtin.List renaming listSubscript?->Na,listTooLong->Ox
open _root_.PySem.Builtin.Range renaming rangeSize->p5,small->KG
open _root_.PySem.Calls renaming Name_function_global->x5,loadGlobal_builtin->RK,loadGlobal_global->Se,evalArgs_plain->TC
open _root_.PySem.Const renaming bool->x1,int->zt,str->zu
open _root_.PySem.Expr renaming Attribute->rj,Subscript->rm,ListComp->tv,Constant->ux,UnaryOp->uE,Compare->uR,BoolOp->vh,BinOp->xr,IfExp->xv,Tuple->xw,Slice->xy,Dict->yV,Call->yW,Name->zf,List->zg
open _root_.PySem.Heap renaming get?_push_of_some->c1,get?_update_other->hE,get?_push_size->hJ,lt_size->hM,get?_none_of_le->j3,get?_update_self->kv,size_push->l8,SameBut->oa,ExtBut->L3,get?_push_at->Sm,IsSliceOf->TG,MadeExcOf->TJ
open _root_.PySem.Obj renaming mapFields->oB,mapSeq->N9,isFreed_of_fields->QQ,data_mapFields->RP,putName->Sw
open _root_.PySem.SeqAt renaming RcNeAt->MP,EqAt->RD,RcAt->RE
open _root_.PySem.Stmt renaming AugAssign->rF,Return->vv,Assign->vC,While->xI,Raise->xU,Expr->zi,For->A7,Try->A8,If->GD
open _root_.PySem.Value renaming ref->i4,none->BF,int->Ni,builtin->Rf,isInt->Sx,type->S5
open _root_.PySem.W renaming findIn->l4,boot_heap->ma,Frag->mj,keepIn->q6,nsIn->r0,instObj->Bw,emptyDict->IJ,putName_dict->Jw,takerIn->LN,namesBound->N5,SharedT->Oe,findCls->Of,typeIn->Ow,looks_findIn->O2,specialIn->Ql,staticsOk->Qm,looks_clsIn->Qz,lookIn_dict->QB,topStub->QE,boot_drawn->QW,gensDone->QX,laidKept->QY,Looks->Q2,codeRec_of->Q6,boot_toks->Rx,codeIn->RA,hasDictIn->RC,openGood->SD,getL->SH,readsIn->Ts,set_plain->TN,clsIn->Uj,handedIn->UB,InstAt->UC,topFrom->VC,WellAll->VD
open _root_.PySem.W.Fast renaming tw14364793385576792824->oJ,tw10156331382660048174->A9,tw11892475500146522536->Bi,te14364793385576792824->CU,tw6613529449190102663->DI,tw4187177175401517315->DS,te5923862056798008813->EA,te4187177175401517315->EM,te10156331382660048174->R0,te11892475500146522536->R1,te6613529449190102663->R6,tw5923862056798008813->R8
open _root_ renaming List->J,rfl->Z,Nat->S,Int->T,Option->aI,Bool->aS,decide_eq_false->a0,String->a7,congrArg->cx,decide_eq_true->cB,if_neg->dm,if_pos->dE,trivial->fo,of_decide_eq_true->gb,beq_eq_false_iff_ne->gn,Array->hF,or_false->hK,absurd->hQ,decide_eq_true_eq->h9,if_true->i5,if_false->kc,dif_pos->kn,dif_neg->ku,decide_eq_decide->o2,beq_iff_eq->p1,of_decide_eq_false->qe,Decidable->r4,Prod->u1,True->w1,ForInStep->xo,not_or->A0,False->Gl,beq_self_eq_true->G4,decide_false->Jq,decide_eq_false_iff_not->Qh,bne_self_eq_false->Sg,decide_true->Sr,congrFun->Vo,eq_self->VA,And.right->RX,Classical.byContradiction->nf,Classical.em->Rv,Decidable.decide->eo,Eq.refl->QJ,Eq.trans->Vj,ForInStep.yield->p0,Function.comp->T9,Iff.rfl->Vz,Int.ofNat.inj->Ub,LawfulBEq.eq_of_beq->e5,List.Pairwise.imp->VG,List.cons.injEq->u0,List.cons.inj->GS,Nat.succ.inj->sL,Ne.symm->j1,Option.some.injEq->fx,Option.some.inj->gf,Or.elim->eE,Prod.mk->o3,Prod.mk.injEq->i3,PyProof.Rows.Subscript_->Q3,PySem.Builtin.BaseException.bexcPut->Tp,PySem.Builtin.SmallTypes.nextOf->Ui,PySem.Code.quiet_builtin->RQ,PySem.Const.bool.elim->H7,PySem.Const.int.elim->Jj,PySem.Const.str.elim->Jk,PySem.EntryCells.newEntry->Rn,PySem.Expr.Attribute.elim->za,PySem.Expr.BinOp.elim->Hc,PySem.Expr.BoolOp.elim->ER,PySem.Expr.Call.elim->Jc,PySem.Expr.Compare.elim->C8,PySem.Expr.Constant.elim->Az,PySem.Expr.Dict.elim->Jb,PySem.Expr.IfExp.elim->Hx,PySem.Expr.List.elim->Jh,PySem.Expr.ListComp.elim->zY,PySem.Expr.Name.elim->Jd,PySem.Expr.Slice.elim->HA,PySem.Expr.Subscript.elim->zd,PySem.Expr.Tuple.elim->Hy,PySem.Expr.UnaryOp.elim->C7,PySem.F.excBase_Exception->o5,PySem.Heap.DictOf.new->VU,PySem.Heap.IsSliceOf.new->RN,PySem.Heap.SameBut.update->lW,PySem.IsL.isList->kg,PySem.IsL.new->R2,PySem.IsT.new->Tu,PySem.NameKind.free->p4,PySem.NameKind.cell->NZ,PySem.PyData.keyHash->mr,PySem.PylongRoom.of->VZ,PySem.ScopeKind.function->RO,PySem.SeqAt.EqAt.int_int->Uu,PySem.Stmt.Assign.elim->Fd,PySem.Stmt.AugAssign.elim->zh,PySem.Stmt.Expr.elim->Ji,PySem.Stmt.For.elim->JT,PySem.Stmt.If.elim->L4,PySem.Stmt.Raise.elim->H6,PySem.Stmt.Return.elim->ET,PySem.Stmt.Try.elim->JW,PySem.Stmt.While.elim->H0,PySem.Str.ofString->aD,PySem.W.Looks.of_pure->T3,PySem.W.WData.int->VE
namespace Internal
def cps{P:Prop}(h:∀G:Prop,(P->G)->G):P:=h P id
@[elab_as_elim] def gen{e:Sort _}{P:e->Prop}(a:e)(h:∀g:e->Prop,(∀x,P x->g x)->g a):P a:=h P λb x=>x
@[elab_as_elim] theorem ah{e:Sort _}{P:e->Prop}{a b:e}(h:a=b)(p:P b):P a:=h▸p
end Internal
namespace Internal
def iU{q s x y L W η m n κ l:Sort _}{p:q->s->x->y->L->W->η->m->n->κ->l->Prop}{G:Prop}(z:∃a b c d e f g h i j k,p a b c d e f g h i j k)(o:∀a b c d e f g h i j k,p a b c d e f g h i j k->G):G:=z.elim λa z=>z.elim λb z=>z.elim λc z=>z.elim λd z=>z.elim λe z=>z.elim λf z=>z.elim λg z=>z.elim λh z=>z.elim λi z=>z.elim λj z=>z.elim λk z=>o a b c d e f g h i j k z
def IK{p q s x y z L m n W l:Sort _}{P0:p->q->s->x->y->z->L->m->n->W->l->Prop}(a:p)(b:q)(c:s)(d:x)(e:y)(f:z)(g:L)(h:m)(i:n)(j:W)(k:l)(o:P0 a b c d e f g h i j k):∃a b c d e f g h i j k,P0 a b c d e f g h i j k:=⟨a,b,c,d,e,f,g,h,i,j,k,o⟩
def t9{c:Prop}[r4 c]{g:Sort _}{a b z:g}{G:Prop}(e:(if c then a else b)=z)(k:c->a=z->G)(l:¬c->b=z->G):G:=if h:c then k h ((dE h).symm.trans e) else l h ((dm h).symm.trans e)
def aJ{c:Prop}[r4 c]{g:Sort _}{a b z:g}{G:Prop}(k:c->a=z->G)(l:¬c->b=z->G)(e:(if c then a else b)=z):G:=t9 e k l
@[elab_as_elim] def az{g:Type _}{motive:aI g->Prop}(e:aI g)(n:e=Q->motive Q)(s:∀v,e=O v->motive (O v)):motive e:=by cases e with | none=>exact n Z | some v=>exact s v Z
@[elab_as_elim] def DV{g:Type _}{motive:J g->Prop}(e:J g)(n:e=[]->motive [])(s:∀a l,e=a::l->motive (a::l)):motive e:=by cases e with | nil=>exact n Z | cons a l=>exact s a l Z
@[elab_as_elim] def gz{motive:aS->Prop}(e:aS)(n:e=aN->motive aN)(s:e=X->motive X):motive e:=by cases e with | false=>exact n Z | true=>exact s Z
section
variable{h i j P3 k m p:Prop}{G:Prop}
def aq(z:h/\i)(a:h->i->G):G:=a z.1 z.2
def cF(z:h/\i/\j)(a:h->i->j->G):G:=a z.1 z.2.1 z.2.2
def eW(z:h/\i/\j/\P3)(a:h->i->j->P3->G):G:=a z.1 z.2.1 z.2.2.1 z.2.2.2
def kF(z:h/\i/\j/\P3/\k)(a:h->i->j->P3->k->G):G:=a z.1 z.2.1 z.2.2.1 z.2.2.2.1 z.2.2.2.2
def Cs(z:h/\i/\j/\P3/\k/\m)(a:h->i->j->P3->k->m->G):G:=a z.1 z.2.1 z.2.2.1 z.2.2.2.1 z.2.2.2.2.1 z.2.2.2.2.2
def Ct(z:h/\i/\j/\P3/\k/\m/\p)(a:h->i->j->P3->k->m->p->G):G:=a z.1 z.2.1 z.2.2.1 z.2.2.2.1 z.2.2.2.2.1 z.2.2.2.2.2.1 z.2.2.2.2.2.2
variable{q:Sort _}{F:q}{s:q->Prop}(y:q)
@[elab_as_elim] def rG (z:y=F/\i)(a:i->s F):s y:=z.1.symm▸a z.2
@[elab_as_elim] def jG (z:F=y/\i)(a:i->s F):s y:=z.1▸a z.2
@[elab_as_elim] def AZ (z:h/\F=y)(a:h->s F):s y:=z.2▸a z.1
def au(a:h)(b:i):h/\i:=⟨a,b⟩
def cG(b:h)(c:i)(a:j):h/\i/\j:=⟨b,c,a⟩
def pV(b:h)(d:i)(a:j)(c:P3):h/\i/\j/\P3:=⟨b,d,a,c⟩
def LZ(b:h)(a:i)(d:j)(c:P3)(e:k):h/\i/\j/\P3/\k:=⟨b,a,d,c,e⟩
def Cu(c:h)(b:i)(e:j)(d:P3)(g:k)(a:m)(f:p):h/\i/\j/\P3/\k/\m/\p:=⟨c,b,e,d,g,a,f⟩
end
section
variable{h:Sort _}{i j k P3 m p:h->Prop}{G:Prop}
def aH(z:∃a,i a)(b:∀a,i a->G):G:=z.elim λa z=>b a z
def ak(z:∃a,i a/\j a)(b:∀a,i a->j a->G):G:=z.elim λa z=>b a z.1 z.2
def cR(z:∃a,i a/\j a/\k a)(b:∀a,i a->j a->k a->G):G:=z.elim λa z=>b a z.1 z.2.1 z.2.2
def L5(z:∃a,i a/\j a/\k a/\P3 a)(b:∀a,i a->j a->k a->P3 a->G):G:=z.elim λa z=>b a z.1 z.2.1 z.2.2.1 z.2.2.2
def Wf(z:∃a,i a/\j a/\k a/\P3 a/\m a/\p a)(b:∀a,i a->j a->k a->P3 a->m a->p a->G):G:=z.elim λa z=>b a z.1 z.2.1 z.2.2.1 z.2.2.2.1 z.2.2.2.2.1 z.2.2.2.2.2
variable{q:Sort _}{F:h->q}{s:q->Prop}(y:q)
@[elab_as_elim] def aX (z:∃a,y=(F a))(b:∀a,s (F a)):s y:=z.elim λa z=>z.symm▸b a
@[elab_as_elim] def bh (z:∃a,y=(F a)/\j a)(b:∀a,j a->s (F a)):s y:=z.elim λa z=>z.1.symm▸b a z.2
@[elab_as_elim] def dP (z:∃a,i a/\(F a)=y)(b:∀a,i a->s (F a)):s y:=z.elim λa z=>z.2▸b a z.1
@[elab_as_elim] def nt (z:∃a,y=(F a)/\j a/\k a)(b:∀a,j a->k a->s (F a)):s y:=z.elim λa z=>z.1.symm▸b a z.2.1 z.2.2
@[elab_as_elim] def Ba (z:∃a,i a/\y=(F a)/\k a)(b:∀a,i a->k a->s (F a)):s y:=z.elim λa z=>z.2.1.symm▸b a z.1 z.2.2
@[elab_as_elim] def rH (z:∃a,y=(F a)/\j a/\k a/\P3 a)(b:∀a,j a->k a->P3 a->s (F a)):s y:=z.elim λa z=>z.1.symm▸b a z.2.1 z.2.2.1 z.2.2.2
@[elab_as_elim] def J1 (z:∃a,i a/\y=(F a)/\k a/\P3 a/\m a)(b:∀a,i a->k a->P3 a->m a->s (F a)):s y:=z.elim λa z=>z.2.1.symm▸b a z.1 z.2.2.1 z.2.2.2.1 z.2.2.2.2
variable (a:h)
def bq(b:i a):∃a,i a:=⟨a,b⟩
def ay(b:i a)(c:j a):∃a,i a/\j a:=⟨a,b,c⟩
def dQ(c:i a)(d:j a)(b:k a):∃a,i a/\j a/\k a:=⟨a,c,d,b⟩
def L6(c:i a)(e:j a)(b:k a)(d:P3 a):∃a,i a/\j a/\k a/\P3 a:=⟨a,c,e,b,d⟩
def Wg(c:i a)(b:j a)(e:k a)(d:P3 a)(f:m a):∃a,i a/\j a/\k a/\P3 a/\m a:=⟨a,c,b,e,d,f⟩
def Wh(d:i a)(c:j a)(f:k a)(e:P3 a)(g:m a)(b:p a):∃a,i a/\j a/\k a/\P3 a/\m a/\p a:=⟨a,d,c,f,e,g,b⟩
end
section
variable{j k:Sort _}{m p q P3 s L W:j->k->Prop}{G:Prop}
def d9(z:∃a b,m a b)(c:∀a b,m a b->G):G:=z.elim λa z=>z.elim λb z=>c a b z
def bG(z:∃a b,m a b/\p a b)(c:∀a b,m a b->p a b->G):G:=z.elim λa z=>z.elim λb z=>c a b z.1 z.2
def bV(z:∃a b,m a b/\p a b/\q a b)(c:∀a b,m a b->p a b->q a b->G):G:=z.elim λa z=>z.elim λb z=>c a b z.1 z.2.1 z.2.2
def eP(z:∃a b,m a b/\p a b/\q a b/\P3 a b)(c:∀a b,m a b->p a b->q a b->P3 a b->G):G:=z.elim λa z=>z.elim λb z=>c a b z.1 z.2.1 z.2.2.1 z.2.2.2
def vN(z:∃a b,m a b/\p a b/\q a b/\P3 a b/\s a b)(c:∀a b,m a b->p a b->q a b->P3 a b->s a b->G):G:=z.elim λa z=>z.elim λb z=>c a b z.1 z.2.1 z.2.2.1 z.2.2.2.1 z.2.2.2.2
def Wi(z:∃a b,m a b/\p a b/\q a b/\P3 a b/\s a b/\L a b)(c:∀a b,m a b->p a b->q a b->P3 a b->s a b->L a b->G):G:=z.elim λa z=>z.elim λb z=>c a b z.1 z.2.1 z.2.2.1 z.2.2.2.1 z.2.2.2.2.1 z.2.2.2.2.2
def s8(z:∃a b,m a b/\p a b/\q a b/\P3 a b/\s a b/\L a b/\W a b)(c:∀a b,m a b->p a b->q a b->P3 a b->s a b->L a b->W a b->G):G:=z.elim λa z=>z.elim λb z=>c a b z.1 z.2.1 z.2.2.1 z.2.2.2.1 z.2.2.2.2.1 z.2.2.2.2.2.1 z.2.2.2.2.2.2
def bX{x:k->j}(z:∃a b,m a b/\a=(x b)/\q a b)(e:∀b,m (x b) b->q (x b) b->G):G:=by obtain⟨a,b,d,rfl,c⟩:=z;exact e b d c
def w4{x:k->j}(z:∃a b,m a b/\a=(x b)/\q a b/\P3 a b)(f:∀b,m (x b) b->q (x b) b->P3 (x b) b->G):G:=by obtain⟨a,b,d,rfl,c,e⟩:=z;exact f b d c e
variable{ω:Sort _}{F:j->k->ω}{é:ω->Prop}(y:ω)
@[elab_as_elim] def Bb (z:∃a b,y=(F a b))(c:∀a b,é (F a b)):é y:=z.elim λa z=>z.elim λb z=>z.symm▸c a b
@[elab_as_elim] def bY (z:∃a b,y=(F a b)/\p a b)(c:∀a b,p a b->é (F a b)):é y:=z.elim λa z=>z.elim λb z=>z.1.symm▸c a b z.2
@[elab_as_elim] def dc (z:∃a b,y=(F a b)/\p a b/\q a b)(c:∀a b,p a b->q a b->é (F a b)):é y:=z.elim λa z=>z.elim λb z=>z.1.symm▸c a b z.2.1 z.2.2
@[elab_as_elim] def eQ (z:∃a b,y=(F a b)/\p a b/\q a b/\P3 a b)(c:∀a b,p a b->q a b->P3 a b->é (F a b)):é y:=z.elim λa z=>z.elim λb z=>z.1.symm▸c a b z.2.1 z.2.2.1 z.2.2.2
variable (a:j)(b:k)
def yy(c:m a b):∃a b,m a b:=⟨a,b,c⟩
def ew(c:m a b)(d:p a b):∃a b,m a b/\p a b:=⟨a,b,c,d⟩
def bx(d:m a b)(e:p a b)(c:q a b):∃a b,m a b/\p a b/\q a b:=⟨a,b,d,e,c⟩
def hG(d:m a b)(f:p a b)(c:q a b)(e:P3 a b):∃a b,m a b/\p a b/\q a b/\P3 a b:=⟨a,b,d,f,c,e⟩
def Wj(d:m a b)(c:p a b)(f:q a b)(e:P3 a b)(g:s a b):∃a b,m a b/\p a b/\q a b/\P3 a b/\s a b:=⟨a,b,d,c,f,e,g⟩
def yz(e:m a b)(d:p a b)(g:q a b)(f:P3 a b)(i:s a b)(c:L a b)(h:W a b):∃a b,m a b/\p a b/\q a b/\P3 a b/\s a b/\L a b/\W a b:=⟨a,b,e,d,g,f,i,c,h⟩
end
section
variable{m p q:Sort _}{s x L P3 W P5 P6 P7:m->p->q->Prop}{G:Prop}
def dp(z:∃a b c,s a b c/\x a b c)(d:∀a b c,s a b c->x a b c->G):G:=z.elim λa z=>z.elim λb z=>z.elim λc z=>d a b c z.1 z.2
def gA(z:∃a b c,s a b c/\x a b c/\L a b c)(d:∀a b c,s a b c->x a b c->L a b c->G):G:=z.elim λa z=>z.elim λb z=>z.elim λc z=>d a b c z.1 z.2.1 z.2.2
def jH(z:∃a b c,s a b c/\x a b c/\L a b c/\P3 a b c)(d:∀a b c,s a b c->x a b c->L a b c->P3 a b c->G):G:=z.elim λa z=>z.elim λb z=>z.elim λc z=>d a b c z.1 z.2.1 z.2.2.1 z.2.2.2
def fg(z:∃a b c,s a b c/\x a b c/\L a b c/\P3 a b c/\W a b c)(d:∀a b c,s a b c->x a b c->L a b c->P3 a b c->W a b c->G):G:=z.elim λa z=>z.elim λb z=>z.elim λc z=>d a b c z.1 z.2.1 z.2.2.1 z.2.2.2.1 z.2.2.2.2
def FN(z:∃a b c,s a b c/\x a b c/\L a b c/\P3 a b c/\W a b c/\P5 a b c/\P6 a b c)(d:∀a b c,s a b c->x a b c->L a b c->P3 a b c->W a b c->P5 a b c->P6 a b c->G):G:=z.elim λa z=>z.elim λb z=>z.elim λc z=>d a b c z.1 z.2.1 z.2.2.1 z.2.2.2.1 z.2.2.2.2.1 z.2.2.2.2.2.1 z.2.2.2.2.2.2
variable{ω:Sort _}{F:m->p->q->ω}{é:ω->Prop}(y:ω)
@[elab_as_elim] def J2 (z:∃a b c,y=(F a b c))(d:∀a b c,é (F a b c)):é y:=z.elim λa z=>z.elim λb z=>z.elim λc z=>z.symm▸d a b c
@[elab_as_elim] def aP (z:∃a b c,y=(F a b c)/\x a b c)(d:∀a b c,x a b c->é (F a b c)):é y:=z.elim λa z=>z.elim λb z=>z.elim λc z=>z.1.symm▸d a b c z.2
@[elab_as_elim] def J3 (z:∃a b c,y=(F a b c)/\x a b c/\L a b c/\P3 a b c)(d:∀a b c,x a b c->L a b c->P3 a b c->é (F a b c)):é y:=z.elim λa z=>z.elim λb z=>z.elim λc z=>z.1.symm▸d a b c z.2.1 z.2.2.1 z.2.2.2
@[elab_as_elim] def rI (z:∃a b c,y=(F a b c)/\x a b c/\L a b c/\P3 a b c/\W a b c)(d:∀a b c,x a b c->L a b c->P3 a b c->W a b c->é (F a b c)):é y:=z.elim λa z=>z.elim λb z=>z.elim λc z=>z.1.symm▸d a b c z.2.1 z.2.2.1 z.2.2.2.1 z.2.2.2.2
@[elab_as_elim] def J4 (z:∃a b c,s a b c/\x a b c/\y=(F a b c)/\P3 a b c/\W a b c/\P5 a b c/\P6 a b c/\P7 a b c)(d:∀a b c,s a b c->x a b c->P3 a b c->W a b c->P5 a b c->P6 a b c->P7 a b c->é (F a b c)):é y:=z.elim λa z=>z.elim λb z=>z.elim λc z=>z.2.2.1.symm▸d a b c z.1 z.2.1 z.2.2.2.1 z.2.2.2.2.1 z.2.2.2.2.2.1 z.2.2.2.2.2.2.1 z.2.2.2.2.2.2.2
variable (a:m)(b:p)(c:q)
def ed(d:s a b c)(e:x a b c):∃a b c,s a b c/\x a b c:=⟨a,b,c,d,e⟩
def vO(e:s a b c)(f:x a b c)(d:L a b c):∃a b c,s a b c/\x a b c/\L a b c:=⟨a,b,c,e,f,d⟩
def vP(e:s a b c)(g:x a b c)(d:L a b c)(f:P3 a b c):∃a b c,s a b c/\x a b c/\L a b c/\P3 a b c:=⟨a,b,c,e,g,d,f⟩
def iw(e:s a b c)(d:x a b c)(g:L a b c)(f:P3 a b c)(h:W a b c):∃a b c,s a b c/\x a b c/\L a b c/\P3 a b c/\W a b c:=⟨a,b,c,e,d,g,f,h⟩
def L7(f:s a b c)(e:x a b c)(h:L a b c)(g:P3 a b c)(i:W a b c)(d:P5 a b c):∃a b c,s a b c/\x a b c/\L a b c/\P3 a b c/\W a b c/\P5 a b c:=⟨a,b,c,f,e,h,g,i,d⟩
def L8(f:s a b c)(e:x a b c)(h:L a b c)(g:P3 a b c)(j:W a b c)(d:P5 a b c)(i:P6 a b c)(k:P7 a b c):∃a b c,s a b c/\x a b c/\L a b c/\P3 a b c/\W a b c/\P5 a b c/\P6 a b c/\P7 a b c:=⟨a,b,c,f,e,h,g,j,d,i,k⟩
end
section
variable{m p q s:Sort _}{x L W P3 P4 P5 P6:m->p->q->s->Prop}{G:Prop}
def yA(z:∃a b c d,x a b c d/\L a b c d)(e:∀a b c d,x a b c d->L a b c d->G):G:=z.elim λa z=>z.elim λb z=>z.elim λc z=>z.elim λd z=>e a b c d z.1 z.2
def vQ(z:∃a b c d,x a b c d/\L a b c d/\W a b c d)(e:∀a b c d,x a b c d->L a b c d->W a b c d->G):G:=z.elim λa z=>z.elim λb z=>z.elim λc z=>z.elim λd z=>e a b c d z.1 z.2.1 z.2.2
def pW(z:∃a b c d,x a b c d/\L a b c d/\W a b c d/\P3 a b c d)(e:∀a b c d,x a b c d->L a b c d->W a b c d->P3 a b c d->G):G:=z.elim λa z=>z.elim λb z=>z.elim λc z=>z.elim λd z=>e a b c d z.1 z.2.1 z.2.2.1 z.2.2.2
def Cv(z:∃a b c d,x a b c d/\L a b c d/\W a b c d/\P3 a b c d/\P4 a b c d)(e:∀a b c d,x a b c d->L a b c d->W a b c d->P3 a b c d->P4 a b c d->G):G:=z.elim λa z=>z.elim λb z=>z.elim λc z=>z.elim λd z=>e a b c d z.1 z.2.1 z.2.2.1 z.2.2.2.1 z.2.2.2.2
def FO(z:∃a b c d,x a b c d/\L a b c d/\W a b c d/\P3 a b c d/\P4 a b c d/\P5 a b c d/\P6 a b c d)(e:∀a b c d,x a b c d->L a b c d->W a b c d->P3 a b c d->P4 a b c d->P5 a b c d->P6 a b c d->G):G:=z.elim λa z=>z.elim λb z=>z.elim λc z=>z.elim λd z=>e a b c d z.1 z.2.1 z.2.2.1 z.2.2.2.1 z.2.2.2.2.1 z.2.2.2.2.2.1 z.2.2.2.2.2.2
variable{ω:Sort _}{F:m->p->q->s->ω}{é:ω->Prop}(y:ω)
@[elab_as_elim] def bC (z:∃a b c d,y=(F a b c d)/\L a b c d)(e:∀a b c d,L a b c d->é (F a b c d)):é y:=z.elim λa z=>z.elim λb z=>z.elim λc z=>z.elim λd z=>z.1.symm▸e a b c d z.2
@[elab_as_elim] def nu (z:∃a b c d,y=(F a b c d)/\L a b c d/\W a b c d)(e:∀a b c d,L a b c d->W a b c d->é (F a b c d)):é y:=z.elim λa z=>z.elim λb z=>z.elim λc z=>z.elim λd z=>z.1.symm▸e a b c d z.2.1 z.2.2
@[elab_as_elim] def J5 (z:∃a b c d,y=(F a b c d)/\L a b c d/\W a b c d/\P3 a b c d)(e:∀a b c d,L a b c d->W a b c d->P3 a b c d->é (F a b c d)):é y:=z.elim λa z=>z.elim λb z=>z.elim λc z=>z.elim λd z=>z.1.symm▸e a b c d z.2.1 z.2.2.1 z.2.2.2
variable (a:m)(b:p)(c:q)(d:s)
def FP(e:x a b c d)(f:L a b c d):∃a b c d,x a b c d/\L a b c d:=⟨a,b,c,d,e,f⟩
def s9(f:x a b c d)(g:L a b c d)(e:W a b c d):∃a b c d,x a b c d/\L a b c d/\W a b c d:=⟨a,b,c,d,f,g,e⟩
def pX(f:x a b c d)(h:L a b c d)(e:W a b c d)(g:P3 a b c d):∃a b c d,x a b c d/\L a b c d/\W a b c d/\P3 a b c d:=⟨a,b,c,d,f,h,e,g⟩
def Cw(f:x a b c d)(e:L a b c d)(h:W a b c d)(g:P3 a b c d)(i:P4 a b c d):∃a b c d,x a b c d/\L a b c d/\W a b c d/\P3 a b c d/\P4 a b c d:=⟨a,b,c,d,f,e,h,g,i⟩
def Wl(g:x a b c d)(f:L a b c d)(i:W a b c d)(h:P3 a b c d)(j:P4 a b c d)(e:P5 a b c d):∃a b c d,x a b c d/\L a b c d/\W a b c d/\P3 a b c d/\P4 a b c d/\P5 a b c d:=⟨a,b,c,d,g,f,i,h,j,e⟩
def Wm(g:x a b c d)(f:L a b c d)(i:W a b c d)(h:P3 a b c d)(k:P4 a b c d)(e:P5 a b c d)(j:P6 a b c d):∃a b c d,x a b c d/\L a b c d/\W a b c d/\P3 a b c d/\P4 a b c d/\P5 a b c d/\P6 a b c d:=⟨a,b,c,d,g,f,i,h,k,e,j⟩
end
section
variable{p q s x L:Sort _}{W P1 P2 P3 P4 P5 P6 P7:p->q->s->x->L->Prop}{G:Prop}
def Wn(z:∃a b c d e,W a b c d e)(f:∀a b c d e,W a b c d e->G):G:=z.elim λa z=>z.elim λb z=>z.elim λc z=>z.elim λd z=>z.elim λe z=>f a b c d e z
def Wo(z:∃a b c d e,W a b c d e/\P1 a b c d e/\P2 a b c d e/\P3 a b c d e/\P4 a b c d e)(f:∀a b c d e,W a b c d e->P1 a b c d e->P2 a b c d e->P3 a b c d e->P4 a b c d e->G):G:=z.elim λa z=>z.elim λb z=>z.elim λc z=>z.elim λd z=>z.elim λe z=>f a b c d e z.1 z.2.1 z.2.2.1 z.2.2.2.1 z.2.2.2.2
def Wq(z:∃a b c d e,W a b c d e/\P1 a b c d e/\P2 a b c d e/\P3 a b c d e/\P4 a b c d e/\P5 a b c d e)(f:∀a b c d e,W a b c d e->P1 a b c d e->P2 a b c d e->P3 a b c d e->P4 a b c d e->P5 a b c d e->G):G:=z.elim λa z=>z.elim λb z=>z.elim λc z=>z.elim λd z=>z.elim λe z=>f a b c d e z.1 z.2.1 z.2.2.1 z.2.2.2.1 z.2.2.2.2.1 z.2.2.2.2.2
def Wr(z:∃a b c d e,W a b c d e/\P1 a b c d e/\P2 a b c d e/\P3 a b c d e/\P4 a b c d e/\P5 a b c d e/\P6 a b c d e/\P7 a b c d e)(f:∀a b c d e,W a b c d e->P1 a b c d e->P2 a b c d e->P3 a b c d e->P4 a b c d e->P5 a b c d e->P6 a b c d e->P7 a b c d e->G):G:=z.elim λa z=>z.elim λb z=>z.elim λc z=>z.elim λd z=>z.elim λe z=>f a b c d e z.1 z.2.1 z.2.2.1 z.2.2.2.1 z.2.2.2.2.1 z.2.2.2.2.2.1 z.2.2.2.2.2.2.1 z.2.2.2.2.2.2.2
variable{ω:Sort _}{F:p->q->s->x->L->ω}{é:ω->Prop}(y:ω)
@[elab_as_elim] def Bc (z:∃a b c d e,y=(F a b c d e)/\P1 a b c d e)(f:∀a b c d e,P1 a b c d e->é (F a b c d e)):é y:=z.elim λa z=>z.elim λb z=>z.elim λc z=>z.elim λd z=>z.elim λe z=>z.1.symm▸f a b c d e z.2
variable (a:p)(b:q)(c:s)(d:x)(e:L)
def Ws(f:W a b c d e):∃a b c d e,W a b c d e:=⟨a,b,c,d,e,f⟩
def FQ(h:W a b c d e)(g:P1 a b c d e)(j:P2 a b c d e)(i:P3 a b c d e)(l:P4 a b c d e)(f:P5 a b c d e)(k:P6 a b c d e)(m:P7 a b c d e):∃a b c d e,W a b c d e/\P1 a b c d e/\P2 a b c d e/\P3 a b c d e/\P4 a b c d e/\P5 a b c d e/\P6 a b c d e/\P7 a b c d e:=⟨a,b,c,d,e,h,g,j,i,l,f,k,m⟩
end
section
variable{m p q s x L:Sort _}{W P1 P2 P3 P4:m->p->q->s->x->L->Prop}{G:Prop}
def Wt(z:∃a b c d e f,W a b c d e f/\P1 a b c d e f/\P2 a b c d e f/\P3 a b c d e f/\P4 a b c d e f)(g:∀a b c d e f,W a b c d e f->P1 a b c d e f->P2 a b c d e f->P3 a b c d e f->P4 a b c d e f->G):G:=z.elim λa z=>z.elim λb z=>z.elim λc z=>z.elim λd z=>z.elim λe z=>z.elim λf z=>g a b c d e f z.1 z.2.1 z.2.2.1 z.2.2.2.1 z.2.2.2.2
variable{ω:Sort _}{F:m->p->q->s->x->L->ω}{é:ω->Prop}(y:ω)
@[elab_as_elim] def J6 (z:∃a b c d e f,y=(F a b c d e f)/\P1 a b c d e f/\P2 a b c d e f/\P3 a b c d e f/\P4 a b c d e f)(g:∀a b c d e f,P1 a b c d e f->P2 a b c d e f->P3 a b c d e f->P4 a b c d e f->é (F a b c d e f)):é y:=z.elim λa z=>z.elim λb z=>z.elim λc z=>z.elim λd z=>z.elim λe z=>z.elim λf z=>z.1.symm▸g a b c d e f z.2.1 z.2.2.1 z.2.2.2.1 z.2.2.2.2
variable (a:m)(b:p)(c:q)(d:s)(e:x)(f:L)
def Wu(h:W a b c d e f)(g:P1 a b c d e f)(j:P2 a b c d e f)(i:P3 a b c d e f)(k:P4 a b c d e f):∃a b c d e f,W a b c d e f/\P1 a b c d e f/\P2 a b c d e f/\P3 a b c d e f/\P4 a b c d e f:=⟨a,b,c,d,e,f,h,g,j,i,k⟩
end
section
variable{p q s x y L W:Sort _}{P0 P1 P2 P3 P4 P5 P6:p->q->s->x->y->L->W->Prop}{G:Prop}
def Wv(z:∃a b c d e f g,P0 a b c d e f g)(h:∀a b c d e f g,P0 a b c d e f g->G):G:=z.elim λa z=>z.elim λb z=>z.elim λc z=>z.elim λd z=>z.elim λe z=>z.elim λf z=>z.elim λg z=>h a b c d e f g z
variable (a:p)(b:q)(c:s)(d:x)(e:y)(f:L)(g:W)
def L9(j:P0 a b c d e f g)(i:P1 a b c d e f g)(l:P2 a b c d e f g)(k:P3 a b c d e f g)(n:P4 a b c d e f g)(h:P5 a b c d e f g)(m:P6 a b c d e f g):∃a b c d e f g,P0 a b c d e f g/\P1 a b c d e f g/\P2 a b c d e f g/\P3 a b c d e f g/\P4 a b c d e f g/\P5 a b c d e f g/\P6 a b c d e f g:=⟨a,b,c,d,e,f,g,j,i,l,k,n,h,m⟩
end
end Internal
noncomputable section
namespace Internal.L
inductive E where
 | v (i:S) | c (n:S) | a (a b:E) | s (a b:E) | g (a:E) | m (k:S) (a:E) | t (a:E) | N (a:E) | X (a b:E) | M (a b:E)
inductive F where
 | l (a b:E) | e (a b:E) | q (a b:E) | L (a b:E) | E (a b:E) | Q (a b:E) | n (a:F) | k (a b:F) | o (a b:F) | i (a b:F) | f (a b:F) | no
section
noncomputable def E.den (r:List S)(s:List T)(e:E):S×T:=
 E.rec (motive:=λ_=>S×T) (λi=>(r.getD i 0,s.getD i 0)) (λn=>(n,n)) (λ_ _ x y=>(x.1+y.1,x.2+y.2)) (λ_ _ x y=>(x.1 - y.1,x.2 - y.2))
  (λ_ x=>(0,- x.2)) (λk _ x=>(k*x.1,k*x.2)) (λ_ x=>(0,x.1)) (λ_ x=>(x.2.toNat,0)) (λ_ _ x y=>(max x.1 y.1,max x.2 y.2)) (λ_ _ x y=>(min x.1 y.1,min x.2 y.2)) e
def F.den (r:J S)(s:J T)(f:F):Prop:=
 F.rec (motive:=λ_=>Prop) (λa b=>(a.den r s).1<(b.den r s).1) (λa b=>(a.den r s).1<=(b.den r s).1) (λa b=>(a.den r s).1=(b.den r s).1)
  (λa b=>(a.den r s).2<(b.den r s).2) (λa b=>(a.den r s).2<=(b.den r s).2) (λa b=>(a.den r s).2=(b.den r s).2)
  (λ_ x=>¬x) (λ_ _ x y=>x/\y) (λ_ _ x y=>x\/y) (λ_ _ x y=>x->y) (λ_ _ x y=>x↔y) Gl f
noncomputable abbrev P:=T×J T
noncomputable def dot (W:S->T)(l:J T):S->T:=xq (λ_=>0) (λa _ q k=>a*W k+q (k+1)) l
def ev (W:S->T)(p:P):T:=p.1+dot W p.2 0
noncomputable def Cx (l:J T):J T->J T:=xq (λm=>m) (λa t q m=>xq (a::t) (λb e _=>(a+b)::q e) m) l
def P.add (p q:P):P:=(p.1+q.1,Cx p.2 q.2)
noncomputable def P.mul (k:T)(p:P):P:=(k*p.1,p.2.map (k*·))
noncomputable def one (i:S):J T:=Od [1] (λ_ l=>0::l) i
def P.sub (p q:P):P:=p.add (q.mul (-1))
noncomputable def P.inc (p:P)(k:T):P:=(p.1+k,p.2)
variable{W:S->T}
theorem J7:∀(l m:J T) (k:S),dot W (Cx l m) k=dot W l k+dot W m k:=λl=>by
 induction l with
 | nil=>exact λm k=>(wb _).symm
 | cons a t g=>
  intro m k;cases m with
  | nil=>exact(p7 _).symm
  | cons b e=>
   show(a+b)*W k+dot W (Cx t e) (k+1)=(a*W k+dot W t (k+1))+(b*W k+dot W e (k+1));simp only[g,T.add_mul];ac_rfl
theorem J8:∀(l:J T) (k:S),dot W (l.map (c*·)) k=c*dot W l k:=λl=>by
 induction l with
 | nil=>exact λk=>(Uk _).symm
 | cons a t e=>
  intro k;show c*a*W k+dot W (t.map (c*·)) (k+1)=c*(a*W k+dot W t (k+1));simp only[e,T.mul_add,T.mul_assoc]
theorem J9:∀(i k:S),dot W (one i) k=W (k+i):=λi=>by
 induction i with
 | zero=>intro k;show 1*W k+0=_;rw[T.one_mul,p7];rfl
 | succ i e=>intro k;show 0*W k+dot W (one i) (k+1)=_;simp only[e,I7,wb,S.add_right_comm];rfl
theorem ua(p q:P):ev W (p.add q)=ev W p+ev W q:=by
 show p.1+q.1+dot W (Cx p.2 q.2) 0=(p.1+dot W p.2 0)+(q.1+dot W q.2 0);simp only[J7];ac_rfl
theorem lI(c:T)(p:P):ev W (p.mul c)=c*ev W p:=by
 show c*p.1+dot W (p.2.map (c*·)) 0=c*(p.1+dot W p.2 0);simp only[J8,T.mul_add]
theorem cg(p q:P):ev W (p.sub q)=ev W p - ev W q:=by
 unfold P.sub;simp only[ua,lI,S2];rfl
def Ma(p:P)(c:T):ev W (p.inc c)=ev W p+c:=T.add_right_comm ..
abbrev A:=J (J P×P)
def All (W:S->T)(l:J P):Prop:=∀p∈l,0<=ev W p
def iV (W:S->T)(a:A)(x:T):Prop:=∃q∈a,All W q.1/\ev W q.2=x
def Sat (W:S->T)(d:J (J P)):Prop:=∃c∈d,All W c
def gO(h:All W l)(g:All W m):All W (l++m):=λp hp=>(ka.mp hp).elim (h p) (g p)
def fh(h:0<=ev W p):All W [p]:=λq hq=>by cases hq with | head=>exact h | tail _ b=>cases b
def Ka(h:0<=ev W p)(g:0<=ev W q):All W [p,q]:=gO (fh h) (fh g)
def all_nil:All W []:=λa h=>by cases h
noncomputable def two (a b:A)(g:P->P->A):A:=a.flatMap λx=>b.flatMap λy=>(g x.2 y.2).map λz=>(x.1++(y.1++z.1),z.2)
def fX(c:iV W a x)(hb:iV W b y)(h:∀p q,ev W p=x->ev W q=y->iV W (g p q) z):iV W (two a b g) z:=by
 exact cR c λq m U V=>cR hb λr n f e=>cR (h _ _ V e) λt o d i=>dQ _ (sy.mpr ⟨q,m,sy.mpr ⟨r,n,hN.mpr ⟨t,o,Z⟩⟩⟩) (gO U (gO f d)) i
def gB(h:ev W p=x):iV W [([],p)] x:=⟨_,.head _,all_nil,h⟩
noncomputable def cut (p:P):A:=[([p],p),([p.mul (-1)],(0,[]))]
theorem DW(h:ev W p=x):iV W (cut p) (x.toNat:T):=by
 refine eE (Rt 0 x) (λg=>?_) λg=>?_
 ·exact dQ _ (.head _) (fh (by rw[h];exact g)) (h.trans ((yo g).symm))
 ·exact dQ _ (.tail _ (.head _)) (fh (by rw[lI,h];exact T.mul_nonneg_of_nonpos_of_nonpos (by decide) g)) (by show(0:T)+0=_;rw[Rh g];rfl)
def Mb (p q:P):A:=[([q.sub p],q),([p.sub q],p)]
def Mc (p q:P):A:=[([q.sub p],p),([p.sub q],q)]
def IL(h:ev W p=x)(g:ev W q=y):iV W (Mb p q) (max x y):=by
 refine eE (Rt x y) (λe=>?_) λe=>?_
 ·exact dQ _ (.head _) (fh (by simp only[cg,h,g];exact md e)) (g.trans (T.max_eq_right e).symm)
 ·exact dQ _ (.tail _ (.head _)) (fh (by simp only[cg,h,g];exact md e)) (h.trans (T.max_eq_left e).symm)
def IM(h:ev W p=x)(g:ev W q=y):iV W (Mc p q) (min x y):=by
 refine eE (Rt x y) (λe=>?_) λe=>?_
 ·exact dQ _ (.head _) (fh (by simp only[cg,h,g];exact md e)) (h.trans (T.min_eq_left e).symm)
 ·exact dQ _ (.tail _ (.head _)) (fh (by simp only[cg,h,g];exact md e)) (g.trans (T.min_eq_right e).symm)
noncomputable def dead:A:=[([],(0,[]))]
def alts (e:E):A×A:=
 E.rec (motive:=λ_=>A×A) (λi=>([([],(0,one (i+i)))],[([],(0,one (i+i+1)))])) (λn=>([([],(n,[]))],[([],(n,[]))]))
  (λ_ _ x y=>(two x.1 y.1 λp q=>[([],p.add q)],two x.2 y.2 λp q=>[([],p.add q)]))
  (λ_ _ x y=>(two x.1 y.1 λp q=>cut (p.sub q),two x.2 y.2 λp q=>[([],p.sub q)]))
  (λ_ x=>(dead,two dead x.2 λ_ q=>[([],q.mul (-1))]))
  (λk _ x=>(two dead x.1 λ_ q=>[([],q.mul k)],two dead x.2 λ_ q=>[([],q.mul k)]))
  (λ_ x=>(dead,x.1)) (λ_ x=>(two dead x.2 λ_ q=>cut q,dead)) (λ_ _ x y=>(two x.1 y.1 Mb,two x.2 y.2 Mb)) (λ_ _ x y=>(two x.1 y.1 Mc,two x.2 y.2 Mc)) e
noncomputable def vs (r:J S)(s:J T)(k:S):T:=if k % 2=0 then(r.getD (k / 2) 0:S) else s.getD (k / 2) 0
variable{r:J S}{s:J T}
def jI:iV W dead 0:=gB (p7 _)
def yB:ev W (0,one i)=W i:=by
 show 0+dot W (one i) 0=_;simp only[J9,wb,zQ]
theorem mxc(a b:S):((max a b:S):T)=max (a:T) b:=Lean.Omega.Int.ofNat_max a b
theorem mnc(a b:S):((min a b:S):T)=min (a:T) b:=Lean.Omega.Int.ofNat_min a b
theorem eR:∀e:E,iV (vs r s) (alts e).1 (e.den r s).1/\iV (vs r s) (alts e).2 (e.den r s).2:=λe=>by
 induction e with
 | v i=>
  refine au (gB (yB.trans ?_)) (gB (yB.trans ?_))
  ·unfold vs;rw[<-Sp,dE (R5 2 i),S.mul_div_cancel_left i (by decide)];rfl
  ·unfold vs;rw[<-Sp,dm (by rw[S.mul_add_mod];decide),S.mul_add_div (by decide)];rfl
 | c n=>exact au (gB (p7 _)) (gB (p7 _))
 | a a b j hb=>exact au (fX j.1 hb.1 λp q h g=>gB (by rw[ua,h,g];rfl)) (fX j.2 hb.2 λp q h g=>gB (by rw[ua,h,g];rfl))
 | s a b j hb=>
  refine au (fX (g:=λp q=>cut (p.sub q)) j.1 hb.1 λp q h g=>?_) (fX j.2 hb.2 λp q h g=>gB (by rw[cg,h,g];rfl));have:=DW (W:=vs r s) (p:=p.sub q) (x:=(a.den r s).1 - (b.den r s).1) (by rw[cg,h,g]);rw[T.toNat_sub] at this;exact this
 | g a j=>exact au jI (fX (g:=λd q=>[([],q.mul (-1))]) jI j.2 λp q d g=>gB (by rw[lI,g,S2];rfl))
 | m k a j=>exact au (fX (g:=λd q=>[([],q.mul k)]) jI j.1 λp q d g=>gB (by rw[lI,g];exact(T.natCast_mul k _).symm)) (fX (g:=λd q=>[([],q.mul k)]) jI j.2 λp q d g=>gB (by rw[lI,g];rfl))
 | t a j=>exact au jI j.1
 | N a j=>exact au (fX (g:=λd q=>cut q) jI j.2 λp q d g=>DW g) jI
 | X a b j hb=>exact au (fX j.1 hb.1 λp q h g=>(mxc _ _).symm▸IL h g) (fX j.2 hb.2 λp q h g=>IL h g)
 | M a b j hb=>exact au (fX j.1 hb.1 λp q h g=>(mnc _ _).symm▸IM h g) (fX j.2 hb.2 λp q h g=>IM h g)
noncomputable def rel (a b:A)(g:P->P->J (J P)):J (J P):=a.flatMap λx=>b.flatMap λy=>(g x.2 y.2).map λz=>x.1++(y.1++z)
def nv(d:iV W a x)(hb:iV W b y)(h:∀p q,ev W p=x->ev W q=y->Sat W (g p q)):Sat W (rel a b g):=by
 exact cR d λq m U V=>cR hb λr n f e=>ak (h _ _ V e) λt o c=>ay _ (sy.mpr ⟨q,m,sy.mpr ⟨r,n,hN.mpr ⟨t,o,Z⟩⟩⟩) (gO U (gO f c))
noncomputable def both (d e:J (J P)):J (J P):=d.flatMap λx=>e.map λy=>x++y
def jJ(h:Sat W d)(g:Sat W e):Sat W (both d e):=by
 refine ak h ?_;intro a m h;refine ak g ?_;intro b n g;exact ay _ (sy.mpr ⟨a,m,hN.mpr ⟨b,n,Z⟩⟩) (gO h g)
def rJ(h:Sat W d):Sat W (d++e):=by
 refine ak h ?_;intro a m h;exact ay a (ka.mpr (.inl m)) h
def rK(h:Sat W e):Sat W (d++e):=by
 refine ak h ?_;intro a m h;exact ay a (ka.mpr (.inr m)) h
def rL(h:All W l):Sat W [l]:=⟨_,.head _,h⟩
def DX (p q:P):J (J P):=[[(q.sub p).inc (-1)]]
def DY (p q:P):J (J P):=[[q.sub p]]
def Md (p q:P):J (J P):=[[q.sub p,p.sub q]]
def Me (p q:P):J (J P):=[[(q.sub p).inc (-1)],[(p.sub q).inc (-1)]]
theorem ub(h:ev W p<ev W q):Sat W (DX p q):=rL (fh (by rw[Ma,cg];exact T.le_sub_one_of_lt (T.sub_pos_of_lt h)))
theorem DZ(h:ev W p<=ev W q):Sat W (DY p q):=rL (fh (by rw[cg];exact md h))
theorem Mf(h:ev W p=ev W q):Sat W (Md p q):=rL (Ka (by rw[cg];exact md (Ul h)) (by rw[cg];exact md (Ul h.symm)))
def Mg(h:¬ev W p=ev W q):Sat W (Me p q):=(T.lt_or_gt_of_ne h).elim (λh=>rJ (e:=[_]) (ub h)) λh=>rK (d:=[_]) (ub h)
def US (f:F):J (J P)×J (J P):=
 let e (a b:A):=(rel a b DX,rel a b λp q=>DY q p);let g (a b:A):=(rel a b DY,rel a b λp q=>DX q p);let h (a b:A):=(rel a b Md,rel a b Me)
 F.rec (motive:=λ_=>J (J P)×J (J P)) (λa b=>e (alts a).1 (alts b).1) (λa b=>g (alts a).1 (alts b).1) (λa b=>h (alts a).1 (alts b).1)
  (λa b=>e (alts a).2 (alts b).2) (λa b=>g (alts a).2 (alts b).2) (λa b=>h (alts a).2 (alts b).2)
  (λ_ x=>(x.2,x.1)) (λ_ _ x y=>(both x.1 y.1,x.2++y.2)) (λ_ _ x y=>(x.1++y.1,both x.2 y.2)) (λ_ _ x y=>(x.2++y.1,both x.1 y.2)) (λ_ _ x y=>(both x.1 y.1++both x.2 y.2,both x.1 y.2++both x.2 y.1)) ([],[[]]) f
def Be (W:S->T)(d:J (J P)×J (J P))(x:Prop):Prop:=(x->Sat W d.1)/\(¬x->Sat W d.2)
def IP(c:iV W a x)(hb:iV W b y):Be W (rel a b DX,rel a b λp q=>DY q p) (x<y):=
 ⟨λh=>nv c hb λp q e f=>ub (by rw[e,f];exact h),λh=>nv c hb λp q e f=>DZ (p:=q) (q:=p) (by rw[e,f];exact uB.mp h)⟩
def IQ(c:iV W a x)(hb:iV W b y):Be W (rel a b DY,rel a b λp q=>DX q p) (x<=y):=
 ⟨λh=>nv c hb λp q e f=>DZ (by rw[e,f];exact h),λh=>nv c hb λp q e f=>ub (p:=q) (q:=p) (by rw[e,f];exact QU.mp h)⟩
def IS(c:iV W a x)(hb:iV W b y):Be W (rel a b Md,rel a b Me) (x=y):=
 ⟨λh=>nv c hb λp q e f=>Mf (by rw[e,f];exact h),λh=>nv c hb λp q e f=>Mg (by rw[e,f];exact h)⟩
def vR(i:x↔y)(h:Be W d x):Be W d y:=⟨λq=>h.1 (i.mpr q),λq=>h.2 λz=>q (i.mp z)⟩
def Mh:∀f:F,Be (vs r s) (US f) (f.den r s):=λf=>by
 induction f with
 | l a b=>exact vR T.ofNat_lt (IP (eR a).1 (eR b).1)
 | e a b=>exact vR Og (IQ (eR a).1 (eR b).1)
 | q a b=>exact vR T.ofNat_inj (IS (eR a).1 (eR b).1)
 | L a b=>exact IP (eR a).2 (eR b).2
 | E a b=>exact IQ (eR a).2 (eR b).2
 | Q a b=>exact IS (eR a).2 (eR b).2
 | n a h=>exact au h.2 (λq=>h.1 (Classical.not_not.mp q))
 | k a b h g=>exact au (λq=>jJ (h.1 q.1) (g.1 q.2)) (λq=>(Classical.not_and_iff_not_or_not.mp q).elim (λq=>rJ (h.2 q)) λq=>rK (g.2 q))
 | o a b h g=>exact au (λq=>q.elim (λq=>rJ (h.1 q)) λq=>rK (g.1 q)) (λq=>jJ (h.2 λz=>q (.inl z)) (g.2 λz=>q (.inr z)))
 | i a b h g=>exact au (λq=>(Rv (a.den r s)).elim (λz=>rK (g.1 (q z))) λz=>rJ (h.2 z)) (λq=>jJ (h.1 (nf λz=>q λw=>(z w).elim)) (g.2 λz=>q λc=>z))
 | f a b h g=>exact(au (λq=>(Rv (a.den r s)).elim (λz=>rJ (jJ (h.1 z) (g.1 (q.mp z)))) λz=>rK (jJ (h.2 z) (g.2 λw=>z (q.mpr w))))
   (λq=>(Rv (a.den r s)).elim (λz=>rJ (jJ (h.1 z) (g.2 λw=>q ⟨λc=>w,λc=>z⟩))) λz=>rK (jJ (h.2 z) (g.1 (nf λw=>q ⟨λv=>(z v).elim,λv=>(w v).elim⟩)))))
 | no=>exact au Gl.elim (λc=>rL all_nil)
noncomputable def hd (p:P):T:=p.2.headD 0
noncomputable def tl (p:P):P:=(p.1,p.2.tail)
def step (l:J P):J P:=
 (l.filter λp=>hd p==0).map tl++(l.filter λp=>eo (0<hd p)).flatMap λp=>(l.filter λq=>eo (hd q<0)).map λq=>tl ((p.mul (-(hd q))).add (q.mul (hd p)))
noncomputable def bad (l:J P):aS:=l.any λp=>eo (p.1<0)&&p.2.all (·==0)
def fm (n:S):J P->aS:=Od bad (λ_ q l=>bad l||q (step l)) n
def IT(p:P):ev W p=hd p*W 0+ev (λk=>W (k+1)) (tl p):=by
 haveI b:∀(l:J T) (k:S),dot W l (k+1)=dot (λk=>W (k+1)) l k:=λl=>by
  induction l with| nil=>exact λd=>Z| cons a t e=>exact λk=>cx (a*W (k+1)+·) (e (k+1))
 obtain⟨c,l⟩:=p;cases l with
 | nil=>show c+0=0*W 0+(c+0);rw[I7,wb]
 | cons a t=>show c+(a*W 0+dot W t 1)=a*W 0+(c+dot _ t 0);rw[b t 0];ac_rfl
def D0(c:T)(p:P):hd (p.mul c)=c*hd p:=by
 obtain⟨x,l⟩:=p;cases l with| nil=>exact(Uk _).symm| cons a t=>rfl
def Mi(p q:P):hd (p.add q)=hd p+hd q:=by
 obtain⟨x,l⟩:=p;obtain⟨y,m⟩:=q;cases l with
 | nil=>exact(wb _).symm
 | cons a t=>
  cases m with| nil=>exact(p7 _).symm| cons b m=>rfl
theorem Kb(h:All W l):All (λk=>W (k+1)) (step l):=by
 refine gO ?_ ?_
 ·intro p hp;refine ak (hN.mp hp) λq hq c=>?_;subst c;refine aq (jE.mp hq) λU V=>?_;have:=h q U;rw[IT,e5 V,I7,wb] at this;exact this
 ·intro p hp;refine ak (sy.mp hp) λa f hp=>?_;refine dP p (hN.mp hp) λb hb=>aq (jE.mp f) λi d=>aq (jE.mp hb) λg b2=>?_;haveI d:=gb d;haveI b2:=gb b2;haveI e:=IT (W:=W) ((a.mul (-(hd b))).add (b.mul (hd a)));rw[Mi,D0,D0,T.neg_mul,T.mul_comm (hd b),T.add_left_neg,I7,wb,ua,lI,lI] at e;rw[<-e];exact T.add_nonneg (Tq (T.neg_nonneg_of_nonpos (o8 b2)) (h a i)) (Tq (o8 d) (h b g))
def FT:∀(l:J T) (k:S),(l.all (·==0))=X->dot W l k=0:=λl=>by
 induction l with
 | nil=>exact λb b=>Z
 | cons a t e=>
  intro k h;refine aq (Ja.mp h) λU V=>?_;show a*W k+dot W t (k+1)=0;simp only[e _ V,e5 U,I7];rfl
def D1(h:bad l=X)(a:All W l):Gl:=by
 refine ak (J.any_eq_true.mp h) λp hp h=>aq (Ja.mp h) λU V=>?_;have:=a p hp;rw[ev,FT _ _ V,p7] at this;exact QU.mpr (gb U) this
def Qn:∀(n:S) (W:S->T) (l:J P),fm n l=X->All W l->Gl:=λn=>by
 induction n with| zero=>exact λW l h a=>D1 h a| succ n e=>exact λW l h a=>(JN.mp h).elim (λh=>D1 h a) λh=>e _ _ h (Kb a)
def nats (n:S):J P:=Od [] (λi l=>(0,one (i+i))::l) n
def Kc:∀n:S,All (vs r s) (nats n):=λn=>by
 induction n with
 | zero=>exact all_nil
 | succ i e=>exact gO (l:=[_]) (fh (by rw[yB];unfold vs;rw[<-Sp,dE (R5 2 i)];exact jl _)) e
def UT (n m:S)(f:F):aS:=(US f).2.all λc=>fm m (nats n++c)
def cj(n m:S)(f:F)(r:J S)(s:J T)(h:UT n m f=X):f.den r s:=
 nf λq=>by
  exact ak ((Mh (r:=r) (s:=s) f).2 q) λc hc a=>Qn _ _ _ (h8.mp h c hc) (gO (Kc n) a)
def li(h:UT r.length (max (2*r.length - 1) (2*s.length)) f=X:=by kernel_rfl):f.den r s:=cj _ _ f r s h
end
noncomputable def E.A:E:=.v 0
noncomputable def E.B:E:=.v 1
noncomputable def E.C:E:=.v 2
noncomputable def E.D:E:=.v 3
noncomputable def E.F:E:=.v 4
noncomputable def E.G:E:=.v 5
noncomputable def E.O:E:=.c 0
noncomputable def E.I:E:=.c 1
noncomputable def E.J:E:=.c 2
noncomputable def E.H:E:=.c 4
noncomputable def E.K:E:=.c 1000
noncomputable def E.P:E:=.c 1048576
noncomputable def E.Q:E:=.c 500000
noncomputable def E.R:E:=.c 100000
abbrev F.D (r:J S)(f:F):Prop:=f.den r []
end Internal.L
end
noncomputable section
namespace Internal
def z0:L.F.D [a,b] (.Q (.a (.t .A) (.t .B)) (.t (.a .A .B))):=L.li
def z1:L.F.D [a,b] (.q (.a (.a .A .I) .B) (.a .A (.a .B .I))):=L.li
def z2:L.F.D [a] (.i (.l .A .K) (.l .A .P)):=L.li
def z3:L.F.D [a,b] (.i (.k (.e .A .J) (.e .B .J)) (.e .A .J)):=L.li
def z4{a:S}:¬(((((a+1):S):T):T)=0):=L.cj 1 1 (.n (.Q (.t (.a .A .I)) .O)) [a] [] (by kernel_rfl)
def z5:L.F.D [a,b] (.i (.l (.a .A .B) (.c 900000)) (.l .A (.c 1000000))):=L.li
def z6:L.F.D [a,b] (.i (.k (.e .A .J) (.e .B .J)) (.e .B .J)):=L.li
def z7:L.F.D [a,b] (.i (.e .A (.c 6)) (.e (.a .B .A) (.a .B (.c 6)))):=L.li
def z8:L.F.D [a] (.i (.l (.a .A (.c 6)) .R) (.l (.a .A .J) .R)):=L.li
def z9:L.F.D [a] (.i (.l (.a .A (.c 6)) .R) (.l (.a .A .H) .R)):=L.li
def D2:L.F.D [a] (.i (.e .A .J) (.l .A (.c 100))):=L.li
def UU:L.F.D [a] (.e .A (.a .A (.c 6))):=L.li
def pY:L.F.D [a] (.i (.l (.a .A (.c 6)) .R) (.l (.a .A .I) .R)):=L.li
def UW:L.F.D [a,b] (.i (.l (.a .A (.a .B .I)) (.c 900000)) (.l (.a (.a .A .I) .B) (.c 900000))):=L.li
def Bf{a b:S}:a+(b+1)<1000->(a+1)+b<1000:=L.cj 2 3 (.i (.l (.a .A (.a .B .I)) .K) (.l (.a (.a .A .I) .B) .K)) [a,b] [] (by kernel_rfl)
def Mj{a b:S}:a+(b+1)<1000->a<1048576:=L.cj 2 3 (.i (.l (.a .A (.a .B .I)) .K) (.l .A .P)) [a,b] [] (by kernel_rfl)
def Mk:L.F.D [a] (.e (.a .A .I) (.a .A (.c 6))):=L.li
def z17:L.F.D [a] (.Q (.a (.g .I) (.a (.t .A) .I)) (.t .A)):=L.li
def Ml:L.F.den [] [a] (.i (.o (.Q .A (.c 27)) (.Q .A (.c 28))) (.n (.Q .A (.c 26)))):=L.li
def IU{a:S}:(a=2)\/((a=3)\/(a=4))->¬(a=5):=L.cj 1 1 (.i (.o (.q .A .J) (.o (.q .A (.c 3)) (.q .A .H))) (.n (.q .A (.c 5)))) [a] [] (by kernel_rfl)
def z20:L.F.D [a,b,c] (.i (.l .A .B) (.l (.a .C .A) (.a .C .B))):=L.li
def z21:L.F.D [a,b,c] (.i (.e .A .H) (.i (.l (.a .B .H) .Q) (.i (.e .C .B) (.l (.a .C .A) (.c 900000))))):=L.li
def yC:L.F.D [a] (.i (.o (.q .A .J) (.o (.q .A (.c 3)) (.q .A .H))) (.o (.Q (.t .A) .J) (.o (.Q (.t .A) (.c 3)) (.Q (.t .A) .H)))):=L.li
def z23:L.F.D [a] (.i (.e .A .H) (.l .A .K)):=L.li
def z24:L.F.D [a,b,c] (.i (.e .A .H) (.i (.l (.a .B .H) .Q) (.i (.e .C .B) (.e (.a .C .A) .P)))):=L.li
def z25{a:S}:((a:T)=2)\/(((a:T)=3)\/((a:T)=4))->(a:T)<=16:=L.cj 1 1 (.i (.o (.Q (.t .A) .J) (.o (.Q (.t .A) (.c 3)) (.Q (.t .A) .H))) (.E (.t .A) (.c 16))) [a] [] (by kernel_rfl)
def z26:L.F.D [a,b] (.i (.k (.e .A .J) (.e .B .J)) (.l .A (.c 100))):=L.li
def UX:L.F.D [a,b,c] (.i (.l (.a .A (.c 6)) .R) (.i (.k (.e .B .J) (.e .C .J)) (.l (.a (.a .A .I) .B) .R))):=L.li
def z28:L.F.D [a,b,c] (.i (.e .A .H) (.i (.e .B .C) (.e (.a .B .A) (.a .C .H)))):=L.li
def UY{a b:S}:a+(6*(b+1))<100000->(a+6)+(6*b)<100000:=L.cj 2 3 (.i (.l (.a .A (.m 6 (.a .B .I))) .R) (.l (.a (.a .A (.c 6)) (.m 6 .B)) .R)) [a,b] [] (by kernel_rfl)
def Mm{a:S}:a=4->(a:T)=4:=L.cj 1 1 (.i (.q .A .H) (.Q (.t .A) .H)) [a] [] (by kernel_rfl)
def z31:L.F.D [a,b,c] (.i (.e .A .H) (.i (.e .B .C) (.e (.a .A .B) (.a .C .H)))):=L.li
def Mn{a:S}:¬(a=4)->¬((a:T)=4):=L.cj 1 1 (.i (.n (.q .A .H)) (.n (.Q (.t .A) .H))) [a] [] (by kernel_rfl)
def Bg:L.F.D [a,b] (.i (.l (.a .A (.a .B .I)) .K) (.l .A .K)):=L.li
def UZ:L.F.D [a,b,c] (.i (.k (.e .A .J) (.e .B .J)) (.e (.a (.a .C .I) .A) (.a .C (.c 6)))):=L.li
def z35{a b:S}:(a+6)+(6*b)<100000->a+6<100000:=L.cj 2 3 (.i (.l (.a (.a .A (.c 6)) (.m 6 .B)) .R) (.l (.a .A (.c 6)) .R)) [a,b] [] (by kernel_rfl)
def U0:L.F.D [a,b] (.i (.k (.e .A .J) (.e .B .J)) (.l .B (.c 100))):=L.li
def z37:L.F.D [a,b,c] (.i (.l (.a .A (.c 6)) .R) (.i (.k (.e .B .J) (.e .C .J)) (.l (.a .A .C) .R))):=L.li
def z38:L.F.D [a,b,c] (.i (.k (.e .A .J) (.e .B .J)) (.e (.a .C .B) (.a .C (.c 6)))):=L.li
def U1{a b:S}:a+(b+1)=(a+1)+b:=L.cj 2 3 (.q (.a .A (.a .B .I)) (.a (.a .A .I) .B)) [a,b] [] (by kernel_rfl)
def z40:L.F.D [a] (.i (.l .A (.c 1000000)) (.l .A .P)):=L.li
def D3{a b:S}:a<b->(a:T)<(b:T):=L.cj 2 3 (.i (.l .A .B) (.L (.t .A) (.t .B))) [a,b] [] (by kernel_rfl)
def z42:L.F.D [a,b,c] (.i (.e .A .B) (.i (.e .C (.c 5)) (.e (.a .A .C) (.a .B (.c 5))))):=L.li
def z43:L.F.D [a,b,c] (.i (.e .A (.c 5)) (.i (.q .B .A) (.e .B (.a .C (.c 5))))):=L.li
def D4:L.F.D [a] (.i (.l .A (.c 100)) (.l .A .K)):=L.li
def U2:L.F.D [a] (.i (.l .A (.c 100)) (.e (.a .A .I) .P)):=L.li
def z46:L.F.D [a,b,c] (.i (.e .A .J) (.i (.e .B .C) (.i (.l (.a .C (.c 5)) .Q) (.l (.a .B .A) (.c 900000))))):=L.li
def Mo:L.F.D [a] (.i (.e .A .J) (.l .A .K)):=L.li
def z48{a:S}:a<=2->(((-1048576):T)<=(a:T))/\((a:T)<=1048576):=L.cj 1 1 (.i (.e .A .J) (.k (.E (.g .P) (.t .A)) (.E (.t .A) .P))) [a] [] (by kernel_rfl)
def z49:L.F.D [a,b,c,d] (.i (.e .A .J) (.i (.e .B .C) (.i (.l (.a .C (.c 5)) .Q) (.i (.q .D .A) (.l (.a .B .D) (.c 1000000)))))):=L.li
def z50:L.F.D [a] (.i (.e .A .J) (.l .A .P)):=L.li
def z51:L.F.D [a] (.i (.e .A .J) (.e (.a .A .I) (.c 5))):=L.li
def z52:L.F.den [] [a] (.i (.o (.Q .A (.c 12)) (.Q .A (.c 14))) (.n (.Q .A .O))):=L.li
def z53:L.F.den [] [a] (.i (.o (.Q .A (.c 12)) (.Q .A (.c 14))) (.n (.Q .A (.c 15)))):=L.li
def U3:L.F.D [a] (.i (.e .A .J) (.e .A (.c 5))):=L.li
def Mp:L.F.den [] [a] (.i (.k (.E .O .A) (.L .A (.c 5))) (.o (.Q .A .O) (.o (.Q .A .I) (.o (.Q .A .J) (.o (.Q .A (.c 3)) (.Q .A .H)))))):=L.li
def z56:L.F.D [a,b,c] (.i (.e .A .B) (.i (.l (.a .B (.c 5)) .Q) (.i (.e .C .J) (.l (.a .A .C) (.c 900000))))):=L.li
def z57{a b:S}:a+(b+1)<1000->a+b<1000:=L.cj 2 3 (.i (.l (.a .A (.a .B .I)) .K) (.l (.a .A .B) .K)) [a,b] [] (by kernel_rfl)
def Mq:L.F.D [a,b] (.i (.l .A .B) (.Q (.s (.s (.t .B) .I) (.t .A)) (.t (.s (.s .B .I) .A)))):=L.li
theorem Bh{a b:S}:a<b->(b - 1) - a<b:=L.cj 2 3 (.i (.l .A .B) (.l (.s (.s .B .I) .A) .B)) [a,b] [] (by kernel_rfl)
theorem Mr{a b:S}:a<b->(b - 1) - ((b - 1) - a)=a:=L.cj 2 3 (.i (.l .A .B) (.q (.s (.s .B .I) (.s (.s .B .I) .A)) .A)) [a,b] [] (by kernel_rfl)
def z61:L.F.D [a,b,c] (.i (.e (.a .A .B) .C) (.e (.a .A .B) .C)):=L.li
def z62:L.F.D [a,b] (.i (.e .A .B) (.i (.l .B .R) (.l .A .P))):=L.li
def U4:L.F.D [a] (.i (.l .A (.c 900000)) (.l .A (.c 1000000))):=L.li
theorem IV{a b c:S}:a+(b+1)=c->a<c:=L.cj 3 5 (.i (.q (.a .A (.a .B .I)) .C) (.l .A .C)) [a,b,c] [] (by kernel_rfl)
def z65:L.F.D [a,b] (.i (.l (.a .A (.a .B .I)) (.c 900000)) (.l .A (.c 900000))):=L.li
def U5:L.F.D [a,b,c] (.i (.q (.a .A (.a .B .I)) .C) (.q (.a (.a .A .I) .B) .C)):=L.li
def z67:L.F.D [a,b] (.i (.e .A .B) (.i (.l .B .Q) (.l .A (.c 600000)))):=L.li
theorem Ms:L.F.D [a,b] (.i (.e .A .B) (.i (.l .B .Q) (.l .A (.c 1000000)))):=L.li
def z69:L.F.D [a] (.i (.e .A .H) (.e .A .P)):=L.li
def z70:L.F.D [a] (.i (.l .A (.c 600000)) (.l .A .P)):=L.li
def Mt:L.F.D [a,b] (.i (.l (.a (.a .A .I) .B) .R) (.l (.a .A .I) .R)):=L.li
def z72:L.F.D [a,b] (.q (.a (.a .A .I) .B) (.a .A (.a .B .I))):=L.li
def z73:L.F.D [a] (.i (.l .A (.c 600000)) (.e (.a .A (.a (.a (.a .O .I) .I) .I)) .P)):=L.li
def U6:L.F.D [a] (.i (.l .A (.c 900)) (.l .A .K)):=L.li
def z75:L.F.D [a,b] (.i (.l .A (.c 900)) (.i (.l .B .K) (.l (.a .B (.m 6 .A)) .R))):=L.li
def z76:L.F.D [a,b] (.i (.e .A .B) (.e (.a .A .I) (.a .B (.c 3)))):=L.li
def z77:L.F.D [a,b] (.i (.e .A .B) (.e (.a (.a (.a .A .I) .I) .I) (.a .B (.c 3)))):=L.li
def z78:L.F.D [a] (.q .A (.a .O .A)):=L.li
def z79:L.F.D [a,b,c] (.q (.a .A (.a .B .C)) (.a (.a .A .B) .C)):=L.li
def z80:L.F.D [a,b] (.q (.a .A (.a .B .O)) (.a .B .A)):=L.li
def z81:L.F.D [a,b,c,d] (.i (.l (.a .A .B) .Q) (.i (.q .B (.a .C .D)) (.l (.a (.a .A .C) .D) .Q))):=L.li
def z82:L.F.D [a,b,c] (.i (.l (.a (.a .A .B) .C) .Q) (.l (.a .A .B) .Q)):=L.li
def z83:L.F.D [a] (.i (.l (.a .A .H) .Q) (.l (.a .A .I) .Q)):=L.li
def z84:L.F.D [a] (.l .A (.a .A .I)):=L.li
def z85:L.F.D [a] (.i (.l (.a .A .H) .Q) (.l (.a (.a .A .I) (.c 3)) .Q)):=L.li
def z86:L.F.D [a] (.i (.e .A .J) (.e (.a .A .I) .P)):=L.li
def z87:L.F.D [a,b,c] (.q (.a (.a .A .B) .C) (.a .A (.a .B .C))):=L.li
def U7:L.F.D [a,b] (.L (.t .A) (.a (.a (.t .B) (.t .A)) .I)):=L.li
def z89:L.F.D [a] (.i (.e .A .H) (.l .A (.c 100))):=L.li
def z90:L.F.D [a] (.i (.l (.a .A .H) .Q) (.l (.a .A (.c 3)) .Q)):=L.li
def U8:L.F.D [a,b,c] (.i (.e (.a (.a .A .B) .I) .C) (.e (.a .A .B) .C)):=L.li
def Mu:L.F.D [a] (.i (.l (.a .A (.c 6)) .Q) (.l (.a .A .H) .Q)):=L.li
def z93:L.F.D [a] (.e (.a .A (.c 3)) (.a .A .H)):=L.li
def Mv:L.F.D [a] (.e (.a .A .H) (.a .A (.c 6))):=L.li
def z95:L.F.D [a] (.i (.l (.a .A (.c 6)) .Q) (.l (.a .A (.c 5)) .Q)):=L.li
def z96:L.F.D [a] (.e (.a .A (.c 5)) (.a .A (.c 6))):=L.li
def z97:L.F.D [a,b,c] (.i (.e .A .B) (.i (.q .C .B) (.e .A .C))):=L.li
def U9:L.F.D [a] (.i (.l (.a .A (.c 6)) .Q) (.l (.a .A .I) .Q)):=L.li
def z99:L.F.D [a] (.i (.e .A .J) (.e (.a .A .I) .H)):=L.li
def Ww:L.F.D [a] (.i (.q .A (.c 3)) (.Q (.t .A) (.c 3))):=L.li
def Mw{a:S}:¬(a=3)->¬((a:T)=3):=L.cj 1 1 (.i (.n (.q .A (.c 3))) (.n (.Q (.t .A) (.c 3)))) [a] [] (by kernel_rfl)
def Wx:L.F.D [a,b,c,d] (.i (.e .A .J) (.i (.e .B .C) (.i (.l (.a (.a .C .J) .D) .Q) (.l (.a .B .A) (.c 900000))))):=L.li
def Wy:L.F.D [a,b,c] (.i (.e .A .B) (.e .A (.a (.a .B .J) .C))):=L.li
def Wz:L.F.D [a,b] (.i (.l (.a (.a .A .J) .B) .Q) (.l (.a .A .J) .Q)):=L.li
def WA:L.F.D [a,b,c] (.i (.e .A .J) (.i (.e .B .C) (.e (.a .B .A) (.a .C .J)))):=L.li
def WB:L.F.D [a,b,c] (.i (.e .A .J) (.i (.q .B .A) (.e .B (.a .C .J)))):=L.li
def WC:L.F.D [a] (.i (.o (.q .A .J) (.o (.q .A (.c 3)) (.q .A .H))) (.n (.o (.Q (.t .A) .O) (.o (.Q (.t .A) (.c 12)) (.o (.Q (.t .A) (.c 14)) (.Q (.t .A) (.c 15))))))):=L.li
def WD:L.F.D [a] (.i (.o (.q .A .J) (.o (.q .A (.c 3)) (.q .A .H))) (.n (.Q (.t .A) (.c 26)))):=L.li
def WE:L.F.D [a] (.i (.o (.q .A .J) (.o (.q .A (.c 3)) (.q .A .H))) (.n (.Q (.t .A) (.c 27)))):=L.li
def WG:L.F.D [a] (.i (.o (.q .A .J) (.o (.q .A (.c 3)) (.q .A .H))) (.n (.Q (.t .A) (.c 209)))):=L.li
def WH:L.F.D [a,b] (.i (.k (.e .A .J) (.e .B .J)) (.e (.a .A .I) .P)):=L.li
def afm:L.F.D [a,b,c,d] (.i (.l (.a .A (.a (.a (.c 12) .B) .C)) .Q) (.i (.e (.a .D .H) (.a .A (.a (.a (.c 12) .B) .C))) (.l (.a .D .H) .Q))):=L.li
def afn:L.F.D [a,b] (.i (.k (.e .A .J) (.e .B .J)) (.e .A (.c 3))):=L.li
def afo:L.F.D [a,b] (.i (.k (.e .A .J) (.e .B .J)) (.e .A .H)):=L.li
def WI:L.F.D [a,b,c] (.i (.l (.a .A (.a (.a (.c 12) .B) .C)) .Q) (.l (.a (.a .A .J) .B) .Q)):=L.li
def WJ:L.F.D [a,b,c] (.e (.a (.a (.a .A .J) .B) .H) (.a .A (.a (.a (.c 12) .B) .C))):=L.li
def WK:L.F.D [a,b,c] (.i (.l (.a .A (.a (.a (.c 12) .B) .C)) .Q) (.l (.a (.a (.a (.a .A .J) .B) .J) .C) .Q)):=L.li
def WL:L.F.D [a] (.E .O (.a (.g .I) (.a (.t .A) .I))):=L.li
def WM:L.F.D [a] (.q (.N (.a (.g .I) (.a (.t .A) .I))) .A):=L.li
def WO:L.F.D [a] (.i (.l .O .A) (.n (.Q (.t .A) .O))):=L.li
def Mx:L.F.D [a] (.i (.l .O .A) (.L .O (.t .A))):=L.li
theorem WQ{a:T}{b:S}(c:((0:T)<=(a % ((b:S):T)))):(((a % ((b:S):T)):T)=(((xn (a % ((b:S):T))):S):T)):=(yo c).symm
theorem WR{a:T}{b:S}(c:((0:T)<=(a % ((b:S):T))))(U:(((a % ((b:S):T)):T)<((b:S):T))):(((xn (a % ((b:S):T))):S)<b):=(T.toNat_lt c).mpr U
def WS:L.F.D [a,b,c] (.e (.a (.a (.a (.a (.a .A .J) .B) .J) .C) .H) (.a .A (.a (.a (.c 12) .B) .C))):=L.li
def My:L.F.D [a,b] (.i (.e .H (.a .A .B)) (.i (.l .A .H) (.q .B (.a (.s .B .I) .I)))):=L.li
def FU:L.F.D [a,b] (.i (.e .H (.a .A (.a .B .I))) (.e .H (.a (.a .A .I) .B))):=L.li
def WT:L.F.D [a] (.i (.o (.q .A .J) (.o (.q .A (.c 3)) (.q .A .H))) (.n (.o (.Q (.t .A) (.c 5)) (.Q (.t .A) (.c 11))))):=L.li
def WU:L.F.D [a,b] (.i (.e (.a .A .I) .B) (.l .A (.a .B .I))):=L.li
def WV:L.F.D [a,b,c] (.i (.e (.a .A .I) .B) (.i (.e (.a .C .I) .A) (.l .C (.a .B .I)))):=L.li
def FV{b:S}{a:T}:(0:T)<=a->a+1<(b:T)->xn (a+1)<b:=L.cj 1 2 (.i (.E .O .A) (.i (.L (.a .A .I) (.t .A)) (.l (.N (.a .A .I)) .A))) [b] [a] (by kernel_rfl)
def WW{a:T}:(0:T)<=a->(0:T)<=a+1:=L.cj 0 2 (.i (.E .O .A) (.E .O (.a .A .I))) [] [a] (by kernel_rfl)
def WX:L.F.D [a] (.i (.q .A .O) (.e .A .H)):=L.li
def WY:L.F.D [a] (.i (.l .A .H) (.o (.q .A .O) (.o (.q .A .I) (.o (.q .A .J) (.q .A (.c 3)))))):=L.li
def Mz:L.F.D [a] (.e (.a .O (.m 12 .A)) (.m 12 .A)):=L.li
def MA{a b:S}:a+2<1000->b<=a->b<1000:=L.cj 2 3 (.i (.l (.a .A .J) .K) (.i (.e .B .A) (.l .B .K))) [a,b] [] (by kernel_rfl)
def WZ:L.F.D [a,b,c] (.i (.e (.a .A (.m 12 .B)) (.m 12 .C)) (.e (.a (.a (.c 6) .A) (.m 12 .B)) (.m 12 (.a .C .I)))):=L.li
def W0:L.F.D [a,b] (.i (.l (.a .A (.a .B .I)) (.c 90)) (.l (.a .A .I) (.c 100))):=L.li
def W2:L.F.D [a,b,c,d,e] (.i (.e (.a .A (.m 12 (.a .B .I))) (.m 12 .C)) (.i (.e (.a .D (.m 12 .F)) (.m 12 .B)) (.e (.a (.a (.a (.a (.c 12) .A) .O) .D) (.m 12 .F)) (.m 12 (.a .C .I))))):=L.li
def W3{a b:S}:a+2<1000->b<=a->b+1<1000:=L.cj 2 3 (.i (.l (.a .A .J) .K) (.i (.e .B .A) (.l (.a .B .I) .K))) [a,b] [] (by kernel_rfl)
def W4:L.F.D [a,b] (.i (.l (.a .A (.a .B .I)) (.c 90)) (.l (.a (.a .A .I) .B) (.c 90))):=L.li
def W5:L.F.D [a,b,c,d,e,f,g] (.i (.e (.a .A (.m 12 (.a .B .I))) (.m 12 .C)) (.i (.e (.a .D (.m 12 (.a .F .I))) (.m 12 .B)) (.i (.e (.a .G (.m 12 (.v 6))) (.m 12 .F)) (.e (.a (.a (.a (.a (.c 12) .A) .D) .G) (.m 12 (.v 6))) (.m 12 (.a .C .I)))))):=L.li
def W6:L.F.D [a,b,c] (.i (.e (.a .I (.X .A .B)) (.a .C .I)) (.e .A .C)):=L.li
def W7:L.F.D [a,b,c] (.i (.e (.a .I (.X .A .B)) (.a .C .I)) (.e .B .C)):=L.li
def W8{a b:S}:a+(2*(b+1))<1000->a+2<1000:=L.cj 2 3 (.i (.l (.a .A (.m 2 (.a .B .I))) .K) (.l (.a .A .J) .K)) [a,b] [] (by kernel_rfl)
def W9{a b:S}:a+(2*(b+1))<1000->(a+2)+(2*b)<1000:=L.cj 2 3 (.i (.l (.a .A (.m 2 (.a .B .I))) .K) (.l (.a (.a .A .J) (.m 2 .B)) .K)) [a,b] [] (by kernel_rfl)
def Xa:L.F.D [a,b] (.i (.l (.a .A (.a .B .I)) (.c 90)) (.l .A (.c 100))):=L.li
def MB:L.F.D [a] (.f (.Q (.t .A) .H) (.q .A .H)):=L.li
def Xb:L.F.D [a,b] (.e (.s .A .B) .A):=L.li
def Xc{a b:S}:a+(2*(b+1))=(a+2)+(2*b):=L.cj 2 3 (.q (.a .A (.m 2 (.a .B .I))) (.a (.a .A .J) (.m 2 .B))) [a,b] [] (by kernel_rfl)
def Xd:L.F.D [a,b] (.i (.l .A .K) (.i (.e .B .A) (.l .B .R))):=L.li
def Xe:L.F.D [a,b] (.i (.l .A .K) (.i (.e .B .A) (.l .B .K))):=L.li
def Xg:L.F.D [a,b] (.i (.e (.a .I (.X .A .B)) .O) .no):=L.li
def Xh{a:S}:(3:T)<(a:T)->3<a:=L.cj 1 1 (.i (.L (.c 3) (.t .A)) (.l (.c 3) .A)) [a] [] (by kernel_rfl)
def Xi{a:S}:3<a->(3:T)<(a:T):=L.cj 1 1 (.i (.l (.c 3) .A) (.L (.c 3) (.t .A))) [a] [] (by kernel_rfl)
def Xj{a b:S}:a<=2*b->a+1<=2*(b+1):=L.cj 2 3 (.i (.e .A (.m 2 .B)) (.e (.a .A .I) (.m 2 (.a .B .I)))) [a,b] [] (by kernel_rfl)
def Xk{a b:S}:a<=2*b->(a+1)+1<=2*(b+1):=L.cj 2 3 (.i (.e .A (.m 2 .B)) (.e (.a (.a .A .I) .I) (.m 2 (.a .B .I)))) [a,b] [] (by kernel_rfl)
def Xl:L.F.D [a] (.i (.l .A (.c 5)) (.L (.t .A) (.c 5))):=L.li
def Xm:L.F.D [a,b,c] (.i (.l .A .B) (.i (.l .B (.a .C .I)) (.l .A .C))):=L.li
def Xn:L.F.D [a,b,c] (.i (.l .A (.a .B .I)) (.i (.l (.a .C (.a .B .I)) .K) (.l (.a (.a .C .I) .A) .K))):=L.li
def Xo{a b c:S}:a+(2*(b+1))<1000->c<=2->a+c<=1048576:=L.cj 3 5 (.i (.l (.a .A (.m 2 (.a .B .I))) .K) (.i (.e .C .J) (.e (.a .A .C) .P))) [a,b,c] [] (by kernel_rfl)
def MC:L.F.D [a,b,c] (.i (.e (.a .A .I) .B) (.i (.e .C .A) (.e .C (.a .B .I)))):=L.li
def MD:L.F.D [a,b,c,d] (.i (.e (.a .A .I) .B) (.i (.e (.a .C .I) .A) (.i (.e .D .C) (.e .D (.a .B .I))))):=L.li
def Xp{a b c:S}:a+(2*(b+1))<1000->c<=2->(a+c)+(2*b)<1000:=L.cj 3 5 (.i (.l (.a .A (.m 2 (.a .B .I))) .K) (.i (.e .C .J) (.l (.a (.a .A .C) (.m 2 .B)) .K))) [a,b,c] [] (by kernel_rfl)
def afp:L.F.D [a] (.q (.X .O .A) .A):=L.li
def Xq:L.F.D [a,b,c] (.i (.l .A (.c 900)) (.i (.e (.a .B (.m 12 .C)) (.m 12 .A)) (.l (.a (.a .O .J) .B) .Q))):=L.li
def afq:L.F.D [a,b,c] (.i (.l .A .H) (.i (.q .B .O) (.i (.q .C .O) (.e (.a (.X (.a .I .B) .C) .A) .H)))):=L.li
def afr:L.F.D [a] (.i (.l .A (.c 5)) (.o (.q .A .O) (.o (.q .A .I) (.o (.q .A .J) (.o (.q .A (.c 3)) (.q .A .H)))))):=L.li
def afs:L.F.D [a,b,c] (.i (.i (.n (.q .A .O)) (.e (.a .A .B) .H)) (.i (.q .C .O) (.i (.n (.q .A .O)) (.e (.a (.X (.a .I .C) .A) .B) .H)))):=L.li
def Xr:L.F.den [b] [a] (.i (.n (.k (.k (.E (.c 18) .A) (.L .A (.c 21))) (.l (.c 3) .A))) (.i (.k (.E (.c 18) .A) (.L .A (.c 21))) (.l .A .H))):=L.li
def Xs:L.F.D [a] (.i (.n (.l .A (.c 5))) (.n (.L (.t .A) (.c 5)))):=L.li
def afu:L.F.D [a,b,c] (.i (.i (.n (.q .A .O)) (.e (.a .A (.a .B .I)) .H)) (.i (.n (.q .A .O)) (.i (.q .C .O) (.e (.a (.X (.a .I .A) .C) .B) .H)))):=L.li
def Xu:L.F.D [a] (.i (.l .A (.c 8)) (.L (.t .A) (.c 8))):=L.li
def afv:L.F.D [a,b,c] (.i (.i (.n (.q .A .O)) (.e (.a .A (.a .B .I)) .H)) (.i (.i (.n (.q .C .O)) (.e (.a .C .B) .H)) (.i (.n (.q .C .O)) (.e (.a (.X (.a .I .A) .C) .B) .H)))):=L.li
def afw:L.F.D [a] (.i (.n (.L (.t .A) (.c 5))) (.i (.l .A (.c 8)) (.o (.q .A (.c 5)) (.o (.q .A (.c 6)) (.q .A (.c 7)))))):=L.li
def Xv:L.F.D [a] (.i (.l .A .H) (.l .A .P)):=L.li
def afx:L.F.D [a,b,c,d] (.i (.l .A .H) (.i (.q .B .O) (.i (.q .C .O) (.i (.q .D .O) (.e (.a (.X (.a .I (.X .B .D)) .C) .A) .H))))):=L.li
def Xw:L.F.D [a] (.i (.n (.l .A (.c 8))) (.n (.L (.t .A) (.c 8)))):=L.li
theorem MF{a:S}:((xn (((a:T) - 1) - (-1))):S)=a:=L.cj 1 1 (.q (.N (.s (.s (.t .A) .I) (.g .I))) .A) [a] [] (by kernel_rfl)
def Xx:L.F.D [a,b] (.Q (.s (.s (.t (.a .A .I)) .I) (.t (.a .B .I))) (.s (.s (.t .A) .I) (.t .B))):=L.li
def afy:L.F.D [a,b,c,d] (.i (.i (.n (.q .A .O)) (.e (.a .A (.a .B .I)) .H)) (.i (.q .C .O) (.i (.q .D .O) (.i (.n (.q .A .O)) (.e (.a (.X (.a .I (.X .C .A)) .D) .B) .H))))):=L.li
def Xy:L.F.D [a] (.i (.l .A .J) (.o (.q .A .O) (.q .A .I))):=L.li
def Xz:L.F.D [a] (.Q (.s (.s (.t (.a .A .I)) .I) (.t .O)) (.t .A)):=L.li
def XA:L.F.D [a] (.i (.l .A (.c 12)) (.L (.t .A) (.c 12))):=L.li
def afz:L.F.D [a,b,c,d] (.i (.i (.n (.q .A .O)) (.e (.a .A .B) .H)) (.i (.q .C .O) (.i (.n (.q .A .O)) (.i (.q .D .O) (.e (.a (.X (.a .I (.X .C .D)) .A) .B) .H))))):=L.li
def XB{a:T}:(0:T)<=a->a<=1000->(((-1048576):T)<=a)/\(a<=1048576):=L.cj 0 2 (.i (.E .O .A) (.i (.E .A .K) (.k (.E (.g .P) .A) (.E .A .P)))) [] [a] (by kernel_rfl)
def XC{a:S}:(0:T)<=0+(a:T):=L.cj 1 1 (.E .O (.a .O (.t .A))) [a] [] (by kernel_rfl)
def afA:L.F.D [a] (.i (.n (.L (.t .A) (.c 8))) (.i (.l .A (.c 12)) (.o (.q .A (.c 8)) (.o (.q .A (.c 9)) (.o (.q .A (.c 10)) (.q .A (.c 11))))))):=L.li
def afB:L.F.D [a,b,c,d] (.i (.i (.n (.q .A .O)) (.e (.a .A (.a .B .I)) .H)) (.i (.i (.n (.q .C .O)) (.e (.a .C .B) .H)) (.i (.q .D .O) (.i (.n (.q .A .O)) (.e (.a (.X (.a .I (.X .D .A)) .C) .B) .H))))):=L.li
def XD{a:S}:(0:T)<=(max 5 (min 12 ((a:T) - 1))):=L.cj 1 1 (.E .O (.X (.c 5) (.M (.c 12) (.s (.t .A) .I)))) [a] [] (by kernel_rfl)
def XE{a:S}:max 5 (min 12 ((a:T) - 1))<=1000:=L.cj 1 1 (.E (.X (.c 5) (.M (.c 12) (.s (.t .A) .I))) .K) [a] [] (by kernel_rfl)
def XF:L.F.D [a] (.i (.n (.l .A (.c 12))) (.n (.L (.t .A) (.c 12)))):=L.li
def XG{a b:S}:a=(xn (max 5 (min 12 ((b:T) - 1))))->0+(2*a)<1000:=L.cj 2 3 (.i (.q .A (.N (.X (.c 5) (.M (.c 12) (.s (.t .B) .I))))) (.l (.a .O (.m 2 .A)) .K)) [a,b] [] (by kernel_rfl)
def XH{a:S}:(0:T)<=(a:T)+1:=L.cj 1 1 (.E .O (.a (.t .A) .I)) [a] [] (by kernel_rfl)
def afC:L.F.D [a,b,c,d] (.i (.i (.n (.q .A .O)) (.e (.a .A (.a .B .I)) .H)) (.i (.n (.q .A .O)) (.i (.q .C .O) (.i (.q .D .O) (.e (.a (.X (.a .I (.X .A .D)) .C) .B) .H))))):=L.li
def XI{a:S}:a<=4->(a:T)+1<=1000:=L.cj 1 1 (.i (.e .A .H) (.E (.a (.t .A) .I) .K)) [a] [] (by kernel_rfl)
def XJ:L.F.D [a] (.i (.l .A (.c 15)) (.L (.t .A) (.c 15))):=L.li
def XK{a:S}:((xn ((a:T)+1)):S)=a+1:=L.cj 1 1 (.q (.N (.a (.t .A) .I)) (.a .A .I)) [a] [] (by kernel_rfl)
def XM{a b c d:S}:a=(xn (max 5 (min 12 ((b:T) - 1))))->c<=0+(2*a)->d<=4->c+(2*(d+1))<1000:=L.cj 4 7 (.i (.q .A (.N (.X (.c 5) (.M (.c 12) (.s (.t .B) .I))))) (.i (.e .C (.a .O (.m 2 .A))) (.i (.e .D .H) (.l (.a .C (.m 2 (.a .D .I))) .K)))) [a,b,c,d] [] (by kernel_rfl)
def afD:L.F.D [a] (.i (.n (.L (.t .A) (.c 12))) (.i (.l .A (.c 15)) (.o (.q .A (.c 12)) (.o (.q .A (.c 13)) (.q .A (.c 14)))))):=L.li
def afE:L.F.D [a,b,c,d] (.i (.i (.n (.q .A .O)) (.e (.a .A (.a .B .I)) .H)) (.i (.i (.n (.q .C .O)) (.e (.a .C (.a .B .I)) .H)) (.i (.q .D .O) (.i (.n (.q .C .O)) (.e (.a (.X (.a .I (.X .A .C)) .D) .B) .H))))):=L.li
def XN:L.F.D [a] (.i (.n (.l .A (.c 15))) (.n (.L (.t .A) (.c 15)))):=L.li
def XO:L.F.D [a,b] (.i (.l .A .B) (.L .O (.t .B))):=L.li
def afF:L.F.D [a,b,c,d] (.i (.i (.n (.q .A .O)) (.e (.a .A (.a .B .I)) .H)) (.i (.i (.n (.q .C .O)) (.e (.a .C .B) .H)) (.i (.n (.q .C .O)) (.i (.q .D .O) (.e (.a (.X (.a .I (.X .A .D)) .C) .B) .H))))):=L.li
def XQ:L.F.D [a] (.i (.l .A (.c 18)) (.L (.t .A) (.c 18))):=L.li
def afG:L.F.D [a,b,c,d] (.i (.i (.n (.q .A .O)) (.e (.a .A (.a .B .I)) .H)) (.i (.i (.n (.q .C .O)) (.e (.a .C (.a .B .I)) .H)) (.i (.i (.n (.q .D .O)) (.e (.a .D .B) .H)) (.i (.n (.q .C .O)) (.e (.a (.X (.a .I (.X .A .C)) .D) .B) .H))))):=L.li
def XR:L.F.D [a] (.i (.n (.L (.t .A) (.c 15))) (.i (.l .A (.c 18)) (.o (.q .A (.c 15)) (.o (.q .A (.c 16)) (.q .A (.c 17)))))):=L.li
def XS:L.F.D [a] (.i (.n (.l .A (.c 18))) (.n (.L (.t .A) (.c 18)))):=L.li
def XU:L.F.D [a] (.i (.l .A (.c 21)) (.L (.t .A) (.c 21))):=L.li
def XW:L.F.D [a] (.i (.l .A (.c 100)) (.k (.E (.g .P) (.s (.t .A) .I)) (.E (.s (.t .A) .I) .P))):=L.li
def XX:L.F.D [a] (.i (.n (.L (.t .A) (.c 18))) (.i (.l .A (.c 21)) (.o (.q .A (.c 18)) (.o (.q .A (.c 19)) (.q .A (.c 20)))))):=L.li
def XY:L.F.D [a] (.i (.n (.l .A (.c 21))) (.n (.L (.t .A) (.c 21)))):=L.li
def XZ:L.F.D [a] (.i (.n (.l .A (.c 21))) (.n (.k (.E (.c 18) (.t .A)) (.L (.t .A) (.c 21))))):=L.li
def X0:L.F.D [a] (.e (.s .A .I) (.a .A .I)):=L.li
def MG:L.F.D [a,b,c] (.i (.l (.a .A (.a .B .I)) .K) (.i (.e .C (.a .A .I)) (.l (.a .C .B) .K))):=L.li
def MH:L.F.D [a,b,c,d] (.i (.e .A (.a .B .I)) (.i (.e .C (.a .A .D)) (.e .C (.a .B (.a .D .I))))):=L.li
def X1:L.F.D [a,b] (.i (.l (.a .A .B) (.c 10000)) (.e (.a .A .B) .P)):=L.li
def X2:L.F.D [a,b,c] (.i (.l (.a .A (.m 4 (.a .B .I))) (.c 5000)) (.i (.e .C .J) (.l (.a .A .C) (.c 10000)))):=L.li
def X3:L.F.D [a,b,c] (.i (.l (.a .A (.m 4 (.a .B .I))) (.c 5000)) (.i (.e .C .J) (.l (.a (.a .A .C) .J) (.c 10000)))):=L.li
def X4:L.F.D [a] (.i (.l .A (.c 900)) (.l (.a .I .A) .K)):=L.li
def X5:L.F.D [a] (.i (.l .A (.c 900)) (.l (.a .O .A) .K)):=L.li
def X6:L.F.D [a,b,c] (.i (.l (.a .A (.m 4 (.a .B .I))) (.c 5000)) (.i (.e .C .J) (.l (.a (.a (.a .A .C) .J) (.m 4 .B)) (.c 5000)))):=L.li
def X7:L.F.D [a,b,c] (.i (.e .A (.m 4 .B)) (.i (.e .C .J) (.e (.a (.a .C .J) .A) (.m 4 (.a .B .I))))):=L.li
def X8:L.F.D [a,b,c] (.i (.l .A .R) (.i (.e (.a .B .C) .A) (.l .B .R))):=L.li
def X9{a b:S}:((a:T)=(b:T))↔(a=b):=L.cj 2 3 (.f (.Q (.t .A) (.t .B)) (.q .A .B)) [a,b] [] (by kernel_rfl)
def Yb:L.F.D [a,b] (.i (.l .O .A) (.n (.Q (.t (.a .A .B)) (.t .B)))):=L.li
def Yc:L.F.D [a,b] (.e (.M .A .B) .B):=L.li
def Yd:L.F.D [a,b] (.i (.l .A (.c 100)) (.i (.e .B .A) (.l (.a .O .B) .K))):=L.li
def Ye:L.F.D [a] (.E .O (.t .A)):=L.li
def MJ:L.F.D [a] (.i (.l .A (.c 100)) (.e .A .P)):=L.li
def Yg:L.F.D [a,b] (.i (.l .A (.c 100)) (.i (.e .B .A) (.l (.a .B .I) (.c 10000)))):=L.li
def Yh:L.F.D [a,b,c] (.i (.e .A .B) (.i (.l .B .R) (.i (.q .C .A) (.l .C .P)))):=L.li
def Yi:L.F.D [a,b,c,d] (.i (.l .A (.c 100)) (.i (.e .B .A) (.i (.e .C (.a .O .B)) (.i (.e .D (.a .A .I)) (.l (.a .D (.m 4 .C)) (.c 5000)))))):=L.li
def Yj:L.F.D [a,b,c,d,e] (.i (.l .A (.c 100)) (.i (.e .B .A) (.i (.e .C (.a .O .B)) (.i (.e .D (.a .A .I)) (.i (.e .F (.m 4 .C)) (.l (.a (.a .D .F) .I) (.c 10000))))))):=L.li
def Yk:L.F.D [a,b] (.i (.e .A .B) (.i (.n (.q .A .B)) (.i (.q (.s .B .A) .O) .no))):=L.li
def Yl:L.F.D [a] (.L .O (.t (.a .A .I))):=L.li
def Ym:L.F.den [] [a] (.i (.k (.E .O .A) (.L .A (.c 5))) (.o (.Q .A (.g (.c 64))) (.o (.Q .A (.g .I)) (.o (.Q .A (.g .J)) (.o (.Q .A (.g (.c 16))) (.o (.Q .A .O) (.o (.Q .A .I) (.o (.Q .A .J) (.o (.Q .A (.c 3)) (.Q .A .H)))))))))):=L.li
def MK:L.F.D [a] (.i (.l .A (.c 100)) (.l .A (.c 900))):=L.li
def Yn:L.F.D [a,b,c,d] (.i (.l .A (.c 100)) (.i (.e .B (.m 4 .C)) (.i (.e .C (.a .O (.M .D .A))) (.l (.a (.a (.a (.M .D .A) .I) .B) .I) (.c 900))))):=L.li
def Yo:L.F.den [] [a] (.i (.o (.Q .A (.g .I)) (.o (.Q .A (.g .J)) (.Q .A (.g (.c 17))))) (.o (.Q .A (.g .I)) (.o (.Q .A (.g .J)) (.o (.Q .A (.g (.c 16))) (.Q .A (.g (.c 17))))))):=L.li
def Yp:L.F.D [a] (.i (.l (.a .A .H) .R) (.l (.a .A .J) .R)):=L.li
def Yq:L.F.D [a] (.i (.l (.a .A .H) .R) (.l (.a (.a .A .J) .J) .R)):=L.li
def Yr:L.F.D [a] (.e (.a (.a .A .J) .J) (.a .A .H)):=L.li
def Ys:L.F.D [a] (.i (.e .A .J) (.e (.a .A (.c 3)) .P)):=L.li
def Yt:L.F.D [a,b] (.i (.l (.a .A .J) .R) (.i (.e .B .J) (.l (.a .A .B) .R))):=L.li
def Yu:L.F.D [a,b] (.i (.e .A .J) (.e (.a .B .A) (.a .B .J))):=L.li
def Yv:L.F.D [a,b,c] (.i (.l (.a .A .J) .R) (.i (.e .B .J) (.i (.q .C .B) (.l (.a .A .C) .R)))):=L.li
def Yw:L.F.D [a,b,c] (.i (.e .A .J) (.i (.q .B .A) (.e (.a .C .B) (.a .C .J)))):=L.li
def Yx:L.F.den [] [a] (.i (.E (.c 26) .A) (.n (.E .A (.c 16)))):=L.li
def Yy:L.F.den [] [a] (.i (.E (.c 26) .A) (.n (.Q .A (.c 18)))):=L.li
def Yz:L.F.den [] [a] (.i (.E (.c 69) .A) (.n (.E .A (.c 16)))):=L.li
def YA:L.F.den [] [a] (.i (.E (.c 69) .A) (.n (.Q .A (.c 18)))):=L.li
def YB:L.F.den [] [a] (.i (.E (.c 69) .A) (.E (.c 26) .A)):=L.li
def FW{a b:S}:((a - b):S)>0->1<=a - b:=L.cj 2 3 (.i (.l .O (.s .A .B)) (.e .I (.s .A .B))) [a,b] [] (by kernel_rfl)
def YC:L.F.den [] [a] (.i (.E (.c 69) .A) (.n (.E .A (.c 34)))):=L.li
def YD:L.F.den [] [a] (.i (.E (.c 69) .A) (.n (.Q .A (.c 65)))):=L.li
def YE:L.F.den [] [a] (.i (.E (.c 69) .A) (.n (.Q .A (.c 66)))):=L.li
def YF:L.F.D [a,b] (.i (.e .A .B) (.i (.q (.s .B .A) .O) (.q .B .A))):=L.li
def YG:L.F.den [] [a] (.i (.E (.c 208) .A) (.n (.E .A (.c 16)))):=L.li
def YH:L.F.den [] [a] (.i (.E (.c 208) .A) (.n (.Q .A (.c 18)))):=L.li
def YI:L.F.den [] [a] (.i (.E (.c 208) .A) (.E (.c 26) .A)):=L.li
def YJ:L.F.den [] [a] (.i (.E (.c 208) .A) (.n (.E .A (.c 34)))):=L.li
def YK:L.F.den [] [a] (.i (.E (.c 208) .A) (.n (.Q .A (.c 65)))):=L.li
def YL:L.F.den [] [a] (.i (.E (.c 208) .A) (.n (.Q .A (.c 66)))):=L.li
def YM:L.F.den [] [a] (.i (.E (.c 208) .A) (.E (.c 69) .A)):=L.li
def YN:L.F.den [] [a] (.i (.E (.c 208) .A) (.n (.E .A (.c 196)))):=L.li
def Cy{a b:S}:¬(a<b)->b<=a:=L.cj 2 3 (.i (.n (.l .A .B)) (.e .B .A)) [a,b] [] (by kernel_rfl)
def YO:L.F.D [a,b,c] (.i (.l (.a (.a (.a .A (.m 4 .B)) .J) (.c 120)) .C) (.l (.a (.a (.a .A (.m 4 .B)) .O) (.c 120)) .C)):=L.li
def YQ:L.F.D [a,b,c] (.i (.l (.a (.a (.a .A (.m 200 .B)) (.m 20 .J)) (.c 60)) .C) (.l (.a (.a (.a .A (.m 200 .B)) (.m 20 .O)) (.c 60)) .C)):=L.li
def YR:L.F.den [] [a] (.i (.E (.c 208) .A) (.k (.n (.Q .A (.c 17))) (.n (.Q .A (.c 19))))):=L.li
def YS:L.F.den [] [a] (.i (.E (.c 208) .A) (.E (.c 35) .A)):=L.li
def YT:L.F.den [] [a] (.i (.E (.c 208) .A) (.n (.E .A (.c 38)))):=L.li
def YU:L.F.den [] [a] (.i (.E (.c 208) .A) (.E (.c 39) .A)):=L.li
def YV:L.F.den [] [a] (.i (.E (.c 208) .A) (.n (.E .A (.c 64)))):=L.li
def lJ:L.F.D [a] (.i (.e .A .P) (.e .A (.c 16777216))):=L.li
def YW:L.F.D [a,b,c] (.i (.e .A .B) (.i (.q .A .C) (.e (.s .C .I) .B))):=L.li
def YX:L.F.den [] [a] (.i (.o (.Q .A (.c 12)) (.o (.Q .A (.c 13)) (.Q .A (.c 14)))) (.k (.n (.Q .A .J)) (.k (.n (.Q .A (.c 3))) (.n (.Q .A .H))))):=L.li
def YY:L.F.den [] [a] (.i (.o (.Q .A (.c 12)) (.o (.Q .A (.c 13)) (.Q .A (.c 14)))) (.n (.Q .A .O))):=L.li
def YZ:L.F.D [a,b,c] (.i (.k (.E .O (.t .A)) (.e .B .C)) (.e (.M (.N (.t .A)) .B) .C)):=L.li
def Y0:L.F.den [] [a] (.i (.o (.Q .A (.c 12)) (.o (.Q .A (.c 13)) (.Q .A (.c 14)))) (.n (.Q .A (.c 5)))):=L.li
def Y1:L.F.den [] [a] (.i (.o (.Q .A (.c 12)) (.o (.Q .A (.c 13)) (.Q .A (.c 14)))) (.n (.Q .A (.c 11)))):=L.li
def Y2:L.F.D [a] (.i (.q .O .A) (.i (.k (.l .O .A) (.e .A (.c 15))) .no)):=L.li
def Y3:L.F.D [a,b] (.i (.q .A .B) (.i (.k (.l .O .B) (.e .B (.c 15))) (.e .A (.c 15)))):=L.li
theorem ML{a b:S}:a=b->b<=a:=L.cj 2 3 (.i (.q .A .B) (.e .B .A)) [a,b] [] (by kernel_rfl)
def afH:L.F.D [a] (.i (.q .A (.a .A .J)) .no):=L.li
def Y4:L.F.D [a,b] (.i (.q (.a .A .O) .B) (.q .A .B)):=L.li
def afI:L.F.D [a,b,c] (.i (.q (.a .A .B) .C) (.i (.e .C .A) (.q .B .O))):=L.li
def Y5:L.F.D [a] (.q (.a .O .A) .A):=L.li
def Y6:L.F.D [a] (.n (.l .A .A)):=L.li
def Y7:L.F.D [a,b] (.i (.n (.e .A .B)) (.l .B .A)):=L.li
theorem Y8{a:T}:(a=2)\/((a=3)\/(a=4))->¬(a=0):=L.cj 0 2 (.i (.o (.Q .A .J) (.o (.Q .A (.c 3)) (.Q .A .H))) (.n (.Q .A .O))) [] [a] (by kernel_rfl)
def MM:L.F.D [a,b,c] (.i (.q (.a .A .B) .C) (.i (.l .A .C) (.l (.s .B .I) .B))):=L.li
def MN:L.F.D [a,b,c] (.i (.q (.a .A .B) .C) (.i (.l .A .C) (.q (.a (.a .A .I) (.s .B .I)) .C))):=L.li
def afJ:L.F.D [a,b] (.i (.e .A .B) (.e .A .B)):=L.li
def Y9:L.F.D [a,b] (.i (.e .A .B) (.i (.q .A (.a .B .I)) .no)):=L.li
def Za:L.F.D [a,b,c] (.i (.l (.a (.a (.a .A (.m 4 .B)) .J) (.c 120)) .C) (.l (.a (.a (.a (.a .A .I) (.m 4 .B)) .O) (.c 120)) .C)):=L.li
def Zb:L.F.D [a,b,c] (.i (.q .A .B) (.i (.k (.E .O (.t .C)) (.L (.t .C) (.t .B))) (.L (.t .C) (.t .A)))):=L.li
def Zc:L.F.den [a,b] [c] (.i (.q .A .B) (.i (.k (.L .A .O) (.E .O (.a .A (.t .B)))) (.E (.g (.t .A)) .A))):=L.li
def Zd:L.F.D [a,b,c] (.i (.l (.a (.a (.a .A (.m 200 .B)) (.m 20 .J)) (.c 60)) .C) (.l (.a (.a (.a (.a .A .I) (.m 200 .B)) (.m 20 .O)) (.c 60)) .C)):=L.li
def Ze:L.F.D [a,b,c] (.i (.q (.a .A .B) .C) (.i (.e .C .A) (.q .A .C))):=L.li
def Zf:L.F.D [a] (.i (.l .A (.c 20)) (.l .A (.c 30))):=L.li
def Zg:L.F.den [] [a,b] (.i (.L .B .A) (.Q (.a (.s (.s .A .B) .I) .I) (.t (.N (.s .A .B))))):=L.li
def Zh:L.F.den [] [a,b] (.i (.n (.L .B .A)) (.Q .O (.t (.N (.s .A .B))))):=L.li
def afK:L.F.den [] [a,b] (.i (.L .A .B) (.Q (.s .B .A) (.t (.N (.s .B .A))))):=L.li
def afL:L.F.den [] [a,b] (.i (.n (.L .A .B)) (.Q .O (.t (.N (.s .B .A))))):=L.li
def Zi:L.F.D [a,b] (.i (.e .A (.a .B .I)) (.e (.a .A .I) (.a (.a .B .I) .I))):=L.li
def MO:L.F.den [b] [a] (.Q (.s .A (.t .A)) (.a .A (.g (.t .A)))):=L.li
def MQ:L.F.D [a,b,c] (.i (.l (.a (.a (.a .A (.m 4 (.a .B .I))) .O) (.c 120)) .C) (.l .A .C)):=L.li
def Zj:L.F.D [a,b,c] (.i (.l (.a (.a (.a .A (.m 4 (.a .B .I))) .O) (.c 120)) .C) (.l (.a (.a (.a (.a .A .I) (.m 4 .B)) .J) (.c 120)) .C)):=L.li
def Zk:L.F.D [a,b,c] (.i (.l (.a (.a (.a .A (.m 200 (.a .B .I))) (.m 20 .O)) (.c 60)) .C) (.l (.a (.a (.a (.a .A (.c 3)) (.m 200 .B)) (.m 20 .J)) (.c 60)) .C)):=L.li
def Zl:L.F.D [a,b,c,d] (.i (.l (.a (.a (.a .A (.m 200 .B)) (.m 20 .C)) (.c 60)) .D) (.l .A .D)):=L.li
def Zm:L.F.D [a,b,c,d] (.i (.l (.a (.a (.a .A (.m 4 .B)) .C) (.c 120)) .D) (.l (.a .A (.c 100)) .D)):=L.li
def Zn:L.F.D [a,b] (.i (.l (.a .A .I) .B) (.l .A .B)):=L.li
def Zo:L.F.D [a,b,c] (.i (.l (.a (.a (.a .A (.m 4 .B)) .J) (.c 120)) .C) (.l (.a (.a .A .I) .I) .C)):=L.li
def MR:L.F.den [] [a] (.i (.L .O .A) (.n (.Q .A .O))):=L.li
def Zp:L.F.den [] [a] (.i (.k (.E .O .A) (.E .A (.t .P))) (.k (.E (.g (.c 9223372036854775808)) .A) (.L .A (.c 9223372036854775808)))):=L.li
def Zq:L.F.den [] [a] (.i (.k (.E .O .A) (.E .A (.t .P))) (.E .A (.c 1152921504606846975))):=L.li
def Zr:L.F.den [] [a] (.i (.k (.E .O .A) (.E .A (.t .P))) (.E .A (.c 16777216))):=L.li
def Zs:L.F.den [] [a] (.i (.k (.E .O .A) (.E .A (.t .P))) (.e (.N .A) .P)):=L.li
def Zt:L.F.D [a,b] (.i (.e .A (.a .B .I)) (.e .A (.a .B .I))):=L.li
def Zu:L.F.D [a,b] (.i (.L (.t .A) (.t .B)) (.l .A .B)):=L.li
def Zv:L.F.D [a,b] (.i (.l .A (.c 100)) (.i (.e .B (.a .A .I)) (.e .B (.c 200)))):=L.li
def Zw:L.F.D [a] (.i (.e .A (.c 200)) (.e .A (.a (.c 16777216) .I))):=L.li
def Zx:L.F.D [a,b] (.i (.e .A (.c 100)) (.i (.e .B (.a .A .I)) (.e .B (.a (.c 16777216) .I)))):=L.li
def MT:L.F.den [] [a] (.i (.E .O .A) (.n (.L .A .O))):=L.li
def Zy{b:S}{a:T}:xn a<b->¬(a<0)->((0:T)<=a)/\(a<(b:T)):=L.cj 1 2 (.i (.l (.N .A) .A) (.i (.n (.L .A .O)) (.k (.E .O .A) (.L .A (.t .A))))) [b] [a] (by kernel_rfl)
def Zz:L.F.den [b] [a] (.i (.l (.N (.a .A (.t .A))) .A) (.L .A .O)):=L.li
def ZA{b:S}{a:T}:(0:T)<=a+(b:T)->a<0->((0:T)<=(a+(b:T)))/\(((a+(b:T)):T)<(b:T)):=L.cj 1 2 (.i (.E .O (.a .A (.t .A))) (.i (.L .A .O) (.k (.E .O (.a .A (.t .A))) (.L (.a .A (.t .A)) (.t .A))))) [b] [a] (by kernel_rfl)
def ZC:L.F.den [b] [a] (.i (.E .O .A) (.i (.l (.N .A) .A) (.k (.E (.g (.t .A)) .A) (.L .A (.t .A))))):=L.li
def ZD:L.F.den [b] [a] (.i (.E .O (.a .A (.t .A))) (.i (.l (.N (.a .A (.t .A))) .A) (.k (.E (.g (.t .A)) .A) (.L .A (.t .A))))):=L.li
def ZE:L.F.den [] [a] (.i (.n (.E .O .A)) (.L .A .O)):=L.li
def ZF:L.F.den [a] [b] (.i (.k (.E (.g (.t .A)) .A) (.L .A (.t .A))) (.E (.g (.t .A)) .A)):=L.li
def ZG:L.F.den [] [a] (.i (.o (.Q .A (.g .I)) (.o (.Q .A (.g .J)) (.o (.Q .A (.g (.c 16))) (.Q .A (.g (.c 17)))))) (.n (.Q .A .O))):=L.li
def ZH:L.F.D [a,b,c] (.i (.q (.a .A .B) (.a .A .C)) (.q .B .C)):=L.li
def ZI:L.F.den [] [a,b] (.i (.k (.n (.Q .A .B)) (.k (.n (.Q .A .O)) (.n (.Q .B .O)))) (.i (.o (.Q .A .O) (.Q .A .B)) .no)):=L.li
def ZJ:L.F.D [a,b,c] (.i (.l .A .B) (.k (.e .C (.a .C .A)) (.l (.a .C .A) (.a .C .B)))):=L.li
def ZK:L.F.D [a,b,c] (.i (.l .A .B) (.l .A (.a .B .C))):=L.li
def ZL:L.F.den [] [a,b] (.i (.n (.Q .A .O)) (.i (.n (.k (.n (.Q .B .A)) (.k (.n (.Q .B .O)) (.n (.Q .A .O))))) (.o (.Q .B .O) (.Q .B .A)))):=L.li
def FX:L.F.D [a,b] (.i (.l .A .B) (.i (.e .B .A) .no)):=L.li
def ZM:L.F.D [a,b,c] (.i (.e .A .B) (.i (.l .B .A) (.n (.q .B .C)))):=L.li
def ZN:L.F.D [a,b,c] (.i (.q .A .B) (.i (.e .C .A) (.i (.l .B .C) .no))):=L.li
def MU:L.F.D [a,b] (.i (.e (.a .A (.a .B .I)) .I) (.i (.l .O .B) .no)):=L.li
def ZO:L.F.den [b] [a] (.i (.L .A .O) (.i (.E (.g (.t .A)) .A) (.l (.N (.a .A (.t .A))) .A))):=L.li
def FY:L.F.D [a,b] (.e .A (.a .A .B)):=L.li
def ZP:L.F.D [a,b] (.i (.q .A .B) (.l .A (.a .B .I))):=L.li
def ZQ:L.F.D [a,b] (.i (.l .A .B) (.l .A (.a .B .I))):=L.li
def MV{a b:S}:¬(a<=b)->b<=a:=L.cj 2 3 (.i (.n (.e .A .B)) (.e .B .A)) [a,b] [] (by kernel_rfl)
def afM:L.F.den [] [a,b] (.i (.Q .A .B) (.o (.Q .A .O) (.Q .A .B))):=L.li
theorem ZR{a b c:S}:a<b->c=b->(b - 1) - a<c:=L.cj 3 5 (.i (.l .A .B) (.i (.q .C .B) (.l (.s (.s .B .I) .A) .C))) [a,b,c] [] (by kernel_rfl)
def afN:L.F.den [] [a,b,c,d] (.i (.k (.Q .A .B) (.Q .B .C)) (.i (.Q .D .A) (.o (.Q .D .O) (.Q .D .B)))):=L.li
def afO:L.F.den [] [a,b,c,d] (.i (.k (.Q .A .B) (.Q .B .C)) (.i (.Q .D .A) (.o (.Q .D .O) (.Q .D .C)))):=L.li
def ZS:L.F.D [a,b] (.i (.o (.q .A (.a .B .I)) (.o (.q .A .B) (.q .A .B))) (.e .B .A)):=L.li
def MW:L.F.den [] [a,b] (.i (.n (.k (.n (.Q .A .B)) (.k (.n (.Q .A .O)) (.n (.Q .B .O))))) (.o (.Q .A .O) (.o (.Q .B .O) (.Q .A .B)))):=L.li
def ZT:L.F.D [a,b,c] (.e .A (.a (.a .A .B) .C)):=L.li
def MX{a b c d:T}:(a=0)\/(a=b)->(a=0)\/(a=c)->(a=0)\/(a=d)->¬(a=0)->(b=c)/\(c=d):=L.cj 0 8 (.i (.o (.Q .A .O) (.Q .A .B)) (.i (.o (.Q .A .O) (.Q .A .C)) (.i (.o (.Q .A .O) (.Q .A .D)) (.i (.n (.Q .A .O)) (.k (.Q .B .C) (.Q .C .D)))))) [] [a,b,c,d] (by kernel_rfl)
def ZU:L.F.den [] [a,b,c,d] (.i (.o (.Q .A .O) (.Q .A .B)) (.i (.n (.Q .A .O)) (.i (.k (.Q .C .D) (.Q .D .B)) (.Q .A .C)))):=L.li
def ZV{a b c:S}:a=b->b=c->¬(a≠c):=L.cj 3 5 (.i (.q .A .B) (.i (.q .B .C) (.n (.n (.q .A .C))))) [a,b,c] [] (by kernel_rfl)
def ZW:L.F.den [] [a,b] (.i (.o (.Q .A .O) (.o (.Q .B .O) (.Q .A .B))) (.i (.n (.Q .B .O)) (.i (.n (.Q .A .O)) (.Q .A .B)))):=L.li
theorem ZX{a b c:S}:a=b->b=c->c=a:=L.cj 3 5 (.i (.q .A .B) (.i (.q .B .C) (.q .C .A))) [a,b,c] [] (by kernel_rfl)
def ZY:L.F.D [a,b] (.i (.q .A .B) (.n (.n (.q .A .B)))):=L.li
def ZZ:L.F.den [] [a,b,c] (.f (.k (.Q .A .B) (.Q .C .B)) (.k (.Q .B .A) (.Q .A .C))):=L.li
def Z0:L.F.D [a,b,c] (.i (.n (.k (.q .A .B) (.q .B .C))) (.o (.n (.q .B .A)) (.n (.q .C .A)))):=L.li
def Z1:L.F.D [a,b,c] (.i (.n (.k (.q .A .B) (.q .B .C))) (.i (.n (.n (.q .A .C))) (.i (.n (.n (.q .B .C))) .no))):=L.li
theorem afP{a:T}(b:((a:T)<0)):(((-a):T)=(((T.natAbs a):S):T)):=(NN (o8 b)).symm
theorem afQ{a:T}(b:(¬((a:T)<0))):((a:T)=(((T.natAbs a):S):T)):=(QV (uB.mp b)).symm
def FZ:L.F.D [a,b,c] (.i (.e .A .B) (.i (.e (.a .C .I) .A) (.e .C .B))):=L.li
def afR:L.F.den [] [a] (.Q .A .A):=L.li
def afS:L.F.den [] [a,b] (.i (.E .A .B) (.i (.n (.L .A .B)) (.Q .B .A))):=L.li
def afT:L.F.den [] [a,b] (.i (.n (.E .A .B)) (.i (.L .A .B) (.Q .A .B))):=L.li
def afU:L.F.den [] [a,b] (.i (.E .A .B) (.i (.L .B .A) (.Q .A .B))):=L.li
def afV:L.F.den [] [a,b] (.i (.n (.E .A .B)) (.i (.n (.L .B .A)) (.Q .B .A))):=L.li
def Z2:L.F.D [a,b,c] (.i (.e (.a .A (.a .O .I)) .B) (.i (.e .C (.a .A (.a .O .I))) (.e .C .B))):=L.li
def afW{a:S}:2<6+a:=L.cj 1 1 (.l .J (.a (.c 6) .A)) [a] [] (by kernel_rfl)
def Z3:L.F.D [a,b] (.q (.a (.a .A .B) .I) (.a .A (.a .B .I))):=L.li
def Z4:L.F.den [a,b,c,e] [d] (.i (.q .A (.a .B .C)) (.Q (.a (.a (.t .A) .A) (.s (.t .D) (.t .C))) (.a (.t (.a .D .B)) .A))):=L.li
def Z5:L.F.D [a,b] (.i (.l .A .B) (.i (.q (.s .B .A) .O) .no)):=L.li
def Z6:L.F.den [a,b,c] [d] (.i (.q .A (.a .B (.a .C .I))) (.Q (.s (.s (.a (.t .A) .A) (.t .C)) .I) (.a (.t .B) .A))):=L.li
def Z7:L.F.den [a,b,c,d] [e] (.i (.q .A (.a .B .I)) (.i (.q .B (.a .C .D)) (.Q (.a (.a (.t .A) .A) (.g .I)) (.a (.t (.a .D .C)) .A)))):=L.li
def Z8:L.F.den [a,b,c] [d] (.i (.q .A (.a .B .C)) (.Q (.s (.s (.a (.t .A) .A) (.t .C)) .O) (.a (.t .B) .A))):=L.li
def Z9:L.F.den [a,b] [c] (.i (.q .A (.a .B .I)) (.Q (.a (.a (.t .A) .A) (.g .I)) (.a (.t .B) .A))):=L.li
def aaa:L.F.den [a,c] [b] (.Q (.a (.a (.t .A) .A) (.t .B)) (.a (.t .B) (.a (.t .A) .A))):=L.li
def aab{a:S}:¬(a=4)->(a:T)=4->Gl:=L.cj 1 1 (.i (.n (.q .A .H)) (.i (.Q (.t .A) .H) .no)) [a] [] (by kernel_rfl)
def aac:L.F.den [b] [a] (.Q (.a .A (.t .A)) (.a (.t .A) .A)):=L.li
def aad:L.F.den [a,b,c,d] [e] (.i (.q .A (.a .B .I)) (.i (.q .B (.a .C .I)) (.i (.q .C (.a .D .I)) (.Q (.a (.a (.t .A) .A) (.g .J)) (.a (.t (.a .I .D)) .A))))):=L.li
def aae:L.F.den [a,c] [b] (.Q (.a (.a (.t .A) .A) (.t .B)) (.a (.t (.a .B .A)) .A)):=L.li
def aaf:L.F.den [a,b] [c] (.i (.q .A (.a .B .I)) (.Q (.a (.a (.t .A) .A) .O) (.a (.t (.a .I .B)) .A))):=L.li
def aag:L.F.D [a,b] (.i (.l .A .B) (.L .O (.s (.t .B) (.t .A)))):=L.li
def aah:L.F.D [a,b] (.Q (.s (.t .A) (.a (.t .B) .I)) (.s (.s (.t .A) (.t .B)) .I)):=L.li
def aai:L.F.D [a] (.E (.s (.t .A) (.t .A)) .O):=L.li
def MY:L.F.D [a,b] (.i (.Q (.s (.s (.t .A) .I) (.t .B)) (.t (.s (.s .A .I) .B))) (.l (.s (.s .A .I) .B) .A)):=L.li
def aaj:L.F.D [a,b] (.i (.Q (.s (.s (.t .A) .I) (.t .B)) (.t (.s (.s .A .I) .B))) (.Q (.s (.t (.s (.s .A .I) .B)) .I) (.s (.s (.t .A) .I) (.t (.a .B .I))))):=L.li
def aak:L.F.D [a] (.Q (.s (.s (.t .A) .I) (.t .A)) (.g .I)):=L.li
def aal:L.F.D [a,b,c,d] (.i (.e .A .P) (.i (.q .B .C) (.i (.e (.a .D .C) .P) (.e (.a .A .B) (.a (.c 16777216) .I))))):=L.li
def aam:L.F.D [a,b,c] (.i (.i (.n (.q .B .O)) (.e (.a .B (.a .A .I)) .H)) (.i (.i (.n (.q .C .O)) (.e (.a .C .A) .H)) (.i (.l .A .H) (.e (.a (.X (.a .I .B) .C) .A) .H)))):=L.li
def aan:L.F.D [a,b,c,d] (.i (.i (.n (.q .B .O)) (.e (.a .B (.a .A .I)) .H)) (.i (.i (.n (.q .C .O)) (.e (.a .C (.a .A .I)) .H)) (.i (.i (.n (.q .D .O)) (.e (.a .D .A) .H)) (.i (.l .A .H) (.e (.a (.X (.a .I (.X .B .C)) .D) .A) .H))))):=L.li
def afX{a b:S}:a<=b->a<=b+1:=p3
def aao{a b:T}:a<b->b - a=((b - a).toNat:T):=λh=>(yo (md (o8 h))).symm
def aap{a b:T}:¬a<b->0=((b - a).toNat:T):=λh=>cx _ (Rh (T.sub_nonpos_of_le (uB.mp h))).symm
def aaq{a b:T}:max a b=if b>a then b else a:=by
 rw[T.max_def];by_cases h:a<b
 ·rw[dE h,dE (o8 h)]
 ·rw[dm h];by_cases g:a<=b
  ·rw[dE g,T.le_antisymm g (uB.mp h)]
  ·rw[dm g]
def aar{a b:T}:min a b=if b<a then b else a:=by
 rw[T.min_def];by_cases h:b<a
 ·rw[dE h,dm (QU.mpr h)]
 ·rw[dm h,dE (uB.mp h)]
def aas{a:T}:(if a<0 then -a else a)=(a.natAbs:T):=by
 by_cases h:a<0
 ·rw[dE h,NN (o8 h)]
 ·rw[dm h,QV (uB.mp h)]
def aat{n:S}{j:T}:n<=1048576->0<=j+(n:T)->-1048576<=j:=L.cj 1 2 (.i (.e .A .P) (.i (.E .O (.a .A (.t .A))) (.E (.g .P) .A))) [n] [j] (by kernel_rfl)
def aau{a b:T}:a<=1048576->-1048576<=b->((xn (a - b):S):T)<=2097152:=L.cj 0 4 (.i (.E .A .P) (.i (.E (.g .P) .B) (.E (.t (.N (.s .A .B))) (.c 2097152)))) [] [a,b] (by kernel_rfl)
def F3{C x:T}(c:1048576<C)(h:-1048576<=x/\x<=1048576):-C<=x/\x<C:=⟨wd (Tr (o8 c)) h.1,qb h.2 c⟩
def yD{n:S}{C:T}(h:n<=1048576)(c:1048576<C):(n:T)<C:=qb (Og.mpr h) c
def Cz{n:S}{C i:T}(h:n<=1048576)(j:-(n:T)<=i/\i<(n:T))(c:1048576<C):-C<=i/\i<C:=⟨wd (Tr (o8 (yD h c))) j.1,Um j.2 (yD h c)⟩
end Internal
end
noncomputable section
namespace Internal
open PySem
inductive AV where
 | none | bool (b:aS) | int (i:T) | str (s:a7)
 | tup (l:J AV) | lst (l:J AV) | obj (n:S) | ny | exc (why:a7) (fn pl:T)
noncomputable def AV.ctorIdx (x:AV):S:=@AV.casesOn (λ_=>S) x (nat_lit 0) (λ_=>nat_lit 1) (λ_=>nat_lit 2) (λ_=>nat_lit 3) (λ_=>nat_lit 4) (λ_=>nat_lit 5) (λ_=>nat_lit 6) (nat_lit 7) (λ_ _ _=>nat_lit 8)
inductive AO where
 | list (l:J AV)
 | inst (c:a7) (Y:J (a7×AV))
 | dead
noncomputable def AO.ctorIdx (x:AO):S:=@AO.casesOn (λ_=>S) x (λ_=>nat_lit 0) (λ_ _=>nat_lit 1) (nat_lit 2)
noncomputable abbrev Hp:=J AO
noncomputable abbrev Loc:=J (a7×AV)
inductive R (α:Type) where
 | ok (a:α) (H:Hp) | bH (why:a7) (fn pl:T) | bad
noncomputable def R.ctorIdx{e:Type}(x:R e):S:=@R.casesOn e (λ_=>S) x (λ_ _=>nat_lit 0) (λ_ _ _=>nat_lit 1) (nat_lit 2)
@[elab_as_elim] def w5{g:Type}{motive:R g->Prop}(e:R g)(o:∀a H,e=.ok a H->motive (.ok a H))(f:∀w p q,e=.bH w p q->motive (.bH w p q))(b:e=.bad->motive .bad):motive e:=by cases e with | ok a H=>exact o a H Z | bH w p q=>exact f w p q Z | bad=>exact b Z
noncomputable def R.bind{e g:Type}:R e->(e->Hp->R g)->R g
 | .ok a H,k=>k a H
 | .bH w f p,_=>.bH w f p
 | .bad,_=>.bad
inductive ME where
 | lit (v:AV)
 | loc (x:a7)
 | glob (x:a7)
 | attr (e:ME) (f:a7)
 | neg (e:ME)
 | bin (op:oR) (a b:ME)
 | cmp (a:ME) (op:Gm) (b:ME)
 | ef (a:ME) (op:Gm) (b:ME) (dk:Gm) (c:ME)
 | fj (e:ME)
 | not (e:ME)
 | and (es:J ME)
 | or (es:J ME)
 | ite (t a b:ME)
 | tup (es:J ME)
 | list (fz:aS) (es:J ME)
 | kG (ks:J T) (vs:J ME) (i:ME)
 | sub (a i:ME)
 | ik (a:ME)
 | hR (a hi:ME)
 | call (f:a7) (args:J ME)
 | new (c f:a7) (args:J ME)
 | ix (o:ME) (c m f:a7) (args:J ME)
 | il (c m f:a7) (args:J ME)
 | aK (o:ME) (m:a7) (args:J ME)
 | bi (f:a7) (args:J ME)
 | comp (fz:aS) (elt:ME) (x:a7) (iter:ME) (cond:J ME)
 | freeze (e:ME)
noncomputable def ME.ctorIdx (x:ME):Nat:=@ME.casesOn (λ_=>Nat) x (λ_=>nat_lit 0) (λ_=>nat_lit 1) (λ_=>nat_lit 2) (λ_ _=>nat_lit 3) (λ_=>nat_lit 4) (λ_ _ _=>nat_lit 5) (λ_ _ _=>nat_lit 6) (λ_ _ _ _ _=>nat_lit 7) (λ_=>nat_lit 8) (λ_=>nat_lit 9) (λ_=>nat_lit 10) (λ_=>nat_lit 11) (λ_ _ _=>nat_lit 12) (λ_=>nat_lit 13) (λ_ _=>nat_lit 14) (λ_ _ _=>nat_lit 15) (λ_ _=>nat_lit 16) (λ_=>nat_lit 17) (λ_ _=>nat_lit 18) (λ_ _=>nat_lit 19) (λ_ _ _=>nat_lit 20) (λ_ _ _ _ _=>nat_lit 21) (λ_ _ _ _=>nat_lit 22) (λ_ _ _=>nat_lit 23) (λ_ _=>nat_lit 24) (λ_ _ _ _ _=>nat_lit 25) (λ_=>nat_lit 26)
inductive sv where
 | seq (e:ME) | range (es:J ME) | enum (e:ME) | rev (e:ME)
noncomputable def sv.ctorIdx (x:sv):S:=@sv.casesOn (λ_=>S) x (λ_=>nat_lit 0) (λ_=>nat_lit 1) (λ_=>nat_lit 2) (λ_=>nat_lit 3)
inductive pF where
 | one (x:a7) | many (xs:J a7)
noncomputable def pF.ctorIdx (x:pF):S:=@pF.casesOn (λ_=>S) x (λ_=>nat_lit 0) (λ_=>nat_lit 1)
inductive MS where
 | expr (e:ME)
 | ret (e:ME)
 | asg (x:a7) (e:ME)
 | cH (o:ME) (f:a7) (e:ME)
 | gp (o i e:ME)
 | cC (xs:J a7) (e:ME)
 | aug (x:a7) (op:oR) (e:ME)
 | iff (t:ME) (a b:J MS)
 | mv (t:ME) (ax:J MS)
 | cJ (x:pF) (it:sv) (ax:J MS)
 | w6 (e:ME) (nm:a7) (h:J MS)
 | raise
noncomputable def MS.ctorIdx (x:MS):S:=@MS.casesOn (λ_=>S) x (λ_=>nat_lit 0) (λ_=>nat_lit 1) (λ_ _=>nat_lit 2) (λ_ _ _=>nat_lit 3) (λ_ _ _=>nat_lit 4) (λ_ _=>nat_lit 5) (λ_ _ _=>nat_lit 6) (λ_ _ _=>nat_lit 7) (λ_ _=>nat_lit 8) (λ_ _ _=>nat_lit 9) (λ_ _ _=>nat_lit 10) (nat_lit 11)
noncomputable abbrev ME.n (i:T):ME:=.lit (.int i)
noncomputable abbrev ME.S:ME:=.loc "self"
noncomputable abbrev ME.M (m f:a7)(a:J ME):ME:=.ix .S "Checker" m f a
noncomputable abbrev MS.Z (w:a7):MS:=.expr (.M "fail" "StackCheck.fail" [.lit (.str w)])
structure bp where
 params:J a7
 body:J MS
abbrev CS:=a7->J AV->Hp->R AV
noncomputable def put (x:a7)(v:AV):Loc->Loc
 | []=>[(x,v)]
 | (y,w)::r=>if y=x then(y,v)::r else(y,w)::put x v r
theorem uc(x:a7)(v:AV):put x v []=[(x,v)]:=rfl
theorem mw(x:a7)(v:AV)(y:a7)(w:AV)(r:J (a7×AV)):put x v ((y,w)::r)=if y=x then(y,v)::r else(y,w)::put x v r:=rfl
noncomputable def jK:J (a7×AV)->Loc->Loc
 | [],ρ=>ρ
 | (x,v)::r,ρ=>jK r (put x v ρ)
def ac7(x:Loc):jK [] x=x:=Z
def ac8(x:Loc)(a:a7)(v:AV)(r:J (a7×AV)):jK ((a,v)::r) x=jK r (put a v x):=Z
noncomputable def aZ:S:=1048576
noncomputable def b8 (l:J AV)(i:T):aI AV:=
 if 0<=i then l[i.toNat]? else if 0<=i+l.length then l[(i+l.length).toNat]? else Q
noncomputable def D5:AV->AV->aI aS
 | .int i,.int j=>O (eo (i=j))
 | .none,.none=>O X
 | .none,.int _=>O aN
 | .int _,.none=>O aN
 | .str s,.str t=>O (eo (s=t))
 | _,_=>Q
noncomputable def atom:AV->aI (aI T)
 | .none=>O Q
 | .int i=>O (O i)
 | _=>Q
def atoms:J AV->aI (J (aI T))
 | []=>O []
 | x::e=>match atom x,atoms e with
  | some a,O l=>O (a::l)
  | _,_=>Q
theorem vS:atoms []=O []:=rfl
theorem vT(b:AV)(e:J AV):atoms (b::e) =
  match atom b,atoms e with
  | some a,O l=>O (a::l)
  | x,g=>Q:=rfl
noncomputable def intsOf:J AV->aI (J T)
 | []=>O []
 | .int i::e=>(intsOf e).map (i::·)
 | _=>Q
def iX (x:AV)(l:J AV):aI aS:=match x,intsOf l with
 | .int i,O l=>O (eo (i∈l))
 | _,_=>Q
noncomputable def bD (H:Hp):AV->aI (aS×J AV)
 | .lst l=>O (X,l)
 | .tup l=>O (aN,l)
 | .obj n=>match H[n]? with
  | some (.list l)=>O (X,l)
  | _=>Q
 | _=>Q
def fk (H:Hp)(x y:AV):aI aS:=
 match bD H x,bD H y with
 | some (X,a),O (X,b)=>if a.length≠b.length then O aN else(match atoms a,atoms b with
  | some x,O y=>O (eo (x=y))
  | _,_=>Q)
 | some (aN,a),O (aN,b)=>(match atoms a,atoms b with
  | some x,O y=>O (eo (x=y))
  | _,_=>Q)
 | none,Q=>D5 x y
 | _,_=>Q
noncomputable def isNone:AV->aI aS
 | .none=>O X
 | .ny=>Q
 | _=>O aN
noncomputable def bf (H:Hp)(op:Gm)(x y:AV):aI aS:=
 match op with
 | .Eq=>fk H x y
 | .NotEq=>(fk H x y).map (!·)
 | .Lt=>match x,y with | .int i,.int j=>O (eo (i<j)) | _,_=>Q
 | .LtE=>match x,y with | .int i,.int j=>O (eo (i<=j)) | _,_=>Q
 | .Gt=>match x,y with | .int i,.int j=>O (eo (j<i)) | _,_=>Q
 | .GtE=>match x,y with | .int i,.int j=>O (eo (j<=i)) | _,_=>Q
 | .Is=>match y with | .none=>isNone x | _=>Q
 | .IsNot=>match y with | .none=>(isNone x).map (!·) | _=>Q
 | .In=>match bD H y with | some (_,l)=>iX x l | none=>Q
 | .NotIn=>match bD H y with | some (_,l)=>(iX x l).map (!·) | none=>Q
noncomputable def Va (op:oR)(i j:T):aI AV:=
 match op with
 | .Add=>O (.int (i+j))
 | .Sub=>O (.int (i - j))
 | .FloorDiv=>if 0<j then O (.int (i / j)) else Q
 | .Mod=>if 0<j then O (.int (i % j)) else Q
 | .Mult=>if i=7 then O (.int (7*j)) else Q
 | _=>Q
def Vb (op:oR)(a b:J AV):aI (J AV):=
 match op with
 | .Add=>if(a++b).length<=aZ then O (a++b) else Q
 | _=>Q
def mOp (op:oR)(a:J AV)(n:T):aI AV:=
 match op with
 | .Mult=>(match a with
  | [x]=>if 0<=n/\n<=aZ then O (.lst (g5 n.toNat x)) else Q
  | _=>Q)
 | _=>Q
def cK (op:oR)(x y:AV):aI AV:=
 match x with
 | .int i=>(match y with | .int j=>Va op i j | _=>Q)
 | .lst a=>(match y with | .lst b=>(Vb op a b).map .lst | .int n=>mOp op a n | _=>Q)
 | .tup a=>(match y with | .tup b=>(Vb op a b).map .tup | _=>Q)
 | _=>Q
def add_l(h:(a++b).length<=aZ):cK .Add (.lst a) (.lst b)=O (.lst (a++b)):=by
 show(if(a++b).length<=aZ then O (a++b) else Q).map AV.lst=_;rw[dE h];rfl
def di (H:Hp)(x i:AV):aI AV:=
 match i,bD H x with
 | .int i,O (_,l)=>b8 l i
 | _,_=>Q
def gC (H:Hp)(f:a7)(args:J AV):aI AV:=
 match args with
 | [x]=>
  if f="len" then(bD H x).map λp=>.int p.2.length
  else if f="abs" then(match x with | .int i=>O (.int i.natAbs) | _=>Q)
  else if f="list" then(match x with | .lst l=>if l.length<=aZ then O (.lst l) else Q | .tup l=>if l.length<=aZ then O (.lst l) else Q | _=>Q)
  else if f="tuple" then(match x with | .lst l=>if l.length<=aZ then O (.tup l) else Q | .tup l=>if l.length<=aZ then O (.tup l) else Q | _=>Q)
  else Q
 | [.int i,.int j]=>if f="max" then O (.int (max i j)) else if f="min" then O (.int (min i j)) else Q
 | _=>Q
noncomputable def eg (H:Hp)(o:AV)(m:a7)(args:J AV):aI (AV×Hp):=
 match o with
 | .obj n=>match H[n]? with
  | some (.list l)=>
   if m="append" then(match args with
    | [x]=>if l.length<aZ then O (.none,H.set n (.list (l++[x]))) else Q
    | _=>Q)
   else if m="pop" then(match args with
    | []=>match l.getLast? with
     | some x=>O (x,H.set n (.list l.dropLast))
     | none=>Q
    | _=>Q)
   else if m="reverse" then(match args with
    | []=>O (.none,H.set n (.list l.reverse))
    | _=>Q)
   else if m="extend" then(match args with
    | [.lst b]=>if(l++b).length<=aZ then O (.none,H.set n (.list (l++b))) else Q
    | _=>Q)
   else Q
  | _=>Q
 | _=>Q
noncomputable def nA (H:Hp):AV->aI (AV×Hp)
 | .obj n=>match H[n]? with
  | some (.list l)=>O (.lst l,H.set n .dead)
  | _=>Q
 | _=>Q
noncomputable def opt{e:Type}(o:aI e)(H:Hp):R e:=match o with | some a=>.ok a H | none=>.bad
noncomputable def cW (o:aI (AV×Hp)):R AV:=match o with | some (a,H)=>.ok a H | none=>.bad
def eH (e:aS)(l:J AV)(H:Hp):R AV:=
 if l.length<=aZ then(if e then .ok (.lst l) H else .ok (.obj H.length) (H++[.list l])) else .bad
def compLoop (e:AV->Hp->R (aI AV))(n:S):J AV->Hp->R Unit
 | [],H=>.ok () H
 | x::h,H=>match e x H with
  | .ok (O v) g=>match g[n]? with
   | some (.list r)=>if r.length<aZ then compLoop e n h (g.set n (.list (r++[v]))) else .bad
   | _=>.bad
  | .ok Q g=>compLoop e n h g
  | _=>.bad
def Qo(e:AV->Hp->R (aI AV))(n:S)(x:Hp):compLoop e n [] x=R.ok () x:=Z
def ud(e:AV->Hp->R (aI AV))(n:S)(x:Hp)(a:AV)(h:J AV):compLoop e n (a::h) x =
  match e a x with
  | R.ok (O v) g=>
   match g[n]? with
   | some (AO.list r)=>if r.length<aZ then compLoop e n h (J.set g n (AO.list (r++[v]))) else R.bad
   | x=>R.bad
  | R.ok Q g=>compLoop e n h g
  | x=>R.bad:=Z
noncomputable def gP (e:aS)(n:S)(H:Hp):R AV:=if e then cW (nA H (.obj n)) else .ok (.obj n) H
noncomputable def frozen:AV->aI (J AV)
 | .lst l=>O l
 | .tup l=>O l
 | _=>Q
noncomputable def dictAt (e:J T)(vs:J AV)(i:T):aI AV:=match e,vs with
 | k::e,v::vs=>if k=i then O v else dictAt e vs i
 | _,_=>Q
mutual
def ev (G:a7->aI AV)(C:CS):S->ME->Loc->Hp->R AV
 | _,.lit v,_,H=>.ok v H
 | _,.loc x,ρ,H=>opt (ρ.lookup x) H
 | _,.glob x,_,H=>opt (G x) H
 | k,.attr e f,ρ,H=>(ev G C k e ρ H).bind λo H=>match o with
  | .obj n=>match H[n]? with
   | some (.inst _ Y)=>opt (Y.lookup f) H
   | _=>.bad
  | .exc w q L=>if f="why" then .ok (.str w) H else if f="function" then .ok (.int q) H else if f="at" then .ok (.int L) H else .bad
  | _=>.bad
 | k,.neg e,ρ,H=>(ev G C k e ρ H).bind λo H=>match o with
  | .int i=>.ok (.int (-i)) H
  | _=>.bad
 | k,.bin op a b,ρ,H=>(ev G C k a ρ H).bind λx H=>(ev G C k b ρ H).bind λy H=>opt (cK op x y) H
 | k,.cmp a op b,ρ,H=>(ev G C k a ρ H).bind λx H=>(ev G C k b ρ H).bind λy H=>(opt (bf H op x y) H).bind λr H=>.ok (.bool r) H
 | k,.ef a op b W c,ρ,H=>(ev G C k a ρ H).bind λx H=>(ev G C k b ρ H).bind λy H=>(opt (bf H op x y) H).bind λr H=>
  if r then(ev G C k c ρ H).bind λz H=>(opt (bf H W y z) H).bind λr H=>.ok (.bool r) H else .ok (.bool aN) H
 | k,.fj e,ρ,H=>(ev G C k e ρ H).bind λx H=>match x with
  | .int i=>.ok (.bool (eo (i=-1\/i=-2\/i=-16\/i=-17))) H
  | _=>.bad
 | k,.not e,ρ,H=>(ev G C k e ρ H).bind λx H=>match x with
  | .bool b=>.ok (.bool (!b)) H
  | _=>.bad
 | k,.and g,ρ,H=>cX G C k g ρ H
 | k,.or g,ρ,H=>iy G C k g ρ H
 | k,.ite t a b,ρ,H=>(ev G C k t ρ H).bind λx H=>match x with
  | .bool X=>ev G C k a ρ H
  | .bool aN=>ev G C k b ρ H
  | _=>.bad
 | k,.tup g,ρ,H=>(ct G C k g ρ H).bind λl H=>if l.length<=aZ then .ok (.tup l) H else .bad
 | k,.list h g,ρ,H=>(ct G C k g ρ H).bind λl H=>eH h l H
 | k,.kG ks vs i,ρ,H=>(ct G C k vs ρ H).bind λl H=>(ev G C k i ρ H).bind λx H=>match x with
  | .int i=>opt (dictAt ks l i) H
  | _=>.bad
 | k,.sub a i,ρ,H=>(ev G C k a ρ H).bind λx H=>(ev G C k i ρ H).bind λy H=>opt (di H x y) H
 | k,.ik a,ρ,H=>(ev G C k a ρ H).bind λx H=>match x with
  | .tup l=>if 1<=l.length/\l.length<=aZ then .ok (.tup (l.drop 1)) H else .bad
  | _=>.bad
 | k,.hR a hi,ρ,H=>(ev G C k a ρ H).bind λx H=>(ev G C k hi ρ H).bind λy H=>match x,y with
  | .lst l,.int n=>if 0<=n/\l.length<=aZ then .ok (.lst (l.take n.toNat)) H else .bad
  | _,_=>.bad
 | k,.call f args,ρ,H=>(ct G C k args ρ H).bind λl H=>C f l H
 | k,.new c f args,ρ,H=>(ct G C k args ρ H).bind λl H=>match C f (.obj H.length::l) (H++[.inst c []]) with
  | .ok .none j=>.ok (.obj H.length) j
  | _=>.bad
 | k,.ix o c m f args,ρ,H=>(ev G C k o ρ H).bind λx H=>match x with
  | .obj n=>match H[n]? with
   | some (.inst c' Y)=>if c'=c/\Y.lookup m=Q then(ct G C k args ρ H).bind λl H=>C f (.obj n::l) H else .bad
   | _=>.bad
  | _=>.bad
 | k,.il _ _ f args,ρ,H=>(ct G C k args ρ H).bind λl H=>C f l H
 | k,.aK o m args,ρ,H=>(ev G C k o ρ H).bind λx H=>match x with
  | .obj n=>match H[n]? with
   | some (.list _)=>(ct G C k args ρ H).bind λl H=>cW (eg H (.obj n) m l)
   | _=>.bad
  | _=>.bad
 | k,.bi f args,ρ,H=>(ct G C k args ρ H).bind λl H=>opt (gC H f l) H
 | 0,.comp _ _ _ _ _,_,_=>.bad
 | k+1,.comp h p x iter cond,ρ,H=>(ev G C (k+1) iter ρ H).bind λs H=>(opt (frozen s) H).bind λl H=>
  (compLoop (λv H=>(cX G C k cond ((x,v)::ρ) H).bind λb H=>match b with
    | .bool X=>(ev G C k p ((x,v)::ρ) H).bind λr H=>.ok (O r) H
    | .bool aN=>.ok Q H
    | _=>.bad) H.length l (H++[.list []])).bind λjj j=>gP h H.length j
 | k,.freeze e,ρ,H=>(ev G C k e ρ H).bind λx H=>cW (nA H x)
def ct (G:a7->aI AV)(C:CS):S->J ME->Loc->Hp->R (J AV)
 | _,[],_,H=>.ok [] H
 | k,e::g,ρ,H=>(ev G C k e ρ H).bind λx H=>(ct G C k g ρ H).bind λl H=>.ok (x::l) H
def cX (G:a7->aI AV)(C:CS):S->J ME->Loc->Hp->R AV
 | _,[],_,H=>.ok (.bool X) H
 | k,e::g,ρ,H=>(ev G C k e ρ H).bind λx H=>match x with
  | .bool X=>cX G C k g ρ H
  | .bool aN=>.ok (.bool aN) H
  | _=>.bad
def iy (G:a7->aI AV)(C:CS):S->J ME->Loc->Hp->R AV
 | _,[],_,H=>.ok (.bool aN) H
 | k,e::g,ρ,H=>(ev G C k e ρ H).bind λx H=>match x with
  | .bool aN=>iy G C k g ρ H
  | .bool X=>.ok (.bool X) H
  | _=>.bad
end
inductive Fl where
 | next | ret (v:AV)
noncomputable def Fl.ctorIdx (x:Fl):S:=@Fl.casesOn (λ_=>S) x (nat_lit 0) (λ_=>nat_lit 1)
noncomputable def fq (a b:T):J AV:=(pd (b - a).toNat).map λ(i:S)=>AV.int (a+(i:T))
noncomputable def iH (a b:T):J AV:=(pd (a - b).toNat).map λ(i:S)=>AV.int (a - (i:T))
noncomputable def gD (a:T):aS:=eo (-1048576<=a/\a<=1048576)
def mx (l:J AV):aI (J AV):=match l with
 | [.int b]=>if gD b then O (fq 0 b) else Q
 | [.int a,.int b]=>if gD a&&gD b then O (fq a b) else Q
 | [.int a,.int b,.int c]=>if c=-1/\gD a/\gD b then O (iH a b) else Q
 | _=>Q
noncomputable def dR:AV->aI (J AV)
 | .lst l=>O l
 | _=>Q
noncomputable def kS (l:J AV):J AV:=l.zipIdx.map λp=>.tup [.int p.2,p.1]
def ue (G:a7->aI AV)(C:CS)(k:S)(g:sv)(ρ:Loc)(H:Hp):R (J AV):=match g with
 | .seq e=>(ev G C k e ρ H).bind λx H=>opt (frozen x) H
 | .range h=>(ct G C k h ρ H).bind λl H=>opt (mx l) H
 | .enum e=>(ev G C k e ρ H).bind λx H=>opt ((dR x).map kS) H
 | .rev e=>(ev G C k e ρ H).bind λx H=>opt ((dR x).map Oh) H
noncomputable def eS:pF->AV->Loc->aI Loc
 | .one x,v,ρ=>O (put x v ρ)
 | .many e,.tup l,ρ=>if e.length=l.length then O (jK (e.zip l) ρ) else Q
 | _,_,_=>Q
noncomputable def forLoop (e:Loc->Hp->R (Fl×Loc))(x:pF):J AV->Loc->Hp->R (Fl×Loc)
 | [],ρ,H=>.ok (.next,ρ) H
 | v::vs,ρ,H=>match eS x v ρ with
  | none=>.bad
  | some h=>(e h H).bind λp H=>match p with
   | (.next,g)=>forLoop e x vs g H
   | (.ret r,g)=>.ok (.ret r,g) H
noncomputable def whileLoop (e:Loc->Hp->R AV)(g:Loc->Hp->R (Fl×Loc)):S->Loc->Hp->R (Fl×Loc)
 | 0,_,_=>.bad
 | n+1,ρ,H=>(e ρ H).bind λt H=>match t with
  | .bool X=>(g ρ H).bind λp H=>match p with
   | (.next,h)=>whileLoop e g n h H
   | (.ret r,h)=>.ok (.ret r,h) H
  | .bool aN=>.ok (.next,ρ) H
  | _=>.bad
noncomputable def WF:S:=100000
mutual
noncomputable def aA (G:a7->aI AV)(C:CS):S->MS->Loc->Hp->R (Fl×Loc)
 | k,.expr e,ρ,H=>(ev G C k e ρ H).bind λq H=>.ok (.next,ρ) H
 | k,.ret e,ρ,H=>(ev G C k e ρ H).bind λv H=>.ok (.ret v,ρ) H
 | k,.asg x e,ρ,H=>(ev G C k e ρ H).bind λv H=>.ok (.next,put x v ρ) H
 | k,.cH o f e,ρ,H=>(ev G C k e ρ H).bind λv H=>(ev G C k o ρ H).bind λx H=>match x with
  | .obj n=>match H[n]? with
   | some (.inst c Y)=>if Y.length<100 then .ok (.next,ρ) (H.set n (.inst c (put f v Y))) else .bad
   | _=>.bad
  | _=>.bad
 | k,.gp o i e,ρ,H=>(ev G C k e ρ H).bind λv H=>(ev G C k o ρ H).bind λx H=>(ev G C k i ρ H).bind λy H=>match x,y with
  | .obj n,.int i=>match H[n]? with
   | some (.list l)=>
    if 0<=i/\i<l.length then .ok (.next,ρ) (H.set n (.list (l.set i.toNat v)))
    else if i<0/\0<=i+l.length then .ok (.next,ρ) (H.set n (.list (l.set (i+l.length).toNat v)))
    else .bad
   | _=>.bad
  | _,_=>.bad
 | k,.cC s e,ρ,H=>(ev G C k e ρ H).bind λv H=>match eS (.many s) v ρ with
  | some m=>.ok (.next,m) H
  | none=>.bad
 | k,.aug x op e,ρ,H=>(opt (ρ.lookup x) H).bind λa H=>(ev G C k e ρ H).bind λb H=>match a,b with
  | .int i,.int j=>(opt (cK op (.int i) (.int j)) H).bind λr H=>.ok (.next,put x r ρ) H
  | _,_=>.bad
 | k,.iff t a b,ρ,H=>(ev G C k t ρ H).bind λx H=>match x with
  | .bool X=>execs G C k a ρ H
  | .bool aN=>execs G C k b ρ H
  | _=>.bad
 | 0,.mv _ _,_,_=>.bad
 | k+1,.mv t g,ρ,H=>whileLoop (λρ H=>ev G C k t ρ H) (λρ H=>execs G C k g ρ H) WF ρ H
 | 0,.cJ _ _ _,_,_=>.bad
 | k+1,.cJ x z g,ρ,H=>(ue G C (k+1) z ρ H).bind λl H=>forLoop (λρ H=>execs G C k g ρ H) x l ρ H
 | k,.w6 e L h,ρ,H=>match ev G C k e ρ H with
  | .ok _ H=>.ok (.next,ρ) H
  | .bH w f p=>match execs G C k h (put L (.exc w f p) ρ) (H.map λq=>.dead) with
   | .ok (.ret (.bool b),_) _=>.ok (.ret (.bool b),[]) (H.map λq=>.dead)
   | _=>.bad
  | .bad=>.bad
 | _,.raise,_,_=>.bad
noncomputable def execs (G:a7->aI AV)(C:CS):S->J MS->Loc->Hp->R (Fl×Loc)
 | _,[],ρ,H=>.ok (.next,ρ) H
 | k,s::g,ρ,H=>(aA G C k s ρ H).bind λp H=>match p with
  | (.next,e)=>execs G C k g e H
  | (.ret v,e)=>.ok (.ret v,e) H
end
noncomputable def cu:S:=6
def ae (G:a7->aI AV)(P:a7->aI bp):S->CS
 | 0=>λ_ _ _=>.bad
 | d+1=>λf args H=>
  if f="StackCheck.fail" then(match args with
   | [.obj n,.str w]=>match H[n]? with
    | some (.inst c Y)=>if c="Checker" then(match Y.lookup "function" with
     | some (.int e)=>match Y.lookup "at" with
      | some (.int g)=>.bH w e g
      | _=>.bad
     | _=>.bad) else .bad
    | _=>.bad
   | _=>.bad)
  else match P f with
   | none=>.bad
   | some D=>if D.params.length=args.length then
     (execs G (ae G P d) cu D.body (D.params.zip args) H).bind λp H=>match p with
      | (.ret v,_)=>.ok v H
      | (.next,_)=>.ok .none H
    else .bad
theorem pZ{C:CS}:(∀j p v H,ev G C j (.lit v) p H=.ok v H)/\
 (∀j x g H,ev G C j (.loc x) g H=opt (g.lookup x) H)/\
 (∀j p x H,ev G C j (.glob x) p H=opt (G x) H)/\
 (∀k e f g H,ev G C k (.attr e f) g H=(ev G C k e g H).bind λo H=>match o with
   | .obj n=>match H[n]? with
    | some (.inst _ Y)=>opt (Y.lookup f) H
    | _=>.bad
   | .exc w fn pl=>if f="why" then .ok (.str w) H else if f="function" then .ok (.int fn) H else if f="at" then .ok (.int pl) H else .bad
   | _=>.bad)/\
 (∀k e g H,ev G C k (.neg e) g H=(ev G C k e g H).bind λo H=>match o with
   | .int i=>.ok (.int (-i)) H
   | _=>.bad)/\
 (∀k op a b g H,ev G C k (.bin op a b) g H=(ev G C k a g H).bind λx H=>(ev G C k b g H).bind λy H=>opt (cK op x y) H)/\
 (∀k a op b g H,ev G C k (.cmp a op b) g H=(ev G C k a g H).bind λx H=>(ev G C k b g H).bind λy H=>(opt (bf H op x y) H).bind λr H=>.ok (.bool r) H)/\
 (∀k a op b dk c g H,ev G C k (.ef a op b dk c) g H=(ev G C k a g H).bind λx H=>(ev G C k b g H).bind λy H=>(opt (bf H op x y) H).bind λr H=>
   if r then(ev G C k c g H).bind λz H=>(opt (bf H dk y z) H).bind λr H=>.ok (.bool r) H else .ok (.bool aN) H)/\
 (∀k e g H,ev G C k (.fj e) g H=(ev G C k e g H).bind λx H=>match x with
   | .int i=>.ok (.bool (eo (i=-1\/i=-2\/i=-16\/i=-17))) H
   | _=>.bad)/\
 (∀k e g H,ev G C k (.not e) g H=(ev G C k e g H).bind λx H=>match x with
   | .bool b=>.ok (.bool (!b)) H
   | _=>.bad)/\
 (∀k h g H,ev G C k (.and h) g H=cX G C k h g H)/\
 (∀k h g H,ev G C k (.or h) g H=iy G C k h g H)/\
 (∀k t a b g H,ev G C k (.ite t a b) g H=(ev G C k t g H).bind λx H=>match x with
   | .bool X=>ev G C k a g H
   | .bool aN=>ev G C k b g H
   | _=>.bad)/\
 (∀k h g H,ev G C k (.tup h) g H=(ct G C k h g H).bind λl H=>if l.length<=aZ then .ok (.tup l) H else .bad)/\
 (∀k q h g H,ev G C k (.list q h) g H=(ct G C k h g H).bind λl H=>eH q l H)/\
 (∀k ks vs i g H,ev G C k (.kG ks vs i) g H=(ct G C k vs g H).bind λl H=>(ev G C k i g H).bind λx H=>match x with
   | .int i=>opt (dictAt ks l i) H
   | _=>.bad)/\
 (∀k a i g H,ev G C k (.sub a i) g H=(ev G C k a g H).bind λx H=>(ev G C k i g H).bind λy H=>opt (di H x y) H)/\
 (∀k a g H,ev G C k (.ik a) g H=(ev G C k a g H).bind λx H=>match x with
   | .tup l=>if 1<=l.length/\l.length<=aZ then .ok (.tup (l.drop 1)) H else .bad
   | _=>.bad)/\
 (∀k a hi g H,ev G C k (.hR a hi) g H=(ev G C k a g H).bind λx H=>(ev G C k hi g H).bind λy H=>match x,y with
   | .lst l,.int n=>if 0<=n/\l.length<=aZ then .ok (.lst (l.take n.toNat)) H else .bad
   | _,_=>.bad)/\
 (∀k f args g H,ev G C k (.call f args) g H=(ct G C k args g H).bind λl H=>C f l H)/\
 (∀k c f args g H,ev G C k (.new c f args) g H=(ct G C k args g H).bind λl H=>match C f (.obj H.length::l) (H++[.inst c []]) with
   | .ok .none W=>.ok (.obj H.length) W
   | _=>.bad)/\
 (∀k o c m f args g H,ev G C k (.ix o c m f args) g H=(ev G C k o g H).bind λx H=>match x with
   | .obj n=>match H[n]? with
    | some (.inst c' Y)=>if c'=c/\Y.lookup m=Q then(ct G C k args g H).bind λl H=>C f (.obj n::l) H else .bad
    | _=>.bad
   | _=>.bad)/\
 (∀j p k f args g H,ev G C k (.il j p f args) g H=(ct G C k args g H).bind λl H=>C f l H)/\
 (∀k o m args g H,ev G C k (.aK o m args) g H=(ev G C k o g H).bind λx H=>match x with
   | .obj n=>match H[n]? with
    | some (.list _)=>(ct G C k args g H).bind λl H=>cW (eg H (.obj n) m l)
    | _=>.bad
   | _=>.bad)/\
 (∀k f args g H,ev G C k (.bi f args) g H=(ct G C k args g H).bind λl H=>opt (gC H f l) H)/\
 (∀j p u2 u3 u4 u5 u6,ev G C 0 (.comp j p u2 u3 u4) u5 u6=.bad)/\
 (∀k q L x iter cond g H,ev G C (k+1) (.comp q L x iter cond) g H=(ev G C (k+1) iter g H).bind λs H=>(opt (frozen s) H).bind λl H=>
   (compLoop (λv H=>(cX G C k cond ((x,v)::g) H).bind λb H=>match b with
     | .bool X=>(ev G C k L ((x,v)::g) H).bind λr H=>.ok (O r) H
     | .bool aN=>.ok Q H
     | _=>.bad) H.length l (H++[.list []])).bind λd W=>gP q H.length W)/\
 (∀k e g H,ev G C k (.freeze e) g H=(ev G C k e g H).bind λx H=>cW (nA H x)):=by
 refine⟨?_,?_,?_,?_,?_,?_,?_,?_,?_,?_,?_,?_,?_,?_,?_,?_,?_,?_,?_,?_,?_,?_,?_,?_,?_,?_,?_,?_⟩<;>intros<;>rfl
theorem F4:(∀i j H,ct G C i [] j H=.ok [] H)/\
 (∀k e h g H,ct G C k (e::h) g H=(ev G C k e g H).bind λx H=>(ct G C k h g H).bind λl H=>.ok (x::l) H):=by
 refine au ?_ ?_<;>intros<;>rfl
theorem D6:(∀i j H,cX G C i [] j H=.ok (.bool X) H)/\
 (∀k e h g H,cX G C k (e::h) g H=(ev G C k e g H).bind λx H=>match x with
   | .bool X=>cX G C k h g H
   | .bool aN=>.ok (.bool aN) H
   | _=>.bad):=by
 refine au ?_ ?_<;>intros<;>rfl
theorem IW{C:CS}:(∀i j H,iy G C i [] j H=.ok (.bool aN) H)/\
 (∀k e h g H,iy G C k (e::h) g H=(ev G C k e g H).bind λx H=>match x with
   | .bool aN=>iy G C k h g H
   | .bool X=>.ok (.bool X) H
   | _=>.bad):=by
 refine au ?_ ?_<;>intros<;>rfl
theorem uf{C:CS}:(∀k e g H,aA G C k (.expr e) g H=(ev G C k e g H).bind λd H=>.ok (.next,g) H)/\
 (∀k e g H,aA G C k (.ret e) g H=(ev G C k e g H).bind λv H=>.ok (.ret v,g) H)/\
 (∀k x e g H,aA G C k (.asg x e) g H=(ev G C k e g H).bind λv H=>.ok (.next,put x v g) H)/\
 (∀k o f e g H,aA G C k (.cH o f e) g H=(ev G C k e g H).bind λv H=>(ev G C k o g H).bind λx H=>match x with
   | .obj n=>match H[n]? with
    | some (.inst c Y)=>if Y.length<100 then .ok (.next,g) (H.set n (.inst c (put f v Y))) else .bad
    | _=>.bad
   | _=>.bad)/\
 (∀k o i e g H,aA G C k (.gp o i e) g H=(ev G C k e g H).bind λv H=>(ev G C k o g H).bind λx H=>(ev G C k i g H).bind λy H=>match x,y with
   | .obj n,.int i=>match H[n]? with
    | some (.list l)=>
     if 0<=i/\i<l.length then .ok (.next,g) (H.set n (.list (l.set i.toNat v)))
     else if i<0/\0<=i+l.length then .ok (.next,g) (H.set n (.list (l.set (i+l.length).toNat v)))
     else .bad
    | _=>.bad
   | _,_=>.bad)/\
 (∀k xs e g H,aA G C k (.cC xs e) g H=(ev G C k e g H).bind λv H=>match eS (.many xs) v g with
   | some L=>.ok (.next,L) H
   | none=>.bad)/\
 (∀k x op e g H,aA G C k (.aug x op e) g H=(opt (g.lookup x) H).bind λa H=>(ev G C k e g H).bind λb H=>match a,b with
   | .int i,.int j=>(opt (cK op (.int i) (.int j)) H).bind λr H=>.ok (.next,put x r g) H
   | _,_=>.bad)/\
 (∀k t a b g H,aA G C k (.iff t a b) g H=(ev G C k t g H).bind λx H=>match x with
   | .bool X=>execs G C k a g H
   | .bool aN=>execs G C k b g H
   | _=>.bad)/\
 (∀q s z W,aA G C 0 (.mv q s) z W=.bad)/\
 (∀k t m g H,aA G C (k+1) (.mv t m) g H=whileLoop (λg H=>ev G C k t g H) (λg H=>execs G C k m g H) WF g H)/\
 (∀q s z W u4,aA G C 0 (.cJ q s z) W u4=.bad)/\
 (∀k x it m g H,aA G C (k+1) (.cJ x it m) g H=(ue G C (k+1) it g H).bind λl H=>forLoop (λg H=>execs G C k m g H) x l g H)/\
 (∀k e nm h g H,aA G C k (.w6 e nm h) g H=match ev G C k e g H with
   | .ok _ H=>.ok (.next,g) H
   | .bH w f p=>match execs G C k h (put nm (.exc w f p) g) (H.map λd=>.dead) with
    | .ok (.ret (.bool b),_) _=>.ok (.ret (.bool b),[]) (H.map λd=>.dead)
    | _=>.bad
   | .bad=>.bad)/\
 (∀q s z,aA G C q (.raise) s z=.bad):=by
 refine⟨?_,?_,?_,?_,?_,?_,?_,?_,?_,?_,?_,?_,?_,?_⟩<;>intros<;>rfl
theorem MZ{C:CS}:(∀i g H,execs G C i [] g H=.ok (.next,g) H)/\
 (∀k s h g H,execs G C k (s::h) g H=(aA G C k s g H).bind λp H=>match p with
   | (.next,e)=>execs G C k h e H
   | (.ret v,e)=>.ok (.ret v,e) H):=by
 refine au ?_ ?_<;>intros<;>rfl
noncomputable def xZ:bp:=⟨["code"],[
 .cJ (.many ["least","most","params","results"]) (.seq (.glob "NUMBERS")) [.iff (.ef (.loc "least") .LtE (.loc "code") .LtE (.loc "most")) [.ret (.tup [.loc "params",.loc "results"])] []],
 .ret (.lit .none)]⟩
noncomputable def CA:bp:=⟨["code"],[
 .ret (.cmp (.loc "code") .In (.tup [.glob "BLOCK",.glob "LOOP",.glob "IF"]))]⟩
noncomputable def D7:bp:=⟨["kind"],[
 .ret (.fj (.loc "kind"))]⟩
def p8:bp:=⟨["kinds","told"],[
 .iff (.cmp (.loc "told") .Eq (.glob "EMPTY")) [.ret (.tup [.tup [],.tup []])] [],
 .iff (.cmp (.loc "told") .Lt (.n 0)) [.ret (.ite (.fj (.loc "told")) (.tup [.tup [],.tup [.loc "told"]]) (.lit .none))] [],
 .ret (.ite (.cmp (.loc "told") .Lt (.bi "len" [.loc "kinds"])) (.sub (.loc "kinds") (.loc "told")) (.lit .none))]⟩
noncomputable def ta:bp:=⟨["kind"],[
 .ret (.cmp (.loc "kind") .In (.tup [.glob "I32",.glob "I64",.glob "UNKNOWN"]))]⟩
noncomputable def p9:bp:=⟨["self","code","params","results","height","is_buried"],[
 .cH .S "code" (.loc "code"),
 .cH .S "params" (.loc "params"),
 .cH .S "results" (.loc "results"),
 .cH .S "height" (.loc "height"),
 .cH .S "is_dead" (.lit (.bool aN)),
 .cH .S "is_buried" (.loc "is_buried")]⟩
noncomputable def pG:bp:=⟨["self"],[
 .ret (.ite (.cmp (.attr .S "code") .Eq (.glob "LOOP")) (.attr .S "params") (.attr .S "results"))]⟩
noncomputable def kL:bp:=⟨["self","kinds","funcs","function","places","results"],[
 .cH .S "kinds" (.loc "kinds"),
 .cH .S "funcs" (.loc "funcs"),
 .cH .S "function" (.loc "function"),
 .cH .S "locals" (.loc "places"),
 .cH .S "results" (.loc "results"),
 .cH .S "values" (.list aN []),
 .cH .S "blocks" (.list aN [.new "Block" "Block.__init__" [.glob "FUNCTION",.tup [],.loc "results",.n 0,.lit (.bool aN)]]),
 .cH .S "at" (.n 0)]⟩
noncomputable def kM:bp:=⟨["self","kind"],[
 .expr (.aK (.attr .S "values") "append" [.loc "kind"])]⟩
def iI:bp:=⟨["self","kinds"],[
 .cJ (.one "kind") (.seq (.loc "kinds")) [.expr (.aK (.attr .S "values") "append" [.loc "kind"])]]⟩
def iY:bp:=⟨["self"],[
 .asg "block" (.sub (.attr .S "blocks") (.n (-1))),
 .iff (.cmp (.bi "len" [.attr .S "values"]) .Gt (.attr (.loc "block") "height")) [.ret (.aK (.attr .S "values") "pop" [])] [],
 .iff (.not (.attr (.loc "block") "is_dead")) [.Z "type mismatch"] [],
 .ret (.glob "UNKNOWN")]⟩
noncomputable def lK:bp:=⟨["self","kind"],[
 .asg "found" (.M "pop_any" "StackCheck.pop_any" []),
 .iff (.and [.cmp (.loc "found") .NotEq (.loc "kind"),.cmp (.loc "found") .NotEq (.glob "UNKNOWN"),.cmp (.loc "kind") .NotEq (.glob "UNKNOWN")]) [.Z "type mismatch"] [],
 .ret (.loc "found")]⟩
def iZ:bp:=⟨["self","kinds"],[
 .asg "found" (.list aN []),
 .cJ (.one "place") (.range [.bin .Sub (.bi "len" [.loc "kinds"]) (.n 1),.n (-1),.n (-1)]) [.expr (.aK (.loc "found") "append" [.M "pop" "StackCheck.pop" [.sub (.loc "kinds") (.loc "place")]])],
 .expr (.aK (.loc "found") "reverse" []),
 .ret (.freeze (.loc "found"))]⟩
def j9:bp:=⟨["self","code","params","results"],[
 .asg "outer" (.sub (.attr .S "blocks") (.n (-1))),
 .asg "block" (.new "Block" "Block.__init__" [.loc "code",.loc "params",.loc "results",.bi "len" [.attr .S "values"],.or [.attr (.loc "outer") "is_dead",.attr (.loc "outer") "is_buried"]]),
 .expr (.aK (.attr .S "blocks") "append" [.loc "block"]),
 .expr (.M "push_all" "StackCheck.push_all" [.loc "params"])]⟩
def ke:bp:=⟨["self"],[
 .asg "block" (.sub (.attr .S "blocks") (.n (-1))),
 .expr (.M "pop_all" "StackCheck.pop_all" [.attr (.loc "block") "results"]),
 .iff (.cmp (.bi "len" [.attr .S "values"]) .NotEq (.attr (.loc "block") "height")) [.Z "type mismatch"] [],
 .expr (.aK (.attr .S "blocks") "pop" []),
 .ret (.loc "block")]⟩
def kN:bp:=⟨["self"],[
 .asg "block" (.sub (.attr .S "blocks") (.n (-1))),
 .mv (.cmp (.bi "len" [.attr .S "values"]) .Gt (.attr (.loc "block") "height")) [.expr (.aK (.attr .S "values") "pop" [])],
 .cH (.loc "block") "is_dead" (.lit (.bool X))]⟩
def ju:bp:=⟨["self","label"],[
 .iff (.not (.ef (.n 0) .LtE (.loc "label") .Lt (.bi "len" [.attr .S "blocks"]))) [.Z "unknown label"] [],
 .ret (.ix (.sub (.attr .S "blocks") (.bin .Sub (.bin .Sub (.bi "len" [.attr .S "blocks"]) (.n 1)) (.loc "label"))) "Block" "label" "Block.label" [])]⟩
noncomputable def gY:bp:=⟨["self","told"],[
 .asg "found" (.call "block_kind_kinds" [.attr .S "kinds",.loc "told"]),
 .iff (.cmp (.loc "found") .Is (.lit .none)) [.Z "unknown type"] [],
 .ret (.loc "found")]⟩
def iJ:bp:=⟨["self","index"],[
 .iff (.not (.ef (.n 0) .LtE (.loc "index") .Lt (.bi "len" [.attr .S "locals"]))) [.Z "unknown local"] [],
 .ret (.sub (.attr .S "locals") (.loc "index"))]⟩
def eT:bp:=⟨["self","body"],[
 .asg "found" (.list aN []),
 .cJ (.many ["at","instruction"]) (.enum (.loc "body")) [.cH .S "at" (.loc "at"),.iff (.cmp (.bi "len" [.attr .S "blocks"]) .Eq (.n 0)) [.Z "type mismatch"] [],.asg "block" (.sub (.attr .S "blocks") (.n (-1))),.expr (.aK (.loc "found") "append" [.ite (.or [.attr (.loc "block") "is_dead",.attr (.loc "block") "is_buried"]) (.lit .none) (.bi "len" [.attr .S "values"])]),.expr (.M "step" "StackCheck.step" [.loc "instruction"])],
 .iff (.cmp (.bi "len" [.attr .S "blocks"]) .Gt (.n 0)) [.Z "type mismatch"] [],
 .ret (.freeze (.loc "found"))]⟩
def kO:bp:=⟨["self","instruction"],[
 .asg "code" (.sub (.loc "instruction") (.n 0)),
 .iff (.or [.cmp (.loc "code") .LtE (.n 16),.cmp (.loc "code") .Eq (.n 18)]) [.expr (.M "control" "StackCheck.control" [.loc "instruction"])] [.iff (.ef (.n 26) .LtE (.loc "code") .LtE (.n 34)) [.expr (.M "local" "StackCheck.local" [.loc "instruction"])] [.iff (.cmp (.loc "code") .Eq (.n 65)) [.expr (.M "push" "StackCheck.push" [.glob "I32"])] [.iff (.cmp (.loc "code") .Eq (.n 66)) [.expr (.M "push" "StackCheck.push" [.glob "I64"])] [.iff (.ef (.n 69) .LtE (.loc "code") .LtE (.n 196)) [.expr (.M "number" "StackCheck.number" [.loc "code"])] [.expr (.M "more" "Checker.more" [.loc "instruction"])]]]]]]⟩
def jv:bp:=⟨["self","code"],[
 .asg "pair" (.call "number_kind" [.loc "code"]),
 .iff (.cmp (.loc "pair") .Is (.lit .none)) [.Z "illegal opcode"] [],
 .expr (.M "pop_all" "StackCheck.pop_all" [.sub (.loc "pair") (.n 0)]),
 .expr (.M "push_all" "StackCheck.push_all" [.sub (.loc "pair") (.n 1)])]⟩
def cY:bp:=⟨["self","instruction"],[
 .asg "code" (.sub (.loc "instruction") (.n 0)),
 .iff (.cmp (.loc "code") .Eq (.n 0)) [.expr (.M "kill" "StackCheck.kill" [])] [.iff (.call "is_block" [.loc "code"]) [.iff (.cmp (.loc "code") .Eq (.glob "IF")) [.expr (.M "pop" "StackCheck.pop" [.glob "I32"])] [],.cC ["params","results"] (.M "block_kind" "StackCheck.block_kind" [.sub (.loc "instruction") (.n 1)]),.expr (.M "pop_all" "StackCheck.pop_all" [.loc "params"]),.expr (.M "begin" "StackCheck.begin" [.loc "code",.loc "params",.loc "results"])] [.iff (.cmp (.loc "code") .Eq (.glob "ELSE")) [.expr (.M "other" "StackCheck.other" [])] [.iff (.cmp (.loc "code") .Eq (.n 11)) [.expr (.M "end" "StackCheck.end" [])] [.iff (.cmp (.loc "code") .In (.tup [.n 12,.n 13,.n 14])) [.expr (.M "branch" "StackCheck.branch" [.loc "instruction"])] [.iff (.cmp (.loc "code") .Eq (.n 15)) [.expr (.M "pop_all" "StackCheck.pop_all" [.attr .S "results"]),.expr (.M "kill" "StackCheck.kill" [])] [.iff (.cmp (.loc "code") .GtE (.n 16)) [.expr (.M "call" "StackCheck.call" [.M "func_at" "StackCheck.func_at" [.sub (.loc "instruction") (.n 1)],.cmp (.loc "code") .Eq (.n 18)])] [.iff (.cmp (.loc "code") .NotEq (.n 1)) [.Z "illegal opcode"] []]]]]]]]]⟩
def kf:bp:=⟨["self"],[
 .asg "is_buried" (.attr (.sub (.attr .S "blocks") (.n (-1))) "is_buried"),
 .iff (.cmp (.attr (.sub (.attr .S "blocks") (.n (-1))) "code") .NotEq (.glob "IF")) [.Z "else without if"] [],
 .asg "block" (.M "close" "StackCheck.close" []),
 .expr (.aK (.attr .S "blocks") "append" [.new "Block" "Block.__init__" [.glob "ELSE",.attr (.loc "block") "params",.attr (.loc "block") "results",.bi "len" [.attr .S "values"],.loc "is_buried"]]),
 .expr (.M "push_all" "StackCheck.push_all" [.attr (.loc "block") "params"])]⟩
noncomputable def lL:bp:=⟨["self"],[
 .asg "block" (.M "close" "StackCheck.close" []),
 .iff (.and [.cmp (.attr (.loc "block") "code") .Eq (.glob "IF"),.cmp (.attr (.loc "block") "params") .NotEq (.attr (.loc "block") "results")]) [.Z "type mismatch"] [],
 .iff (.cmp (.bi "len" [.attr .S "blocks"]) .Gt (.n 0)) [.expr (.M "push_all" "StackCheck.push_all" [.attr (.loc "block") "results"])] []]⟩
def jw:bp:=⟨["self","instruction"],[
 .asg "code" (.sub (.loc "instruction") (.n 0)),
 .iff (.cmp (.loc "code") .Eq (.n 12)) [.expr (.M "pop_all" "StackCheck.pop_all" [.M "target" "StackCheck.target" [.sub (.loc "instruction") (.n 1)]]),.expr (.M "kill" "StackCheck.kill" [])] [.iff (.cmp (.loc "code") .Eq (.n 13)) [.expr (.M "pop" "StackCheck.pop" [.glob "I32"]),.asg "kinds" (.M "target" "StackCheck.target" [.sub (.loc "instruction") (.n 1)]),.expr (.M "pop_all" "StackCheck.pop_all" [.loc "kinds"]),.expr (.M "push_all" "StackCheck.push_all" [.loc "kinds"])] [.expr (.M "pop" "StackCheck.pop" [.glob "I32"]),.asg "last" (.M "target" "StackCheck.target" [.sub (.loc "instruction") (.n (-1))]),.cJ (.one "place") (.range [.n 1,.bin .Sub (.bi "len" [.loc "instruction"]) (.n 1)]) [.asg "kinds" (.M "target" "StackCheck.target" [.sub (.loc "instruction") (.loc "place")]),.iff (.cmp (.bi "len" [.loc "kinds"]) .NotEq (.bi "len" [.loc "last"])) [.Z "type mismatch"] [],.expr (.M "push_all" "StackCheck.push_all" [.M "pop_all" "StackCheck.pop_all" [.loc "kinds"]])],.expr (.M "pop_all" "StackCheck.pop_all" [.loc "last"]),.expr (.M "kill" "StackCheck.kill" [])]]]⟩
def kh:bp:=⟨["self","instruction"],[
 .asg "code" (.sub (.loc "instruction") (.n 0)),
 .iff (.cmp (.loc "code") .Eq (.n 26)) [.expr (.M "pop_any" "StackCheck.pop_any" [])] [.iff (.cmp (.loc "code") .In (.tup [.n 27,.n 28])) [.expr (.M "select" "StackCheck.select" [.loc "instruction"])] [.iff (.cmp (.loc "code") .Lt (.n 32)) [.Z "illegal opcode"] [.asg "kind" (.M "local_at" "StackCheck.local_at" [.sub (.loc "instruction") (.n 1)]),.iff (.cmp (.loc "code") .NotEq (.n 32)) [.expr (.M "pop" "StackCheck.pop" [.loc "kind"])] [],.iff (.cmp (.loc "code") .NotEq (.n 33)) [.expr (.M "push" "StackCheck.push" [.loc "kind"])] []]]]]⟩
def jx:bp:=⟨["self","instruction"],[
 .iff (.cmp (.sub (.loc "instruction") (.n 0)) .Eq (.n 28)) [.iff (.cmp (.bi "len" [.loc "instruction"]) .NotEq (.n 2)) [.Z "invalid result arity"] [],.iff (.not (.call "is_kind" [.sub (.loc "instruction") (.n 1)])) [.Z "unknown type"] [],.expr (.M "pop_all" "StackCheck.pop_all" [.tup [.sub (.loc "instruction") (.n 1),.sub (.loc "instruction") (.n 1),.glob "I32"]]),.expr (.M "push" "StackCheck.push" [.sub (.loc "instruction") (.n 1)])] [.expr (.M "pop" "StackCheck.pop" [.glob "I32"]),.asg "one" (.M "pop_any" "StackCheck.pop_any" []),.asg "other" (.M "pop_any" "StackCheck.pop_any" []),.iff (.or [.not (.call "is_number_kind" [.loc "one"]),.not (.call "is_number_kind" [.loc "other"])]) [.Z "type mismatch"] [],.iff (.and [.cmp (.loc "one") .NotEq (.loc "other"),.cmp (.loc "one") .NotEq (.glob "UNKNOWN"),.cmp (.loc "other") .NotEq (.glob "UNKNOWN")]) [.Z "type mismatch"] [],.expr (.M "push" "StackCheck.push" [.ite (.cmp (.loc "one") .Eq (.glob "UNKNOWN")) (.loc "other") (.loc "one")])]]⟩
noncomputable def pU:bp:=⟨["kind"],[
 .ret (.cmp (.loc "kind") .In (.tup [.glob "FUNCREF",.glob "EXTERNREF",.glob "UNKNOWN"]))]⟩
noncomputable def qa:bp:=⟨["self","kinds","funcs","tables","memories","cells","elems","datas","declared"],[
 .cH .S "kinds" (.loc "kinds"),
 .cH .S "funcs" (.loc "funcs"),
 .cH .S "tables" (.loc "tables"),
 .cH .S "memories" (.loc "memories"),
 .cH .S "globals" (.loc "cells"),
 .cH .S "elems" (.loc "elems"),
 .cH .S "datas" (.loc "datas"),
 .cH .S "declared" (.loc "declared")]⟩
noncomputable def nB:bp:=⟨["self","scope","function","places","results"],[
 .expr (.il "StackCheck" "__init__" "StackCheck.__init__" [.S,.attr (.loc "scope") "kinds",.attr (.loc "scope") "funcs",.loc "function",.loc "places",.loc "results"]),
 .cH .S "scope" (.loc "scope")]⟩
def nG:bp:=⟨["self","instruction"],[
 .asg "code" (.sub (.loc "instruction") (.n 0)),
 .iff (.cmp (.loc "code") .In (.tup [.n 17,.n 19])) [.expr (.M "indirect" "Checker.indirect" [.loc "instruction"])] [.iff (.ef (.n 35) .LtE (.loc "code") .LtE (.n 38)) [.expr (.M "cell" "Checker.cell" [.loc "instruction"])] [.iff (.ef (.n 39) .LtE (.loc "code") .LtE (.n 64)) [.expr (.M "memory" "Checker.memory" [.loc "instruction"])] [.iff (.ef (.n 208) .LtE (.loc "code") .LtE (.n 210)) [.expr (.M "reference" "Checker.reference" [.loc "instruction"])] [.iff (.or [.cmp (.loc "code") .In (.glob "MEMORY_BULK"),.cmp (.loc "code") .Eq (.n 64521)]) [.expr (.M "octets" "Checker.octets" [.loc "instruction"])] [.iff (.ef (.n 64524) .LtE (.loc "code") .LtE (.n 64529)) [.expr (.M "elements" "Checker.elements" [.loc "instruction"])] [.Z "illegal opcode"]]]]]]]⟩
def jy:bp:=⟨["self","instruction"],[
 .asg "code" (.sub (.loc "instruction") (.n 0)),
 .iff (.cmp (.loc "code") .Eq (.n 208)) [.iff (.cmp (.sub (.loc "instruction") (.n 1)) .NotIn (.tup [.glob "FUNCREF",.glob "EXTERNREF"])) [.Z "unknown type"] [],.expr (.M "push" "StackCheck.push" [.sub (.loc "instruction") (.n 1)])] [.iff (.cmp (.loc "code") .Eq (.n 209)) [.iff (.not (.call "is_reference_kind" [.M "pop_any" "StackCheck.pop_any" []])) [.Z "type mismatch"] [],.expr (.M "push" "StackCheck.push" [.glob "I32"])] [.expr (.M "func_at" "StackCheck.func_at" [.sub (.loc "instruction") (.n 1)]),.iff (.cmp (.sub (.loc "instruction") (.n 1)) .NotIn (.attr (.attr .S "scope") "declared")) [.Z "undeclared function reference"] [],.expr (.M "push" "StackCheck.push" [.glob "FUNCREF"])]]]⟩
def qh:bp:=⟨["scope","index","func"],[
 .iff (.not (.ef (.n 0) .LtE (.attr (.loc "func") "kind") .Lt (.bi "len" [.attr (.loc "scope") "kinds"]))) [.raise] [],
 .cC ["params","results"] (.sub (.attr (.loc "scope") "kinds") (.attr (.loc "func") "kind")),
 .ret (.new "Checker" "Checker.__init__" [.loc "scope",.loc "index",.bin .Add (.bi "tuple" [.loc "params"]) (.bi "tuple" [.attr (.loc "func") "locals"]),.bi "tuple" [.loc "results"]])]⟩
noncomputable def fL:bp:=⟨["scope","index","func"],[
 .expr (.ix (.call "checker_of" [.loc "scope",.loc "index",.loc "func"]) "Checker" "check" "StackCheck.check" [.attr (.loc "func") "body"])]⟩
noncomputable def lM:bp:=⟨["scope","index","func"],[
 .ret (.ix (.call "checker_of" [.loc "scope",.loc "index",.loc "func"]) "Checker" "check" "StackCheck.check" [.attr (.loc "func") "body"])]⟩
noncomputable def sx:bp:=⟨["self","kind","locals_now","body"],[
 .cH .S "kind" (.loc "kind"),
 .cH .S "locals" (.loc "locals_now"),
 .cH .S "body" (.loc "body")]⟩
def w7:bp:=⟨["mark"],[
 .iff (.cmp (.loc "mark") .GtE (.n 0)) [.ret (.tup [.bi "list" [.sub (.sub (.glob "_law_kinds") (.loc "mark")) (.n 0)],.bi "list" [.sub (.sub (.glob "_law_kinds") (.loc "mark")) (.n 1)]])] [],
 .ret (.tup [.list X [],.ite (.cmp (.loc "mark") .Eq (.n (-64))) (.list X []) (.list X [.loc "mark"])])]⟩
def w8:bp:=⟨["op","places"],[
 .asg "code" (.sub (.loc "op") (.n 0)),
 .iff (.cmp (.loc "code") .In (.tup [.n 32,.n 33,.n 34])) [.asg "kind" (.list X [.sub (.loc "places") (.sub (.loc "op") (.n 1))]),.ret (.tup [.ite (.cmp (.loc "code") .Eq (.n 32)) (.list X []) (.loc "kind"),.ite (.cmp (.loc "code") .Eq (.n 33)) (.list X []) (.loc "kind")])] [],
 .iff (.cmp (.loc "code") .Eq (.n 28)) [.ret (.tup [.list X [.sub (.loc "op") (.n 1),.sub (.loc "op") (.n 1),.n (-1)],.list X [.sub (.loc "op") (.n 1)]])] [],
 .iff (.cmp (.loc "code") .Eq (.n 208)) [.ret (.tup [.list X [],.list X [.sub (.loc "op") (.n 1)]])] [],
 .ret (.kG [1,65,66,106,80,124] [.tup [.list X [],.list X []],.tup [.list X [],.list X [.n (-1)]],.tup [.list X [],.list X [.n (-2)]],.tup [.list X [.n (-1),.n (-1)],.list X [.n (-1)]],.tup [.list X [.n (-2)],.list X [.n (-1)]],.tup [.list X [.n (-2),.n (-2)],.list X [.n (-2)]]] (.loc "code"))]⟩
def yE:bp:=⟨["body","at"],[
 .asg "nodes" (.list aN []),
 .mv (.cmp (.sub (.sub (.loc "body") (.loc "at")) (.n 0)) .NotIn (.tup [.n 5,.n 11])) [.cC ["op","inner","other"] (.tup [.sub (.loc "body") (.loc "at"),.lit .none,.lit .none]),.iff (.cmp (.sub (.loc "op") (.n 0)) .In (.tup [.n 2,.n 3,.n 4])) [.cC ["inner","at"] (.call "_law_read" [.loc "body",.bin .Add (.loc "at") (.n 1)]),.iff (.cmp (.sub (.sub (.loc "body") (.loc "at")) (.n 0)) .Eq (.n 5)) [.cC ["other","at"] (.call "_law_read" [.loc "body",.bin .Add (.loc "at") (.n 1)])] []] [],.expr (.aK (.loc "nodes") "append" [.tup [.loc "op",.loc "inner",.loc "other"]]),.aug "at" .Add (.n 1)],
 .ret (.tup [.freeze (.loc "nodes"),.loc "at"])]⟩
noncomputable def qi:bp:=⟨["book","kinds"],[
 .expr (.aK (.loc "book") "append" [.loc "kinds"]),
 .ret (.bin .Sub (.bi "len" [.loc "book"]) (.n 1))]⟩
def my:bp:=⟨["book","need","kinds"],[
 .cJ (.one "kind") (.rev (.loc "kinds")) [.iff (.cmp (.sub (.loc "need") (.n 0)) .Eq (.list X [])) [.ret (.sub (.loc "need") (.n 1))] [],.asg "place" (.aK (.sub (.loc "need") (.n 0)) "pop" []),.iff (.cmp (.loc "kind") .NotIn (.sub (.loc "book") (.loc "place"))) [.ret (.lit (.bool aN))] [],.gp (.loc "book") (.loc "place") (.list X [.loc "kind"])],
 .ret (.lit (.bool X))]⟩
def kj:bp:=⟨["nodes","starts","ends","labels","places","book"],[
 .asg "need" (.list aN [.comp aN (.call "_law_place" [.loc "book",.list X [.loc "kind"]]) "kind" (.loc "ends") [],.lit (.bool aN)]),
 .cJ (.many ["op","inner","other"]) (.rev (.loc "nodes")) [.asg "need" (.call "_law_ahead" [.loc "op",.loc "inner",.loc "other",.loc "need",.loc "labels",.loc "places",.loc "book"]),.iff (.cmp (.loc "need") .Is (.lit .none)) [.ret (.lit (.bool aN))] []],
 .ret (.and [.call "_law_given" [.loc "book",.loc "need",.loc "starts"],.cmp (.sub (.loc "need") (.n 0)) .Eq (.list X [])])]⟩
def td:bp:=⟨["op","labels","book"],[
 .iff (.cmp (.sub (.loc "op") (.n 0)) .Eq (.n 0)) [.ret (.list aN [.list aN [],.lit (.bool X)])] [],
 .iff (.cmp (.sub (.loc "op") (.n 0)) .Eq (.n 15)) [.ret (.list aN [.comp aN (.call "_law_place" [.loc "book",.list X [.loc "kind"]]) "kind" (.sub (.loc "labels") (.n 0)) [],.lit (.bool X)])] [],
 .asg "sides" (.comp X (.sub (.loc "labels") (.bin .Sub (.bin .Sub (.bi "len" [.loc "labels"]) (.n 1)) (.loc "label"))) "label" (.ik (.loc "op")) []),
 .iff (.cmp (.comp X (.loc "side") "side" (.loc "sides") [.cmp (.bi "len" [.loc "side"]) .NotEq (.bi "len" [.sub (.loc "sides") (.n 0)])]) .NotEq (.list X [])) [.ret (.lit .none)] [],
 .asg "found" (.list aN []),
 .cJ (.one "k") (.range [.bi "len" [.sub (.loc "sides") (.n 0)]]) [.asg "kinds" (.comp X (.sub (.loc "side") (.loc "k")) "side" (.loc "sides") []),.expr (.aK (.loc "found") "append" [.call "_law_place" [.loc "book",.ite (.cmp (.loc "kinds") .Eq (.bin .Mult (.list X [.sub (.loc "kinds") (.n 0)]) (.bi "len" [.loc "kinds"]))) (.list X [.sub (.loc "kinds") (.n 0)]) (.list X [])]])],
 .iff (.cmp (.sub (.loc "op") (.n 0)) .Eq (.n 14)) [.expr (.aK (.loc "found") "append" [.call "_law_place" [.loc "book",.list X [.n (-1)]]])] [],
 .ret (.list aN [.loc "found",.lit (.bool X)])]⟩
def qj:bp:=⟨["op","inner","other","need","labels","places","book"],[
 .asg "code" (.sub (.loc "op") (.n 0)),
 .iff (.cmp (.loc "code") .In (.tup [.n 0,.n 12,.n 14,.n 15])) [.ret (.call "_law_jump" [.loc "op",.loc "labels",.loc "book"])] [],
 .iff (.cmp (.loc "code") .Eq (.n 26)) [.expr (.aK (.sub (.loc "need") (.n 0)) "append" [.call "_law_place" [.loc "book",.list X [.n (-1),.n (-2),.n (-16),.n (-17)]]]),.ret (.loc "need")] [],
 .iff (.cmp (.loc "code") .Eq (.n 27)) [.iff (.and [.cmp (.sub (.loc "need") (.n 0)) .Eq (.list X []),.not (.sub (.loc "need") (.n 1))]) [.ret (.lit .none)] [],.asg "place" (.ite (.cmp (.sub (.loc "need") (.n 0)) .NotEq (.list X [])) (.aK (.sub (.loc "need") (.n 0)) "pop" []) (.call "_law_place" [.loc "book",.list X [.n (-1),.n (-2)]])),.gp (.loc "book") (.loc "place") (.comp X (.loc "kind") "kind" (.sub (.loc "book") (.loc "place")) [.cmp (.loc "kind") .In (.tup [.n (-1),.n (-2)])]),.expr (.aK (.sub (.loc "need") (.n 0)) "extend" [.list X [.loc "place",.loc "place",.call "_law_place" [.loc "book",.list X [.n (-1)]]]]),.ret (.loc "need")] [],
 .iff (.cmp (.loc "code") .Eq (.n 209)) [.iff (.not (.call "_law_given" [.loc "book",.loc "need",.list X [.n (-1)]])) [.ret (.lit .none)] [],.expr (.aK (.sub (.loc "need") (.n 0)) "append" [.call "_law_place" [.loc "book",.list X [.n (-16),.n (-17)]]]),.ret (.loc "need")] [],
 .iff (.cmp (.loc "code") .In (.tup [.n 2,.n 3,.n 4])) [.cC ["takes","gives"] (.call "_law_arrow" [.sub (.loc "op") (.n 1)]),.iff (.and [.cmp (.loc "other") .Is (.lit .none),.cmp (.loc "code") .Eq (.n 4),.cmp (.loc "takes") .NotEq (.loc "gives")]) [.ret (.lit .none)] [],.cJ (.one "nodes") (.seq (.ite (.cmp (.loc "other") .Is (.lit .none)) (.list X [.loc "inner"]) (.list X [.loc "inner",.loc "other"]))) [.iff (.not (.call "_law_holds" [.loc "nodes",.loc "takes",.loc "gives",.bin .Add (.loc "labels") (.list X [.ite (.cmp (.loc "code") .Eq (.n 3)) (.loc "takes") (.loc "gives")]),.loc "places",.loc "book"])) [.ret (.lit .none)] []],.asg "takes" (.ite (.cmp (.loc "code") .Eq (.n 4)) (.bin .Add (.loc "takes") (.list X [.n (-1)])) (.loc "takes"))] [.iff (.cmp (.loc "code") .Eq (.n 13)) [.asg "gives" (.sub (.loc "labels") (.bin .Sub (.bin .Sub (.bi "len" [.loc "labels"]) (.n 1)) (.sub (.loc "op") (.n 1)))),.asg "takes" (.bin .Add (.loc "gives") (.list X [.n (-1)]))] [.cC ["takes","gives"] (.call "_law_fixed" [.loc "op",.loc "places"])]],
 .iff (.not (.call "_law_given" [.loc "book",.loc "need",.loc "gives"])) [.ret (.lit .none)] [],
 .expr (.aK (.sub (.loc "need") (.n 0)) "extend" [.comp X (.call "_law_place" [.loc "book",.list X [.loc "kind"]]) "kind" (.loc "takes") []]),
 .ret (.loc "need")]⟩
noncomputable def qk:bp:=⟨["body","results","places"],[
 .cC ["nodes","at"] (.call "_law_read" [.loc "body",.n 0]),
 .ret (.call "_law_holds" [.loc "nodes",.list X [],.loc "results",.list X [.loc "results"],.loc "places",.list aN []])]⟩
def ey:bp:=⟨["body","many"],[
 .iff (.cmp (.loc "many") .Eq (.bi "len" [.loc "body"])) [.ret (.loc "body")] [],
 .asg "opened" (.list aN []),
 .cJ (.one "op") (.seq (.hR (.loc "body") (.loc "many"))) [.iff (.cmp (.sub (.loc "op") (.n 0)) .In (.tup [.n 2,.n 3,.n 4])) [.expr (.aK (.loc "opened") "append" [.sub (.loc "op") (.n 0)])] [.iff (.cmp (.sub (.loc "op") (.n 0)) .Eq (.n 5)) [.gp (.loc "opened") (.n (-1)) (.n 5)] [.iff (.cmp (.sub (.loc "op") (.n 0)) .Eq (.n 11)) [.expr (.aK (.loc "opened") "pop" [])] []]]],
 .asg "found" (.bin .Add (.hR (.loc "body") (.loc "many")) (.list X [.tup [.n 0]])),
 .cJ (.one "code") (.rev (.freeze (.loc "opened"))) [.asg "found" (.bin .Add (.bin .Add (.loc "found") (.ite (.cmp (.loc "code") .Eq (.n 4)) (.list X [.tup [.n 5],.tup [.n 0]]) (.list X []))) (.list X [.tup [.n 11],.tup [.n 0]]))],
 .ret (.bin .Add (.loc "found") (.list X [.tup [.n 11]]))]⟩
def hY:bp:=⟨["body","results","places"],[
 .cC ["frames","high","found"] (.tup [.list aN [.tup [.n 0,.n 0,.bi "len" [.loc "results"]]],.n 0,.list aN []]),
 .cJ (.one "op") (.seq (.loc "body")) [.expr (.aK (.loc "found") "append" [.loc "high"]),.asg "code" (.sub (.loc "op") (.n 0)),.iff (.cmp (.loc "code") .In (.tup [.n 2,.n 3,.n 4])) [.cC ["takes","gives"] (.call "_law_arrow" [.sub (.loc "op") (.n 1)]),.asg "base" (.ite (.cmp (.loc "high") .Is (.lit .none)) (.lit .none) (.bin .Sub (.bin .Sub (.loc "high") (.bi "len" [.loc "takes"])) (.ite (.cmp (.loc "code") .Eq (.n 4)) (.n 1) (.n 0)))),.expr (.aK (.loc "frames") "append" [.tup [.loc "base",.bi "len" [.loc "takes"],.bi "len" [.loc "gives"]]]),.asg "high" (.ite (.cmp (.loc "base") .Is (.lit .none)) (.lit .none) (.bin .Add (.loc "base") (.bi "len" [.loc "takes"])))] [.iff (.cmp (.loc "code") .In (.tup [.n 5,.n 11])) [.cC ["base","many","more"] (.sub (.loc "frames") (.n (-1))),.asg "high" (.ite (.cmp (.loc "base") .Is (.lit .none)) (.lit .none) (.bin .Add (.loc "base") (.ite (.cmp (.loc "code") .Eq (.n 5)) (.loc "many") (.loc "more")))),.iff (.cmp (.loc "code") .Eq (.n 11)) [.expr (.aK (.loc "frames") "pop" [])] []] [.iff (.cmp (.loc "code") .In (.tup [.n 0,.n 12,.n 14,.n 15])) [.asg "high" (.lit .none)] [.iff (.and [.cmp (.loc "high") .IsNot (.lit .none),.cmp (.loc "code") .In (.tup [.n 13,.n 26,.n 27,.n 209])]) [.aug "high" .Add (.kG [13,26,27,209] [.n (-1),.n (-1),.n (-2),.n 0] (.loc "code"))] [.iff (.cmp (.loc "high") .IsNot (.lit .none)) [.cC ["takes","gives"] (.call "_law_fixed" [.loc "op",.loc "places"]),.aug "high" .Add (.bin .Sub (.bi "len" [.loc "gives"]) (.bi "len" [.loc "takes"]))] []]]]]],
 .ret (.freeze (.loc "found"))]⟩
def yF:bp:=⟨["pick","digits","many","places"],[
 .asg "kind" (.sub (.tup [.n (-2),.n (-1),.n (-16),.n (-17)]) (.bin .Mod (.loc "digits") (.n 4))),
 .iff (.cmp (.loc "pick") .Lt (.n 5)) [.asg "label" (.bin .Mod (.loc "digits") (.loc "many")),.ret (.sub (.tup [.tup [.n 0],.tup [.n 12,.loc "label"],.tup [.n 13,.loc "label"],.tup [.n 14,.loc "label",.bin .Mod (.bin .FloorDiv (.loc "digits") (.n 5)) (.loc "many"),.bin .Mod (.bin .FloorDiv (.loc "digits") (.n 25)) (.loc "many")],.tup [.n 15]]) (.loc "pick"))] [],
 .iff (.cmp (.loc "pick") .Lt (.n 8)) [.ret (.sub (.tup [.tup [.n 26],.tup [.n 27],.tup [.n 28,.loc "kind"]]) (.bin .Sub (.loc "pick") (.n 5)))] [],
 .iff (.cmp (.loc "pick") .Lt (.n 12)) [.ret (.sub (.tup [.tup [.n 65,.bin .Mod (.loc "digits") (.n 90)],.tup [.n 66,.neg (.bin .Mod (.loc "digits") (.n 90))],.tup [.n 208,.sub (.tup [.n (-16),.n (-17)]) (.bin .Mod (.loc "digits") (.n 2))],.tup [.n 209]]) (.bin .Sub (.loc "pick") (.n 8)))] [],
 .iff (.cmp (.loc "pick") .Lt (.n 15)) [.ret (.sub (.tup [.tup [.n 106],.tup [.n 80],.tup [.n 124]]) (.bin .Sub (.loc "pick") (.n 12)))] [],
 .iff (.cmp (.loc "pick") .Lt (.n 18)) [.ret (.tup [.bin .Add (.n 17) (.loc "pick"),.bin .Mod (.loc "digits") (.bi "len" [.loc "places"])])] [],
 .iff (.cmp (.loc "pick") .Lt (.n 21)) [.ret (.tup [.bin .Sub (.loc "pick") (.n 16),.sub (.tup [.n (-64),.n (-1),.n (-2),.n (-16),.n 0,.n 1,.n 2,.n 3,.n 4]) (.bin .Mod (.loc "digits") (.n 9))])] [],
 .ret (.tup [.n 1])]⟩
def ou:bp:=⟨["script","is_sealed","places"],[
 .cC ["body","opened"] (.tup [.list aN [],.list aN []]),
 .cJ (.one "turn") (.range [.bi "max" [.n 5,.bi "min" [.n 12,.bin .Sub (.bi "len" [.loc "script"]) (.n 1)]]]) [.asg "number" (.ite (.cmp (.bin .Add (.loc "turn") (.n 1)) .Lt (.bi "len" [.loc "script"])) (.sub (.loc "script") (.bin .Add (.loc "turn") (.n 1))) (.n 0)),.cC ["pick","digits"] (.tup [.bin .Mod (.bin .Add (.bi "abs" [.loc "number"]) (.bin .Mult (.n 7) (.loc "turn"))) (.n 24),.bin .Mod (.bin .FloorDiv (.bi "abs" [.loc "number"]) (.n 24)) (.n 1000000000)]),.iff (.cmp (.loc "number") .Lt (.n 0)) [.expr (.aK (.loc "body") "append" [.tup [.n 0]])] [],.iff (.and [.cmp (.loc "pick") .Eq (.n 21),.cmp (.loc "opened") .NotEq (.list X []),.cmp (.sub (.loc "opened") (.n (-1))) .Eq (.n 4)]) [.gp (.loc "opened") (.n (-1)) (.n 5),.expr (.aK (.loc "body") "append" [.tup [.n 5]])] [.iff (.and [.cmp (.loc "pick") .Eq (.n 22),.cmp (.loc "opened") .NotEq (.list X [])]) [.expr (.aK (.loc "opened") "pop" []),.expr (.aK (.loc "body") "append" [.tup [.n 11]])] [.iff (.and [.ef (.n 18) .LtE (.loc "pick") .Lt (.n 21),.cmp (.bi "len" [.loc "opened"]) .Gt (.n 3)]) [.expr (.aK (.loc "body") "append" [.tup [.n 1]])] [.asg "op" (.call "_law_op" [.loc "pick",.loc "digits",.bin .Add (.bi "len" [.loc "opened"]) (.n 1),.loc "places"]),.expr (.aK (.loc "body") "append" [.loc "op"]),.iff (.cmp (.sub (.loc "op") (.n 0)) .In (.tup [.n 2,.n 3,.n 4])) [.expr (.aK (.loc "opened") "append" [.sub (.loc "op") (.n 0)])] []]]]],
 .cJ (.one "k") (.range [.bin .Add (.bi "len" [.loc "opened"]) (.n 1)]) [.expr (.aK (.loc "body") "extend" [.ite (.loc "is_sealed") (.list X [.tup [.n 0],.tup [.n 11]]) (.list X [.tup [.n 11]])])],
 .ret (.freeze (.loc "body"))]⟩
def rM:bp:=⟨["script"],[
 .asg "first" (.ite (.cmp (.loc "script") .NotEq (.list X [])) (.sub (.loc "script") (.n 0)) (.n 0)),
 .asg "own" (.bin .Mod (.loc "first") (.n 5)),
 .cC ["starts","results"] (.call "_law_arrow" [.loc "own"]),
 .asg "places" (.bin .Add (.loc "starts") (.list X [.n (-1),.n (-2),.n (-17)])),
 .asg "body" (.call "_law_body" [.loc "script",.cmp (.bin .Mod (.bin .FloorDiv (.loc "first") (.n 5)) (.n 2)) .Eq (.n 1),.loc "places"]),
 .asg "scope" (.new "Scope" "Scope.__init__" [.bi "list" [.glob "_law_kinds"],.list X [.loc "own"],.list X [],.list X [],.list X [],.list X [],.n 0,.lit .ny]),
 .asg "func" (.new "Func" "Func.__init__" [.loc "own",.tup [.n (-1),.n (-2),.n (-17)],.bi "list" [.loc "body"]]),
 .w6 (.call "check_function" [.loc "scope",.n 0,.loc "func"]) "fault" [.iff (.or [.call "_law_is_right" [.loc "body",.loc "results",.loc "places"],.cmp (.attr (.loc "fault") "why") .NotEq (.lit (.str "type mismatch")),.cmp (.attr (.loc "fault") "function") .NotEq (.n 0)]) [.ret (.lit (.bool aN))] [],.iff (.or [.not (.ef (.n 0) .LtE (.attr (.loc "fault") "at") .Lt (.bi "len" [.loc "body"])),.not (.call "_law_is_right" [.call "_law_sealed" [.loc "body",.attr (.loc "fault") "at"],.loc "results",.loc "places"])]) [.ret (.lit (.bool aN))] [],.ret (.not (.call "_law_is_right" [.call "_law_sealed" [.loc "body",.bin .Add (.attr (.loc "fault") "at") (.n 1)],.loc "results",.loc "places"]))],
 .iff (.not (.call "_law_is_right" [.loc "body",.loc "results",.loc "places"])) [.ret (.lit (.bool aN))] [],
 .ret (.cmp (.call "heights_of" [.loc "scope",.n 0,.loc "func"]) .Eq (.call "_law_heights" [.loc "body",.loc "results",.loc "places"]))]⟩
def PT:J (a7×bp):=[
 ("number_kind",xZ),
 ("is_block",CA),
 ("is_kind",D7),
 ("block_kind",p8),
 ("is_number_kind",ta),
 ("Block.__init__",p9),
 ("Block.label",pG),
 ("StackCheck.__init__",kL),
 ("StackCheck.push",kM),
 ("StackCheck.push_all",iI),
 ("StackCheck.pop_any",iY),
 ("StackCheck.pop",lK),
 ("StackCheck.pop_all",iZ),
 ("StackCheck.begin",j9),
 ("StackCheck.close",ke),
 ("StackCheck.kill",kN),
 ("StackCheck.target",ju),
 ("StackCheck.block_kind",gY),
 ("StackCheck.local_at",iJ),
 ("StackCheck.check",eT),
 ("StackCheck.step",kO),
 ("StackCheck.number",jv),
 ("StackCheck.control",cY),
 ("StackCheck.other",kf),
 ("StackCheck.end",lL),
 ("StackCheck.branch",jw),
 ("StackCheck.local",kh),
 ("StackCheck.select",jx),
 ("is_reference_kind",pU),
 ("Scope.__init__",qa),
 ("Checker.__init__",nB),
 ("Checker.more",nG),
 ("Checker.reference",jy),
 ("checker_of",qh),
 ("check_function",fL),
 ("heights_of",lM),
 ("Func.__init__",sx),
 ("_law_arrow",w7),
 ("_law_fixed",w8),
 ("_law_read",yE),
 ("_law_place",qi),
 ("_law_given",my),
 ("_law_holds",kj),
 ("_law_jump",td),
 ("_law_ahead",qj),
 ("_law_is_right",qk),
 ("_law_sealed",ey),
 ("_law_heights",hY),
 ("_law_op",yF),
 ("_law_body",ou),
 ("law",rM),
 ("block_kind_kinds",p8)]
noncomputable def GT:J (a7×AV):=[
 ("I32",.int (-1)),
 ("I64",.int (-2)),
 ("FUNCREF",.int (-16)),
 ("EXTERNREF",.int (-17)),
 ("EMPTY",.int (-64)),
 ("BLOCK",.int 2),
 ("LOOP",.int 3),
 ("IF",.int 4),
 ("ELSE",.int 5),
 ("UNKNOWN",.int 0),
 ("FUNCTION",.int (-1)),
 ("NUMBERS",.tup [.tup [.int 69,.int 69,.tup [.int (-1)],.tup [.int (-1)]],.tup [.int 70,.int 79,.tup [.int (-1),.int (-1)],.tup [.int (-1)]],.tup [.int 80,.int 80,.tup [.int (-2)],.tup [.int (-1)]],.tup [.int 81,.int 90,.tup [.int (-2),.int (-2)],.tup [.int (-1)]],.tup [.int 103,.int 105,.tup [.int (-1)],.tup [.int (-1)]],.tup [.int 106,.int 120,.tup [.int (-1),.int (-1)],.tup [.int (-1)]],.tup [.int 121,.int 123,.tup [.int (-2)],.tup [.int (-2)]],.tup [.int 124,.int 138,.tup [.int (-2),.int (-2)],.tup [.int (-2)]],.tup [.int 167,.int 167,.tup [.int (-2)],.tup [.int (-1)]],.tup [.int 172,.int 173,.tup [.int (-1)],.tup [.int (-2)]],.tup [.int 192,.int 193,.tup [.int (-1)],.tup [.int (-1)]],.tup [.int 194,.int 196,.tup [.int (-2)],.tup [.int (-2)]]]),
 ("MEMORY_BULK",.tup [.int 64520,.int 64522,.int 64523]),
 ("THREE",.tup [.int (-1),.int (-1),.int (-1)]),
 ("_law_kinds",.tup [.tup [.tup [],.tup []],.tup [.tup [],.tup [.int (-1)]],.tup [.tup [.int (-2)],.tup [.int (-2)]],.tup [.tup [.int (-1),.int (-16)],.tup [.int (-2),.int (-1)]],.tup [.tup [.int (-2),.int (-1)],.tup []]])]
noncomputable def Bj:J a7:=["code","params","results","height","is_dead","is_buried","kinds","funcs","function","locals","values","blocks","at","tables","memories","globals","elems","datas","declared","scope","kind","body","why"]
noncomputable def IX:J (a7×a7×a7):=[
 ("Checker","fail","StackCheck.fail"),
 ("Checker","pop_any","StackCheck.pop_any"),
 ("Checker","pop","StackCheck.pop"),
 ("Checker","push_all","StackCheck.push_all"),
 ("Checker","pop_all","StackCheck.pop_all"),
 ("Block","label","Block.label"),
 ("Checker","step","StackCheck.step"),
 ("Checker","control","StackCheck.control"),
 ("Checker","local","StackCheck.local"),
 ("Checker","push","StackCheck.push"),
 ("Checker","number","StackCheck.number"),
 ("Checker","more","Checker.more"),
 ("Checker","kill","StackCheck.kill"),
 ("Checker","block_kind","StackCheck.block_kind"),
 ("Checker","begin","StackCheck.begin"),
 ("Checker","other","StackCheck.other"),
 ("Checker","end","StackCheck.end"),
 ("Checker","branch","StackCheck.branch"),
 ("Checker","func_at","StackCheck.func_at"),
 ("Checker","call","StackCheck.call"),
 ("Checker","close","StackCheck.close"),
 ("Checker","target","StackCheck.target"),
 ("Checker","select","StackCheck.select"),
 ("Checker","local_at","StackCheck.local_at"),
 ("Checker","indirect","Checker.indirect"),
 ("Checker","cell","Checker.cell"),
 ("Checker","memory","Checker.memory"),
 ("Checker","reference","Checker.reference"),
 ("Checker","octets","Checker.octets"),
 ("Checker","elements","Checker.elements"),
 ("Checker","check","StackCheck.check")]
noncomputable def M0:J (a7×a7×a7):=[("StackCheck","__init__","StackCheck.__init__")]
noncomputable def NT:J (a7×a7):=[("Block","Block.__init__"),("Checker","Checker.__init__"),("Scope","Scope.__init__"),("Func","Func.__init__")]
noncomputable def ug:J a7:=["Block","Checker","Scope","Func"]
def GG (x:a7):aI AV:=GT.lookup x
def PP (f:a7):aI bp:=PT.lookup f
noncomputable def GF:J a7:=["number_kind","is_block","is_kind","block_kind","is_number_kind","is_reference_kind","checker_of","check_function","heights_of","_law_arrow","_law_fixed","_law_read","_law_place","_law_given","_law_holds","_law_jump","_law_ahead","_law_is_right","_law_sealed","_law_heights","_law_op","_law_body","block_kind_kinds"]
noncomputable def M1:J a7:=["append","pop","reverse","extend"]
noncomputable def IY:J a7:=["len","abs","list","tuple","max","min"]
noncomputable abbrev Nm:=J (cD×j2)
noncomputable def uh (P:BoolOp->(J Expr)->Pos->aS)(z:c7):aS:=if h:z.ctorIdx=0 then ER (motive_1:=λ_=>aS) z h P else aN
def iz{P:BoolOp->(J Expr)->Pos->aS}{z:c7}(h:uh P z=X):∃op vs p,z=vh op vs p/\P op vs p=X:=by
 unfold uh at h;by_cases q:z.ctorIdx=0
 ·rw[kn q] at h;exact ER (motive_1:=λz=>∀q,ER (motive_1:=λa=>aS) z q P=X->∃op vs p,z=vh op vs p/\P op vs p=X) z q (λop vs p a h=>⟨op,vs,p,Z,h⟩) q h
 ·rw[ku q] at h;injection h
noncomputable def CB (P:Expr->oR->Expr->Pos->aS)(z:c7):aS:=if h:z.ctorIdx=2 then Hc (motive_1:=λ_=>aS) z h P else aN
def rN{P:Expr->oR->Expr->Pos->aS}{z:c7}(h:CB P z=X):∃l op r p,z=xr l op r p/\P l op r p=X:=by
 unfold CB at h;by_cases q:z.ctorIdx=2
 ·rw[kn q] at h;exact Hc (motive_1:=λz=>∀q,Hc (motive_1:=λa=>aS) z q P=X->∃l op r p,z=xr l op r p/\P l op r p=X) z q (λl op r p a h=>⟨l,op,r,p,Z,h⟩) q h
 ·rw[ku q] at h;injection h
noncomputable def Bk (P:UnaryOp->Expr->Pos->aS)(z:c7):aS:=if h:z.ctorIdx=3 then C7 (motive_1:=λ_=>aS) z h P else aN
def lN{P:UnaryOp->Expr->Pos->aS}{z:c7}(h:Bk P z=X):∃op x p,z=uE op x p/\P op x p=X:=by
 unfold Bk at h;by_cases q:z.ctorIdx=3
 ·rw[kn q] at h;exact C7 (motive_1:=λz=>∀q,C7 (motive_1:=λa=>aS) z q P=X->∃op x p,z=uE op x p/\P op x p=X) z q (λop x p a h=>⟨op,x,p,Z,h⟩) q h
 ·rw[ku q] at h;injection h
noncomputable def M3 (P:Expr->Expr->Expr->Pos->aS)(z:c7):aS:=if h:z.ctorIdx=5 then Hx (motive_1:=λ_=>aS) z h P else aN
def yG{P:Expr->Expr->Expr->Pos->aS}{z:c7}(h:M3 P z=X):∃t a b p,z=xv t a b p/\P t a b p=X:=by
 unfold M3 at h;by_cases q:z.ctorIdx=5
 ·rw[kn q] at h;exact Hx (motive_1:=λz=>∀q,Hx (motive_1:=λc=>aS) z q P=X->∃t a b p,z=xv t a b p/\P t a b p=X) z q (λt a b p c h=>⟨t,a,b,p,Z,h⟩) q h
 ·rw[ku q] at h;injection h
noncomputable def ye (P:(J (aI Expr))->(J Expr)->Pos->aS)(z:c7):aS:=if h:z.ctorIdx=6 then Jb (motive_1:=λ_=>aS) z h P else aN
def tf{P:(J (aI Expr))->(J Expr)->Pos->aS}{z:c7}(h:ye P z=X):∃e vs p,z=yV e vs p/\P e vs p=X:=by
 unfold ye at h;by_cases q:z.ctorIdx=6
 ·rw[kn q] at h;exact Jb (motive_1:=λz=>∀q,Jb (motive_1:=λa=>aS) z q P=X->∃e vs p,z=yV e vs p/\P e vs p=X) z q (λe vs p a h=>⟨e,vs,p,Z,h⟩) q h
 ·rw[ku q] at h;injection h
noncomputable def CC (P:Expr->(J TQ)->JE->Pos->aS)(z:c7):aS:=if h:z.ctorIdx=8 then zY (motive_1:=λ_=>aS) z h P else aN
def tg{P:Expr->(J TQ)->JE->Pos->aS}{z:c7}(h:CC P z=X):∃e a g p,z=tv e a g p/\P e a g p=X:=by
 unfold CC at h;by_cases q:z.ctorIdx=8
 ·rw[kn q] at h;exact zY (motive_1:=λz=>∀q,zY (motive_1:=λb=>aS) z q P=X->∃e a g p,z=tv e a g p/\P e a g p=X) z q (λe a g p b h=>⟨e,a,g,p,Z,h⟩) q h
 ·rw[ku q] at h;injection h
noncomputable def ql (P:Expr->(J Gm)->(J Expr)->Pos->aS)(z:c7):aS:=if h:z.ctorIdx=15 then C8 (motive_1:=λ_=>aS) z h P else aN
def vU{P:Expr->(J Gm)->(J Expr)->Pos->aS}{z:c7}(h:ql P z=X):∃l ops e p,z=uR l ops e p/\P l ops e p=X:=by
 unfold ql at h;by_cases q:z.ctorIdx=15
 ·rw[kn q] at h;exact C8 (motive_1:=λz=>∀q,C8 (motive_1:=λa=>aS) z q P=X->∃l ops e p,z=uR l ops e p/\P l ops e p=X) z q (λl ops e p a h=>⟨l,ops,e,p,Z,h⟩) q h
 ·rw[ku q] at h;injection h
noncomputable def fc (P:Expr->(J Expr)->(J Vu)->Pos->aS)(z:c7):aS:=if h:z.ctorIdx=16 then Jc (motive_1:=λ_=>aS) z h P else aN
def dS{P:Expr->(J Expr)->(J Vu)->Pos->aS}{z:c7}(h:fc P z=X):∃f e g p,z=yW f e g p/\P f e g p=X:=by
 unfold fc at h;by_cases q:z.ctorIdx=16
 ·rw[kn q] at h;exact Jc (motive_1:=λz=>∀q,Jc (motive_1:=λa=>aS) z q P=X->∃f e g p,z=yW f e g p/\P f e g p=X) z q (λf e g p a h=>⟨f,e,g,p,Z,h⟩) q h
 ·rw[ku q] at h;injection h
noncomputable def ic (P:iA->S->Pos->aS)(z:c7):aS:=if h:z.ctorIdx=19 then Az (motive_1:=λ_=>aS) z h P else aN
def fH{P:iA->S->Pos->aS}{z:c7}(h:ic P z=X):∃c k p,z=ux c k p/\P c k p=X:=by
 unfold ic at h;by_cases q:z.ctorIdx=19
 ·rw[kn q] at h;exact Az (motive_1:=λz=>∀q,Az (motive_1:=λa=>aS) z q P=X->∃c k p,z=ux c k p/\P c k p=X) z q (λc k p a h=>⟨c,k,p,Z,h⟩) q h
 ·rw[ku q] at h;injection h
noncomputable def kT (P:Expr->cD->Pos->aS)(z:c7):aS:=if h:z.ctorIdx=20 then za (motive_1:=λ_=>aS) z h P else aN
def gE{P:Expr->cD->Pos->aS}{z:c7}(h:kT P z=X):∃b g p,z=rj b g p/\P b g p=X:=by
 unfold kT at h;by_cases q:z.ctorIdx=20
 ·rw[kn q] at h;exact za (motive_1:=λz=>∀q,za (motive_1:=λa=>aS) z q P=X->∃b g p,z=rj b g p/\P b g p=X) z q (λb g p a h=>⟨b,g,p,Z,h⟩) q h
 ·rw[ku q] at h;injection h
noncomputable def qn (P:Expr->Expr->Pos->aS)(z:c7):aS:=if h:z.ctorIdx=21 then zd (motive_1:=λ_=>aS) z h P else aN
def ly{P:Expr->Expr->Pos->aS}{z:c7}(h:qn P z=X):∃b j p,z=rm b j p/\P b j p=X:=by
 unfold qn at h;by_cases q:z.ctorIdx=21
 ·rw[kn q] at h;exact zd (motive_1:=λz=>∀q,zd (motive_1:=λa=>aS) z q P=X->∃b j p,z=rm b j p/\P b j p=X) z q (λb j p a h=>⟨b,j,p,Z,h⟩) q h
 ·rw[ku q] at h;injection h
noncomputable def rO (P:cD->Pos->aS)(z:c7):aS:=if h:z.ctorIdx=23 then Jd (motive_1:=λ_=>aS) z h P else aN
def ow{P:cD->Pos->aS}{z:c7}(h:rO P z=X):∃id p,z=zf id p/\P id p=X:=by
 unfold rO at h;by_cases q:z.ctorIdx=23
 ·rw[kn q] at h;exact Jd (motive_1:=λz=>∀q,Jd (motive_1:=λa=>aS) z q P=X->∃id p,z=zf id p/\P id p=X) z q (λid p a h=>⟨id,p,Z,h⟩) q h
 ·rw[ku q] at h;injection h
noncomputable def F5 (P:(J Expr)->Pos->aS)(z:c7):aS:=if h:z.ctorIdx=24 then Jh (motive_1:=λ_=>aS) z h P else aN
def Bl{P:(J Expr)->Pos->aS}{z:c7}(h:F5 P z=X):∃e p,z=zg e p/\P e p=X:=by
 unfold F5 at h;by_cases q:z.ctorIdx=24
 ·rw[kn q] at h;exact Jh (motive_1:=λz=>∀q,Jh (motive_1:=λa=>aS) z q P=X->∃e p,z=zg e p/\P e p=X) z q (λe p a h=>⟨e,p,Z,h⟩) q h
 ·rw[ku q] at h;injection h
noncomputable def vV (P:(J Expr)->S->Pos->aS)(z:c7):aS:=if h:z.ctorIdx=25 then Hy (motive_1:=λ_=>aS) z h P else aN
def nH{P:(J Expr)->S->Pos->aS}{z:c7}(h:vV P z=X):∃e k p,z=xw e k p/\P e k p=X:=by
 unfold vV at h;by_cases q:z.ctorIdx=25
 ·rw[kn q] at h;exact Hy (motive_1:=λz=>∀q,Hy (motive_1:=λa=>aS) z q P=X->∃e k p,z=xw e k p/\P e k p=X) z q (λe k p a h=>⟨e,k,p,Z,h⟩) q h
 ·rw[ku q] at h;injection h
noncomputable def ui (P:(aI Expr)->(aI Expr)->(aI Expr)->Pos->aS)(z:c7):aS:=if h:z.ctorIdx=26 then HA (motive_1:=λ_=>aS) z h P else aN
def w9{P:(aI Expr)->(aI Expr)->(aI Expr)->Pos->aS}{z:c7}(h:ui P z=X):∃l u t p,z=xy l u t p/\P l u t p=X:=by
 unfold ui at h;by_cases q:z.ctorIdx=26
 ·rw[kn q] at h;exact HA (motive_1:=λz=>∀q,HA (motive_1:=λa=>aS) z q P=X->∃l u t p,z=xy l u t p/\P l u t p=X) z q (λl u t p a h=>⟨l,u,t,p,Z,h⟩) q h
 ·rw[ku q] at h;injection h
noncomputable def F6 (P:(aI Expr)->Pos->aS)(z:ea):aS:=if h:z.ctorIdx=3 then ET (motive_2:=λ_=>aS) z h P else aN
def Kd{P:(aI Expr)->Pos->aS}{z:ea}(h:F6 P z=X):∃e p,z=vv e p/\P e p=X:=by
 unfold F6 at h;by_cases q:z.ctorIdx=3
 ·rw[kn q] at h;exact ET (motive_2:=λz=>∀q,ET (motive_2:=λa=>aS) z q P=X->∃e p,z=vv e p/\P e p=X) z q (λe p a h=>⟨e,p,Z,h⟩) q h
 ·rw[ku q] at h;injection h
noncomputable def th (P:(J Expr)->Expr->Pos->aS)(z:ea):aS:=if h:z.ctorIdx=5 then Fd (motive_2:=λ_=>aS) z h P else aN
def nJ{P:(J Expr)->Expr->Pos->aS}{z:ea}(h:th P z=X):∃g e p,z=vC g e p/\P g e p=X:=by
 unfold th at h;by_cases q:z.ctorIdx=5
 ·rw[kn q] at h;exact Fd (motive_2:=λz=>∀q,Fd (motive_2:=λa=>aS) z q P=X->∃g e p,z=vC g e p/\P g e p=X) z q (λg e p a h=>⟨g,e,p,Z,h⟩) q h
 ·rw[ku q] at h;injection h
noncomputable def F7 (P:Expr->oR->Expr->Pos->aS)(z:ea):aS:=if h:z.ctorIdx=7 then zh (motive_2:=λ_=>aS) z h P else aN
def Ke{P:Expr->oR->Expr->Pos->aS}{z:ea}(h:F7 P z=X):∃t op e p,z=rF t op e p/\P t op e p=X:=by
 unfold F7 at h;by_cases q:z.ctorIdx=7
 ·rw[kn q] at h;exact zh (motive_2:=λz=>∀q,zh (motive_2:=λa=>aS) z q P=X->∃t op e p,z=rF t op e p/\P t op e p=X) z q (λt op e p a h=>⟨t,op,e,p,Z,h⟩) q h
 ·rw[ku q] at h;injection h
noncomputable def F8 (P:Expr->Expr->(J ea)->(J ea)->Pos->aS)(z:ea):aS:=if h:z.ctorIdx=9 then JT (motive_2:=λ_=>aS) z h P else aN
def Kf{P:Expr->Expr->(J ea)->(J ea)->Pos->aS}{z:ea}(h:F8 P z=X):∃t i b o p,z=A7 t i b o p/\P t i b o p=X:=by
 unfold F8 at h;by_cases q:z.ctorIdx=9
 ·rw[kn q] at h;exact JT (motive_2:=λz=>∀q,JT (motive_2:=λa=>aS) z q P=X->∃t i b o p,z=A7 t i b o p/\P t i b o p=X) z q (λt i b o p a h=>⟨t,i,b,o,p,Z,h⟩) q h
 ·rw[ku q] at h;injection h
noncomputable def F9 (P:Expr->(J ea)->(J ea)->Pos->aS)(z:ea):aS:=if h:z.ctorIdx=11 then H0 (motive_2:=λ_=>aS) z h P else aN
def Kg{P:Expr->(J ea)->(J ea)->Pos->aS}{z:ea}(h:F9 P z=X):∃t b o p,z=xI t b o p/\P t b o p=X:=by
 unfold F9 at h;by_cases q:z.ctorIdx=11
 ·rw[kn q] at h;exact H0 (motive_2:=λz=>∀q,H0 (motive_2:=λa=>aS) z q P=X->∃t b o p,z=xI t b o p/\P t b o p=X) z q (λt b o p a h=>⟨t,b,o,p,Z,h⟩) q h
 ·rw[ku q] at h;injection h
noncomputable def M4 (P:Expr->(J ea)->(J ea)->Pos->aS)(z:ea):aS:=if h:z.ctorIdx=12 then L4 (motive_2:=λ_=>aS) z h P else aN
def M5{P:Expr->(J ea)->(J ea)->Pos->aS}{z:ea}(h:M4 P z=X):∃t b o p,z=GD t b o p/\P t b o p=X:=by
 unfold M4 at h;by_cases q:z.ctorIdx=12
 ·rw[kn q] at h;exact L4 (motive_2:=λz=>∀q,L4 (motive_2:=λa=>aS) z q P=X->∃t b o p,z=GD t b o p/\P t b o p=X) z q (λt b o p a h=>⟨t,b,o,p,Z,h⟩) q h
 ·rw[ku q] at h;injection h
noncomputable def qo (P:(aI Expr)->(aI Expr)->Pos->aS)(z:ea):aS:=if h:z.ctorIdx=16 then H6 (motive_2:=λ_=>aS) z h P else aN
def D8{P:(aI Expr)->(aI Expr)->Pos->aS}{z:ea}(h:qo P z=X):∃e c p,z=xU e c p/\P e c p=X:=by
 unfold qo at h;by_cases q:z.ctorIdx=16
 ·rw[kn q] at h;exact H6 (motive_2:=λz=>∀q,H6 (motive_2:=λa=>aS) z q P=X->∃e c p,z=xU e c p/\P e c p=X) z q (λe c p a h=>⟨e,c,p,Z,h⟩) q h
 ·rw[ku q] at h;injection h
noncomputable def Ga (P:(J ea)->(J NU)->(J ea)->(J ea)->Pos->aS)(z:ea):aS:=if h:z.ctorIdx=17 then JW (motive_2:=λ_=>aS) z h P else aN
def Kh{P:(J ea)->(J NU)->(J ea)->(J ea)->Pos->aS}{z:ea}(h:Ga P z=X):∃b e o f p,z=A8 b e o f p/\P b e o f p=X:=by
 unfold Ga at h;by_cases q:z.ctorIdx=17
 ·rw[kn q] at h;exact JW (motive_2:=λz=>∀q,JW (motive_2:=λa=>aS) z q P=X->∃b e o f p,z=A8 b e o f p/\P b e o f p=X) z q (λb e o f p a h=>⟨b,e,o,f,p,Z,h⟩) q h
 ·rw[ku q] at h;injection h
noncomputable def uj (P:Expr->Pos->aS)(z:ea):aS:=if h:z.ctorIdx=24 then Ji (motive_2:=λ_=>aS) z h P else aN
def ti{P:Expr->Pos->aS}{z:ea}(h:uj P z=X):∃e p,z=zi e p/\P e p=X:=by
 unfold uj at h;by_cases q:z.ctorIdx=24
 ·rw[kn q] at h;exact Ji (motive_2:=λz=>∀q,Ji (motive_2:=λa=>aS) z q P=X->∃e p,z=zi e p/\P e p=X) z q (λe p a h=>⟨e,p,Z,h⟩) q h
 ·rw[ku q] at h;injection h
noncomputable def CD (P:aS->aS)(z:iA):aS:=if h:z.ctorIdx=1 then H7 (motive:=λ_=>aS) z h P else aN
def Gb{P:aS->aS}{z:iA}(h:CD P z=X):∃b,z=x1 b/\P b=X:=by
 unfold CD at h;by_cases q:z.ctorIdx=1
 ·rw[kn q] at h;exact H7 (motive:=λz=>∀q,H7 (motive:=λa=>aS) z q P=X->∃b,z=x1 b/\P b=X) z q (λb a h=>⟨b,Z,h⟩) q h
 ·rw[ku q] at h;injection h
noncomputable def vW (P:T->aS)(z:iA):aS:=if h:z.ctorIdx=2 then Jj (motive:=λ_=>aS) z h P else aN
def rP{P:T->aS}{z:iA}(h:vW P z=X):∃i,z=zt i/\P i=X:=by
 unfold vW at h;by_cases q:z.ctorIdx=2
 ·rw[kn q] at h;exact Jj (motive:=λz=>∀q,Jj (motive:=λa=>aS) z q P=X->∃i,z=zt i/\P i=X) z q (λi a h=>⟨i,Z,h⟩) q h
 ·rw[ku q] at h;injection h
noncomputable def Gd (P:cD->aS)(z:iA):aS:=if h:z.ctorIdx=5 then Jk (motive:=λ_=>aS) z h P else aN
def Ki{P:cD->aS}{z:iA}(h:Gd P z=X):∃s,z=zu s/\P s=X:=by
 unfold Gd at h;by_cases q:z.ctorIdx=5
 ·rw[kn q] at h;exact Jk (motive:=λz=>∀q,Jk (motive:=λa=>aS) z q P=X->∃s,z=zu s/\P s=X) z q (λs a h=>⟨s,Z,h⟩) q h
 ·rw[ku q] at h;injection h
noncomputable def l1{e:Type}(P:e->aS):J e->aS
 | []=>aN
 | x::r=>match r with
  | []=>P x
  | _::_=>aN
def ez{e:Type}{P:e->aS}:∀{l:J e},l1 P l=X->∃x,l=[x]/\P x=X
 | [],h=>nomatch h
 | [x],h=>⟨x,Z,h⟩
 | _::_::_,h=>nomatch h
noncomputable def lc{e:Type}(P:e->J e->aS):J e->aS
 | []=>aN
 | x::r=>P x r
def dy{e:Type}{P:e->J e->aS}:∀{l:J e},lc P l=X->∃x r,l=x::r/\P x r=X
 | [],h=>nomatch h
 | x::r,h=>⟨x,r,Z,h⟩
noncomputable def oS{e:Type}(P:e->aS):aI e->aS
 | none=>aN
 | some x=>P x
def mz{e:Type}{P:e->aS}:∀{o:aI e},oS P o=X->∃x,o=O x/\P x=X
 | none,h=>nomatch h
 | some x,h=>⟨x,Z,h⟩
theorem b2:∀{a b:aS},(a&&b)=X->a=X/\b=X
 | true,_,h=>⟨Z,h⟩
def D9:∀{a b:aS},(a||b)=X->a=X\/b=X
 | true,_,_=>.inl Z
 | false,_,h=>.inr h
def b3{a b c:aS}(h:(a&&b&&c)=X):a=X/\b=X/\c=X:=⟨(b2 (b2 h).1).1,(b2 (b2 h).1).2,(b2 h).2⟩
def b4{a b c d:aS}(h:(a&&b&&c&&d)=X):a=X/\b=X/\c=X/\d=X:=⟨(b3 (b2 h).1).1,(b3 (b2 h).1).2.1,(b3 (b2 h).1).2.2,(b2 h).2⟩
def b5{a b c d e:aS}(h:(a&&b&&c&&d&&e)=X):a=X/\b=X/\c=X/\d=X/\e=X:=⟨(b2 (b2 h).1).1 |> λf=>(b4 (b2 h).1).1,(b4 (b2 h).1).2.1,(b4 (b2 h).1).2.2.1,(b4 (b2 h).1).2.2.2,(b2 h).2⟩
def nE{e:Type}{l:J e}(h:l.isEmpty=X):l=[]:=SA.mp h
def nO{e:Type}:∀{o:aI e},o.isNone=X->o=Q
 | none,_=>rfl
def Ea{l:J a7}{x:a7}(h:l.contains x=X):x∈l:=by simpa using h
noncomputable def Qp (nm:Nm)(id:cD)(x:a7):aS:=
 !(id==(".0":cD))&&id==aD x&&(nm.lookup id==O .local||nm.lookup id==O .cell)&&!(id==("__debug__":cD))
noncomputable def M6 (e:Nm)(id:cD)(x:a7):aS:=
 id==aD x&&e.lookup id==O .globalImplicit&&!(id==("__debug__":cD))
noncomputable def cf (e:Nm)(x:a7):Expr->aS:=rO λid _=>M6 e id x
noncomputable def dq (e:Nm)(x:a7):Expr->aS:=rO λid _=>Qp e id x
def cU{g:Nm}{x:a7}{e:Expr}(h:cf g x e=X):∃p,e=.Name (aD x) p/\g.lookup (aD x)=O .globalImplicit/\(aD x==("__debug__":cD))=aN:=by
 refine bY e (ow h) λid p=>?_;clear h;intro h;refine cF (b3 h) λU V h3=>?_;clear h;obtain rfl:=e5 U;exact dQ p Z (e5 V) (kx _▸h3)
def gQ{g:Nm}{x:a7}{e:Expr}(h:dq g x e=X):∃p,e=.Name (aD x) p/\(aD x==(".0":cD))=aN/\(g.lookup (aD x)=O .local\/g.lookup (aD x)=O .cell)/\(aD x==("__debug__":cD))=aN:=by
 refine bY e (ow h) λid p=>?_;clear h;intro h;refine eW (b4 h) λa U V h3=>?_;clear h;obtain rfl:=e5 U;exact L6 p Z (kx _▸a) ((D9 V).imp e5 e5) (kx _▸h3)
noncomputable def isLit (v:AV)(e:Expr):aS:=match v with
 | .none=>ic (λc _ _=>c==.none) e
 | .bool b=>ic (λc _ _=>CD (λc=>b==c) c) e
 | .int i=>ic (λc _ _=>vW (λj=>eo (i=j)) c) e
   || Bk (λop x _=>op==.USub&&ic (λc _ _=>vW (λj=>eo (i=-j)) c) x) e
   || CB (λl op r _=>op==.Pow&&ic (λc _ _=>vW (λa=>eo (i=1000000000/\a=10)) c) l&&ic (λc _ _=>vW (λb=>eo (b=9)) c) r) e
 | .str s=>ic (λc _ _=>Gd (λt=>t==aD s) c) e
 | .ny=>ye (λg vs _=>g.isEmpty&&vs.isEmpty) e
 | _=>aN
noncomputable def ip (e g:Nm):Nm:=g.map λp=>if p.2==.free&&e.lookup p.1==O .cell then(p.1,.cell) else p
noncomputable def qp (nm:Nm)(sc:JE)(x:cD):aS:=
 sc.kind==.function&&!sc.isCoroutine&&!sc.isGenerator &&
 sc.names.all (λp=>p.2 != .local||sc.names.lookup p.1==O .local) &&
 sc.names.all (λp=>p.2 != .cell) &&
 sc.names.all (λp=>p.2 != .free||nm.lookup p.1==O .cell) &&
 sc.names.all (λp=>p.2 != .local||p.1==x||p.1==(".0":cD)) &&
 sc.names.lookup x==O .local&&!(x==(".0":cD))
noncomputable def uk (e:Expr):aS:=!(fc (λf g h _=>rO (λ_ _=>X) f&&g.isEmpty&&h.isEmpty) e)
noncomputable def isCall:Expr->aS:=fc λ_ _ _ _=>X
noncomputable def keysOk (e:J T)(g:J (aI Expr)):aS:=
 decide (g.length=e.length)&&decide (0<e.length/\e.length<=15)&&(e.zip g).all (λp=>oS (isLit (.int p.1)) p.2)&&decide (e.Nodup)
mutual
def cy (k:Nm):ME->Expr->aS
 | .lit v=>isLit v
 | .loc x=>dq k x
 | .glob x=>λe=>cf k x e&&(GG x).isSome
 | .attr a f=>kT λb g s=>cy k a b&&uk b&&g==aD f&&Bj.contains f
 | .neg a=>Bk λop b s=>op==.USub&&cy k a b
 | .bin op a b=>CB λc dk d s=>op==dk&&cy k a c&&cy k b d
 | .cmp a op b=>ql λc ops ds s=>cy k a c&&l1 (λdk=>op==dk) ops&&l1 (λd=>cy k b d) ds
 | .ef a op b dk c=>ql λx ps ys s=>cy k a x&&lc (λp r=>op==p&&l1 (λp'=>dk==p') r) ps&&lc (λy r=>cy k b y&&l1 (λz=>cy k c z) r) ys
 | .fj a=>ql λc ops ds s=>cy k a c&&l1 (λp=>p==.In) ops&&l1 (cf k "KIND_NAMES") ds
 | .not a=>Bk λop b s=>op==.Not&&cy k a b
 | .and q=>uh λop L s=>op==.And&&!q.isEmpty&&dH k q L
 | .or q=>uh λop L s=>op==.Or&&!q.isEmpty&&dH k q L
 | .ite t a b=>M3 λu c d s=>cy k t u&&cy k a c&&cy k b d
 | .tup q=>vV λL s s=>dH k q L
 | .list _ q=>F5 λL s=>dH k q L
 | .kG W vs i=>qn λx j s=>ye (λIZ Eb s=>keysOk W IZ&&decide (vs.length=W.length)&&dH k vs Eb) x&&cy k i j
 | .sub a i=>qn λb j s=>cy k a b&&cy k i j
 | .ik a=>qn λb j s=>cy k a b&&ui (λl u t s=>oS (isLit (.int 1)) l&&u.isNone&&t.isNone) j
 | .hR a h=>qn λb j s=>cy k a b&&ui (λl u t s=>l.isNone&&oS (λv=>cy k h v) u&&t.isNone) j
 | .call f q=>fc λg L W s=>W.isEmpty&&cf k f g&&GF.contains f&&dH k q L&&decide (q.length<20)
 | .new c f q=>fc λg L W s=>W.isEmpty&&cf k c g&&NT.contains (c,f)&&dH k q L&&decide (q.length<20)
 | .ix o c m f q=>fc λg L W é=>W.isEmpty&&kT (λp n ap=>cy k o p&&uk p&&IX.contains (c,m,f)&&n==aD m&&ap.endLine==é.line) g&&dH k q L&&decide (q.length<20)
 | .il c m f q=>fc λg L W é=>W.isEmpty&&kT (λp n ap=>cf k c p&&M0.contains (c,m,f)&&n==aD m&&ap.endLine==é.line) g&&dH k q L&&decide (q.length<20)
 | .aK o m q=>fc λg L W é=>W.isEmpty&&kT (λp n ap=>cy k o p&&uk p&&M1.contains m&&n==aD m&&ap.endLine==é.line) g&&dH k q L&&decide (q.length<20)
 | .bi f q=>fc λg L W s=>W.isEmpty&&cf k f g&&IY.contains f&&dH k q L&&decide (q.length<20)
 | .comp _ è x iter cond=>CC λe gs sc s=>l1 (λc=>c.is_async==0&&cy k iter c.iter&&qp k sc (aD x)&&dq (ip k sc.names) x c.target&&cy (ip k sc.names) è e&&dH (ip k sc.names) cond c.ifs) gs
 | .freeze a=>rO λid p=>cy k a (.Name id p)
def dH (g:Nm):J ME->J Expr->aS
 | []=>λl=>l.isEmpty
 | a::h=>lc λe i=>cy g a e&&dH g h i
end
def CE (h:Nm)(m:sv)(e:Expr):aS:=match m with
 | .seq a=>cy h a e
 | .range k=>fc (λg i j _=>j.isEmpty&&cf h "range" g&&dH h k i&&decide (k.length<20)) e
 | .enum a=>fc (λg i j _=>j.isEmpty&&cf h "enumerate" g&&l1 (cy h a) i) e
 | .rev a=>fc (λg i j _=>j.isEmpty&&cf h "reversed" g&&l1 (cy h a) i) e
noncomputable def iK (g:Nm):J a7->J Expr->aS
 | []=>λl=>l.isEmpty
 | x::h=>lc λe i=>dq g x e&&iK g h i
noncomputable def yf (h:Nm)(t:pF)(e:Expr):aS:=match t with
 | .one x=>dq h x e
 | .many g=>vV (λi _ _=>iK h g i&&decide (g.Nodup)&&decide (g.length<20)) e
noncomputable def yH (e:Expr):aS:=!vV (λvs _ _=>!(vs.all (foldedForSure 8)||!(vs.all (constantsAlone 8)))) e
mutual
noncomputable def yI:MS->aS
 | .iff _ a b=>d5 a||d5 b
 | .mv _ a=>d5 a
 | .cJ _ _ a=>d5 a
 | .w6 _ _ _=>X
 | _=>aN
noncomputable def d5:J MS->aS
 | []=>aN
 | m::e=>yI m||d5 e
end
def Vc:d5 []=aN:=Z
theorem xa(m:MS)(e:J MS):d5 (m::e)=(yI m||d5 e):=rfl
noncomputable def Bm (g:sv)(e:Expr):aS:=match g with
 | .enum _=>vV (λ_ _ _=>X) e
 | _=>X
noncomputable def I0 (P:Expr->cD->J ea->aS):NU->aS
 | .ExceptHandler c y b _=>oS (λc=>oS (λy=>P c y b) y) c
def Ge{P:Expr->cD->J ea->aS}:∀{h:NU},I0 P h=X->∃c y b p,h=.ExceptHandler (O c) (O y) b p/\P c y b=X
 | .ExceptHandler c y b p,h=>by
  refine ak (mz (show oS _ c=X from h)) λc a=>?_;clear h;subst a;intro h;refine ak (mz (show oS _ y=X from h)) λy d=>?_;clear h;subst d;intro h;exact FP c y b p Z h
mutual
def Vd (k:Nm):MS->ea->aS
 | .expr a=>uj λe m=>cy k a e&&isCall e
 | .ret a=>F6 λe m=>oS (cy k a) e
 | .asg x a=>th λq e m=>l1 (dq k x) q&&cy k a e
 | .cH o f a=>th λq e m=>l1 (kT λp g m=>cy k o p&&g==aD f&&Bj.contains f) q&&cy k a e
 | .gp o i a=>th λq e m=>l1 (qn λp j m=>cy k o p&&cy k i j) q&&cy k a e
 | .cC z a=>th λq e m=>l1 (yf k (.many z)) q&&yH e&&cy k a e
 | .aug x op a=>F7 λt L e m=>dq k x t&&op==L&&op==.Add&&cy k a e
 | .iff t a b=>M4 λu c d m=>cy k t u&&lO k a c&&lO k b d
 | .mv t a=>F9 λu c o m=>o.isEmpty&&cy k t u&&lO k a c
 | .cJ x s a=>F8 λt i c o m=>o.isEmpty&&yf k x t&&CE k s i&&Bm s t&&lO k a c
 | .w6 a x h=>Ga λb W o f m=>o.isEmpty&&f.isEmpty&&l1 (uj λe m=>cy k a e&&isCall e) b &&
   l1 (I0 λc y b=>cf k "Invalid" c&&y==aD x&&!h.isEmpty&&!(d5 h)&&k.lookup y==O .local&&lO k h b) W
 | .raise=>qo λm m m=>X
def lO (g:Nm):J MS->J ea->aS
 | []=>λl=>l.isEmpty
 | a::h=>lc λe i=>Vd g a e&&lO g h i
end
noncomputable def rQ (e:J a7)(fd:pK):aS:=
 fd.params.posonlyargs.isEmpty&&fd.params.vararg.isNone&&fd.params.kwonlyargs.isEmpty&&fd.params.kwarg.isNone &&
 (match fd.defaults with | .none=>X | _=>aN) &&
 decide (fd.params.args.map (·.arg)=e.map aD)&&decide (e.Nodup) &&
 fd.scope.kind==.function&&!fd.scope.isCoroutine&&!fd.scope.isGenerator&&fd.closure.isEmpty &&
 decide ((fd.scope.names.map (·.1)).Nodup) &&
 e.all (λx=>fd.scope.names.lookup (aD x)==O .local||fd.scope.names.lookup (aD x)==O .cell)
def yg (D:bp)(e:pK):aS:=
 rQ D.params e&&(match e.body with | .stmts b=>lO e.scope.names D.body b | _=>aN)
def yJ (g:pK):aS:=rQ ["self","why"] g&&(match g.body with
 | .stmts b=>l1 (qo λe c _=>c.isNone&&oS (fc λf h i _=>i.isEmpty&&cf g.scope.names "Invalid" f&&dH g.scope.names [.loc "why",.attr (.loc "self") "function",.attr (.loc "self") "at"] h) e) b
 | _=>aN)
noncomputable def isLocal (g:Nm)(x:a7)(e:Expr):aS:=dq g x e&&g.lookup (aD x)==O .local
noncomputable def isUp (h:Nm)(c:a7):ea->aS:=uj λe _=>fc (λg j k i=>k.isEmpty&&kT (λp n m=>cf h c p&&n==aD "__init__"&&m.endLine==i.line) g&&lc (λq r=>isLocal h "self" q&&l1 (isLocal h "why") r) j) e
noncomputable def rR (h:Nm)(f:a7):ea->aS:=th λi e _=>l1 (kT λp g _=>isLocal h "self" p&&g==aD f) i&&isLocal h f e
noncomputable def nK (e:pK):aS:=rQ ["self","why"] e&&(match e.body with
 | .stmts l=>e.scope.names.all (λp=>!(p.2==.cell))&&lc (λa r=>isUp e.scope.names "Exception" a&&l1 (rR e.scope.names "why") r) l
 | _=>aN)
noncomputable def rS (e:pK):aS:=rQ ["self","why","function","at"] e&&(match e.body with
 | .stmts l=>e.scope.names.all (λp=>!(p.2==.cell))&&lc (λa r=>isUp e.scope.names "WasmFault" a&&lc (λb r=>rR e.scope.names "function" b&&l1 (rR e.scope.names "at") r) r) l
 | _=>aN)
end Internal
end
open _root_ renaming Internal.R->V1
open _root_ renaming Internal.put->V6
noncomputable section
open PySem PySem.W PyProof.Rows
set_option maxHeartbeats 80000000
namespace Internal
section
def jL (tb:a7->aI kR)(p:nz)(w:oM)(g:S)(e:aI cc):S->Oe->Ut->aI Oe
 | 0,_,_=>Q
 | n+1,s,t=>match through t with
  | true=>O s
  | false=>match stepOk g e t with
   | false=>Q
   | true=>match stepT (denote tb) p w s t with
    | some (h,i)=>jL tb p w g e n h i
    | none=>Q
theorem um{tb:a7->aI kR}{p:nz}{w:oM}{a:S}{e:aI cc}:∀{n:S}{s g:Oe}{t:Ut},
  jL tb p w a e n s t=O g->topRun tb p w a e n s.abs t=O g.abs
 | 0,_,_,_,h=>by cases h
 | n+1,s,g,t,h=>by
  unfold jL at h;unfold topRun;cases b:through t with
  | true=>rw[b] at h;cases h;rfl
  | false=>
   rw[b] at h;cases j:stepOk a e t with
   | false=>rw[j] at h;cases h
   | true=>
    rw[j] at h;cases i:stepT (denote tb) p w s t with
    | none=>rw[i] at h;cases h
    | some r=>obtain⟨k,c⟩:=r;rw[i] at h;rw[stepT_spec i];exact um h
def jN (tb:a7->aI kR)(p:nz)(w:oM)(g:S)(e:aI cc):S->Oe->Ut->aI Oe
 | 0,_,_=>Q
 | n+1,s,t=>match through t with
  | true=>O s
  | false=>match DI g e t with
   | false=>Q
   | true=>match A9 (Bi tb) p w s t with
    | some (h,i)=>jN tb p w g e n h i
    | none=>Q
theorem oy{tb:a7->aI kR}{p:nz}{w:oM}{a:S}{e:aI cc}:∀{n:S}{s:Oe}{t:Ut},
  jL tb p w a e n s t=jN tb p w a e n s t
 | 0,_,_=>rfl
 | n+1,s,t=>by
  unfold jL jN;rw[R6,R0,R1];cases through t with
  | true=>rfl
  | false=>
   dsimp only;cases DI a e t with
   | false=>rfl
   | true=>
    dsimp only;cases A9 (Bi tb) p w s t with| none=>rfl| some r=>exact oy
noncomputable abbrev pw:=PySem.Challenge.pw_nm0154_01
def ade:(pw.main.body.length==0)=aN:=by rfl
abbrev pH:=pw
def bt (P:S3):BT:=.node (boot_o_0 P) (.node (boot_o_1 P) (.node (boot_o_3 P) (.node (boot_o_7 P) .nil .nil) .nil) (.node (boot_o_5 P) (.node (boot_o_9 P) .nil .nil) .nil)) (.node (boot_o_2 P) (.node (boot_o_4 P) (.node (boot_o_8 P) .nil .nil) .nil) (.node (boot_o_6 P) (.node (boot_o_10 P) .nil .nil) .nil))
def i8 (P:S3)(os:Bp):Oe:=⟨bt P,11,{},#[],QW,Rx,os⟩
def M7(P:S3)(os:Bp):(i8 P os).abs=⟨ma P,#[],QW,Rx,os⟩:=by rfl
end
end Internal
end
noncomputable section
namespace Internal
open PySem PySem.W PyProof.Rows
noncomputable def FAL:J S:=[101,115,29,36,161,175,182,203,217,224,231,238,245,252,259,266,273,280,301,308,315,329,336,343,350,357,371,378,394,408,429,471,506,532,539,546,560,597,604,611,618,625,630,635,640,647,654,661,668,675,682,36]
noncomputable def FXL:J (a7×S):=[("StackCheck.fail",210),("StackCheck.func_at",294),("StackCheck.call",364),("Checker.indirect",478),("Checker.cell",485),("Checker.memory",492),("Checker.octets",513),("Checker.elements",520)]
def sz (f:a7):aI eu:=if f="law" then Q else(FXL++(PT.map (·.1)).zip FAL).lookup f
noncomputable def fragOf (h:d1):mj:=(pd h.objs.size).filterMap λa=>(h.get? a).map λo=>(a,o)
noncomputable def ADR:J S:=[2,3,22,28,29,35,36,58,59,60,61,62,63,64,65,66,67,68,69,70,71,72,73,74,75,76,77,78,79,80,81,82,83,84,85,86,87,88,89,90,91,92,93,94,100,101,114,115,128,129,131,132,148,149,151,152,160,161,174,175,181,182,184,185,202,203,209,210,216,217,223,224,230,231,237,238,244,245,251,252,258,259,265,266,272,273,279,280,294,300,301,307,308,314,315,328,329,335,336,342,343,349,350,356,357,364,370,371,377,378,380,381,386,387,393,394,407,408,410,411,428,429,470,471,478,485,492,505,506,513,520,522,523,531,532,538,539,545,546,559,560,569,570,575,576,577,578,579,580,581,582,583,584,585,586,587,588,589,590,596,597,603,604,610,611,617,618,624,625,629,630,634,635,639,640,646,647,653,654,660,661,667,668,674,675]
def lP (h:d1):mj:=ADR.filterMap λa=>(h.get? a).map λo=>(a,o)
def qq (K:mj)(p:pK->aS)(a:eu):aS:=match K.lookup a with
 | some ⟨_,_,.func e,_⟩=>p e&&RA K e.code e.qualname&&e.globals==fw&&e.builtins==rV
 | _=>aN
def i9 (K:mj)(c:a7):aI eu:=match r0 K fw (aD c) with | some (O (.ref C))=>O C | _=>Q
def M8 (K:mj)(f:a7):aS:=(sz f).any λa=>eo (r0 K fw (aD f)=O (O (.ref a)))&&q6 K (.ref a)
def gFn (K:mj):aS:=PT.all λp=>p.1=="law"||(sz p.1).any λa=>qq K (yg p.2) a
def gGf (K:mj):aS:=GF.all (M8 K)
def gMe (K:mj):aS:=IX.all λx=>(i9 K x.1).any λC=>(sz x.2.2).any λa=>eo (l4 K (.ref C) (aD x.2.1)=O (O (.ref a)))&&decide (Ow K (.ref a)=O (.type "function"))&&q6 K (.ref a)
def gCm (K:mj):aS:=M0.all λx=>(i9 K x.1).any λC=>(sz x.2.2).any λa=>eo (Ql K (.ref C) "__getattribute__"=O (O (.builtin "type.__getattribute__")))&&Ts K C (.type "type")&&(match Of K (.ref C) (.type "type") (aD x.2.1) with | some (.val (.ref b))=>a==b | _=>aN)&&q6 K (.ref a)
def gNt (K:mj):aS:=NT.all λx=>(i9 K x.1).any λC=>(sz x.2).any λa=>makesIn K C&&q6 K (.ref C)&&decide (l4 K (.ref C) "__init__"=O (O (.ref a)))&&decide (Ow K (.ref a)=O (.type "function"))
def gIn (K:mj):aS:=ug.all λc=>(i9 K c).any λC=>eo (l4 K (.ref C) "__getattribute__"=O (O (.builtin "object.__getattribute__")))&&decide (l4 K (.ref C) "__getattr__"=O Q)&&RC K C &&
   decide (l4 K (.ref C) "__setattr__"=O (O (.builtin "object.__setattr__")))&&plainOver K C&&Bj.all λf=>eo (l4 K (.ref C) (aD f)=O Q)
def gBi (K:mj):aS:=(IY++["range","enumerate","reversed","Exception"]).all λf=>eo (r0 K fw (aD f)=O Q)
def gXn (K:mj):aS:=(i9 K "Invalid").any λC=>eo (l4 K (.ref C) "__getattribute__"=O (O (.builtin "BaseException.__getattribute__")))&&decide (l4 K (.ref C) "__getattr__"=O Q)&&RC K C &&
   (["why","function","at"].all λf=>eo (l4 K (.ref C) (aD f)=O Q)&&decide (LN K C (aD f)=O Q)) &&
   decide (mroIn K C (.type "BaseException")=O X)&&decide (exmOne K (.ref C) (.ref C)=O X)&&q6 K (.ref C)&&decide (l4 K (.ref C) "__setattr__"=O (O (.builtin "object.__setattr__")))
noncomputable def refOf (w:cc):aI eu:=match w with | .ref a=>O a | _=>Q
noncomputable def intOf (w:cc):aI T:=match w with | .int j _=>O j | _=>Q
def uo (K:mj)(a:eu):aI (J cc):=match K.lookup a with
 | some ⟨c,d,.seq e _,sl⟩=>if eo (c=.type "tuple")&&d.isNone&&sl.size==0&&decide (e.size<=aZ) then O e.toList else Q
 | _=>Q
def vB:S->mj->AV->cc->aS
 | 0,_,_,_=>aN
 | n+1,K,v,w=>match v with
  | .int i=>decide (intOf w=O i)
  | .tup l=>match (refOf w).bind (uo K) with
   | some e=>e.length==l.length&&(l.zip e).all λp=>vB n K p.1 p.2
   | none=>aN
  | _=>aN
def gGl (K:mj):aS:=GT.all λx=>match r0 K fw (aD x.1) with
 | some (O v)=>vB 5 K x.2 v
 | _=>aN
noncomputable def yK (v:cc):aI T:=match v with | .int k _=>O k | _=>Q
def Ve (K:mj):aS:=match r0 K fw (aD "KIND_NAMES") with
 | some (O (.ref d))=>(match K.lookup d with
  | some ⟨c,_,.dict g _,_⟩=>decide (c=.type "dict")&&g.toList.all (λe=>match yK e.key with | some k=>e.hash==hashInt k | none=>aN)&&decide (g.toList.map (λe=>yK e.key)=[O (-1),O (-2),O (-16),O (-17)])
  | _=>aN)
 | _=>aN
def yL (K:mj)(C:eu):aS:=match K.lookup C with
 | some ⟨c,_,.cls e,sl⟩=>decide (c=.type "type")&&e.hasDict&&!e.hasDel&&((i9 K "WasmFault").any λW=>
   decide (e.mro=[.ref C,.ref W,.type "Exception",.type "BaseException",.type "object"])&&decide (sl.toList.length=6)&&decide (sl.toList[4]?=O (O (.builtin "Exception.__new__"))) &&
   decide (Ql K (.ref W) "__getattribute__"=O (O (.builtin "type.__getattribute__")))&&Ts K W (.type "type") &&
   (match Of K (.ref W) (.type "type") (aD "__init__") with | some (.val (.ref g))=>q6 K (.ref g)&&qq K nK g | _=>aN))
 | _=>aN
def Vf (K:mj):aS:=(i9 K "Invalid").any λC=>yL K C&&qq K yJ 210 &&
  (match l4 K (.ref C) "__init__" with | some (O (.ref e))=>decide (Ow K (.ref e)=O (.type "function"))&&qq K rS e | _=>aN) &&
  (match Of K (.type "Exception") (.type "type") (aD "__init__") with | some (.val (.builtin n))=>n=="Exception.__init__" | _=>aN)
def mU (K:mj):aS:=gFn K&&gGf K&&gMe K&&gCm K&&gNt K&&gIn K&&gBi K&&gXn K&&gGl K&&Ve K&&Vf K
end Internal
end
noncomputable section
open PySem PySem.W PyProof.Rows
set_option maxHeartbeats 80000000
namespace Internal
section
noncomputable def Qq:J S:=[0,2,3,4,5,6,7,8,9,10,12,13,14,15,16,17,18,19,20,21,23,24,26,27,28,29,30,32,33,34,35,36,37,38,39,41,43,44,45,46,47,48,49,50,51,52,53,54,55,56,57]
abbrev qQ:nz:=view pH Qq
noncomputable def km:J cD:=["KIND_NAMES","block_kind_kinds","LOADS","STORES","NUMBERS","THREE"].map aD
abbrev yh:=R8 pH.main.body
def Qr(w:oM)(os:Bp):(jN oJ pH (w.withFollow "special-get-raises" aN) 11 (O (i4 6)) 5000 (i8 w.params os) (QE pH)).map (λs=>
  ((Qm yh (ma w.params) s.abs.heap&&N5 pH s.abs.heap&&QX s.abs&&QY (ma w.params) s.abs.heap),
   DS qQ km yh (λs=>xlAt qQ [] s&&recOk [] s) X s.abs))=O (X,SD qQ km):=by kernel_rfl
end
end Internal
end
noncomputable section
open PySem PySem.W PyProof.Rows
set_option maxHeartbeats 80000000
namespace Internal
section
def Qs(w:oM)(os:Bp):(jN oJ pH (w.withFollow "special-get-raises" X) 11 (O (i4 6)) 5000 (i8 w.params os) (QE pH)).map (λs=>
  ((Qm yh (ma w.params) s.abs.heap&&N5 pH s.abs.heap&&QX s.abs&&QY (ma w.params) s.abs.heap),
   DS qQ km yh (λs=>xlAt qQ [] s&&recOk [] s) X s.abs))=O (X,SD qQ km):=by kernel_rfl
end
end Internal
end
noncomputable section
open PySem PySem.W PyProof.Rows
set_option maxHeartbeats 8000000
namespace Internal
theorem well:PySem.Challenge.rw_nm0154_01.wellSaid=true:=by kernel_rfl
abbrev yM:=PySem.Challenge.rw_nm0154_01.row
def Kj:(chainsOk qQ&&opensWell yM.prog&&(frees yM.toRowW&&yM.within.isEmpty))=X:=by kernel_rfl
theorem x9:RowW.promised yM.toRowW:=by w_witness2
end Internal
end
noncomputable section
open PySem PySem.W PyProof.Rows
set_option maxHeartbeats 80000000
namespace Internal
section
def g4(w:oM)(os:Bp):(jN oJ pH (w.withFollow "special-get-raises" aN) 11 (O (i4 6)) 5000 (i8 w.params os) (QE pH)).map (λs=>
  mU (lP s.abs.heap))=O X:=by kernel_rfl
end
end Internal
end
noncomputable section
open PySem PySem.W PyProof.Rows
set_option maxHeartbeats 80000000
namespace Internal
section
def g4t(w:oM)(os:Bp):(jN oJ pH (w.withFollow "special-get-raises" X) 11 (O (i4 6)) 5000 (i8 w.params os) (QE pH)).map (λs=>
  mU (lP s.abs.heap))=O X:=by kernel_rfl
end
end Internal
end
noncomputable section
namespace Internal
open PySem PySem.W PyProof.Rows
noncomputable abbrev Fi:=J (aI (eu×eu))
def cm (e:Fi)(a:eu):Prop:=∃(i:S) (p:eu×eu),e[i]?=O (O p)/\(a=p.1\/a=p.2)
def tm (h:d1)(a:eu)(e:hF cc):Prop:=∃n,sA h a e n/\e.size<=aZ
def vX (h:d1)(a:eu)(e:hF cc):Prop:=∃n,IsT h a e n/\e.size<=aZ
structure Exc where
 e:eu
 dx:eu
 why:a7
 fn:T
 pl:T
structure cz where
 inv:eu
 cls:a7->aI eu
 exc:aI Exc
 Z:eu->Prop
mutual
def VR (N:cz)(h:d1)(e:Fi):AV->cc->Prop
 | .none,v=>v=.none
 | .bool b,v=>v=.bool b
 | .int i,v=>∃t,v=.int i t
 | .str s,v=>∃t,v=.str (aD s) t
 | .tup l,v=>∃a g,v=.ref a/\¬cm e a/\vX h a g/\aL N h e l g.toList
 | .lst l,v=>∃a g,v=.ref a/\¬cm e a/\tm h a g/\aL N h e l g.toList
 | .obj n,v=>n<e.length/\(∃a,v=.ref a)/\∀p,e[n]?=O (O p)->v=.ref p.1
 | .ny,v=>∃a,v=.ref a
 | .exc w f p,v=>∃x,N.exc=O x/\v=.ref x.e/\x.why=w/\x.fn=f/\x.pl=p
def aL (N:cz)(h:d1)(e:Fi):J AV->J cc->Prop
 | [],vs=>vs=[]
 | x::g,vs=>∃v r,vs=v::r/\VR N h e x v/\aL N h e g r
end
section
variable{N:cz}{h:d1}{φ:Fi}{x:AV}{l:J AV}{v:cc}{vs:J cc}
def VR.yN(r:VR N h φ (.tup l) v):∃a e,v=.ref a/\¬cm φ a/\vX h a e/\aL N h φ l e.toList:=r
def VR.tn(r:VR N h φ (.lst l) v):∃a e,v=.ref a/\¬cm φ a/\tm h a e/\aL N h φ l e.toList:=r
def aL.vY(r:aL N h φ [] vs):vs=[]:=r
def aL.uq(r:aL N h φ (x::l) vs):∃w r,vs=w::r/\VR N h φ x w/\aL N h φ l r:=r
end
noncomputable def jO (o e:p6):Prop:=∃sl,e={o with slots:=sl}/\((∀g n,o.data≠.dict g n)->sl=o.slots)
def jO.refl(o:p6):jO o o:=⟨o.slots,Z,λa=>Z⟩
theorem jO.data(s:jO o e):e.data=o.data:=by refine bh e s λsl a=>?_;rfl
theorem jO.trans(s:jO g i)(t:jO i e):jO g e:=by
 refine ak s λsl a=>?_;clear s;subst a;intro h;exact bh e t λb j=>ay b Z (λq=>(j q).trans (h q))
def jO.eq(s:jO o e)(h:∀g n,o.data≠.dict g n):e=o:=by
 exact bh e s λsl q=>cx _ (q h)
noncomputable abbrev Nx:eu->Prop:=λ_=>Gl
structure bI (X:eu->Prop)(φ:Fi)(h h':d1):Prop where
 keep:∀a o,¬cm φ a->¬X a->h.get? a=O o->∃o',h'.get? a=O o'/\jO o o'
 lQ:∀a o,h.get? a=O o->∃o',h'.get? a=O o'
 dW:∀a o,X a->h.get? a=O o->∀ws n,o.data≠.seq ws n
 kU:∀a o es n,X a->¬cm φ a->h.get? a=O o->o.data=.dict es n->∃o' e8 n',h'.get? a=O o'/\o'.data=.dict e8 n'
theorem bI.seq(y:bI z g h i)(l:¬cm g a)(e:h.get? a=O o)(d:o.data=.seq j n):i.get? a=O o:=by
 refine ak (y.keep a o l (λx=>y.dW a o x e j n d) e) λk b s=>?_;rw[s.eq (λm p q=>by rw[d] at q;injection q)] at b;exact b
structure e9 (h:d1)(φ φ':Fi):Prop where
 len:φ.length<=φ'.length
 old:∀i:S,i<φ.length->φ'[i]?=φ[i]?\/φ'[i]?=O Q
 new:∀(i:S) p,φ.length<=i->φ'[i]?=O (O p)->h.get? p.1=Q/\h.get? p.2=Q
def e9.refl(h:d1)(g:Fi):e9 h g g:=
 ⟨gk _,λa a=>.inl Z,λi p hi e=>by rw[jM hi] at e;injection e⟩
theorem bI.refl(g:Fi)(h:d1):bI Nx g h h:=⟨λa o a a e=>⟨o,e,.refl o⟩,λa o e=>⟨o,e⟩,λa a q=>q.elim,λa a a a q=>q.elim⟩
theorem bI.w(i:bI j e h g):bI j e h g:=i
def e9.gZ(F:e9 h j g)(n:¬cm j a)(e:h.get? a=O o):¬cm g a:=by
 rintro⟨i,p,hi,b⟩;by_cases c:i<j.length
 ·refine eE (F.old i c) (λq=>?_) λq=>?_
  ·exact n ⟨i,p,q▸hi,b⟩
  ·haveI hi:=q▸hi;injection hi with hi;injection hi
 ·have:=F.new i p (N8.mp c) hi;clear n;rcases b with rfl | rfl
  ·rw[this.1] at e;injection e
  ·rw[this.2] at e;injection e
theorem e9.trans(F:e9 h k m)(z:bI L k h s)(G:e9 s m x):e9 h k x:=by
 refine⟨hD F.len G.len,λi hi=>?_,λi p hi e=>?_⟩
 ·refine eE (G.old i (k6 hi F.len)) (λq=>?_) λq=>?_
  ·refine eE (F.old i hi) (λr=>?_) λr=>?_
   ·exact .inl (q.trans r)
   ·exact .inr (q.trans r)
  ·exact .inr q
 ·by_cases b:i<m.length
  ·refine eE (G.old i b) (λq=>?_) λq=>?_
   ·exact F.new i p hi (q▸e)
   ·exact nomatch q.symm.trans e
  ·haveI g:=G.new i p (N8.mp b) e;haveI j:∀a,s.get? a=Q->h.get? a=Q:=λa c=>by
    refine az (h.get? a) ?_ ?_
    ·intro hq;rfl
    ·intro o hq;exact aH (z.lQ a o hq) λy d=>nomatch c.symm.trans d
   exact au (j _ g.1) (j _ g.2)
theorem bI.trans(é:bI à p h q)(F:e9 h p s)(è:bI à s q y):bI à p h y:=
 ⟨λa o n x e=>by
   exact ak (é.keep a o n x e) λb c z=>ak (è.keep a b (F.gZ n e) x c) λj i L=>ay j i (z.trans L),
  λa o e=>let ⟨_,g⟩:=é.lQ a o e;è.lQ a _ g,é.dW,λa o W n x l e d=>by
   exact dp (é.kU a o W n x l e d) λb k m c f=>è.kU a b k m x (F.gZ l e) c f⟩
def bI.of_keeps(k:∀a o,h.get? a=O o->g.get? a=O o):bI Nx i h g:=⟨λa o b b e=>⟨o,k a o e,.refl o⟩,λa o e=>⟨o,k a o e⟩,λb b q=>q.elim,λb b b b q=>q.elim⟩
def bI.more(p:bI q i h j)(b:∀a,q a->L a)(dW:∀a o,L a->h.get? a=O o->∀k n,o.data≠.seq k n):bI L i h j:=by
 refine⟨λa o l y e=>p.keep a o l (λx=>y (b a x)) e,p.lQ,dW,λa o g n y l e d=>?_⟩;by_cases x:q a
 ·exact p.kU a o g n x l e d
 ·exact ak (p.keep a o l x e) λm c s=>ed m g n c (s.data.trans d)
mutual
theorem VR.mono{W:eu->Prop}{N:cz}{h z:d1}{s m:Fi}(L:bI W s h z)(F:e9 h s m):∀{x:AV}{v:cc},VR N h s x v->VR N z m x v
 | .none,v,r=>by delta VR at r ⊢;exact r
 | .bool _,v,r=>by delta VR at r ⊢;exact r
 | .int _,v,r=>by delta VR at r ⊢;dsimp only at r ⊢;exact r
 | .str _,v,r=>by delta VR at r ⊢;dsimp only at r ⊢;exact r
 | .tup l,v,r=>by
  refine eP r λa y e n g d=>?_;clear r;refine ak g λo b c=>?_;clear g;exact hG a y e (F.gZ n b) ⟨o,L.seq n b Z,c⟩ (aL.mono L F d)
 | .lst l,v,r=>by
  refine eP r λa y e n j d=>?_;clear r;refine ak j λo b c=>?_;clear j;exact hG a y e (F.gZ n b) ⟨o,L.seq n b Z,c⟩ (aL.mono L F d)
 | .obj n,v,r=>by
  delta VR at r ⊢;dsimp only at r ⊢;refine cF r λi k hp=>?_;clear r;refine cG (k6 i F.len) k (λp e=>?_);refine eE (F.old n i) (λq=>?_) λq=>?_
  ·exact hp p (q▸e)
  ·rw[q] at e;injection e with e;injection e
 | .ny,v,r=>by delta VR at r ⊢;dsimp only at r ⊢;exact r
 | .exc w f p,v,r=>by delta VR at r ⊢;dsimp only at r ⊢;exact r
theorem aL.mono{p:eu->Prop}{N:cz}{h j:d1}{i g:Fi}(m:bI p i h j)(F:e9 h i g):∀{x:J AV}{v:J cc},aL N h i x v->aL N j g x v
 | [],v,r=>by delta aL at r ⊢;exact r
 | x::k,v,r=>by
  refine bV r λv t e U V=>?_;clear r;exact bx v t e (VR.mono m F U) (aL.mono m F V)
end
mutual
theorem VR.names{N N':cz}(q:∀x,N.exc=O x->N'.exc=O x){h:d1}{i:Fi}:∀{x:AV}{v:cc},VR N h i x v->VR N' h i x v
 | .none,v,r=>by delta VR at r ⊢;exact r
 | .bool _,v,r=>by delta VR at r ⊢;exact r
 | .int _,v,r=>by delta VR at r ⊢;dsimp only at r ⊢;exact r
 | .str _,v,r=>by delta VR at r ⊢;dsimp only at r ⊢;exact r
 | .tup l,v,r=>by
  refine eP r λa g e n t b=>?_;clear r;exact hG a g e n t (aL.names q b)
 | .lst l,v,r=>by
  refine eP r λa g e n t b=>?_;clear r;exact hG a g e n t (aL.names q b)
 | .obj n,v,r=>by delta VR at r ⊢;dsimp only at r ⊢;exact r
 | .ny,v,r=>by delta VR at r ⊢;dsimp only at r ⊢;exact r
 | .exc w f p,v,r=>by
  delta VR at r ⊢;dsimp only at r ⊢;refine ak r ?_;clear r;intro x c r;exact ay x (q x c) r
theorem aL.names{N N':cz}(q:∀x,N.exc=O x->N'.exc=O x){h:d1}{g:Fi}:∀{x:J AV}{v:J cc},aL N h g x v->aL N' h g x v
 | [],v,r=>by delta aL at r ⊢;exact r
 | x::i,v,r=>by
  refine bV r λv t e U V=>?_;clear r;exact bx v t e (VR.names q U) (aL.names q V)
end
def FR (N:cz)(h:d1)(g:Fi):Loc->J qc->Prop
 | [],e=>e=[]
 | (x,v)::Y,e=>∃i k w r,e=⟨i,.str (aD x) k,w⟩::r/\VR N h g v w/\FR N h g Y r
theorem FR.mono(x:bI y i h m)(F:e9 h i g):∀{Y:Loc}{j:J qc},FR N h i Y j->FR N m g Y j:=λ{Y}=>by
 induction Y with
 | nil=>
  intro b;intro r;exact r
 | cons s Y p=>
  intro b;intro a;exact vQ a λq k w r e U V=>s9 q k w r e (U.mono x F) (p V)
theorem FR.names(q:∀x,N.exc=O x->N'.exc=O x):∀{Y:Loc}{g:J qc},FR N h i Y g->FR N' h i Y g:=λ{Y}=>by
 induction Y with
 | nil=>
  intro b;intro r;exact r
 | cons p Y j=>
  intro b;intro a;exact vQ a λm k w r e U V=>s9 m k w r e (U.names q) (j V)
def OR (N:cz)(h:d1)(e:Fi)(p:eu×eu):AO->Prop
 | .list l=>p.2=p.1/\∃g,tm h p.1 g/\aL N h e l g.toList
 | .inst c Y=>∃C i n,N.cls c=O C/\p.1≠p.2/\h.get? p.1=O (Bw C p.2)/\h.get? p.2=O (dictOf i n)/\FR N h e Y i
 | .dead=>Gl
structure Rl (N:cz)(hT:d1)(h:d1)(φ:Fi)(H:Hp):Prop where
 len:φ.length=H.length
 live:∀(i:S) p,φ[i]?=O (O p)->∃o,H[i]?=O o/\OR N h φ p o
 dead:∀(i:S),φ[i]?=O Q->H[i]?=O .dead
 oz:∀a,cm φ a->hT.get? a=Q
 dj:∀(i j:S) p q,φ[i]?=O (O p)->φ[j]?=O (O q)->i≠j->p.1≠q.1/\p.1≠q.2/\p.2≠q.1/\p.2≠q.2
theorem Rl.at(m:Rl N j h g H){i:S}(e:H[i]?=O o)(hd:o≠.dead):∃p,g[i]?=O (O p)/\OR N h g p o:=by
 have b:i<g.length:=ah m.len ((fb.mp e).1);haveI hq:g[i]?=O g[i]:=ee b;refine az (g[i]) ?_ ?_
 ·intro hc;rw[hc] at hq;have:=m.dead i hq;exact hQ (gf (e▸this)) hd
 ·intro p hc;rw[hc] at hq;refine ak (m.live i p hq) λk a r=>?_;rw[e] at a;injection a with a;subst a
  exact ay p hq r
theorem OR.mono(x:bI y m h j)(F:e9 h m k)(U:j.get? p.1=h.get? p.1)(V:j.get? p.2=h.get? p.2)(r:OR N h m p o):OR N j k p o:=by
 cases o with
 | list l=>
  obtain⟨e,q,⟨n,hp,a⟩,i⟩:=r;exact⟨e,q,⟨n,U.trans hp,a⟩,i.mono x F⟩
 | inst c Y=>
  exact fg r λC s n e1 f d g b=>iw C s n e1 f (U.trans d) (V.trans g) (b.mono x F)
 | dead=>exact r.elim
def Rl.ex(s:Rl N k h j H)(l:cm j a):∃o,h.get? a=O o:=by
 refine bG l λi p hi d=>?_;clear l;refine ak (s.live i p hi) λo b r=>?_;cases o with
 | list l=>
  obtain⟨e,m,⟨n,hp,_⟩,_⟩:=r;rcases d with rfl | rfl
  ·exact bq _ hp
  ·exact bq _ (e▸hp)
 | inst c Y=>
  refine fg r λC q n b b g f b=>?_;rcases d with rfl | rfl
  ·exact bq _ g
  ·exact bq _ f
 | dead=>exact r.elim
def Rl.grow(q:Rl N m h g H)(k:∀a o,cm g a->h.get? a=O o->j.get? a=O o)(d:bI s g h j):Rl N m j g H:=
 ⟨q.len,λi p hi=>by
  exact ak (q.live i p hi) λo c r=>aH (q.ex (a:=p.1) ⟨i,p,hi,.inl Z⟩) λe e1=>aH (q.ex (a:=p.2) ⟨i,p,hi,.inr Z⟩) λf b=>ay o c (r.mono d (.refl ..) ((k _ _ ⟨i,p,hi,.inl Z⟩ e1).trans e1.symm) ((k _ _ ⟨i,p,hi,.inr Z⟩ b).trans b.symm)),q.dead,q.oz,q.dj⟩
def Rl.keeps(m:Rl N g h i H)(k:∀a o,h.get? a=O o->j.get? a=O o):Rl N g j i H:=
 m.grow (λa o b e=>k a o e) (.of_keeps k)
def e9.snoc(U:h.get? p.1=Q)(V:h.get? p.2=Q):e9 h g (g++[O p]):=
 ⟨by simp,λi hi=>.inl (hH hi),λi q hi e=>by
  rw[q0 hi] at e;have:i - g.length=0:=by
   refine eE (MI (i - g.length)) (λz=>?_) λz=>?_
   ·exact z
   ·rw[jM (by simp;exact FW z)] at e;injection e
  rw[this] at e;simp at e;subst e;exact au U V⟩
def Rl.new(é:Rl N W h L H)(k:∀a o,h.get? a=O o->h'.get? a=O o)(g:∀a o,W.get? a=O o->h.get? a=O o)(U:h.get? p.1=Q)(V:h.get? p.2=Q)(r:OR N h' (L++[O p]) p o):Rl N W h' (L++[O p]) (H++[o]):=by
 have F:e9 h L (L++[O p]):=.snoc U V;haveI y:∀a,h.get? a=Q->W.get? a=Q:=λa e=>by
  refine az (W.get? a) ?_ ?_
  ·intro q;rfl
  ·intro o q;cases(e.symm.trans (g _ _ q))
 have last:∀(i:S) q,(L++[O p])[i]?=O (O q)->(i<L.length/\L[i]?=O (O q))\/(i=L.length/\q=p):=λi q e=>by
  by_cases hi:i<L.length
  ·have e:=(hH hi)▸e;exact .inl ⟨hi,e⟩
  ·haveI hi:=N8.mp hi;rw[q0 hi] at e;have z:i - L.length=0:=by
    refine eE (MI (i - L.length)) (λz=>?_) λz=>?_
    ·exact z
    ·rw[jM (by simp;exact FW z)] at e;injection e
   rw[z] at e;simp at e;exact .inr ⟨YF hi z,e.symm⟩
 refine⟨by simp[é.len],λi q hi=>?_,λi hi=>?_,λa m=>?_,λi j q b hi v n=>?_⟩
 ·try clear h
  rcases last i q hi with⟨f,e⟩ | ⟨rfl,rfl⟩
  ·exact ak (é.live i q e) λo' u x=>aH (é.ex (a:=q.1) ⟨i,q,e,.inl Z⟩) λs e1=>aH (é.ex (a:=q.2) ⟨i,q,e,.inr Z⟩) λw d=>ay o' ((hH (é.len▸f))▸u) (x.mono (.of_keeps k) F ((k _ _ e1).trans e1.symm) ((k _ _ d).trans d.symm))
  ·exact ay o (by refine ah é.len ?_;simp) r
 ·by_cases f:i<L.length
  ·rw[hH f] at hi;exact(hH (é.len▸f)).trans (é.dead i hi)
  ·rw[q0 (N8.mp f)] at hi;refine eE (MI (i - L.length)) (λz=>?_) λz=>?_
   ·rw[z] at hi;simp at hi
   ·exact nomatch (jM (by simp;exact FW z)).symm.trans hi
 ·refine bG m λi q hi hq=>?_;clear m;clear r F;rcases last i q hi with⟨_,e⟩ | ⟨_,rfl⟩
  ·exact é.oz a ⟨i,q,e,hq⟩
  ·rcases hq with rfl | rfl
   ·exact y _ U
   ·exact y _ V
 ·have ne:∀b,(∃j:S,L[j]?=O (O b))->p.1≠b.1/\p.1≠b.2/\p.2≠b.1/\p.2≠b.2:=λb ⟨j,c⟩=>by
   refine aH (é.ex (a:=b.1) ⟨j,b,c,.inl Z⟩) λs e1=>aH (é.ex (a:=b.2) ⟨j,b,c,.inr Z⟩) λw d=>pV ?_ ?_ ?_ ?_<;>intro z
   ·rw[z,e1] at U;injection U
   ·rw[z,d] at U;injection U
   ·rw[z,e1] at V;injection V
   ·rw[z,d] at V;injection V
  clear V F U r;rcases last i q hi with⟨_,l⟩ | ⟨ri,rfl⟩<;>rcases last j b v with⟨_,c⟩ | ⟨t,rfl⟩
  ·exact é.dj i j q b l c n
  ·have:=ne q ⟨i,l⟩;exact pV this.1.symm this.2.2.1.symm this.2.1.symm this.2.2.2.symm
  ·exact ne b ⟨j,c⟩
  ·exact hQ (ri.trans t.symm) n
def Rl.upd(y:Rl N m h g H)(hp:g[n]?=O (O p))(k:∀a,a≠p.1->a≠p.2->j.get? a=h.get? a)(x:bI z g h j)(r:OR N j g p o):Rl N m j g (H.set n o):=by
 refine⟨by simp[y.len],λi q hi=>?_,λi hi=>?_,y.oz,y.dj⟩
 ·by_cases b:i=n
  ·subst b;have hi:=hp▸hi;cases hi;have:i<H.length:=by rw[<-y.len];exact(fb.mp hp).1
   exact ay o (by simp[this]) r
  ·refine ak (y.live i q hi) λs e c=>?_;haveI d:=y.dj i n q p hi hp b;exact ay s (by refine ah (k7 (j1 b)) ?_;exact e) (c.mono x (.refl ..) (k _ d.1 d.2.1) (k _ d.2.2.1 d.2.2.2))
 ·haveI b:n≠i:=by rintro rfl;rw[hp] at hi;injection hi with hi;injection hi
  exact(k7 b).trans (y.dead i hi)
theorem OR.names(q:∀x,N.exc=O x->N'.exc=O x)(c:N'.cls=N.cls)(r:OR N h j p o):OR N' h j p o:=by
 cases o with
 | list l=>
  obtain⟨e,k,hp,i⟩:=r;exact⟨e,k,hp,i.names q⟩
 | inst d Y=>
  exact fg r λC m n e1 f b g a=>iw C m n (c▸e1) f b g (a.names q)
 | dead=>exact r.elim
theorem Rl.names(q:∀x,N.exc=O x->N'.exc=O x)(c:N'.cls=N.cls)(k:Rl N g h j H):Rl N' g h j H:=
 ⟨k.len,λi p e=>let ⟨o,a,b⟩:=k.live i p e;⟨o,a,b.names q c⟩,k.dead,k.oz,k.dj⟩
theorem e9.kill(n:S):e9 h g (g.set n Q):=
 ⟨by simp,λi hi=>by
  by_cases a:n=i
  ·subst a;exact .inr (by simp[hi])
  ·exact .inl (k7 a),λi p hi e=>by
  rw[jM (by simp;exact hi)] at e;injection e⟩
theorem Rl.kill(s:Rl N p h m H):Rl N p h (m.set n Q) (H.set n .dead):=by
 have back:∀(i:S) q,(m.set n Q)[i]?=O (O q)->n≠i/\m[i]?=O (O q):=λi q e=>by
  by_cases b:n=i
  ·subst b;by_cases c:n<m.length
   ·simp[c] at e
   ·rw[jM (by simp;exact Cy c)] at e;injection e
  ·rw[k7 b] at e;exact au b e
 refine⟨by simp[s.len],λi q hi=>?_,λi hi=>?_,λa f=>?_,λi j q d hi k=>s.dj i j q d (back i q hi).2 (back j d k).2⟩
 ·refine aq (back i q hi) λb e=>ak (s.live i q e) λo g r=>?_;exact ay o (by refine ah (k7 b) ?_;exact g) (r.mono (.refl ..) (.kill n) Z Z)
 ·by_cases b:n=i
  ·subst b;haveI c:n<m.length:=by
    have:=(fb.mp hi).1;simpa using this
   have:n<H.length:=s.len▸c;simp[this]
  ·rw[k7 b] at hi ⊢;exact s.dead i hi
 ·exact bG f λi q hi hq=>s.oz a ⟨i,q,(back i q hi).2,hq⟩
def bg(j:Rl N i h g H)(e:h.get? a=Q):¬cm g a:=λl=>by
 refine aH (j.ex l) λo b=>?_;rw[e] at b;injection b
structure bK (X:eu->Prop)(N:cz)(hT:d1)(s:d2)(φ:Fi)(H':Hp)(s':d2)(φ':Fi):Prop where
 eq:∃h' tk,s'={s with heap:=h',toks:=tk}
 aT:bI X φ s.heap s'.heap
 bw:e9 s.heap φ φ'
 rl:Rl N hT s'.heap φ' H'
 st:∀b o,hT.get? b=O o->s'.heap.get? b=O o
 ex:∀a o,¬cm φ a->¬X a->¬N.Z a->s.heap.get? a=O o->s'.heap.get? a=O o
abbrev ba:=bK Nx
theorem bK.trans(a:bK W N g s i h j k)(b:bK W N g j k m p q):bK W N g s i m p q:=by
 refine d9 (a.eq) λU L f=>?_;subst f;refine d9 (b.eq) λV y d=>?_;subst d;exact⟨⟨V,y,Z⟩,a.aT.trans a.bw b.aT,a.bw.trans a.aT b.bw,b.rl,b.st,λc o l x z e=>b.ex c o (a.bw.gZ l e) x z (a.ex c o l x z e)⟩
theorem bK.more(a:bK p N h s i j k g)(b:∀a,p a->L a)(dW:∀a o,L a->s.heap.get? a=O o->∀m n,o.data≠.seq m n):bK L N h s i j k g:=
 ⟨a.eq,a.aT.more b dW,a.bw,a.rl,a.st,λc o l x z e=>a.ex c o l (λq=>x (b c q)) z e⟩
theorem ba.refl(i:Rl N g s.heap h H)(st:∀b o,g.get? b=O o->s.heap.get? b=O o):ba N g s h H s h:=
 ⟨⟨s.heap,s.toks,Z⟩,.refl ..,.refl ..,i,st,λa a a a a e=>e⟩
def ba.tok(i:Rl N g s.heap h H)(st:∀b o,g.get? b=O o->s.heap.get? b=O o)(tk:S):ba N g s h H {s with toks:=tk} h:=
 ⟨⟨s.heap,tk,Z⟩,.refl ..,.refl ..,i,st,λa a a a a e=>e⟩
theorem ba.keeps(j:Rl N g s.heap h H)(st:∀b o,g.get? b=O o->s.heap.get? b=O o)(tk:S)(k:∀a o,s.heap.get? a=O o->i.get? a=O o):ba N g s h H {s with heap:=i,toks:=tk} h:=
 ⟨⟨i,tk,Z⟩,.of_keeps k,.refl ..,j.keeps k,λb o e=>k b o (st b o e),λa o c c c e=>k a o e⟩
end Internal
end
noncomputable section
namespace Internal
open PySem PySem.W PyProof.Rows SeqAt MeetsSeq
theorem aL.len:∀{l:J AV}{vs:J cc},aL N h e l vs->vs.length=l.length
 | [],_,r=>by delta aL at r;subst r;rfl
 | _::l,_,r=>by
  refine bV r ?_;clear r;intro v t a;cases a;intro b r;simp[aL.len r]
theorem aL.get:∀{l:J AV}{vs:J cc}{i:S}{x:AV},aL N h g l vs->l[i]?=O x->∃v,vs[i]?=O v/\VR N h g x v
 | [],_,i,_,_,e=>by simp at e
 | y::l,_,i,x,r,e=>by
  refine bV r ?_;clear r;intro v t a;subst a;intro hv r;cases i with
  | zero=>simp at e;cases e;exact ay v Z hv
  | succ i=>simp at e;simpa using aL.get r e
theorem aL.append:∀{l m:J AV}{vs e:J cc},aL N h g l vs->aL N h g m e->aL N h g (l++m) (vs++e)
 | [],_,_,_,r,q=>by delta aL at r;subst r;exact q
 | y::l,_,_,_,r,q=>by
  refine bV r ?_;intro v t a;subst a;intro hv r;exact bx v _ Z hv (aL.append r q)
theorem aL.cons(a:VR N h e x v)(r:aL N h e l vs):aL N h e (x::l) (v::vs):=by
 exact bx v vs Z a r
def aL.nil:aL N h e [] []:=by delta aL;rfl
theorem aL.split:∀{l m:J AV}{vs:J cc},aL N h e (l++m) vs->∃a b,vs=a++b/\aL N h e l a/\aL N h e m b
 | [],m,vs,r=>⟨[],vs,Z,.nil,r⟩
 | x::l,m,vs,r=>by
  refine dc vs r ?_;intro v t hv r;refine dc t (aL.split r) λa b c hb=>?_;exact bx (v::a) b Z (.cons hv c) hb
theorem aL.reverse{N:cz}{h:d1}{e:Fi}:∀{l:J AV}{vs:J cc},aL N h e l vs->aL N h e l.reverse vs.reverse
 | [],_,r=>by delta aL at r;dsimp only at r;subst r;exact .nil
 | x::l,_,r=>by
  refine bV r ?_;clear r;intro v t a;subst a;intro hv r;rw[i7,i7];exact aL.append (aL.reverse r) (.cons hv .nil)
theorem aL.take(n:S):∀{l:J AV}{vs:J cc},aL N h g l vs->aL N h g (l.take n) (vs.take n):=λ{l vs} r=>by
 have:=r;rw[<-wh n l] at this;refine bV (aL.split this) λa b d=>?_;clear this;subst d;intro e hb;by_cases c:n<=l.length
 ·have:a.length=n:=by exact(aL.len e).trans ((x2).trans ((S4 c)))
  rw[<-this,J.take_left];rw[this];exact e
 ·haveI c:=pS (SE c);simp only[Fe c,Fe (by rw[(aL.len r)];exact c)];exact r
theorem aL.drop(n:S):∀{l:J AV}{vs:J cc},aL N h g l vs->aL N h g (l.drop n) (vs.drop n):=λ{l vs} r=>by
 have:=r;rw[<-wh n l] at this;by_cases c:n<=l.length;refine bV (aL.split this) λa b d=>?_;clear this;subst d;intro e hb
 ·have:a.length=n:=(aL.len e).trans ((x2).trans ((S4 c)));rw[<-this,J.drop_left];rw[this];exact hb
 ·haveI c:=pS (SE c);simp only[Fs c,Fs (by rw[(aL.len r)];exact c)];exact .nil
set_option tactic.hygienic true in
def iC(q:Rl N m h j H)(r:VR N h j x v)(e:bD H x=O (b,l)):∃a i,v=.ref a/\aL N h j l i.toList/\(b=X->tm h a i)/\(b=aN->vX h a i):=by
 cases x<;>try (dsimp only[bD] at e;cases e)
 ·refine eP (VR.yN r) λa i e1 _ t c=>?_;clear r;exact hG a i e1 c nofun (λ_=>t)
 ·refine eP (VR.tn r) λa i e1 _ t c=>?_;clear r;exact hG a i e1 c (λ_=>t) nofun
 ·rename_i n;dsimp only[bD] at e
  split at e
  ·rename_i g d;try clear l;try clear j
   injection e with e;injection e with e k;subst e k
   refine ak (q.at d nofun) λp hp o=>?_;obtain⟨_,i,f,c⟩:=o;exact hG p.1 i (r.2.2 p hp) c (λ_=>f) nofun
  ·clear q;clear r;injection e
noncomputable def ur:aI T->cc->Prop
 | none,v=>v=.none
 | some i,v=>∃t,v=.int i t
def Kk(r:VR N h g x v)(e:atom x=O a):ur a v:=by
 cases x<;>dsimp only[atom] at e<;>(first | injection e with e;subst e | injection e)<;>(delta VR at r;exact r)
set_option tactic.hygienic true in
theorem iL:∀{l:J AV}{g:J (aI T)},atoms l=O g->g.length=l.length
 | [],g,e=>by dsimp only[vS,vT] at e;injection e with e;cases e;rfl
 | x::l,g,e=>by
  dsimp only[vS,vT] at e
  split at e
  ·rename_i a r _ b;injection e with e;subst e;simp[iL b]
  ·injection e
set_option tactic.hygienic true in
def mA:∀{l:J AV}{vs:J cc}{g:J (aI T)},aL N h m l vs->atoms l=O g->∀(j:S) v,vs[j]?=O v->∃a,g[j]?=O a/\ur a v:=λ{l}=>by
 induction l with
 | nil=>
  intro _;intro _;intro r;intro e;intro j;intro v;intro q;delta aL at r;dsimp only at r;subst r;simp at q
 | cons x l i=>
  intro _;intro g;intro r;intro e;intro j;intro v;intro q;refine bV r ?_;clear r;intro w t b;subst b;intro d r;dsimp only[vS,vT] at e
  split at e
  ·rename_i a s c k;injection e with e;subst e
   cases j with| zero=>simp at q;subst q;exact ay a Z (Kk d c)| succ j=>simp at q;simpa using i r k j v q
  ·injection e
def EqAt.CF:RD A s .none .none X:=λe w E g h=>by
 exact a4 (Jm (ei h))
set_option tactic.hygienic true in
theorem EqAt.atom(c:ur a v)(hb:ur b w):RD A s v w (eo (a=b)):=by
 cases a<;>cases b
 ·haveI e1:=c;subst e1 hb;exact EqAt.CF
 ·haveI e1:=c;subst e1;refine aX w (hb:∃t,w=.int _ t) λt=>?_;simpa using RD.none_int _ t
 ·refine aX v (c:∃t,v=.int _ t) λt=>?_;haveI e1:w=.none:=hb;subst e1;simpa using RD.int_none _ t
 ·refine aX v (c:∃t,v=.int _ t) λt=>aX w (hb:∃t,w=.int _ t) λu=>?_;rename_i i j;have:=Uu (A:=A) (s:=s) i t j u;haveI e:(i==j)=decide (O i=O j):=by
   by_cases q:i=j<;>simp[q]
  simp only[<-e];exact this
def qr{g:J (aI T)}(a:h.length=g.length):(pd h.length).all (λj=>eo (h[j]?=g[j]?))=decide (h=g):=by
 by_cases e:h=g
 ·clear a;subst e;simp
 ·simp only[e,Jq];rw[J.all_eq_false];apply nf;intro b;apply e;apply J.ext_getElem a;intro i U V;have:¬(eo (h[i]?=g[i]?))=aN:=λq=>b ⟨i,QG.mpr U,by simp[q]⟩;have:h[i]?=g[i]?:=by simpa using this
  simp only[ee U,ee V] at this;exact gf this
def tq{g:J (aI T)}:((pd (min h.length g.length)).all (λj=>eo (h[j]?=g[j]?))&&h.length==g.length)=decide (h=g):=by
 by_cases a:h.length=g.length
 ·refine ah a ?_;rw[S.min_self];simp only[BEq.rfl,NW];rw[<-a];exact qr a
 ·have:¬h=g:=λe=>a (by exact cx _ e);simp[this,a]
set_option tactic.hygienic true in
def CG:∀{l:J AV}{vs:J cc}{g:J T},aL N h p l vs->intsOf l=O g->(∀v,v∈vs->∃i t,v=.int i t/\i∈g)/\(∀i,i∈g->∃t,.int i t∈vs):=λ{l}=>by
 induction l with
 | nil=>
  intro _;intro _;intro r;intro e;delta aL at r;dsimp only at r;subst r;dsimp only[intsOf] at e;injection e with e;subst e
  exact au (by simp) (by simp)
 | cons x l k=>
  intro _;intro g;intro r;intro e;refine bV r ?_;clear r;intro w t c;subst c;intro d r;cases x<;>dsimp only[intsOf] at e<;>try (injection e;done)
  rename_i i;refine az (intsOf l) ?_ ?_
  ·intro q;rw[q] at e;injection e
  ·intro f q;rw[q] at e;injection e with e;subst e
   refine aX w d λu=>?_;clear d;refine aq (k r q) λU V=>au (λv hv=>?_) (λj a=>?_)
   ·rcases a8.mp hv with rfl | hv
    ·exact ew i u Z (by simp)
    ·exact bG (U v hv) λj b e m=>ew j b e (by simp[m])
   ·rcases a8.mp a with rfl | a
    ·exact bq u (by simp)
    ·exact aH (V j a) λb m=>bq b (by simp[m])
def tm.isList(x:tm h a g):h.IsList a g:=let ⟨n,e,_⟩:=x;⟨_,e,Z,n,Z⟩
def vX.lz(x:vX h a g):h.IsTuple a g:=let ⟨n,e,_⟩:=x;⟨_,e,Z,n,Z⟩
section
variable{N:cz}{aC:nz}{w:oM}{A:hX}{E:cc->d2->Prop}{s:d2}{W:d1}{φ:Fi}{H:Hp}
def ft(e:aD a=aD b):a=b:=by
 haveI U:=cx cD.cps e;dsimp only[aD] at U;have V:=cx hF.toList U;simp only[cpsOfBytes_string] at V;have h3:a.toList=b.toList:=by
  have g:Function.Injective Char.toNat:=λx y q=>by
   have:=cx Char.ofNat q;simpa using this
  exact(J.map_inj_right (f:=Char.toNat) (λx y q=>g q)).mp V
 exact a7.toList_inj.mp h3
set_option tactic.hygienic true in
def uu(ê:Rl N W s.heap φ H)(d:VR N s.heap φ x v)(c:VR N s.heap φ y u)(l:A.units<Ug)(e:fk H x y=O b):RE A s v u b/\MP A s v u (!b):=by
 delta fk at e;rcases o:bD H x with _ | ⟨_ | _,l1⟩<;>rcases p:bD H y with _ | ⟨_ | _,l2⟩<;>rw[o,p] at e<;>try (injection e;done)
 ·clear ê o p;cases x<;>cases y<;>dsimp only[D5] at e<;>try (first | injection e with e;subst e | injection e)
  all_goals (delta VR at d c;dsimp only at d c)
  ·subst d c;exact au RE.none_none MP.none_none
  ·refine aX u c λt=>?_;clear c;subst d;exact au (RE.none_int _ _) (MP.none_int _ _)
  ·refine aX v d λt=>?_;clear d;subst c;exact au (RE.int_none _ _) (MP.int_none _ _)
  ·refine aX v d λt=>?_;clear d;refine aX u c λù=>?_;clear c;rename_i i j;haveI e:decide (i=j)=(i==j):=Z;exact ah e (au (RE.int_int _ _ _ _) (MP.int_int _ _ _ _))
  ·refine aX v d λt=>?_;clear d;refine aX u c λù=>?_;clear c;rename_i i j;haveI e:decide (i=j)=(aD i==aD j):=by
    by_cases q:i=j
    ·subst q;simp
    ·have:¬aD i=aD j:=λz=>q (ft z);simp[q,this]
   exact ah e (au (RE.str_str _ _ _ _) (MP.str_str _ _ _ _))
 ·dsimp only at e;refine eP (iC ê d o) λâ f à=>?_;clear d;subst à;intro r1 _ I;refine eP (iC ê c p) λP g F=>?_;clear c;subst F;intro r2 _ C;have e1:=aL.len r1;have m:=aL.len r2;rw[g6] at e1 m;have P1:=(I Z).lz;have P2:=(C Z).lz
  split at e
  ·rename_i as bs h hb;injection e with e;subst e
   have lb:=iL hb;have n:∀j (U:j<f.size) (V:j<g.size),RD A.in1 s f[j] g[j] ((λj=>eo (as[j]?=bs[j]?)) j):=λj U V=>by
    refine ak (mA r1 h j f[j] (by simp[U])) λa w è=>ak (mA r2 hb j g[j] (by simp[V])) λb E D=>?_;have:=EqAt.atom (A:=A.in1) (s:=s) è D;have e:decide (as[j]?=bs[j]?)=decide (a=b):=by rw[w,E];simp
    simp only[e];exact this
   have k:((pd (min f.size g.size)).all (λj=>eo (as[j]?=bs[j]?))&&f.size==g.size)=decide (as=bs):=by
    rw[e1,m,<-(iL h),<-lb];exact tq
   have U:=RE.tuples P1 P2 l n;have V:=MP.tuples P1 P2 l n;rw[k] at U V;exact au U V
  ·injection e
 ·dsimp only at e;refine eP (iC ê d o) λâ f G=>?_;clear d;subst G;intro r1 I _;refine eP (iC ê c p) λP g r=>?_;clear c;subst r;intro r2 C _;have e1:=aL.len r1;haveI m:=aL.len r2;rw[g6] at e1 m;haveI P1:=(I Z).isList;have P2:=(C Z).isList
  revert e;refine aJ ?_ ?_<;>intro _ e
  ·rename_i L;injection e with e;subst e
   have:(f.size != g.size)=X:=by refine ah e1 ?_;refine ah m ?_;simpa using L
   exact au (RE.lists_lengths P1 P2 this l) (MP.lists_lengths P1 P2 this l)
  ·rename_i é
   split at e
   ·rename_i as bs h hb;injection e with e;subst e
    haveI lb:=iL hb;have K:f.size=g.size:=by refine ah e1 ?_;refine ah m ?_;exact((nf é))
    have n:∀j (U:j<f.size) (V:j<g.size),RD A.in1 s f[j] g[j] ((λj=>eo (as[j]?=bs[j]?)) j):=λj U V=>by
     refine ak (mA r1 h j f[j] (by simp[U])) λa w è=>ak (mA r2 hb j g[j] (by simp[V])) λb E D=>?_;have:=EqAt.atom (A:=A.in1) (s:=s) è D;have e:decide (as[j]?=bs[j]?)=decide (a=b):=by rw[w,E];simp
     simp only[e];exact this
    have k:((pd f.size).all λj=>eo (as[j]?=bs[j]?))=decide (as=bs):=by
     rw[e1,<-(iL h)];exact qr (by exact ah ((iL h)) (ah lb (((nf é)))))
    have U:=RE.lists P1 P2 K l n;have V:=MP.lists P1 P2 K l n;rw[k] at U V;exact au U V
   ·injection e
def xb(c:VR N s.heap φ x v)(e:isNone x=O b):(v==.none)=b:=by
 cases x<;>dsimp only[isNone] at e<;>(first | injection e with e;subst e | injection e)<;>delta VR at c
 ·subst c;rfl
 ·subst c;rfl
 ·refine aX v c λt=>?_;rfl
 ·refine aX v c λt=>?_;rfl
 ·refine bY v c λa g d=>?_;rfl
 ·refine bY v c λa g d=>?_;rfl
 ·refine cF c λd f d=>?_;refine aX v f λa=>?_;rfl
 ·refine Ba v c λx d d=>?_;rfl
set_option tactic.hygienic true in
def uv(à:Rl N W s.heap φ H)(d:VR N s.heap φ x v)(c:VR N s.heap φ y u)(hq:bD H y=O (q,l))(e:iX x l=O b):(è (.bool b) s->er (ej aC w) A (TL .In v u) è E s)/\(è (.bool (!b)) s->er (ej aC w) A (TL .NotIn v u) è E s):=by
 delta iX at e
 split at e
 ·rename_i i L hi;injection e with e;subst e
  delta VR at d;dsimp only at d;refine aX v d λt=>?_;clear d;refine eQ u (iC à c hq) λa ws r p C=>?_;clear c;refine aq (CG r hi) λn é=>?_;let f:cc->aS:=λy=>match y with | .int j _=>j==i | _=>aN
  haveI g:∀y,y∈ws->RD A.in1 s y (.int i t) (f y):=λy c=>by
   clear r;refine bY y (n y (x3.mpr c)) λj D _=>?_;clear c;exact Uu _ _ _ _
  haveI k:ws.any f=decide (i∈L):=by
   by_cases m:i∈L
   ·refine aH (é i m) λD m'=>?_;simp only[m,Sr];rw[hF.any_eq_true'];exact ay _ (x3.mp m') (by simp[f])
   ·simp only[m,Jq];rw[hF.any_eq_false'];intro y c;refine bY y (n y (x3.mpr c)) λj D o=>?_;clear c;have:¬j=i:=λz=>m (z▸o);simp[f,this]
  try clear this;try clear o
  clear n;cases q with
  | true=>exact au (λh=>in_listAt f (p Z).isList g (by refine ah k ?_;exact h)) (λh=>notIn_listAt f (p Z).isList g (by rw[k];exact h))
  | false=>exact au (λh=>in_tupleAt f (C Z).lz g (by refine ah k ?_;exact h)) (λh=>notIn_tupleAt f (C Z).lz g (by rw[k];exact h))
 ·try clear _;try clear é;try clear L
  injection e
set_option tactic.hygienic true in
def gh(p:Rl N W s.heap φ H)(d:VR N s.heap φ x v)(a:VR N s.heap φ y u)(k:A.units<Ug)(e:bf H op x y=O b)(h:m (.bool b) s):er (ej aC w) A (TL op v u) m E s:=by
 cases op<;>dsimp only[bf] at e
 ·exact(uu p d a k e).1 aC w E m h
 ·refine az (fk H x y) ?_ ?_
  ·intro q;rw[q] at e;injection e
  ·intro c q;rw[q] at e;injection e with e;subst e;exact(uu p d a k q).2 aC w E m h
 ·split at e<;>(first | injection e with e;subst e | injection e)
  delta VR at d a;dsimp only at d a;refine aH d λt f=>?_;clear d;subst f;refine aX u a λi=>?_;clear a;exact PyProof.Rows.lt_int h
 ·split at e<;>(first | injection e with e;subst e | injection e)
  delta VR at d a;refine aH d λt j=>?_;clear d;subst j;refine aX u a λi=>?_;clear a;exact PyProof.Rows.le_int h
 ·split at e<;>(first | injection e with e;subst e | injection e)
  refine aH d λt g=>?_;clear d;subst g;refine aX u a λi=>?_;clear a;exact PyProof.Rows.gt_int h
 ·split at e<;>(first | injection e with e;subst e | injection e)
  delta VR at d a;dsimp only at d a;refine aX v d λt=>?_;clear d;refine aX u a λi=>?_;clear a;exact PyProof.Rows.ge_int h
 ·split at e<;>try (injection e;done)
  delta VR at a;dsimp only at a;subst a;exact is_none (by exact ah (xb d e) (h))
 ·split at e<;>try (injection e;done)
  delta VR at a;dsimp only at a;subst a;refine az (isNone x) ?_ ?_
  ·intro q;rw[q] at e;injection e
  ·intro c q;rw[q] at e;injection e with e;subst e;exact isNot_none (by exact ah (xb d q) (h))
 ·split at e
  ·rename_i q l hq;exact(uv p d a hq e).1 h
  ·injection e
 ·split at e
  ·rename_i q l hq;refine az (iX x l) ?_ ?_
   ·intro r;rw[r] at e;injection e
   ·intro c r;rw[r] at e;injection e with e;subst e;exact(uv p d a hq r).2 h
  ·injection e
end
structure Gr where
 N:cz
 prog:nz
 w:oM
 K:mj
 hT:d1
 p:nz
 loose:J cD
 qs:Tt->aI cc
 mg:cD->aI cc
 mb:cD->aI cc
structure Gr.Ok (g:Gr):Prop where
 X:g.K.In g.hT
 T:Top g.p g.loose g.qs g.mg g.mb g.hT
 seer:g.hT.NoSeer
 tree:g.prog.given.tree=Q
structure Vg (N:cz)(A:hX)(h:d1)(φ:Fi)(x:Exc):Prop where
 le:¬cm φ x.e
 ld:¬cm φ x.dx
 ob:∃oe vs,h.get? x.e=O oe/\oe.cls=.ref N.inv/\oe.dict=O x.dx/\oe.data=.fields vs/\vs[2]?=O .none
 fu:∃sl n k1 k2 k3 t1 t2 t3 U V h3,h.get? x.dx=O {dictOf [⟨U,.str ("why":cD) k1,.str (aD x.why) t1⟩,⟨V,.str ("function":cD) k2,.int x.fn t2⟩,⟨h3,.str ("at":cD) k3,.int x.pl t3⟩] n with slots:=sl}
 hd:A.handled=Q\/A.handled=O (.ref x.e)
 zn:¬N.Z x.e/\¬N.Z x.dx
noncomputable def cM (N:cz)(A:hX)(h:d1)(e:Fi):Prop:=match N.exc with
 | none=>A.handled=Q
 | some x=>Vg N A h e x
set_option tactic.hygienic true in
def cM.aT(x:cM N A h k)(é:bI è k h p)(F:e9 h k e)(s:∀y,N.exc=O y->¬è y.e/\¬è y.dx):cM N A p e:=by
 delta cM at *
 split
 ·rename_i q;haveI x:=q▸x;exact x
 ·rename_i y q;have x:=q▸x;refine aq (s y q) λne z=>vN (x.ob) λL vs b b2 b3 b4 b5=>ak (é.keep _ _ x.le ne b) λc e1 j=>iU (x.fu) λsl n W k2 k3 t1 t2 t3 U V h3 d=>ak (é.keep _ _ x.ld z d) λg f m=>?_;refine ak m λi a=>?_;clear m;subst a;intro _;exact⟨F.gZ x.le b,F.gZ x.ld d,⟨L,vs,(j.eq (λes n q=>by rw[b4] at q;injection q)▸e1),b2,b3,b4,b5⟩,⟨i,n,W,k2,k3,t1,t2,t3,U,V,h3,f⟩,x.hd,x.zn⟩
set_option tactic.hygienic true in
def cM.keep(x:cM N A h j)(F:e9 h j e)(k:∀y,N.exc=O y->(∀o,h.get? y.e=O o->i.get? y.e=O o)/\∀o,h.get? y.dx=O o->i.get? y.dx=O o):cM N A i e:=by
 delta cM at *
 split
 ·rename_i q;have x:=q▸x;exact x
 ·rename_i y q;have x:=q▸x;exact aq (k y q) λm p=>bG (x.ob) λs vs a b=>iU (x.fu) λsl n g f c z L W U V h3 d=>⟨F.gZ x.le a,F.gZ x.ld d,⟨s,vs,m _ a,b⟩,⟨sl,n,g,f,c,z,L,W,U,V,h3,p _ d⟩,x.hd,x.zn⟩
def mB (N:cz)(g h:d1)(i:Fi)(l:J Env):Prop:=∀e∈l,e.scope.kind=.function/\∃L o j n,e.frame=O L/\h.get? L=O o/\o.data=.dict j n/\g.get? L=Q/\¬cm i L/\N.Z L
theorem mB.fun:∀{l:J Env},mB N g h i l->h.FunFrames g l
 | [],_=>trivial
 | env::l,f=>by
  obtain⟨k,L,o,j,n,U,V,h3,h4,_⟩:=f env (.head _);exact cG (by refine ah k ?_;decide) ⟨L,o,U,h4,V,λvs q=>by haveI q:=h3▸q;injection q⟩ (mB.fun λe a=>f e (.tail _ a))
def mB.aT(f:mB N q h m l)(é:bI è m h y)(F:e9 h m g):mB N q y g l:=λi b=>by
 obtain⟨k,L,o,p,n,U,V,h3,h4,h5,a⟩:=f i b;refine⟨k,L,?_⟩;by_cases x:è L
 ·exact dp (é.kU L o p n x h5 V h3) λj z W e d=>L7 j z W U e d h4 (F.gZ h5 V) a
 ·exact ak (é.keep L o h5 x V) λj e s=>L7 j p n U e (s.data.trans h3) h4 (F.gZ h5 V) a
structure Lv (g:Gr)(A:hX)(s:d2)(φ:Fi)(H:Hp):Prop where
 st:∀b o,g.hT.get? b=O o->s.heap.get? b=O o
 rl:Rl g.N g.hT s.heap φ H
 hd:cM g.N A s.heap φ
 zz:∀a,g.N.Z a->∃o,s.heap.get? a=O o
 Bn:∃env outer,A.frames=O (env::outer)/\env.scope.isGenerator=aN/\env.scope.isCoroutine=aN/\env.builtins=rV/\env.globals=fw/\env.scope.kind=.function/\
  mB g.N g.hT s.heap φ (env::outer)
def Lv.pI(L:Lv g A s x H)(a:bK é g.N g.hT s x W s' p)(nx:∀y,g.N.exc=O y->¬é y.e/\¬é y.dx):Lv g A s' p W:=by
 refine s8 (L.Bn) λq m d h j k c f i=>?_;refine⟨a.st,a.rl,L.hd.aT a.aT a.bw nx,λb z=>let ⟨o,e⟩:=L.zz b z;a.aT.lQ b o e,?_⟩;exact yz q m d h j k c f (i.aT a.aT a.bw)
theorem Lv.a(L:Lv g A s h H)(a:ba g.N g.hT s h i j e):Lv g A j e i:=L.pI a λb b=>⟨id,id⟩
structure tr (A:hX)(d:S)(k:S):Prop where
 depth:A.depth+4*d+k+120<Bx
 units:A.units+200*d+20*k+60<Ug
theorem tr.u(r:tr A d k):A.units<Ug:=by have:=r.units;exact Zl this
section
variable{g:Gr}{A:hX}{E:cc->d2->Prop}{s:d2}{φ:Fi}{H:Hp}{d k:S}
def ba.new(L:Lv g A s φ H):ba g.N g.hT s φ H {s with heap:=s.heap.push o} φ:=
 .keeps L.rl L.st _ λa a q=>c1 _ q
def ba.ae9(L:Lv g A s φ H):ba g.N g.hT s φ H {s with heap:=s.heap.push o,toks:=tk} φ:=
 .keeps L.rl L.st _ λa a q=>c1 _ q
def aF(h:d1):h.get? h.objs.size=Q:=by
 refine az (h.get? h.objs.size) ?_ ?_
 ·intro q;rfl
 ·intro o q;exact hQ (hM q) (l3 _)
def VR.nM(c:¬cm φ a)(e:sA h a i n)(r:aL N h φ l i.toList)(b:l.length<=aZ):VR N h φ (.lst l) (.ref a):=by
 exact hG a i Z c ⟨n,e,by rw[<-g6,r.len];exact b⟩ r
def VR.uw(c:¬cm φ a)(e:IsT h a i n)(r:aL N h φ l i.toList)(b:l.length<=aZ):VR N h φ (.tup l) (.ref a):=by
 exact hG a i Z c ⟨n,e,by rw[<-g6,r.len];exact b⟩ r
def VR.fO(i:T)(t:Tok):VR N h φ (.int i) (.int i t):=by delta VR;exact bq t Z
def VR.iq(b:aS):VR N h φ (.bool b) (.bool b):=by delta VR;rfl
def VR.yi:VR N h φ .none .none:=by delta VR;rfl
def Gf(a:T)(h:0<b):a.fdiv b=a / b:=T.fdiv_eq_ediv_of_nonneg a (o8 h)
def Gg(a:T)(h:0<b):a.fmod b=a % b:=T.fmod_eq_emod_of_nonneg a (o8 h)
theorem foldl_rep(x:cc):∀(n:S) (e:hF cc),(J.foldl (λ(b a:hF cc)=>b++a) e (g5 n #[x])).toList=e.toList++g5 n x
 | 0,e=>by simp
 | n+1,e=>by
  simp only[yR,J.foldl_cons,foldl_rep x n];simp[yR]
theorem aL.rep(r:VR N h φ x v):∀n,aL N h φ (g5 n x) (g5 n v)
 | 0=>.nil
 | n+1=>by dsimp only[yR];exact .cons r (aL.rep r n)
set_option tactic.hygienic true in
theorem AB(G:g.Ok)(L:Lv g A s φ H)(R:tr A d k)(f:VR g.N s.heap φ x v)(c:VR g.N s.heap φ y u)(e:cK op x y=O z)(h:∀v' s',ba g.N g.hT s φ H s' φ->VR g.N s'.heap φ z v'->ø v' s'):er (ej g.prog g.w) A (binaryOp op v u) ø E s:=by
 haveI è:PylongRoom (ej g.prog g.w) A s:=VZ (G.T.nolimit.keeps L.st) (by have:=R.depth;show A.depth+100<_;exact Zm this) (by
  exact s8 (L.Bn) λä à f1 f2 f3 f4 f5 f6 _=>SeerAt.of (G.seer.keeps L.st) G.tree f1 f2 f3 f4 f5)
 cases x with
 | int i=>cases y with
  | int j=>
   replace e:Va op i j=O z:=e;cases op with
   | Add=>
    try clear op;try clear z
    injection e with e;subst e
    delta VR at f c;dsimp only at f c;refine aH f λt W=>?_;clear f;subst W;refine aH c λp ù=>?_;clear c;subst ù;exact PyProof.Rows.add_int (h _ _ (.tok L.rl L.st _) (.fO _ _))
   | Sub=>
    clear G;injection e with e;subst e
    delta VR at f c;refine aH f λt â=>?_;clear f;subst â;refine aH c λp ó=>?_;clear c;subst ó;exact PyProof.Rows.sub_int' (h _ _ (.tok L.rl L.st _) (.fO _ _))
   | FloorDiv=>
    replace e:(if 0<j then O (AV.int (i / j)) else Q)=O z:=e
    (revert e;refine aJ ?_ ?_<;>intro _ e)<;>(first | injection e with e;subst e | injection e)
    rename_i K;delta VR at f c;dsimp only at f c;refine aH f λt å=>?_;clear f;subst å;refine aH c λp á=>?_;clear c;subst á;refine PyProof.Rows.floordiv_int (by exact MR K) ?_ (.inr è);rw[Gf _ K];exact h _ _ (.tok L.rl L.st _) (.fO _ _)
   | Mod=>
    replace e:(if 0<j then O (AV.int (i % j)) else Q)=O z:=e
    (revert e;refine aJ ?_ ?_<;>intro _ e)<;>(first | injection e with e;subst e | injection e)
    rename_i K;delta VR at f c;refine aH f λt ê=>?_;clear f;subst ê;refine aH c λp ï=>?_;clear c;subst ï;refine PyProof.Rows.mod_int' (by exact MR K) ?_;rw[Gg _ K];exact h _ _ (.tok L.rl L.st _) (.fO _ _)
   | Mult=>
    replace e:(if i=7 then O (AV.int (7*j)) else Q)=O z:=e
    (revert e;refine aJ ?_ ?_<;>intro _ e)<;>(first | injection e with e;subst e | injection e)
    rename_i I1;subst I1;delta VR at f c;dsimp only at f c;refine aX v f λt=>?_;clear f;refine aH c λp î=>?_;clear c;subst î;exact PyProof.Rows.mul_int (h _ _ (.tok L.rl L.st _) (.fO _ _)) (IntMulOk.of_left (by decide +kernel))
   | _=>injection e
  | _=>injection e
 | lst a=>cases y with
  | lst b=>
   cases op with
   | Add=>
    replace ⟨l,e,hl⟩:=h7.mp e;subst hl;replace e:(if(a++b).length<=aZ then O (a++b) else Q)=O l:=e
    (revert e;refine aJ ?_ ?_<;>intro _ e)<;>(first | injection e with e;subst e | injection e)
    rename_i é;refine eQ v f λD o _ Nb r1=>?_;clear f;refine ak Nb λI m z1=>?_;clear Nb;refine eQ u c λa2 ö _ Nc r2=>?_;clear c;refine ak Nc λí C z2=>?_;clear Nc;haveI e1:=r1.len;have ü:=r2.len;rw[g6] at e1 ü;rw[a9] at é;refine P.add_list m C ?_ (by rw[e1,ü,o6];exact lJ é);haveI a:ba g.N g.hT s φ H {s with heap:=s.heap.push {cls:=.type "list",data:=.seq (o++ö)}} φ:=.new L;refine h _ _ a (.nM (bg L.rl (aF _)) (R2 s.heap (o++ö)) ?_ (by rw[a9];exact é));rw[JY];exact(r1.mono a.aT a.bw).append (r2.mono a.aT a.bw)
   | _=>injection e
  | int n=>
   cases op with
   | Mult=>
    cases a with
    | nil=>injection e
    | cons x a=>cases a with
     | cons _ _=>injection e
     | nil=>
      replace e:(if 0<=n/\n<=aZ then O (AV.lst (g5 n.toNat x)) else Q)=O z:=e
      (revert e;refine aJ ?_ ?_<;>intro _ e)<;>(first | injection e with e;subst e | injection e)
      rename_i ç;refine eQ v (VR.tn f) λD o _ Nd r1=>?_;clear f;refine ak Nd λI m z1=>?_;clear Nd;refine aX u c λp=>?_;clear c;refine bV r1.uq ?_;clear r1;intro v1 r ñ rv r1;replace r1:=r1.vY;subst r1;haveI ñ:o=#[v1]:=by
       clear m z1;obtain⟨l⟩:=o;simp at ñ;exact cx _ ñ
      clear z1;subst ñ;unfold aZ at ç;refine wpAny_binaryOp_repeat_ref (T:="list") (U:="int") (by decide) ⟨_,m,Z⟩ (λs'=>typeIs_int s' n p) noFill_list_mul F.fills_int_mul F.slot_int_rmul repeat_list F.slot_int_index.lookup
       (Jr F.slot_int_rmul (typeIs_int s n p) F.entry_int_rmul (F.args_int_rmul_2 _ _) (int___rmul___int_list n p D _ I)
        ⟨m,Z,⟨_,m,Z⟩,Jr F.slot_list_mul ⟨_,m,Z⟩ F.entry_list_mul (F.args_list_mul_2 _ _)
         (Ss D _ I n p (by simp[kR.List.listFitsIndex];exact Zp ç) (by simp;exact Zq ç) (by simp[Ox,G2];exact Zr ç))
         ⟨m,?_⟩⟩)
      refine h _ _ (ba.new L) (.nM (bg L.rl (aF _)) (R2 s.heap _) ?_ (by rw[QH];delta aZ;exact Zs ç));simp only[hF.isEmpty,mE,ff,qg];rw[show(eo (0+1=0))=aN from Z];simp only[ia,kc];rw[foldl_rep];exact aL.rep (rv.mono (.of_keeps λ_ _ q=>c1 _ q) (.refl ..)) _
   | _=>injection e
  | _=>injection e
 | tup a=>cases y with
  | tup b=>
   cases op with
   | Add=>
    replace ⟨l,e,hl⟩:=h7.mp e;subst hl;replace e:(if(a++b).length<=aZ then O (a++b) else Q)=O l:=e
    (revert e;refine aJ ?_ ?_<;>intro _ e)<;>(first | injection e with e;subst e | injection e)
    rename_i é;haveI ja:=f;have Nf:=c;refine eP (VR.yN f) λD o ô=>?_;clear f;subst ô;intro _ Ng r1;refine ak Ng λI m z1=>?_;clear Ng;refine eP (VR.yN c) λa2 ö û=>?_;clear c;subst û;intro _ Nh r2;refine ak Nh λí C z2=>?_;clear Nh;haveI e1:=r1.len;have ü:=r2.len;rw[g6] at e1 ü;rw[a9] at é;by_cases U:o.isEmpty=X
    ·refine Uw ⟨_,m,Z⟩ ⟨_,C,Z⟩ SG TR F.slot_tuple_add F.entry_tuple_add (F.args_tuple_add_2 _ _) (AutoSeq1.tuple___add___tuple_tuple_0 D o I a2 ö í U) ⟨m,C,?_⟩;have z:o=#[]:=R9.mp U;clear r1 m z1 U;subst z;have z:=Df.mp e1.symm;subst z;exact h _ _ (.refl L.rl L.st) Nf
    ·by_cases V:ö.isEmpty=X
     ·refine Uw ⟨_,m,Z⟩ ⟨_,C,Z⟩ SG TR F.slot_tuple_add F.entry_tuple_add (F.args_tuple_add_2 _ _) (AutoSeq1.tuple___add___tuple_tuple_1 D o I a2 ö í U V) ⟨m,C,?_⟩;haveI z:ö=#[]:=R9.mp V;subst z;have z:=Df.mp ü.symm;subst z;rw[hP] at h;exact h _ _ (.refl L.rl L.st) ja
     ·refine P.add_tuple m C U V ?_ (by rw[e1,ü,o6];exact lJ é);haveI a:ba g.N g.hT s φ H {s with heap:=s.heap.push {cls:=.type "tuple",data:=.seq (o++ö)}} φ:=.new L;refine h _ _ a (.uw (bg L.rl (aF _)) (Tu s.heap (o++ö)) ?_ (by rw[a9];exact é));rw[JY];exact(r1.mono a.aT a.bw).append (r2.mono a.aT a.bw)
   | _=>injection e
  | _=>injection e
 | _=>injection e
set_option tactic.hygienic true in
def Gh(e:b8 l i=O z):∃k,TM i l.length=O k/\l[k]?=O z:=by
 delta b8 at e;delta TM
 revert e;refine aJ ?_ ?_<;>intro _ e
 ·rename_i b;have a:i.toNat<l.length:=(fb.mp e).1;refine ay i.toNat ?_ e;have:¬i<0:=by exact MT b
  simp only[this,kc];exact(dE (by simp;exact Zy a this))
 ·revert e;refine aJ ?_ ?_<;>intro _ e
  ·rename_i b U;have a:(i+l.length).toNat<l.length:=(fb.mp e).1;refine ay ((i+l.length).toNat) ?_ e;have:i<0:=by exact Zz a
   simp only[this,i5];rw[dE (by simp;exact ZA U this)]
  ·injection e
def Kl(e:b8 l i=O z):-(l.length:T)<=i/\i<l.length:=by
 revert e;refine aJ ?_ ?_<;>intro b e
 ·haveI a:i.toNat<l.length:=(fb.mp e).1;exact ZC ‹_› a
 ·revert e;refine aJ ?_ ?_<;>intro b e
  ·haveI a:(i+l.length).toNat<l.length:=(fb.mp e).1;exact ZD ‹_› a
  ·injection e
def Ed(e:di H x y=O z):∃i b l,y=.int i/\bD H x=O (b,l)/\b8 l i=O z:=by
 delta di at e;generalize bD H x=q at e ⊢;cases q with
 | none=>cases y<;>injection e
 | some p=>
  cases y<;>try (injection e;done)
  exact⟨_,_,_,Z,Z,e⟩
def AD(L:Lv g A s φ H)(C:VR g.N s.heap φ x v)(c:VR g.N s.heap φ y u)(e:di H x y=O z)(h:∀d,VR g.N s.heap φ z d->à d s):er (ej g.prog g.w) A (Vv v u) à E s/\∃ù id,s.TypeIs v ù/\typeLookup (.type ù) "__getitem__"=pure (O (.builtin id)):=by
 refine gA (Ed e) ?_;clear e;intro i b l q é e;subst q
 ·delta VR at c;dsimp only at c;refine aX u c λt=>?_;clear c;try clear c;try clear t
  refine eQ v (iC L.rl C é) λa ws r D è=>?_;clear C;refine ak (Gh e) λk W K=>ak (r.get K) λd hv o=>?_;haveI e1:=r.len;have e1:=g6▸e1;have hb:ws.size<=1048576:=by
   clear r é;cases b
   ·exact(è Z).choose_spec.2
   ·exact(D Z).choose_spec.2
  haveI hi:=Kl e;rw[<-e1] at W hi;have j:ws[k]?=O d:=by simpa using hv
  clear é;cases b with
  | true=>
   refine ak (D Z) λn p m=>⟨?_,"list",_,⟨_,p,Z⟩,slot_list_getitem.lookup⟩;haveI I:s.heap.IsList a ws:=kg p;delta TM at W;by_cases f:0<=i
   ·refine wpAny_getItem_list I f (Cz hb hi (by decide)).2 ?_ (h _ o);have:¬i<0:=by exact MT f
    simp only[this,kc] at W
    revert W;refine aJ ?_ ?_<;>intro m W
    ·rw[gf W];exact j
    ·injection W
   ·have G:i<0:=by exact ZE f
    simp only[G,i5] at W
    revert W;refine aJ ?_ ?_<;>intro m W
    ·refine wpAny_getItem_list_neg I G (by exact ZF hi) (Cz hb hi (by decide)).1 ?_ (h _ o);rw[gf W];exact j
    ·injection W
  | false=>
   exact ak (è Z) λn p m=>⟨P.getItem_tuple p (Cz hb hi (by decide)).1 (Cz hb hi (by decide)).2 W j (h _ o),"tuple",_,⟨_,p,Z⟩,F.slot_tuple_getitem.lookup⟩
def Ee(L:Lv g A s φ H)(d:VR g.N s.heap φ x v)(e:bD H x=O (b,l))(h:∀m j,ba g.N g.hT s φ H j φ->VR g.N j.heap φ (.int l.length) m->y m j):er (ej g.prog g.w) A (call (.builtin "len") [v]) y E s:=by
 refine eQ v (iC L.rl d e) λa q r f c=>?_;clear d;haveI e1:=r.len;rw[g6] at e1;have hb:q.size<=1048576:=by
  clear e;cases b
  ·exact(c Z).choose_spec.2
  ·exact(f Z).choose_spec.2
 have hq:=h (.int q.size (s.toks+1)) {s with toks:=s.toks+1+1} (.tok L.rl L.st _) (by refine ah e1 ?_;exact .fO _ _);cases b with
 | true=>exact Calls.call_len_list (f Z).isList (yD hb (by decide)) hq
 | false=>
  exact ak (c Z) λn p i=>P.len_tuple p (QU.mpr (yD hb (by decide))) hq
end
def pJ:entryFor table "proto.unchain"=O kR.«proto.unchain»:=entryFor_of_fast (by kernel_rfl)
theorem LY:plainId "proto.unchain"=X:=by decide +kernel
set_option tactic.hygienic true in
theorem cM.in1(x:cM N A h e):cM N A.in1 h e:=by
 dsimp only[cM] at *
 split
 ·rename_i q;rw[q] at x;exact x
 ·rename_i y q;rw[q] at x;exact⟨x.le,x.ld,x.ob,x.fu,x.hd,x.zn⟩
section
variable{N:cz}{aC:nz}{w:oM}{A:hX}{s:d2}{φ:Fi}{E:cc->d2->Prop}
set_option tactic.hygienic true in
def ie(hd:cM N A s.heap φ)(h:∀a y,(∀b o,s.heap.get? b=O o->y.get? b=O o)->(∃o,y.get? a=O o/\o.cls=.type "StopIteration")->E (.ref a) {s with heap:=y}):er (ej aC w) A (newExc (.type "StopIteration") [] >>= λe=>QZ e:RF L) è E s:=by
 refine a4 (a4 (m:=Tv _ _) (Su (a:=BF) (by first | rfl | (dsimp only[Tv])) ?_));refine DT ?_ (by size_fits);haveI keep:∀(h:d1) (d i:p6) b o,h.get? b=O o->((h.push d).push i).get? b=O o:=λh d i b o e=>c1 _ (c1 _ e);refine a4 (TU ?_);delta cM at hd
 split at hd
 ·exact ah hd (FK (h _ _ (keep _ _ _) ⟨_,hJ _ Z,Z⟩))
 ·rename_i x p;refine eE hd.hd (λq=>?_) λq=>?_
  ·exact ah q (FK (h _ _ (keep _ _ _) ⟨_,hJ _ Z,Z⟩))
  ·refine ah q (vN (hd.ob) λW vs f _ _ n k=>?_);haveI l:(i4 x.e != i4 (s.heap.push {cls:=.type "tuple",data:=.seq #[]}).objs.size)=X:=by
    have:x.e≠s.heap.objs.size+1:=jB (jc (hM f));simp[this]
   dsimp only;refine ah (dE l) ?_;generalize j:({cls:=S5 "StopIteration",data:=Data.fields (#[i4 s.heap.objs.size,BF,BF,BF,cc.bool aN,BF]++ownMembersOf (S5 "StopIteration") [])}:p6)=é;haveI g:=keep s.heap {cls:=.type "tuple",data:=.seq #[]} é _ _ f;haveI c:((s.heap.push {cls:=.type "tuple",data:=.seq #[]}).push é).get? (s.heap.push {cls:=.type "tuple",data:=.seq #[]}).objs.size=O é:=hJ _ (by rw[<-j];rfl);refine a4 (kW (Tw (S7 pJ ?_)));refine a4 (ib g n k ?_);refine a4 (ei (ei ?_));refine a4 (a4 (S8 c ?_));clear g;subst j;refine RG c (FK (h _ _ (λb o q=>?_) ?_))
   ·have:b<s.heap.objs.size:=hM q;rw[hE _ _ (by rw[l8];exact λz=>l3 _ (Ju (iB _) (z▸this)))];exact keep _ _ _ _ _ q
   ·exact ay _ (kv _ c Z) Z
def aa0:e=e:=Z
def Gi{W l:eu}(p:cM N A s.heap φ)(f:∀x,N.exc=O x->x.e≠W/\x.dx≠W)(z:s.heap.IsListIter W l i)(q:s.heap.IsList l L)(k:L[i]?=Q)(h:∀h',L3 W s.heap h'->é Q {s with heap:=h'}):er (ej aC w) A (M9 (.ref W)) é E s:=by
 refine cR (id z) λo c hc hd=>?_;obtain⟨r,j,_,nl,g⟩:=q;refine a4 (yl (kP (name:=aD "__next__") z.typeIs AA
  (oX AA z.typeIs Ri ?_ (RH _))))
 show er _ _ (field (.ref W) 0 >>= _) _ _ s;refine a4 (ib c hd (x:=.ref l) Z ?_);refine a4 (ib c hd (x:=.int i 0) Z ?_);refine a4 (L0 j g ?_);simp only[mG,k];refine a4 (Jm (a4 (wk c hd (by simp) ?_)));refine ie (N:=N) (φ:=φ) ((p.keep (.refl ..) λy d=>?_).in1) λa h' hk ⟨t,n,m⟩=>?_
 ·exact au (λo e=>((lW ..).extBut) _ _ (f y d).1 e) (λo e=>((lW ..).extBut) _ _ (f y d).2 e)
 ·refine a4 (x4 (T:="StopIteration") (b:=X) ⟨_,n,m⟩ BX ?_);exact ei (h _ λb o hb e=>hk _ _ ((lW ..).extBut _ _ hb e))
def Ef(p:cM N A s.heap φ)(f:∀x,N.exc=O x->x.e≠W/\x.dx≠W)(z:s.heap.IsTupleIter W t i)(n:s.heap.IsTuple t L)(k:L[i]?=Q)(h:∀h',L3 W s.heap h'->é Q {s with heap:=h'}):er (ej aC w) A (M9 (.ref W)) é E s:=by
 refine cR (id z) λo c hc hd=>?_;obtain⟨q,j,_,nl,g⟩:=n;delta M9;refine a4 (yl (kP (name:=aD "__next__") z.typeIs F.slot_tuple_iterator_next
  (oX F.slot_tuple_iterator_next z.typeIs F.entry_tuple_iterator_next ?_ (F.args_tuple_iterator_next_1 _))))
 show er _ _ (field (.ref W) 0 >>= _) _ _ s;refine a4 (ib c hd (x:=.ref t) Z ?_);show er _ _ (if(i4 t==BF)=X then _ else _) _ _ s;refine a4 (ib c hd (x:=.int i 0) Z ?_);refine a4 (L0 j g ?_);simp only[mG,k];refine a4 (Jm (a4 (wk c hd (by simp) ?_)));refine ie (N:=N) (φ:=φ) ((p.keep (.refl ..) λy d=>?_).in1) λa h' hk ⟨r,m,l⟩=>?_
 ·exact au (λo e=>((lW ..).extBut) _ _ (f y d).1 e) (λo e=>((lW ..).extBut) _ _ (f y d).2 e)
 ·refine a4 (x4 (T:="StopIteration") (b:=X) ⟨_,m,l⟩ BX ?_);exact ei (h _ λb o hb e=>hk _ _ ((lW ..).extBut _ _ hb e))
def Eg{x step:T}(h:cM N A s.heap φ)(k:Sv s.heap m x left step)(g:left<=0)(c:∀p,L3 m s.heap p->y Q {s with heap:=p}):er (ej aC w) A (M9 (.ref m)) y E s:=by
 refine a4 (yl (kP (name:=aD "__next__") (⟨_,k,Z⟩) F.slot_range_iterator_next
  (oX F.slot_range_iterator_next (⟨_,k,Z⟩) F.entry_range_iterator_next ?_ (F.args_range_iterator_next_1 _))))
 show er _ _ (field (.ref m) 0 >>= _) _ _ s;refine a4 (ib k Z (x:=sC x) Z ?_);show er _ _ (field (.ref m) 1 >>= _) _ _ s;refine a4 (ib k Z (x:=sC left) Z ?_);refine a4 (ib k Z (x:=sC step) Z ?_);show er _ _ (if left<=0 then _ else _) _ _ s;rw[dE g];refine a4 (Jm ?_);refine a4 (ie (N:=N) (φ:=φ) h.in1 λa p q ⟨j,f,d⟩=>a4 (x4 (T:="StopIteration") (b:=X) ⟨_,f,d⟩ BX ?_));exact ei (c _ λb o i e=>q _ _ e)
def Km(h:cM N A s.heap φ)(k:s.heap.IsRevIter m l (-1))(c:∀p,L3 m s.heap p->y Q {s with heap:=p}):er (ej aC w) A (M9 (.ref m)) y E s:=by
 refine cR (id k) λo g hc hd=>?_;refine a4 (yl (kP (name:=aD "__next__") k.typeIs F.slot_lri_next
  (oX F.slot_lri_next k.typeIs F.entry_lri_next ?_ (F.args_lri_next_1 _))))
 refine a4 (Su (a:=(i4 m,[])) Z ?_);refine a4 (ib g hd (x:=sC (-1)) Z ?_);refine a4 (Jm ?_);try refine a4 ?_
 refine ie (N:=N) (φ:=φ) h.in1 λa p q ⟨j,f,d⟩=>a4 (x4 (T:="StopIteration") (b:=X) ⟨_,f,d⟩ BX ?_);exact ei (c _ λb o i e=>q _ _ e)
end
noncomputable def dz (N:cz):J eu:=match N.exc with | none=>[] | some x=>[x.e,x.dx]
def cM.fp(x:cM N A h g)(F:e9 h g e)(k:∀b∈dz N,∀o,h.get? b=O o->i.get? b=O o):cM N A i e:=
 x.keep F λy a=>⟨k y.e (by simp[dz,a]),k y.dx (by simp[dz,a])⟩
def yP{I:eu}(h:I∉dz N):∀x,N.exc=O x->x.e≠I/\x.dx≠I:=λx a=>by
 simp only[dz,a,a8,eA,hK,A0] at h;exact au (λz=>h.1 z.symm) (λz=>h.2 z.symm)
set_option tactic.hygienic true in
def cM.nil{N:cz}(x:cM N A h g):cM N A h []:=by
 simp only[cM] at *
 split
 ·rename_i q;rw[q] at x;exact x
 ·rename_i y q;rw[q] at x;exact⟨λ⟨i,p,e,_⟩=>by simp at e,λ⟨i,p,e,_⟩=>by simp at e,x.ob,x.fu,x.hd,x.zn⟩
section
variable{N:cz}{aC:nz}{w:oM}{A:hX}
def Qv(I d:eu)(j:d≠I)(g:I∉dz N)(m:hF cc):Walks aC w A I (I::d::dz N) [I] m.size (λi v=>m[i]?=O v) (λi h=>h.IsListIter I d i/\h.IsList d m/\cM N A h []) where
 sub:=λb hb=>by simp at hb;simp[hb]
 frame:=λa a a st p=>⟨st.1.at λo e=>p I (by simp) o e,st.2.1.at λo e=>p d (by simp) o e,st.2.2.fp (.refl ..) λb hb o e=>p b (by simp[hb]) o e⟩
 item:=λi s y E hi st c=>by
  exact wpAny_pyNext_list_item st.1 st.2.1 (x:=m[i]) (by simp[hi]) λq k f=>c _ q s.toks (by simp[hi]) ⟨k,st.2.1.extBut f.extBut j,st.2.2.fp (.refl ..) λb hb o e=>f.extBut b o (λz=>g (z▸hb)) e⟩ λb o hb e=>f.extBut b o (λh=>hb (by simp[h])) e
 done:=λs y E st c=>Gi st.2.2 (yP g) st.1 st.2.1 (by simp) λq l=>c q s.toks λb o hb e=>l b o (λh=>hb (by simp[h])) e
 self:=λa a a a st c=>wpAny_pyIter_listiter st.1 c
def yQ(I d:eu)(j:d≠I)(g:I∉dz N)(m:hF cc):Walks aC w A I (I::d::dz N) [I] m.size (λi v=>m[i]?=O v) (λi h=>h.IsTupleIter I d i/\h.IsTuple d m/\cM N A h []) where
 sub:=λb hb=>by simp at hb;simp[hb]
 frame:=λa a a st p=>⟨st.1.at λo e=>p I (by simp) o e,st.2.1.at λo e=>p d (by simp) o e,st.2.2.fp (.refl ..) λb hb o e=>p b (by simp[hb]) o e⟩
 item:=λi s y E hi st c=>by
  exact wpAny_pyNext_tuple_item st.1 st.2.1 (x:=m[i]) (by simp[hi]) λq k f=>c _ q s.toks (by simp[hi]) ⟨k,st.2.1.extBut f.extBut j,st.2.2.fp (.refl ..) λb hb o e=>f.extBut b o (λz=>g (z▸hb)) e⟩ λb o hb e=>f.extBut b o (λh=>hb (by simp[h])) e
 done:=λs y E st c=>Ef st.2.2 (yP g) st.1 st.2.1 (by simp) λq l=>c q s.toks λb o hb e=>l b o (λh=>hb (by simp[h])) e
 self:=λa a a a st c=>wpAny_pyIter_tupleiter st.1 c
def Nj(I:eu)(j:I∉dz N)(a c:T)(n:S):Walks aC w A I (I::dz N) [I] n (λi v=>∃t,v=.int (a+i*c) t) (λi h=>Sv h I (a+(i:S)*c) ((n:T) - (i:S)) c/\cM N A h []) where
 sub:=λd hb=>by simp at hb;simp[hb]
 frame:=λd d d st q=>⟨q I (by simp) _ st.1,st.2.fp (.refl ..) λb hb o e=>q b (by simp[hb]) o e⟩
 item:=λi s x E hi st f=>by
  refine wpAny_pyNext_range_item st.1 (aag hi) λp k g=>f _ p _ ⟨_,Z⟩ ⟨?_,st.2.fp (.refl ..) λb hb o e=>g.extBut b o (λz=>j (z▸hb)) e⟩ λb o hb e=>g.extBut b o (λh=>hb (by simp[h])) e;haveI e1:a+((i+1:S):T)*c=a+(i:T)*c+c:=by push_cast;simp only[T.add_mul,T.one_mul,TV]
  haveI l:(n:T) - ((i+1:S):T)=(n:T) - (i:T) - 1:=by push_cast;exact aah
  simp only[e1,l];exact k
 done:=λs x E st f=>Eg st.2 st.1 (aai) λp m=>f p s.toks λb o hb e=>m b o (λh=>hb (by simp[h])) e
 self:=λd d d d st f=>wpAny_pyIter_rangeiter st.1 f
def aa1(I l:eu)(k:l≠I)(j:I∉dz N)(q:hF cc):Walks aC w A I (I::l::dz N) [I] q.size (λi v=>q[q.size - 1 - i]?=O v) (λi h=>i<=q.size/\h.IsRevIter I l ((q.size:T) - 1 - (i:T))/\h.IsList l q/\cM N A h []) where
 sub:=λb hb=>by simp at hb;simp[hb]
 frame:=λa a a x L=>⟨x.1,x.2.1.at λo e=>L I (by simp) o e,x.2.2.1.at λo e=>L l (by simp) o e,x.2.2.2.fp (.refl ..) λb hb o e=>L b (by simp[hb]) o e⟩
 item:=λi s é E hi x c=>by
  haveI e:(q.size:T) - 1 - (i:T)=((q.size - 1 - i:S):T):=Mq hi;haveI y:=x.2.1;simp only[e] at y;haveI g:q[q.size - 1 - i]?=O (q[q.size - 1 - i]'(MY e)):=zv (MY e);refine wpAny_pyNext_rev_item y x.2.2.1 g λW m f=>?_;haveI n:((q.size - 1 - i:S):T) - 1=(q.size:T) - 1 - ((i+1:S):T):=aaj e;exact c _ W s.toks g ⟨hi,(n▸m),x.2.2.1.at λo d=>(f.2 l k).trans d,x.2.2.2.fp (.refl ..) λb hb o e=>f.extBut b o (λz=>j (z▸hb)) e⟩ λb o hb d=>f.extBut b o (λh=>hb (by simp[h])) d
 done:=λs é E x c=>by
  haveI e:(q.size:T) - 1 - (q.size:T)=-1:=aak;haveI y:=x.2.1;exact Km x.2.2.2 (e▸y) λW p=>c W s.toks λb o hb d=>p b o (λh=>hb (by simp[h])) d
 self:=λa a a a x c=>Q0 x.2.1 c
end
section
variable{aC:nz}{w:oM}{A:hX}{E:cc->d2->Prop}{s:d2}
def AE{l:eu}{h:hF cc}{ne:S}{k:T}{t:Tok}{v:cc}{i:Unit->d2->Prop}(a:sA s.heap l h ne)(b:0<=k)(e:k<2 ^ 63)(f:k<h.size)(d:i () {s with heap:=s.heap.update l (N9 (·.setIfInBounds k.toNat v))}):er (ej aC w) A (Tx (.ref l) (.int k t) v) i E s:=by
 delta Tx;try with_reducible refine kW ?_
 refine a4 (Sa (kg a).typeIs (by decide) ?_);refine a4 (kP (name:=aD "__setitem__") (kg a).typeIs Eh
  (oX Eh (kg a).typeIs RI ?_ (Sb _ _ _)))
 show er _ _ (Na (.int k t) >>= _) _ _ s;refine a4 (PX (fitsIndex_of b e) ?_);clear e;refine aH (uA b) λj c=>?_;clear b;subst c;have g:j<h.size:=by exact Zu f
 show er _ _ ((seqItemAt l j >>= λr=>pure (r.map (j,·))) >>= _) _ _ s;refine a4 (a4 (wpAny_seqItemAt a Z (ei ?_)));rw[(zv g)];show er _ _ (setSeqItemAt l j v >>= _) _ _ s;refine a4 (RJ a Z ?_)
 first
  | exact a4 (ei (ei ⟨.none,Z,ei d⟩))
  | exact ei ⟨.none,Z,ei d⟩
def AF(a:sA s.heap l g ne)(b:k<0)(U:-(g.size:T)<=k)(e:-(2 ^ 63)<=k)(d:h () {s with heap:=s.heap.update l (N9 (·.setIfInBounds (k+g.size).toNat v))}):er (ej aC w) A (Tx (.ref l) (.int k t) v) h E s:=by
 delta Tx;try with_reducible refine kW ?_
 refine a4 (Sa (kg a).typeIs (by decide) ?_);refine a4 (kP (name:=aD "__setitem__") (kg a).typeIs Eh
  (oX Eh (kg a).typeIs RI ?_ (Sb _ _ _)))
 show er _ _ (Na (.int k t) >>= _) _ _ s;refine a4 (PX (fitsIndex_neg b e) ?_);clear e;haveI c:=seqIndex_neg b U;have f:(k+g.size).toNat<g.size:=by exact ZO b U
 clear U;obtain⟨j,rfl⟩:∃j:S,k=T.negSucc j:=by
  cases k with| ofNat n=>exact hQ b (uB.mpr (T.ofNat_nonneg n))| negSucc n=>exact bq n Z
 refine a4 (a4 ?_);refine a4 (L0 a Z (ei (ei ?_)));refine ah c ?_;simp only[dV,(zv f),gL];refine a4 (RJ a Z ?_)
 first
  | exact a4 (ei (ei ⟨.none,Z,ei d⟩))
  | exact ei ⟨.none,Z,ei d⟩
end
section
variable{N:cz}{aC:nz}{w:oM}{A:hX}{E:cc->d2->Prop}{s:d2}{φ:Fi}
def Vh(hb:e=decide (b>a)\/e=decide (b<a))(c:(mi #[(a,t),(b,u)])[(if e then 1 else 0:S)]?=O v):v=if e then Ni b u else Ni a t:=by
 clear hb;cases e<;>simpa [mi] using c.symm
set_option tactic.hygienic true in
def max_two{a b:T}(f:cM N A s.heap φ)(h:∀L tk,(∀c o,s.heap.get? c=O o->L.get? c=O o)->è (if b>a then .int b u else .int a t) {s with heap:=L,toks:=tk}):er (ej aC w) A (call (.builtin "max") [.int a t,.int b u]) è E s:=by
 haveI hT:(s.heap.push {cls:=.type "tuple",data:=.seq #[.int a t,.int b u]}).IsTuple s.heap.objs.size (mi #[(a,t),(b,u)]):=⟨_,hJ _ Z,Z,0,by simp[mi]⟩;refine call_max_two (Nk hT ?_);haveI g:(s.heap.push {cls:=.type "tuple",data:=.seq #[.int a t,.int b u]}).objs.size=s.heap.objs.size+1:=l8 ..;have m:∀c∈dz N,c<s.heap.objs.size:=λc hc=>by
  delta cM at f
  split at f
  ·rename_i q;simp[dz,q] at hc
  ·rename_i x q;simp only[dz,q,a8,eA,hK] at hc;refine bG (f.ob) λoe vs e1 _=>iU (f.fu) λsl n k1 k2 k3 z C é U V h3 p=>?_;rcases hc with rfl | rfl
   ·exact hM e1
   ·exact hM p
 refine(L9 _ ((s.heap.push {cls:=.type "tuple",data:=.seq #[.int a t,.int b u]}).objs.size::s.heap.objs.size::dz N) [(s.heap.push {cls:=.type "tuple",data:=.seq #[.int a t,.int b u]}).objs.size] _ _ _ _ Z (yQ (N:=N) (A:=A.in1) _ s.heap.objs.size (by refine ah g ?_;exact jB (iB _)) (λd=>?_) (mi #[(a,t),(b,u)]))
  ⟨⟨_,hJ _ Z,Z,Z⟩,hT.push _,?_⟩ (λc hc=>?_) (by simp[mi]) (CmpOf.ints_gt (uT #[(a,t),(b,u)]) (λ_ _=>intItems_at)) (λv L tk r hk=>?_))
 ·have:=m _ d;rw[g] at this;exact l3 _ (Ju (iB _) this)
 ·exact(f.nil.in1).fp (.refl ..) λb hb o e=>c1 _ (c1 _ e)
 ·show c<((s.heap.push _).push _).objs.size;rw[l8,g];rcases a8.mp hc with rfl | hc
  ·exact g▸iB _
  ·rcases a8.mp hc with rfl | hc
   ·exact jc (iB _)
   ·exact jc (jc (m _ hc))
 ·haveI W:∀c o,s.heap.get? c=O o->L.get? c=O o:=λc o e=>by
   refine hk c o (λd=>?_) (c1 _ (c1 _ e));refine eE (a8.mp d) (λe1=>?_) λd=>?_
   ·have:=hM e;simp only[e1,g] at this;exact l3 _ (Sd this)
   ·cases d
  have:=h L tk W;haveI hv:v=if b>a then Ni b u else Ni a t:=by
   haveI l:(mi #[(a,t),(b,u)])[B1 (λi j=>eo (uT #[(a,t),(b,u)] i>uT #[(a,t),(b,u)] j)) 1]?=O v:=by
    haveI y:(mi #[(a,t),(b,u)]).size - 1=1:=by simp[mi]
    rw[<-y];exact r
   by_cases k:b>a
   ·have e:B1 (λi j=>eo (uT #[(a,t),(b,u)] i>uT #[(a,t),(b,u)] j)) 1=1:=by simp[B1,uT,k]
    rw[e] at l;simpa [mi,k] using l.symm
   ·have e:B1 (λi j=>eo (uT #[(a,t),(b,u)] i>uT #[(a,t),(b,u)] j)) 1=0:=by simp[B1,uT,k]
    rw[e] at l;simpa [mi,k] using l.symm
  exact ah hv (this)
set_option tactic.hygienic true in
def min_two{a b:T}(f:cM N A s.heap φ)(h:∀L tk,(∀c o,s.heap.get? c=O o->L.get? c=O o)->è (if b<a then .int b u else .int a t) {s with heap:=L,toks:=tk}):er (ej aC w) A (call (.builtin "min") [.int a t,.int b u]) è E s:=by
 have hT:(s.heap.push {cls:=.type "tuple",data:=.seq #[.int a t,.int b u]}).IsTuple s.heap.objs.size (mi #[(a,t),(b,u)]):=⟨_,hJ _ Z,Z,0,by simp[mi]⟩;refine call_min_two (Nk hT ?_);haveI g:(s.heap.push {cls:=.type "tuple",data:=.seq #[.int a t,.int b u]}).objs.size=s.heap.objs.size+1:=l8 ..;have m:∀c∈dz N,c<s.heap.objs.size:=λc hc=>by
  unfold cM at f
  split at f
  ·rename_i q;simp[dz,q] at hc
  ·rename_i x q;simp only[dz,q,a8,eA,hK] at hc;refine bG (f.ob) λoe vs e1 _=>iU (f.fu) λsl n k1 k2 k3 z C é U V h3 p=>?_;rcases hc with rfl | rfl
   ·exact hM e1
   ·exact hM p
 refine(L9 _ ((s.heap.push {cls:=.type "tuple",data:=.seq #[.int a t,.int b u]}).objs.size::s.heap.objs.size::dz N) [(s.heap.push {cls:=.type "tuple",data:=.seq #[.int a t,.int b u]}).objs.size] _ _ _ _ Z (yQ (N:=N) (A:=A.in1) _ s.heap.objs.size (by exact g▸jB (iB _)) (λd=>?_) (mi #[(a,t),(b,u)]))
  ⟨⟨_,hJ _ Z,Z,Z⟩,hT.push _,?_⟩ (λc hc=>?_) (by simp[mi]) (CmpOf.ints_lt (uT #[(a,t),(b,u)]) (λ_ _=>intItems_at)) (λv L tk r hk=>?_))
 ·have:=m _ d;rw[g] at this;exact l3 _ (Ju (iB _) this)
 ·exact(f.nil.in1).fp (.refl ..) λb hb o e=>c1 _ (c1 _ e)
 ·show c<((s.heap.push _).push _).objs.size;simp only[l8,g];rcases a8.mp hc with rfl | hc
  ·exact g▸iB _
  ·rcases a8.mp hc with rfl | hc
   ·exact jc (iB _)
   ·exact jc (jc (m _ hc))
 ·haveI W:∀c o,s.heap.get? c=O o->L.get? c=O o:=λc o e=>by
   refine hk c o (λd=>?_) (c1 _ (c1 _ e));refine eE (a8.mp d) (λe1=>?_) λd=>?_
   ·have:=hM e;simp only[e1,g] at this;exact l3 _ (Sd this)
   ·cases d
  have:=h L tk W;haveI hv:v=if b<a then Ni b u else Ni a t:=by
   haveI l:(mi #[(a,t),(b,u)])[B1 (λi j=>eo (uT #[(a,t),(b,u)] i<uT #[(a,t),(b,u)] j)) 1]?=O v:=by
    haveI y:(mi #[(a,t),(b,u)]).size - 1=1:=by simp[mi]
    rw[<-y];exact r
   by_cases k:b<a
   ·have e:B1 (λi j=>eo (uT #[(a,t),(b,u)] i<uT #[(a,t),(b,u)] j)) 1=1:=by simp[B1,uT,k]
    rw[e] at l;simpa [mi,k] using l.symm
   ·have e:B1 (λi j=>eo (uT #[(a,t),(b,u)] i<uT #[(a,t),(b,u)] j)) 1=0:=by simp[B1,uT,k]
    rw[e] at l;simpa [mi,k] using l.symm
  exact ah hv (this)
end
section
variable{g:Gr}{A:hX}{E:cc->d2->Prop}{s:d2}{φ:Fi}{H:Hp}{d k:S}
def CH{x:AV}{l:J AV}{v:cc}{é:cc->d2->Prop}(L:Lv g A s φ H)(c:VR g.N s.heap φ x v)(e:frozen x=O l)(h:∀v' y,ba g.N g.hT s φ H y φ->VR g.N y.heap φ (.lst l) v'->é v' y):er (ej g.prog g.w) A (call (.type "list") [v]) é E s:=by
 cases x<;>dsimp only[frozen] at e<;>try (first | injection e with e;subst e | injection e)
 ·refine eP (VR.yN c) λa ws j=>?_;clear c;subst j;intro q m r;refine ak m λn p z=>?_;clear m;have e1:=r.len;rw[g6] at e1;have f:=z;unfold aZ at z;refine TX (T:="tuple") a (.inr Z) p Z Z (λW o hk i=>?_) (by rw[o6];exact lJ z);have b:ba g.N g.hT s φ H {s with heap:=W} φ:=.keeps L.rl L.st s.toks hk;exact h _ _ b (.nM (bg L.rl (aF _)) i (r.mono b.aT.w b.bw) (by rw[<-e1];exact f))
 ·refine eP (VR.tn c) λa ws d=>?_;clear c;subst d;intro q k r;refine ak k λn p z=>?_;clear k;have e1:=r.len;rw[g6] at e1;have f:=z;unfold aZ at z;refine TX (T:="list") a (.inl Z) p Z Z (λW o hk i=>?_) (by rw[o6];exact lJ z);have b:ba g.N g.hT s φ H {s with heap:=W} φ:=.keeps L.rl L.st s.toks hk;exact h _ _ b (.nM (bg L.rl (aF _)) i (r.mono b.aT.w b.bw) (by rw[<-e1];exact f))
def AG{x:AV}{l:J AV}{v:cc}{é:cc->d2->Prop}(L:Lv g A s φ H)(c:VR g.N s.heap φ x v)(e:frozen x=O l)(h:∀v' W,ba g.N g.hT s φ H W φ->VR g.N W.heap φ (.tup l) v'->é v' W):er (ej g.prog g.w) A (call (.type "tuple") [v]) é E s:=by
 cases x<;>dsimp only[frozen] at e<;>try (first | injection e with e;subst e | injection e)
 ·have j:=c;refine eP c λa y d=>?_;clear c;subst d;intro u p r;exact call_tuple_same p.lz (h _ _ (.refl L.rl L.st) j)
 ·refine eQ v (VR.tn c) λa y u i r=>?_;clear c;refine ak i λn p z=>?_;clear i;have e1:=r.len;rw[g6] at e1;have m:=z;unfold aZ at z;refine call_tuple_list (kg p) (λh' hk=>?_) (by rw[o6];exact lJ z);have k:∀b o,s.heap.get? b=O o->(h'.push {cls:=.type "tuple",data:=.seq y}).get? b=O o:=λb o q=>c1 _ (hk b o q);have f:ba g.N g.hT s φ H {s with heap:=h'.push {cls:=.type "tuple",data:=.seq y}} φ:=.keeps L.rl L.st s.toks k;refine h _ _ f (.uw (λl=>?_) (Tu h' y) (r.mono f.aT.w f.bw) (by rw[<-e1];exact m));exact aH (L.rl.ex l) λo t=>l3 _ (hM (hk _ _ t))
def Gk(e:gC H f args=O z):(∃x,args=[x])\/∃i j,args=[.int i,.int j]:=by
 cases args with
 | nil=>injection e
 | cons x t=>
  cases t with
  | nil=>exact .inl ⟨x,Z⟩
  | cons y t=>
   cases y<;>try (injection e;done)
   cases t with
   | nil=>
    cases x<;>try (injection e;done)
    exact .inr ⟨_,_,Z⟩
   | cons _ _=>injection e
set_option tactic.hygienic true in
def CI(L:Lv g A s φ H)(c:aL g.N s.heap φ args vs)(e:gC H f args=O z)(hc:cv=if f="list"\/f="tuple" then .type f else .builtin f)(h:∀d y,ba g.N g.hT s φ H y φ->VR g.N y.heap φ z d->é d y):er (ej g.prog g.w) A (call cv vs) é E s:=by
 subst hc;refine eE (Gk e) (λq=>aH q λx q=>?_) λq=>d9 q λi j q=>?_<;>subst q<;>delta gC at e
 ·refine bV c λv r l=>?_;clear c;subst l;intro hv b;subst b
  revert e;refine aJ ?_ ?_<;>intro _ e
  ·rename_i a;subst a;refine az (bD H x) ?_ ?_
   ·intro q;rw[q] at e;injection e
   ·intro p q;rw[q] at e;injection e with e;subst e
    exact Ee L hv q h
  ·revert e;refine aJ ?_ ?_<;>intro _ e
   ·rename_i a;subst a;clear q;cases x<;>(first | (injection e with e;subst e) | (injection e;done));refine aX v hv λt=>?_;clear hv;exact call_abs_int λu tk=>h _ _ (.tok L.rl L.st tk) (ah aas (.fO _ _))
   ·revert e;refine aJ ?_ ?_<;>intro _ e
    ·rename_i a;subst a;clear q;cases x<;>try (injection e;done)
     all_goals
      (revert e;refine aJ ?_ ?_<;>intro _ e)<;>(first | injection e with e;subst e | injection e)
      exact CH L hv Z h
    ·revert e;refine aJ ?_ ?_<;>intro _ e
     ·rename_i a;subst a;clear q;cases x<;>try (injection e;done)
      all_goals
       (revert e;refine aJ ?_ ?_<;>intro _ e)<;>(first | injection e with e;subst e | injection e)
       exact AG L hv Z h
     ·injection e
 ·refine bV c.uq λv r k=>?_;clear c;subst k;intro hv b;refine dc r b ?_;clear b;intro d o m b;delta aL at b;dsimp only at b;subst b;refine aX v hv λt=>?_;clear hv;refine aX d m λn=>?_;clear m
  revert e;refine aJ ?_ ?_<;>intro _ e
  ·rename_i a;subst a;injection e with e;subst e
   refine max_two L.hd λh' tk W=>h _ _ (.keeps L.rl L.st tk W) (ah aaq ?_)
   split<;>exact .fO _ _
  ·revert e;refine aJ ?_ ?_<;>intro _ e
   ·rename_i a;subst a;injection e with e;subst e
    refine min_two L.hd λh' tk W=>h _ _ (.keeps L.rl L.st tk W) (ah aar ?_)
    split<;>exact .fO _ _
   ·injection e
end
end Internal
end
noncomputable section
namespace Internal
open PySem PySem.W PySem.Calls PyProof.Rows SeqAt MeetsSeq
inductive Ei where
 | mk (nm q:cD) (N:eu) (bs:J cc) (sn:J cD) (sub:J cc) (ab:aS) (col:aI aS) (dd:aI eu) (k0 k1 k2 k3 k5:aI cc)
def Ei.obj (c:Ei)(C W:eu):p6:=Ei.rec (λg q N h i sub j e k m p s x y=>sh g q C N h [.ref W,.type "Exception",.type "BaseException",.type "object"] X i sub j e k m p s x y "Exception.__new__") c
inductive FnAt (K:mj)(p:pK->aS)(a:eu):Prop
 | mk (fd:pK) (oc:cc) (od:aI eu) (sl:hF (aI cc)) (e:K.lookup a=O ⟨oc,od,.func fd,sl⟩) (h:p fd=X) (c:RA K fd.code fd.qualname=X) (g:fd.globals=fw) (b:fd.builtins=rV)
structure XT (K:mj)(C:eu)(fa:a7->aI eu):Prop where
 fail:∃a,fa "StackCheck.fail"=O a/\FnAt K yJ a
 cls:∃(c:Ei) (W wi:eu),K.lookup C=O (c.obj C W)/\r0 K fw (aD "WasmFault")=O (O (.ref W))/\Ql K (.ref W) "__getattribute__"=O (O (.builtin "type.__getattribute__"))/\Ts K W (.type "type")=X/\
  findCls K (.ref W) (.type "type") (aD "__init__")=O (.val (.ref wi))/\q6 K (.ref wi)=X/\FnAt K nK wi
 keep:q6 K (.ref C)=X
 init:∃fi,l4 K (.ref C) "__init__"=O (O (.ref fi))/\Ow K (.ref fi)=O (.type "function")/\FnAt K rS fi
 Np:∀f∈["why","function","at"],LN K C (aD f)=O Q
 sa:l4 K (.ref C) "__setattr__"=O (O (.builtin "object.__setattr__"))
 yS:r0 K fw (aD "Exception")=O Q
 exc:Of K (.type "Exception") (.type "type") (aD "__init__")=O (.val (.builtin "Exception.__init__"))
structure Gr.Tab (g:Gr)(fa:a7->aI eu):Prop where
 fn:∀f D,PP f=O D->f≠"law"->∃a fd oc od sl,fa f=O a/\g.K.lookup a=O ⟨oc,od,.func fd,sl⟩/\yg D fd=X/\RA g.K fd.code fd.qualname=X/\fd.globals=fw/\fd.builtins=rV
 gfn:∀f,f∈GF->∃a,fa f=O a/\r0 g.K fw (aD f)=O (O (.ref a))/\q6 g.K (.ref a)=X
 ix:∀c m f,(c,m,f)∈IX->∃C a,g.N.cls c=O C/\fa f=O a/\l4 g.K (.ref C) (aD m)=O (O (.ref a))/\Ow g.K (.ref a)=O (.type "function")/\q6 g.K (.ref a)=X
 il:∀c m f,(c,m,f)∈M0->∃C a,fa f=O a/\r0 g.K fw (aD c)=O (O (.ref C))/\Ql g.K (.ref C) "__getattribute__"=O (O (.builtin "type.__getattribute__"))/\
  readsIn g.K C (.type "type")=X/\Of g.K (.ref C) (.type "type") (aD m)=O (.val (.ref a))/\q6 g.K (.ref a)=X
 news:∀c f,(c,f)∈NT->∃C a,g.N.cls c=O C/\fa f=O a/\r0 g.K fw (aD c)=O (O (.ref C))/\makesIn g.K C=X/\q6 g.K (.ref C)=X/\
  findIn g.K (.ref C) "__init__"=O (O (.ref a))/\Ow g.K (.ref a)=O (.type "function")
 inst:∀c C,g.N.cls c=O C->l4 g.K (.ref C) "__getattribute__"=O (O (.builtin "object.__getattribute__"))/\l4 g.K (.ref C) "__getattr__"=O Q/\RC g.K C=X/\
  findIn g.K (.ref C) "__setattr__"=O (O (.builtin "object.__setattr__"))/\plainOver g.K C=X/\∀f∈Bj,l4 g.K (.ref C) (aD f)=O Q
 glob:∀x v,GG x=O v->∃w,r0 g.K fw (aD x)=O (O w)/\∀N h φ,(∀b o,g.hT.get? b=O o->h.get? b=O o)->(∀a,cm φ a->g.hT.get? a=Q)->VR N h φ v w
 bi:∀f∈IY,r0 g.K fw (aD f)=O Q
 bit:∀f∈["range","enumerate","reversed"],r0 g.K fw (aD f)=O Q
 kinds:∃d f,r0 g.K fw (aD "KIND_NAMES")=O (O (.ref d))/\g.hT.IntMap d f/\∀i,(f i).isSome=decide (i=-1\/i=-2\/i=-16\/i=-17)
 xga:l4 g.K (.ref g.N.inv) "__getattribute__"=O (O (.builtin "BaseException.__getattribute__"))
 xgh:l4 g.K (.ref g.N.inv) "__getattr__"=O Q
 xdi:RC g.K g.N.inv=X
 xno:∀f∈["why","function","at"],l4 g.K (.ref g.N.inv) (aD f)=O Q
 aa9:mroIn g.K g.N.inv (.type "BaseException")=O X
 Vi:r0 g.K fw (aD "Invalid")=O (O (.ref g.N.inv))
 xm:exmOne g.K (.ref g.N.inv) (.ref g.N.inv)=O X
 Qw:fa "law"=Q
 xt:XT g.K g.N.inv fa
structure En (g:Gr)(env:Env)(s:d2)(φ:Fi)(ρ:Loc):Prop where
 hk:env.scope.kind=.function
 gl:env.globals=fw
 bt:env.builtins=rV
 ns:∃m,s.heap.Ns env.locals m/\∀x v,ρ.lookup x=O v->(aD x==(".0":cD))=aN->env.kindOf (aD x)=O .local->∃w,m (aD x)=O w/\VR g.N s.heap φ v w
 nl:¬cm φ env.locals/\g.hT.get? env.locals=Q
 cl:∀x,env.kindOf x=O .cell->∃c o dZ,env.cells.lookup x=O c/\s.heap.get? c=O o/\o.data=.cell dZ/\¬cm φ c/\∀y v,x=aD y->ρ.lookup y=O v->∃w,dZ=O w/\VR g.N s.heap φ v w
section
variable{g:Gr}{env:Env}{s s':d2}{φ φ':Fi}{ρ:Loc}{H H':Hp}
def Ns.aT(n:h.Ns a m)(p:bI q φ h i)(l:¬cm φ a)(x:¬q a):i.Ns a m:=by
 exact gA n λo j c d hd f=>ak (p.keep a o l x d) λk e b=>vO k j c e (b.data.trans hd) f
theorem En.a(e:En g env s φ ρ)(a:ba g.N g.hT s φ H' s' φ'):En g env s' φ' ρ:=by
 refine ak (e.ns) λm f hv=>?_;refine⟨e.hk,e.gl,e.bt,⟨m,Ns.aT f a.aT e.nl.1 id,λx v q d k=>?_⟩,?_,λx k=>?_⟩
 ·exact ak (hv x v q d k) λw U V=>ay w U (V.mono a.aT a.bw)
 ·exact dp f λo b b l b=>au (a.bw.gZ e.nl.1 l) e.nl.2
 ·refine fg (e.cl x k) λc o p U V h3 h4 h5=>ak (a.aT.keep c o h4 id V) λz i h=>?_;exact iw c z p U i (h.data.trans h3) (a.bw.gZ h4 V) (λy v q r=>let ⟨w,n,j⟩:=h5 y v q r;⟨w,n,j.mono a.aT a.bw⟩)
variable{A:hX}{E:cc->d2->Prop}
def Ej(n:En g env s φ ρ)(m:dq env.scope.names x e=X)(r:ρ.lookup x=O v)(h:∀w,VR g.N s.heap φ v w->y w s):er (ej g.prog g.w) A (eval e env) y E s:=by
 refine rH e (gQ m) λk j a d=>wpAny_Name ?_ d;refine eE a (λa=>?_) λa=>?_
 ·exact ak (n.ns) λp i hv=>ak (hv x v r j a) λw U V=>Jv n.hk a i U (h w V)
 ·refine fg (n.cl _ a) λc o q U V h3 h4 h5=>?_;refine ak (h5 x v Z r) λw b=>?_;clear h5;subst b;intro f;exact Rk n.hk a U ⟨o,V,h3⟩ (h w f)
def adC(G:g.Ok)(L:Lv g A s φ H):s.heap.Ns fw g.mg:=G.T.g.keeps L.st
def gF(G:g.Ok)(L:Lv g A s φ H)(n:En g env s φ ρ)(m:cf env.scope.names x e=X)(r:r0 g.K fw (aD x)=O (O w))(h:j w s):er (ej g.prog g.w) A (eval e env) j E s:=by
 refine nt e (cU m) λi a b=>?_;exact x5 n.hk a (Se (by refine ah n.gl ?_;exact G.T.g.keeps L.st) (mg_of G.X G.T.g r) h) b
def xe(G:g.Ok)(L:Lv g A s φ H)(n:En g env s φ ρ)(m:cf env.scope.names x e=X)(r:r0 g.K fw (aD x)=O Q)(hb:Oy (aD x)=O w)(c:aD x≠"__name__")(h:j w s):er (ej g.prog g.w) A (eval e env) j E s:=by
 refine nt e (cU m) λi a d=>?_;exact x5 n.hk a (RK (by refine ah n.gl ?_;exact G.T.g.keeps L.st) (mg_none_of G.X G.T.g r) (by refine ah n.bt ?_;exact G.T.b.keeps L.st) ((G.T.builtins _ c).trans hb) h) d
def yT(r:VR N h φ v w):UB w=X:=by
 cases v
 ·refine ah (show w=.none from r) ?_;rfl
 ·refine ah (show w=.bool _ from r) ?_;rfl
 ·refine aX w r λt=>?_;rfl
 ·refine aX w r λt=>?_;rfl
 ·refine bY w r λa e b=>?_;rfl
 ·refine bY w r λa e b=>?_;rfl
 ·refine cF r λb c b=>?_;refine aX w c λa=>?_;rfl
 ·refine aX w r λa=>?_;rfl
 ·refine Ba w r λx b b=>?_;rfl
theorem iN(x y:a7)(k:Tok):(cc.str (aD x) k).isStr (aD y)=decide (x=y):=by
 show(aD x==aD y)=_;by_cases e:x=y
 ·subst e;simp
 ·have:¬aD x=aD y:=λq=>e (ft q);simp[e,this]
def FR.get:∀{Y:Loc}{i:J qc},FR N h φ Y i->Y.lookup f=O v->∃w,SH (aD f) i=O (O w)/\VR N h φ v w:=λ{Y}=>by
 induction Y with
 | nil=>
  intro i;intro r;intro e;injection e
 | cons m Y j=>
  obtain⟨x,u⟩:=m;intro i;intro r;intro e;refine nu i r λp k w g U V=>?_;clear r;delta SH;dsimp only[qm];dsimp only[eC] at e;rw[iN];by_cases q:f=x
  ·subst q;simp at e;clear j;subst e;exact ay w (by simp) U
  ·haveI a:¬x=f:=λz=>q z.symm;have:(f==x)=aN:=by simp[q]
   rw[this] at e;refine ak (j V e) λc d b=>ay c ?_ b;simp only[a];exact d
theorem FR.noRef{h:d1}:∀{Y:Loc}{e:J qc},FR N h φ Y e->e.any (·.refKey)=aN
 | [],e,r=>by have:e=[]:=r;clear r;subst this;rfl
 | (x,u)::Y,e,r=>by
  refine nu e r λi k w a U V=>?_;simp only[NX,FR.noRef V];rfl
theorem FR.none{N:cz}{h:d1}{f:a7}:∀{Y:Loc}{i:J qc},FR N h φ Y i->Y.lookup f=Q->SH (aD f) i=O Q:=λ{Y}=>by
 induction Y with
 | nil=>
  intro i;intro r;intro e;have:i=[]:=r;clear r;subst this;rfl
 | cons j Y a=>
  obtain⟨x,u⟩:=j;intro i;intro r;intro e;have d:=r.noRef;refine vQ r λm k w g c=>?_;clear r;clear d;subst c;intro U V;rw[eC] at e;have q:¬f=x:=λz=>by subst z;simp at e
  have b:¬x=f:=λz=>q z.symm;have:(f==x)=aN:=by simp[q]
  rw[this] at e;have a:=a V e;unfold SH at a ⊢;rw[qm];simp only[iN,b,Jq];rw[NX];exact a
theorem FR.put{N:cz}{h:d1}{f:a7}{v:AV}{w:cc}(hv:VR N h φ v w)(j:T)(k:Tok):∀{Y:Loc}{i:J qc},FR N h φ Y i->FR N h φ (put f v Y) (putL (aD f) j (.str (aD f) k) w i):=λ{Y}=>by
 induction Y with
 | nil=>
  intro i;intro r;have:i=[]:=r;clear r;subst this;exact s9 j k w [] Z hv Z
 | cons p Y m=>
  obtain⟨x,u⟩:=p;intro i;intro r;refine vQ r λa b e d c=>?_;clear r;subst c;intro U V;rw[mw];unfold putL;simp only[iN];by_cases q:x=f
  ·clear m;subst q;simp only[i5,Sr];exact s9 a b w d Z hv V
  ·simp only[q,kc,Jq,ia];exact s9 a b e _ Z U (m V)
theorem FR.len:∀{Y:Loc}{e:J qc},FR N h φ Y e->e.length=Y.length
 | [],e,r=>by have:e=[]:=r;clear r;subst this;rfl
 | (x,u)::Y,e,r=>by
  refine nu e r λi k w a U V=>?_;simp[FR.len V]
theorem Bo(f:a7)(v:AV):∀Y:Loc,(put f v Y).length<=Y.length+1
 | []=>by simp[uc,mw]
 | (x,u)::Y=>by
  dsimp only[uc,mw]
  split
  ·simp
  ·have:=Bo f v Y;simp;exact Zt this
variable{fa:a7->aI eu}
def vZ{n:S}(L:Lv g A s φ H)(e:H[n]?=O (.inst c Y)):∃p C h k,φ[n]?=O (O p)/\g.N.cls c=O C/\p.1≠p.2/\FR g.N s.heap φ Y h/\
  s.heap.get? p.1=O (Bw C p.2)/\s.heap.get? p.2=O (dictOf h k)/\UC s.heap p.1 (Bw C p.2) C (O (dictOf h k)):=by
 exact ak (L.rl.at e nofun) λp hp o=>fg o λC h k e1 f b a d=>Wm p C h k hp e1 f d b a ⟨b,Z,Z,a⟩
def CJ(G:g.Ok)(è:g.Tab fa)(L:Lv g A s φ H)(a:VR g.N s.heap φ (.obj n) v)(e:H[n]?=O (.inst c Y))(r:Y.lookup f=O z)(m:f∈Bj)(h:∀x s',ba g.N g.hT s φ H s' φ->VR g.N s'.heap φ z x->é x s'):er (ej g.prog g.w) A (Tz v (aD f) b) é E s:=by
 refine FO (vZ L e) λp C es k hp l t F U V I=>?_;haveI hv:=a.2.2 p hp;clear a;refine Cs (è.inst c C l) λy t2 W q o i=>?_;subst hv;exact ak (F.get r) λw j d=>get_value (G.X.keeps L.st) I y (findObj_own W (i f m) Z j) (yT d) (h _ _ (.tok L.rl L.st _) d)
def CL(L:Lv g A s φ H){n:S}(hp:φ[n]?=O (O p)):(∀b o,g.hT.get? b=O o->b≠p.1/\b≠p.2):=λb o q=>by
 haveI U:=L.rl.oz p.1 ⟨n,p,hp,.inl Z⟩;haveI V:=L.rl.oz p.2 ⟨n,p,hp,.inr Z⟩;constructor
 ·intro z;rw[<-z,q] at U;injection U
 ·intro z;rw[<-z,q] at V;injection V
theorem ba.upd(L:Lv g A s φ H)(hp:φ[n]?=O (O p))(k:∀a,a≠p.1->a≠p.2->i.get? a=s.heap.get? a)(h:∃o,i.get? p.1=O o)(f:∃o,i.get? p.2=O o)(r:bI Nx φ s.heap i->OR g.N i φ p o):ba g.N g.hT s φ (H.set n o) {s with heap:=i,toks:=tk} φ:=by
 haveI j:bI Nx φ s.heap i:=by
  refine⟨λa o l c e=>⟨o,?_,.refl o⟩,λa o e=>?_,λc c q=>q.elim,λc c c c q=>q.elim⟩
  ·rw[k a (λz=>l ⟨n,p,hp,.inl z⟩) (λz=>l ⟨n,p,hp,.inr z⟩)];exact e
  ·by_cases z:a=p.1
   ·exact ah z (h)
   ·by_cases d:a=p.2
    ·exact ah d (f)
    ·exact bq o (by rw[k a z d];exact e)
 refine⟨⟨i,tk,Z⟩,j,.refl ..,L.rl.upd hp k j (r j),λb o q=>?_,λa o l c c e=>?_⟩
 ·have:=CL L hp b o q;exact(k b this.1 this.2).trans (L.st b o q)
 ·rw[k a (λz=>l ⟨n,p,hp,.inl z⟩) (λz=>l ⟨n,p,hp,.inr z⟩)];exact e
def Ek(G:g.Ok)(î:g.Tab fa)(L:Lv g A s φ H)(m:VR g.N s.heap φ (.obj n) v)(l:VR g.N s.heap φ z u)(e:H[n]?=O (.inst c Y))(K:Y.length<100)(P:f∈Bj)(h:∀s',ba g.N g.hT s φ (H.set n (.inst c (put f z Y))) s' φ->â () s'):er (ej g.prog g.w) A (TA v (aD f) u) â E s:=by
 refine FO (vZ L e) λp C es k hp j d F U V I=>?_;haveI hv:=m.2.2 p hp;clear m;refine Cs (î.inst c C j) λt1 t2 t3 à D ù=>?_;subst hv;have ä:=G.X.keeps L.st;haveI û:(lookIn (aD f) (dictOf es k)).isSome=X:=by
  show(SH (aD f) es).isSome=X;refine az (Y.lookup f) ?_ ?_
  ·intro q;rw[F.none q];rfl
  ·intro w q;refine ak (F.get q) λR é ô=>?_;rw[é];rfl
 refine ak (any_some t3) λö hc t=>TN ä I à ?_;refine osa_open (s:={s with toks:=s.toks+1}) ä I D (r:=Q) (by delta LN;refine ah (ù f P) ?_;rfl) λb=>?_;refine a4 (ei (a4 (a4 (wo U (a4 ((Qz ä hc).here (s:={s with toks:=s.toks+1}) ?_))))));refine ah t (ei (a:=O p.2) (a4 (ei (a4 ?_))));refine a4 (a4 (Oz (ei (a4 (OB (a4 (wo V ?_)))))));dsimp only;have x:(!es.toArray.any (·.key.isStr (aD f))&&es.toArray.any (·.refKey))=aN:=by
  simp only[SI,F.noRef,QI]
 rw[QA,x];have i:(s.heap.update p.2 (Sw (aD f) (mr g.w.params (aD f)) (.str (aD f) (s.toks+1)) u)).get? p.2 =
   O (dictOf (putL (aD f) (mr g.w.params (aD f)) (.str (aD f) (s.toks+1)) u es) (putN (aD f) es k)):=by
  rw[<-Jw];exact kv _ V (by rw[Jw];rfl)
 refine OC V ?_;refine a4 (OD i (by
  haveI è:(putL (aD f) (mr g.w.params (aD f)) (.str (aD f) (s.toks+1)) u es).length<=200:=by
   refine ah ((FR.put l (mr g.w.params (aD f)) (s.toks+1) F).len) ?_;have:=Bo f z Y;exact Zv K this
  exact OE ((mE)▸Zw è)) ?_)
 refine ei (h _ (ba.upd (o:=.inst c (put f z Y)) L hp (λa W y=>hE _ _ (j1 y)) ⟨_,(hE _ _ (j1 d)).trans U⟩ ⟨_,i⟩ λê=>?_));exact iw C _ _ j d ((hE _ _ (j1 d)).trans U) i (FR.put (l.mono ê (.refl ..)) _ _ (F.mono ê (.refl ..)))
end
section
variable{g:Gr}{env:Env}{s s':d2}{φ φ':Fi}{ρ:Loc}{H H':Hp}{A:hX}{E:cc->d2->Prop}{fa:a7->aI eu}
def mC{n:S}(L:Lv g A s φ H)(e:H[n]?=O (.list l)):∃a h k,φ[n]?=O (O (a,a))/\sA s.heap a h k/\h.size<=aZ/\aL g.N s.heap φ l h.toList:=by
 refine cps λf c=>?_;refine ak (L.rl.at e nofun) λd hp o=>?_;obtain⟨a,b⟩:=d;obtain⟨e1,h,⟨k,U,V⟩,h3⟩:=o;have:b=a:=e1;clear e1 L e;subst this;exact c (vP b h k hp U V h3)
def ba.lst(L:Lv g A s φ H)(hp:φ[n]?=O (O (a,a)))(U:sA s.heap a e k)(V:(f e).size<=aZ)(h3:∀h,bI Nx φ s.heap h->aL g.N h φ l (f e).toList):ba g.N g.hT s φ (H.set n (.list l)) {s with heap:=s.heap.update a (N9 f)} φ:=
 ba.upd (tk:=s.toks) L hp (λb c d=>hE _ _ (j1 c)) ⟨_,U.update f⟩ ⟨_,U.update f⟩ λi=>⟨Z,f e,⟨_,U.update f,V⟩,h3 _ i⟩
set_option tactic.hygienic true in
def uC(L:Lv g A s φ H)(C:VR g.N s.heap φ o v)(d:aL g.N s.heap φ args vs)(e:eg H o m args=O (r,H'))(h:∀v' s',ba g.N g.hT s φ H' s' φ->VR g.N s'.heap φ r v'->ê v' s'):(∃a,v=.ref a/\s.TypeIs v "list"/\∃ob,s.heap.get? a=O ob/\ob.dict=Q)/\er (ej g.prog g.w) A (call (.builtin ("list."++m)) (v::vs)) ê E s:=by
 delta eg at e
 split at e
 ·rename_i n
  split at e
  ·rename_i l û;refine jH (mC L û) λa ws k hp U V h3=>?_;delta VR at C;dsimp only at C;have hv:=C.2.2 _ hp;clear C;subst hv;have ô:s.TypeIs (.ref a) "list":=⟨_,U,Z⟩;refine au ⟨a,Z,ô,_,U,Z⟩ ?_;have q:=h3.len;rw[g6] at q;have P:=V;have D:ws.size<=G2:=by rw[o6];exact lJ P
   revert e;refine aJ ?_ ?_<;>intro _ e
   ·rename_i j;subst j
    split at e
    ·rename_i x
     revert e;refine aJ ?_ ?_<;>intro _ e
     ·rename_i y;injection e with e;injection e with e e2;subst e e2
      refine bV d λu t ö=>?_;clear d;subst ö;intro p c;delta aL at c;dsimp only at c;subst c;refine Jr O1 ô entry_list_append (args_list_append _ _) (SJ a ws k u D) ⟨U,?_⟩;refine h _ _ (ba.lst (f:=λxs=>xs.push u) L hp U (by rw[hF.size_push,q];exact y) λh' î=>?_) .yi;rw[hF.toList_push];exact(h3.mono î (.refl ..)).append (.cons (p.mono î (.refl ..)) .nil)
     ·injection e
    ·injection e
   ·revert e;refine aJ ?_ ?_<;>intro _ e
    ·rename_i j;subst j
     split at e
     ·split at e
      ·rename_i x I;cases(e);delta aL at d;dsimp only at d;subst d;clear û q;obtain⟨G,rfl⟩:∃G,l=G++[r]:=⟨l.dropLast,(J.dropLast_concat_getLast (by intro z;subst z;simp at I)).symm.trans (by
        have:l.getLast?=O r:=I;rw[JH (by intro z;subst z;simp at I)] at this;rw[gf this])⟩
       refine bV (aL.split h3) λi w2 q1 q2 ä=>?_;refine bV ä λu t QC=>?_;clear ä;subst QC;intro p c;delta aL at c;dsimp only at c;subst c;have K:ws=(i++[u]).toArray:=by rw[<-q1,hF.toArray_toList]
       subst K;refine Jr F.slot_list_pop ô F.entry_list_pop (F.args_list_pop_1 _) (list_pop_last a _ k u (by simp) D) ⟨U,?_⟩;have ù:=ba.lst (l:=(G++[r]).dropLast) (f:=λxs=>xs.eraseIdxIfInBounds ((i++[u]).toArray.size - 1)) L hp U (by
        simp only[mE,a9,ff,qg] at V ⊢;have:=size_erased (i++[u]).toArray (i.length+(0+1) - 1);simp only[mE,a9,ff,qg] at this;exact Z2 V this) λh' î=>?_
       ·exact h _ _ ù (p.mono ù.aT ù.bw)
       ·have:((i++[u]).toArray.eraseIdxIfInBounds ((i++[u]).toArray.size - 1)).toList=i:=by
         simp[hF.eraseIdxIfInBounds,J.eraseIdx_append_of_length_le]
        rw[this,Q1];exact q2.mono î (.refl ..)
      ·injection e
     ·injection e
    ·revert e;refine aJ ?_ ?_<;>intro _ e
     ·rename_i j;subst j
      split at e
      ·injection e with e;injection e with e e2;subst e e2
       delta aL at d;dsimp only at d;subst d;refine Jr F.slot_list_reverse ô F.entry_list_reverse (F.args_list_reverse_1 _) (AutoSeq1.list_reverse_list_0 a ws k D) ⟨U,?_⟩;refine h _ _ (ba.lst (f:=λxs=>xs.reverse) L hp U (by rw[hF.size_reverse];exact V) λh' î=>?_) .yi;rw[hF.toList_reverse];exact(h3.mono î (.refl ..)).reverse
      ·injection e
     ·revert e;refine aJ ?_ ?_<;>intro _ e
      ·rename_i j;subst j
       split at e
       ·rename_i b
        revert e;refine aJ ?_ ?_<;>intro _ e
        ·rename_i y;injection e with e;injection e with e e2;subst e e2
         refine bV d λu t ü=>?_;clear d;subst ü;intro p c;delta aL at c;dsimp only at c;subst c;refine eQ u (VR.tn p) λb' â é R W=>?_;clear p;refine ak R λk2 ç g2=>?_;clear R;have è:=W.len;rw[g6] at è;rw[a9] at y;have à:=y;unfold aZ at à;refine Jr F.slot_list_extend ô F.entry_list_extend (F.args_list_extend_2 _ _) (AutoSeq1.list_extend_list_list_0 a ws k b' â k2 (by simp[Ox,o6];rw[q,è];exact λ_=>lJ à) D (by rw[o6];exact aal P è à)) ⟨U,ç,?_⟩;refine h _ _ (ba.lst (f:=λxs=>xs++â) L hp U (by rw[hF.size_append,q,è];exact y) λh' î=>?_) .yi;rw[JY];exact(h3.mono î (.refl ..)).append (W.mono î (.refl ..))
        ·injection e
       ·injection e
      ·injection e
  ·injection e
 ·injection e
set_option tactic.hygienic true in
def xg(L:Lv g A s φ H)(c:VR g.N s.heap φ x v)(e:nA H x=O (r,H')):∃φ',ba g.N g.hT s φ H' s φ'/\VR g.N s.heap φ' r v:=by
 delta nA at e
 split at e
 ·rename_i n
  split at e
  ·rename_i l h;injection e with e;injection e with e j;subst e j
   refine jH (mC L h) λa m k hp U V h3=>?_;haveI hv:=c.2.2 _ hp;clear c;refine ay (φ.set n Q) ⟨⟨s.heap,s.toks,Z⟩,.refl ..,.kill n,L.rl.kill,L.st,λ_ _ _ _ _ e=>e⟩ ?_;subst hv;haveI nl:¬cm (φ.set n Q) a:=by
    rintro⟨i,p,hi,f⟩;by_cases b:n=i
    ·subst b;have:n<φ.length:=(fb.mp hp).1;simp[this] at hi
    ·rw[k7 b] at hi;haveI d:=L.rl.dj i n p (a,a) hi hp (j1 b);clear hp;rcases f with rfl | rfl
     ·exact d.1 Z
     ·exact d.2.2.1 Z
   exact hG a m Z nl ⟨k,U,V⟩ (h3.mono (.refl ..) (.kill n))
  ·injection e
 ·injection e
def ba.newList{l:J AV}{ws:J cc}(L:Lv g A s φ H)(r:aL g.N s.heap φ l ws)(d:l.length<=aZ):ba g.N g.hT s φ (H++[.list l]) {s with heap:=s.heap.push {cls:=.type "list",data:=.seq ws.toArray}} (φ++[O (s.heap.objs.size,s.heap.objs.size)])/\
  VR g.N (s.heap.push {cls:=.type "list",data:=.seq ws.toArray}) (φ++[O (s.heap.objs.size,s.heap.objs.size)]) (.obj H.length) (.ref s.heap.objs.size):=by
 have keep:∀a o,s.heap.get? a=O o->(s.heap.push {cls:=.type "list",data:=.seq ws.toArray}).get? a=O o:=λc c q=>c1 _ q;have h:bI Nx φ s.heap (s.heap.push {cls:=.type "list",data:=.seq ws.toArray}):=.of_keeps keep;have F:e9 s.heap φ (φ++[O (s.heap.objs.size,s.heap.objs.size)]):=.snoc (aF _) (aF _);have f:=r.len;refine au ⟨⟨_,s.toks,Z⟩,h,F,L.rl.new keep L.st (aF _) (aF _) ⟨Z,ws.toArray,⟨0,R2 _ _,by rw[mE,f];exact d⟩,?_⟩,λb o q=>keep b o (L.st b o q),λa o c c c e=>keep a o e⟩ ?_
 ·exact r.mono h F
 ·delta VR;refine cG (by simp[L.rl.len]) ⟨_,Z⟩ (λp hp=>?_);rw[<-L.rl.len] at hp;simp at hp;rw[<-hp]
def ba.Kn{c:a7}{C:eu}{tk:S}(L:Lv g A s φ H)(i:g.N.cls c=O C):ba g.N g.hT s φ (H++[.inst c []]) {s with heap:=(s.heap.push IJ).push (Bw C s.heap.objs.size),toks:=tk} (φ++[O (s.heap.objs.size+1,s.heap.objs.size)])/\
  VR g.N ((s.heap.push IJ).push (Bw C s.heap.objs.size)) (φ++[O (s.heap.objs.size+1,s.heap.objs.size)]) (.obj H.length) (.ref (s.heap.objs.size+1)):=by
 have keep:∀a o,s.heap.get? a=O o->((s.heap.push IJ).push (Bw C s.heap.objs.size)).get? a=O o:=λd d q=>c1 _ (c1 _ q);have k:bI Nx φ s.heap ((s.heap.push IJ).push (Bw C s.heap.objs.size)):=.of_keeps keep;have f:s.heap.get? (s.heap.objs.size+1)=Q:=j3 (o7 _);have F:e9 s.heap φ (φ++[O (s.heap.objs.size+1,s.heap.objs.size)]):=.snoc f (aF _);have h:((s.heap.push IJ).push (Bw C s.heap.objs.size)).get? (s.heap.objs.size+1)=O (Bw C s.heap.objs.size):=by
  rw[<-l8 s.heap IJ];exact hJ _ Z
 have j:((s.heap.push IJ).push (Bw C s.heap.objs.size)).get? s.heap.objs.size=O (dictOf [] 0):=c1 _ (hJ _ Z);refine au ⟨⟨_,tk,Z⟩,k,F,L.rl.new keep L.st f (aF _) ⟨C,[],0,i,SK _,h,j,Z⟩,λb o q=>keep b o (L.st b o q),λa o d d d e=>keep a o e⟩ ?_;delta VR;refine cG (by simp[L.rl.len]) ⟨_,Z⟩ (λp hp=>?_);rw[<-L.rl.len] at hp;simp at hp;rw[<-hp]
end
structure ExcAt (N:cz)(h:d1)(e T dx:eu)(w:a7)(f p:Int)(F:cc->Prop):Prop where
 ob:∃oe vs,h.get? e=O oe/\oe.cls=.ref N.inv/\oe.dict=O dx/\oe.data=.fields vs/\vs[1]?=O (.ref T)/\(N.exc=Q->vs[2]?=O .none)
 tb:T≠e/\∃oT ts fl,h.get? T=O oT/\oT.data=.fields ts/\ts[3]?=O fl/\F fl
 fu:∃sl n k1 k2 k3 t1 t2 t3 U V h3,h.get? dx=O {dictOf [⟨U,.str ("why":cD) k1,.str (aD w) t1⟩,⟨V,.str ("function":cD) k2,.int f t2⟩,⟨h3,.str ("at":cD) k3,.int p t3⟩] n with slots:=sl}
structure Flt (g:Gr)(X:eu->Prop)(F:cc->Prop)(s:d2)(φ:Fi)(w:a7)(f p:Int)(v:cc)(s':d2):Prop where
 ex:∃e T dx,v=.ref e/\s.heap.get? e=Q/\s.heap.get? T=Q/\s.heap.get? dx=Q/\ExcAt g.N s'.heap e T dx w f p F
 eq:∃h' tk,s'={s with heap:=h',toks:=tk}
 aT:bI X φ s.heap s'.heap
 st:∀b o,g.hT.get? b=O o->s'.heap.get? b=O o
 qv:∀a o,¬cm φ a->¬X a->¬g.N.Z a->s.heap.get? a=O o->s'.heap.get? a=O o
def qw(k:bI m i h g)(e:g.get? a=Q):h.get? a=Q:=by
 refine az (h.get? a) ?_ ?_
 ·intro q;rfl
 ·intro o q;refine aH (k.lQ a o q) λj b=>?_;rw[e] at b;injection b
theorem Flt.from(a:bK è g.N g.hT s q m L W)(x:Flt g è F L W w f p v s'):Flt g è F s q w f p v s':=by
 refine d9 (a.eq) λU t1 d=>?_;subst d;refine d9 (x.eq) λV t2 i=>?_;subst i;exact rI v (x.ex) λe é dx h k b j=>⟨⟨e,é,dx,Z,qw a.aT h,qw a.aT k,qw a.aT b,j⟩,⟨V,t2,Z⟩,a.aT.trans a.bw x.aT,x.st,λc o l y z e=>x.qv c o (a.bw.gZ l e) y z (a.ex c o l y z e)⟩
def Out{i j:Type}(g:Gr)(y:eu->Prop)(F:cc->Prop)(x:i->j->d2->Fi->Prop)(s:d2)(k:Fi)(r:R i)(q:j->d2->Prop)(E:cc->d2->Prop):Prop:=match r with
 | .ok a m=>∀b e h,bK y g.N g.hT s k m e h->x a b e h->q b e
 | .bH w f p=>∀v e,Flt g y F s k w f p v e->E v e
 | .bad=>Gl
section
variable{e i j m:Type}{g:Gr}{à:eu->Prop}{F:cc->Prop}{è:e->i->d2->Fi->Prop}{W:j->m->d2->Fi->Prop}{s q:d2}{φ y:Fi}{H₁:Hp}{r:R e}{é:i->d2->Prop}{E:cc->d2->Prop}
def Out.shift(a:bK à g.N g.hT s φ H₁ q y)(o:Out g à F è s φ r é E):Out g à F è q y r é E:=by
 cases r with
 | ok x z=>exact λb h k c=>o b h k (a.trans c)
 | bH w f p=>exact λv h c=>o v h (.from a c)
 | bad=>exact o
theorem Out.bind(o:Out g à F è s φ (tu.bind k) é E)(c:∀x H' b L z,tu=.ok x H'->bK à g.N g.hT s φ H' L z->W x b L z->Out g à F è L z (k x H') é E->P b L):Out g à F W s φ tu P E:=by
 cases tu with| ok x H'=>exact λb L z a h=>c x H' b L z Z a h (.shift a o)| bH w f p=>exact o| bad=>exact o
def Out.mono(o:Out g à F è s φ r é E)(h:∀b k,é b k->P b k):Out g à F è s φ r P E:=by
 cases r with| ok x L=>exact λb k z a v=>h b k (o b k z a v)| bH w f p=>exact o| bad=>exact o
def Out.mD [r4 c]{G:Prop}(k:c->Out g à F è s φ r é E->G)(l:¬c->Out g à F è s φ t é E->G)(o:Out g à F è s φ (if c then r else t) é E):G:=if h:c then k h (by rw[dE h] at o;exact o) else l h (by rw[dm h] at o;exact o)
theorem Out.opt{x:aI e}{H:Hp}(o:Out g à F è s φ (opt x H) é E):∃a,x=O a/\Out g à F è s φ (.ok a H) é E:=by
 cases x with| none=>exact o.elim| some a=>exact ay a Z o
end
abbrev VV (g:Gr):AV->cc->d2->Fi->Prop:=λa v s e=>VR g.N s.heap e a v
abbrev lR (g:Gr):J AV->J cc->d2->Fi->Prop:=λa v s e=>aL g.N s.heap e a v
abbrev VB:aS->aS->d2->Fi->Prop:=λa b _ _=>a=b
noncomputable def tb:R AV->R aS
 | .ok (.bool b) H=>.ok b H
 | .ok _ _=>.bad
 | .bH w f p=>.bH w f p
 | .bad=>.bad
set_option tactic.hygienic true in
def Ko(r:R AV)(f:aS->Hp->R e):(r.bind λx H=>match x with | .bool X=>f X H | .bool aN=>f aN H | _=>.bad)=(tb r).bind f:=by
 cases r with
 | ok x H=>
  cases x<;>try rfl
  rename_i b;cases b<;>rfl
 | bH w f p=>rfl
 | bad=>rfl
noncomputable def dr (e:Env)(v:cc):Prop:=v=.none\/∃L,e.frame=O L/\v=sC L
noncomputable abbrev Fn:cc->Prop:=λv=>v=.none
def jP (j:a7->aI eu)(C:CS)(d:S):Prop:=∀(g:Gr),g.Ok->g.Tab j->∀f a A s h H args vs R,j f=O a->Lv g A s h H->tr A d 0->aL g.N s.heap h args vs->
 Out g Nx Fn (VV g) s h (C f args H) (λv i=>R (.ok (.ret v)) i) (λe i=>R (.error e) i)->B2 (ej g.prog g.w) A (.call (.ref a) ⟨vs,[]⟩) R s
structure Ctx (g:Gr)(fa:a7->aI eu)(d:S)(A:hX)(s:d2)(φ:Fi)(H:Hp)(env:Env)(ρ:Loc):Prop where
 G:g.Ok
 T:g.Tab fa
 R:tr A d 2
 L:Lv g A s φ H
 n:En g env s φ ρ
theorem Ctx.a(c:Ctx g i d A s j H e ρ)(a:ba g.N g.hT s j k m h):Ctx g i d A m h k e ρ:=⟨c.G,c.T,c.R,c.L.a a,c.n.a a⟩
def ES (j:a7->aI eu)(C:CS)(d:S)(m:ME):Prop:=∀g k A s h H ρ e i p E,cy e.scope.names m i=X->Ctx g j d A s h H e ρ->
 Out g Nx (dr e) (VV g) s h (ev GG C k m ρ H) p E->er (ej g.prog g.w) A (eval i e) p E s
def TS (j:a7->aI eu)(C:CS)(d:S)(m:ME):Prop:=∀g k A s i H ρ e h p E,cy e.scope.names m h=X->Ctx g j d A s i H e ρ->
 Out g Nx (dr e) VB s i (tb (ev GG C k m ρ H)) p E->er (ej g.prog g.w) A (isTrue h e (eval h e)) p E s
def BS (e:a7->aI eu)(C:CS)(d:S)(m:ME):Prop:=ES e C d m/\TS e C d m
noncomputable def idxOf (l:J S)(n:S):aS:=l.rec aN λa _ q=>S.beq a n||q
def kq (e:Expr):aS:=!idxOf [7,22,26] e.ctorIdx
def oC (e:Expr):aS:=!(idxOf [0,5,15] e.ctorIdx||Bk (λop _ _=>op==.Not) e)
def dD (e:Expr):aS:=!idxOf [8,9,10] e.ctorIdx
def Nq (m:ME):aS:=!S.beq m.ctorIdx 25
def Gn(h:isLit v e=X):kq e=X/\oC e=X/\dD e=X:=by
 have k:∀{P},ic P e=X->kq e=X/\oC e=X/\dD e=X:=λh=>aP e (fH h) λa a a a=>cG Z Z Z;cases v with
 | int i=>
  refine eE (D9 h) (λh=>?_) λh=>?_
  ·refine eE (D9 h) (λh=>?_) λh=>?_
   ·exact k h
   ·clear k;refine aP e (lN h) λop x p=>?_;intro h;obtain rfl:=e5 (b2 h).1;exact cG Z Z Z
  ·clear k;refine bC e (rN h) λa a a a a=>?_;exact cG Z Z Z
 | ny=>exact aP e (tf h) λa a a a=>cG Z Z Z
 | none=>exact k h
 | bool b=>exact k h
 | str s=>exact k h
 | _=>nomatch h
def kY(h:dq g x e=X):kq e=X/\oC e=X/\dD e=X:=bh e (gQ h) λa a=>cG Z Z Z
def mV(h:cf g x e=X):kq e=X/\oC e=X/\dD e=X:=bh e (cU h) λa a=>cG Z Z Z
def yU (m:ME):aS:=!idxOf [6,7,8,9,10,11,12] m.ctorIdx
section
variable{g:Nm}{e:Expr}
def Gp(h:ql P e=X):kq e=X/\(aN=X->i)/\(X=X->dD e=X):=bC e (vU h) λa a a a a=>cG Z nofun (λa=>Z)
def Nr(h:uh P e=X):kq e=X/\(aN=X->i)/\(X=X->dD e=X):=aP e (iz h) λa a a a=>cG Z nofun (λa=>Z)
def lS(h:kq e=X/\oC e=X/\dD e=X):kq e=X/\(X=X->oC e=X)/\(X=X->dD e=X):=⟨h.1,λa=>h.2.1,λa=>h.2.2⟩
def CM(h:qn P e=X):kq e=X/\(X=X->oC e=X)/\(X=X->dD e=X):=aP e (ly h) λa a a a=>lS ⟨Z,Z,Z⟩
def kZ(h:fc P e=X):kq e=X/\(X=X->oC e=X)/\(X=X->dD e=X):=bC e (dS h) λa a a a a=>lS ⟨Z,Z,Z⟩
def v5:∀{m:ME},cy g m e=X->kq e=X/\(yU m=X->oC e=X)/\(Nq m=X->dD e=X):=λ{m} h=>by
 cases m with
 | lit v=>exact lS (Gn h)
 | loc x=>exact lS (kY h)
 | glob x=>exact lS (mV (b2 h).1)
 | attr a f=>exact aP e (gE h) λd d d d=>lS ⟨Z,Z,Z⟩
 | neg a=>refine aP e (lN h) λop x p=>?_;intro h;obtain rfl:=e5 (b2 h).1;exact lS ⟨Z,Z,Z⟩
 | bin op a b=>refine bC e (rN h) λd d d d d=>?_;exact lS ⟨Z,Z,Z⟩
 | cmp a op b=>exact Gp h
 | ef a op b s c=>exact Gp h
 | fj a=>exact Gp h
 | not a=>exact aP e (lN h) λd d d d=>cG Z nofun (λd=>Z)
 | and j=>exact Nr h
 | or j=>exact Nr h
 | ite t a b=>exact bC e (yG h) λd d d d d=>cG Z nofun (λd=>Z)
 | tup j=>exact aP e (nH h) λd d d d=>lS ⟨Z,Z,Z⟩
 | list k j=>exact bY e (Bl h) λd d d=>lS ⟨Z,Z,Z⟩
 | kG y vs i=>exact CM h
 | sub a i=>exact CM h
 | ik a=>exact CM h
 | hR a b=>exact CM h
 | call f j=>exact kZ h
 | new c f j=>exact kZ h
 | ix o c m f j=>exact kZ h
 | il c m f j=>exact kZ h
 | aK o m j=>exact kZ h
 | bi f j=>exact kZ h
 | comp k q x iter cond=>exact bC e (tg h) λd d d d d=>cG Z (λd=>Z) nofun
 | freeze a=>refine bY e (ow h) λd d d=>?_;exact lS ⟨Z,Z,Z⟩
def fY(h:cy g m e=X):kq e=X:=(v5 h).1
end
def iO(h:kq e=X)(g:J Expr)(i:Env):A1 (e::g) i=(aN,eval e i)::A1 g i:=by
 cases e<;>first | rfl | injection h
def iP(h:kq e=X):behindInMarks op e=aN:=by
 cases e<;>first | rfl | injection h
def El(h:kq e=X)(o i:cc):subscripted e aN o i=operate [o,i] (Vv o i):=by
 cases e<;>first | rfl | injection h
theorem Br(h:uk o=X)(e:cD)(g:Env)(a:RF cc):attributeBase o e g a=a:=by
 cases o with
 | Call f j k p=>
  cases f with
  | Name i q=>
   cases j with
   | nil=>
    cases k with| nil=>injection h| cons=>exact QJ a
   | cons=>exact QJ a
  | _=>exact QJ a
 | _=>exact QJ a
section
variable{fa:a7->aI eu}{C:CS}{d:S}{g:Gr}{k:S}{A:hX}{s:d2}{φ:Fi}{H:Hp}{ρ:Loc}{env:Env}{E:cc->d2->Prop}
def Out.now(o:Out g j F i s φ (.ok a e) h E)(c:bK j g.N g.hT s φ e s' φ')(v:i a b s' φ'):h b s':=o b s' φ' c v
def Ctx.rf(c:Ctx g fa d A s φ H env ρ):ba g.N g.hT s φ H s φ:=.refl c.L.rl c.L.st
def Ctx.tk(c:Ctx g fa d A s φ H env ρ)(t:S):ba g.N g.hT s φ H {s with toks:=t} φ:=.tok c.L.rl c.L.st t
set_option tactic.hygienic true in
def Gq{m:ME}(h:ES fa C d m)(hv:yU m=X):TS fa C d m:=by
 intro g k A s φ H ρ env i é E j c o;haveI e:isTrue i env (eval i env)=(do let v <-eval i env;standAt i.pos;holding [v] (truthy v)):=by
  have:=(v5 j).2.1 hv;clear j;cases i<;>first | rfl | (exact nomatch (show aN=X from this)) | skip
  rename_i op x p;cases op<;>first | rfl | injection this
 refine wpAny_isTrue_value (h g k A s φ H ρ env i (λv z=>er (ej g.prog g.w) A (truthy v) é E z) E j c ?_) e;refine w5 (ev GG C k m ρ H) ?_ ?_ ?_
 ·intro v W q;rw[q] at o;clear q;cases v with
  | bool t=>
   intro b L y a r;subst r;exact mH (o t L y a Z)
  | _=>exact o.elim
 ·intro w f p q;rw[q] at o;exact o
 ·intro q;rw[q] at o;exact o
end
section
variable{fa:a7->aI eu}{C:CS}{d:S}
theorem uD:ES fa C d (.lit v):=by
 intro g k A s W H ρ L h è E m c o;change Out g Nx (dr L) (VV g) s W (.ok v H) è E at o;try clear C;try clear fa;try clear uD
 cases v with
 | int i=>
  refine eE (D9 m) (λm=>?_) λm=>?_
  ·refine eE (D9 m) (λm=>?_) λm=>?_
   ·refine aP h (fH m) λe e e=>?_;clear m;intro m;refine ak (rP m) λj D=>?_;clear m;subst D;intro m;obtain rfl:=gb m;exact A2 (o.now (c.tk _) (.fO _ _))
   ·refine aP h (lN m) λop x p=>?_;clear m;intro m;refine aq (b2 m) λt m=>?_;obtain rfl:=e5 t;refine aP x (fH m) λe e e=>?_;clear m;intro m;refine ak (rP m) λj z=>?_;clear m;subst z;intro m;obtain rfl:=gb m;exact Rd (A2 (neg_int (o.now (c.tk _) (.fO _ _))))
  ·refine bC h (rN m) λl op r p m=>cF (b3 m) λt f n=>?_;obtain rfl:=e5 t;refine aP l (fH f) λe e e f=>?_;refine ak (rP f) λa w=>?_;subst w;intro f;refine aq (gb f) λé=>?_;subst é;intro G;subst G;refine aP r (fH n) λe e e n=>?_;refine ak (rP n) λb u=>?_;subst u;intro n;obtain rfl:=gb n;refine wpAny_BinOp (A2 (A2 ?_));refine PyProof.Rows.pow_int (by decide) (by decide +kernel) ?_;exact ah (show((10:T) ^ (9:T).toNat)=1000000000 from by decide +kernel) (o.now (c.tk _) (.fO _ _))
 | ny=>
  refine aP h (tf m) λks vs p m=>aq (b2 m) λt f=>?_;obtain rfl:=nE t;obtain rfl:=nE f;refine wpAny_Dict_empty ?_;exact o.now (ba.keeps c.L.rl c.L.st _ λe e q=>c1 _ q) (by show VR _ _ _ _ _;delta VR;exact bq _ Z)
 | none=>
  refine aP h (fH m) λe e e m=>?_;obtain rfl:=e5 m;exact wpAny_Constant_none (o.now c.rf .yi)
 | bool b=>
  refine aP h (fH m) λe e e m=>?_;refine ak (Gb m) λj y=>?_;subst y;intro m;obtain rfl:=e5 m;exact wpAny_Constant_bool (o.now c.rf (.iq _))
 | str s=>
  refine aP h (fH m) λe e e m=>?_;refine ak (Ki m) λj F=>?_;subst F;intro m;obtain rfl:=e5 m;exact wpAny_Constant_str (o.now (c.tk _) (by show VR _ _ _ _ _;delta VR;exact bq _ Z))
 | _=>nomatch m
def Nt{x:a7}:ES fa C d (.loc x):=by
 intro g k A s i H e h b j E m c o;exact ak (Out.opt (x:=e.lookup x) o) λv r o=>Ej c.n m r λw a=>o.now c.rf a
def Kp:ES fa C d (.glob x):=by
 intro g k A s h H i e a j E m c o;exact aq (b2 m) λm b=>ak (Out.opt (x:=GG x) o) λv r o=>ak (c.T.glob x v r) λw U V=>gF c.G c.L c.n m U (o.now c.rf (V _ _ _ c.L.st c.L.rl.oz))
theorem v7:entryFor table "BaseException.__getattribute__"=O kR.«object.__getattribute__»:=
 entryFor_alias (id':="object.__getattribute__") (by kernel_rfl) (by first | rfl | decide +kernel) (by decide +kernel) (by kernel_rfl)
def ya(a b:cc):argsOk "BaseException.__getattribute__" ⟨[a,b],[]⟩:=by delta argsOk;kernel_rfl
theorem pL:Slot "Exception" "__getattribute__" "BaseException.__getattribute__":=
 .of (owner:="BaseException") (n:="__getattribute__") (by rw[typeLookup_type,builtinLookup_eq_fast];kernel_rfl) (by decide +kernel) (by decide +kernel) (by decide +kernel)
  (by first | exact .inl (by decide +kernel) | exact .inr (by decide +kernel)) (by rw[isSubtype_type];kernel_rfl)
theorem Kq{q:nz}{w:oM}{A:hX}{E:cc->d2->Prop}{s:d2}{K:mj}{x C:eu}{f:p6}{z:aI p6}{name:cD}{y:aS}{v:cc}{é:cc->d2->Prop}(è:K.In s.heap)(I:UC s.heap x f C z)(c:l4 K (.ref C) "__getattribute__"=O (O (.builtin "BaseException.__getattribute__")))(b:l4 K (.ref C) "__getattr__"=O Q)(m:mroIn K C (.type "BaseException")=O X)(n:findObj K C z name=O (.value v))(p:UB v=X)(h:é v {s with toks:=s.toks+1}):er (ej q w) A (Tz (.ref x) name y) é E s:=by
 obtain⟨hp,g,d,t,os⟩:=s;have a:=I.type (M:=ej q w);have k:=O2 (M:=ej q w) è c;have l:onTheHeap (.ref C)=X:=Z;have o:Q2 (ej q w) hp (hookBefore (.ref C)) Q:=looks_hook è (by rw[dE l];exact b);have e:=looks_find (M:=ej q w) è I n;have i:=looks_mroIn (M:=ej q w) è m;have j:(Rf "BaseException.__getattribute__"==Rf "object.__getattribute__")=aN:=by decide +kernel
 delta Tz getAttrBy;refine a4 (OB (kW (a4 (a.at (a4 (k.at ?_))))));dsimp only;rw[j,QI,dm (by decide)];delta getAttrByItsOwn;refine a4 (o.at (a4 (yl (kW ?_))));delta callGetattribute;dsimp only;rw[show(y&&onTheHeap (Rf "BaseException.__getattribute__"))=aN from by cases y<;>rfl,dm (by decide)];delta boundAndCalled;rw[pL.bind];refine a4 (ei ?_);show er _ _ (call (.builtin "BaseException.__getattribute__") [.ref x,.str name t]) _ _ _;refine CO (Jx pL.plain v7 ?_);refine @check_slot (ej q w) _ _ ⟨hp,g,d,t+1,os⟩ "BaseException.__getattribute__" "BaseException" "__getattribute__" (.ref x) [.str name t] [] _ (by decide +kernel) (by decide +kernel) (a.andThen i) (ya (.ref x) (.str name t)) ?_;delta kR.«object.__getattribute__»;refine a4 (ei (a4 (ei (a4 (a.at (a4 (e.at ?_)))))));refine ei ?_;show er _ _ (handedOut v) _ _ _;rw[handedOut_of p];exact ei h
set_option tactic.hygienic true in
def Kr(î:ES fa C d a):ES fa C d (.attr a f):=by
 intro g k A s φ H ρ é y ô E m c o;refine aP y (gE m) λb ä è=>?_;clear m;intro m;refine eW (b4 m) λr u p j=>?_;clear m;refine Attribute_any_ (î g k A s φ H ρ é b _ E r c (o.bind (W:=VV g) λx H' w s' à e t v L=>?_)) (by simp only[arm_eval_Attribute,Br u]);obtain rfl:=e5 p;have h:=c.a t;clear r o e u t p
 split at L
 ·rename_i n
  split at L
  ·rename_i ö Y â;exact ak (L.opt) λz D L=>CJ c.G c.T h.L v â D (Ea j) λç cA P vr=>L.now P vr
  ·exact L.elim
 ·rename_i ü fn pl;clear j;refine J1 w v λx l R F û=>?_;clear v;subst R;subst F;subst û;have hd:=h.L.hd;unfold cM at hd;refine vN ((l▸hd).ob) λoe vs ù b2 b3 b4 b5=>iU ((l▸hd).fu) λsl n k1 k2 k3 t1 t2 t3 U V h3 dd=>?_;haveI I:UC s'.heap x.e oe g.N.inv (O {dictOf [⟨U,.str ("why":cD) k1,.str (aD x.why) t1⟩,⟨V,.str ("function":cD) k2,.int x.fn t2⟩,⟨h3,.str ("at":cD) k3,.int x.pl t3⟩] n with slots:=sl}):=
   ⟨ù,b2,by delta notCls;exact ah b4 Z,by refine ah b3 ?_;exact dd⟩
  have lk:∀(f:a7) (w:cc),f∈["why","function","at"]->lookIn (aD f) (dictOf [⟨U,.str ("why":cD) k1,.str (aD x.why) t1⟩,⟨V,.str ("function":cD) k2,.int x.fn t2⟩,⟨h3,.str ("at":cD) k3,.int x.pl t3⟩] n)=O (O w)->UB w=X->ô w {s' with toks:=s'.toks+1}->
    er (ej g.prog g.w) A (Tz (.ref x.e) (aD f) X) ô E s':=λf w i K ê q=>
   Kq (h.G.X.keeps h.L.st) I h.T.xga h.T.xgh h.T.aa9 (findObj_own h.T.xdi (h.T.xno f i) Z K) ê q
  revert L;refine Out.mD ?_ ?_<;>intro _ L
  ·rename_i i;cases i;exact lk "why" (.str (aD x.why) t1) (by decide) (by simp only[QB];delta SH;refine ah (qm) ?_;rw[iN];simp) Z (L.now (h.tk _) (by show VR _ _ _ _ _;exact bq _ Z))
  ·revert L;refine Out.mD ?_ ?_<;>intro _ L
   ·rename_i i;subst i;exact lk "function" (.int x.fn t2) (by decide) (by dsimp only[QB];delta SH;simp only[qm,iN];simp) Z (L.now (h.tk _) (.fO _ _))
   ·revert L;refine Out.mD ?_ ?_<;>intro _ L
    ·rename_i i;subst i;exact lk "at" (.int x.pl t3) (by decide) (by simp only[QB];unfold SH;simp only[qm,iN];simp) Z (L.now (h.tk _) (.fO _ _))
    ·exact L.elim
 ·exact L.elim
def Nv(h:ES fa C d a):ES fa C d (.neg a):=by
 intro g k A s y H z p f è E m c o;refine aP f (lN m) λop b L=>?_;intro m;refine aq (b2 m) λj m=>Rd (h g k A s y H z p b _ E m c (o.bind (W:=VV g) λx H' w s' é e i v q=>?_));obtain rfl:=e5 j;clear e
 split at q
 ·exact aX w v λt=>neg_int (q.now ((c.a i).tk _) (.fO _ _))
 ·exact q.elim
def Nw{op:oR}{a b:ME}(p:ES fa C d a)(hb:ES fa C d b):ES fa C d (.bin op a b):=by
 intro g k A s φ H ρ L t ê E m c o;refine bC t (rN m) λl dk r è=>?_;intro m;refine cF (b3 m) λF D n=>?_;clear m;obtain rfl:=e5 F;refine wpAny_BinOp (p g k A s φ H ρ L l _ E D c (o.bind (W:=VV g) λx é w ag ai e i v j=>?_));refine hb g k A ag ai é ρ L r _ E n (c.a i) (j.bind (W:=VV g) λy â u aV K ù f q h=>?_);exact ak (h.opt) λz I h=>AB c.G ((c.a i).a f).L c.R (v.mono f.aT f.bw) q I λN s' à vr=>h.now à vr
def uF{P R:Expr->aS}{j:Gm->aS}{e:Expr}(m:ql (λc ops f g=>P c&&l1 j ops&&l1 R f) e=X):∃l op r h,e=.Compare l [op] [r] h/\j op=X/\P l=X/\R r=X:=by
 refine bC e (vU m) λl ops i h=>?_;clear m;intro m;exact cF (b3 m) λd b a=>bh ops (ez b) λop b=>bh i (ez a) λr a=>pX l op r h Z b d a
def Ny(K:ES fa C d a)(hb:ES fa C d b):BS fa C d (.cmp a op b):=by
 constructor
 ·intro g k A s φ H ρ L â î E m c o;refine pW (uF m) λl dk r è P=>?_;subst P;intro G F p;refine TB (K g k A s φ H ρ L l _ E F c (o.bind (W:=VV g) λx é w ag ai e I v z=>?_)) (iP (fY p));have h:=c.a I;obtain rfl:=e5 G;refine hb g k A ag ai é ρ L r _ E p h (z.bind (W:=VV g) λy D u aV N ê j à n=>?_);haveI i:=h.a j;refine az (bf D op x y) ?_ ?_
  ·intro q;rw[q] at n;exact n.elim
  ·intro t q;rw[q] at n;exact gh i.L.rl (v.mono j.aT j.bw) à c.R.u q (n.now i.rf (.iq _))
 ·intro g k A s φ H ρ L â î E m c o;simp only[pZ] at o;refine J5 â (uF m) λl dk r è G F p=>?_;obtain rfl:=e5 G;have ù:∀{α:Type} (r:R α) (f:α->Hp->R AV),tb (r.bind f)=r.bind λx H=>tb (f x H):=λr f=>by cases r<;>rfl
  rw[ù] at o;refine QK (K g k A s φ H ρ L l _ E F c (o.bind (W:=VV g) λx é w ag ai e I v z=>?_)) (iP (fY p));rw[ù] at z;have h:=c.a I;refine hb g k A ag ai é ρ L r _ E p h (z.bind (W:=VV g) λy D u aV N ê j à n=>?_);refine az (bf D op x y) ?_ ?_
  ·intro q;rw[q] at n;exact n.elim
  ·intro t q;exact gh (h.a j).L.rl (v.mono j.aT j.bw) à c.R.u q (mH ((q▸n).now (b:=t) (h.a j).rf Z))
end
section
variable{G:a7->aI AV}{C:CS}{k:S}{ρ:Loc}{H:Hp}
set_option tactic.hygienic true in
def oD(e:ME)(g:J ME):cX G C k (e::g) ρ H=(tb (ev G C k e ρ H)).bind λb H=>if b then cX G C k g ρ H else .ok (.bool aN) H:=by
 refine(D6.2 ..).trans ?_;cases ev G C k e ρ H with
 | ok x h=>
  cases x<;>try rfl
  rename_i b;cases b<;>rfl
 | bH w f p=>rfl
 | bad=>rfl
set_option tactic.hygienic true in
def xh(e:ME)(g:J ME):iy G C k (e::g) ρ H=(tb (ev G C k e ρ H)).bind λb H=>if b then .ok (.bool X) H else iy G C k g ρ H:=by
 refine(IW.2 ..).trans ?_;cases ev G C k e ρ H with
 | ok x h=>
  cases x<;>try rfl
  rename_i b;cases b<;>rfl
 | bH w f p=>rfl
 | bad=>rfl
set_option tactic.hygienic true in
def I5(t a b:ME):ev G C k (.ite t a b) ρ H=(tb (ev G C k t ρ H)).bind λr H=>if r then ev G C k a ρ H else ev G C k b ρ H:=by
 refine(show _=R.bind (ev G C k t ρ H) _ from Z).trans ?_;cases ev G C k t ρ H with
 | ok x e=>
  cases x<;>try rfl
  rename_i b;cases b<;>rfl
 | bH w f p=>rfl
 | bad=>rfl
def I6(t:ME):ev G C k (.not t) ρ H=(tb (ev G C k t ρ H)).bind λr H=>.ok (.bool (!r)) H:=by
 refine(show _=R.bind (ev G C k t ρ H) _ from Z).trans ?_;cases ev G C k t ρ H with
 | ok x e=>cases x<;>rfl
 | bH w f p=>rfl
 | bad=>rfl
theorem fP(r:R e)(f:e->Hp->R AV):tb (r.bind f)=r.bind λx H=>tb (f x H):=by cases r<;>rfl
def afa(b:aS)(x y:R AV):tb (if b then x else y)=if b then tb x else tb y:=by cases b<;>rfl
end
section
variable{fa:a7->aI eu}{C:CS}{d:S}
def lT(h:ES fa C d m)(z:cy e.scope.names m x=X)(c:Ctx g fa d A s y H e i)(o:Out g Nx (dr e) (λ(a:aS) v _ _=>v=cc.bool a) s y (tb (ev GG C k m i H)) é E):er (ej g.prog g.w) A (eval x e) é E s:=by
 refine h g k A s y H i e x é E z c (w5 (ev GG C k m i H) ?_ ?_ ?_)
 ·intro v W q;have o:=q▸o;clear q;cases v with
  | bool t=>
   intro b L j a r;exact o b L j a r
  | _=>exact o.elim
 ·intro w f p q;rw[q] at o;exact o
 ·intro q;haveI o:=q▸o;exact o
def Bs{P R:Expr->aS}(m:ql (λx ps i k=>P x&&lc (λp r=>op==p&&l1 (λg=>dk==g) r) ps&&lc (λy r=>R y&&l1 é r) i) e=X):∃l L W z,e=.Compare l [op,dk] [L,W] z/\P l=X/\R L=X/\é W=X:=by
 refine gen e λk a=>?_;refine bC e (vU m) λl ops rs z=>?_;intro m;refine cF (b3 m) λq c f=>?_;clear m;refine bG (dy c) λs ops n=>?_;subst n;intro b;refine aq (b2 b) λo h=>?_;clear b c;refine bh ops (ez h) λt d=>?_;obtain rfl:=e5 o;obtain rfl:=e5 d;refine bG (dy f) λL rs j=>?_;subst j;intro k0;exact aq (b2 k0) λk1 k2=>bh rs (ez k2) λW k3=>a _ (pX l L W z Z q k1 k3)
def Kt(ö:ES fa C d a)(hb:ES fa C d b)(ä:ES fa C d e):BS fa C d (.ef a op b dk e):=by
 constructor
 ·intro g k A s φ H ρ L ü î E m c o;refine pW (Bs m) λl r1 r2 è ñ=>?_;clear m;subst ñ;intro N û G;have â:=iP (op:=dk) (fY G);refine Compare_chain (ö g k A s φ H ρ L l _ E N c (o.bind (W:=VV g) λx é w ag ai jj ô v I=>?_)) â;have h:=c.a ô;refine chain_link (hb g k A ag ai é ρ L r1 _ E û h (I.bind (W:=VV g) λy à u aV ù fM n D i=>?_));have f:=h.a n;refine az (bf à op x y) ?_ ?_
  ·intro q;rw[q] at i;exact i.elim
  ·intro t q;rw[q] at i;refine gh f.L.rl (v.mono n.aT n.bw) D c.R.u q (mH ?_);cases t with
   | false=>exact i.now f.rf (.iq _)
   | true=>
    have i:=i;refine chain_last (ä g k A aV ù à ρ L r2 _ E G f (i.bind (W:=VV g) λz K ê eB ir CN p P j=>?_));have F:=f.a p;refine az (bf K dk y z) ?_ ?_
    ·intro q;rw[q] at j;exact j.elim
    ·intro t q;rw[q] at j;exact gh F.L.rl (D.mono p.aT p.bw) P c.R.u q (j.now F.rf (.iq _))
 ·intro g k A s φ H ρ L ü î E m c o;simp only[pZ] at o;refine pW (Bs m) λl r1 r2 è ç=>?_;clear m;subst ç;intro N û G;have â:=iP (op:=dk) (fY G);rw[fP] at o;refine isTrue_chain (ö g k A s φ H ρ L l _ E N c (o.bind (W:=VV g) λx é w ag ai jj ô v I=>?_)) â;have h:=c.a ô;rw[fP] at I;refine test_link (hb g k A ag ai é ρ L r1 _ E û h (I.bind (W:=VV g) λy à u aV ù fM n D i=>?_));have f:=h.a n;refine az (bf à op x y) ?_ ?_
  ·intro q;rw[q] at i;exact i.elim
  ·intro t q;rw[q] at i;refine gh f.L.rl (v.mono n.aT n.bw) D c.R.u q (mH ?_);cases t with
   | false=>exact i.now (b:=aN) f.rf Z
   | true=>
    have i:Out g Nx (dr L) VB aV ù (tb ((ev GG C k e ρ à).bind λz H=>(opt (bf H dk y z) H).bind λr H=>.ok (.bool r) H)) î E:=i;rw[fP] at i;refine test_last (ä g k A aV ù à ρ L r2 _ E G f (i.bind (W:=VV g) λz K ê eB ir CN p P j=>?_));haveI F:=f.a p;refine az (bf K dk y z) ?_ ?_
    ·intro q;rw[q] at j;exact j.elim
    ·intro t q;exact gh F.L.rl (D.mono p.aT p.bw) P c.R.u q (mH ((q▸j).now (b:=t) F.rf Z))
def IntMap.keeps{h e:d1}(x:h.IntMap a f)(k:∀o,h.get? a=O o->e.get? a=O o):e.IntMap a f:=by
 exact dp x λo g b c r=>ed o g b (k o c) r
set_option tactic.hygienic true in
def Gs(à:ES fa C d a):BS fa C d (.fj a):=by
 constructor
 ·intro g k A s φ H ρ L I â E m c o;refine pW (uF m) λl op r1 è ù=>?_;subst ù;intro u y p;obtain rfl:=e5 u;refine TB (à g k A s φ H ρ L l _ E y c (o.bind (W:=VV g) λx é w ag ai e z v j=>?_)) (iP (mV p).1);have h:=c.a z;refine bV (h.T.kinds) λdd f U V h3=>gF h.G h.L h.n p U ?_;have r:=v
  split at j
  ·rename_i i;refine aH r λt D=>?_;clear r;subst D;refine S9 (IntMap.keeps V λo q=>h.L.st _ o q) ?_;rw[h3];exact j.now (h.tk _) (.iq _)
  ·exact j.elim
 ·intro g k A s φ H ρ L I â E m c o;simp only[pZ] at o;refine pW (uF m) λl op r1 è F=>?_;subst F;intro u y p;obtain rfl:=e5 u;simp only[fP] at o;refine QK (à g k A s φ H ρ L l _ E y c (o.bind (W:=VV g) λx é w ag ai e z v j=>?_)) (iP (mV p).1);have h:=c.a z;refine bV (h.T.kinds) λdd f U V h3=>gF h.G h.L h.n p U ?_;have r:=v
  split at j
  ·rename_i i;refine aH r λt K=>?_;clear r;subst K;refine S9 (IntMap.keeps V λo q=>h.L.st _ o q) (mH ?_);rw[h3];exact j.now (b:=eo _) (h.tk _) Z
  ·exact j.elim
def Nz(j:BS fa C d a):BS fa C d (.not a):=by
 constructor
 ·intro g k A s z H L q p é E m c o;rw[I6] at o;refine dp (lN m) λop b y n=>?_;clear m;subst n;intro m;refine aq (b2 m) λh m=>?_;obtain rfl:=e5 h;refine Rd (lT (k:=k) j.1 m c (o.bind λt x w W ai e i v f=>?_));subst v;exact not_value (mH (f.now (c.a i).rf (.iq _)))
 ·intro g k A s z H L q p é E m c o;rw[I6,fP] at o;refine dp (lN m) λop b y l=>?_;clear m;subst l;intro m;refine aq (b2 m) λh m=>?_;obtain rfl:=e5 h;refine wpAny_isTrue_Not (j.2 g k A s z H L q b _ E m c (o.bind λt x w W ai e i v f=>?_));subst v;exact f.now (b:=!t) (c.a i).rf Z
def NA(r:BS fa C d t)(n:BS fa C d a)(hb:BS fa C d b):BS fa C d (.ite t a b):=by
 constructor
 ·intro g k A s φ H ρ W y è E m c o;rw[I5] at o;refine yA (yG m) λu p q é x=>?_;clear m;subst x;intro m;refine cF (b3 m) λl i j=>wpAny_IfExp (r.2 g k A s φ H ρ W _ _ E l c (o.bind λt L w ag ai e h v f=>?_));have v:=v;subst v;cases t with| true=>exact n.1 g k A ag ai L ρ W _ _ E i (c.a h) f| false=>exact hb.1 g k A ag ai L ρ W _ _ E j (c.a h) f
 ·intro g k A s φ H ρ W y è E m c o;rw[I5,fP] at o;refine yA (yG m) λu p q é z=>?_;clear m;subst z;intro m;refine cF (b3 m) λl i j=>a4 (r.2 g k A s φ H ρ W _ _ E l c (o.bind λt L w ag ai e h v f=>?_));have v:=v;subst v;cases t with| true=>exact n.2 g k A ag ai L ρ W _ _ E i (c.a h) f| false=>exact hb.2 g k A ag ai L ρ W _ _ E j (c.a h) f
def NB:∀{L:J ME},(∀m∈L,BS fa C d m)->ES fa C d (.and L):=by
 intro L
 induction L with
 | nil=>
  intro h g k A s φ H ρ W j è E m c o;refine aP j (iz m) λop vs é=>?_;intro m;exact nomatch (b2 (b2 m).1).2
 | cons e L ih=>
  intro h g k A s φ H ρ W j è E m c o;simp only[pZ] at o;rw[oD] at o;refine aP j (iz m) λop vs é=>?_;clear m;intro m;refine cF (b3 m) λp u m=>?_;clear j;obtain rfl:=e5 p;refine bY vs (dy m) λx xs=>?_;clear m;intro m;refine aq (b2 m) λl i=>?_;cases L with
  | nil=>
   obtain rfl:=nE i;refine BoolOp_one (lT (k:=k) (h e (.head _)).1 l c (o.bind λt z w ag ai e f v b=>?_));clear h i e m l;subst v;cases t with| true=>simp only[D6] at b;exact b.now (c.a f).rf (.iq _)| false=>exact b.now (c.a f).rf (.iq _)
  | cons e' L=>
   refine bG (dy i) λr xs q=>?_;clear m;subst q;intro y;refine BoolOp_and (lT (k:=k) (h e (.head _)).1 l c (o.bind λt z w ag ai e f v b=>?_));subst v;refine mH ?_;clear e;cases t with
   | true=>
    exact ih (λm n=>h m (.tail _ n)) g k A ag ai z ρ W _ _ E i (c.a f) b
   | false=>exact b.now (c.a f).rf (.iq _)
def Q7:∀{L:J ME},(∀m∈L,BS fa C d m)->ES fa C d (.or L):=by
 intro L
 induction L with
 | nil=>
  intro h g k A s φ H ρ W j è E m c o;refine aP j (iz m) λop vs é=>?_;intro m;exact nomatch (b2 (b2 m).1).2
 | cons e L ih=>
  intro h g k A s φ H ρ W j è E m c o;simp only[pZ] at o;rw[xh] at o;refine aP j (iz m) λop vs é=>?_;clear m;intro m;refine cF (b3 m) λq u m=>?_;obtain rfl:=e5 q;refine bY vs (dy m) λx xs=>?_;clear m;intro m;refine aq (b2 m) λl i=>?_;cases L with
  | nil=>
   clear m;obtain rfl:=nE i;refine BoolOp_one (lT (k:=k) (h e (.head _)).1 l c (o.bind λt z w ag ai e f v b=>?_));clear e h;subst v;cases t with| false=>simp only[IW] at b;exact b.now (c.a f).rf (.iq _)| true=>exact b.now (c.a f).rf (.iq _)
  | cons e' L=>
   refine bG (dy i) λr xs n=>?_;clear m;subst n;intro y;refine BoolOp_or (lT (k:=k) (h e (.head _)).1 l c (o.bind λt z w ag ai e f v b=>?_));clear e;subst v;refine mH ?_;cases t with
   | false=>
    exact ih (λm p=>h m (.tail _ p)) g k A ag ai z ρ W _ _ E i (c.a f) b
   | true=>exact b.now (c.a f).rf (.iq _)
def Ku:∀{q:J ME}{y:J Expr}{s:d2}{z:Fi}{H:Hp}{é:aS->d2->Prop},(∀m∈q,BS fa C d m)->dH p.scope.names q y=X->Ctx g fa d A s z H p L->
  Out g Nx (dr p) VB s z (tb (cX GG C k q L H)) é E->er (ej g.prog g.w) A (allTrue .And y p) é E s:=by
 intro q
 induction q with
 | nil=>
  intro y s z H é h m c o;obtain rfl:=nE m;exact wpAny_allTrue_And_nil (o.now (b:=X) c.rf Z)
 | cons e q ih=>
  intro y s z H é h m c o;refine bG (dy m) λx y j=>?_;clear m;subst j;intro m;haveI m:=b2 m;rw[oD,fP] at o;refine wpAny_allTrue_And_cons ((h e (.head _)).2 g k A s z H L p x _ E m.1 c (o.bind λt W w ag ai e i v f=>?_));clear e;subst v;cases t with| true=>exact ih (λm l=>h m (.tail _ l)) m.2 (c.a i) f| false=>exact f.now (b:=aN) (c.a i).rf Z
def NC:∀{q:J ME}{y:J Expr}{s:d2}{z:Fi}{H:Hp}{é:aS->d2->Prop},(∀m∈q,BS fa C d m)->dH p.scope.names q y=X->Ctx g fa d A s z H p L->
  Out g Nx (dr p) VB s z (tb (iy GG C k q L H)) é E->er (ej g.prog g.w) A (allTrue .Or y p) é E s:=by
 intro q
 induction q with
 | nil=>
  intro y s z H é h m c o;obtain rfl:=nE m;exact wpAny_allTrue_Or_nil (o.now (b:=aN) c.rf Z)
 | cons e q ih=>
  intro y s z H é h m c o;refine bG (dy m) λx y j=>?_;clear m;subst j;intro m;haveI m:=b2 m;rw[xh,fP] at o;refine wpAny_allTrue_Or_cons ((h e (.head _)).2 g k A s z H L p x _ E m.1 c (o.bind λt W w ag ai e i v f=>?_));clear e;subst v;cases t with| false=>exact ih (λm l=>h m (.tail _ l)) m.2 (c.a i) f| true=>exact f.now (b:=X) (c.a i).rf Z
def ND(h:∀m∈i,BS fa C d m):BS fa C d (.and i):=⟨NB h,by
 intro g k A s q H x j a y E m c o;refine aP a (iz m) λop vs p=>?_;intro m;refine cF (b3 m) λb f e=>?_;clear m;obtain rfl:=e5 b;exact Rm (Ku h e c o)⟩
def Rb(h:∀m∈i,BS fa C d m):BS fa C d (.or i):=⟨Q7 h,by
 intro g k A s q H x j a y E m c o;refine aP a (iz m) λop vs p=>?_;intro m;refine cF (b3 m) λb f e=>?_;clear m;obtain rfl:=e5 b;exact Rm (NC h e c o)⟩
def oE:∀{z:J ME}{L:J Expr}{s:d2}{φ:Fi}{H:Hp}{è:J cc->d2->Prop},(∀m∈z,BS fa C d m)->dH y.scope.names z L=X->Ctx g fa d A s φ H y ρ->
  Out g Nx (dr y) (lR g) s φ (ct GG C k z ρ H) è E->er (ej g.prog g.w) A (spliced (QL pos (A1 L y))) è E s:=by
 intro z
 induction z with
 | nil=>
  intro L s φ H è h m c o;obtain rfl:=nE m;exact Tb (o.now c.rf .nil)
 | cons e z ih=>
  intro L s φ H è h m c o;refine bG (dy m) λx L n=>?_;clear m;subst n;intro m;haveI m:=b2 m;refine O3 ((h e (.head _)).1 g k A s φ H ρ y x _ E m.1 c (o.bind (W:=VV g) λa é w ag ai e f v i=>?_)) (iO (fY m.1) _ _);refine ih (λm p=>h m (.tail _ p)) m.2 (c.a f) (i.bind (W:=lR g) λl u ws aV t r b j q=>?_);exact q.now ((c.a f).a b).rf (.cons (v.mono b.aT b.bw) j)
def oF:∀{h:J ME}{g:J Expr},dH j h g=X->(QL pos (A1 g env)).any (·.1)=aN:=by
 intro h
 induction h with
 | nil=>
  intro g m;obtain rfl:=nE m;rfl
 | cons e h i=>
  intro g m;refine bG (dy m) λx g a=>?_;clear m;subst a;intro m;rw[iO (fY (b2 m).1)];refine ah (i (b2 m).2) ?_;rfl
theorem yX:∀{g:J ME}{h:J Expr},dH j g h=X->h.length=g.length:=by
 intro g
 induction g with
 | nil=>intro h m;obtain rfl:=nE m;rfl
 | cons e g i=>
  intro h m;refine bG (dy m) λx h a=>?_;clear m;subst a;intro m;exact cx oi (i (b2 m).2)
set_option tactic.hygienic true in
def NF(h:∀m∈L,BS fa C d m):ES fa C d (.tup L):=by
 intro g k A s φ H ρ é j à E m c o;refine aP j (nH m) λbs tk è=>?_;intro m;refine wpAny_Tuple (oE h m c (o.bind (W:=lR g) λl p y x z e f v b=>?_))
 revert b;refine Out.mD ?_ ?_<;>intro _ b
 ·rename_i i;refine au (by refine ah ((v.len)) ?_;exact lJ i) ?_;haveI a:ba g.N g.hT x z p {x with heap:=x.heap.push {cls:=.type "tuple",data:=.seq y.toArray}} z:=.keeps (c.a f).L.rl (c.a f).L.st _ λ_ _ q=>c1 _ q;refine b.now a (.uw (bg (c.a f).L.rl (aF _)) (Tu x.heap y.toArray) ?_ i);exact v.mono a.aT a.bw
 ·exact b.elim
set_option tactic.hygienic true in
def yY(c:Ctx g fa d A s e H i j)(v:aL g.N s.heap e l h)(o:Out g Nx F (VV g) s e (eH k l H) m E):h.length<=G2/\m (.ref s.heap.objs.size) {s with heap:=s.heap.push {cls:=.type "list",data:=.seq h.toArray}}:=by
 revert o;refine Out.mD ?_ ?_<;>intro _ o
 ·rename_i b;refine au (by refine ah ((v.len)) ?_;exact lJ b) ?_
  revert o;refine Out.mD ?_ ?_<;>intro _ o
  ·haveI a:ba g.N g.hT s e H {s with heap:=s.heap.push {cls:=.type "list",data:=.seq h.toArray}} e:=.keeps c.L.rl c.L.st _ λ_ _ q=>c1 _ q;exact o.now a (.nM (bg c.L.rl (aF _)) (R2 s.heap h.toArray) (v.mono a.aT a.bw) b)
  ·haveI a:=ba.newList c.L v b;exact o.now a.1 a.2
 ·exact o.elim
def Kv(h:∀m∈p,BS fa C d m):ES fa C d (.list y p):=by
 intro g k A s z H L q b é E m c o;refine bY b (Bl m) λbs x=>?_;intro m;refine wpAny_List (oE h m c (o.bind (W:=lR g) λl j ws ag ai e i v f=>?_));exact yY (c.a i) v f
def NG(q:ES fa C d a)(hi:ES fa C d i):ES fa C d (.sub a i):=by
 intro g k A s φ H ρ L à â E m c o;refine aP à (ly m) λb j è=>?_;intro m;refine Q3 (q g k A s φ H ρ L _ _ E (b2 m).1 c (o.bind (W:=VV g) λx é w ag ai e n v p=>?_));refine hi g k A ag ai é ρ L _ _ E (b2 m).2 (c.a n) (p.bind (W:=VV g) λy I u aV G F l t h=>?_);have f:=(c.a n).a l;refine ak (h.opt) λz D h=>?_;obtain⟨U,ê,id,V,h3⟩:=AD (g:=g) (A:=A) (E:=E) f.L (v.mono l.aT l.bw) t D λù r=>h.now f.rf r;exact tail_any V h3 U (El (fY (b2 m).2) _ _)
def Em(h:ES fa C d a):ES fa C d (.freeze a):=by
 intro g k A s L H ρ z i à E m c o;refine bY i (ow m) λid é=>?_;intro m;refine h g k A s L H ρ z _ _ E m c (o.bind (W:=VV g) λx y w ag ai e l v b=>?_);refine az (nA y x) ?_ ?_
 ·intro q;haveI b:=q▸b;exact b.elim
 ·intro p q;exact ak (xg (c.a l).L v q) λè j f=>(q▸b).now j f
end
section
variable{fa:a7->aI eu}{C:CS}{d:S}{g:Gr}{k:S}{A:hX}{s:d2}{φ:Fi}{H:Hp}{ρ:Loc}{env:Env}{E:cc->d2->Prop}{es:J ME}{xs:J Expr}{pos:Pos}
theorem Ctx.X(c:Ctx g fa d A s φ H env ρ):g.K.In s.heap:=c.G.X.keeps c.L.st
def Flt.wide(x:Flt g è F s φ w f p v m)(j:∀v,F v->q v):Flt g è q s φ w f p v m:=by
 refine rI v (x.ex) λe é y d h a i=>?_;obtain⟨z,⟨ne,L,W,fl,k,b,l,c⟩,fu⟩:=i;exact⟨⟨e,é,y,Z,d,h,a,⟨z,⟨ne,L,W,fl,k,b,l,j _ c⟩,fu⟩⟩,x.eq,x.aT,x.st,x.qv⟩
def iQ(id:a7):Q2 e h (keeperOf (.builtin id)) .machine:=T3 Z
def qy(id:a7):Q2 e h (keeperOf (.type id)) .machine:=T3 Z
def dF{f:cc}{first:J cc}{q:cc->d2->Prop}(hk:(∃id,f=.builtin id)\/(∃id,f=.type id)\/q6 g.K f=X)(h:∀m∈es,BS fa C d m)(m:dH env.scope.names es xs=X)(c:Ctx g fa d A s φ H env ρ)(o:Out g Nx (dr env) (lR g) s φ (ct GG C k es ρ H) (λvs j=>g.K.In j.heap/\er (ej g.prog g.w) A (call f (first++vs)) q E j) E):er (ej g.prog g.w) A (callWith pos f first (QL pos (A1 xs env)) []) q E s:=by
 refine callWith_of (P:=g.K.In) (by refine ah (oF m) ?_;rfl) (λh y=>?_) ?_
 ·clear o;rcases hk with⟨id,rfl⟩ | ⟨id,rfl⟩ | hk
  ·exact ay _ (.inr (.inl Z)) (iQ id)
  ·exact ay _ (.inr (.inl Z)) (qy id)
  ·exact keeps_K hk h y
 ·cases es with
  | nil=>
   obtain rfl:=nE m;exact evalArgs_nil3 (o.now (b:=[]) c.rf .nil)
  | cons e es=>
   refine bG (dy m) λx xs i=>?_;subst i;intro a;haveI p:=oE (pos:=pos) h m c o;rw[iO (fY (b2 a).1)] at p ⊢;exact TC p
def tw{a:eu}{f:a7}{args:J AV}{vs:J cc}{L:cc->d2->Prop}(e:jP fa C d)(c:Ctx g fa d A s φ H env ρ)(i:fa f=O a)(v:aL g.N s.heap φ args vs)(o:Out g Nx (dr env) (VV g) s φ (C f args H) L E):er (ej g.prog g.w) A (call (.ref a) vs) L E s:=by
 refine CO (e g c.G c.T f a A s φ H args vs _ i c.L ⟨by have:=c.R.depth;exact YO this,by have:=c.R.units;exact YQ this⟩ v ?_);delta Out at *;refine w5 (C f args H) ?_ ?_ ?_
 ·intro x z q;rw[q] at o;exact λb m y a r=>o b m y a r
 ·intro w k p q;rw[q] at o;exact λv m x=>o v m (x.wide λj h=>.inl h)
 ·intro q;rw[q] at o;exact o
def Kw{f:a7}(u:jP fa C d)(h:∀m∈es,BS fa C d m):ES fa C d (.call f es):=by
 intro g k A s φ H ρ env w é E m c o;refine bC w (dS m) λfn bs z pos=>?_;clear m;intro m;refine kF (b5 m) λy b q x t=>?_;clear m;obtain rfl:=nE y;refine cR (c.T.gfn f (Ea q)) λa U V h3=>?_;refine ak (cU b) λp r=>?_;subst r;intro t;refine vG (gF c.G c.L c.n b V ?_);refine dF (.inr (.inr h3)) h x c (o.bind (W:=lR g) λl L ws ag ai e i v j=>?_);exact au ((c.a i).X) (tw u (c.a i) U v j)
theorem Rj{f:a7}(h:∀m∈es,BS fa C d m):ES fa C d (.bi f es):=by
 intro g k A s φ H ρ env u è E m c o;refine bC u (dS m) λfn bs F pos=>?_;clear m;intro m;refine kF (b5 m) λx j b q t=>?_;clear m;obtain rfl:=nE x;haveI b:=Ea b;refine ak (cU j) λp é=>?_;subst é;intro t;haveI hb:Oy (aD f)=O (if f="list"\/f="tuple" then .type f else .builtin f)/\aD f≠"__name__":=by
  simp only[IY,a8,eA,hK] at b;clear j p q;rcases b with rfl | rfl | rfl | rfl | rfl | rfl<;>exact au (by decide +kernel) (by decide +kernel)
 refine vG (xe c.G c.L c.n j (c.T.bi f b) hb.1 hb.2 ?_);refine dF (by split<;>first | exact .inr (.inl ⟨_,Z⟩) | exact .inl ⟨_,Z⟩) h q c (o.bind (W:=lR g) λl L ws ag ai e r v i=>?_);exact ak (i.opt) λz y i=>au ((c.a r).X) (CI (c.a r).L v y Z λD s' w vr=>i.now w vr)
set_option tactic.hygienic true in
def Lv.under{A':hX}(L:Lv g A s φ H)(U:A'.handled=A.handled)(V:A'.frames=A.frames):Lv g A' s φ H:=by
 refine⟨L.st,L.rl,?_,L.zz,by refine ah V ?_;exact L.Bn⟩;have:=L.hd;unfold cM at *
 split
 ·rename_i q;rw[q] at this;exact U.trans (this)
 ·rename_i y q;rw[q] at this;exact⟨this.le,this.ld,this.ob,this.fu,by refine ah U ?_;exact this.hd,this.zn⟩
def NH(D:jP fa C d)(h:∀m∈es,BS fa C d m):ES fa C d (.new cn f es):=by
 intro g k A s φ H ρ env F ê E m c o;refine bC F (dS m) λfn bs ä pos=>?_;intro m;refine kF (b5 m) λô z P à ù=>?_;clear m;obtain rfl:=nE ô;refine s8 (c.T.news cn f (I2.mp P)) λK a U V h3 h4 h5 î N=>?_;refine ak (cU z) λp è=>?_;subst è;intro ù;refine vG (gF c.G c.L c.n z h3 ?_);refine dF (.inr (.inr h5)) h à c (o.bind (W:=lR g) λl L ws ag ai e â v j=>?_);obtain⟨hh,ö,dd,I,û⟩:=ag;haveI i:=c.a â;refine aq (ba.Kn (tk:=I) i.L U) λt y=>au i.X (CO ?_);refine make_core (makes_of i.X h4) (O2 i.X î) (λself=>bind_fn i.X self N) (.inl Z) ?_;refine D g c.G c.T f a _ _ _ _ (.obj L.length::l) _ _ V ((i.L.a t).under (A':=A.under (.builtin "type.__call__" ⟨.ref K::ws,[]⟩)) Z Z) ⟨by have:=c.R.depth;exact Za this,by have:=c.R.units;exact Zd this⟩ (.cons y (v.mono t.aT t.bw)) ?_;cases q:C f (.obj L.length::l) (L++[.inst cn []]) using R.casesOn with
 | ok x H'=>
  rw[q] at j;clear q;cases x<;>try exact j.elim
  intro b s' é u r;subst r;refine au Z (j.now (t.trans u) ?_);exact y.mono u.aT u.bw
 | bH w f' p=>rw[q] at j;exact j.elim
 | bad=>exact(q▸j).elim
def mF(hb:uk o=X)(m:dH env.scope.names es xs=X)(j:es.length<20)(k:(p.endLine==pos.line)=X)(h:er (ej g.prog g.w) A (eval o env) (λov y=>∀L,er (ej g.prog g.w) A (getMethod ov name L) (λc z=>er (ej g.prog g.w) A (callWith pos c.1 c.2 (QL pos (A1 xs env)) []) W E z) E y) E s):er (ej g.prog g.w) A (eval (.Call (.Attribute o name p) xs [] pos) env) W E s:=by
 rw[arm_eval_Call,Br hb];refine a4 (x6 h (λov y i=>a4 (GL ?_)) λa a e=>e);haveI f:TF (xs.length+([]:J Vu).length) (QL pos (A1 xs env)) (backToKw pos (keywordEach [] env))=X:=by
  delta TF;have:=oF (env:=env) (pos:=pos) m;haveI q:(QL pos (A1 xs env)).all (λx=>!x.1)=X:=by
   refine ah J.all_eq_not_any_not ?_;simp only[RM];rw[this];rfl
  refine ah q ?_;refine ah ((yX m)) ?_;exact cB (Zf j)
 haveI b:T5 X o env p pos=pure pos:=by delta T5;simp[k]
 delta methodCall;refine ah f (a4 (kW ?_));delta calleeOf;refine ah (dE Z) ?_;exact x6 (i _) (λc z d=>a4 (Su b d)) λa a e=>e
set_option tactic.hygienic true in
def Kx(è:jP fa C d)(K:ES fa C d o)(h:∀m∈es,BS fa C d m):ES fa C d (.ix o cn mn f es):=by
 intro g k A s φ H ρ env D ê E m c t;refine bC D (dS m) λfn bs uG pos=>?_;clear m;intro m;refine eW (b4 m) λk0 L u k3=>?_;clear m;obtain rfl:=nE k0;refine aP fn (gE L) λp n ap k2=>kF (b5 k2) λN ö ù R P=>?_;clear L k2;obtain rfl:=e5 R;refine vN (c.T.ix cn mn f (I2.mp ù)) λCl a U V h3 h4 h5=>mF ö u (gb k3) P (K g k A s φ H ρ env p _ E N c (t.bind (W:=VV g) λx é w ag ai e ä v i pl=>?_));have b:=c.a ä;clear e t
 split at i
 ·rename_i nn
  split at i
  ·rename_i c' Y à
   revert i;refine Out.mD ?_ ?_<;>intro _ i
   ·rename_i y;refine aq y λô=>?_;clear y;subst ô;intro r;refine FO (vZ b.L à) λû C' e8 G hp j eF F g1 g2 I=>?_;rw[U] at j;injection j with j;subst j
    haveI â:=v;haveI î:=â.2.2 û hp;subst î;refine Cs (c.T.inst _ _ U) λt1 t2 t3 t4 t5 t6=>?_;refine method_fn b.X I t1 t2 h3 h4 (by show(lookIn _ (dictOf e8 G)).map _=_;simp only[QB,F.none r];rfl) ?_;refine dF (.inr (.inr h5)) h u b (i.bind (W:=lR g) λl dX ws aV cO fM q z aW=>?_);exact au ((b.a q).X) (tw è (b.a q) V (.cons (v.mono q.aT q.bw) z) aW)
   ·exact i.elim
  ·exact i.elim
 ·exact i.elim
def Gu{i b f:a7}(t:jP fa C d)(h:∀m∈es,BS fa C d m):ES fa C d (.il i b f es):=by
 intro g k A s φ H ρ env u à E m c q;refine bC u (dS m) λfn bs D pos=>?_;intro m;refine eW (b4 m) λk0 k1 e k3=>?_;clear m;obtain rfl:=nE k0;refine aP fn (gE k1) λp n ap L=>eW (b4 L) λo v x w=>?_;clear L;refine Wi (c.T.il i b f (I2.mp v)) λI a U V h3 h4 h5 z=>?_;obtain rfl:=e5 x;refine mF (by refine bh p (cU o) λy y=>?_;rfl) e (gb k3) w (gF c.G c.L c.n o V λpl=>?_);refine method_cls c.X h3 (cls_value c.X h4 h5 Z ?_);refine dF (.inr (.inr z)) h e (c.a (c.tk (s.toks+1))) ((q.shift (c.tk (s.toks+1))).bind (W:=lR g) λl F ws aV K è j r é=>?_);exact au (((c.a (c.tk (s.toks+1))).a j).X) (tw t ((c.a (c.tk (s.toks+1))).a j) U r é)
set_option tactic.hygienic true in
def ab4(e:eg H o m args=O (r,i)):Slot "list" (aD m) ("list."++m)/\typeOf (.builtin ("list."++m))=pure (.type "method_descriptor"):=by
 delta eg at e
 split at e
 ·split at e
  ·revert e;refine aJ ?_ ?_<;>intro _ e
   ·rename_i h;subst h;exact au O1 SM
   ·revert e;refine aJ ?_ ?_<;>intro _ e
    ·rename_i h;subst h;exact au F.slot_list_pop F.type_list_pop
    ·revert e;refine aJ ?_ ?_<;>intro _ e
     ·rename_i h;subst h;exact au F.slot_list_reverse F.type_list_reverse
     ·revert e;refine aJ ?_ ?_<;>intro _ e
      ·rename_i h;subst h;exact au F.slot_list_extend F.type_list_extend
      ·injection e
  ·injection e
 ·injection e
def Gv:∀m∈M1,Slot "list" (aD m) ("list."++m)/\typeOf (.builtin ("list."++m))=pure (.type "method_descriptor"):=by
 intro m h;simp only[M1,a8,eA,hK] at h;rcases h with rfl | rfl | rfl | rfl
 ·exact au O1 SM
 ·exact au F.slot_list_pop F.type_list_pop
 ·exact au F.slot_list_reverse F.type_list_reverse
 ·exact au F.slot_list_extend F.type_list_extend
set_option tactic.hygienic true in
def Gw(I:ES fa C d o)(h:∀m∈es,BS fa C d m):ES fa C d (.aK o L es):=by
 intro g k A s φ H ρ env è ê E m c y;refine bC è (dS m) λfn bs ä pos=>?_;intro m;refine eW (b4 m) λk0 k1 t k3=>?_;clear m;obtain rfl:=nE k0;refine aP fn (gE k1) λp n ap k2=>kF (b5 k2) λù û K P â=>?_;clear k2;obtain rfl:=e5 P;refine mF û t (gb k3) â (I g k A s φ H ρ env p _ E ù c (y.bind (W:=VV g) λx é w ag ai e ô v f pl=>?_));have b:=c.a ô;clear e
 split at f
 ·rename_i nn
  split at f
  ·rename_i l G;refine jH (mC b.L G) λa ws ü hp u g2 g3=>?_;haveI N:=v;haveI R:=N.2.2 _ hp;subst R;refine aq (Gv L (Ea K)) λsl D=>?_;refine getMethod_builtin ⟨_,u,Z⟩ F.plainAttrs_list sl D (λö j=>by injection j with j;subst j;exact ay _ u Z) ?_;refine dF (.inl ⟨_,Z⟩) h t b (f.bind (W:=lR g) λl à ws aV cO fM i z r=>?_);refine au ((b.a i).X) (az (eg à (.obj nn) L l) ?_ ?_)
   ·intro q;rw[q] at r;exact r.elim
   ·intro pr q;exact(uC (b.a i).L (v.mono i.aT i.bw) z q λv s' î vr=>(q▸r).now î vr).2
  ·exact f.elim
 ·exact f.elim
end
section
variable{fa:a7->aI eu}{C:CS}{d:S}
def xi(l u:aI Expr)(p:Pos)(o i:cc):subscripted (.Slice l u Q p) aN o i=operate [i,o] (Vv o i):=Z
set_option tactic.hygienic true in
def Gx(ñ:ES fa C d a):ES fa C d (.ik a):=by
 intro g k A s φ H ρ è ê ô E m c o;refine aP ê (ly m) λb sl à=>?_;intro m;refine aq (b2 m) λä m2=>bC sl (w9 m2) λlo up st p u=>cF (b3 u) λP â ü=>?_;clear u;refine ak (mz P) λlo R=>?_;subst R;intro I;obtain rfl:=nO â;obtain rfl:=nO ü;refine Q3 (ñ g k A s φ H ρ è b _ E ä c (o.bind (W:=VV g) λx é w ag ai e D v h=>?_));clear e
 split at h
 ·rename_i l
  revert h;refine Out.mD ?_ ?_<;>intro _ h
  ·rename_i ö;refine wpAny_Slice (uD (fa:=fa) (C:=C) (d:=d) (v:=.int 1) g k A ag ai é ρ è lo _ E I (c.a D) ?_);intro y L r i K;have f:=(c.a D).a i;haveI ç:VR g.N L.heap r (.int 1) y:=K;refine aX y ç λtk=>ei (ei ?_);have z:=v.mono i.aT i.bw;refine eQ w z λt ws hn ø h3=>?_;clear z;refine ak ø λù U V=>?_;haveI j:=h3.len;simp only[g6] at j;have keep:∀b o,L.heap.get? b=O o->(L.heap.push {cls:=.type "slice",data:=.fields #[.int 1 tk,.none,.none]}).get? b=O o:=λ_ _ q=>c1 _ q;haveI G:IsT (L.heap.push {cls:=.type "slice",data:=.fields #[.int 1 tk,.none,.none]}) t ws ù:=keep _ _ U;haveI î:IsTup (L.heap.push {cls:=.type "slice",data:=.fields #[.int 1 tk,.none,.none]}) t ws:=⟨_,G,Z,ù,Z⟩;refine tail_any (s:={L with heap:=L.heap.push {cls:=.type "slice",data:=.fields #[.int 1 tk,.none,.none]}}) ⟨_,G,Z⟩ F.slot_tuple_getitem.lookup ?_ (xi _ _ _ _ _);refine getItem_tuple_from (a:=1) (s:={L with heap:=L.heap.push {cls:=.type "slice",data:=.fields #[.int 1 tk,.none,.none]}}) î (RN ..) (gk _) (by refine ah j ?_;exact ö.1) ?_ (by exact ah o6 (lJ V));haveI n:ba g.N g.hT L r é {L with heap:=(L.heap.push {cls:=.type "slice",data:=.fields #[.int 1 tk,.none,.none]}).push {cls:=.type "tuple",data:=.seq (ws.toList.drop 1).toArray}} r:=
    .keeps f.L.rl f.L.st _ λ_ _ q=>c1 _ (keep _ _ q)
   refine h.now (i.trans n) (.uw (λl=>?_) (Tu _ _) ?_ (by refine ah O4 ?_;exact YW V j))
   ·refine aH (f.L.rl.ex l) λo' û=>?_;have:=hM û;haveI q:(L.heap.push {cls:=.type "slice",data:=.fields #[.int 1 tk,.none,.none]}).objs.size=L.heap.objs.size+1:=l8 ..;exact l3 _ (Ju (iB _) (q▸this))
   ·exact(h3.drop 1).mono n.aT n.bw
  ·exact h.elim
 ·exact h.elim
set_option tactic.hygienic true in
def Ky(ø:ES fa C d a)(hh:ES fa C d hi):ES fa C d (.hR a hi):=by
 intro g k A s φ H ρ é P ô E m c o;refine aP P (ly m) λb sl à=>?_;intro m;refine aq (b2 m) λö m2=>bC sl (w9 m2) λlo up st p D=>cF (b3 D) λR ê ç=>?_;clear D;obtain rfl:=nO R;obtain rfl:=nO ç;refine ak (mz ê) λup Ru=>?_;subst Ru;intro K;refine Q3 (ø g k A s φ H ρ é b _ E ö c (o.bind (W:=VV g) λx è w ag ai e F v G=>?_));refine wpAny_Slice (ei ?_);refine hh g k A ag ai è ρ é up _ E K (c.a F) (G.bind (W:=VV g) λy ä u L â fM i z h=>?_);have f:=(c.a F).a i;haveI ü:=v.mono i.aT i.bw;refine ei ?_;clear v fM G
 split at h
 ·rename_i l n
  revert h;refine Out.mD ?_ ?_<;>intro _ h
  ·rename_i ù;refine eQ w ü λt ws NI î h3=>ak î λñ U V=>?_;refine aX u z λtk=>?_;clear z;refine aH (uA ù.1) λj Rw=>?_;subst Rw;have keep:∀b o,L.heap.get? b=O o->(L.heap.push {cls:=.type "slice",data:=.fields #[.none,.int j tk,.none]}).get? b=O o:=λ_ _ q=>c1 _ q;haveI I:sA (L.heap.push {cls:=.type "slice",data:=.fields #[.none,.int j tk,.none]}) t ws ñ:=keep _ _ U;refine tail_any (s:={L with heap:=L.heap.push {cls:=.type "slice",data:=.fields #[.none,.int j tk,.none]}}) ⟨_,I,Z⟩ list_getitem_lookup ?_ (xi _ _ _ _ _);refine wpAny_getItem_list_slice (lo:=Q) (hi:=O (j:T)) (st:=Q) (s:={L with heap:=L.heap.push {cls:=.type "slice",data:=.fields #[.none,.int j tk,.none]}}) (kg I) (RN ..) .none (.int ..) .none (by decide) ?_ (o6▸lJ V);haveI r:ba g.N g.hT L â ä {L with heap:=(L.heap.push {cls:=.type "slice",data:=.fields #[.none,.int j tk,.none]}).push {cls:=.type "list",data:=.seq (slicePick ws Q (O (j:T)) Q)}} â:=
    .keeps f.L.rl f.L.st _ λ_ _ q=>c1 _ (keep _ _ q)
   refine h.now r (.nM (λl=>?_) (R2 _ _) ?_ ((x2)▸YZ ù))
   ·refine aH (f.L.rl.ex l) λo' û=>?_;have:=hM û;haveI q:(L.heap.push {cls:=.type "slice",data:=.fields #[.none,.int j tk,.none]}).objs.size=L.heap.objs.size+1:=l8 ..;exact l3 _ (Ju (iB _) (q▸this))
   ·haveI q:=(h3.take j).mono r.aT r.bw;rw[slicePick_upto'] at q ⊢;exact q
  ·exact h.elim
 ·exact h.elim
def bK.drop(a:bK p N i s j k m g)(n:∀b,p b->s.heap.get? b=Q):ba N i s j k m g:=by
 have h:∀b o,s.heap.get? b=O o->¬p b:=λb o e x=>by rw[n b x] at e;injection e
 exact⟨a.eq,⟨λb o l c e=>a.aT.keep b o l (h b o e) e,a.aT.lQ,λc c q=>q.elim,λc c c c q=>q.elim⟩,a.bw,a.rl,a.st,λb o l c z e=>a.ex b o l (h b o e) z e⟩
def bK.one{g:Gr}{A:hX}{s:d2}{j:Fi}{H:Hp}{i:d1}{D:eu}{tk:S}(L:Lv g A s j H)(k:oa D s.heap i)(nl:¬cm j D)(c:g.hT.get? D=Q)(q:∀o,s.heap.get? D=O o->∀y n,o.data≠.seq y n)(h:∃o,i.get? D=O o)(f:∀o m n,s.heap.get? D=O o->o.data=.dict m n->∃p W n',i.get? D=O p/\p.data=.dict W n'):bK (·=D) g.N g.hT s j H {s with heap:=i,toks:=tk} j:=by
 haveI é:bI (·=D) j s.heap i:=⟨λa o l x e=>⟨o,(k.2 a x).trans e,.refl o⟩,λa o e=>by
   by_cases x:a=D
   ·exact ah x (h)
   ·exact bq o ((k.2 a x).trans e),λa o x e=>q o (x▸e),λa o m n x l e d=>by cases x;exact f o m n e d⟩
 refine⟨⟨i,tk,Z⟩,é,.refl ..,L.rl.grow (λa o l e=>(k.2 a λx=>nl (x▸l)).trans e) é,λb o e=>?_,λa o l x z e=>(k.2 a x).trans e⟩;rw[k.2 b λx=>by rw[x,c] at e;injection e];exact L.st b o e
set_option tactic.hygienic true in
def AI{g:Gr}{k:S}{A:hX}{ρ:Loc}{à:Env}{E:cc->d2->Prop}{ù:Pos}:∀{es:J ME}{ks:J T}{è:J (aI Expr)}{é:J Expr}{s:d2}{φ:Fi}{H:Hp}{û:J (cc×cc)->d2->Prop},
  (∀m∈es,BS fa C d m)->è.length=ks.length->(ks.zip è).all (λp=>oS (isLit (.int p.1)) p.2)=X->es.length=ks.length->dH à.scope.names es é=X->Ctx g fa d A s φ H à ρ->
  Out g Nx (dr à) (lR g) s φ (ct GG C k es ρ H) (λws ag=>∀t,Carries (R3 g.prog g.w) t (ks.zip ws)->û t ag) E->er (ej g.prog g.w) A (evalPairs (pairTrees è é à ù)) û E s:=by
 intro es
 induction es with
 | nil=>
  intro ks è é s φ H û h q j n m c o;clear j;obtain rfl:=nE m;cases ks<;>try (injection n;done)
  cases è<;>try (injection q;done)
  exact pairTrees_nil_walk (o.now (b:=[]) c.rf .nil [] fo)
 | cons e es ih=>
  intro ks è é s φ H û h q j n m c o;refine bY é (dy m) λx xs=>?_;intro m;cases ks<;>try (injection n;done)
  cases è<;>try (injection q;done)
  haveI m:=b2 m;rename_i i ks y è;refine ak (mz (b2 j).1) λy L=>?_;subst L;intro D;refine pairTrees_cons_walk (uD (fa:=fa) (C:=C) (d:=d) (v:=.int i) g k A s φ H ρ à y _ E D c ?_);intro G ag ai f u;refine aX G u λtk=>(h e (.head _)).1 g k A ag ai H ρ à x _ E m.1 (c.a f) ((o.shift f).bind (W:=VV g) λa ô w aV ä e z â î=>?_);refine ih (λm F=>h m (.tail _ F)) (by simpa using q) (b2 j).2 (by simpa using n) m.2 ((c.a f).a z) (î.bind (W:=lR g) λl N ws eB P R r K ê=>?_);intro t I;exact ê.now (b:=w::ws) (((c.a f).a z).a r).rf (.cons (â.mono r.aT r.bw) K) _ ⟨intKind_is _ _ _ _,Z,I⟩
theorem uI:∀(a e:J (T×cc)),(e++a).map (·.1) |>.Nodup->merged e a=e++a
 | [],e,_=>by simp[merged]
 | (k,v)::r,e,h=>by
  have g:e.any (λc=>c.1=k)=aN:=by
   rw[Sf];intro x b d;simp only[l9,i1,J.nodup_append] at h;have:=h.2.2 x.1 (J.mem_map_of_mem b) k (J.mem_cons_self ..);exact this (by simpa using d)
  have:merged e ((k,v)::r)=merged (stored e k v) r:=Z;refine ah this ?_;have:stored e k v=e++[(k,v)]:=by delta stored;refine ah g ?_;rfl
  rw[this,uI r (e++[(k,v)]) (by simpa using h)];simp
set_option tactic.hygienic true in
theorem qz:∀{j:J T}{l:J AV}{g:J cc},aL N h m l g->dictAt j l i=O z->∃w,Vx (j.zip g) i=O w/\VR N h m z w
 | [],l,g,r,e=>by injection (show(Q:aI AV)=O z from e)
 | k::j,[],g,r,e=>by injection (show(Q:aI AV)=O z from e)
 | k::j,x::l,g,r,e=>by
  refine dc g r ?_;intro w t d r
  revert e;refine aJ ?_ ?_<;>intro _ e
  ·rename_i q;injection e with e;subst e
   exact ay w (by simp[Vx,q]) d
  ·rename_i q;refine ak (qz r e) λc a b=>ay c ?_ b;simp only[Vx] at a ⊢;dsimp only[uW,qm];simp only[q,Jq];exact a
set_option tactic.hygienic true in
def Kz{i:ME}(h:∀m∈es,BS fa C d m)(hi:ES fa C d i):ES fa C d (.kG ks es i):=by
 intro g k A s φ H ρ è pe ç E m c o;simp only[pZ] at o;refine aP pe (ly m) λdv j ô=>?_;intro m;refine aq (b2 m) λn1 m7=>?_;refine aP dv (tf n1) λL â û n2=>cF (b3 n2) λn3 n4 m6=>eW (b4 n3) λn5 n6 m3 n7=>?_;have ê:=gb n5;have m2:=gb n6;have æ:=gb n4;haveI Gy:∀(ks:J T) (L:J (aI Expr)),L.length=ks.length->(ks.zip L).all (λp=>oS (isLit (.int p.1)) p.2)=X->L.all (·.isSome)=X:=by
  intro ks
  induction ks with
  | nil=>intro L ø _;cases L<;>first | rfl | injection ø
  | cons k ks ih=>
   intro L ø y;cases L<;>try (injection ø;done)
   rename_i ky L;haveI y:=b2 y;refine ak (mz y.1) λky Ry=>?_;subst Ry;intro Vl;exact ih L (sL ø) y.2
 refine Q3 (wpAny_Dict_walk (knd:=R3 g.prog g.w) (Gy ks L ê m3) (by simp only[ê,yX m6,æ]) (by intro z;rw[z] at ê;exact Y2 ê m2) (Y3 ê m2) ?_);let K:d2:={s with heap:=s.heap.push {cls:=.type "dict",data:=.dict #[]}};have å:ba g.N g.hT s φ H K φ:=.keeps c.L.rl c.L.st _ λ_ _ q=>c1 _ q;have nD:∀{à:Fi}{h':d1},e9 K.heap φ à->¬cm à s.heap.objs.size:=λF=>
  F.gZ (bg c.L.rl (aF _)) (hJ _ Z)
 have zD:¬g.N.Z s.heap.objs.size:=λz=>by refine aH (c.L.zz _ z) λo e=>?_;rw[aF] at e;injection e
 refine AI (φ:=φ) (H:=H) h ê m3 æ m6 (c.a å) ((o.shift å).bind (W:=lR g) λl é ws ag ai e ä v ao=>?_);intro yZ cv;have I8:ag.heap.DictOf (R3 g.prog g.w) s.heap.objs.size []:=by
  exact dp (VU (knd:=R3 g.prog g.w) s.heap) λü e8 P G r=>ed ü e8 P (ä.ex _ _ (nD (h':=K.heap) (.refl ..)) id zD G) r
 refine dQ _ cv I8 (λh' hm sb=>?_);have oG:bK (·=s.heap.objs.size) g.N g.hT ag ai é {ag with heap:=h',toks:=ag.toks+yZ.length} ai:=by
  refine jH I8 λü e8 P G he hd _=>jH (id hm) λë î NK gu sE jC _=>.one ((c.a å).a ä).L sb (nD (h':=K.heap) ä.bw) ?_ (λo q ws n=>?_) ⟨_,gu⟩ λo es n _ _=>⟨ë,î,NK,gu,jC⟩
  ·refine az (g.hT.get? s.heap.objs.size) ?_ ?_
   ·intro q;rfl
   ·intro o q;have:=c.L.st _ _ q;rw[aF] at this;injection this
  ·cases(G.symm.trans q);refine ah hd ?_;nofun
 have fresh:∀b,b=s.heap.objs.size->s.heap.get? b=Q:=λb q=>by refine ah q ?_;exact aF _
 have ab:ba g.N g.hT s φ é {ag with heap:=h',toks:=ag.toks+yZ.length} ai:=
  (((å.trans ä).more (L:=(·=s.heap.objs.size)) (λ_ q=>q.elim) λb o q e=>by rw[fresh b q] at e;injection e).trans oG).drop fresh
 haveI t:=c.a ab;haveI Rz:Out g Nx (dr è) (VV g) {ag with heap:=h',toks:=ag.toks+yZ.length} ai ((ev GG C k i ρ é).bind λx H=>match x with | .int i=>opt (dictAt ks l i) H | _=>.bad) ç E:=by
  have:=o.shift ab;simp only[e] at this;exact this
 refine hi g k A _ ai é ρ è j _ E m7 t (Rz.bind (W:=VV g) λx dX u aV cO fM ñ cT ö=>?_);clear fM
 split at ö
 ·rename_i n;refine aX u cT λtk=>ak (ö.opt) λz y ö=>?_;haveI CP:aV.heap.DictOf (R3 g.prog g.w) s.heap.objs.size (merged [] (ks.zip ws)):=by
   refine dp hm λü e8 P G r=>?_;clear hm;exact ed ü e8 P (ñ.ex _ _ (nD (h':=K.heap) ä.bw) id zD G) r
  have vl:=((v.mono oG.aT oG.bw)).mono ñ.aT ñ.bw;refine ak (qz vl y) λw hw vw=>?_;haveI el:=vl.len;have ù:=by
   haveI ll:l.length=es.length:=by
    have:∀(es:J ME) (H:Hp) (l:J AV) (H':Hp),ct GG C k es ρ H=.ok l H'->l.length=es.length:=by
     intro es
     induction es with
     | nil=>intro H l H' e;injection e with e e2;subst e e2;rfl
     | cons e es ih=>
      intro H l H' q;simp only[F4] at q;refine w5 (ev GG C k e ρ H) ?_ ?_ ?_
      ·intro a H1 I;rw[I] at q;refine w5 (ct GG C k es ρ H1) ?_ ?_ ?_
       ·intro l2 H2 D;haveI q:(ct GG C k es ρ H1).bind (λl H=>R.ok (a::l) H)=.ok l H':=q;rw[D] at q;injection q with q e2;subst q e2
        simp[ih _ _ _ D]
       ·intro w f p D;change (ct GG C k es ρ H1).bind (λl H=>R.ok (a::l) H)=.ok l H' at q;rw[D] at q;injection q
       ·intro D;haveI q:(ct GG C k es ρ H1).bind (λl H=>R.ok (a::l) H)=.ok l H':=q;rw[D] at q;injection q
      ·intro w f p I;rw[I] at q;injection q
      ·intro I;rw[I] at q;injection q
    exact this _ _ _ _ e
   exact el.trans (ll.trans (æ))
  haveI nd:((([]:J (T×cc))++ks.zip ws).map (·.1)).Nodup:=by
   simp only[k8,Pq (ML ù)];exact(gb n7)
  simp only[uI _ _ nd] at CP;refine tail_any CP.typeIs slot_dict_getitem.lookup (wpAny_getItem_of (intKind_is _ _ n tk) CP.mapOf hw ?_) (El (fY m7) _ _);exact ö.now ((t.a ñ).tk _) vw
 ·exact ö.elim
end
noncomputable def eh (e:J (cD×eu)):J (cD×j2)->J (cD×eu)->J (cD×eu)
 | [],acc=>acc
 | (n,k)::r,acc=>if k==.free then eh e r ((n,(e.lookup n).getD 0)::acc) else eh e r acc
theorem y0(e x:J (cD×eu)):eh e [] x=x:=rfl
theorem y4(e x:J (cD×eu))(n:cD)(k:j2)(r:J (cD×j2)):eh e ((n,k)::r) x =
  if(k==p4)=X then eh e r ((n,(jg n e).getD 0)::x) else eh e r x:=rfl
def AJ(f:cD×j2->J (cD×eu)->RF (xo (J (cD×eu))))(e:∀n k r,f (n,k) r=if(k==p4)=X then(do let c <-cellOf env n;pure (p0 ((n,c)::r))) else pure (p0 r)):∀(l:J (cD×j2)) (h:J (cD×eu)),(∀n,(n,p4)∈l->∃c,env.cells.lookup n=O c)->(forIn l h f)=pure (eh env.cells l h):=by
 intro l
 induction l with
 | nil=>intro h g;rfl
 | cons p l j=>
  obtain⟨n,k⟩:=p;intro h b;dsimp only[y0,y4];rw[Qt,e];by_cases i:(k==p4)=X
  ·haveI d:k=.free:=by simpa using i
   refine aH (b n (d▸.head _)) λc hc=>?_;have:cellOf env n=pure c:=by delta cellOf;exact ah hc Z
   refine ah (dE i) (ah (dE i) (ah this (ah hc ?_)));exact j _ λm a=>b m (.tail _ a)
  ·rw[dm i,dm i];exact j _ λm a=>b m (.tail _ a)
def CQ(h:∀n,(n,p4)∈e.names->∃c,g.cells.lookup n=O c):closureFor e g=pure (eh g.cells e.names []):=by
 show(forIn e.names [] _ >>= λi=>pure i)=_;rw[AJ (env:=g) _ (λn k r=>Z) e.names [] h];rfl
def CR{i:J (cD×eu)}:∀(g:J (cD×eu)),(∀p∈g,p.2=(i.lookup p.1).getD 0)->(∃p∈g,p.1=n)->g.lookup n=O ((i.lookup n).getD 0):=λg=>by
 induction g with
 | nil=>
  intro d;intro a;refine ak a λd h d=>?_;cases h
 | cons q g j=>
  intro c;intro a;refine ak a λp hp e=>?_;clear a;refine ah eC ?_;by_cases e1:(n==q.1)=X
  ·simp only[e1];haveI b:n=q.1:=by simpa using e1
   refine ah (c q (.head _)) ?_;rw[<-b]
  ·haveI b:(n==q.1)=aN:=by simpa using e1
   refine ah b (j (λr f=>c r (.tail _ f)) ⟨p,?_,e⟩);clear c b;rcases a8.mp hp with rfl | hp
   ·rw[e] at e1;simp at e1
   ·exact hp
def yb:∀(l:J (cD×j2)) (g:J (cD×eu)),(∀p∈g,p.2=(i.lookup p.1).getD 0)->((n,p4)∈l\/∃p∈g,p.1=n)->(eh i l g).lookup n=O ((i.lookup n).getD 0):=λl=>by
 induction l with
 | nil=>
  intro g;intro a;intro h;exact CR g a (h.resolve_left (by simp))
 | cons x l s=>
  obtain⟨m,k⟩:=x;intro g;intro a;intro h;dsimp only[y0,y4];by_cases j:(k==p4)=X
  ·haveI b:k=.free:=by simpa using j
   rw[dE j];refine s _ (λp hp=>?_) ?_
   ·rcases a8.mp hp with rfl | hp
    ·rfl
    ·exact a p hp
   ·clear j;rcases h with h | ⟨p,hp,e⟩
    ·refine eE (a8.mp h) (λh=>?_) λh=>?_
     ·clear b;injection h with h q;subst h q;exact Or.inr ⟨_,.head _,Z⟩
     ·exact Or.inl h
    ·exact Or.inr ⟨p,.tail _ hp,e⟩
  ·rw[dm j];refine s g a (eE h (λh=>?_) λh=>?_)
   ·refine eE (a8.mp h) (λh=>?_) λh=>?_
    ·injection h with h q;subst h q;exact hQ Z j
    ·exact Or.inl h
   ·exact Or.inr h
theorem qA(h:Nm)(x:cD):∀(g:Nm),(ip h g).lookup x=(g.lookup x).map λk=>if k==.free&&h.lookup x==O .cell then .cell else k:=λg=>by
 induction g with
 | nil=>
  exact Z
 | cons j g i=>
  obtain⟨n,k⟩:=j;show jg x ((if(k==p4&&h.lookup n==O NZ)=X then(n,NZ) else(n,k))::ip h g)=_;by_cases q:(k==p4&&h.lookup n==O NZ)=X
  ·rw[dE q,eC,eC];by_cases e:(x==n)=X
   ·rw[e];have a:=by simpa using e
    clear e;subst a;dsimp only[gL];rw[dE q]
   ·haveI a:(x==n)=aN:=by simpa using e
    exact ah a (i)
  ·rw[dm q,eC,eC];by_cases e:(x==n)=X
   ·rw[e];have a:=by simpa using e
    clear e;subst a;simp only[gL];exact ah (dm q) Z
   ·haveI a:(x==n)=aN:=by simpa using e
    rw[a];exact i
theorem iu(g:JE)(h:e.scope.kind=.function):(R4 g e).names=ip e.scope.names g.names:=by
 delta R4 ip;dsimp only;congr 1;funext p;refine ah h ?_;have:(RO==RO)=X:=Z;refine ah this ?_;rw[NW];rfl
def mem_lookup{e:Type}[DecidableEq e]{k:e}:∀{l:J (cD×e)},l.lookup n=O k->(n,k)∈l:=λh=>mem_of_lookup h
structure qB (nm:Nm)(sc:JE)(x:cD):Prop where
 hk:sc.kind=.function
 loc:∀p∈sc.names,p.2=.local->sc.names.lookup p.1=O .local
 I9:∀p∈sc.names,p.2≠.cell
 free:∀p∈sc.names,p.2=.free->nm.lookup p.1=O .cell
 one:∀p∈sc.names,p.2=.local->p.1=x\/p.1=(".0":cD)
 lx:sc.names.lookup x=O .local
def qC{m:Nm}(h:qp m s x=X):qB m s x:=by
 delta qp at h;simp only[e3,h8,nr,bne_iff_ne,p1] at h;refine aq h λe k=>?_;refine aq e λi g=>?_;refine aq i λj h5=>?_;refine aq j λd h4=>?_;refine aq d λc h3=>?_;refine aq c λb V=>?_;refine aq b λa f=>?_;refine aq a λU f=>?_;exact⟨U,λp hp q=>(V p hp).resolve_left (λz=>z q),λp hp=>h3 p hp,λp hp q=>(h4 p hp).resolve_left (λz=>z q),λp hp q=>by
  rcases h5 p hp with(z | z) | z
  ·exact hQ q z
  ·exact .inl z
  ·exact .inr z,g⟩
section
variable{fa:a7->aI eu}{C:CS}{d:S}{g:Gr}{k:S}{A:hX}{ρ:Loc}{env:Env}{E:cc->d2->Prop}
set_option tactic.hygienic true in
theorem En.comp(n:En g env s φ ρ)(è:qB env.scope.names L (aD x))(p:s.heap.Ns W m)(j:m (aD x)=O w)(r:VR g.N s.heap φ v w)(nl:¬cm φ W)(i:g.hT.get? W=Q):En g (SP L (eh env.cells L.names []) W env) s φ ((x,v)::ρ):=by
 have kd:∀y,(SP L (eh env.cells L.names []) W env).kindOf y=(L.names.lookup y).map λk=>if k==.free&&env.scope.names.lookup y==O .cell then .cell else k:=λy=>by
  show(R4 L env).names.lookup y=_;simp only[iu L n.hk,qA]
 refine⟨è.hk,n.gl,n.bt,⟨m,p,λy u d hd hk=>?_⟩,⟨nl,i⟩,λy hk=>?_⟩
 ·rw[kd] at hk;refine ak (h7.mp hk) λb U V=>?_;haveI h3:b=.local:=by
   revert V;refine aJ ?_ ?_<;>intro _ V
   ·injection V
   ·exact V
  clear V;subst h3;refine eE (è.one _ (mem_lookup U) Z) (λq=>?_) λq=>?_
  ·haveI q:y=x:=ft q;clear è;subst q;simp at d;subst d;exact ay w j r
  ·haveI q:aD y=(".0":cD):=q;rw[q] at hd;simp at hd
 ·rw[kd] at hk;refine ak (h7.mp hk) λb U V=>?_;haveI h3:b=.free/\env.scope.names.lookup y=O .cell:=by
   revert V;refine aJ ?_ ?_<;>intro _ V
   ·rename_i q;simp only[e3,p1] at q;exact q
   ·rw[V] at U;exact hQ Z (è.I9 _ (mem_lookup U))
  refine aq h3 λt=>?_;clear h3;clear V;subst t;intro h4;refine fg (n.cl y h4) λc o dZ f l é A a5=>iw c o dZ ?_ l é A (λz u e a=>?_)
  ·show(eh env.cells L.names []).lookup y=_;refine ah (yb _ _ (λ_ h=>by cases h) (.inl (mem_lookup U))) ?_;refine ah f ?_;rfl
  ·refine a5 z u e ?_;clear a5 f;subst e;simp only[eC] at a;have:(z==x)=aN:=by
    refine gz (z==x) ?_ ?_
    ·intro q;rfl
    ·intro q;haveI q:z=x:=by simpa using q
     clear a;subst q;rw[è.lx] at U;injection U with U;injection U
   rw[this] at a;exact a
def AK{e:J Expr}(h:p aN s):er m A (forIn e aN λc r=>if r=X then do let ok <-PySem.isTrue c i (eval c i);pure (p0 ok) else pure (p0 r)) p E s:=by
 induction e with
 | nil=>exact ei h
 | cons c e j=>
  rw[Qt];exact a4 (ei j)
def AL:∀{p:J ME}{q:J Expr}{s:d2}{y:Fi}{H:Hp}{é:aS->d2->Prop},(∀m∈p,BS fa C d m)->dH z.scope.names p q=X->Ctx g fa d A s y H z ρ->
  Out g Nx (dr z) VB s y (tb (cX GG C k p ρ H)) é E->
  er (ej g.prog g.w) A (forIn q X λc r=>if r=X then do let ok <-PySem.isTrue c z (eval c z);pure (p0 ok) else pure (p0 r)) é E s:=by
 intro p
 induction p with
 | nil=>
  intro q s y H é h m c o;obtain rfl:=nE m;exact ei (o.now (b:=X) c.rf Z)
 | cons e p W=>
  intro q s y H é h m c o;refine bG (dy m) λx q j=>?_;clear m;subst j;intro m;haveI m:=b2 m;rw[oD,fP] at o;rw[Qt];refine a4 (a4 ((h e (.head _)).2 g k A s y H ρ z x _ E m.1 c (o.bind λt L w ag ai e i v f=>?_)));clear e;subst v;refine ei ?_;cases t with| true=>exact W (λm l=>h m (.tail _ l)) m.2 (c.a i) f| false=>exact AK (f.now (b:=aN) (c.a i).rf Z)
structure Wk (aC:nz)(w:oM)(A:hX)(N:cz)(I:eu)(fp:J eu)(n:S)(P:S->cc->Prop)(St:S->d1->Prop):Prop where
 W:Walks aC w A I fp [I] n P St
 at_:∀i h,St i h->∃o vs,h.get? I=O o/\o.data=.fields vs
 fp:∀b∈fp,b=I\/b∈dz N\/∀i h,St i h->∃o ws n,h.get? b=O o/\o.data=.seq ws n
 cl:∀i h,St i h->∃o c,h.get? I=O o/\o.cls=.type c/\c∈["list_iterator","tuple_iterator","range_iterator","list_reverseiterator"]
def bK.iter(L:Lv g A s m H)(j:∀b o,b≠I->s.heap.get? b=O o->p.get? b=O o)(nl:¬cm m I)(f:g.hT.get? I=Q)(h:∃o vs,s.heap.get? I=O o/\o.data=.fields vs)(c:∃o,p.get? I=O o):bK (·=I) g.N g.hT s m H {s with heap:=p,toks:=tk} m:=by
 refine bG h λi vs e1 d=>?_;haveI é:bI (·=I) m s.heap p:=by
  refine⟨λa o l x e=>⟨o,j a o x e,.refl o⟩,λa o e=>?_,λa o x e y n q=>?_,λa o W n x l e q=>?_⟩
  ·by_cases x:a=I
   ·exact ah x (c)
   ·exact bq o (j a o x e)
  ·rw[x,e1] at e;injection e with e;subst e;rw[d] at q;injection q
  ·rw[x,e1] at e;injection e with e;subst e;have q:=d▸q;injection q
 refine⟨⟨p,tk,Z⟩,é,.refl ..,L.rl.grow (λa o l e=>j a o (λx=>nl (x▸l)) e) é,λb o e=>j b o (λx=>?_) (L.st b o e),λa o l x z e=>j a o x e⟩;rw[x,f] at e;injection e
def y5{s h:d2}(L:Lv g A s i H)(a:bK z g.N g.hT s i p h j)(m:∀y,g.N.exc=O y->¬z y.e/\¬z y.dx):∀b∈dz g.N,∀o,s.heap.get? b=O o->h.heap.get? b=O o:=by
 haveI hd:=L.hd;intro b hb o e;unfold cM at hd;delta dz at hb;refine az g.N.exc ?_ ?_
 ·intro q;have hb:=q▸hb;cases hb
 ·intro x q;rw[q] at hb hd;refine aq (m x q) λd c=>?_;simp only[a8,eA,hK] at hb;rcases hb with rfl | rfl
  ·exact a.ex _ _ hd.le d hd.zn.1 e
  ·exact a.ex _ _ hd.ld c hd.zn.2 e
def Wk.kept{fp:J eu}{St:S->d1->Prop}{i:S}(K:Wk g.prog g.w A g.N I fp n P St)(L:Lv g A s j H)(c:bK é g.N g.hT s j H' p q)(x:∀y,g.N.exc=O y->¬é y.e/\¬é y.dx)(m:¬cm j I/\¬é I/\¬g.N.Z I)(nl:∀b∈fp,¬cm j b)(st:St i s.heap):St i p.heap:=by
 refine K.W.frame i _ _ st λb hb o e=>?_;rcases K.fp b hb with rfl | h | h
 ·exact c.ex _ _ m.1 m.2.1 m.2.2 e
 ·exact y5 L c x b h o e
 ·refine dp (h i _ st) λo' ws n' a z=>?_;rw[e] at a;injection a with a;subst a
  exact c.aT.seq (nl b hb) e z
def Eo (g:Gr)(e:d2)(h:Fi)(l:J AV)(i:S)(v:cc):Prop:=∃x,l[i]?=O x/\VR g.N e.heap h x v
def mX{A:hX}(L:Lv g A s φ H)(r:VR g.N s.heap φ x v)(e:frozen x=O l)(h:∀St fp o,Wk g.prog g.w A g.N s.heap.objs.size fp l.length (Eo g s φ l) St->(∃vs,o.data=.fields vs)->o.isFreed=aN->St 0 (s.heap.push o)->(∀b∈fp,(b=s.heap.objs.size\/∃o,s.heap.get? b=O o)/\¬cm φ b)->à (.ref s.heap.objs.size) {s with heap:=s.heap.push o}):er (ej g.prog g.w) A (UE v) à E s:=by
 have k:∀b∈dz g.N,(∃o,s.heap.get? b=O o)/\¬cm φ b:=λb hb=>by
  have hd:=L.hd;unfold cM at hd;unfold dz at hb;refine az g.N.exc ?_ ?_
  ·intro q;have hb:=q▸hb;cases hb
  ·intro x q;rw[q] at hb hd;simp only[a8,eA,hK] at hb;refine bG (hd.ob) λoe vs G m=>iU (hd.fu) λsl n k1 k2 k3 t1 t2 t3 U V h3 dd=>?_;rcases hb with rfl | rfl
   ·exact au ⟨_,G⟩ hd.le
   ·exact au ⟨_,dd⟩ hd.ld
 haveI nx:s.heap.objs.size∉dz g.N:=λhb=>by refine aq (k _ hb) λD m=>?_;refine aH D λo e=>?_;rw[aF] at e;injection e
 cases x<;>simp only[frozen] at e<;>try cases(e)
 ·refine eP (VR.yN r) ?_;clear r;intro a ws F;subst F;intro nl è r;refine ak è λn p z=>?_;clear è;have d:=hM p;have j:=r.len;rw[g6] at j;refine Nk (vX.lz ⟨n,p,z⟩) ?_;refine h (λi h=>h.IsTupleIter s.heap.objs.size a i/\IsT h a ws n/\cM g.N A h []) (s.heap.objs.size::a::dz g.N) {cls:=.type "tuple_iterator",data:=.fields #[.ref a,.int 0 0]} ⟨?_,λi h st=>?_,λb hb=>?_,λi h st=>let ⟨o,f,hc,_⟩:=st.1;⟨o,_,f,hc,by decide⟩⟩ ⟨_,Z⟩ Z ?_ λb hb=>?_
  ·have W:=yQ (N:=g.N) (aC:=g.prog) (w:=g.w) (A:=A) s.heap.objs.size a (jB d) nx ws;rw[j] at W;refine⟨W.sub,λi h h' st c=>⟨(W.frame i h h' ⟨st.1,⟨_,st.2.1,Z,_,Z⟩,st.2.2⟩ c).1,c a (by simp) _ st.2.1,(W.frame i h h' ⟨st.1,⟨_,st.2.1,Z,_,Z⟩,st.2.2⟩ c).2.2⟩,λi s' à E hi st hq=>?_,λs' à E st hq=>W.done s' à E ⟨st.1,⟨_,st.2.1,Z,_,Z⟩,st.2.2⟩ hq,λi s' à E st hq=>W.self i s' à E ⟨st.1,⟨_,st.2.1,Z,_,Z⟩,st.2.2⟩ hq⟩;refine W.item i s' à E hi ⟨st.1,⟨_,st.2.1,Z,_,Z⟩,st.2.2⟩ λv h' tk hp é c=>hq v h' tk ?_ ⟨é.1,c a _ (by simp;exact jB d) st.2.1,é.2.2⟩ c;have kr:=hi;refine ak (r.get (ee kr)) λu hv t=>?_;have:O v=O u:=by rw[<-hp,<-hv];simp
   clear hv;injection this with this;subst this
   exact ay _ (ee kr) t
  ·refine cR (st.1) λo f m hd=>?_;exact ew o _ f hd
  ·rcases a8.mp hb with rfl | hb
   ·exact .inl Z
   ·clear nl p d;rcases a8.mp hb with rfl | hb
    ·exact .inr (.inr λi h st=>⟨_,_,_,st.2.1,Z⟩)
    ·exact .inr (.inl hb)
  ·exact cG ⟨_,hJ _ Z,Z,Z⟩ (c1 _ p) ((L.hd.nil).fp (.refl ..) λb hb o e=>c1 _ e)
  ·rcases a8.mp hb with rfl | hb
   ·exact au (.inl Z) (bg L.rl (aF _))
   ·clear d;rcases a8.mp hb with rfl | hb
    ·exact au (.inr ⟨_,p⟩) nl
    ·exact au (.inr (k _ hb).1) ((k _ hb).2)
 ·refine eP (VR.tn r) ?_;clear r;intro a ws C;subst C;intro nl y r;refine ak y λn p z=>?_;clear y;have d:=hM p;have j:=r.len;rw[g6] at j;refine wpAny_pyIter_list (tm.isList ⟨n,p,z⟩) ?_;refine h (λi h=>h.IsListIter s.heap.objs.size a i/\sA h a ws n/\cM g.N A h []) (s.heap.objs.size::a::dz g.N) {cls:=.type "list_iterator",data:=.fields #[.ref a,.int 0 0]} ⟨?_,λi h st=>?_,λb hb=>?_,λi h st=>let ⟨o,f,hc,_⟩:=st.1;⟨o,_,f,hc,by decide⟩⟩ ⟨_,Z⟩ Z ?_ λb hb=>?_
  ·have W:=Qv (N:=g.N) (aC:=g.prog) (w:=g.w) (A:=A) s.heap.objs.size a (jB d) nx ws;rw[j] at W;refine⟨W.sub,λi h h' st c=>⟨(W.frame i h h' ⟨st.1,kg st.2.1,st.2.2⟩ c).1,c a (by simp) _ st.2.1,(W.frame i h h' ⟨st.1,kg st.2.1,st.2.2⟩ c).2.2⟩,λi s' à E hi st hq=>?_,λs' à E st hq=>W.done s' à E ⟨st.1,kg st.2.1,st.2.2⟩ hq,λi s' à E st hq=>W.self i s' à E ⟨st.1,kg st.2.1,st.2.2⟩ hq⟩;refine W.item i s' à E hi ⟨st.1,kg st.2.1,st.2.2⟩ λv h' tk hp é c=>hq v h' tk ?_ ⟨é.1,c a _ (by simp;exact jB d) st.2.1,é.2.2⟩ c;have kr:=hi;refine ak (r.get (ee kr)) λu hv t=>?_;have:O v=O u:=by rw[<-hp,<-hv];simp
   clear hv;injection this with this;subst this
   exact ay _ (ee kr) t
  ·exact cR (st.1) λo f m hd=>ew o _ f hd
  ·rcases a8.mp hb with rfl | hb
   ·exact .inl Z
   ·clear nl p d;rcases a8.mp hb with rfl | hb
    ·exact .inr (.inr λi h st=>⟨_,_,_,st.2.1,Z⟩)
    ·exact .inr (.inl hb)
  ·exact cG ⟨_,hJ _ Z,Z,Z⟩ (c1 _ p) ((L.hd.nil).fp (.refl ..) λb hb o e=>c1 _ e)
  ·rcases a8.mp hb with rfl | hb
   ·exact au (.inl Z) (bg L.rl (aF _))
   ·clear d;rcases a8.mp hb with rfl | hb
    ·exact au (.inr ⟨_,p⟩) nl
    ·exact au (.inr (k _ hb).1) ((k _ hb).2)
end
def ba.step(a:ba N h i j H s k)(b:bK y N h s k m p g)(n:∀q,y q->i.heap.get? q=Q):ba N h i j m p g:=
 ((a.more (L:=y) (λc q=>q.elim) (λq o x e=>by rw[n q x] at e;injection e)).trans b).drop n
def Sq (e:Fi)(h h':d1):Prop:=∀a o g n,¬cm e a->h.get? a=O o->o.data=.seq g n->h'.get? a=O o
mutual
theorem VR.eN{N:cz}{h j:d1}{g:Fi}(q:Sq g h j):∀{x:AV}{v:cc},VR N h g x v->VR N j g x v
 | .none,v,r=>by delta VR at r ⊢;exact r
 | .bool _,v,r=>by delta VR at r ⊢;exact r
 | .int _,v,r=>by delta VR at r ⊢;dsimp only at r ⊢;exact r
 | .str _,v,r=>by delta VR at r ⊢;dsimp only at r ⊢;exact r
 | .tup l,v,r=>by
  refine eP r λa i e n d b=>?_;clear r;refine ak d λk t z=>?_;clear d;exact hG a i e n ⟨k,q _ _ _ _ n t Z,z⟩ (aL.eN q b)
 | .lst l,v,r=>by
  refine eP r λa i e n c b=>?_;clear r;refine ak c λk t z=>?_;clear c;exact hG a i e n ⟨k,q _ _ _ _ n t Z,z⟩ (aL.eN q b)
 | .obj n,v,r=>by delta VR at r ⊢;dsimp only at r ⊢;exact r
 | .ny,v,r=>by delta VR at r ⊢;dsimp only at r ⊢;exact r
 | .exc w f p,v,r=>by delta VR at r ⊢;dsimp only at r ⊢;exact r
theorem aL.eN{N:cz}{h i:d1}{g:Fi}(q:Sq g h i):∀{x:J AV}{v:J cc},aL N h g x v->aL N i g x v
 | [],v,r=>by delta aL at r ⊢;exact r
 | x::j,v,r=>by
  refine bV r λv t e U V=>?_;clear r;exact bx v t e (VR.eN q U) (aL.eN q V)
end
theorem FR.eN(q:Sq g h j):∀{Y:Loc}{i:J qc},FR N h g Y i->FR N j g Y i:=λ{Y}=>by
 induction Y with
 | nil=>
  intro b;intro r;exact r
 | cons s Y m=>
  intro b;intro a;exact vQ a λp k w r e U V=>s9 p k w r e (U.eN q) (m V)
def Rl.Je(é:Rl N z h x H)(k:∀a o,cm x a->h.get? a=O o->y.get? a=O o)(q:Sq x h y):Rl N z y x H:=
 ⟨é.len,λi p hi=>by
  refine ak (é.live i p hi) λo b r=>ay o b ?_;clear b;cases o with
  | list l=>
   obtain⟨e,L,⟨n,hp,m⟩,s⟩:=r;exact⟨e,L,⟨n,k _ _ ⟨i,p,hi,.inl Z⟩ hp,m⟩,s.eN q⟩
  | inst c Y=>
   exact fg r λC W n e1 j g d f=>iw C W n e1 j (k _ _ ⟨i,p,hi,.inl Z⟩ g) (k _ _ ⟨i,p,hi,.inr Z⟩ d) (f.eN q)
  | dead=>exact r.elim,é.dead,é.oz,é.dj⟩
def bK.jY(a:bK é N hT ag ai H L s)(n:ag.heap.get? W=Q)(g:hT.get? W=Q)(nl:¬cm s W)(c:∀b o,b≠W->L.heap.get? b=O o->h'.get? b=O o)(ns:∀o,L.heap.get? W=O o->∀ws n,o.data≠.seq ws n):bK é N hT ag ai H {L with heap:=h',toks:=tk} s/\Sq s L.heap h':=by
 haveI q:Sq s L.heap h':=λb o ws k l e d=>by
  refine c b o (λx=>?_) e;clear c;clear n g nl;subst x;exact ns o e ws k d
 have ne:∀b o,ag.heap.get? b=O o->b≠W:=λb o e x=>by rw[x,n] at e;injection e
 clear ns;refine d9 (a.eq) λp j m=>?_;subst m;refine au ⟨⟨h',tk,Z⟩,⟨λb o l x e=>?_,λb o e=>?_,a.aT.dW,λb o es n x l e d=>?_⟩,a.bw,a.rl.Je (λb o l e=>c b o (λx=>nl (x▸l)) e) q,λb o e=>?_,λb o l x z e=>?_⟩ q
 ·exact ak (a.aT.keep b o l x e) λy f h=>ay y (c b y (ne b o e) f) h
 ·exact aH (a.aT.lQ b o e) λy f=>bq y (c b y (ne b o e) f)
 ·exact dp (a.aT.kU b o es n x l e d) λy e8 n' f i=>ed y e8 n' (c b y (ne b o e) f) i
 ·exact c b o (λx=>by rw[x,g] at e;injection e) (a.st b o e)
 ·exact c b o (ne b o e) (a.ex b o l x z e)
theorem ba.jY(a:ba N i j k H g e)(n:j.heap.get? h=Q)(c:i.get? h=Q)(nl:¬cm e h)(d:∀b o,b≠h->g.heap.get? b=O o->h'.get? b=O o)(m:∀o,g.heap.get? h=O o->∀p n,o.data≠.seq p n):ba N i j k H {g with heap:=h',toks:=tk} e/\Sq e g.heap h':=bK.jY a n c nl d m
def Out.v8(o:Out g j F i s e ((Internal.opt x H).bind f) h E):∃a,x=O a/\Out g j F i s e (f a H) h E:=by
 cases x with| none=>exact o.elim| some a=>exact ay a Z o
def gG (C:CS)(k:S)(e:ME)(x:a7)(cond:J ME)(ρ:Loc)(v:AV)(H:Hp):R (aI AV):=
 (tb (cX GG C k cond ((x,v)::ρ) H)).bind λb H=>if b then(ev GG C k e ((x,v)::ρ) H).bind λr H=>.ok (O r) H else .ok Q H
def Bt{cond:J ME}:ev GG C (k+1) (.comp fz elt x iter cond) e H =
  (ev GG C (k+1) iter e H).bind λs H=>(opt (frozen s) H).bind λl H=>(compLoop (gG C k elt x cond e) H.length l (H++[.list []])).bind λa g=>gP fz H.length g:=by
 exact cx (R.bind _) (funext λs=>funext λH=>cx (R.bind _) (funext λl=>funext λH=>cx (λf=>(compLoop f _ _ _).bind _) (funext λv=>funext λH=>Ko (cX GG C k cond ((x,v)::e) H) λb H=>if b then(ev GG C k elt ((x,v)::e) H).bind λr H=>.ok (O r) H else .ok Q H)))
section
variable{fa:a7->aI eu}{C:CS}{d:S}
def Lv.fr{a:eu}(L:Lv g A s h H)(f:s.heap.get? a=Q):g.hT.get? a=Q/\¬g.N.Z a:=
 ⟨sm.mpr λo e=>(nomatch f.symm.trans (L.st _ o e)),λz=>(L.zz _ z).elim λo e=>nomatch f.symm.trans e⟩
section
variable{g:Gr}{A:hX}{s s' W:d2}{ai φ' Jf:Fi}{St:S->d1->Prop}{fp:J eu}{I Cf D:eu}{n₁ len j:S}{Pv:S->cc->Prop}{H' H2:Hp}{m m':cD->aI cc}{P:d1->Prop}{h':d1}{tk:S}
structure CK (g:Gr)(A:hX)(s:d2)(ai:Fi)(St:S->d1->Prop)(fp:J eu)(I Cf:eu)(len:S)(Pv:S->cc->Prop):Prop where
 K:Wk g.prog g.w A g.N I fp len Pv St
 qD:∀b∈fp,(b=I\/∃o,s.heap.get? b=O o)/\¬cm ai b
 fI:s.heap.get? I=Q
 fC:s.heap.get? Cf=Q
 tI:g.hT.get? I=Q/\¬g.N.Z I
 tC:g.hT.get? Cf=Q/\¬g.N.Z Cf
 ne:Cf≠I
structure jb (g:Gr)(s:d2)(ai:Fi)(I Cf D:eu)(n₁:S)(P:d1->Prop)(s':d2)(φ':Fi)(H':Hp)(m:cD->aI cc):Prop where
 a:ba g.N g.hT s ai H' s' φ'
 p:P s'.heap
 ns:s'.heap.Ns Cf m
 vr:VR g.N s'.heap φ' (.obj n₁) (.ref D)
 nI:¬cm φ' I
 nC:¬cm φ' Cf
def jb.step(k:CK g A s ai St fp I Cf len Pv)(i:jb g s ai I Cf D n₁ (St j) s' φ' H' m)(L:Lv g A s' φ' H')(b:ba g.N g.hT s' φ' H2 W Jf):jb g s ai I Cf D n₁ (St j) W Jf H2 m:=
 ⟨i.a.trans b,k.K.kept L b (λc c=>⟨id,id⟩) ⟨i.nI,id,k.tI.2⟩ (λx d=>(k.qD x d).1.elim (λe=>e▸i.nI) λ⟨_,e⟩=>i.a.bw.gZ (k.qD x d).2 e) i.p,
  dp i.ns λo h f e hd=>ed o h f (b.ex _ _ i.nC id k.tC.2 e) hd,i.vr.mono b.aT b.bw,bG (k.K.at_ _ _ i.p) λc c e c=>b.bw.gZ i.nI e,dp i.ns λc c c e c=>b.bw.gZ i.nC e⟩
def jb.Vm(k:CK g A s ai St fp I Cf len Pv)(i:jb g s ai I Cf D n₁ (St j) s' φ' H' m)(c:∀b o,b∉[I]->s'.heap.get? b=O o->h'.get? b=O o)(p:P h'):jb g s ai I Cf D n₁ P {s' with heap:=h',toks:=tk} φ' H' m:=
 aq (i.a.jY (tk:=tk) k.fI k.tI.1 i.nI (λb o ne e=>c b o (mt gg.mp ne) e) λo e y n q=>bG (k.K.at_ _ _ i.p) λl vs d f=>nomatch ((cx p6.data (gf (e.symm.trans d))).symm.trans q).symm.trans f) λa q=>
  ⟨a,p,dp i.ns λo x h e hd=>ed o x h (c _ _ (mt gg.mp k.ne) e) hd,i.vr.eN q,i.nI,i.nC⟩
def jb.goC(k:CK g A s ai St fp I Cf len Pv)(i:jb g s ai I Cf D n₁ (St j) s' φ' H' m)(ns:h'.Ns Cf m')(x:oa Cf s'.heap h'):jb g s ai I Cf D n₁ (St j) {s' with heap:=h',toks:=tk} φ' H' m':=
 aq (i.a.jY (tk:=tk) k.fC k.tC.1 i.nC (λb o ne e=>(x.2 b ne).trans e) λo e L n q=>dp i.ns λh f f d c=>nomatch ((cx p6.data (gf (e.symm.trans d))).symm.trans q).symm.trans c.1) λa q=>
  ⟨a,k.K.W.frame _ _ _ i.p λb hb o e=>(x.2 b λz=>(k.qD b hb).1.elim (λy=>k.ne (z.symm.trans y)) λ⟨_,y⟩=>nomatch k.fC.symm.trans ((cx _ z).symm.trans y)).trans e,ns,i.vr.eN q,i.nI,i.nC⟩
end
def Bu{x:R g}(h:x.bind f=.ok b e):∃a H,x=.ok a H/\f a H=.ok b e:=by
 cases x with| ok a H=>exact ew a H Z h| bH _ _ _=>injection h| bad=>injection h
def NL(e:H[n]?=O (.list l))(h:l.length<aZ):eg H (.obj n) "append" [v]=O (.none,H.set n (.list (l++[v]))):=by
 show(match H[n]? with | some (.list l)=>_ | _=>Q)=_;exact ah e (dE h)
def NM{o:aI AO}(a:w≠.bad)(q:(match o with | some (AO.list r)=>if r.length<aZ then compLoop f n l (J.set H n (AO.list (r++[v]))) else R.bad | _=>R.bad)=w):∃r,o=O (.list r)/\r.length<aZ/\compLoop f n l (H.set n (.list (r++[v])))=w:=by
 cases o with
 | none=>exact(a q.symm).elim
 | some o=>
  cases o with| list r=>exact t9 q (λc q=>⟨r,Z,c,q⟩) λb q=>(a q.symm).elim| inst _ _=>exact(a q.symm).elim| dead=>exact(a q.symm).elim
def AM:∀{l:J AV}{H:Hp},compLoop f n l H≠.bH w p q:=λ{l}=>by
 induction l with
 | nil=>intro H q;injection q
 | cons y l e=>
  intro H q;rw[ud] at q;generalize f y H=b at q;cases b with
  | bH _ _ _=>injection q
  | bad=>injection q
  | ok b H=>
   cases b with
   | none=>exact e q
   | some v=>exact cR (NM (λh=>by injection h) q) λa a a q=>e q
def cl1(q:compLoop f n (y::l) H=.ok () i):∃o g,f y H=.ok o g/\(o=Q->compLoop f n l g=.ok () i)/\∀v,o=O v->∃j,eg g (.obj n) "append" [v]=O (.none,j)/\compLoop f n l j=.ok () i:=by
 rw[ud] at q;generalize f y H=b at q ⊢;cases b with
 | bH _ _ _=>injection q
 | bad=>injection q
 | ok b H=>
  refine⟨b,H,Z,λe=>by rw[e] at q;exact q,λv e=>?_⟩;rw[e] at q;exact cR (NM (λh=>by injection h) q) λr a c q=>ay _ (NL a c) q
def KA{cond:J ME}(h:compLoop (gG C k s x cond L) n (y::r) H=.ok () Hf):∃b W,tb (cX GG C k cond ((x,y)::L) H)=.ok b W/\(b=aN->compLoop (gG C k s x cond L) n r W=.ok () Hf)/\
   (b=X->∃z d a,ev GG C k s ((x,y)::L) W=.ok z d/\eg d (.obj n) "append" [z]=O (.none,a)/\compLoop (gG C k s x cond L) n r a=.ok () Hf):=by
 refine bV (cl1 h) λo W q p j=>bG (Bu q) λb H1 m c=>⟨b,H1,m,λe=>?_,λe=>?_⟩
 ·rw[e] at c;injection c with a1 a2
  exact a2▸p a1.symm
 ·rw[e] at c;refine bG (Bu c) λz d g i=>?_;injection i with a1 a2
  exact ak (j z a1.symm) λa f l=>⟨z,d,a,g,a2▸f,l⟩
def CT{i:nz}{w:oM}{A:hX}{R:Result->d2->Prop}{q j iter:Expr}{y:J Expr}{p:JE}{W:Pos}{it z:cc}{k:Env}(I:S->d2->Prop)(L:∀n s (E:cc->d2->Prop) (é:d2->Prop),I n s->(∀m s,m<n->I m s->é s)->er (ej i w) A (M9 it) (λr ag=>match r with
   | none=>R (.ok .next) ag
   | some v=>er (ej i w) A (assign j k v) (λd aV=>
     er (ej i w) A (forIn y X λc r=>if r=X then do let ok <-isTrue c k (eval c k);pure (p0 ok) else pure (p0 r)) (λok eB=>
      if ok=X then er (ej i w) A (eval q k) (λx g=>er (ej i w) A (call (.builtin "list.append") [z,x]) (λd e=>é e) E g) E eB else é eB) E aV) E ag) E s){n:S}{s:d2}(h:I n s)(f:∀v,Qu j it v=pure ():=by intro d;rfl):B2 (ej i w) A (.compLoop (.ListComp q [⟨j,iter,y,0⟩] p W) 0 it z k) R s:=
 codeAny_compLoop_tests I (λn s h=>L n s _ _ h λm d a b=>⟨m,a,b⟩) n h f
def Ep{é:ME}{x:a7}{cond:J ME}(he:ES fa C d é)(hc:∀m∈cond,BS fa C d m){g:Gr}{k:S}{A:hX}{ag ñ:d2}{ai å:Fi}{è P r:Hp}{ρ:Loc}{W:Env}{e i:Expr}{à:J Expr}{sc:JE}{pos px:Pos}{R:Result->d2->Prop}{St:S->d1->Prop}{fp:J eu}{I Cf D:eu}{p:S}{l:J AV}{N:cD->aI cc}(ü:qB W.scope.names sc (aD x))(m3:cy (ip W.scope.names sc.names) é e=X)(m4:dH (ip W.scope.names sc.names) cond à=X)(c:Ctx g fa d A ag ai è W ρ)(K:CK g A ag ai St fp I Cf l.length (Eo g ag ai l))(i0:jb g ag ai I Cf D p (St 0) ñ å P N)(hq:compLoop (gG C k é x cond ρ) p l P=.ok () r)(ù:∀s' L m,jb g ag ai I Cf D p (λç=>w1) s' L r m->R (.ok .next) s'):B2 (ej g.prog g.w) A (.compLoop (.ListComp e [⟨.Name (aD x) px,i,à,0⟩] sc pos) 0 (.ref I) (.ref D) (SP sc (eh W.cells sc.names []) Cf W)) R ñ:=by
 refine CT (λn s'=>∃j L H' m,j+n=l.length/\jb g ag ai I Cf D p (St j) s' L H' m/\compLoop (gG C k é x cond ρ) p (l.drop j) H'=.ok () r)
  (λn s' EE æ hI hZ=>?_) (n:=l.length) ⟨0,_,_,_,zQ _,i0,hq⟩
 refine cps λG ö=>vQ hI λj L H' m î iv F=>(S.lt_or_ge j l.length).elim (λh=>?_) λh=>?_
 ·have nx:∀s' L H' m,jb g ag ai I Cf D p (St (j+1)) s' L H' m->compLoop (gG C k é x cond ρ) p (l.drop (j+1)) H'=.ok () r->æ s':=
   λs' L H' m i q=>hZ (n - 1) s' (MM î h) ⟨j+1,L,H',m,MN î h,i,q⟩
  refine ö (K.K.W.item j s' _ _ h iv.p λv' h' tk hp â H=>?_);refine ak hp λy hy vy=>?_;haveI ø:=iv.Vm (tk:=tk) K H â;refine Ez (QN (s:={s' with heap:=h',toks:=tk}) (by show(R4 sc W).names.lookup _=_;refine ah (iu sc c.n.hk) ?_;simp only[qA,ü.lx];rfl) ø.ns (λhB ä sb=>?_) (by show(sc.kind==.class||(sc.kind==.module&&_))=aN;refine ah ü.hk ?_;rfl));have o:=ø.goC (tk:=tk+1) K ä sb;haveI v:=c.a o.a;refine bV (KA ((cx (compLoop _ p · H') ((Oa h).trans (cx (· ::_) (fb.mp hy).2))).symm.trans F)) λb H2 q1 qf qt=>?_;have û:Ctx g fa d A {s' with heap:=hB,toks:=tk+1} L H' (SP sc (eh W.cells sc.names []) Cf W) ((x,y)::ρ):=⟨v.G,v.T,v.R,v.L,v.n.comp ü ä (dE Z) (vy.mono o.a.aT o.a.bw) o.nC K.tC.1⟩;refine AL (k:=k) hc ((iu sc c.n.hk).symm▸m4) û (ah q1 ?_);intro b' s2 Jf f hb;have E:=o.step K û.L f;have t:=û.a f;cases b' with
  | false=>exact nx _ _ _ _ E (qf hb)
  | true=>
   refine gA (qt hb) λz H3 H4 q2 q3 q4=>he g k A s2 Jf H2 _ _ e _ _ ((iu sc c.n.hk).symm▸m3) t (ah q2 ?_);intro u s3 ê f vz;exact(uC (t.a f).L (E.step K t.L f).vr (.cons vz .nil) q3 λç s4 ô ç=>nx _ _ _ _ ((E.step K t.L f).step K (t.a f).L ô) q4).2
 ·have e:=S.le_antisymm (î▸sX j n) h;haveI e':H'=r:=by rw[e,SR] at F;injection F
  exact ö (K.K.W.done s' _ _ (e▸iv.p) λh' tk H=>ù _ L m (e'▸iv.Vm K H fo))
def bind_eq{x:R e}(h:x=.ok a H):x.bind f=f a H:=h▸Z
def CV(L:Lv g A s h H)(j:VR g.N s.heap h (.obj n) (.ref D))(o:Out g Nx F y k m (gP fz n H) x E):∃a i e,gP fz n H=.ok a i/\ba g.N g.hT s h i s e/\VR g.N s.heap e a (.ref D):=by
 cases fz with
 | false=>exact⟨_,H,h,Z,.refl L.rl L.st,j⟩
 | true=>
  replace o:Out g Nx F y k m (cW (nA H (.obj n))) x E:=o;show ∃a i e,cW (nA H (.obj n))=_/\_;cases q:nA H (.obj n) with| none=>exact(q▸o).elim| some p=>exact ak (xg L j q) λe a b=>⟨p.1,p.2,e,Z,a,b⟩
theorem xj{cond:J ME}(hi:ES fa C d iter)(he:ES fa C d à)(hc:∀m∈cond,BS fa C d m){F:cc->eu->Result->d2->Prop}(m1:cy é.scope.names iter i=X)(ø:qB é.scope.names sc (aD x))(m2:dq (ip é.scope.names sc.names) x t=X)(m3:cy (ip é.scope.names sc.names) à e=X)(m4:dH (ip é.scope.names sc.names) cond ô=X)(c:Ctx g fa d A s φ H é ρ)(o:Out g Nx (dr é) (VV g) s φ (ev GG C (k+1) (.comp fz à x iter cond) ρ H) (λn n=>w1) E)(D:∀ù Cf s' m L ai è â H' a,ev GG C (k+1) (.comp fz à x iter cond) ρ H=.ok a H'->s'.heap.Ns Cf m->ba g.N g.hT s φ è L ai->L.heap.get? Cf=Q->¬cm â Cf->ba g.N g.hT L ai H' s' â->VR g.N s'.heap â a ù->F ù Cf (.ok .next) s'):er (ej g.prog g.w) A (eval i é) (λï L=>er (ej g.prog g.w) A (UE ï) (λit aV=>er (ej g.prog g.w) A (newList []) (λù eB=>
   er (ej g.prog g.w) A (newFunctionEnv sc é.globals (eh é.cells sc.names []) [] é.qual Q .none (O é)) (λmW tx=>
    B2 (ej g.prog g.w) A (.compStart (.ListComp e [⟨t,i,ô,0⟩] sc î) 0 it ù {mW with scope:=R4 sc é}) (F ù mW.locals) tx) E eB) E aV) E L) E s:=by
 refine hi g (k+1) A s φ H ρ é i _ E m1 c (Out.bind (W:=VV g) (Bt▸o) λï è w L ai Er af v ä=>?_);refine nt t (gQ m2) λpx û n=>?_;haveI j:=c.a af;refine ak (ä.v8) λl á ä=>?_;clear o;refine mX j.L v á λSt fp r K Vn pM Es qD=>?_;have fresh:∀a,L.heap.objs.size<=a->L.heap.get? a=Q:=λa h=>j3 h;haveI ë:ba g.N g.hT L ai è {L with heap:=L.heap.push r} ai:=.keeps j.L.rl j.L.st _ (λn n q=>c1 _ q:∀a o,L.heap.get? a=O o->(L.heap.push r).get? a=O o);haveI cI:=j.a ë;refine DT ?_ (by size_fits);refine aq (ba.newList (l:=[]) (ws:=[]) cI.L .nil (la _)) λG vD=>?_;haveI í:((L.heap.push r).push {cls:=.type "list",data:=.seq ([]:J cc).toArray}).objs.size=L.heap.objs.size+2:=by rw[l8,l8]
 refine wpAny_newFunctionEnv ø.I9 (λy hy=>nomatch hy) (λbj ns sb=>?_) ø.hk;generalize ñ:((L.heap.push r).push {cls:=.type "list",data:=.seq ([]:J cc).toArray}).objs.size=Cf at í ns sb ⊢;have kp:∀a o,((L.heap.push r).push {cls:=.type "list",data:=.seq ([]:J cc).toArray}).get? a=O o->bj.get? a=O o:=λa o q=>
  sb.extBut a o (jB (ñ▸hM q)) (c1 _ q)
 haveI ç:=cI.a G;haveI ö:=ba.keeps ç.L.rl ç.L.st (L.toks+([]:J (cD×cc)).length) kp;have ne:L.heap.objs.size<Cf:=í▸S.lt_add_of_pos_right (by decide);haveI fI:=fresh _ (gk _);have fC:=fresh Cf (pS ne);haveI ü:CK g A L ai St fp L.heap.objs.size Cf l.length (Eo g L ai l):=⟨K,qD,fI,fC,j.L.fr fI,j.L.fr fC,(jB ne).symm⟩;haveI å:jb g L ai L.heap.objs.size Cf (L.heap.push r).objs.size è.length (St 0) {L with heap:=bj,toks:=L.toks+([]:J (cD×cc)).length} (ai++[O ((L.heap.push r).objs.size,(L.heap.push r).objs.size)]) (è++[.list []]) λn=>Q:=
  ⟨ë.trans (G.trans ö),K.W.frame 0 _ _ Es λb n o e=>kp _ _ (c1 _ e),ns,vD.mono ö.aT ö.bw,G.bw.gZ (bg j.L.rl fI) (hJ _ pM),bg ç.L.rl (j3 (sY ñ))⟩
 have ec:=λu I hq=>(Bt (fz:=fz) (elt:=à) (x:=x) (cond:=cond)).trans ((bind_eq Er).trans ((bind_eq (cx (opt · è) á)).trans (bind_eq (a:=u) (H:=I) hq)));cases hq:compLoop (gG C k à x cond ρ) è.length l (è++[.list []]) with
 | bH w f p=>exact(AM hq).elim
 | bad=>exact(ah (P:=λz=>Out g Nx (dr é) (VV g) L ai (R.bind z _) (λn n=>w1) E) hq.symm ä:Out _ _ _ _ _ _ R.bad _ _).elim
 | ok u I=>
  haveI ê:=Ep (fa:=fa) (d:=d) (pos:=î) (i:=i) (px:=px) (R:=F (.ref (L.heap.push r).objs.size) Cf) he hc ø m3 m4 j ü å hq λs' â m iv=>
   gA (CV (fz:=fz) (j.a iv.a).L iv.vr (ah (P:=λz=>Out g Nx (dr é) (VV g) L ai (R.bind z _) (λn n=>w1) E) hq.symm ä)) λa H' CW e æ b2=>dp iv.ns λn n n ho n=>D _ _ s' m L ai è CW H' a ((ec u I hq).trans e) iv.ns af fC (æ.bw.gZ iv.nC ho) (iv.a.trans æ) b2
  exact codeAny_compStart_list ê (K.W.self 0 _ _ _ å.p ê)
def uJ(n:En g e s j k)(p:qB e.scope.names i x):closureFor i e=pure (eh e.cells i.names []):=
 CQ λy a=>by
  exact dp (n.cl y (p.free _ a Z)) λc o m h b=>bq c h
def v9(h:kq i=X)(e:Env)(x:cc):foldedSetIterable i e x=pure x:=by
 cases i<;>first | exact QJ _ | injection h
def KC{fz:aS}{cond:J ME}(hi:ES fa C d iter)(I:ES fa C d W)(hc:∀m∈cond,BS fa C d m):ES fa C d (.comp fz W x iter cond):=by
 intro g k A s φ H ρ é w ö E m c o;cases k with
 | zero=>simp only[pZ] at o;exact o.elim
 | succ k=>
  refine bC w (tg m) λe L sc à m=>?_;refine bh L (ez m) λK f=>?_;obtain⟨t,i,ù,as⟩:=K;refine aq (b2 f) λf v=>kF (b5 f) λû l ô G â=>?_;clear f;clear m f;obtain rfl:as=0:=e5 û;haveI ü:=qC ô;refine PF (use:=Q) Z (v9 (fY l) é) (uJ c.n ü) ü.hk (λy u q=>ü.loc y u q) (xj hi I hc l ü G â v c (o.mono λr r r=>fo) λê Cf s' m ag ai è î H' a z j p h nl D vr=>⟨m,j,λh' sb=>?_⟩);simp only[z] at o;refine aq (D.jY (tk:=s'.toks) (h':=h') h (by
   cases q:g.hT.get? Cf with
   | none=>rfl
   | some o=>have:=(c.a p).L.st _ _ q;haveI this:=h▸this;injection this) nl (λb o ne e=>(sb.2 b ne).trans e) (λo e ws n d=>by
    obtain⟨ä,e8,P,F,hd,_⟩:=j;rw[F] at e;injection e with e;subst e;injection (hd▸d))) λN q=>?_
  exact o.now (p.trans N) (vr.eN q)
end
def En.jY(n:En g L s W ρ)(U:L.locals≠Cf)(V:∀y c,L.kindOf y=O .cell->L.cells.lookup y=O c->c≠Cf)(d:∀b o,b≠Cf->s.heap.get? b=O o->h'.get? b=O o)(q:Sq W s.heap h'):En g L {s with heap:=h',toks:=tk} W ρ:=by
 refine⟨n.hk,n.gl,n.bt,?_,n.nl,λx k=>?_⟩
 ·refine ak (n.ns) λm p hv=>dp p λo es r e hd=>ay m ⟨o,es,r,d _ _ U e,hd⟩ (λx v j h hk=>?_);exact ak (hv x v j h hk) λw a b=>ay w a (b.eN q)
 ·refine fg (n.cl x k) λc o dZ f l z u a5=>iw c o dZ f (d _ _ (V x c k f) l) z u (λy v e i=>?_);exact ak (a5 y v e i) λw t b2=>ay w t (b2.eN q)
def d6{e:a7->aI eu}{C:CS}{d:S}{m:ME}(h:ES e C d m)(hv:yU m=X):BS e C d m:=⟨h,Gq h hv⟩
set_option tactic.hygienic true in
def xk{k:a7->aI eu}{C:CS}{d:S}(g:jP k C d):∀m:ME,BS k C d m:=by
 intro m
 induction m using ME.rec (motive_2:=λq=>∀m∈q,BS k C d m)
 case nil x hm=>cases hm
 case cons U V x hm=>
  rcases a8.mp hm with rfl | hm
  ·exact U
  ·exact V x hm
 case lit v=>exact d6 uD Z
 case loc x=>exact d6 Nt Z
 case glob x=>exact d6 Kp Z
 case attr a f h=>exact d6 (Kr h.1) Z
 case neg a h=>exact d6 (Nv h.1) Z
 case bin op a b U V=>exact d6 (Nw U.1 V.1) Z
 case cmp a op b U V=>exact Ny U.1 V.1
 case ef a op b z e U V h3=>exact Kt U.1 V.1 h3.1
 case fj a h=>exact Gs h.1
 case not a h=>exact Nz h
 case and p h=>exact ND h
 case or p h=>exact Rb h
 case ite t a b U V h3=>exact NA U V h3
 case tup p h=>exact d6 (NF h) Z
 case list s p h=>exact d6 (Kv h) Z
 case kG L vs i U V=>exact d6 (Kz U V.1) Z
 case sub a i U V=>exact d6 (NG U.1 V.1) Z
 case ik a h=>exact d6 (Gx h.1) Z
 case hR a b U V=>exact d6 (Ky U.1 V.1) Z
 case call f j h=>exact d6 (Kw g h) Z
 case new c f j h=>exact d6 (NH g h) Z
 case ix o c m f j U V=>exact d6 (Kx g U.1 V) Z
 case il c m f j h=>exact d6 (Gu g h) Z
 case aK o m j U V=>exact d6 (Gw U.1 V) Z
 case bi f j h=>exact d6 (Rj h) Z
 case comp s y x iter cond U V h3=>exact d6 (KC V.1 U.1 h3) Z
 case freeze a h=>exact d6 (Em h.1) Z
structure SF (g:Gr)(env:Env):Prop where
 fr:env.frame=O env.locals
 ck:∀n c,env.cells.lookup n=O c->env.kindOf n=O .cell
 ap:∀n n' c,env.cells.lookup n=O c->env.cells.lookup n'=O c->n=n'
 nl:∀n c,env.cells.lookup n=O c->c≠env.locals/\g.hT.get? c=Q
 nx:∀y,g.N.exc=O y->(y.e≠env.locals/\∀n,env.cells.lookup n≠O y.e)/\(y.dx≠env.locals/\∀n,env.cells.lookup n≠O y.dx)
noncomputable def Xf (e:Env)(a:eu):Prop:=a=e.locals\/∃n,e.cells.lookup n=O a
def SF.Jg(k:SF g j):∀y,g.N.exc=O y->¬Xf j y.e/\¬Xf j y.dx:=λy i=>by
 exact cF (k.nx y i) λf c d=>aq f λa b=>au (λh=>h.elim a λ⟨n,e⟩=>b n e) (λh=>h.elim c λ⟨n,e⟩=>d n e)
theorem gR(x:a7)(v:AV)(y:a7):∀g:Loc,(put x v g).lookup y=if y=x then O v else g.lookup y:=λg=>by
 induction g with
 | nil=>
  delta put;by_cases e:y=x
  ·subst e;simp
  ·have:(y==x)=aN:=by simp[e]
   simp[eC,this,e]
 | cons h g a=>
  obtain⟨z,w⟩:=h;dsimp only[uc,mw];haveI a:=a;by_cases q:z=x
  ·rw[dE q];clear a;simp only[eC];subst q;by_cases e:y=z
   ·clear a;subst e;simp
   ·have:(y==z)=aN:=by simp[e]
    simp[this,e]
  ·simp only[dm q,eC,a];by_cases e:y=z
   ·subst e;simp[q]
   ·have:(y==z)=aN:=by simp[e]
    simp[this]
section
variable{fa:a7->aI eu}{d:S}{g:Gr}{A:hX}{s:d2}{φ:Fi}{H:Hp}{ρ:Loc}{env:Env}{E:cc->d2->Prop}
def En.dW(n:En g env s φ ρ)(L:SF g env):∀a o,Xf env a->s.heap.get? a=O o->∀i k,o.data≠.seq i k:=by
 intro a o x e i k q;rcases x with rfl | ⟨y,d⟩
 ·refine ak (n.ns) λm f b=>gA f λj p h U V b=>?_;rw[U] at e;injection e with e;subst e;rw[V] at q;injection q
 ·refine jH (n.cl y (L.ck y a d)) λc j z U V h3 b=>?_;rw[d] at U;injection U with U;subst U
  rw[V] at e;injection e with e;subst e;rw[h3] at q;injection q
def En.congr(n:En g env s φ ρ)(h:∀y,j.lookup y=ρ.lookup y):En g env s φ j:=
 ⟨n.hk,n.gl,n.bt,ak (n.ns) λm a b=>ay m a (λx v q=>b x v (h x▸q)),n.nl,λx k=>fg (n.cl x k) λc o p f d i e a5=>iw c o p f d i e (λy v q r=>a5 y v q (h y▸r))⟩
theorem Ctx.congr(c:Ctx g fa d A s φ H env ρ)(h:∀y,e.lookup y=ρ.lookup y):Ctx g fa d A s φ H env e:=⟨c.G,c.T,c.R,c.L,c.n.congr h⟩
def gi(c:Ctx g fa d A s φ H env ρ)(ê:SF g env)(L:env.kindOf (aD x)=O .local\/env.kindOf (aD x)=O .cell)(r:VR g.N s.heap φ v w)(h:∀s',bK (Xf env) g.N g.hT s φ H s' φ->Ctx g fa d A s' φ H env (put x v ρ)->â () s'):er (ej g.prog g.w) A (TO env (aD x) w) â E s:=by
 refine ak (c.n.ns) λm K hv=>eE L (λL=>?_) λL=>?_;haveI P:(env.scope.kind==.class||(env.scope.kind==.module&&env.locals != env.globals))=aN:=by refine ah c.n.hk ?_;rfl
 ·refine QN L K (λh' C sb=>?_) P;haveI F:bK (·=env.locals) g.N g.hT s φ H {s with heap:=h',toks:=s.toks+1} φ:=by
   exact gA C λo' e8 W p é D=>.one c.L sb c.n.nl.1 c.n.nl.2 (λo e ws n q=>c.n.dW ê _ o (.inl Z) e ws n q) ⟨_,p⟩ λo es n D D=>⟨o',e8,W,p,é⟩
  have a:=F.more (L:=Xf env) (λD q=>.inl q) (c.n.dW ê);refine h _ a ⟨c.G,c.T,c.R,c.L.pI a ê.Jg,⟨c.n.hk,c.n.gl,c.n.bt,⟨_,C,λy u b hd j=>?_⟩,c.n.nl,λy k=>?_⟩⟩
  ·rw[gR] at b;by_cases e:y=x
   ·clear h;clear C;clear L;subst e;rw[dE Z] at b;injection b with b;subst b
    exact ay w (by simp) (r.mono a.aT a.bw)
   ·rw[dm e] at b;refine ak (hv y u b hd j) λl U V=>ay l ?_ (V.mono a.aT a.bw);have:¬aD y=aD x:=λq=>e (ft q);exact(dm this).trans (U)
  ·refine fg (c.n.cl y k) λi o dZ U V h3 h4 h5=>iw i o dZ U ((sb.2 i (ê.nl y i U).1).trans V) h3 h4 (λz u e f=>?_);rw[gR] at f;haveI ne:¬z=x:=λq=>by
    clear f U;clear h C;subst q;clear h5;subst e;rw[L] at k;injection k with k;injection k
   rw[dm ne] at f;exact ak (h5 z u e f) λl t b2=>ay l t (b2.mono a.aT a.bw)
 ·refine fg (c.n.cl _ L) λi o dZ U V h3 h4 h5=>wpAny_storeName_cell c.n.hk L U ⟨o,V,h3⟩ λh' hc sb=>?_;haveI F:bK (·=i) g.N g.hT s φ H {s with heap:=h',toks:=s.toks} φ:=by
   refine ak hc λo' p é=>.one c.L sb h4 (ê.nl _ _ U).2 (λo e ws n q=>c.n.dW ê _ o (.inr ⟨_,U⟩) e ws n q) ⟨_,p⟩ λö es n e q=>?_;rw[V] at e;injection e with e;subst e;have q:=h3▸q;injection q
  have a:=F.more (L:=Xf env) (λD q=>.inr ⟨_,q▸U⟩) (c.n.dW ê);refine h _ a ⟨c.G,c.T,c.R,c.L.pI a ê.Jg,⟨c.n.hk,c.n.gl,c.n.bt,⟨m,K.sameBut sb (j1 (ê.nl _ _ U).1),λy u b hd j=>?_⟩,c.n.nl,λy k=>?_⟩⟩
  ·rw[gR] at b;have ne:¬y=x:=λq=>by
    clear b U hd;cases q;rw[L] at j;injection j with j;injection j
   rw[dm ne] at b;exact ak (hv y u b hd j) λl t b2=>ay l t (b2.mono a.aT a.bw)
  ·by_cases e:y=aD x
   ·clear h;refine ak hc λo' p é=>?_;clear L;subst e;refine iw i o' (O w) U p é h4 (λz u e f=>?_);have:z=x:=ft e.symm;subst this;rw[gR,dE Z] at f;injection f with f;subst f
    exact ay w Z (r.mono a.aT a.bw)
   ·refine fg (c.n.cl y k) λI o' î à û ô g4 ù=>iw I o' î à ((sb.2 I (λq=>e (ê.ap _ _ _ à (q▸U)):I≠i)).trans û) ô g4 (λz u è f=>?_);have:¬z=x:=λq=>e (ah è (cx _ q));rw[gR,dm this] at f;exact ak (ù z u è f) λl t b2=>ay l t (b2.mono a.aT a.bw)
def eJ(m:dq env.scope.names x e=X):∃p,e=.Name (aD x) p/\(env.kindOf (aD x)=O .local\/env.kindOf (aD x)=O .cell):=by
 exact rH e (gQ m) λh b a b=>ay h Z a
def CX{St:S->d1->Prop}(K:Wk g.prog g.w A g.N I fp l.length (Eo g W L l) St)(nI:W.heap.get? I=Q)(i:g.hT.get? I=Q):∀(m j:S) (z:d2) (è:J cc->d2->Prop),j+m=l.length->ba g.N g.hT W L H₁ z L->¬cm L I->St j z.heap->
   (∀vs d,ba g.N g.hT W L H₁ d L->St l.length d.heap->aL g.N W.heap L (l.drop j) vs->è vs d)->er (ej g.prog g.w) A (draw (.ref I) m) è E z:=by
 intro m
 induction m with
 | zero=>
  intro j z è c a nl st h;have:j=l.length:=Y4 c;clear c;subst this;exact ei (h [] z a st (ah SR (.nil)))
 | succ m ih=>
  intro j z è c a nl st h;refine a4 (K.W.item j z _ _ (IV c) st λv h' tk hp é k=>?_);refine aq (a.jY (tk:=tk) nI i nl (λb o ne e=>k b o (by simpa using ne) e) (λo e ws n q=>by
   obtain⟨o',vs,p,r⟩:=K.at_ _ _ st;rw[p] at e;injection e with e;subst e;rw[r] at q;injection q)) λt q=>?_
  refine a4 (kW (ih (j+1) _ _ (U5 c) t nl é λvs d y f hv=>?_));refine ak hp λx s u=>?_;have:l.drop j=x::l.drop (j+1):=by
   refine ah (Oa (IV c)) ?_;congr 1;exact gf ((ee (IV c))▸s)
  exact ei (h _ _ y f (this▸.cons u hv))
def qF(c:Ctx g fa d A s φ H env ρ)(r:VR g.N s.heap φ (.tup l) v)(h:∀vs L,ba g.N g.hT s φ H L φ->aL g.N L.heap φ l vs->ù vs L):er (ej g.prog g.w) A (unpackItems v l.length Q) ù E s:=by
 haveI i:=r;refine eP i λt ws é=>?_;clear i;subst é;intro u D è;refine ak D λn p z=>?_;refine a4 ?_
 ·delta notIterableAtAll;refine a4 (wpAny_specialOf (IsTup.typeIs ⟨_,p,Z,n,Z⟩) slot_tuple_iter.lookup ?_);refine ei ?_;haveI fr:=aF s.heap;have f:g.hT.get? s.heap.objs.size=Q:=by
   refine az (g.hT.get? s.heap.objs.size) ?_ ?_
   ·intro q;rfl
   ·intro o q;have:=c.L.st _ _ q;rw[fr] at this;injection this
  refine a4 (kW (mX (x:=.tup l) c.L r Z λSt fp I K à P G qD=>?_));haveI m:ba g.N g.hT s φ H {s with heap:=s.heap.push I} φ:=.keeps c.L.rl c.L.st _ λF F q=>c1 _ q;haveI nl:=bg c.L.rl fr;refine a4 (kW (CX (H₁:=H) K fr f l.length 0 _ _ (Y5) m nl G λvs aV W j hv=>?_));rw[dm (by rw[hv.len];exact Y6)];refine a4 (kW (K.W.done aV _ _ j λh' tk k=>?_));refine aq (W.jY (tk:=tk) fr f nl (λb o ne e=>k b o (by simpa using ne) e) (λo e ws n q=>by
   obtain⟨o',vs,y,C⟩:=K.at_ _ _ j;rw[y] at e;injection e with e;subst e;rw[C] at q;injection q)) λa q=>?_
  exact ei (h vs _ a (hv.mono a.aT a.bw))
theorem Et(x:a7)(v:AV)(r:J (a7×AV))(ρ:Loc):jK ((x,v)::r) ρ=jK r (put x v ρ):=rfl
set_option tactic.hygienic true in
def sF:∀{L:J (cc->RF Unit)}{xs:J a7}{l:J AV}{vs:J cc}{s:d2}{ρ:Loc}{à:Unit->d2->Prop},Ctx g fa d A s φ H env ρ->SF g env->
  (L.length=xs.length/\∀(i:S) (t:cc->RF Unit) (x:a7),L[i]?=O t->xs[i]?=O x->(∀v,t v=bindName env (aD x) v\/∃p,t v=assign (.Name (aD x) p) env v)/\(env.kindOf (aD x)=O .local\/env.kindOf (aD x)=O .cell))->
  xs.length=l.length->aL g.N s.heap φ l vs->
  (∀W,bK (Xf env) g.N g.hT s φ H W φ->Ctx g fa d A W φ H env (jK (xs.zip l) ρ)->à () W)->er (ej g.prog g.w) A (T8 L vs) à E s:=by
 intro L
 induction L with
 | nil=>
  intro xs l vs s ρ à c ù b f r h;cases xs<;>try (simp at b)
  exact ei (h s (c.rf.more (λ_ q=>q.elim) (c.n.dW ù)) c)
 | cons t L ih=>
  intro xs l vs s ρ à c ù b f r h;cases xs<;>try (simp at b;done)
  cases l<;>try (simp at f)
  rename_i x xs y l;refine dc vs r ?_;intro w ws m r;refine aq (b.2 0 t x Z Z) λj hk=>?_;have é:er (ej g.prog g.w) A (TO env (aD x) w) (λ_ W=>er (ej g.prog g.w) A (T8 L ws) à E W) E s:=by
   exact gi c ù hk m λW a k=>ih k ù ⟨by simpa using b.1,λi C D e1 u=>b.2 (i+1) C D (by simpa using e1) (by simpa using u)⟩ (by simpa using f) (r.mono a.aT a.bw) λo è z=>h o (a.trans è) z
  refine a4 (kW ?_);rcases j w with e | ⟨p,e⟩
  ·exact e▸wpAny_bindName é
  ·exact ah e (Ez é)
end
structure FC (g:Gr)(fa:a7->aI eu)(d:Nat)(A:hX)(s:d2)(φ:Fi)(H:Hp)(env:Env)(ρ:Loc):Prop where
 c:Ctx g fa d A s φ H env ρ
 S:SF g env
 top:∃outer,A.frames=O (env::outer)
def FlV (g:Gr)(s:d2)(e:Fi):Fl->Flow->Prop
 | .next,f=>f=.next
 | .ret v,f=>∃w,f=.ret w/\VR g.N s.heap e v w
abbrev VS (g:Gr)(e:Env):Fl×Loc->Flow->d2->Fi->Prop:=λp f s h=>En g e s h p.2/\FlV g s h p.1 f
def SS (i:a7->aI eu)(C:CS)(d:S)(m:MS):Prop:=∀g k A s h H ρ e st j E,Vd e.scope.names m st=X->(yI m=X->g.N.exc=Q)->FC g i d A s h H e ρ->
 Out g (Xf e) (dr e) (VS g e) s h (aA GG C k m ρ H) j E->er (ej g.prog g.w) A (exec st e) j E s
def pN (m:a7->aI eu)(C:CS)(d:S)(h:J MS):Prop:=∀g k A s i H ρ e j p E,lO e.scope.names h j=X->(d5 h=X->g.N.exc=Q)->FC g m d A s i H e ρ->
 Out g (Xf e) (dr e) (VS g e) s i (execs GG C k h ρ H) p E->er (ej g.prog g.w) A (Vt j e) p E s
section
variable{fa:a7->aI eu}{C:CS}{d:Nat}{g:Gr}{k:Nat}{A:hX}{s:d2}{φ:Fi}{H:Hp}{ρ:Loc}{env:Env}{E:cc->d2->Prop}
theorem FC.dW(f:FC g fa d A s φ H env ρ):∀a o,Xf env a->s.heap.get? a=O o->∀e k,o.data≠.seq e k:=f.c.n.dW f.S
theorem FC.up(f:FC g fa d A s φ H env ρ)(a:ba g.N g.hT s φ h i e):bK (Xf env) g.N g.hT s φ h i e:=a.more (λb q=>q.elim) f.dW
theorem FC.pI(f:FC g fa d A s φ H env ρ)(a:bK (Xf env) g.N g.hT s φ j i e)(n:En g env i e h):FC g fa d A i e j env h:=
 ⟨⟨f.c.G,f.c.T,f.c.R,f.c.L.pI a f.S.Jg,n⟩,f.S,f.top⟩
theorem FC.a(f:FC g fa d A s φ H env ρ)(a:ba g.N g.hT s φ h i e):FC g fa d A i e h env ρ:=f.pI (f.up a) (f.c.a a).n
theorem FC.rf(f:FC g fa d A s φ H env ρ):bK (Xf env) g.N g.hT s φ H s φ:=f.up f.c.rf
theorem Flt.more(x:Flt g j F s φ w p q v h)(b:∀a,j a->L a)(dW:∀a o,L a->s.heap.get? a=O o->∀i n,o.data≠.seq i n):Flt g L F s φ w p q v h:=
 ⟨x.ex,x.eq,x.aT.more b dW,x.st,λa o l y z e=>x.qv a o l (λq=>y (b a q)) z e⟩
def Out.fQ{W:L->δ->d2->Fi->Prop}(f:FC g fa d A s φ H env ρ)(o:Out g (Xf env) F è s φ (y.bind z) é E)(c:∀x m b j i,y=.ok x m->ba g.N g.hT s φ m j i->W x b j i->FC g fa d A j i m env ρ->Out g (Xf env) F è j i (z x m) é E->P b j):Out g Nx F W s φ y P E:=by
 cases y with| ok x m=>exact λb j i a h=>c x m b j i Z a h (f.a a) (.shift (f.up a) o)| bH w p q=>exact λv j x=>o v j (x.more (λe q=>q.elim) f.dW)| bad=>exact o
def Out.abg(o:Out g i F h s φ ((Internal.opt x H).bind f) e E):∃a,x=O a/\Out g i F h s φ (f a H) e E:=Out.v8 o
def jZ(h:∀x p,t≠.Name x p):Qx e (O t) i env=pure aN:=by
 cases e<;>first | rfl | (cases t<;>first | rfl | exact hQ Z (h _ _))
def j0(h:dD e=X):Qx e t i env=pure aN:=by
 cases e<;>first | rfl | injection h
def tB(h:env.scope.kind=.function):interactive env=aN:=by dsimp only[interactive];refine ah h ?_;rfl
def qG(h:isCall e=X):dD e=X:=by
 refine bC e (dS h) λa a a a a=>?_;rfl
def KD(hB:∀m:ME,BS fa C d m):SS fa C d (.expr e):=by
 intro g k A s φ H ρ env st L E m i f o;refine bY st (ti m) λh q=>?_;intro m;refine QO ((hB e).1 g k A s φ H ρ env h _ E (b2 m).1 f.c (o.fQ (W:=VV g) f λx p w y z j l v a b=>?_)) (tB f.c.n.hk) (j0 (qG (b2 m).2));exact b.now a.rf ⟨a.c.n,Z⟩
def NO(hB:∀m:ME,BS fa C d m):SS fa C d (.ret e):=by
 intro g k A s φ H ρ env st é E m l f o;refine bY st (Kd m) λh z=>?_;intro m;refine ak (mz m) λh i=>?_;clear m;subst i;intro j;refine wpAny_Return_some ((hB e).1 g k A s φ H ρ env _ _ E j f.c (o.fQ (W:=VV g) f λx y w L ai p q v a b=>?_));exact b.now a.rf ⟨a.c.n,_,Z,v⟩
set_option tactic.hygienic true in
def KH(hB:∀m:ME,BS fa C d m):SS fa C d (.cH a fl e):=by
 intro g k A s φ H ρ env st ê E m ä f o;refine aP st (nJ m) λts î é=>?_;intro m;refine aq (b2 m) λP I=>bh ts (ez P) λt D=>aP t (gE D) λR û z r=>cF (b3 r) λù F K=>?_;clear r;obtain rfl:=e5 F;refine I4 ((hB e).1 g k A s φ H ρ env _ _ E I f.c (o.fQ (W:=VV g) f λx L w ag ai _ ü v l â=>?_)) (jZ (by intro x p q;injection q));refine(hB a).1 g k A ag ai L ρ env _ _ E ù l.c (â.fQ (W:=VV g) l λy ö u aV cO _ i è h b=>?_)
 split at b
 ·rename_i n
  split at b
  ·rename_i ô Y à
   revert b;refine Out.mD ?_ ?_<;>intro _ b
   ·rename_i N;exact Ek h.c.G h.c.T h.c.L è (v.mono i.aT i.bw) à N (Ea K) λs' j=>b.now (h.up j) ⟨(h.a j).c.n,Z⟩
   ·exact b.elim
  ·exact b.elim
 ·exact b.elim
set_option tactic.hygienic true in
def KI(hB:∀m:ME,BS fa C d m):SS fa C d (.gp a i e):=by
 intro g k A s φ H ρ env st û E m hx f o;refine aP st (nJ m) λts pe è=>?_;intro m;refine aq (b2 m) λn1 m3=>bh ts (ez n1) λt n2=>aP t (ly n2) λtb tj à n3=>aq (b2 n3) λm1 m2=>?_;refine wpAny_Assign_Subscript ((hB e).1 g k A s φ H ρ env _ _ E m3 f.c (o.fQ (W:=VV g) f λx é w ag ai _ af v ñ ao=>?_)) (jZ (by intro x p q;injection q));refine(hB a).1 g k A ag ai é ρ env _ _ E m1 ñ.c (ao.fQ (W:=VV g) ñ λy dX u aV cO _ ç R ô aW=>?_);refine(hB i).1 g k A aV cO dX ρ env _ _ E m2 ô.c (aW.fQ (W:=VV g) ô λz P ü eB â _ K qx G D=>?_);have å:=(v.mono ç.aT ç.bw).mono K.aT K.bw;haveI vy:VR g.N eB.heap â y u:=R.mono K.aT K.bw;haveI vz:VR g.N eB.heap â z ü:=qx;clear aW qx R
 split at D
 ·rename_i n j _ _
  split at D
  ·rename_i l hn;refine jH (mC G.c.L hn) λø L kk hp U V h3=>?_;haveI hu:=vy.2.2 _ hp;clear vy;subst hu;refine aX ü vz λtk=>?_;clear vz;haveI I:=h3.len;have I:=g6▸I;have upd:∀(l:J AV) (L:J cc) (j:S) {h:d1},aL g.N h â l L->VR g.N h â x w->aL g.N h â (l.set j x) (L.set j w):=by
    intro l
    induction l with
    | nil=>intro L j h r _;subst r;exact .nil
    | cons b l ih=>
     intro L j h r ö;refine dc L r ?_;intro v' t' hv r;cases j with| zero=>exact .cons ö r| succ j=>exact .cons hv (ih t' j r ö)
   split at D
   ·rename_i F;refine aH (uA F.1) λî RY=>?_;subst RY;refine AE U F.1 (Um F.2 (yD (show l.length<=1048576 from I▸V) (by decide))) (Zb I F) ?_;haveI ê:ba g.N g.hT eB â (P.set n (.list (l.set î x))) {eB with heap:=eB.heap.update ø (N9 (·.setIfInBounds (î:T).toNat w))} â:=
     ba.lst (f:=λxs=>xs.setIfInBounds (î:T).toNat w) G.c.L hp U (by refine ah PJ ?_;exact V) λh' ä=>by
      exact ah N0 (upd l L.toList î (h3.mono ä (.refl ..)) (å.mono ä (.refl ..)))
    exact D.now (G.up ê) ⟨(G.a ê).c.n,Z⟩
   ·split at D
    ·rename_i ù F;refine AF U F.1 (Zc I F) (wd (by decide) (aat (show l.length<=1048576 from I▸V) F.2)) ?_;haveI e':(j+(L.size:T)).toNat=(j+(l.length:T)).toNat:=ah I Z;haveI ê:ba g.N g.hT eB â (P.set n (.list (l.set (j+(l.length:T)).toNat x))) {eB with heap:=eB.heap.update ø (N9 (·.setIfInBounds (j+L.size).toNat w))} â:=
      ba.lst (f:=λxs=>xs.setIfInBounds (j+(L.size:T)).toNat w) G.c.L hp U (by rw[PJ];exact V) λh' ä=>by
       refine ah N0 (ah e' ?_);exact upd l L.toList _ (h3.mono ä (.refl ..)) (å.mono ä (.refl ..))
     exact D.now (G.up ê) ⟨(G.a ê).c.n,Z⟩
    ·exact D.elim
  ·exact D.elim
 ·exact D.elim
def CY(c:Ctx g fa d A s φ H env ρ)(m:dq env.scope.names x t=X)(r:ρ.lookup x=O v)(h:∀w,VR g.N s.heap φ v w->L w s):∃p,t=.Name (aD x) p/\(env.kindOf (aD x)=O .local\/env.kindOf (aD x)=O .cell)/\er (ej g.prog g.w) A (loadName env (aD x)) L E s:=by
 refine rH t (gQ m) λq i a k=>dQ q Z a (eE a (λa=>?_) λa=>?_)
 ·exact ak (c.n.ns) λy f hv=>ak (hv x v r i a) λw U V=>Jv c.n.hk a f U (h w V)
 ·refine fg (c.n.cl _ a) λj o z U V h3 h4 h5=>?_;refine ak (h5 x v Z r) λw b=>?_;clear h5;subst b;intro e;exact Rk c.n.hk a U ⟨o,V,h3⟩ (h w e)
set_option tactic.hygienic true in
def NP(hB:∀m:ME,BS fa C d m):SS fa C d (.aug x op e):=by
 intro g k A s φ H ρ env st ô E m G f o;clear G;refine bC st (Ke m) λt dk P à=>?_;clear m;intro m;refine eW (b4 m) λD K ê L=>?_;clear m;obtain rfl:=e5 ê;obtain rfl:=e5 K;refine ak (o.abg) λa I o=>?_;refine ak (eJ D) λp â=>?_;subst â;intro hk;refine wpAny_AugAssign_Name (Exists.elim (CY (E:=E) (t:=.Name (aD x) p) (L:=λé ag=>er (ej g.prog g.w) A (eval _ env) (λv aV=>er (ej g.prog g.w) A (inplaceOp .Add é v) (λr eB=>er (ej g.prog g.w) A (TO env (aD x) r) (λ_=>ô .next) E eB) E aV) E ag) f.c D I λw z=>?_) λ_ q=>q.2.2);refine(hB e).1 g k A s φ H ρ env _ _ E L f.c (o.fQ (W:=VV g) f λb è u ag ai _ ù v h l=>?_);haveI y:VR g.N ag.heap ai a w:=z.mono ù.aT ù.bw;clear z o
 split at l
 ·rename_i i j _;exact aX w y λt1=>aX u v λt2=>PyProof.Rows.iadd_int (gi (x:=x) (v:=.int (i+j)) (w:=.int (i+j) ag.toks) (h.a (h.c.tk (ag.toks+1))).c f.S hk (.fO _ _) λs' î F=>l.now ((h.up (h.c.tk (ag.toks+1))).trans î) ⟨F.n,Z⟩)
 ·exact l.elim
def NQ:execs GG C k [] ρ H=.ok (.next,ρ) H:=by simp only[MZ]
set_option tactic.hygienic true in
def NR(t:ME)(a b:J MS):aA GG C k (.iff t a b) ρ H=(tb (ev GG C k t ρ H)).bind λr H=>if r then execs GG C k a ρ H else execs GG C k b ρ H:=by
 refine(show _=R.bind (ev GG C k t ρ H) _ from Z).trans ?_;cases ev GG C k t ρ H with
 | ok x e=>
  cases x<;>try rfl
  rename_i b;cases b<;>rfl
 | bH w f p=>rfl
 | bad=>rfl
def R7(hB:∀m:ME,BS fa C d m)(l:pN fa C d a)(hb:pN fa C d b):SS fa C d (.iff t a b):=by
 intro g k A s φ H ρ env st è E m h f o;rw[NR] at o;refine bC st (M5 m) λu c x é=>?_;intro m;refine cF (b3 m) λp j n=>wpAny_If ((hB t).2 g k A s φ H ρ env _ _ E p f.c (o.fQ (W:=VB) f λr L w ag ai y z v i e=>?_));subst v;cases r with| true=>exact l g k A ag ai L ρ env _ è E j (λq=>h (JN.mpr (.inl q))) i e| false=>exact hb g k A ag ai L ρ env _ è E n (λq=>h (JN.mpr (.inr q))) i e
def Bv:pN fa C d []:=by
 intro g k A s φ H ρ env a e E m b f o;obtain rfl:=nE m;exact qW (o.now f.rf ⟨f.c.n,Z⟩)
set_option tactic.hygienic true in
def y8(h:SS fa C d m)(z:pN fa C d L):pN fa C d (m::L):=by
 intro g k A s φ H ρ env t é E a j f o;refine bG (dy a) λst t l=>?_;clear a;subst l;intro a;refine o1 (h g k A s φ H ρ env _ _ E (b2 a).1 (λq=>j (by simp only[xa,q,aS.true_or])) f (o.bind (W:=VS g env) λp x fl ag ai _ e v i=>?_));obtain⟨r,y⟩:=p;refine aq v λn b=>?_;clear v;cases r with
 | next=>
  have:fl=.next:=b
  clear b;subst this;exact z g k A ag ai x y env _ é E (b2 a).2 (λq=>j (by simp only[xa,q,aS.or_true])) (f.pI e n) i
 | ret v=>
  exact bh fl b λw u=>i.now (f.pI e n).rf ⟨(f.pI e n).c.n,w,Z,u⟩
end
section
variable{fa:a7->aI eu}{C:CS}{d:S}{g:Gr}{k:S}{A:hX}{s:d2}{φ:Fi}{H:Hp}{ρ:Loc}{env:Env}{E:cc->d2->Prop}
theorem j4:∀{j:J a7}{i:J Expr},iK m j i=X->i.length=j.length
 | [],i,h=>by obtain rfl:=nE h;rfl
 | x::j,i,h=>by
  refine bG (dy h) λe i a=>?_;cases a;intro h;exact cx oi (j4 (b2 h).2)
theorem oH:∀{q:J a7}{m:J Expr},iK z q m=X->∀(i:S) (x:a7) (e:Expr),q[i]?=O x->m[i]?=O e->dq z x e=X
 | [],m,h,i,x,e,j,p=>nomatch j
 | y::q,m,h,i,x,e,j,p=>by
  refine bG (dy h) λb m a=>?_;clear h;cases a;intro h;cases i with
  | zero=>injection j with j;subst j;injection p with p;subst p;exact(b2 h).1
  | succ i=>exact oH (b2 h).2 i x e j p
noncomputable def wa (env:Env)(h:S)(e:Expr):aI cD:=Rg.match_8 (λ_=>aI cD) e (λid i=>if env.kindOf id==O .local&&i.line==h then O id else Q) λ_=>Q
def Gz(e:J Expr):(e.filterMap (wa env line)).length<=e.length:=J.length_filterMap_le _ _
def GA:∀{m:J a7}{j:J Expr},iK env.scope.names m j=X->(j.filterMap (wa env i)).length=j.length->j.filterMap (wa env i)=m.map aD:=λ{m}=>by
 induction m with
 | nil=>
  intro j;intro h;intro d;try clear _
  obtain rfl:=nE h;rfl
 | cons x m y=>
  intro j;intro h;intro q;refine bG (dy h) λe j c=>?_;clear h;subst c;intro h;refine ak (eJ (b2 h).1) λp a=>?_;subst a;intro z;haveI b:=Gz (env:=env) (line:=i) j;simp only[J0] at q ⊢;by_cases hc:(env.kindOf (aD x)==O .local&&p.line==i)=X
  ·haveI e1:wa env i (.Name (aD x) p)=O (aD x):=dE hc;rw[e1] at q ⊢;simp only[ff,S.add_right_cancel_iff] at q;simp only[y (b2 h).2 q];rfl
  ·haveI e1:wa env i (.Name (aD x) p)=Q:=dm hc;rw[e1] at q;exact(Y9 b q).elim
def yk{e:Type}{c:Prop}[r4 c]{x y z:e}(h:¬c->y=x\/y=z):(if c then x else y)=x\/(if c then x else y)=z:=if q:c then .inl (dE q) else(dm q).symm▸h q
def CZ{j:J a7}(h:iK env.scope.names j i=X)(a:yH e=X):Rg [.Tuple i m p] e env=pure Q\/Rg [.Tuple i m p] e env=pure (O (j.map aD)):=by
 cases e<;>try (left;rfl)
 haveI a:=(RM _).symm.trans a;simp only[nr,kx] at a;refine yk λd=>yk λd=>yk λb=>yk λhq=>?_;rw[dm (by
  refine eE a (λa=>?_) λa=>?_
  ·exact hQ a hq
  ·refine ah a ?_;simp)]
 right
 haveI c:(i.filterMap (wa env ((i.head?.map (·.pos.line)).getD 0))).length=i.length:=by
  rw[PU,aS.or_eq_false_iff] at b;exact bne_eq_false_iff_eq.mp b.1
 have:=GA h c;exact ah this Z
def xl(l:J i):l.reverse.Nodup↔l.Nodup:=by
 exact(QP).trans (⟨λh=>h.imp λq e=>q e.symm,λh=>h.imp λq e=>q e.symm⟩)
set_option tactic.hygienic true in
def qH{r:Loc}(h:r.lookup y=O v):(y,v)∈r:=by
 induction r with
 | nil=>injection h
 | cons p r i=>
  obtain⟨x,w⟩:=p;dsimp only[eC] at h
  split at h
  ·rename_i e;clear i;injection h with h;subst h
   exact(e5 e)▸.head _
  ·exact .tail _ (i h)
def sG(y:a7):∀(r:J (a7×AV)) (ρ:Loc),(r.map (·.1)).Nodup->(jK r ρ).lookup y=(r.lookup y).or (ρ.lookup y):=λr=>by
 induction r with
 | nil=>
  intro ρ;intro a;exact Z
 | cons i r j=>
  intro ρ;obtain⟨x,v⟩:=i;intro h;rw[i1,k9] at h;simp only[Et,j _ h.2,gR,eC];by_cases e:y=x
  ·subst e;have:r.lookup y=Q:=by
    refine az (r.lookup y) ?_ ?_
    ·intro q;rfl
    ·intro w q;exact hQ (hN.mpr ⟨_,qH q,Z⟩) h.1
   refine ah this ?_;simp
  ·have:(y==x)=aN:=by simp[e]
   exact ah (dm e) (ah this Z)
def KJ{i j:Type}(e:J i)(a:J j)(h:e.length=a.length):e.reverse.zip a.reverse=(e.zip a).reverse:=by
 induction e generalizing a with
 | nil=>cases a with| nil=>rfl| cons _ _=>injection h
 | cons x e m=>cases a with
  | nil=>injection h
  | cons y a=>
   refine ah i7 (ah i7 (ah (J.zip_append (by simpa using (by simpa using h))) (ah (m _ (by simpa using h)) ?_)));simp
def GB(e:J i)(a:J j)(h:e.length=a.length):(e.zip a).map (·.1)=e:=by
 exact(Pq (sY h))
def lookup_mem{r:Loc}(a:(r.map (·.1)).Nodup)(h:(y,v)∈r):r.lookup y=O v:=by
 induction r with
 | nil=>cases h
 | cons p r i=>
  obtain⟨x,w⟩:=p;simp only[i1,k9] at a;dsimp only[eC];refine eE (a8.mp h) (λe=>?_) λe=>?_
  ·clear h;injection e with e j;subst e j;simp
  ·haveI ne:(y==x)=aN:=by
    rw[gn];clear h;rintro rfl;exact a.1 (hN.mpr ⟨_,e,Z⟩)
   exact ah ne (i a.2 e)
def C0{r:Loc}(b:(r.map (·.1)).Nodup)(y:a7):r.reverse.lookup y=r.lookup y:=by
 refine az (r.lookup y) ?_ ?_;rotate_left;haveI c:(r.reverse.map (·.1)).Nodup:=ah s7 ((xl _).mpr b)
 ·intro v q;exact lookup_mem c (hO.mpr (qH q))
 ·intro q;refine az (r.reverse.lookup y) ?_ ?_
  ·intro a;rfl
  ·intro v a;have:=lookup_mem b (hO.mp (qH a));rw[q] at this;injection this
def GC{e:J a7}{l:J AV}(b:e.Nodup)(a:e.length=l.length)(ρ:Loc)(y:a7):(jK (e.reverse.zip l.reverse) ρ).lookup y=(jK (e.zip l) ρ).lookup y:=by
 haveI k:((e.zip l).map (·.1)).Nodup:=ah (GB _ _ a) (b);rw[KJ _ _ a,sG _ _ _ (by rw[s7];exact(xl _).mpr k),sG _ _ _ k,C0 k]
theorem lV:∀{j:J a7}{i:J Expr},iK env.scope.names j i=X->assignEach i env=i.map λt=>(aN,assign t env)
 | [],i,h=>by obtain rfl:=nE h;rfl
 | x::j,i,h=>by
  refine bG (dy h) λe i a=>?_;clear h;subst a;intro h;haveI h:=b2 h;refine bh e (eJ h.1) λp m=>?_;show(aN,assign _ env)::assignEach i env=_;refine ah (lV h.2) ?_;rfl
def aL.rev:∀{l:J AV}{vs:J cc},aL N h φ l vs->aL N h φ l.reverse vs.reverse:=by
 have app:∀{l:J AV}{vs:J cc} {x v},aL N h φ l vs->VR N h φ x v->aL N h φ (l++[x]) (vs++[v]):=by
  intro l
  induction l with
  | nil=>intro vs x v r a;subst r;exact .cons a .nil
  | cons b l e=>
   intro vs x v r a;refine dc vs r ?_;intro c d hv r;exact .cons hv (e r a)
 intro l
 induction l with
 | nil=>intro vs r;subst r;exact .nil
 | cons b l e=>
  intro vs r;refine dc vs r ?_;intro c d hv r;simp only[i7];exact app (e r) hv
def Ew(c:Ctx g fa d A s φ H env ρ)(è:SF g env)(m:iK env.scope.names L W=X)(r:VR g.N s.heap φ (.tup l) v)(b:L.length=l.length)(h:∀s',bK (Xf env) g.N g.hT s φ H s' φ->Ctx g fa d A s' φ H env (jK (L.zip l) ρ)->é () s'):er (ej g.prog g.w) A (assign (.Tuple W kk p) env v) é E s:=by
 refine a4 (GL ?_);refine ah (lV m) ?_;delta unpack;haveI e1:(W.map λt=>((aN,assign t env):aS×(cc->RF Unit))).findIdx? (·.1)=Q:=by
  rw[J.findIdx?_eq_none_iff];intro x f;refine dP x (hN.mp f) λt o=>?_;rfl
 refine ah e1 ?_;haveI z:(W.map λt=>((aN,assign t env):aS×(cc->RF Unit))).length=l.length:=by simp only[d3,j4 m,b]
 refine ah z (a4 (kW (qF c r λvs s' a hv=>?_)));refine sF (xs:=L) (c.a a) è ⟨by simp[j4 m],λi t x U V=>?_⟩ b hv λk y u=>h k ((a.more (λo q=>q.elim) (c.n.dW è)).trans y) u;rw[p2,gX] at U;refine az (W[i]?) ?_ ?_
 ·intro q;rw[q] at U;injection U
 ·intro e q;rw[q] at U;simp only[gL,fx] at U;subst U;exact bh e (eJ (oH m i x e V q)) λj hk=>au (λv=>.inr ⟨j,Z⟩) hk
set_option tactic.hygienic true in
def KN{e:ME}(hB:∀m:ME,BS fa C d m):SS fa C d (.cC xs e):=by
 intro g k A s φ H ρ env st û E m ê f o;refine aP st (nJ m) λts G ù=>?_;intro m;refine cF (b3 m) λn1 ä F=>?_;clear m;refine bh ts (ez n1) λt ô=>aP t (nH ô) λes K D ñ=>cF (b3 ñ) λâ P n5=>?_;haveI m2:=gb P;haveI L:swapsWithSole [.Tuple es K D] G ù.line env=pure aN:=by
  show Qx G (O (.Tuple es K D)) ù.line env=pure aN;exact jZ (by intro x p q;injection q)
 haveI done:∀(x:AV) (é:Hp) (w:cc) (ag:d2) (ai:Fi),VR g.N ag.heap ai x w->FC g fa d A ag ai é env ρ->
   Out g (Xf env) (dr env) (VS g env) ag ai (match eS (.many xs) x ρ with | some è=>R.ok (.next,è) é | none=>.bad) û E->
   ∃l,x=.tup l/\xs.length=l.length/\∀è s',(∀y,è.lookup y=(jK (xs.zip l) ρ).lookup y)->bK (Xf env) g.N g.hT ag ai é s' ai->Ctx g fa d A s' ai é env è->û .next s':=by
  intro x é w ag ai vr b h;clear vr;cases x<;>try exact h.elim
  rename_i l
  split at h
  ·rename_i u
   revert u;refine aJ ?_ ?_<;>intro _ u
   ·rename_i r;injection u with u;subst u
    exact dQ l Z r (λè s' hq a z=>h.now a ⟨(z.congr λy=>(hq y).symm).n,Z⟩)
   ·injection u
  ·exact h.elim
 rcases CZ â ä with hw | hw
 ·refine Assign_Tuple ((hB e).1 g k A s φ H ρ env _ _ E F f.c (o.fQ (W:=VV g) f λx é w ag ai _ ø v b h=>?_)) L hw;refine cR (done x é w ag ai v b h) λl ü=>?_;subst ü;intro r à;exact Ew b.c f.S â v r λs' a z=>à _ s' (λ_=>Z) a z
 ·refine Assign_Tuple_swapped (names:=xs.map aD) ((hB e).1 g k A s φ H ρ env _ _ E F f.c (o.fQ (W:=VV g) f λx é w ag ai _ ø v b h=>?_)) L hw;refine cR (done x é w ag ai v b h) λl î=>?_;subst î;intro r à;rw[d3,r];refine qF b.c v λvs aV a hv=>sF (xs:=xs.reverse) (b.a a).c f.S ⟨by simp,λi t x U V=>?_⟩ (by simpa using r) hv.rev λeB ç z=>à _ eB (λy=>GC m2 r ρ y) ((b.up a).trans ç) z;rw[<-s7,p2,gX,V] at U;simp only[gL,T9,fx] at U;subst U;refine au (λv=>.inl Z) ?_;haveI ê:x∈xs:=hO.mp (x7 V);refine aH (J.mem_iff_getElem?.mp ê) λj I=>?_;haveI ö:j<es.length:=by
   refine ah (j4 â) ?_;exact(fb.mp I).1
  refine ak (eJ (oH â j x es[j] I (ee ö))) λp' _ hk=>?_;exact hk
def Ey{p:Nm}(h:cy p m e=X)(hc:dD e=aN):∃j i x iter cond,m=.comp j i x iter cond:=by
 cases m with
 | comp j i x iter cond=>exact Ws j i x iter cond Z
 | _=>exact nomatch hc.symm.trans ((v5 h).2.2 Z)
def NS{e:ME}(hB:∀m:ME,BS fa C d m):SS fa C d (.asg x e):=by
 intro g k A s φ H ρ env st ü E m hx f o;simp only[uf] at o;clear hx;refine aP st (nJ m) λts D é m=>aq (b2 m) λî û=>bh ts (ez î) λt m1=>?_;refine bh t (eJ m1) λr hk=>?_;have plain:Qx D (O (.Name (aD x) r)) é.line env=pure aN->er (ej g.prog g.w) A (exec (.Assign [.Name (aD x) r] D é) env) ü E s:=λhs=>by
  refine wpAny_Assign_Name ((hB e).1 g k A s φ H ρ env _ _ E û f.c (o.fQ (W:=VV g) f λv è w ag ai j af vr l ao=>?_)) hs;exact gi l.c f.S hk vr λs' a ö=>ao.now a ⟨ö.n,Z⟩
 by_cases hc:dD D=X
 ·exact plain (j0 hc)
 ·refine Wn (Ey û (PU _▸hc)) λfz à y iter cond Sh=>?_;subst Sh;refine yA (tg û) λel ù sc cp Si=>?_;subst Si;intro ñ;haveI Ex:∃b,Qx (.ListComp el ù sc cp) (O (.Name (aD x) r)) é.line env=pure b:=⟨_,Z⟩;refine aH Ex λb hb=>?_;clear Ex;cases b with
  | false=>exact plain hb
  | true=>
   refine ak (ez ñ) λSj Sk=>?_;subst Sk;intro I;obtain⟨t,i,ê,as⟩:=Sj;refine aq (b2 I) λI n5=>kF (b5 I) λn0 î n2 n3 n4=>?_;clear plain ñ hc;obtain rfl:as=0:=e5 n0;haveI ç:=qC n2;cases k with
   | zero=>simp only[pZ] at o;exact o.elim
   | succ k=>
   refine ah (exec_Assign_Name_used _ _ _ _ hb) (a4 (GL (a4 ?_)));refine a4 (x6 (PF (use:=O (assign (.Name (aD x) r) env)) (Q:=λj s'=>ü .next s') Z (v9 (fY î) env) (uJ f.c.n ç) ç.hk (λy hy q=>ç.loc y hy q) ?_)
    (λj s' hq=>ei (ei hq)) λj j e=>e)
   refine xj (fz:=fz) (k:=k) (hB iter).1 (hB à).1 (λm j=>hB m) î ç n3 n4 n5 f.c ?_ ?_
   ·refine w5 (ev GG C (k+1) (.comp fz à y iter cond) ρ H) ?_ ?_ ?_
    ·intro a H' q;exact λb s' â af v=>fo
    ·intro w f' p' q;simp only[q] at o;exact λv s' x'=>o v s' (x'.more (λj q=>q.elim) f.dW)
    ·intro q;simp only[q] at o;exact o
   ·intro ô L s' m' ag ai è â H' v Er hm ø p nl P vr;simp only[Er] at o;haveI o':Out g (Xf env) (dr env) (VS g env) s φ (.ok (.next,put x v ρ) H') ü E:=o;have l:=f.a ø;have nT:g.hT.get? L=Q:=by
     refine az (g.hT.get? L) ?_ ?_
     ·intro q;rfl
     ·intro o q;have:=l.c.L.st _ _ q;cases(this.symm.trans p)
    have nZ:¬g.N.Z L:=λz=>by refine aH (l.c.L.zz _ z) λo e=>?_;cases(e.symm.trans p)
    have æ:env.locals≠L:=by
     rintro rfl;refine ak (l.c.n.ns) λm Sl j=>dp Sl λo es F e j=>?_;cases(e.symm.trans p)
    have nC:∀y c,env.kindOf y=O .cell->env.cells.lookup y=O c->c≠L:=by
     rintro y c U V rfl;refine gA (l.c.n.cl y U) λö o dZ u å j=>?_;rw[V] at u;injection u with u;subst u
     rw[p] at å;injection å
    refine Ez (gi (l.a P).c f.S hk vr λë R Eu=>?_);refine dp (id hm) λK e8 F G hd=>?_;have ä:ë.heap.Ns L m':=⟨K,e8,F,R.ex _ _ nl (λh=>h.elim (λe=>æ e.symm) λ⟨y,e⟩=>nC y L (f.S.ck y L e) e Z) nZ G,hd⟩;refine ay m' ä (λh' sb=>?_);refine aq (((l.up P).trans R).jY (tk:=ë.toks) (h':=h') p nT nl (λb o ne e=>(sb.2 b ne).trans e) (λo e ws n d=>by
     obtain⟨K,e8,F,G,hd,_⟩:=ä;rw[G] at e;injection e with e;subst e;rw[hd] at d;injection d)) λa3 q=>?_
    exact o'.now ((f.up ø).trans a3) ⟨Eu.n.jY æ nC (λb o ne e=>(sb.2 b ne).trans e) q,Z⟩
end
section
variable{g:Gr}{ù:eu->Prop}{F F':cc->Prop}{s s':d2}{φ:Fi}{H:Hp}{w:a7}{f p:T}{v:cc}{A:hX}{E:cc->d2->Prop}{env:Env}{outer:J Env}
def Flt.step(x:Flt g ù F s φ w f p v s')(k:∀b o L,s.heap.get? b=O o->s'.heap.get? b=O L->∃c,W.get? b=O c/\jO L c/\(¬g.N.Z b->c=L))(st:∀b o,g.hT.get? b=O o->W.get? b=O o)(ex:∃e é dx,v=.ref e/\s.heap.get? e=Q/\s.heap.get? é=Q/\s.heap.get? dx=Q/\ExcAt g.N W e é dx w f p F'):Flt g ù F' s φ w f p v {s' with heap:=W,toks:=tk}:=by
 refine Bb s' (x.eq) λh' t=>⟨ex,⟨W,tk,Z⟩,⟨λa o l y e=>?_,λa o e=>?_,x.aT.dW,λa o es n y l e d=>?_⟩,st,λa o l y z e=>?_⟩
 ·exact ak (x.aT.keep a o l y e) λL i q=>cR (k a o L e i) λc h j m=>ay c h (q.trans j)
 ·exact aH (x.aT.lQ a o e) λL i=>ak (k a o L e i) λc h m=>bq c h
 ·exact dp (x.aT.kU a o es n y l e d) λL e8 n' i r=>cR (k a o L e i) λc h j m=>ed c e8 n' h (j.data.trans r)
 ·haveI i:=x.qv a o l y z e;refine cR (k a o o e i) λc h m q=>?_;rw[q z] at h;exact h
def nP(t:∀b o,g.hT.get? b=O o->s.heap.get? b=O o)(x:Flt g ù F s φ w f p v s')(è:F' u)(h:∀W,Flt g ù F' s φ w f p v W->é () W):∃e à,v=.ref e/\(∃L vs,s'.heap.get? e=O L/\L.data=.fields vs/\vs[1]?=O (.ref à))/\er (ej g.prog g.w) A (UG (.ref à) 3 u) é E s':=by
 refine fg (x.ex) λe à dx y=>?_;subst y;intro z d l D;obtain⟨⟨L,vs,k,r,G,j,a5,C⟩,⟨ne,oT,ts,fl,a,b2,b3,b4⟩,fu⟩:=D;refine bx e à Z ⟨L,vs,k,j,a5⟩ (wk a b2 (q5.mp b3).1 ?_);haveI hd:=RP b2 (·.setIfInBounds 3 u);have c:∀b,b≠à->(s'.heap.update à (oB (·.setIfInBounds 3 u))).get? b=s'.heap.get? b:=λb q=>hE _ _ (j1 q);haveI e1:=kv (oB (·.setIfInBounds 3 u)) a (QQ hd);have m:dx≠à:=by
  clear d a5 ne e1 c;rintro rfl;refine iU fu λsl n k1 k2 k3 t1 t2 t3 U V h3 q=>?_;rw[q] at a;injection a with a;subst a;injection b2
 refine h _ (x.step (tk:=s'.toks) (λb o o' q i=>?_) (λb o q=>?_) ⟨e,à,dx,Z,z,d,l,⟨⟨L,vs,(c e (j1 ne)).trans k,r,G,j,a5,C⟩,⟨ne,_,_,u,e1,hd,?_,è⟩,?_⟩⟩)
 ·have:b≠à:=by rintro rfl;rw[d] at q;injection q
  exact dQ o' ((c b this).trans i) (.refl _) (λH=>Z)
 ·have i:=x.st b o q;refine(c b ?_).trans i;have:=t _ _ q;rintro rfl;rw[d] at this;injection this
 ·have:=(q5.mp b3).1;simp[this]
 ·exact iU fu λsl n k1 k2 k3 t1 t2 t3 U V h3 q=>IK sl n k1 k2 k3 t1 t2 t3 U V h3 ((c _ m).trans q)
def C1(L:Lv g A s φ H)(x:Flt g ù F s φ w f p v s')(h:∀a,Flt g ù (λu=>u=(env.frame.elim .none λf=>sC f)) s φ w f p v a->E v a):Q4 (ej g.prog g.w) A env E v s':=by
 refine bV (nP (A:=A) (E:=E) (u:=(env.frame.elim .none λf=>sC f)) (F':=λu=>u=(env.frame.elim .none λf=>sC f)) (é:=λl a=>E v a) L.st x Z λa q=>h a q) λe z i=>?_;clear x h;subst i;intro j k;refine bV j λm vs c b d=>?_;refine a4 (ib c b d ?_);refine a4 (ib c b d ?_);exact k
structure Raw (g:Gr)(ù:eu->Prop)(s:d2)(φ:Fi)(w:a7)(f p:T)(e:eu)(s':d2):Prop where
 ex:∃dx,s.heap.get? e=Q/\s.heap.get? dx=Q/\
  (∃oe vs,s'.heap.get? e=O oe/\oe.cls=.ref g.N.inv/\oe.dict=O dx/\oe.data=.fields vs/\1<vs.size/\(g.N.exc=Q->vs[2]?=O .none))/\
  ∃sl n k1 k2 k3 t1 t2 t3 U V h3,s'.heap.get? dx=O {dictOf [⟨U,.str ("why":cD) k1,.str (aD w) t1⟩,⟨V,.str ("function":cD) k2,.int f t2⟩,⟨h3,.str ("at":cD) k3,.int p t3⟩] n with slots:=sl}
 eq:∃h' tk,s'={s with heap:=h',toks:=tk}
 aT:bI ù φ s.heap s'.heap
 st:∀b o,g.hT.get? b=O o->s'.heap.get? b=O o
 qv:∀a o,¬cm φ a->¬ù a->¬g.N.Z a->s.heap.get? a=O o->s'.heap.get? a=O o
def Raw.step(x:Raw g ù s φ w f p e s')(k:∀b o L,s.heap.get? b=O o->s'.heap.get? b=O L->∃c,W.get? b=O c/\jO L c/\(¬g.N.Z b->c=L))(st:∀b o,g.hT.get? b=O o->W.get? b=O o)(ex:∃e é dx,v=.ref e/\s.heap.get? e=Q/\s.heap.get? é=Q/\s.heap.get? dx=Q/\ExcAt g.N W e é dx w f p F'):Flt g ù F' s φ w f p v {s' with heap:=W,toks:=tk}:=by
 refine Bb s' (x.eq) λh' t=>⟨ex,⟨W,tk,Z⟩,⟨λa o l y e=>?_,λa o e=>?_,x.aT.dW,λa o es n y l e d=>?_⟩,st,λa o l y z e=>?_⟩
 ·exact ak (x.aT.keep a o l y e) λL i q=>cR (k a o L e i) λc h j m=>ay c h (q.trans j)
 ·exact aH (x.aT.lQ a o e) λL i=>ak (k a o L e i) λc h m=>bq c h
 ·exact dp (x.aT.kU a o es n y l e d) λL e8 n' i r=>cR (k a o L e i) λc h j m=>ed c e8 n' h (j.data.trans r)
 ·haveI i:=x.qv a o l y z e;refine cR (k a o o e i) λc h m q=>?_;rw[q z] at h;exact h
def Flt.raw(x:Flt g ù F s φ w f p (.ref e) s'):Raw g ù s φ w f p e s':=by
 refine cps λr c=>?_;refine fg (x.ex) λo t l a k q j b=>?_;obtain⟨⟨y,vs,m,d,n,h,a5,i⟩,_,z⟩:=b;injection a with a;subst a
 exact c (⟨⟨l,k,j,⟨y,vs,m,d,n,h,(q5.mp a5).1,i⟩,z⟩,x.eq,x.aT,x.st,x.qv⟩)
def sH(L:Lv g A s φ H)(W:A.frames=O (env::outer))(hf:env.frame=O env.locals)(v:Raw g ù s φ w f p e s')(h:∀cA,Flt g ù (λu=>u=sC env.locals) s φ w f p (.ref e) cA->û () cA):er (ej g.prog g.w) A (do UG (.ref e) 1 (<-Rn é (<-frameOf env) .none (sC env.locals) .none (<-UJ env.locals è))) û E s':=by
  obtain⟨ö,D,ñ,⟨oe,vs,k,a2,a3,x,a5,a6⟩,sl,nn,k1,k2,k3,t1,t2,t3,g1,g2,g3,qd⟩:=v.ex;have G:mB g.N g.hT s'.heap φ (env::outer):=by
   refine s8 (L.Bn) λâ à r y y y y y f7=>?_;rw[W] at r;injection r with r;injection r with r e2;subst r e2
   exact f7.aT v.aT (.refl ..)
  have ê:=G.fun;refine a4 (wpAny_frameOf_fun W ê hf λa j=>?_);refine a4 (wpAny_entryPlaceOf λpl je=>?_);refine a4 (DT ?_ (je.sizeOk5 _ _ _ _ _));have P:e∉(env::outer).filterMap (·.frame):=λd=>by
   obtain⟨_,o,C,I⟩:=ê.mem d;rw[k] at C;injection C with C;subst C;exact I vs x
  generalize ø:({cls:=.type "traceback",dict:=Q,data:=.fields ([é,.ref env.locals,.none,sC env.locals,.none]++(if pl.isEmpty then g5 6 BF else pl)).toArray}:p6)=oN;haveI î:∃ts,oN.data=.fields ts/\ts[3]?=O (sC env.locals):=by
   subst ø;exact ay _ Z Z
  haveI NY:oN.isFreed=aN:=by subst ø;rfl
  have ä:=c1 (h:=a) oN ((j.2.1 e P).trans k);refine wk ä x a5 ?_;have ô:=A3 (hM ((j.2.1 e P).trans k));haveI ü:=RP x (·.setIfInBounds 1 (i4 a.objs.size));have keep:∀b o,b≠e->a.get? b=O o->((a.push oN).update e (oB (·.setIfInBounds 1 (i4 a.objs.size)))).get? b=O o:=λb o m hb=>by
   exact(hE _ _ (j1 m)).trans (c1 _ hb)
  haveI nT:s.heap.get? a.objs.size=Q:=by
   refine az (s.heap.get? a.objs.size) ?_ ?_
   ·intro q;rfl
   ·intro o q;exact aH (v.aT.lQ _ _ q) λo' l=>aH (j.2.2 _ _ l) λsl g7=>hQ (hM g7) (l3 _)
  have K:ö≠e:=by
   clear v h D P ä ô keep;rintro rfl;rw[qd] at k;injection k with k;subst k;injection x
  refine h _ (v.step (tk:=s'.toks) (λb o o' q R=>?_) (λb o q=>?_) ⟨e,a.objs.size,ö,Z,D,nT,ñ,⟨⟨_,_,(kv (oB (·.setIfInBounds 1 (i4 a.objs.size))) ä (QQ ü)),by rw[p6.cls_mapFields];exact a2,?_,ü,?_,?_⟩,⟨ô,oN,î.choose,sC env.locals,((hE (a.push oN) (oB (·.setIfInBounds 1 (i4 a.objs.size))) (j1 ô)).trans (hJ a NY)),î.choose_spec.1,î.choose_spec.2,Z⟩,?_⟩⟩)
  ·have m:b≠e:=by rintro rfl;rw[D] at q;injection q
   by_cases d:b∈(env::outer).filterMap (·.frame)
   ·refine ak (Nl.mp d) λâ U V=>?_;obtain⟨_,L',oo,es,n,i,t,ç,c4,c5,F⟩:=G â U;rw[V] at i;injection i with i;subst i
    have t:=R▸t;injection t with t;subst t
    exact aH (j.2.2 _ _ R) λEc l=>dQ _ (keep _ _ m l) ⟨Ec,Z,λz=>hQ ç (z es n)⟩ (λz=>hQ F z)
   ·exact dQ o' (keep _ _ m ((j.2.1 b d).trans R)) (.refl _) (λy=>Z)
  ·have m:b≠e:=by rintro rfl;have:=L.st _ _ q;injection (D▸this)
   refine keep _ _ m ((j.2.1 b λd=>?_).trans (v.st b o q));rw[(ê.mem d).1] at q;injection q
  ·obtain⟨c,dd,dt,sl⟩:=oe;subst x;exact a3
  ·simp[a5]
  ·exact λq=>by simpa using a6 q
  ·have d:ö∉(env::outer).filterMap (·.frame):=λd=>by
    refine ak (Nl.mp d) λâ U V=>?_;obtain⟨_,L',oo,es,n,i,t,ç,c4,c5,F⟩:=G â U;rw[V] at i;injection i with i;subst i
    refine aH (L.zz _ F) λo l=>?_;rw[ñ] at l;injection l
   exact IK sl nn k1 k2 k3 t1 t2 t3 g1 g2 g3 (keep _ _ K ((j.2.1 _ d).trans qd))
def oK(L:Lv g A s φ H)(t:A.frames=O (env::outer))(l:env.frame=O env.locals)(x:Flt g ù (dr env) s φ w f p v s')(h:∀d,Flt g ù (λu=>u=sC env.locals) s φ w f p v d->ê () d):er (ej g.prog g.w) A (TP v env) ê E s':=by
 refine fg (id x.ex) λe î W y=>?_;subst y;intro G o é z;obtain⟨⟨oe,vs,j,D,è,i,a5,F⟩,⟨ne,oT,ts,fl,m,b2,b3,b4⟩,fu⟩:=z;dsimp only[TP];refine ah l (a4 (ib j i a5 ?_));refine a4 (ib m b2 b3 ?_);rcases b4 with rfl | ⟨P,a,rfl⟩
 rotate_left
 ·have a:=l▸a;injection a with a;subst a
  exact ah (dE (by simp)) (ei (h s' ⟨⟨e,î,W,Z,G,o,é,⟨⟨oe,vs,j,D,è,i,a5,F⟩,⟨ne,oT,ts,_,m,b2,b3,Z⟩,fu⟩⟩,x.eq,x.aT,x.st,x.qv⟩))
 refine bV (nP (A:=A) (E:=E) (u:=.none) (F':=λu=>u=.none) (é:=λâ d=>er (ej g.prog g.w) A (do UG (.ref e) 1 (<-Rn (.ref î) (<-frameOf env) .none (sC env.locals) .none (<-UJ env.locals ((i4 î) != .none)))) ê E d) L.st x Z λd q=>sH L t l q.raw h) λK à k n C=>?_;refine bV n λI N c b r=>?_;clear n;injection k with k;subst k
 have c:=j▸c;injection c with c;subst c
 have b:=i▸b;injection b with b;subst b
 cases(r.symm.trans a5);exact a4 C
def AN(L:Lv g A s φ H)(m:A.frames=O (env::outer))(j:env.frame=O env.locals)(x:Raw g ù s φ w f p e s')(hv:∃y vs,s'.heap.get? e=O y/\y.data=.fields vs/\vs[1]?=O .none)(h:∀a,Flt g ù Fn s φ w f p (.ref e) a->W () a):er (ej g.prog g.w) A (Vy env (.ref e)) W E s':=by
 refine bV hv λy vs c b d=>?_;delta Vy TP;refine ah j (a4 (a4 (ib c b d ?_)));refine sH L m j x λz k=>?_;refine bV (nP (A:=A) (E:=E) (u:=.none) (F':=Fn) (é:=W) L.st k Z λa q=>h a q) λn é q i l=>?_;refine bV i λy vs c b d=>?_;clear i;injection q with q;subst q
 refine a4 (ib c b d ?_);exact l
def AP(L:Lv g A s φ H)(i:A.frames=O (env::outer))(k:env.frame=O env.locals)(x:Flt g ù (dr env) s φ w f p v s'){W:Unit->d2->Prop}(h:∀a,Flt g ù Fn s φ w f p v a->W () a):er (ej g.prog g.w) A (Vy env v) W E s':=by
 refine a4 (oK L i k x λy b=>?_);refine dc v (nP (A:=A) (E:=E) (u:=.none) (F':=Fn) (é:=W) L.st b Z λa q=>h a q) λe é m c=>bV m λz vs l d j=>a4 (ib l d j ?_);exact c
end
def bK.qI{W:eu->Prop}(a:bK é N hT ag ai H L s)(n:∀b,W b->ag.heap.get? b=Q)(g:∀b,W b->hT.get? b=Q)(nl:∀b,W b->¬cm s b)(c:∀b o,¬W b->L.heap.get? b=O o->h'.get? b=O o)(ns:∀b o,W b->L.heap.get? b=O o->∀ws n,o.data≠.seq ws n):bK é N hT ag ai H {L with heap:=h',toks:=tk} s/\Sq s L.heap h':=by
 haveI q:Sq s L.heap h':=λb o ws k l e d=>c b o (λx=>ns b o x e ws k d) e;refine d9 (a.eq) λp j m=>?_;clear ns;subst m;have ne:∀b o,ag.heap.get? b=O o->¬W b:=λb o e x=>by rw[n b x] at e;injection e
 refine au ⟨⟨h',tk,Z⟩,⟨λb o l x e=>?_,λb o e=>?_,a.aT.dW,λb o es n x l e d=>?_⟩,a.bw,a.rl.Je (λb o l e=>c b o (λx=>nl b x l) e) q,λb o e=>?_,λb o l x z e=>?_⟩ q
 ·exact ak (a.aT.keep b o l x e) λy f h=>ay y (c b y (ne b o e) f) h
 ·exact aH (a.aT.lQ b o e) λy f=>bq y (c b y (ne b o e) f)
 ·exact dp (a.aT.kU b o es n x l e d) λy e8 n' f i=>ed y e8 n' (c b y (ne b o e) f) i
 ·exact c b o (λx=>by rw[g b x] at e;injection e) (a.st b o e)
 ·exact c b o (ne b o e) (a.ex b o l x z e)
def En.qI{W:eu->Prop}(n:En g L s φ ρ)(U:¬W L.locals)(V:∀y c,L.kindOf y=O .cell->L.cells.lookup y=O c->¬W c)(d:∀b o,¬W b->s.heap.get? b=O o->h'.get? b=O o)(q:Sq φ s.heap h'):En g L {s with heap:=h',toks:=tk} φ ρ:=by
 refine⟨n.hk,n.gl,n.bt,?_,n.nl,λx k=>?_⟩
 ·refine ak (n.ns) λm i hv=>dp i λo es r e hd=>ay m ⟨o,es,r,d _ _ U e,hd⟩ (λx v l h hk=>?_);exact ak (hv x v l h hk) λw a b=>ay w a (b.eN q)
 ·refine fg (n.cl x k) λc o dZ f p z u a5=>iw c o dZ f (d _ _ (V x c k f) p) z u (λy v e j=>?_);exact ak (a5 y v e j) λw t b2=>ay w t (b2.eN q)
structure Turn (g:Gr)(A:hX)(ag:d2)(ai:Fi)(it:cc)(l:J AV)(tgt:Expr)(W fp:J eu)(St:S->d1->Prop):Prop where
 fresh:∀b∈W,ag.heap.get? b=none
 at_:∀j h,St j h->∀b∈W,∃o vs,h.get? b=O o/\o.data=.fields vs
 Jl:∀b∈fp,b∈W\/b∈dz g.N\/((∃o,ag.heap.get? b=O o)/\¬cm ai b/\∀j h,St j h->∃o ws n,h.get? b=O o/\o.data=.seq ws n)
 frame:∀j h h',St j h->(∀b∈fp,∀o,h.get? b=O o->h'.get? b=O o)->St j h'
 item:∀(j:S) (x:AV) (s':d2) (φ':Fi) (H':Hp) (Q:cc->d2->Prop) (E:cc->d2->Prop),l[j]?=O x->St j s'.heap->Rl g.N g.hT s'.heap φ' H'->(∀y u,VR g.N ag.heap ai y u->VR g.N s'.heap φ' y u)->
  (∀v jd tk,(∀b o,b∉W->s'.heap.get? b=O o->jd.get? b=O o)->VR g.N jd φ' x v->St (j+1) jd->Q v {s' with heap:=jd,toks:=tk})->
  wpAny (ej g.prog g.w) A (M9 it) (λr aV=>∃v,r=O v/\er (ej g.prog g.w) A (Qu tgt it v) (λ_ eB=>Q v eB) E aV) E s'
 done:∀(s':d2) (Q:aI cc->d2->Prop) (E:cc->d2->Prop),St l.length s'.heap->(∀jd tk,(∀b o,b∉W->s'.heap.get? b=O o->jd.get? b=O o)->Q none {s' with heap:=jd,toks:=tk})->
  wpAny (ej g.prog g.w) A (M9 it) Q E s'
section
variable{fa:a7->aI eu}{C:CS}{d:S}{g:Gr}{k:S}{A:hX}{s:d2}{φ:Fi}{H:Hp}{ρ:Loc}{env:Env}{E:cc->d2->Prop}
set_option tactic.hygienic true in
def C2(c:Ctx g fa d A s φ H env ρ)(é:SF g env)(a:yf env.scope.names m i=X)(hb:eS m v ρ=O j)(r:VR g.N s.heap φ v w)(h:∀q,bK (Xf env) g.N g.hT s φ H q φ->Ctx g fa d A q φ H env j->W () q):er (ej g.prog g.w) A (assign i env w) W E s:=by
 cases m with
 | one x=>
  refine bh i (eJ a) λp y=>?_;simp only[eS,fx] at hb;subst hb;exact Ez (gi c é y r h)
 | many z=>
  refine aP i (nH a) λL f e=>?_;intro a;cases v<;>try (dsimp only[eS] at hb;injection hb)
  revert hb;refine aJ ?_ ?_<;>intro _ hb
  ·rename_i b;injection hb with hb;subst hb
   exact Ew c é (b3 a).1 r b h
  ·injection hb
def Out.C3(f:FC g fa d A s φ H env ρ)(o:Out g (Xf env) (dr env) é s φ r W E):Out g (Xf env) (dr env) é s φ r W (notedBy (ej g.prog g.w) A env λe m=>Q4 (ej g.prog g.w) A env E e m):=by
 refine aH (f.top) λj a=>?_;cases r with
 | ok x z=>exact o
 | bH w p q=>
  intro v m x;refine oK f.c.L a f.S.fr x λL i=>C1 f.c.L i λy h=>o v y (h.wide λu b=>.inr ⟨env.locals,f.S.fr,?_⟩);rw[b,f.S.fr];rfl
 | bad=>exact o
set_option tactic.hygienic true in
def EB{m:pF}{ms:J MS}{ag aV:d2}{ai:Fi}{è:Hp}{it:cc}{l:J AV}{te:Expr}{W fp:J eu}{St:S->d1->Prop}{ü:J ea}{ô:Flow->d2->Prop}(hs:pN fa C d ms)(f:FC g fa d A ag ai è env ρ)(û:Turn g A ag ai it l te W fp St)(mt:yf env.scope.names m te=X)(mb:lO env.scope.names ms ü=X)(hx:d5 ms=X->g.N.exc=Q)(tA:ba g.N g.hT ag ai è aV ai)(rU:St 0 aV.heap)(o:Out g (Xf env) (dr env) (VS g env) ag ai (forLoop (λρ H=>execs GG C k ms ρ H) m l ρ è) ô E):B2 (ej g.prog g.w) A (.forLoop te it ü [] env) (λr s'=>match r with | .ok f=>ô f s' | .error e=>Q4 (ej g.prog g.w) A env E e s') aV:=by
 have nT:∀b,b∈W->g.hT.get? b=Q:=λb hb=>by
  refine az (g.hT.get? b) ?_ ?_
  ·intro q;rfl
  ·intro o q;have:=f.c.L.st _ _ q;exact nomatch (û.fresh b hb).symm.trans this
 have nZ:∀b,b∈W->¬g.N.Z b:=λb hb z=>aH (f.c.L.zz _ z) λo e=>nomatch (û.fresh b hb).symm.trans e
 have nF:¬env.locals∈W:=λhb=>by
  refine ak (f.c.n.ns) λm Sy _=>?_;refine dp Sy λo es ep e _=>?_;exact nomatch (û.fresh _ hb).symm.trans e
 have nC:∀y c,env.kindOf y=O .cell->env.cells.lookup y=O c->¬c∈W:=λy c U V hb=>by
  refine gA (f.c.n.cl y U) λc' o dZ G a2 _=>?_;rw[V] at G;injection G with G;subst G
  exact nomatch (û.fresh _ hb).symm.trans a2
 haveI nX:∀b,b∈W->¬Xf env b:=λb hb h=>h.elim (λe=>nF (e▸hb)) λ⟨y,e⟩=>nC y b (f.S.ck y b e) e hb;have kept:∀{j:S}{s' cA:d2}{L CW:Fi}{H' N1:Hp}{é:Loc},FC g fa d A s' L H' env é->bK (Xf env) g.N g.hT ag ai H' s' L->bK (Xf env) g.N g.hT s' L N1 cA CW->(∀b∈W,¬cm L b)->St j s'.heap->St j cA.heap:=by
  intro j s' cA L CW H' N1 é f' a ö nl st;refine û.frame j _ _ st λb hb o e=>?_;rcases û.Jl b hb with h | h | ⟨⟨ao,yO⟩,U,V⟩
  ·exact ö.ex _ _ (nl b h) (nX b h) (nZ b h) e
  ·exact y5 f'.c.L ö f.S.Jg b h o e
  ·refine dp (V j _ st) λo' ws n' s dd=>?_;rw[e] at s;injection s with s;subst s
   exact ö.aT.seq (a.bw.gZ U yO) e dd
 have Vr:∀{j:S}{h:d1},St j h->∀b o,b∈W->h.get? b=O o->∀ws n,o.data≠.seq ws n:=λst b o hb e ws n q=>by
  refine bG (û.at_ _ _ st b hb) λo' vs s d'=>?_;rw[s] at e;injection e with e;subst e;rw[d'] at q;injection q
 refine codeAny_forLoop_any (λn s'=>∃j L H' é,j+n=l.length/\bK (Xf env) g.N g.hT ag ai H' s' L/\En g env s' L é/\St j s'.heap/\(∀b∈W,¬cm L b)/\
  Out g (Xf env) (dr env) (VS g env) ag ai (forLoop (λρ H=>execs GG C k ms ρ H) m (l.drop j) é H') ô E) ?_ l.length
  ⟨0,ai,è,ρ,by simp,f.up tA,(f.a tA).c.n,rU,λb hb=>bg f.c.L.rl (û.fresh b hb),by simpa using o⟩
 rintro n s' ⟨j,L,H',é,K,a,ê,st,nl,o⟩;refine DV (l.drop j) ?_ ?_
 ·intro t;have EC:j=l.length:=by
   have:=Q5.mp t;exact Ze K this
  subst EC;have o:=t▸o;refine û.done s' _ _ st λjd tk D=>?_;refine aq (a.qI (W:=(·∈W)) (tk:=tk) û.fresh nT nl D (Vr st)) λù q=>?_;exact qW (o.now ù ⟨ê.qI nF nC D q,Z⟩)
 ·intro x r t;haveI Vs:j<l.length:=by
   have:l.drop j≠[]:=by rw[t];simp
   rw[ne_eq,Q5] at this;exact Y7 this
  haveI hy:=by
   have:=J.getElem?_drop (xs:=l) (i:=j) (j:=0);rw[t] at this;simpa using this.symm
  haveI hr:l.drop (j+1)=r:=by
   rw[<-TH,t];rfl
  haveI o:=t▸o;dsimp only[forLoop] at o;refine az (eS m x é) ?_ ?_
  ·intro hb;rw[hb] at o;exact o.elim
  intro ä hb;rw[hb] at o;haveI o:Out g (Xf env) (dr env) (VS g env) ag ai ((execs GG C k ms ä H').bind λp H=>match p with
   | (.next,cN)=>forLoop (λρ H=>execs GG C k ms ρ H) m r cN H
   | (.ret r,cN)=>.ok (.ret r,cN) H) ô E:=o
  refine x6 (û.item j x s' L H' _ _ hy st (f.pI a ê).c.L.rl (λy u h=>h.mono a.aT a.bw) λv jd tk D vx à=>?_) (λrr aV ç=>by refine bh rr ç ?_;intro v ç;exact ç) λ_ _ e=>e;refine aq (a.qI (W:=(·∈W)) (tk:=tk) û.fresh nT nl D (Vr st)) λù q=>?_;haveI î:=f.pI ù (ê.qI nF nC D q);refine C2 î.c f.S mt hb vx λtx P R=>?_;haveI I:=ù.trans P;refine hs g k A tx L H' ä env ü _ _ mb hx (⟨R,f.S,f.top⟩) ?_;have F:=Out.C3 (⟨R,f.S,f.top⟩) (o.shift I);cases â:execs GG C k ms ä H' with
  | bH w p q=>rw[â] at F;exact F
  | bad=>haveI F:=â▸F;exact F
  | ok p H5=>
   obtain⟨pf,N2⟩:=p;rw[â] at o;rintro fl y6 C5 a5 ⟨ED,hf⟩;clear â;cases pf with
   | next=>
    have:fl=.next:=hf
    clear hf;subst this;refine⟨n - 1,MM K Vs,j+1,C5,H5,N2,MN K Vs,(I.trans a5),ED,kept (⟨R,f.S,f.top⟩) I a5 nl (kept î ù P nl à),λb hb=>?_,hr▸o⟩;exact bG (û.at_ _ _ (kept î ù P nl à) b hb) λo' vs s d'=>a5.bw.gZ (nl b hb) s
   | ret v=>
    exact bh fl hf λw vw=>o.now (I.trans a5) ⟨ED,w,Z,vw⟩
end
section
variable{aC:nz}{w:oM}{A:hX}{N:cz}{s:d2}{φ:Fi}{E:cc->d2->Prop}
def AQ{I:eu}(b:s.heap.get? I=O o)(hc:o.cls=.type c)(d:c∈["list_iterator","tuple_iterator","range_iterator","list_reverseiterator"])(h:m () s):er (ej aC w) A (Qu i (.ref I) v) m E s:=by
 have g:∀a,er (ej aC w) A (do
   let o <-load I
   match o.cls,o.data with
   | .type n,.fields vs=>
    if["enumerate","zip","dict_itemiterator","dict_reverseitemiterator","odict_iterator","itertools.zip_longest","itertools.pairwise"].contains n&&vs[0]? == O (sC a) then
     rule "for.unpacks-the-owned-tuple"
     updateField I 0 .none
   | _,_=>pure ()) m E s:=λa=>by
  refine a4 (S8 b ?_);clear b;obtain⟨j,e,k,os⟩:=o;obtain rfl:j=.type c:=hc;cases k with
  | fields vs=>
   show er _ _ (if _ then _ else pure ()) _ _ _;rw[dm];exact ei h;intro q;simp only[e3] at q;have:∀c∈["list_iterator","tuple_iterator","range_iterator","list_reverseiterator"],["enumerate","zip","dict_itemiterator","dict_reverseitemiterator","odict_iterator","itertools.zip_longest","itertools.pairwise"].contains c=aN:=by decide
   exact hQ ((this c d)▸q).1 (by decide)
  | _=>exact ei h
 cases i with
 | Tuple=>cases v<;>first | exact ei h | exact g _
 | List=>cases v<;>first | exact ei h | exact g _
 | _=>exact ei h
def GH{i:S}(q:cM N A s.heap φ)(g:∀x,N.exc=O x->x.e≠W/\x.dx≠W)(f:IsEnum s.heap e W i é)(z:s.heap.IsListIter W l i)(r:s.heap.IsList l L)(m:L[i]?=Q)(j:∀h',L3 W s.heap h'->è Q {s with heap:=h'}):er (ej aC w) A (M9 (.ref e)) è E s:=by
 haveI hT:s.TypeIs (.ref e) "enumerate":=⟨_,f,Z⟩;refine a4 (yl (kP (name:=aD "__next__") hT F.slot_enumerate_next
  (oX F.slot_enumerate_next hT F.entry_enumerate_next ?_ (F.args_enumerate_next_1 _))))
 show er _ _ (field (.ref e) 2 >>= _) _ _ _;refine a4 (ib f Z (x:=.ref W) Z ?_);obtain⟨t,k,_,nl,h⟩:=r;delta Ui;dsimp only;refine a4 (cR (id z) λo c hc hd=>?_);refine a4 (kP (name:=aD "__next__") z.typeIs AA
  (oX AA z.typeIs Ri ?_ (RH _)))
 show er _ _ (field (.ref W) 0 >>= _) _ _ s;refine a4 (ib c hd (x:=.ref l) Z ?_);refine a4 (ib c hd (x:=.int i 0) Z ?_);refine a4 (L0 k h ?_);simp only[mG,m];refine a4 (Jm (a4 (wk c hd (by simp) ?_)));refine ie (N:=N) (φ:=φ) ((q.keep (.refl ..) λy d=>?_).in1.in1) λa h' hk ⟨u,n,p⟩=>?_
 ·exact au (λo e=>((lW ..).extBut) _ _ (g y d).1 e) (λo e=>((lW ..).extBut) _ _ (g y d).2 e)
 ·refine a4 (x4 (T:="StopIteration") (b:=X) ⟨_,n,p⟩ BX ?_);exact ei (j _ λb o hb e=>hk _ _ ((lW ..).extBut _ _ hb e))
end
section
variable{fa:a7->aI eu}{C:CS}{d:S}{g:Gr}{k:S}{A:hX}{s ag:d2}{φ ai:Fi}{H H₁:Hp}{ρ:Loc}{env:Env}{E:cc->d2->Prop}{l:J AV}{te:Expr}{I:eu}{fp:J eu}{St:S->d1->Prop}{P:S->cc->Prop}
def Turn.tD(W:Walks g.prog g.w A I fp [I] l.length P St)(fresh:ag.heap.get? I=Q)(d:∀j h,St j h->∃o vs c,h.get? I=O o/\o.data=.fields vs/\o.cls=.type c/\c∈["list_iterator","tuple_iterator","range_iterator","list_reverseiterator"])(Jl:∀b∈fp,b=I\/b∈dz g.N\/((∃o,ag.heap.get? b=O o)/\¬cm ai b/\∀j h,St j h->∃o ws n,h.get? b=O o/\o.data=.seq ws n))(vr:∀j v,j<l.length->P j v->∃x,l[j]?=O x/\∀h L,(∀y u,VR g.N ag.heap ai y u->VR g.N h L y u)->VR g.N h L x v):Turn g A ag ai (.ref I) l te [I] fp St where
 fresh:=λb hb=>ah (gg.mp hb) (fresh)
 at_:=λj h st b hb=>by
  exact(gg.mp hb)▸gA (d j h st) λo vs c U V p=>ew o vs U V
 Jl:=λb hb=>(Jl b hb).imp (λh=>by exact h▸.head _) id
 frame:=W.frame
 item:=λj x s' L H' à E i st rl mono k=>by
  have m:=(fb.mp i).1;refine W.item j s' _ _ m st λv h' tk q é f=>⟨v,Z,?_⟩;refine jH (d _ _ é) λo vs c U V h3 h4=>AQ (s:={s' with heap:=h',toks:=tk}) U h3 h4 (k v h' tk f ?_ é);refine ak (vr j v m q) λC a hv=>?_;rw[i] at a;injection a with a;subst a
  refine VR.eN (h:=s'.heap) (λb o ws n nl e dd=>f b o (λhb=>?_) e) (hv s'.heap L mono);rw[gg.mp hb] at e;refine gA (d _ _ st) λo' z è t r p=>?_;rw[t] at e;injection e with e;subst e;injection (r▸dd)
 done:=λs' à E st k=>W.done s' à E st k
def Turn.Sz(K:Wk g.prog g.w A g.N I fp l.length (Eo g ag ai l) St)(fresh:ag.heap.get? I=Q)(i:∀b∈fp,(b=I\/∃o,ag.heap.get? b=O o)/\¬cm ai b):Turn g A ag ai (.ref I) l te [I] fp St:=by
 refine .tD K.W fresh (λj h st=>?_) (λb hb=>?_) λj v f a=>?_
 ·refine bG (K.at_ j h st) λo vs U V=>bV (K.cl j h st) λq c h3 h4 h5=>?_;rw[U] at h3;injection h3 with h3;subst h3
  exact vP o vs c U V h4 h5
 ·refine eE (K.fp b hb) (λh=>?_) λd=>eE d (λh=>?_) λh=>?_
  ·exact .inl h
  ·exact .inr (.inl h)
  ·refine eE ((i b hb).1) (λe=>?_) λe=>?_
   ·exact .inl e
   ·exact .inr (.inr ⟨e,(i b hb).2,h⟩)
 ·exact ak a λx U V=>ay x U (λh p m=>m x v V)
def qJ(L:Lv g A s φ H):∀b∈dz g.N,(∃o,s.heap.get? b=O o)/\¬cm φ b:=λb hb=>by
 haveI hd:=L.hd;unfold cM at hd;delta dz at hb;refine az g.N.exc ?_ ?_
 ·intro q;have hb:=q▸hb;cases hb
 ·intro x q;rw[q] at hb hd;simp only[a8,eA,hK] at hb;refine bG (hd.ob) λh vs a c=>iU (hd.fu) λsl n i j m p y z U V h3 e=>?_;rcases hb with rfl | rfl
  ·exact au ⟨_,a⟩ hd.le
  ·exact au ⟨_,e⟩ hd.ld
def qK(a b:T):p5 a b (-1)=((a - b).toNat:T):=by
 delta p5;refine ah (dm (by decide)) ?_
 split
 ·simp only[show -(-1:T)=1 from Z,T.ediv_one];exact Zg ‹_›
 ·exact Zh ‹_›
def qM(a b:T):p5 a b 1=((b - a).toNat:T):=by
 rw[rangeSize_one];split
 ·exact aao ‹_›
 ·exact aap ‹_›
def GI{b:T}(c:-1048576<=a/\a<=1048576)(hb:-1048576<=b/\b<=1048576):KG a b (-1)=X:=by
 delta KG;rw[qK];simp only[kR.Range.rangeFitsLong,e3,nr,h9];rw[dm (by decide)];simp only[h9,e3];exact⟨⟨⟨⟨F3 (by decide) c,F3 (by decide) hb⟩,by decide⟩,wd (by decide) (jl _),qb (aau c.2 hb.1) (by decide)⟩,.inr (F3 (by decide) (by rw[show(-1+1:T)=0 from Z,p7];exact hb))⟩
def C6(L:Lv g A ag ai H₁)(a c:T)(n:S)(k:l.length=n)(hv:∀(j:S),j<n->l[j]?=O (.int (a+(j:T)*c))):Turn g A ag ai (.ref ag.heap.objs.size) l te [ag.heap.objs.size] (ag.heap.objs.size::dz g.N) (λi h=>Sv h ag.heap.objs.size (a+(i:S)*c) ((n:T) - (i:S)) c/\cM g.N A h []):=by
 haveI p:ag.heap.objs.size∉dz g.N:=λhb=>by refine aq (qJ L _ hb) λf m=>?_;refine aH f λo e=>?_;rw[aF] at e;injection e
 subst k;refine .tD (Nj _ p a c l.length) (aF _) (λj h st=>⟨_,_,_,st.1,Z,Z,by decide⟩) (λb hb=>?_) λj v d ⟨t,e⟩=>⟨_,hv j d,λh q m=>by refine ah e ?_;exact .fO _ _⟩;refine eE (a8.mp hb) (λh=>?_) λh=>?_
 ·exact .inl h
 ·exact .inr (.inl h)
end
section
variable{fa:a7->aI eu}{C:CS}{d:S}{g:Gr}{k:S}{A:hX}{s ag:d2}{φ ai:Fi}{H H₁:Hp}{ρ:Loc}{env:Env}{E:cc->d2->Prop}{l:J AV}{te:Expr}
def EF(l:J AV):(kS l).length=l.length:=by simp[kS]
def EG(l:J AV)(j:S)(x:AV)(h:(kS l)[j]?=O x):∃y,l[j]?=O y/\x=.tup [.int j,y]:=by
 delta kS at h;simp only[gX,J.getElem?_zipIdx] at h;refine az (l[j]?) ?_ ?_
 ·intro q;rw[q] at h;injection h
 ·intro y q;rw[q] at h;simp at h;exact ay y Z h.symm
def GJ(L:Lv g A ag ai H₁)(k:ag.heap.IsList a z)(nl:¬cm ai a)(r:aL g.N ag.heap ai l z.toList):Turn g A ag ai (.ref ag.heap.objs.size) l.reverse te [ag.heap.objs.size] (ag.heap.objs.size::a::dz g.N)
   (λi h=>i<=z.size/\h.IsRevIter ag.heap.objs.size a ((z.size:T) - 1 - (i:T))/\h.IsList a z/\cM g.N A h []):=by
 haveI nx:ag.heap.objs.size∉dz g.N:=λhb=>by refine aq (qJ L _ hb) λp y=>?_;refine aH p λo e=>?_;rw[aF] at e;injection e
 haveI f:a<ag.heap.objs.size:=let ⟨_,e,_⟩:=k;hM e;haveI d:=r.len;simp only[g6] at d;haveI W:=aa1 (N:=g.N) (aC:=g.prog) (w:=g.w) (A:=A) ag.heap.objs.size a (jB f) nx z;haveI e1:z.size=l.reverse.length:=by simp[d]
 refine .tD (P:=λi v=>z[z.size - 1 - i]?=O v) (by simp only[<-e1];exact W) (aF _) (λj h st=>?_) (λb hb=>?_) λj v s t=>?_
 ·exact cR (st.2.1) λo q hc hd=>vP o _ _ q hd hc (by decide)
 ·refine eE (a8.mp hb) (λh=>?_) λh=>?_
  ·exact .inl h
  ·refine eE (a8.mp h) (λh=>?_) λh=>?_
   ·clear f W hb;subst h;exact .inr (.inr ⟨let ⟨o,e,_⟩:=k;⟨o,e⟩,nl,λj h st=>let ⟨o,e,_,n,hd⟩:=st.2.2.1;⟨o,z,n,e,hd⟩⟩)
   ·exact .inr (.inl h)
 ·have c:=by simpa using s
  haveI U:l.reverse[j]?=l[l.length - 1 - j]?:=(nL c);refine ak (r.get (ee (Bh c))) λx hv u=>?_;have:O v=O x:=by
   simp only[<-t,<-hv,d];simp
  clear hv;injection this with this;subst this
  exact ay _ (U.trans (ee (Bh c))) (λh è m=>m _ _ u)
def EH{p:Pos}(L:Lv g A ag ai H₁)(F:ag.heap.IsList a ws)(nl:¬cm ai a)(r:aL g.N ag.heap ai l ws.toList):Turn g A ag ai (.ref (ag.heap.objs.size+1)) (kS l) (.Tuple es kk p) [ag.heap.objs.size+1,ag.heap.objs.size] ((ag.heap.objs.size+1)::ag.heap.objs.size::a::dz g.N)
   (λi h=>(∃è,IsEnum h (ag.heap.objs.size+1) ag.heap.objs.size i è)/\h.IsListIter ag.heap.objs.size a i/\h.IsList a ws/\cM g.N A h []):=by
 have nx:∀b,ag.heap.objs.size<=b->b∉dz g.N:=λb hb h=>by
  refine aq (qJ L _ h) λP G=>aH P λo e=>?_;rw[j3 hb] at e;injection e
 haveI z:a<ag.heap.objs.size:=let ⟨_,e,_⟩:=F;hM e;haveI ê:=r.len;generalize H:ag.heap.objs.size=I at *;haveI w:=SK I;haveI D:=jB (jc z);haveI C:=jB z;have fr:∀b,I<=b->ag.heap.get? b=Q:=λb hb=>j3 (H▸hb);refine⟨λb hb=>?_,λj h st b hb=>?_,λb hb=>?_,λj h h' st m=>?_,λj x s' à H' ô E R st rl mono k=>?_,λs' ô E st k=>?_⟩
 ·rcases a8.mp hb with rfl | hb
  ·exact fr _ (o7 _)
  ·refine ah (gg.mp hb) ?_;exact fr _ (gk _)
 ·rcases a8.mp hb with rfl | hb
  ·exact aH (st.1) λè c=>ew _ _ c Z
  ·rw[gg.mp hb];refine cR (st.2.1) λo d G hd=>?_;exact ew o _ d hd
 ·rcases a8.mp hb with rfl | hb
  ·exact .inl (by simp)
  ·clear H nx z w D C fr;rcases a8.mp hb with rfl | hb
   ·exact .inl (by simp)
   ·rcases a8.mp hb with rfl | hb
    ·exact .inr (.inr ⟨let ⟨o,e,_⟩:=F;⟨o,e⟩,nl,λj h st=>let ⟨o,e,_,n,hd⟩:=st.2.2.1;⟨o,ws,n,e,hd⟩⟩)
    ·exact .inr (.inl hb)
 ·refine eW st λä é f d=>?_;refine aH ä λè c=>?_;exact pV ⟨è,m (I+1) (by simp) _ c⟩ (é.at λo e=>m I (by simp) o e) (f.at λo e=>m a (by simp) o e) (d.fp (.refl ..) λb hb o e=>m b (by simp[hb]) o e)
 ·refine ak (EG l j x R) λy â ç=>?_;subst ç;refine eW st λü é f d=>aH ü λè c=>?_;refine ak (r.get â) λv hv î=>?_;haveI sD:ws[j]?=O v:=by simpa using hv
  refine wpAny_pyNext_enum_item c é f sD w λh' û ö hT jz hk=>⟨_,Z,?_⟩;refine wpAny_letOwnedTupleGo_enum û λh3 t ù=>?_;haveI K:I+1<s'.heap.objs.size:=hM c;have keep:∀b o,b∉[I+1,I]->s'.heap.get? b=O o->h3.get? b=O o:=λb o hb e=>by
   simp only[a8,eA,hK,A0] at hb;exact ù.extBut b o hb.1 (hk b o hb.1 hb.2 e)
  haveI s:h3.get? s'.heap.objs.size=O {cls:=.type "tuple",data:=.seq #[.int j s'.toks,v]}:=ù.extBut _ _ (A3 K) hT;refine k (.ref s'.heap.objs.size) h3 (s'.toks+1) keep ?_ ⟨⟨_,by simpa using t⟩,ö.at λo e=>(ù.2 I w.symm).trans e,f.at λo e=>keep a o (by simp[D,C]) e,d.fp (.refl ..) λb hb o e=>?_⟩
  ·refine hG _ (#[.int j s'.toks,v]) Z (bg rl (aF _)) ⟨_,s,by simp[aZ]⟩ (.cons (.fO _ _) (.cons ?_ .nil));refine VR.eN (h:=s'.heap) (λb o W n ñ e dd=>keep b o (λhb=>?_) e) (mono _ _ î);rcases a8.mp hb with rfl | hb
   ·rw[c] at e;injection e with e;subst e;injection dd
   ·rw[gg.mp hb] at e;refine cR é λo' U G V=>?_;rw[U] at e;injection e with e;subst e;injection (V▸dd)
  ·refine keep b o (λu=>?_) e;clear e;rcases a8.mp u with rfl | u
   ·exact nx _ (o7 _) hb
   ·rw[gg.mp u] at hb;exact nx _ (gk _) hb
 ·refine eW st λø é f d=>aH ø λè c=>?_;rw[EF] at c é;refine GH (N:=g.N) (φ:=[]) d (yP (nx _ (gk _))) c é f (by rw[<-ê];simp) λh' hk=>?_;exact k h' s'.toks λb o hb e=>hk b o (λq=>hb (by simp[q])) e
end
section
variable{fa:a7->aI eu}{C:CS}{d:S}{g:Gr}{k:S}{A:hX}{s:d2}{φ:Fi}{H:Hp}{ρ:Loc}{env:Env}{E:cc->d2->Prop}
def By:(ev GG C k e ρ H).bind f=(ct GG C k [e] ρ H).bind λl H=>match l with | [x]=>f x H | _=>.bad:=by
 simp only[F4];cases ev GG C k e ρ H<;>rfl
theorem qN{α:Type}{a:a7}{es:J ME}{fn:Expr}{bs:J Expr}{é:Pos}{j:J AV->Hp->R α}{à:α->Flow->d2->Fi->Prop}{Q':Flow->d2->Prop}{è:cc->d2->Prop}(hB:∀m:ME,BS fa C d m)(f:FC g fa d A s φ H env ρ)(b:cf env.scope.names a fn=X)(t:dH env.scope.names es bs=X)(i:a∈["range","enumerate","reversed"])(o:Out g (Xf env) (dr env) à s φ ((ct GG C k es ρ H).bind j) Q' E)(h:∀l z vs L ai,FC g fa d A L ai z env ρ->aL g.N L.heap ai l vs->Out g (Xf env) (dr env) à L ai (j l z) Q' E->bK (Xf env) g.N g.hT s φ z L ai->er (ej g.prog g.w) A (call (.type a) vs) è E L):er (ej g.prog g.w) A (eval (.Call fn bs [] é) env) è E s:=by
 refine ak (cU b) λp x=>?_;subst x;intro u;haveI hb:Oy (aD a)=O (.type a)/\aD a≠"__name__":=by
  simp only[a8,eA,hK] at i;clear b;clear h;rcases i with rfl | rfl | rfl<;>exact au (by decide +kernel) (by decide +kernel)
 refine vG (xe f.c.G f.c.L f.c.n b (f.c.T.bit a i) hb.1 hb.2 ?_);refine dF (.inr (.inl ⟨_,Z⟩)) (λm u=>hB m) t f.c (o.fQ (W:=lR g) f λl z ws L ai e y v q r=>?_);exact au q.c.X (h l z ws L ai q v r (f.up y))
def j5(a b:T):(fq a b).length=(b - a).toNat:=by simp[fq]
def sI(a b:T):(iH a b).length=(a - b).toNat:=by simp[iH]
def sJ(a b:T)(j:S)(h:j<(b - a).toNat):(fq a b)[j]?=O (.int (a+(j:T)*1)):=by
 delta fq;simp only[gX,uy h];simp
def AR(a b:T)(j:S)(h:j<(a - b).toNat):(iH a b)[j]?=O (.int (a+(j:T)*(-1))):=by
 delta iH;simp only[gX,uy h];simp
 first | exact MO | exact cx AV.int MO
def uK(h:dR x=O l):x=.lst l:=by
 cases x<;>simp[dR] at h;exact cx _ h
def aL.wc{N:cz}{h:d1}{φ:Fi}{i:T}{l:J AV}{vs:J cc}(v:aL N h φ (.int i::l) vs):∃t r,vs=.int i t::r/\aL N h φ l r:=by
 exact dc vs (v.uq) λw r hv a=>aX w hv λt=>ew t r Z a
set_option tactic.hygienic true in
def EI{ø:α->Flow->d2->Fi->Prop}(hB:∀m:ME,BS fa C d m)(G:CE env.scope.names it i=X)(mt:Bm it te=X)(f:FC g fa d A s φ H env ρ)(o:Out g (Xf env) (dr env) ø s φ ((ue GG C k it ρ H).bind kk) Q' E)(h:∀l L ag ai aV N6 W fp St,FC g fa d A ag ai L env ρ->Out g (Xf env) (dr env) ø ag ai (kk l L) Q' E->Turn g A ag ai N6 l te W fp St->ba g.N g.hT ag ai L aV ai->St 0 aV.heap->P N6 aV):er (ej g.prog g.w) A (eval i env) (λx ag=>er (ej g.prog g.w) A (UE x) P E ag) E s:=by
 haveI rb:∀{α β γ:Type} (r:R α) (f:α->Hp->R β) (g:β->Hp->R γ),(r.bind f).bind g=r.bind λa H=>(f a H).bind g:=λr f g=>by cases r<;>rfl
 cases it with
 | seq a=>
  haveI o:Out g (Xf env) (dr env) ø s φ ((ev GG C k a ρ H).bind λx H=>(opt (frozen x) H).bind kk) Q' E:=rb ..▸o;refine(hB a).1 g k A s φ H ρ env i _ E G f.c (o.fQ (W:=VV g) f λx L w ag ai _ af v D F=>?_);exact ak (F.v8) λl hl F=>mX D.c.L v hl λSt fp oI K Vn pM Es qD=>h l L ag ai _ _ _ _ _ D F (.Sz K (aF _) qD) (.keeps D.c.L.rl D.c.L.st _ λ_ _ q=>c1 _ q) Es
 | range es=>
  try clear d;try clear fa
  refine bC i (dS G) λfn bs uG è G=>eW (b4 G) λç ñ ü _=>?_;clear G;obtain rfl:=nE ç;haveI o:Out g (Xf env) (dr env) ø s φ ((ct GG C k es ρ H).bind λl H=>(opt (mx l) H).bind kk) Q' E:=rb ..▸o;refine qN hB f ñ ü (.head _) o λl L vs ag ai D v F _=>ak (F.v8) λr î F=>?_;have é:∀(a b c:T) (t u v:Tok) (tk:S),KG a b c=X->((p5 a b c)=(r.length:T))->(∀(j:S),j<r.length->r[j]?=O (.int (a+(j:T)*c)))->
    er (ej g.prog g.w) A (UE (.ref ag.heap.objs.size)) P E {ag with heap:=ag.heap.push {cls:=.type "range",data:=.fields #[.int a t,.int b u,.int c v]},toks:=tk}:=by
   intro a b c t u v tk U V h3;haveI ä:ba g.N g.hT ag ai L {ag with heap:=ag.heap.push {cls:=.type "range",data:=.fields #[.int a t,.int b u,.int c v]},toks:=tk} ai:=.keeps D.c.L.rl D.c.L.st _ λ_ _ q=>c1 _ q;haveI ö:=D.a ä;refine wpAny_pyIter_range (IsRange.new ..) U (h r L _ ai _ _ _ _ _ ö (F.shift (D.up ä)) (C6 ö.c.L a c r.length Z h3) (.keeps ö.c.L.rl ö.c.L.st _ λ_ _ q=>c1 _ q) ⟨?_,(ö.c.L.hd.nil).fp (.refl ..) λb hb o e=>c1 _ e⟩);have e1:(a+((0:S):T)*c)=a:=by simp
   have e2:((r.length:T) - ((0:S):T))=p5 a b c:=by refine ah V ?_;simp
   refine ah e1 (ah e2 ?_);exact hJ _ Z
  clear F;cases l with
  | nil=>injection î
  | cons x l=>cases x with
   | int b=>cases l with
    | nil=>
     replace î:(if gD b=X then O (fq 0 b) else Q)=O r:=î
     revert î;refine aJ ?_ ?_<;>intro _ î
     ·rename_i hb;injection î with î;subst î
      unfold gD at hb;simp only[h9] at hb;refine bY vs (v.wc) λt r1 I=>?_;obtain rfl:=I.vY;refine call_range_1 (é 0 b 1 _ _ _ _ (small_one (by decide) (by decide) (wd (by decide) hb.1) (qb hb.2 (by decide))) ?_ λj ô=>sJ _ _ _ (by rw[j5] at ô;exact ô));rw[qM,j5]
     ·injection î
    | cons y l=>cases y with
     | int c=>cases l with
      | nil=>
       replace î:(if(gD b&&gD c)=X then O (fq b c) else Q)=O r:=î
       revert î;refine aJ ?_ ?_<;>intro _ î
       ·rename_i hb;injection î with î;subst î
        unfold gD at hb;simp only[h9,e3] at hb;refine bY vs (v.wc) λt r1 I=>bY r1 (I.wc) λt2 r2 û=>?_;obtain rfl:=û.vY;refine call_range_2 (é b c 1 _ _ _ _ (small_one (wd (by decide) hb.1.1) (qb hb.1.2 (by decide)) (wd (by decide) hb.2.1) (qb hb.2.2 (by decide))) ?_ λj ô=>sJ _ _ _ (by rw[j5] at ô;exact ô));rw[qM,j5]
       ·injection î
      | cons z l=>cases z with
       | int e=>cases l with
        | nil=>
         replace î:(if e=-1/\gD b=X/\gD c=X then O (iH b c) else Q)=O r:=î;clear F
         revert î;refine aJ ?_ ?_<;>intro _ î
         ·rename_i hb;injection î with î;subst î
          refine aq hb ?_;clear hb;intro SN;subst SN;intro hb;delta gD at hb;simp only[h9] at hb;refine bY vs (v.wc) λt r1 I=>bY r1 (I.wc) λt2 r2 û=>bY r2 (û.wc) λt3 r3 v3=>?_;obtain rfl:=v3.vY;refine call_range_3 (by decide) (é b c (-1) _ _ _ _ (GI hb.1 hb.2) ?_ λj ô=>AR _ _ _ (by rw[sI] at ô;exact ô)) (.inl (PyProof.noPylong_small (by decide)));rw[qK,sI]
         ·injection î
        | cons=>injection î
       | _=>injection î
     | _=>cases l<;>injection î
   | _=>injection î
 | enum a=>
  refine dp (nH mt) λù â ê SO=>?_;subst SO;intro _;refine bC i (dS G) λfn bs uG è G=>cF (b3 G) λç ñ ü=>?_;clear G;obtain rfl:=nE ç;refine bh bs (ez ü) λb å=>?_;haveI o:Out g (Xf env) (dr env) ø s φ ((ev GG C k a ρ H).bind λx H=>(opt ((dR x).map kS) H).bind kk) Q' E:=rb ..▸o;rw[By] at o;refine qN (es:=[a]) hB f ñ (show(cy _ a b&&X)=X from(NW _).trans å) (.tail _ (.head _)) o λl L vs ag ai D v F _=>?_;rcases l with _ | ⟨x,_ | _⟩<;>try exact F.elim
  refine ak (F.v8) λr î F=>az (dR x) ?_ ?_
  ·intro q;rw[q] at î;injection î
  ·intro l0 q;rw[q] at î;injection î with î;subst î
   have:=uK q;subst this;refine dc vs (v.uq) λI r1 hv û=>?_;obtain rfl:=û.vY;refine eQ I hv λæ ws nl Jn ë=>?_;clear hv;refine ak Jn λn p z=>?_;clear Jn;refine call_enumerate_1 p λh' he à jz hk=>wpAny_pyIter_enum he ?_;haveI ä:ba g.N g.hT ag ai L {ag with heap:=h'} ai:=.keeps D.c.L.rl D.c.L.st _ hk;exact h _ L ag ai _ _ _ _ _ D F (EH D.c.L (kg p) nl ë) ä ⟨⟨_,he⟩,à,(kg (hk _ _ p)),(D.c.L.hd.nil).fp (.refl ..) λb hb o e=>hk b o e⟩
 | rev a=>
  refine bC i (dS G) λfn bs uG è G=>cF (b3 G) λç ñ ü=>?_;obtain rfl:=nE ç;refine bh bs (ez ü) λb å=>?_;haveI o:Out g (Xf env) (dr env) ø s φ ((ev GG C k a ρ H).bind λx H=>(opt ((dR x).map Oh) H).bind kk) Q' E:=rb ..▸o;rw[By] at o;refine qN (es:=[a]) hB f ñ (show(cy _ a b&&X)=X from(NW _).trans å) (.tail _ (.tail _ (.head _))) o λl L vs ag ai D v F _=>?_;rcases l with _ | ⟨x,_ | _⟩<;>try exact F.elim
  refine ak (F.v8) λr î F=>az (dR x) ?_ ?_
  ·intro q;rw[q] at î;injection î
  ·intro l0 q;rw[q] at î;injection î with î;subst î
   have:=uK q;subst this;refine dc vs (v.uq) λI r1 hv û=>?_;obtain rfl:=û.vY;refine eQ I (VR.tn hv) λæ ws nl Jo ë=>?_;clear hv;refine ak Jo λn p z=>?_;clear Jo;have hk:∀b o,ag.heap.get? b=O o->(ag.heap.push (revObj æ ((ws.size:T) - 1))).get? b=O o:=λ_ _ e=>c1 _ e;refine call_reversed_list (kg p) (Q0 (⟨_,hJ _ Z,Z,Z⟩) ?_);haveI ä:ba g.N g.hT ag ai L {ag with heap:=ag.heap.push (revObj æ ((ws.size:T) - 1))} ai:=.keeps D.c.L.rl D.c.L.st _ hk;exact h _ L ag ai _ _ _ _ _ D F (GJ D.c.L (kg p) nl ë) ä ⟨la _,by simpa using (⟨_,hJ _ Z,Z,Z⟩),(kg (hk _ _ p)),(D.c.L.hd.nil).fp (.refl ..) λb hb o e=>hk b o e⟩
def GK(m:CE j h i=X):kq i=X:=by
 cases h with| seq e=>exact fY m| range p=>exact(kZ m).1| enum e=>exact(kZ m).1| rev e=>exact(kZ m).1
def KO{x:pF}{it:sv}{z:J MS}(hB:∀m:ME,BS fa C d m)(hs:pN fa C d z):SS fa C d (.cJ x it z):=by
 intro g k A s φ H ρ env st à E m h f o;cases k with
 | zero=>simp only[uf] at o;exact o.elim
 | succ k=>
 refine Bc st (Kf m) λte i L y è=>?_;intro m;refine kF (b5 m) λp n b j c=>?_;obtain rfl:=nE p;clear m;refine wpAny_For ?_ (v9 (GK b) env);exact EI hB b j f o λl é ag ai aV t W fp St r e ù a st=>EB hs r ù n c (λq=>h q) a st e
set_option tactic.hygienic true in
def EJ{t:ME}{ms:J MS}{te:Expr}{l:J ea}{ô:Flow->d2->Prop}(hB:∀m:ME,BS fa C d m)(hs:pN fa C d ms)(ù:cy env.scope.names t te=X)(ê:lO env.scope.names ms l=X)(G:d5 ms=X->g.N.exc=Q)(f:FC g fa d A s φ H env ρ)(n:S)(o:Out g (Xf env) (dr env) (VS g env) s φ (whileLoop (λρ H=>ev GG C k t ρ H) (λρ H=>execs GG C k ms ρ H) n ρ H) ô E):B2 (ej g.prog g.w) A (.whileLoop te l [] env) (λr s'=>match r with | .ok f=>ô f s' | .error e=>Q4 (ej g.prog g.w) A env E e s') s:=by
 refine codeAny_whileLoop (λn s'=>∃à H' é,FC g fa d A s' à H' env é/\Out g (Xf env) (dr env) (VS g env) s' à (whileLoop (λρ H=>ev GG C k t ρ H) (λρ H=>execs GG C k ms ρ H) n é H') ô E) ?_ n ⟨φ,H,ρ,f,o⟩;rintro n s' ⟨à,H',é,j,o⟩;cases n with
 | zero=>exact o.elim
 | succ n=>
  have o:Out g (Xf env) (dr env) (VS g env) s' à ((tb (ev GG C k t é H')).bind λb H=>if b then(execs GG C k ms é H).bind λp H=>match p with
    | (.next,cN)=>whileLoop (λρ H=>ev GG C k t ρ H) (λρ H=>execs GG C k ms ρ H) n cN H
    | (.ret r,cN)=>.ok (.ret r,cN) H
   else .ok (.next,é) H) ô E:=by
   dsimp only[whileLoop] at o;refine w5 (ev GG C k t é H') ?_ ?_ ?_
   ·intro x P q;rw[q] at o;clear q;cases x<;>try exact o
    rename_i b;cases b<;>exact o
   ·intro w f p q;rw[q] at o;exact o
   ·intro q;rw[q] at o;exact o
  refine(hB t).2 g k A s' à H' é env te _ _ ù j.c ((Out.C3 j o).fQ (W:=VB) j λb è w ag ai e K v a D=>?_);try clear W;try clear ù;try clear te;try clear hB
  subst v;cases b with
  | false=>
   change Out g (Xf env) (dr env) (VS g env) ag ai (.ok (.next,é) è) ô _ at D;exact qW (D.now a.rf ⟨a.c.n,Z⟩)
  | true=>
   have h:Out g (Xf env) (dr env) (VS g env) ag ai ((execs GG C k ms é è).bind λp H=>match p with
    | (.next,cN)=>whileLoop (λρ H=>ev GG C k t ρ H) (λρ H=>execs GG C k ms ρ H) n cN H
    | (.ret r,cN)=>.ok (.ret r,cN) H) ô E:=by
    exact(e▸o).shift (j.up K)
   refine hs g k A ag ai è é env l _ _ ê G a ?_;haveI i:=Out.C3 a h;cases u:execs GG C k ms é è with
   | bH w p q=>rw[u] at i;exact i
   | bad=>rw[u] at i;exact i
   | ok p H5=>
    rw[u] at h;obtain⟨I,â⟩:=p;rintro fl î L a5 ⟨z,y⟩;cases I with
    | next=>
     have:fl=.next:=y
     subst this;exact⟨n,iB _,L,H5,â,a.pI a5 z,h.shift a5⟩
    | ret v=>
     refine bh fl y λw F=>?_;clear y;exact h.now a5 ⟨z,w,Z,F⟩
def N7{t:ME}{i:J MS}(hB:∀m:ME,BS fa C d m)(p:pN fa C d i):SS fa C d (.mv t i):=by
 intro g k A s φ H ρ env st z E m b f o;cases k with
 | zero=>simp only[uf] at o;exact o.elim
 | succ k=>
 refine bC st (Kg m) λy j h x=>?_;intro m;refine cF (b3 m) λc a e=>?_;clear m;obtain rfl:=nE c;exact wpAny_While (EJ hB p a e (λq=>b q) f WF o)
end
noncomputable def Gr.hand (g:Gr)(y:Exc):Gr:={g with N:={g.N with exc:=O y}}
theorem Gr.Ok.hand{g:Gr}(G:g.Ok):(g.hand y).Ok:=⟨G.X,G.T,G.seer,G.tree⟩
theorem Gr.Tab.hand{g:Gr}(z:g.Tab x):(g.hand y).Tab x:=by
 obtain⟨q,c,r,p,a5,i,m,s,j,f,b,h,l,d,a,o,e,k,n⟩:=z;exact⟨q,c,r,p,a5,i,m,s,j,f,b,h,l,d,a,o,e,k,n⟩
noncomputable def gw (e:Fi):Fi:=e.map λ_=>Q
noncomputable def oO (H:Hp):Hp:=H.map λ_=>.dead
def eU(g:Fi)(a:eu):¬cm (gw g) a:=by
 rintro⟨i,p,e,_⟩;have e:=(gX)▸e;cases q:g[i]?<;>rw[q] at e<;>(first | injection e with e;injection e;done | injection e)
def EK(e:Fi)(i:S)(h:i<e.length):(gw e)[i]?=O Q:=by
 unfold gw;rw[gX,ee h];rfl
def qO(F:j.length<=g.length):e9 h j (gw g):=
 ⟨by unfold gw;simpa using F,λi hi=>.inr (EK _ _ (k6 hi F)),λi p a e=>by
  have e:=(gX)▸e;cases q:g[i]?<;>rw[q] at e<;>(first | injection e with e;injection e;done | injection e)⟩
def y9(e:g.length=H.length):Rl N m h (gw g) (oO H):=by
 have k:=λi p e=>eU g p.1 ⟨i,p,e,.inl Z⟩;refine⟨by simp[gw,oO,e],λi p q=>hQ q (k i p),λi q=>?_,λa l=>hQ l (eU g a),λi j p q e=>hQ e (k i p)⟩;unfold gw at q;delta oO;rw[gX] at q ⊢;haveI hi:i<g.length:=by
  refine az (g[i]?) ?_ ?_
  ·intro h;rw[h] at q;injection q
  ·intro b h;exact(fb.mp h).1
 refine ah (ee (e▸hi)) ?_;rfl
section
variable{fa:a7->aI eu}{C:CS}{d:S}{g:Gr}{k:S}{A:hX}{s s':d2}{φ:Fi}{H:Hp}{ρ:Loc}{env:Env}{E:cc->d2->Prop}{F:cc->Prop}{w:a7}{fn pl:T}{v:cc}{ô:eu->Prop}
def kQ(f:∀b o,g.hT.get? b=O o->s.heap.get? b=O o)(x:Flt g ô F s φ w fn pl v s')(h:∀a,Flt g ô Fn s φ w fn pl v a->m () a):er (ej g.prog g.w) A (setFlight v Q) m E s':=by
 refine dc v (nP (A:=A) (E:=E) (u:=.none) (F':=Fn) (é:=m) f x Z λa q=>h a q) λe y k c=>bV k λp vs i d j=>a4 (ib i d j ?_);exact c
def EL(f:FC g fa d A s φ H env ρ)(yS:g.N.exc=Q)(x:Flt g Nx Fn s φ w fn pl v s'):∃y,v=.ref y.e/\y.why=w/\y.fn=fn/\y.pl=pl/\
  FC (g.hand y) fa d (A.mark (O v)) s' (gw φ) (oO H) env ρ/\(∃oe,s'.heap.get? y.e=O oe/\oe.cls=.ref g.N.inv):=by
 refine rI v (x.ex) λe ê dx t n2 p SQ=>?_;obtain⟨⟨oe,vs,i,j,a3,à,a5,ô⟩,tb,fu⟩:=SQ;haveI D:∀a,s.heap.get? a=Q->¬g.N.Z a:=λa n z=>by refine aH (f.c.L.zz a z) λo e=>?_;cases(e.symm.trans n)
 have E:∀{y:Exc}{a:AV}{w:cc},VR g.N s.heap φ a w->VR (g.hand y).N s'.heap (gw φ) a w:=λr=>(r.mono x.aT (qO (gk _))).names (λz K=>by injection (yS▸K));refine Wh ⟨e,dx,w,fn,pl⟩ Z Z Z Z ⟨⟨f.c.G.hand,f.c.T.hand,⟨f.c.R.depth,f.c.R.units⟩,⟨x.st,y9 f.c.L.rl.len,?_,λa z=>let ⟨o,q⟩:=f.c.L.zz a z;x.aT.lQ a o q,?_⟩,?_⟩,⟨f.S.fr,f.S.ck,f.S.ap,f.S.nl,?_⟩,f.top⟩ ⟨oe,i,j⟩
 ·show Vg _ _ _ _ _;exact⟨eU _ _,eU _ _,⟨oe,vs,i,j,a3,à,ô yS⟩,fu,.inr Z,D _ t,D _ p⟩
 ·exact s8 (f.c.L.Bn) λF L W I è f4 û P ä=>yz F L W I è f4 û P (ä.aT x.aT (qO (gk _)))
 ·have n:=f.c.n;refine ak (n.ns) λm â hv=>⟨n.hk,n.gl,n.bt,⟨m,Ns.aT â x.aT n.nl.1 id,λy u q d k=>?_⟩,⟨eU _ _,n.nl.2⟩,λy k=>?_⟩
  ·exact ak (hv y u q d k) λl U V=>ay l U (E V)
  ·refine fg (n.cl y k) λc o dZ U V h3 h4 h5=>ak (x.aT.keep c o h4 id V) λo' b ù=>?_;exact iw c o' dZ U b (ù.data.trans h3) (eU _ _) (λz u q r=>let ⟨l,i,j⟩:=h5 z u q r;⟨l,i,E j⟩)
 ·intro y é;have:(⟨e,dx,w,fn,pl⟩:Exc)=y:=gf é;clear é;subst this;refine ak (f.c.n.ns) λm î C=>dp î λo es ep U C=>?_;have cl:∀n a,env.cells.lookup n=O a->∃o,s.heap.get? a=O o:=λn a h=>by
   refine gA (f.c.n.cl n (f.S.ck n a h)) λc o dZ U V C=>?_;rw[h] at U;injection U with U;subst U
   exact bq o V
  refine cG ⟨λq=>?_,λn q=>?_⟩ (λq=>?_) (λn q=>?_)
  ·rw[<-show e=env.locals from q,t] at U;injection U
  ·refine aH (cl n _ q) λo b=>?_;rw[t] at b;injection b
  ·rw[<-show dx=env.locals from q,p] at U;injection U
  ·refine aH (cl n _ q) λo b=>?_;rw[p] at b;injection b
set_option tactic.hygienic true in
def Oi{e:ME}(hB:∀m:ME,BS fa C d m)(hs:pN fa C d h):SS fa C d (.w6 e nm h):=by
 intro g k A s φ H ρ env st ø E m hx f o;have yS:=hx Z;rw[uf.2.2.2.2.2.2.2.2.2.2.2.2.1] at o;clear hx;refine Bc st (Kh m) λé L è à î=>?_;clear m;intro m;refine eW (b4 m) λn1 n2 n3 n4=>?_;clear m;obtain rfl:=nE n1;obtain rfl:=nE n2;refine bh é (ez n3) λb0 n5=>bY b0 (ti n5) λpe ep n6=>?_;refine aq (b2 n6) λm1 m2=>bh L (ez n4) λh0 n7=>bC h0 (Ge n7) λtc y hb hp n8=>aq (b2 n8) λn9 m8=>kF (b5 n9) λm3 Oj m5 P m7=>?_;clear n7 n8 n9 n4;obtain rfl:=e5 Oj;have P:=kx _▸P;refine aH (f.top) λù ht=>?_;haveI nl:dD pe=X:=qG m2;haveI y7:(env.scope.kind==.class||(env.scope.kind==.module&&env.locals != env.globals))=aN:=by refine ah f.c.n.hk ?_;rfl
 refine wpAny_Try_except (o1 (QO ((hB e).1 g k A s φ H ρ env pe _ _ m1 f.c ?_) (tB f.c.n.hk) (j0 nl)));cases q:ev GG C k e ρ H with
 | bad=>rw[q] at o;exact o.elim
 | ok a ê=>
  rw[q] at o;intro v ag ai af _;haveI aO:=f.a af;exact qW (qW (o.now (f.up af) ⟨aO.c.n,Z⟩))
 | bH w fn pl=>
  rw[q] at o;intro v ag iD;refine oK f.c.L ht f.S.fr iD λaV C4=>kQ f.c.L.st C4 λeB Ol=>?_;clear iD C4;obtain⟨y,rfl,y1,y2,y3,D,oe,ho,hc⟩:=EL f yS Ol;refine wpAny_handleBy_cons (codeAny_handlers_test (gF (g:=g.hand y) D.c.G D.c.L D.c.n m3 D.c.T.Vi ?_)) (by intro q;injection q);refine(exm_one (cls:=.ref g.N.inv) D.c.X (by simp only[<-hc];exact(Q2.ld ho).andThen .now) D.c.T.xm).here ?_;have eF:hb≠[]:=by
   rintro rfl;cases h with
   | nil=>exact nomatch m5
   | cons _ _=>exact nomatch m8
  refine d9 (J.exists_cons_of_ne_nil eF) λû bs SU=>?_;subst SU;refine codeAny_handlers_suite_as (kQ f.c.L.st Ol λtx ç=>?_);refine Wf (EL f yS ç) λF Nf z1 z2 z3 ü _=>?_;have R:y.e=F.e:=by injection Nf
  refine gi (g:=g.hand F) (x:=nm) (v:=.exc w fn pl) ü.c ü.S (.inl ((e5 m7))) (by delta VR;exact Wg F Z (by exact cx _ R) z1 z2 z3) λy6 Om æ=>?_;refine hs (g.hand F) k _ y6 _ _ _ env _ _ _ m8 (λz=>by rw[P] at z;injection z) (⟨æ,ü.S,ü.top⟩) ?_;have o:Out g (Xf env) (dr env) (VS g env) s φ (match execs GG C k h (put nm (.exc w fn pl) ρ) (oO H) with
   | .ok (.ret (.bool b),_) _=>.ok (.ret (.bool b),[]) (oO H)
   | _=>.bad) ø E:=o
  clear ü;cases r:execs GG C k h (put nm (.exc w fn pl) ρ) (oO H) with
  | bad=>haveI o:=r▸o;exact o.elim
  | bH _ _ _=>rw[r] at o;exact o.elim
  | ok p â=>
   rw[r] at o;obtain⟨pf,ä⟩:=p;cases pf with
   | next=>exact o.elim
   | ret u=>
    cases u<;>try exact o.elim
    rename_i b;rintro fl á SV Oo ⟨ô,hf⟩;refine ak hf λw' SW=>?_;clear hf;subst SW;intro vw;subst vw;refine ak (ô.ns) λö Jp _=>wpAny_nameGoes ((e5 m7)) Jp y7 λh' m' jD sb=>?_;have ñ:bK (Xf env) (g.hand F).N g.hT tx (gw φ) â á SV:=Om.trans Oo;refine d9 (ç.eq) λï t4 e4=>d9 (ñ.eq) λVw t6 e6=>?_;clear Oo Om Jp;subst e4;subst e6;haveI sb:oa env.locals Vw h':=sb;have S6:bI (Xf env) (gw φ) ï Vw:=ñ.aT;haveI F0:e9 s.heap φ (gw φ):=qO (gk _);have K:=(ç.aT.more (λ_ q=>q.elim) f.dW).trans F0 S6;refine gA (id jD) λol W ë xc qu _=>?_;haveI å:bI (Xf env) φ s.heap h':=by
     refine⟨λa j l t i=>?_,λa j i=>?_,K.dW,λa j es n t l i dd=>?_⟩
     ·exact ak (K.keep a j l t i) λo' I r=>ay o' ((sb.2 a (λz=>t (z▸(.inl Z)))).trans I) r
     ·refine aH (K.lQ a j i) λo' I=>?_;by_cases z:a=env.locals
      ·refine ah z ?_;exact bq ol xc
      ·exact bq o' ((sb.2 a z).trans I)
     ·by_cases z:a=env.locals
      ·exact ah z (ed ol W ë xc qu)
      ·exact dp (K.kU a j es n t l i dd) λo' e8 n' I r=>ed o' e8 n' ((sb.2 a z).trans I) r
    refine o.now (s':={s with heap:=h',toks:=t6+1}) (φ':=gw φ) ⟨⟨h',_,Z⟩,å,F0,y9 f.c.L.rl.len,λb' o' i=>?_,λa j l t z i=>?_⟩ ⟨⟨ô.hk,ô.gl,ô.bt,⟨m',jD,λ_ _ q=>by injection q⟩,⟨eU _ _,ô.nl.2⟩,λy k=>?_⟩,.bool b,Z,by delta VR;rfl⟩
    ·refine(sb.2 b' λz=>?_).trans (ñ.st b' o' i);rw[z,f.c.n.nl.2] at i;injection i
    ·refine(sb.2 a λq=>t (q▸(.inl Z))).trans (ñ.ex a j (eU _ _) t z (ç.qv a j l id z i))
    ·exact fg (ô.cl y k) λc oc dZ U V h3 h4 h5=>iw c oc dZ U ((sb.2 c (f.S.nl y c U).1).trans V) h3 (eU _ _) (λ_ _ _ q=>by injection q)
end
section
variable{fa:a7->aI eu}{C:CS}{d:S}
def GN:SS fa C d .raise:=by
 intro g k A s h H i e st j E m a f o;exact o.elim
def Oq(c:jP fa C d):∀m:MS,SS fa C d m:=by
 have hB:=xk c;intro m
 induction m using MS.rec (motive_2:=pN fa C d) with| expr e=>exact KD hB| ret e=>exact NO hB| asg x e=>exact NS hB| cH o f e=>exact KH hB| gp o i e=>exact KI hB| cC p e=>exact KN hB| aug x op e=>exact NP hB| iff t a b g hb=>exact R7 hB g hb| mv t a g=>exact N7 hB g| cJ x q a g=>exact KO hB g| w6 e n h j=>exact Oi hB j| raise=>exact GN| nil=>exact Bv| cons m s h k=>exact y8 h k
theorem we(a:jP fa C d):∀e:J MS,pN fa C d e
 | []=>Bv
 | m::e=>y8 (Oq a m) (we a e)
end
set_option tactic.hygienic true in
theorem uL{h:Type}:∀{e:J cD}{vals:J h}{x:cD},e.length=vals.length->x∈e->((e.zip vals).lookup x).isSome=X
 | p::e,v::vals,x,g,hx=>by
  refine ah uW ?_;simp only[eC]
  split
  ·rfl
  ·rename_i ne;rcases a8.mp hx with rfl | hx
   ·simp at ne
   ·exact uL (by simpa using g) hx
 | [],_,_,_,hx=>by cases hx
 | _::_,[],_,g,_=>by injection g
theorem zb{g:e->aI i}:∀{l:J e},(∀x∈l,f x=g x)->l.filterMap f=l.filterMap g
 | [],_=>rfl
 | x::l,h=>by
  simp only[J0,h x (.head _),zb λy a=>h y (.tail _ a)]
theorem pO{h:Type}:∀{ps:J cD}{vals:J h},ps.Nodup->ps.length=vals.length->ps.filterMap (λn=>((ps.zip vals).lookup n).map λv=>(n,v))=ps.zip vals
 | [],[],_,_=>rfl
 | p::ps,v::vals,g,e=>by
  rw[k9] at g;refine ah uW ?_;refine ah J0 ?_;refine ah eC ?_;simp only[G4,gL];congr 1;refine(zb λx a=>?_).trans (pO (ps:=ps) (vals:=vals) g.2 (by simpa using e));haveI ne:(x==p)=aN:=by
   rw[gn];clear e;rintro rfl;exact g.1 a
  simp only[eC,ne]
 | [],_::_,_,e=>by injection e
 | _::_,[],_,e=>by injection e
def kz{g:J a7}(h:g.Nodup):(g.map aD).Nodup:=by
 induction g with
 | nil=>exact xd
 | cons p g i=>
  simp only[k9] at h;simp only[i1,k9];refine au (λa=>?_) (i h.2);exact ak (hN.mp a) λq hq e=>h.1 (ft e▸hq)
structure Js (ps:J a7)(fd:pK):Prop where
 po:fd.params.posonlyargs=[]
 va:fd.params.vararg=Q
 ko:fd.params.kwonlyargs=[]
 kw:fd.params.kwarg=Q
 df:fd.defaults=.none
 ar:fd.params.args.map (·.arg)=ps.map aD
 nd:ps.Nodup
 hk:fd.scope.kind=.function
 co:fd.scope.isCoroutine=aN
 ge:fd.scope.isGenerator=aN
 cl:fd.closure=[]
 nn:(fd.scope.names.map (·.1)).Nodup
 ki:∀x∈ps,fd.scope.names.lookup (aD x)=O .local\/fd.scope.names.lookup (aD x)=O .cell
set_option tactic.hygienic true in
def uM{x:pK}(h:rQ y x=X):Js y x:=by
 delta rQ at h;simp only[e3,SA,Ob,h9,kx,p1,h8,nr] at h;refine aq h λr c=>?_;refine aq r λi b=>?_;refine aq i λt a=>?_;refine aq t λg d=>?_;refine aq g λm o=>?_;refine aq m λj k=>?_;refine aq j λl n=>?_;refine aq l λp s=>?_;refine aq p λq h5=>?_;refine aq q λf h4=>?_;refine aq f λe h3=>aq e λU V=>?_;refine⟨U,V,h3,h4,?_,s,n,k,o,d,a,b,c⟩
 split at h5
 ·assumption
 ·injection h5
def Jt [r4 c](e:x=if c then a else b)(h:¬c)(k:b=z):x=z:=e.trans ((dm h).trans k)
def Ot{z:RF i}(e:x=(forIn l b f >>= k))(h:l=[])(g:k b=z):x=z:=by
 subst h;exact e.trans g
def Ou{l:J e}:l.zip (J.drop k ([]:J g))=[]:=ah J.drop_nil (J.zip_nil_right)
def oP(è:Js L W)(m:L.length=vals.length):bindArgs W ⟨vals,[]⟩=pure ((L.map aD).zip vals):=by
 haveI c:(L.map aD).length=vals.length:=by rw[d3];exact m
 haveI nd:=kz è.nd;obtain⟨D,t,⟨E,a,C,p,y,i,s⟩,u,F,é,A,o,w⟩:=W;haveI e:=è.ar;obtain⟨r,s2,d,g,f,-,-,-,-,-,-,-,-⟩:=è;change p=_ at d;change i=_ at g;change o=_ at f;subst r;subst s2;subst d;subst g;subst f;generalize L.map aD=ns at *;subst e;have j:∀k,((a.map (·.arg)).take k).filter (λn=>(((a.map (·.arg)).zip vals).lookup n).isNone)=[]:=λk=>J.filter_eq_nil_iff.mpr λx h z=>by
  haveI q:=uL c (Jz h);rw[Ob.mp z] at q;injection q
 refine Jt Z (λq=>?_) (Jt Z (λq=>?_) (Ot Z Ou (Vj (b:=pure (L1 (λn=>uZ (λv=>(n,v)) (jg n ((a.map (·.arg)).zip vals))) (a.map (·.arg)++[]))) (by kernel_rfl) (cx pure ((cx (L1 _) (hP _)).trans (pO nd c))))))
 ·exact l3 _ (c▸gb (Ja.mp q).1)
 ·exact aS.false_ne_true ((cx (λl=>!J.isEmpty l) (j _)).symm.trans q)
def tE{l:J (cD×j)}(a:(l.map (·.1)).Nodup)(h:(y,v)∈l):l.lookup y=O v:=by
 induction l with
 | nil=>cases h
 | cons p r g=>
  obtain⟨x,w⟩:=p;rw[i1,k9] at a;simp only[eC];refine eE (a8.mp h) (λe=>?_) λe=>?_
  ·clear h;clear a;injection e with e i;subst e i;simp
  ·have ne:(y==x)=aN:=by
    rw[gn];clear h;rintro rfl;exact a.1 (hN.mpr ⟨_,e,Z⟩)
   exact ah ne (g a.2 e)
set_option tactic.hygienic true in
def gH{l:J (cD×i)}(h:(y,v)∈l):(l.lookup y).isSome=X:=by
 induction l with
 | nil=>cases h
 | cons p r g=>
  refine ah eC ?_
  split
  ·rfl
  ·rename_i ne;refine eE (a8.mp h) (λe=>?_) λe=>?_
   ·clear h;subst e;simp at ne
   ·exact g e
theorem uN{y:cD}:∀{e:J (cD×cc)}{m:cD->aI cc},y∉e.map (·.1)->bindL g e m y=m y
 | [],m,_=>rfl
 | (n,v)::r,m,h=>by
  rw[i1,a8,A0] at h;refine ah (uN h.2) ?_
  split
  ·exact dm h.1
  ·rfl
theorem dG{j:cD->aI j2}(k:j y=O .local):∀{g:J (cD×cc)}{m:cD->aI cc},(g.map (·.1)).Nodup->(y,v)∈g->bindL j g m y=O v
 | (n,u)::r,m,i,h=>by
  simp only[i1,k9] at i;dsimp only[bindL];refine eE (a8.mp h) (λe=>?_) λe=>?_
  ·clear h;injection e with e p;subst e p
   refine ah (uN i.1) ?_;rw[dE k,dE Z]
  ·exact dG k i.2 e
theorem uO{y:cD}:∀{e:J (cD×cc)}{m:cD->aI cc},y∉e.map (·.1)->bindC g e m y=m y
 | [],m,_=>rfl
 | (n,v)::r,m,h=>by
  simp only[i1,a8,A0] at h;refine ah (uO h.2) ?_
  split
  ·rfl
  ·exact dm h.1
theorem xp{j:cD->aI j2}(k:j y=O .cell):∀{g:J (cD×cc)}{m:cD->aI cc},(g.map (·.1)).Nodup->(y,v)∈g->bindC j g m y=O v
 | (n,u)::r,m,i,h=>by
  simp only[i1,k9] at i;dsimp only[bindC];refine eE (a8.mp h) (λe=>?_) λe=>?_
  ·clear h;injection e with e p;subst e p
   rw[uO i.1,dm (by rw[k];decide),dE Z]
  ·exact xp k i.2 e
set_option tactic.hygienic true in
theorem kH{c:eu}:∀{names:J (cD×j2)}{n:S}{g:J (cD×eu)},(x,c)∈I3 n names g->(x,.cell)∈names\/(x,c)∈g
 | [],n,g,h=>.inr h
 | (y,k)::r,n,g,h=>by
  rw[I3] at h
  split at h
  ·rename_i i;refine eE (kH h) (λh=>?_) λh=>?_
   ·exact .inl (.tail _ h)
   ·refine eE (a8.mp h) (λe=>?_) λh=>?_
    ·clear h;injection e with e j;subst e j
     have:k=.cell:=by simpa using i
     left
     exact ah this (.head _)
    ·exact .inr h
  ·refine eE (kH h) (λh=>?_) λh=>?_
   ·exact .inl (.tail _ h)
   ·exact .inr h
theorem kI{p:cD×eu}:∀{names:J (cD×j2)}{n:S}{e:J (cD×eu)},p∈e->p∈I3 n names e
 | [],n,e,h=>h
 | (y,k)::r,n,e,h=>by
  simp only[I3]
  split
  ·exact kI (.tail _ h)
  ·exact kI h
theorem fZ{x:cD}:∀{names:J (cD×j2)}{n:S}{acc:J (cD×eu)},(x,.cell)∈names->∃c,(x,c)∈I3 n names acc
 | (y,k)::r,n,acc,h=>by
  dsimp only[I3];refine eE (a8.mp h) (λe=>?_) λh=>?_
  ·clear h;injection e with e g;subst e g
   exact bq n (kI (.head _))
  ·try clear r
   split
   ·exact fZ h
   ·exact fZ h
set_option tactic.hygienic true in
def uP{g:J a7}(r:aL N h j args vs)(c:g.length=args.length)(b:(g.zip args).lookup x=O v):∃w,(aD x,w)∈(g.map aD).zip vs/\VR N h j v w:=by
 induction g generalizing args vs with
 | nil=>injection b
 | cons p g i=>
  cases args with
  | nil=>injection c
  | cons a args=>
   refine dc vs r ?_;intro w k f r;simp only[uW,eC] at b
   split at b
   ·rename_i e;clear i;injection b with b;subst b
    exact ah (e5 e) (ay w (.head _) f)
   ·exact ak (i r (by simpa using c) b) λd U V=>ay d (.tail _ U) V
def kA{vs:J cc}{e:J a7}(h:e.length=vs.length):(((e.map aD).zip vs).map (·.1))=e.map aD:=by
 rw[Pq (by simp[h])]
noncomputable def Gr.fr (g:Gr)(L:eu):Gr:={g with N:={g.N with Z:=λb=>g.N.Z b\/b=L}}
theorem Gr.Ok.fr{g:Gr}(G:g.Ok):(g.fr L).Ok:=⟨G.X,G.T,G.seer,G.tree⟩
theorem Gr.Tab.fr{g:Gr}(y:g.Tab x):(g.fr L).Tab x:=by
 obtain⟨q,c,r,p,a5,i,m,s,j,f,b,h,l,d,a,o,e,k,n⟩:=y;exact⟨q,c,r,p,a5,i,m,s,j,f,b,h,l,d,a,o,e,k,n⟩
set_option tactic.hygienic true in
theorem Ov:∀f D,PP f=O D->f≠"law"->d5 D.body=aN:=by
 haveI all:PT.all (λp=>p.1=="law"||!(d5 p.2.body))=X:=by decide +kernel
 haveI g:∀{l:J (a7×bp)}{f:a7}{D:bp},l.lookup f=O D->(f,D)∈l:=by
  intro l
  induction l with
  | nil=>intro f D h;injection h
  | cons p r i=>
   obtain⟨x,w⟩:=p;intro f D h;simp only[eC] at h
   split at h
   ·rename_i e;injection h with h;subst h
    rw[e5 e];exact .head _
   ·exact .tail _ (i h)
 intro f D h a;have:=h8.mp all (f,D) (g h);simp only[nr,p1,kx] at this;exact this.resolve_left a
section
variable{fa:a7->aI eu}{d:S}{g:Gr}{A:hX}{s:d2}{φ:Fi}{H:Hp}{args:J AV}{vs:J cc}{a:eu}{fd:pK}{ps:J a7}
set_option tactic.hygienic true in
def uQ(G:g.Ok)(û:g.Tab fa)(L:Lv g A s φ H)(ü:tr A (d+1) 0)(v:aL g.N s.heap φ args vs)(ô:Js ps fd)(ù:ps.length=args.length)(ö:fd.globals=fw)(hb:fd.builtins=rV){ag:d2}(x:InCallC s (oA fd s.heap.objs.size a).locals (bindL (oA fd s.heap.objs.size a).kindOf ((ps.map aD).zip vs) λ_=>Q) (oA fd s.heap.objs.size a).cells
    (bindC (oA fd s.heap.objs.size a).kindOf ((ps.map aD).zip vs) λ_=>Q) ag):FC (g.fr s.heap.objs.size) fa d (A.deeper (oA fd s.heap.objs.size a)) ag φ H (oA fd s.heap.objs.size a) (ps.zip args)/\ba g.N g.hT s φ H ag φ:=by
 haveI sM:ps.length=vs.length:=(v.len)▸ù;haveI j:s.heap.get? s.heap.objs.size=Q:=aF _;refine d9 (x.toInCall.same) λh' tk Ta=>?_;subst Ta;have t:ba g.N g.hT s φ H {s with heap:=h',toks:=tk} φ:=.keeps L.rl L.st tk (x.toInCall.keep);have l:=L.a t;have m:∀{b:eu},(∃o,s.heap.get? b=O o)->b≠s.heap.objs.size:=λ⟨o,e⟩ q=>by rw[q,j] at e;injection e
 have C:∀{b:eu},s.heap.get? b=Q->g.hT.get? b=Q:=λ{b} n=>by
  refine az (g.hT.get? b) ?_ ?_
  ·intro q;rfl
  ·intro o q;have:=L.st _ _ q;rw[n] at this;injection this
 have D:∀{b:eu},s.heap.get? b=Q->¬cm φ b:=λn=>bg L.rl n;have î:=λn c h=>x.above n c (mem_of_lookup h);have à:=λn c h=>j3 (pS (î n c h));have R:∀{y:AV}{w:cc},VR g.N s.heap φ y w->VR (g.fr s.heap.objs.size).N h' φ y w:=λr=>VR.names (N:=g.N) (N':=(g.fr s.heap.objs.size).N) (λ_ q=>q) (r.mono t.aT t.bw);refine gA (id (x.toInCall.ns)) λW P â ñ ê _=>s8 (l.Bn) λä é ç f2 f3 f4 f5 f6 f7=>?_;have è:=kA (vs:=vs) sM;refine au ⟨⟨G.fr,û.fr,⟨?_,?_⟩,⟨l.st,Rl.names (N:=g.N) (N':=(g.fr s.heap.objs.size).N) (λ_ q=>q) Z l.rl,?_,λb z=>?_,?_⟩,?_⟩,⟨Z,λn c h=>?_,λn n' c h h'=>?_,λn c h=>⟨?_,C (à n c h)⟩,λy i=>?_⟩,⟨ä::é,by show A.frames.map _=_;rw[show A.frames=_ from ç];rfl⟩⟩ t
 ·have:=ü.depth;exact Zj this
 ·have:=ü.units;exact Zk this
 ·haveI hd:=l.hd;haveI f:=L.hd;unfold cM at *
  split
  ·rename_i q;have q:g.N.exc=Q:=q;rw[q] at hd;exact hd
  ·rename_i y q;change g.N.exc=O y at q;rw[q] at hd f;refine bG (f.ob) λoe _ p _=>iU (f.fu) λsl n _ _ _ _ _ _ _ _ _ dd=>?_;exact⟨hd.le,hd.ld,hd.ob,hd.fu,hd.hd,λz=>z.elim hd.zn.1 (m ⟨_,p⟩),λz=>z.elim hd.zn.2 (m ⟨_,dd⟩)⟩
 ·refine eE z (λz=>?_) λz=>?_
  ·exact l.zz b z
  ·exact ah z (bq W ñ)
 ·refine yz (oA fd s.heap.objs.size a) (ä::é) (by show A.frames.map _=_;rw[show A.frames=_ from ç];rfl) ô.ge ô.co hb ö ô.hk (λe K=>?_);rcases a8.mp K with rfl | K
  ·exact⟨ô.hk,_,W,P,â,Z,ñ,ê,C j,D j,.inr Z⟩
  ·obtain⟨k,L',o,es,n,U,V,h3,h4,h5,h6⟩:=f7 e K;exact⟨k,L',o,es,n,U,V,h3,h4,h5,.inl h6⟩
 ·refine⟨ô.hk,ö,hb,⟨_,(x.toInCall.ns),λy u i _ hk=>?_⟩,⟨D j,C j⟩,λy hk=>?_⟩
  ·refine ak (uP v ù i) λw I hv=>?_;exact ay w (dG hk (by refine ah è ?_;exact kz ô.nd) I) (R hv)
  ·haveI jA:fd.scope.names.lookup y=O .cell:=hk;refine aH (fZ (n:=s.heap.objs.size+1) (acc:=[]) (mem_of_lookup jA)) λc hc=>aH (aI.isSome_iff_exists.mp (gH hc)) λF E=>ak (x.cell y F E) λo ho hd=>iw F o _ E ho hd (D (à y F E)) (λz u e hz=>?_);refine ak (uP v ù hz) λw I hv=>?_;exact ay w (xp hk (by refine ah è ?_;exact kz ô.nd) (e▸I)) (R hv)
 ·have:(n,NZ)∈fd.scope.names:=(kH (mem_of_lookup h)).resolve_right (by simp);exact tE ô.nn this
 ·exact name_of_addr x.apart (mem_of_lookup h) (mem_of_lookup h')
 ·exact A3 (î n c h)
 ·have i:g.N.exc=O y:=i;have f:=L.hd;unfold cM at f;rw[i] at f;refine bG (f.ob) λoe _ p _=>iU (f.fu) λsl n _ _ _ _ _ _ _ _ _ dd=>cG ⟨m ⟨_,p⟩,λn h=>?_⟩ (m ⟨_,dd⟩) (λn h=>?_)
  ·have:=à n _ h;rw[p] at this;injection this
  ·have:=à n _ h;rw[dd] at this;injection this
end
def wg (h:a7->aI eu)(d:S):Prop:=∀(g:Gr),g.Ok->g.Tab h->∀a A s e H n w Y i j vs R,h "StackCheck.fail"=O a->Lv g A s e H->tr A (d+1) 0->
 aL g.N s.heap e [.obj n,.str w] vs->H[n]?=O (.inst "Checker" Y)->Y.lookup "function"=O (.int i)->Y.lookup "at"=O (.int j)->
 (∀v k,Flt g Nx Fn s e w i j v k->R (.error v) k)->B2 (ej g.prog g.w) A (.call (.ref a) ⟨vs,[]⟩) R s
section
variable{fa:a7->aI eu}{d:S}{g:Gr}{A:hX}{s:d2}{φ:Fi}{H:Hp}{args:J AV}{vs:J cc}{a:eu}{fd:pK}{ps:J a7}
def bK.C9(c:h.locals=L)(a:bK (Xf h) (g.fr L).N g.hT s φ j k i):bK (Xf h) g.N g.hT s φ j k i:=
 ⟨a.eq,a.aT,a.bw,Rl.names (N:=(g.fr L).N) (N':=g.N) (λf q=>q) Z a.rl,a.st,λb o l x z e=>a.ex b o l x (λq=>q.elim z λd=>x (.inl (d.trans c.symm))) e⟩
def Flt.C9(a:j.locals=L)(x:Flt (g.fr L) (Xf j) F s φ w k m v p):Flt g (Xf j) F s φ w k m v p:=by
 refine rI v (x.ex) λe é W f h d i=>?_;obtain⟨ob,tb,fu⟩:=i;exact⟨⟨e,é,W,Z,f,h,d,⟨ob,tb,fu⟩⟩,x.eq,x.aT,x.st,λb o l y z q=>x.qv b o l y (λq=>q.elim z λc=>y (.inl (c.trans a.symm))) q⟩
def Flt.drop(x:Flt g m F s φ w i j v k)(n:∀b,m b->s.heap.get? b=Q):Flt g Nx F s φ w i j v k:=by
 have h:∀b o,s.heap.get? b=O o->¬m b:=λb o e x=>by rw[n b x] at e;injection e
 exact⟨x.ex,x.eq,⟨λb o l a e=>x.aT.keep b o l (h b o e) e,x.aT.lQ,λa a q=>q.elim,λa a a a q=>q.elim⟩,x.st,λb o l a z e=>x.qv b o l (h b o e) z e⟩
def Flt.Dc(a:ba g.N g.hT s φ e h i)(dW:∀a o,z a->s.heap.get? a=O o->∀j k,o.data≠.seq j k)(x:Flt g z F h i w m p v y):Flt g z F s φ w m p v y:=
 .from (a.more (λb q=>q.elim) dW) x
set_option tactic.hygienic true in
def GO{F:cc->Prop}(e:f="StackCheck.fail")(o:Out g p F m s φ (ae G P (d+1) f args H) k E):∃n w Y h i,args=[.obj n,.str w]/\H[n]?=O (.inst "Checker" Y)/\Y.lookup "function"=O (.int h)/\Y.lookup "at"=O (.int i)/\Out g p F m s φ (.bH w h i) k E:=by
 revert o;refine Out.mD ?_ ?_<;>intro a o
 rotate_left
 ·exact(a e).elim
 clear a;rcases args with _ | ⟨x,_ | ⟨y,_ | _⟩⟩<;>try exact o.elim
 ·cases x<;>exact o.elim
 ·cases x<;>try exact o.elim
  rename_i n;cases y<;>try exact o.elim
  rename_i w;dsimp only at o;refine az H[n]? ?_ ?_
  ·intro q;rw[q] at o;exact o.elim
  ·intro j b;rw[b] at o;cases j<;>try exact o.elim
   rename_i c Y
   revert o;refine Out.mD ?_ ?_<;>intro hc o
   rotate_left
   ·exact o.elim
   subst hc;refine az (Y.lookup "function") ?_ ?_
   ·intro q;rw[q] at o;exact o.elim
   ·intro z U;rw[U] at o;cases z<;>try exact o.elim
    refine az (Y.lookup "at") ?_ ?_
    ·intro q;rw[q] at o;exact o.elim
    ·intro z V;rw[V] at o;cases z<;>try exact o.elim
     exact⟨n,w,Y,_,_,Z,b,U,V,o⟩
 ·cases x<;>try exact o.elim
  cases y<;>exact o.elim
set_option tactic.hygienic true in
def xu(ü:wg fa d)(K:jP fa (ae GG PP d) d):jP fa (ae GG PP (d+1)) (d+1):=by
 intro g G ö f a A s φ H args vs R i L m v o;by_cases r:f="StackCheck.fail"
 ·refine Wo (GO r o) ?_;clear o;subst r;intro n w Y fn pl q l U V o;subst q;exact ü g G ö a A s φ H n w Y fn pl vs R i L m v l U V o
 ·revert o;refine Out.mD ?_ ?_<;>intro F o
  ·exact(r F).elim
  clear F;refine az (PP f) ?_ ?_
  ·intro hp;rw[hp] at o;exact o.elim
  ·intro D hp;rw[hp] at o
   revert o;refine Out.mD ?_ ?_<;>intro _ o
   ·rename_i C;have y:f≠"law":=by rintro rfl;rw[ö.Qw] at i;injection i
    refine Wq (ö.fn f D hp y) λà fd oc od sl U V h3 h4 h5 h6=>?_;rw[i] at U;injection U with U;subst U
    delta yg at h3;rw[e3] at h3;refine aq h3 ?_;intro h3 hb;haveI ä:=uM h3
    split at hb
    ·rename_i é û;have E:D.params.length=vs.length:=by rw[v.len];exact C
     refine A4 (by have:=m.depth;exact MQ this) ((G.X.keeps L.st) _ _ V) Z (G.T.nolimit.keeps L.st) (Q6 (G.X.keeps L.st) h4) û (oP ä E) ä.cl (λx ô=>?_) (λag x=>?_) ä.co ä.ge ä.hk
     ·haveI P:x.1∈D.params.map aD:=by rw[<-(kA (vs:=vs) E)];exact hN.mpr ⟨x,ô,Z⟩
      refine ak (hN.mp P) λp hp e=>?_;rw[<-e];refine eE (ä.ki p hp) (λh=>?_) λh=>?_
      ·exact .inl h
      ·exact aH (fZ (n:=s.heap.objs.size+1) (acc:=[]) (mem_of_lookup h)) λc hc=>.inr ⟨h,gH hc⟩
     ·refine aq (uQ G ö L m v ä C h5 h6 x) λj I=>?_;have fresh:∀b,Xf (oA fd s.heap.objs.size a) b->s.heap.get? b=Q:=λb hb=>by
       rcases hb with rfl | ⟨n,l⟩
       ·exact(aF _)
       ·exact j3 (pS (x.above n b (mem_of_lookup l)))
      haveI dW:∀b o,Xf (oA fd s.heap.objs.size a) b->s.heap.get? b=O o->∀ws k,o.data≠.seq ws k:=λb o hb e=>by rw[fresh b hb] at e;injection e
      refine we K D.body (g.fr s.heap.objs.size) cu _ ag φ H _ _ é _ _ hb (λq=>by rw[Ov f D hp y] at q;injection q) j ?_;cases q:execs GG (ae GG PP d) cu D.body (D.params.zip args) H with
      | bad=>rw[q] at o;exact o.elim
      | bH w fn pl=>
       have o:=q▸o;refine aH (j.top) λè î=>?_;intro v s' ñ;exact AP j.c.L î j.S.fr ñ λø ç=>o v ø (((ç.C9 (g:=g) Z).Dc I dW).drop fresh)
      | ok p H'=>
       obtain⟨W,ù⟩:=p;rw[q] at o;rintro fl s' â à ⟨n',z⟩;have t:=((I.more (λ_ q=>q.elim) dW).trans (bK.C9 (g:=g) Z à)).drop fresh;cases W with
       | next=>
        have:fl=.next:=z
        subst this;exact o.now t (by show VR _ _ _ _ _;rfl)
       | ret u=>
        exact bh fl z λw ê=>o.now t (VR.names (N:=(g.fr s.heap.objs.size).N) (N':=g.N) (λ_ q=>q) ê)
    ·injection hb
   ·exact o.elim
theorem abm(b:∀d,wg fa d):∀d,jP fa (ae GG PP d) d
 | 0=>by
  intro g G h f a A s φ H args vs R e L c v o;exact o.elim
 | d+1=>xu (b d) (abm b d)
end
noncomputable abbrev eV (W:eu):J cc:=[.ref W,.type "Exception",.type "BaseException",.type "object"]
def Bz(C W:eu):(i4 C::eV W).contains (.type "Exception")=X:=by
 simp[eV,Nn]
def BA(C W:eu)(e:a7)(h:e≠"Exception"/\e≠"BaseException"/\e≠"object"):(i4 C::eV W).contains (.type e)=aN:=by
 simp[eV,Nn,h.1,h.2.1,h.2.2]
section
variable{aC:nz}{w:oM}{A:hX}{E:cc->d2->Prop}{h:d1}{g:hF Vk}{d:Drawn}{t:S}{os:Bp}{K:mj}
variable{s q:cD}{C N W:eu}{bs:J cc}{y:aS}{z:J cD}{sub:J cc}{L:aS}{col:aI aS}{dd:aI eu}{k0 k1 k2 k3 k5:aI cc}
def yc(a:h.get? C=O (sh s q C N bs (eV W) y z sub L col dd k0 k1 k2 k3 k5 "Exception.__new__"))(hq:j () ⟨h,g,d,t,os⟩):er i A (Ha "Exception.__new__" ⟨.ref C::e,[]⟩) j E ⟨h,g,d,t,os⟩:=by
 haveI F:=o5;rw[Ha,F.newKind,F.newSplit,F.newRow]
 repeat (first | refine nc a ?_ | (refine uz a ?_) | refine wpAny_staticBase_exc a ?_ | refine SX a ?_ | dsimp only[Sg,ia,kc] | wp_step)
 exact hq
def zc{R:Result->d2->Prop}{e:J cc}(a:h.get? C=O (sh s q C N bs (eV W) y z sub L col dd k0 k1 k2 k3 k5 "Exception.__new__"))(hq:R (.ok (.ret (.ref (h.objs.size+1)))) ⟨(h.push {cls:=.type "tuple",data:=.seq e.toArray}).push
   {cls:=.ref C,data:=.fields #[.ref h.objs.size,.none,.none,.none,.bool aN,.none]},g,d,t,os⟩)(c:e.length<=G2):B2 (ej aC w) A (.builtin "Exception.__new__" ⟨.ref C::e,[]⟩) R ⟨h,g,d,t,os⟩:=by
 haveI F:=o5;haveI b:=F.ends;refine codeAny_builtinAt F.entry ?_;unfold kR.«BaseException.__new__»;refine Tg ?_;show PySem.wpAt _ _ _ (stack >>= _) _ _ _;refine Tg (PySem.wpAt_stack λp i=>Ro ?_)
 wp_walk
 refine Ro ?_;refine ah F.owner ?_
 repeat (first | with_reducible refine wpAny_madeHere_exc F.canon a ?_ | with_reducible refine nc a ?_ | (with_reducible refine uz a ?_;first | refine ah ((Bz C W)) ?_ | rw[(BA C W "AttributeError" (by decide))] | rw[(BA C W "NameError" (by decide))]) | wp_step)
 show R _ _;rw[l8];exact hq
def yd(à:K.In h)(a:h.get? C=O (sh s q C N bs (eV W) y z sub L col dd k0 k1 k2 k3 k5 "Exception.__new__"))(hi:l4 K (.ref C) "__init__"=O (O (.ref fI)))(m:Ow K (.ref fI)=O (.type "function"))(hq:∀h' e,TJ h h' e (.ref C) p->
   er (ej aC w) A (call (.ref fI) (.ref e::p)) (λr s'=>r=.none/\è (.done (.ret (.ref e))) s') E ⟨h',g,d,t,os⟩)(k:p.length<=G2):er (ej aC w) A (kR.«type.__call__» ⟨.ref C::p,[]⟩) è E ⟨h,g,d,t,os⟩:=by
 repeat (first | with_reducible refine nc a ?_ | with_reducible refine SX a ?_ | wp_step)
 refine codeAny_call_builtin_code (RQ _ (o5).quiet) (yc a ?_);refine zc a ?_ k;haveI c:∀b o,h.get? b=O o->((h.push {cls:=.type "tuple",data:=.seq p.toArray}).push {cls:=.ref C,data:=.fields #[.ref h.objs.size,.none,.none,.none,.bool aN,.none]}).get? b=O o:=λb o e=>c1 _ (c1 _ e);haveI i:((h.push {cls:=.type "tuple",data:=.seq p.toArray}).push
   {cls:=.ref C,data:=.fields #[.ref h.objs.size,.none,.none,.none,.bool aN,.none]}).get? (h.objs.size+1)=O
   {cls:=.ref C,data:=.fields #[.ref h.objs.size,.none,.none,.none,.bool aN,.none]}:=by heap_get
 haveI f:(i4 C::eV W).contains (.ref C)=X:=by simp
 repeat (first | with_reducible refine nc i ?_ | (with_reducible refine uz (c _ _ a) ?_;refine ah f ?_) | wp_step)
 refine(O2 (M:=ej aC w) (à.keeps c) hi).at (kW (a4 ((bind_fn (M:=ej aC w) (à.keeps c) _ m).at ?_)));refine a4 (x6 (hq _ (h.objs.size+1) ⟨λb o hb=>c b o hb,j3 (o7 _),h.objs.size,i,j3 (gk _),?_⟩) (λr s' n=>?_) λl l x=>x)
 ·exact c1 _ (Sm Z Z)
 ·refine rG r n λj=>?_
  wp_walk
  exact j
set_option tactic.hygienic true in
theorem GP{k:J cc}{p:eu}{é:cc->d2->Prop}(è:K.In h)(a:h.get? C=O (sh s q C N bs (eV W) y z sub L col dd k0 k1 k2 k3 k5 "Exception.__new__"))(hi:l4 K (.ref C) "__init__"=O (O (.ref p)))(f:Ow K (.ref p)=O (.type "function"))(hq:∀m e,TJ h m e (.ref C) k->
   er (ej aC w) (A.under (.builtin "type.__call__" ⟨.ref C::k,[]⟩)) (call (.ref p) (.ref e::k)) (λr x=>r=.none/\é (.ref e) x) E ⟨m,g,d,t,os⟩)(b:k.length<=G2):er (ej aC w) A (call (.ref C) k) é E ⟨h,g,d,t,os⟩:=by
 haveI i:=tc_lookup;haveI j:=tc_bind (.ref C);haveI hT:(⟨h,g,d,t,os⟩:d2).TypeIs (.ref C) "type":=⟨_,a,Z⟩;refine CO (codeAny_of_tree ?_)
 repeat (any_goals (first | assumption | with_reducible refine nc a ?_ | wp_step))
 refine au Z ?_;refine codeAny_call_builtin_at (RQ _ (by decide +kernel)) entry_typeCall (wpAny_check_type_call_sub a (yd è a hi f (λm e c=>?_) b));exact hq m e c
end
end Internal
end
noncomputable section
namespace Internal
open PySem PySem.W PySem.Calls PyProof.Rows SeqAt MeetsSeq PySem.Builtin.ObjectAttr
theorem ze(name:cD)(g:T)(k v:cc):∀h:J qc,(putL name g k v h).length<=h.length+1
 | []=>by simp[putL]
 | e::r=>by
  dsimp only[putL]
  split
  ·simp
  ·dsimp only[ff];exact Zi (ze name g k v r)
section
variable{aC:nz}{w:oM}{A:hX}{E:cc->d2->Prop}{h:d1}{g:hF Vk}{d:Drawn}{t:S}{os:Bp}{K:mj}{s:d2}
variable{L q:cD}{C N W:eu}{bs:J cc}{oQ:aS}{sn:J cD}{sub:J cc}{ab:aS}{col:aI aS}{dd:aI eu}{k0 k1 k2 k3 k5:aI cc}
def wj(c:h.get? C=O (sh L q C N bs (eV W) oQ sn sub ab col dd k0 k1 k2 k3 k5 "Exception.__new__"))(f:h.get? e=O k)(i:k.cls=.ref C)(hq:p () ⟨h,g,d,t,os⟩):er m A (Ha "Exception.__init__" ⟨.ref e::j,[]⟩) p E ⟨h,g,d,t,os⟩:=by
 haveI F:=o5;simp only[Ha,F.initKind,F.initSplit,F.initRow]
 repeat (first | (with_reducible refine nc f ?_;refine ah i ?_) | with_reducible refine nc c ?_ | (with_reducible refine uz c ?_;refine ah ((Bz C W)) ?_) | wp_step)
 rw[show ∀(a b:a7) (n:S),Bind.check ⟨.positional,"*","Exception",.self,[⟨"args",.varPos,aN⟩]⟩ a b n (J.map (λx=>x.fst) ({pos:=i4 e::j}:Args).kw)=pure () from
  λa b n=>check_star_args _ _ _ _ _ _]
 exact ei hq
def GQ{e:eu}{p:p6}{vs:hF cc}{k:eu}{m:J cc}{x:cc->d2->Prop}(j:s.heap.get? C=O (sh L q C N bs (eV W) oQ sn sub ab col dd k0 k1 k2 k3 k5 "Exception.__new__"))(b:s.heap.get? e=O p)(f:p.cls=.ref C)(hd:p.data=.fields vs)(a:vs[0]?=O (.ref k))(h:x .none {s with heap:=(s.heap.push {cls:=.type "tuple",data:=.seq m.toArray}).update e (oB (·.setIfInBounds 0 (.ref s.heap.objs.size)))})(i:m.length<=G2):er (ej aC w) A (call (.builtin "Exception.__init__") (.ref e::m)) x E s:=by
 have F:=o5;obtain⟨hp,g,d,t,os⟩:=s;refine CO (Jx F.init.plain F.initEntry (wj j b f ?_));unfold kR.«BaseException.__init__»;dsimp only;rw[dm (by simp)];unfold newTuple Tp;have l:0<vs.size:=(q5.mp a).1;have c:=c1 (h:=hp) {cls:=.type "tuple",data:=.seq m.toArray} b;refine a4 (DT (a4 (a4 (ib c hd a (a4 (wk c hd l ?_))))) (by show m.toArray.size<=G2;rw[mE];exact i));exact wpAny_letGo (ei h)
def BB{R:Result->d2->Prop}(é:K.In s.heap)(I:InstAt s.heap x ox C od)(hc:Uj K C=O z)(d:z.mro=.ref C::eV W)(j:LN K C name=O Q)(h:∀b,er (ej aC w) A.in1 (storeInOwnDict (.ref x) (.ref C) (.str name tk) name v b)
   (λy p=>match y with | .done f=>R (.ok f) p | .again c'=>c'.quiet=X/\B2 (ej aC w) A c' R p) (λe p=>R (.error e) p) s):B2 (ej aC w) A (.call (.builtin "object.__setattr__") ⟨[.ref x,.str name tk,v],[]⟩) R s:=by
 haveI SF:=PySem.F.store_object;refine Jx SF.slot.plain SF.entry (@check_slot (ej aC w) _ _ s "object.__setattr__" "object" "__setattr__" (.ref x) [.str name tk,v] [] _ SF.kind SF.split (I.type.andThen (looks_mroIn é (by unfold mroIn;rw[hc,dV,d,dm (by simp)];simp[eV,Nn]))) (SF.args (.ref x) (.str name tk) v) ?_);refine ak (Dm.mp j) λm c k=>?_;haveI l:Q2 (ej aC w) s.heap (mroOf (.ref C)) z.mro:=(Qz é hc).andThen .now;haveI g:Q2 (ej aC w) s.heap (storeTaker? m) Q:=by
  clear c;cases m with
  | none=>exact .now
  | some a=>
   refine ak (h7.mp k) λb hb i=>(looks_takesIn é hb).andThen ?_;cases b with| true=>injection i| false=>exact .now
 rw[osa_eq,refuse_eq];refine a4 (a4 (I.type.here (a4 (l.here ?_))));rw[d,TK,TK,PySem.F.store_Exception.passes];refine ei (a4 (I.type.here (a4 ((O2 é c).here (a4 (g.here ?_))))));exact h _
def AS(à:K.In s.heap)(c:s.heap.get? x=O a)(g:a.cls=.ref C)(i:a.dict=Q)(j:a.data=.fields vs)(hc:Uj K C=O cd)(v:cd.mro=.ref C::eV W)(y:cd.hasDict=X)(r:LN K C (aD f)=O Q)(z:l4 K (.ref C) "__setattr__"=O (O (.builtin "object.__setattr__")))(h:∀h' tk,(∀b o,b≠x->s.heap.get? b=O o->h'.get? b=O o)->h'.get? x=O {a with dict:=O s.heap.objs.size}->
   h'.get? s.heap.objs.size=O (dictOf (putL (aD f) (mr w.params (aD f)) (.str (aD f) (s.toks+1)) u []) (putN (aD f) [] 0))->è () {s with heap:=h',toks:=tk}):er (ej aC w) A (TA (.ref x) (aD f) u) è E s:=by
 haveI I:InstAt s.heap x a C Q:=⟨c,g,by unfold notCls;exact ah j Z,by refine ah i ?_;trivial⟩;refine TN à I z (BB (s:={s with toks:=s.toks+1}) à I hc v r λb=>?_);clear I;obtain⟨oc,é,t,l⟩:=a;dsimp only at g i j;subst g i j;refine a4 (ei (a4 (a4 (wo c (a4 ((Qz à hc).here (s:={s with toks:=s.toks+1}) ?_))))));refine ah y ?_;haveI m:(s.heap.push {cls:=.type "dict",data:=.dict #[]}).get? x=O {cls:=.ref C,dict:=Q,data:=.fields vs,slots:=l}:=c1 _ c;refine a4 (wpAny_alloc ?_);refine a4 (RG m ?_);haveI d:((s.heap.push {cls:=.type "dict",data:=.dict #[]}).update x λo=>{o with dict:=O s.heap.objs.size}).get? s.heap.objs.size=O (dictOf [] 0):=
  (hE _ _ (jB (hM c))).trans (Sm Z Z)
 haveI q:((s.heap.push {cls:=.type "dict",data:=.dict #[]}).update x λo=>{o with dict:=O s.heap.objs.size}).get? x=O {cls:=.ref C,dict:=O s.heap.objs.size,data:=.fields vs,slots:=l}:=
  kv _ m Z
 haveI p:∀b o,b≠x->s.heap.get? b=O o->((s.heap.push {cls:=.type "dict",data:=.dict #[]}).update x λo=>{o with dict:=O s.heap.objs.size}).get? b=O o:=λb o n e=>
  (hE _ _ (j1 n)).trans (c1 _ e)
 generalize ((s.heap.push {cls:=.type "dict",data:=.dict #[]}).update x λo=>{o with dict:=O s.heap.objs.size})=H2 at d q p ⊢;refine ei (a4 (ei (a4 ?_)));refine a4 (a4 (Oz (ei (a4 (OB (a4 (wo d ?_)))))));haveI k:(H2.update s.heap.objs.size (Sw (aD f) (mr w.params (aD f)) (.str (aD f) (s.toks+1)) u)).get? s.heap.objs.size =
   O (dictOf (putL (aD f) (mr w.params (aD f)) (.str (aD f) (s.toks+1)) u []) (putN (aD f) [] 0)):=by
  exact kv _ d (by rw[Jw];rfl)
 refine OC d ?_;refine a4 (OD k (OE (by refine ah mE ?_;rw[o6];simp[putL])) ?_);refine ei (h _ _ (λb o n e=>?_) ((hE _ _ (jB (hM c)).symm).trans q) k);have:s.heap.objs.size≠b:=A3 (hM e);exact(hE _ _ this).trans (p b o n e)
def qP{x dx:eu}{c:p6}{f:a7}{u:cc}{l:ClassData}{es:J qc}{n:S}{è:Unit->d2->Prop}(à:K.In s.heap)(p:s.heap.get? x=O c)(i:c.cls=.ref C)(j:c.dict=O dx){vs:hF cc}(k:c.data=.fields vs)(d:s.heap.get? dx=O (dictOf es n))(g:es.any (·.refKey)=aN)(z:es.length<=100)(hc:Uj K C=O l)(v:l.mro=.ref C::eV W)(y:l.hasDict=X)(q:LN K C (aD f)=O Q)(é:l4 K (.ref C) "__setattr__"=O (O (.builtin "object.__setattr__")))(h:∀h' tk,(∀b o,b≠dx->s.heap.get? b=O o->h'.get? b=O o)->
   h'.get? dx=O (dictOf (putL (aD f) (mr w.params (aD f)) (.str (aD f) (s.toks+1)) u es) (putN (aD f) es n))->è () {s with heap:=h',toks:=tk}):er (ej aC w) A (TA (.ref x) (aD f) u) è E s:=by
 haveI I:InstAt s.heap x c C (O (dictOf es n)):=⟨p,i,by unfold notCls;exact ah k Z,by refine ah j ?_;exact d⟩;refine TN à I é ?_;refine BB (s:={s with toks:=s.toks+1}) à I hc v q λb=>?_;clear I;obtain⟨oc,D,r,F⟩:=c;dsimp only at i j k;subst i j k;refine a4 (ei (a4 (a4 (wo p (a4 ((Qz à hc).here (s:={s with toks:=s.toks+1}) ?_))))));refine ah y ?_;refine ei (a:=O dx) (a4 (ei (a4 ?_)));refine a4 (a4 (Oz (ei (a4 (OB (a4 (wo d ?_)))))));dsimp only;haveI t:(!es.toArray.any (·.key.isStr (aD f))&&es.toArray.any (·.refKey))=aN:=by
  simp only[SI,g,QI]
 rw[QA,t];haveI m:(s.heap.update dx (Sw (aD f) (mr w.params (aD f)) (.str (aD f) (s.toks+1)) u)).get? dx =
   O (dictOf (putL (aD f) (mr w.params (aD f)) (.str (aD f) (s.toks+1)) u es) (putN (aD f) es n)):=by
  rw[<-Jw];exact kv _ d (by rw[Jw];rfl)
 refine OC d ?_;refine a4 (OD m (by
  exact OE ((mE)▸Zx z (ze (aD f) (mr w.params (aD f)) (.str (aD f) (s.toks+1)) u es))) ?_)
 exact ei (h _ _ (λb o n e=>(hE _ _ (j1 n)).trans e) m)
end
end Internal
end
noncomputable section
namespace Internal
open PySem PySem.W PySem.Calls PyProof.Rows SeqAt MeetsSeq
section
variable{fa:a7->aI eu}{d:S}{g:Gr}{A:hX}{s:d2}{φ:Fi}{H:Hp}{env:Env}{E:cc->d2->Prop}
def Tc{x:a7}{w:cc}{e:Expr}{p:cc->d2->Prop}(G:g.Ok)(st:∀b o,g.hT.get? b=O o->s.heap.get? b=O o)(i:env.scope.kind=.function)(j:env.globals=fw)(m:cf env.scope.names x e=X)(r:r0 g.K fw (aD x)=O (O w))(h:p w s):er (ej g.prog g.w) A (eval e env) p E s:=by
 refine nt e (cU m) λk a c=>?_;clear m;exact x5 i a (Se (by rw[j];exact G.T.g.keeps st) (mg_of G.X G.T.g r) h) c
def OA{x:a7}{w:cc}{e:Expr}{p:cc->d2->Prop}(G:g.Ok)(st:∀b o,g.hT.get? b=O o->s.heap.get? b=O o)(i:env.scope.kind=.function)(j:env.globals=fw)(bt:env.builtins=rV)(m:cf env.scope.names x e=X)(r:r0 g.K fw (aD x)=O Q)(hb:Oy (aD x)=O w)(c:aD x≠"__name__")(h:p w s):er (ej g.prog g.w) A (eval e env) p E s:=by
 refine nt e (cU m) λk a d=>?_;clear m;exact x5 i a (RK (by rw[j];exact G.T.g.keeps st) (mg_none_of G.X G.T.g r) (by rw[bt];exact G.T.b.keeps st) ((G.T.builtins _ c).trans hb) h) d
def Dd(i:env.scope.kind=.function)(m:isLocal env.scope.names x e=X)(b:s.heap.Ns env.locals j)(hv:j (aD x)=O v)(h:q v s):er p A (eval e env) q E s:=by
 refine aq (b2 m) λm c=>?_;refine rH e (gQ m) λk f d a=>?_;clear m;exact wpAny_Name (Jv i (e5 c) b hv h) a
def kB(m:isLocal h x e=X):dq h x e=X:=(b2 m).1
def oU{h:Nm}{x:a7}{e:Expr}(m:isLocal h x e=X):h.lookup (aD x)=O .local:=e5 (b2 m).2
def BD{y:Nm}{c:a7}{st:ea}(m:isUp y c st=X):∃p z a b2 x d,st=.Expr (.Call (.Attribute p (aD "__init__") z) [a,b2] [] x) d/\cf y c p=X/\isLocal y "self" a=X/\isLocal y "why" b2=X/\(z.endLine==x.line)=X:=by
 refine bY st (ti m) λe d=>?_;clear m;intro m;refine bC e (dS m) λg L W x s=>?_;refine cF (b3 s) λq h f=>?_;obtain rfl:=nE q;refine aP g (gE h) λp n z t=>?_;refine cF (b3 t) λo i k=>?_;obtain rfl:=e5 i;refine bY L (dy f) λa r u=>?_;refine aq (Internal.b2 u) λj l=>?_;refine bh r (ez l) λb2 b=>?_;exact Wu p z a b2 x d Z o j b k
def zj{k:Nm}{f:a7}{st:ea}(m:rR k f st=X):∃p q e j,st=.Assign [.Attribute p (aD f) q] e j/\isLocal k "self" p=X/\isLocal k f e=X:=by
 refine aP st (nJ m) λx e j=>?_;clear m;intro m;refine aq (b2 m) λd h=>?_;try clear m;try clear x;try clear f;try clear k;try clear cD;try clear st;try clear a7
 refine bh x (ez d) λt a=>?_;refine aP t (gE a) λp g q i=>?_;refine aq (b2 i) λc b=>?_;obtain rfl:=e5 b;exact s9 p q e j Z c h
def BE{c:a7}{st:ea}{e:cD->aI cc}{o fv vs j:cc}{é:Flow->d2->Prop}(hk:env.scope.kind=.function)(è:g.K.In s.heap)(m:isUp env.scope.names c st=X)(k:s.heap.Ns env.locals e)(U:e (aD "self")=O vs)(V:e (aD "why")=O j)(hp:∀p (x:cc->d2->Prop),cf env.scope.names c p=X->x o s->er (ej g.prog g.w) A (eval p env) x E s)(t:∀y (x:cc×J cc->d2->Prop),(∀tk,x (fv,[]) {s with toks:=tk})->er (ej g.prog g.w) A (getMethod o (aD "__init__") y) x E s)(d:(∃id,fv=.builtin id)\/q6 g.K fv=X)(h:∀tk,er (ej g.prog g.w) A (call fv [vs,j]) (λf z=>é .next z) E {s with toks:=tk}):er (ej g.prog g.w) A (exec st env) é E s:=by
 refine J6 st (BD m) λp ap i b2 L u n a b r=>?_;clear m;have l:dH env.scope.names [.loc "self",.loc "why"] [i,b2]=X:=by
  show(dq _ "self" i&&(dq _ "why" b2&&X))=X;rw[kB a,kB b];rfl
 refine QO (mF (es:=[.loc "self",.loc "why"]) (by refine bh p (cU n) λf f=>?_;rfl) l (by decide) r (hp p _ n λy=>t y _ λtk=>?_)) (tB hk) (j0 Z);refine callWith_of (P:=g.K.In) (by rw[oF l];rfl) (λh è=>?_) ?_
 ·rcases d with⟨id,rfl⟩ | hk
  ·exact ay _ (.inr (.inl Z)) (iQ id)
  ·exact keeps_K hk h è
 ·have W:er (ej g.prog g.w) A (spliced (QL L (A1 [i,b2] env))) (λq ag=>g.K.In ag.heap/\er (ej g.prog g.w) A (call fv ([]++q)) (λf z=>é .next z) E ag) E {s with toks:=tk}:=
   O3 (Dd (s:={s with toks:=tk}) hk a k U (O3 (Dd (s:={s with toks:=tk}) hk b k V (Tb ⟨è,h tk⟩)) (iO (kY (kB b)).1 _ _))) (iO (kY (kB a)).1 _ _)
  rw[iO (kY (kB a)).1] at W ⊢;exact TC W
def tF{f:a7}{st:ea}{a:cD->aI cc}{vs u:cc}{z:Flow->d2->Prop}(j:env.scope.kind=.function)(m:rR env.scope.names f st=X)(b:s.heap.Ns env.locals a)(U:a (aD "self")=O vs)(V:a (aD f)=O u)(h:er (ej g.prog g.w) A (TA vs (aD f) u) (λi=>z .next) E s):er (ej g.prog g.w) A (exec st env) z E s:=by
 refine nu st (zj m) λp y e k d c=>?_;clear m;exact I4 (Dd j c b V (Dd j d b U h)) (jZ (by intro x p q;injection q))
def qR{j:J a7}{k:pK}(m:Js j k){vs:J cc}(d:j.length=vs.length)(n:S):∀x∈(j.map aD).zip vs,k.scope.names.lookup x.1=O .local\/(k.scope.names.lookup x.1=O .cell/\((I3 n k.scope.names []).lookup x.1).isSome=X):=λx b=>by
 have i:=kA (vs:=vs) d;have a:x.1∈j.map aD:=by rw[<-i];exact hN.mpr ⟨x,b,Z⟩
 refine ak (hN.mp a) λp hp e=>?_;rw[<-e];refine eE (m.ki p hp) (λh=>?_) λh=>?_
 ·exact .inl h
 ·refine aH (fZ (n:=n) (acc:=[]) (mem_of_lookup h)) λc hc=>?_;exact .inr ⟨h,gH hc⟩
noncomputable abbrev jf (C t:eu)(e:aI eu):p6:={cls:=.ref C,dict:=e,data:=.fields #[.ref t,.none,.none,.none,.bool aN,.none]}
def tG{K:mj}{C:eu}{o:p6}{d:ClassData}(h:K.lookup C=O o)(hd:o.data=.cls d):Uj K C=O d:=by
 unfold Uj;obtain⟨a,b,c,e⟩:=o;subst hd;rw[h]
def sO{st:ea}(m:isUp i c st=X):i.lookup (aD "self")=O .local/\i.lookup (aD "why")=O .local:=by
 refine Wt (BD m) λp k e b2 j g d=>?_;intro h b a f;exact au (oU b) (oU a)
def sP{h:Nm}{f:a7}{st:ea}(m:rR h f st=X):h.lookup (aD f)=O .local:=by
 refine nu st (zj m) λp j e i b a=>?_;clear m;exact oU a
set_option tactic.hygienic true in
theorem AU{sub:J cc}(G:g.Ok)(st:∀b o,g.hT.get? b=O o->s.heap.get? b=O o)(ym:A.depth<Bx)(hw:g.K.lookup wi=O ⟨oc,od,.func fd,sl⟩)(f:nK fd=X)(ö:RA g.K fd.code fd.qualname=X)(hg:fd.globals=fw)(hb:fd.builtins=rV)(H:g.K.lookup C=O (sh nm q C N bs (eV W) X sn sub ab é dd k0 k1 k2 k3 k5 "Exception.__new__"))(à:LN g.K C (aD "why")=O Q)(ü:l4 g.K (.ref C) "__setattr__"=O (O (.builtin "object.__setattr__")))(y:r0 g.K fw (aD "Exception")=O Q)(D:Of g.K (.type "Exception") (.type "type") (aD "__init__")=O (.val (.builtin "Exception.__init__")))(v:s.heap.get? e=O (jf C t0 Q))(R:g.hT.get? e=Q)(h:∀h' tk dx t',(∀b o,b≠e->s.heap.get? b=O o->h'.get? b=O o)->s.heap.get? dx=Q->h'.get? e=O (jf C t' (O dx))->
   (∃hs k,h'.get? dx=O (dictOf [⟨hs,.str (aD "why") k,vw⟩] 1))->î .none {s with heap:=h',toks:=tk}):er (ej g.prog g.w) A (call (.ref wi) [.ref e,vw]) î E s:=by
 unfold nK at f;rw[e3] at f;refine aq f λhS hB=>?_;clear f;have ô:=uM hS
 split at hB
 ·rename_i l j6;refine aq (b2 hB) λTd hB=>?_;refine bG (dy hB) λa r Te=>?_;clear hB;subst Te;intro hB;refine aq (b2 hB) λL hB=>?_;refine ak (ez hB) λb Tf=>?_;clear hB;subst Tf;intro mb;refine aq (sO L) λks kw=>CO (A4 ym ((G.X.keeps st) _ _ hw) Z (G.T.nolimit.keeps st) (Q6 (G.X.keeps st) ö) j6 (oP ô (vals:=[.ref e,vw]) Z) ô.cl (qR ô Z _) (λag x=>?_) ô.co ô.ge ô.hk);refine d9 (x.toInCall.same) λc I ä=>?_;subst ä;have d:∀b o,s.heap.get? b=O o->c.get? b=O o:=x.toInCall.keep;have u:∀b o,g.hT.get? b=O o->c.get? b=O o:=λb o q=>d b o (st b o q);have ù:g.K.In c:=G.X.keeps u;have m:c.Ns s.heap.objs.size _:=x.toInCall.ns;have nd:((["self","why"].map aD).zip [i4 e,vw] |>.map (·.1)).Nodup:=by rw[kA Z];exact kz ô.nd
  have j:e≠s.heap.objs.size:=jB (hM v);have t:Fr s.heap s.heap.objs.size c _:=⟨m,d,gk _⟩;have P:g.K.In s.heap:=(G.X.keeps st);refine o1 (BE (s:={s with heap:=c,toks:=I}) (env:=oA fd s.heap.objs.size wi) ô.hk ù L m (dG ks nd (.head _)) (dG kw nd (.tail _ (.head _)))
   (λp Q' û hq=>OA G u ô.hk hg hb û y (by decide +kernel) (by decide +kernel) hq)
   (λpl Q' hq=>method_type (s:={s with heap:=c,toks:=I}) t P (by rw[show(S5 "Exception")=.type "Exception" from Z];rfl) (by decide +kernel) D Z (hq _))
   (.inl ⟨_,Z⟩) λtk=>?_)
  refine GQ (s:={s with heap:=c,toks:=tk}) (ù _ _ H) (d _ _ v) Z Z Z ?_ (by size_fits);have è:(oA fd s.heap.objs.size wi).locals=s.heap.objs.size:=Z;have â:((c.push {cls:=.type "tuple",data:=.seq [vw].toArray}).update e (oB (·.setIfInBounds 0 (.ref c.objs.size)))).get? e=O (jf C c.objs.size Q):=
   kv _ (c1 _ (d _ _ v)) Z
  have i:∀b o,b≠e->c.get? b=O o->((c.push {cls:=.type "tuple",data:=.seq [vw].toArray}).update e (oB (·.setIfInBounds 0 (.ref c.objs.size)))).get? b=O o:=λb o n q=>
   (hE _ _ (j1 n)).trans (c1 _ q)
  have F:((c.push {cls:=.type "tuple",data:=.seq [vw].toArray}).update e (oB (·.setIfInBounds 0 (.ref c.objs.size)))).objs.size=c.objs.size+1:=by
   rw[d1.size_after_update,l8]
  generalize ((c.push {cls:=.type "tuple",data:=.seq [vw].toArray}).update e (oB (·.setIfInBounds 0 (.ref c.objs.size))))=gq at â i F ⊢;have GR:∀b o,g.hT.get? b=O o->b≠e:=λb o q z=>by rw[z,R] at q;injection q
  have rU:∀b o,g.hT.get? b=O o->gq.get? b=O o:=λb o q=>i b o (GR b o q) (u b o q);have zk:g.K.In gq:=G.X.keeps rU;have uS:gq.Ns s.heap.objs.size _:=m.at' λo q=>i _ o (j1 j) q;refine o1 (tF (s:={s with heap:=gq,toks:=tk}) (env:=oA fd s.heap.objs.size wi) ô.hk mb uS (dG ks nd (.head _)) (dG kw nd (.tail _ (.head _))) ?_);refine AS (s:={s with heap:=gq,toks:=tk}) zk â Z Z Z (tG H Z) Z Z à ü λwm ê oV CN De=>qW (h wm ê gq.objs.size c.objs.size (λb o n q=>oV b o n (i b o n (d b o q))) ?_ CN ⟨_,_,De⟩);refine az (s.heap.get? gq.objs.size) ?_ ?_
  ·intro q;rfl
  ·intro o q;have:=hM (d _ _ q);rw[F] at this;exact hQ this (N8.mpr (o7 _))
 ·injection hB
end
section
variable{fa:a7->aI eu}{d:S}{g:Gr}{A:hX}{s:d2}{φ:Fi}{H:Hp}{env:Env}{E:cc->d2->Prop}
def put2(U:T)(i b a:cc)(e:T)(h:Tok)(k:Tok):putL (aD "function") e (.str (aD "function") h) a [⟨U,.str (aD "why") k,b⟩]=[⟨U,.str (aD "why") k,b⟩,⟨e,.str (aD "function") h,a⟩]:=by
 rfl
def put3(U V e:T)(b a c:cc)(h i j:Tok):putL (aD "at") e (.str (aD "at") j) c [⟨U,.str (aD "why") h,b⟩,⟨V,.str (aD "function") i,a⟩] =
  [⟨U,.str (aD "why") h,b⟩,⟨V,.str (aD "function") i,a⟩,⟨e,.str (aD "at") j,c⟩]:=by
 rfl
set_option tactic.hygienic true in
def AW(G:g.Ok)(ç:XT g.K C fa)(st:∀b o,g.hT.get? b=O o->s.heap.get? b=O o)(ø:A.depth+1<Bx)(hw:g.K.lookup fi=O ⟨oc,od,.func fd,sl⟩)(û:rS fd=X)(EN:RA g.K fd.code fd.qualname=X)(hg:fd.globals=fw)(hb:fd.builtins=rV)(ô:s.heap.get? e=O (jf C t0 Q))(R:g.hT.get? e=Q)(h:∀h' tk dx î,(∀b o,b≠e->s.heap.get? b=O o->h'.get? b=O o)->s.heap.get? dx=Q->h'.get? e=O (jf C î (O dx))->
   (∃U V h3 k1 k2 k3 n,h'.get? dx=O (dictOf [⟨U,.str (aD "why") k1,vw⟩,⟨V,.str (aD "function") k2,vf⟩,⟨h3,.str (aD "at") k3,vp⟩] n))->ö .none {s with heap:=h',toks:=tk}):er (ej g.prog g.w) A (call (.ref fi) [.ref e,vw,vf,vp]) ö E s:=by
 refine FN ç.cls λcl W wi v c2 c3 c4 c5 c6 I=>?_;obtain⟨é,è,à,ù,I,c8,c9,ä,y⟩:=I;delta rS at û;rw[e3] at û;refine aq û λhS hB=>?_;have ü:=uM hS
 split at hB
 ·rename_i l j6;refine aq (Internal.b2 hB) λTd k1=>?_;refine bG (dy k1) λa r Th=>?_;clear hB;subst Th;intro k2;refine aq (Internal.b2 k2) λæ k3=>?_;refine bG (dy k3) λb r Ti=>?_;subst Ti;intro k4;refine aq (Internal.b2 k4) λmb k5=>?_;refine ak (ez k5) λc Tj=>?_;subst Tj;intro mc;refine aq (sO æ) λks kw=>CO (A4 (by exact Zn ø) ((G.X.keeps st) _ _ hw) Z (G.T.nolimit.keeps st) (Q6 (G.X.keeps st) EN) j6 (oP ü (vals:=[.ref e,vw,vf,vp]) Z) ü.cl (qR ü Z _) (λag x=>?_) ü.co ü.ge ü.hk);refine d9 (x.toInCall.same) λd yn Tn=>?_;subst Tn;have t:∀b o,s.heap.get? b=O o->d.get? b=O o:=x.toInCall.keep;have m:∀b o,g.hT.get? b=O o->d.get? b=O o:=λb o q=>t b o (st b o q);have F:g.K.In d:=G.X.keeps m;have k:d.Ns s.heap.objs.size _:=x.toInCall.ns;have nd:((["self","why","function","at"].map aD).zip [i4 e,vw,vf,vp] |>.map (·.1)).Nodup:=by rw[kA Z];exact kz ü.nd
  haveI GR:∀b o,g.hT.get? b=O o->b≠e:=λb o q z=>by rw[z,R] at q;injection q
  refine o1 (BE (s:={s with heap:=d,toks:=yn}) (env:=oA fd s.heap.objs.size fi) ü.hk F æ k (dG ks nd (.head _)) (dG kw nd (.tail _ (.head _)))
   (λp Q' mp hq=>Tc G m ü.hk hg mp c2 hq)
   (λpl Q' hq=>method_cls F c3 (cls_value F c4 c5 Z (hq _)))
   (.inr c6) λtk=>?_)
  refine AU (s:={s with heap:=d,toks:=tk}) (A:=A.deeper (oA fd s.heap.objs.size fi)) G m ø I c8 c9 ä y v (ç.Np _ (by simp)) ç.sa ç.yS ç.exc (t _ _ ô) R λj Jy dx î H EO N u=>?_;refine d9 u ?_;clear u;intro â ê u;have f:s.heap.get? dx=Q:=by
   refine az (s.heap.get? dx) ?_ ?_
   ·intro q;rfl
   ·intro o q;have:=t _ _ q;rw[EO] at this;injection this
  have L:dx≠e:=λz=>by rw[z,ô] at f;injection f
  have D:dx≠s.heap.objs.size:=λz=>by
   refine dp k λo es ep å _=>?_;clear k;simp only[<-z,EO] at å;injection å
  haveI To:∀b o,g.hT.get? b=O o->b≠dx:=λb o q z=>by have:=st b o q;rw[z,f] at this;injection this
  have rU:∀b o,g.hT.get? b=O o->j.get? b=O o:=λb o q=>H b o (GR b o q) (m b o q);haveI uS:j.Ns s.heap.objs.size _:=k.at' λo q=>H _ o (j1 (jB (hM ô))) q;refine o1 (tF (s:={s with heap:=j,toks:=Jy}) (env:=oA fd s.heap.objs.size fi) ü.hk mb uS (dG ks nd (.head _)) (dG (sP mb) nd (.tail _ (.tail _ (.head _)))) ?_);refine qP (s:={s with heap:=j,toks:=Jy}) (G.X.keeps rU) N Z Z Z u Z (by simp) (tG v Z) Z Z (ç.Np _ (by simp)) ç.sa λwm P i De=>?_;rw[put2 _ .none] at De;refine o1 (tF (s:={s with heap:=wm,toks:=P}) (env:=oA fd s.heap.objs.size fi) ü.hk mc (uS.at' λo q=>i _ o (j1 D) q) (dG ks nd (.head _)) (dG (sP mc) nd (.tail _ (.tail _ (.tail _ (.head _))))) ?_);refine qP (s:={s with heap:=wm,toks:=P}) (G.X.keeps (λb o q=>i b o (To b o q) (rU b o q))) (i _ _ L.symm N) Z Z Z De Z (by simp) (tG v Z) Z Z (ç.Np _ (by simp)) ç.sa λjh rW ñ oW=>qW (h jh rW dx î (λb o n q=>?_) f (ñ _ _ L.symm (i _ _ L.symm N)) ⟨_,_,_,_,_,_,_,oW⟩);haveI nb:b≠dx:=λz=>by rw[z,f] at q;injection q
  exact ñ b o nb (i b o nb (H b o n (t b o q)))
 ·injection hB
set_option tactic.hygienic true in
def EP(hd:cM N A s.heap φ)(d:s.heap.get? e=O y)(j:y.data=.fields vs)(V:2<vs.size)(g:∀x,N.exc=O x->x.e≠e)(h:∀m,(m=s.heap\/(N.exc≠Q/\∃u,m=s.heap.update e (oB (·.setIfInBounds 2 u))))->E (.ref e) {s with heap:=m}):er (ej p w) A (QZ (.ref e):RF z) L E s:=by
 refine a4 (TU ?_);delta cM at hd
 split at hd
 ·exact ah hd (FK (h _ (.inl Z)))
 ·rename_i x c;refine eE hd.hd (λq=>?_) λq=>?_
  ·exact ah q (FK (h _ (.inl Z)))
  ·rw[q];refine vN (hd.ob) λk l a _ _ i f=>?_;haveI b:(i4 x.e != i4 e)=X:=by
    have:=g x c;simp[this]
   dsimp only;refine ah (dE b) (a4 (kW (Tw (S7 pJ ?_))));refine a4 (ib a i f ?_);refine a4 (ei (ei ?_));refine a4 (a4 (S8 d ?_));refine ah j ?_;dsimp only;refine ah (dE V) (RG d ?_);exact FK (h _ (.inr ⟨by rw[c];simp,_,Z⟩))
def Dg{sub:J cc}(h:er é A x (λv i=>∃e t j,v=.ref e/\i.heap.get? C=O (sh m q C N p (eV W) y z sub L k dd k0 k1 k2 k3 k5 "Exception.__new__")/\
   i.heap.get? e=O (jf C t j)/\er é A (QZ (.ref e):RF Flow) è E i) E s):er é A (raiseStmt env (O x) Q) è E s:=by
 refine a4 (x6 h (λv i d=>?_) λc c x=>x);refine J3 v d λe t j a b f=>?_
 repeat (first | with_reducible refine nc b ?_ | with_reducible refine nc a ?_ | (with_reducible refine uz a ?_) | wp_step)
 exact f
end
def Dh(h:l1 (qo P) b=X):∃e c p,b=[.Raise e c p]/\P e c p=X:=by
 refine bh b (ez h) λst=>?_;intro h;refine aP st (D8 h) λe c p=>?_;intro h;exact ed e c p Z h
def vr3(a:aL N h z [.str w,.int i,.int j] b):∃p q s,b=[cc.str (aD w) p,.int i q,.int j s]:=by
 refine dc b a ?_;clear a;intro g x c a;refine dc x a ?_;clear a;intro k y d a;refine dc y a ?_;clear a;intro m l f a;delta aL at a;dsimp only at a;subst a;delta VR at c d f;dsimp only at c d f;refine aX g c λp=>?_;clear c;refine aX k d λq=>?_;clear d;exact aH f λs e=>⟨p,q,s,e▸Z⟩
def GU{K:mj}(à:XT K C y)(h:er é A x (λv i=>∃e t j,v=.ref e/\K.In i.heap/\i.heap.get? e=O (jf C t j)/\er é A (QZ (.ref e):RF Flow) è E i) E s):er é A (raiseStmt k (O x) Q) è E s:=by
 refine FN à.cls λm W L g f f f f f f=>?_;cases m with| mk nm q N bs sn sub ab p dd k0 k1 k2 k3 k5=>exact Dg (x6 h (λv i z=>jH z λe t j a b c d=>vP e t j a (b _ _ g) c d) λf f x=>x)
theorem GV{g:Gr}(G:g.Ok)(ô:XT g.K g.N.inv fa)(ä:g.K.In s.heap)(st:∀b o,g.hT.get? b=O o->s.heap.get? b=O o)(hd:A.depth+1+1<Bx)(k:∀e h dx c j,s.heap.get? e=Q->s.heap.get? dx=Q->dx≠e->(∀b o,s.heap.get? b=O o->c.get? b=O o)->c.get? e=O (jf g.N.inv h (O dx))->
   (∃U V h3 k1 k2 k3 n,c.get? dx=O (dictOf [⟨U,.str (aD "why") k1,vw⟩,⟨V,.str (aD "function") k2,vf⟩,⟨h3,.str (aD "at") k3,vp⟩] n))->ê (.ref e) {s with heap:=c,toks:=j}):er (ej g.prog g.w) A (call (.ref g.N.inv) [vw,vf,vp]) ê E s:=by
 refine FN ô.cls λcl W wi p a a a a a a=>?_;obtain⟨nm,q,N,I,sn,sub,ab,é,dd,k0,k1,k2,k3,k5⟩:=cl;refine cR ô.init λfi r m l=>?_;obtain⟨v,y,û,R,l,L,F,â,C⟩:=l;obtain⟨hp,ù,i,D,x⟩:=s;refine GP ä (ä _ _ p) r m (λh' e d=>?_) (by size_fits);clear ä p r m;refine cR (d.there) λî t a a=>?_;have f:hp.get? e=Q:=d.new;have è:g.hT.get? e=Q:=sm.mpr λo q=>nomatch f.symm.trans (st _ o q)
 refine AW (g:=g) (s:=⟨h',ù,i,D,x⟩) (fa:=fa) G ô (λb o q=>d.keeps b o (st b o q)) hd l L F â C t è λc j dx h à u H P=>⟨Z,?_⟩;refine k e h dx c j f (sm.mpr λo q=>nomatch (show h'.get? dx=Q from u).symm.trans (d.keeps _ _ q)) (λz=>nomatch (show h'.get? dx=Q from u).symm.trans ((cx _ z).trans t)) (λb o q=>à b o (λz=>nomatch f.symm.trans ((cx _ z.symm).trans q)) (d.keeps b o q)) H P
def KP{g:Gr}(L:Lv g A s φ H)(dW:∀b o,î b->s.heap.get? b=O o->∀ws k,o.data≠.seq ws k)(h:s.heap.get? e=Q)(F:s.heap.get? dx=Q)(K:dx≠e)(l:∀b o,s.heap.get? b=O o->jh.get? b=O o)(f:jh.get? e=O (jf g.N.inv t' (O dx)))(p:∃U V h3 k1 k2 k3 n,jh.get? dx=O (dictOf [⟨U,.str (aD "why") k1,.str (aD w) t1⟩,⟨V,.str (aD "function") k2,.int i t2⟩,⟨h3,.str (aD "at") k3,.int j t3⟩] n))(k:∀a,Raw g î s φ w i j e {s with heap:=a,toks:=tk}->(∃W vs,a.get? e=O W/\W.data=.fields vs/\vs[1]?=O .none)->E (.ref e) {s with heap:=a,toks:=tk}):er (ej g.prog g.w) A (QZ (.ref e):RF α) ê E {s with heap:=jh,toks:=tk}:=by
 have hd:=L.hd.keep (.refl ..) λy t=>⟨λo q=>l _ o q,λo q=>l _ o q⟩;refine EP (N:=g.N) (φ:=φ) hd f Z (by simp) (λy t z=>?_) λa m=>?_
 ·have é:=L.hd;unfold cM at é;rw[t] at é;refine bG (é.ob) λW c v c=>?_;rw[z,h] at v;injection v
 ·have x:∀b o,b≠e->jh.get? b=O o->a.get? b=O o:=λb o n q=>by
   rcases m with rfl | ⟨_,u,rfl⟩
   ·exact q
   ·exact(hE _ _ (j1 n)).trans q
  have d:∀b o,s.heap.get? b=O o->a.get? b=O o:=λb o q=>x b o (λz=>nomatch h.symm.trans ((cx _ z.symm).trans q)) (l b o q);have obj:∃W vs,a.get? e=O W/\W.cls=.ref g.N.inv/\W.dict=O dx/\W.data=.fields vs/\1<vs.size/\(g.N.exc=Q->vs[2]?=O .none)/\vs[1]?=O .none:=by
   rcases m with rfl | ⟨ne,u,rfl⟩
   ·exact yz _ _ f Z Z Z (by simp) (λc=>Z) Z
   ·exact yz _ _ (kv _ f Z) Z Z Z (by simp) (λz=>hQ z ne) Z
  clear m hd f;refine s8 obj λW C r â P è D I R=>?_;refine Wv p ?_;intro ù à G z1 z2 z3 nn p;exact k a ⟨⟨dx,h,F,⟨W,C,r,â,P,è,D,I⟩,_,nn,z1,z2,z3,t1,t2,t3,ù,à,G,x _ _ K p⟩,⟨a,tk,Z⟩,
   ⟨λb o c c q=>⟨o,d b o q,.refl o⟩,λb o q=>⟨o,d b o q⟩,dW,λb o es n c c q dd=>⟨o,es,n,d b o q,dd⟩⟩,λb o q=>d b o (L.st b o q),λb o c c c q=>d b o q⟩ ⟨W,C,r,è,R⟩
set_option tactic.hygienic true in
def Di{fa:a7->aI eu}(d:S)(ç:jP fa (ae GG PP d) d):wg fa d:=by
 intro g G û a A s φ H n w Y fn pl vs R F L t v r U V é;refine ak û.xt.fail λa' e1 l=>?_;obtain rfl:a=a':=gf (F.symm.trans e1);obtain⟨fd,oc,od,sl,l,u,ù,ê,ä⟩:=l;clear e1;delta yJ at u;rw[e3] at u;refine aq u λî hB=>?_;have ô:=uM î;haveI ü:g.K.In s.heap:=G.X.keeps L.st;clear î F
 split at hB
 ·rename_i b i
  revert i
  refine aP b (Dh hB) λex ca rp k1=>?_;clear hB;refine aq (b2 k1) λk2 k3=>?_;obtain rfl:=nO k2;clear k1 k2;refine bh ex (mz k3) λce N=>?_;refine bC ce (dS N) λc bs uG cp k5=>?_;clear N;refine cF (b3 k5) λW j m2=>?_;clear k5;obtain rfl:=nE W;intro i;have y:(["self","why"]:J a7).length=vs.length:=by rw[v.len];rfl
  refine A4 (by have:=t.depth;exact MQ this) (ü _ _ l) Z (G.T.nolimit.keeps L.st) (Q6 ü ù) i (oP ô y) ô.cl (qR ô y _) (λag x=>?_) ô.co ô.ge ô.hk;refine aq (uQ G û L t v ô Z ê ä x) λf af=>?_;have D:s.heap.get? s.heap.objs.size=Q:=aF _;have fresh:∀b,Xf (oA fd s.heap.objs.size a) b->s.heap.get? b=Q:=λb hb=>by
   rcases hb with rfl | ⟨n,r⟩
   ·exact D
   ·exact j3 (pS (x.above n b (mem_of_lookup r)))
  clear ü l ù i ô y x D ê ä v t L;refine o1 ?_;refine a4 (GL (GU û.xt ?_));refine a4 (x6 ?_ (λv eB wm=>a4 (GL (ei wm))) λ_ _ x=>x);haveI mm:=cU j
  revert j
  refine bh c mm λp _ j=>vG (gF (g:=g.fr s.heap.objs.size) f.c.G f.c.L f.c.n j f.c.T.Vi ?_);haveI pZ:ct GG (ae GG PP d) 0 [.loc "why",.attr (.loc "self") "function",.attr (.loc "self") "at"] [("self",.obj n),("why",.str w)] H=.ok [.str w,.int fn,.int pl] H:=by
   simp[F4,pZ,opt,V1.bind,jg,r,U,V]
  refine dF (g:=g.fr s.heap.objs.size) (fa:=fa) (C:=ae GG PP d) (d:=d) (k:=0) (.inr (.inr û.xt.keep)) (λm _=>xk ç m) m2 f.c (ah (P:=λz=>Out _ _ _ _ _ _ z _ _) pZ ?_);intro b aV cO I ö;haveI h:=f.a I;refine J2 b (vr3 ö) λt1 t2 t3=>?_;clear ö;have à:g.K.In aV.heap:=G.X.keeps h.c.L.st;refine au à ?_;refine GV (g:=g) G û.xt à h.c.L.st (by have:=f.c.R.depth;exact Zo this) λe t' dx jh rW en dn zl â E oW=>vP e t' (O dx) Z (λb o q=>â _ _ (à b o q)) E ?_;refine aH (f.top) λè ñ=>?_;exact KP (g:=g.fr s.heap.objs.size) h.c.L h.dW en dn zl â E oW λmY raw hv=>AN (g:=g.fr s.heap.objs.size) h.c.L ñ f.S.fr raw hv λcA x'=>
   é _ cA ((((Flt.Dc (g:=g.fr s.heap.objs.size) I f.dW x').C9 (g:=g) Z).Dc af (λb o hb e=>nomatch (fresh b hb).symm.trans e:∀b o,Xf (oA fd s.heap.objs.size a) b->s.heap.get? b=O o->∀ws k,o.data≠.seq ws k)).drop fresh)
 ·injection hB
theorem tH:∀d,jP e (ae GG PP d) d
 | 0=>by
  intro g G i f a A s h H args vs R c L b v o;exact o.elim
 | d+1=>xu (Di d (tH d)) (tH d)
end Internal
end
noncomputable section
namespace Internal.P
inductive Op where
 | cP | br (l:S) | gr (l:S) | f9 (a b c:S) | ret | drop | sel | dK
 | mZ (k:T) | xx (n:T) | xA (n:T) | j7 (k:T) | mI | mJ | mK
 | lX (i:S) | lY (i:S) | lZ (i:S) | sQ
noncomputable def Op.ctorIdx (x:Op):S:=@Op.casesOn (λ_=>S) x (nat_lit 0) (λ_=>nat_lit 1) (λ_=>nat_lit 2) (λ_ _ _=>nat_lit 3) (nat_lit 4) (nat_lit 5) (nat_lit 6) (nat_lit 7) (λ_=>nat_lit 8) (λ_=>nat_lit 9) (λ_=>nat_lit 10) (λ_=>nat_lit 11) (nat_lit 12) (nat_lit 13) (nat_lit 14) (λ_=>nat_lit 15) (λ_=>nat_lit 16) (λ_=>nat_lit 17) (nat_lit 18)
inductive N where
 | op (o:Op)
 | eO (c:S) (takes gives:J T) (inner:J N) (two:aS) (other:J N)
structure Fr where
 vals:J T
 dead:aS
noncomputable def aw (f:Fr):aI (T×Fr):=match f.vals with
 | v::r=>O (v,{f with vals:=r})
 | []=>if f.dead then O (0,f) else Q
noncomputable def pop (k:T)(f:Fr):aI (T×Fr):=match aw f with
 | some (v,g)=>if v≠k/\v≠0/\k≠0 then Q else O (v,g)
 | none=>Q
noncomputable def av:J T->Fr->aI (J T×Fr)
 | [],f=>O ([],f)
 | k::e,f=>match pop k f with
  | some (v,g)=>(match av e g with
   | some (l,g)=>O (v::l,g)
   | none=>Q)
  | none=>Q
theorem fy(x:Fr):av [] x=O ([],x):=rfl
theorem fA(x:Fr)(k:T)(e:J T):av (k::e) x =
  match pop k x with
  | some (v,g)=>
   match av e g with
   | some (l,g)=>O (v::l,g)
   | none=>Q
  | none=>Q:=rfl
noncomputable def push (e:J T)(f:Fr):Fr:={f with vals:=e++f.vals}
noncomputable def kill (_:Fr):Fr:=⟨[],X⟩
noncomputable def fixed (aa:J T):Op->aI (J T×J T)
 | .mZ k=>O ([-1,k,k],[k])
 | .xx _=>O ([],[-1])
 | .xA _=>O ([],[-2])
 | .j7 k=>O ([],[k])
 | .mI=>O ([-1,-1],[-1])
 | .mJ=>O ([-2],[-1])
 | .mK=>O ([-2,-2],[-2])
 | .lX i=>O ([],[aa.getD i 0])
 | .lY i=>O ([aa.getD i 0],[])
 | .lZ i=>O ([aa.getD i 0],[aa.getD i 0])
 | .sQ=>O ([],[])
 | _=>Q
noncomputable def isNum (k:T):aS:=k==-1||k==-2
noncomputable def isRef (k:T):aS:=k==-16||k==-17
noncomputable abbrev Ls:=J (J T)
def ek (aa:J T)(L:Ls)(o:Op)(f:Fr):aI Fr:=match o with
 | .cP=>O (kill f)
 | .br l=>(av (L.getD l []) f).map λp=>kill p.2
 | .gr l=>(pop (-1) f).bind λp=>(av (L.getD l []) p.2).map λq=>push (L.getD l []) q.2
 | .f9 a b c=>(pop (-1) f).bind λp=>
   if(L.getD a []).length≠(L.getD c []).length then Q else
   (av (L.getD a []) p.2).bind λq=>
   if(L.getD b []).length≠(L.getD c []).length then Q else
   (av (L.getD b []) (push q.1 q.2)).bind λr=>
   (av (L.getD c []) (push r.1 r.2)).map λs=>kill s.2
 | .ret=>(av (L.getLastD []) f).map λp=>kill p.2
 | .drop=>(aw f).map λp=>p.2
 | .sel=>(pop (-1) f).bind λp=>(aw p.2).bind λq=>(aw q.2).bind λr=>
   if !(isNum q.1||q.1==0)||!(isNum r.1||r.1==0) then Q
   else if q.1≠r.1/\q.1≠0/\r.1≠0 then Q
   else O (push [if q.1=0 then r.1 else q.1] r.2)
 | .dK=>(aw f).bind λp=>if isRef p.1||p.1==0 then O (push [-1] p.2) else Q
 | o=>match fixed aa o with
  | some (t,g)=>(av t f).map λp=>push g p.2
  | none=>Q
noncomputable def close (ends:J T)(f:Fr):aS:=match av ends f with
 | some (_,g)=>g.vals.isEmpty
 | none=>aN
noncomputable def closes (ends:J T):aI Fr->aS
 | none=>aN
 | some f=>close ends f
mutual
def fN (aa:J T)(L:Ls):N->Fr->aI Fr
 | .op o,f=>ek aa L o f
 | .eO c t g e two h,f=>
   if(closes g (gx aa ((if c=3 then t else g)::L) e ⟨t,aN⟩)&&(if two=X then closes g (gx aa ((if c=3 then t else g)::L) h ⟨t,aN⟩)
    else !(eo (c=4/\t≠g))))=X then
    (av (if c=4 then -1::t else t) f).map λp=>push g p.2
   else Q
def gx (aa:J T)(L:Ls):J N->Fr->aI Fr
 | [],f=>O f
 | n::e,f=>(fN aa L n f).bind λg=>gx aa L e g
end
theorem abt(e:J T)(L:Ls)(x:Fr)(o:Op):fN e L (N.op o) x=ek e L o x:=rfl
theorem abu(e:J T)(L:Ls)(x:Fr)(c:S)(t g:J T)(h:J N)(two:aS)(i:J N):fN e L (N.eO c t g h two i) x =
  if
    (closes g (gx e ((if c=3 then t else g)::L) h {vals:=t,dead:=aN}) &&
      if two=X then closes g (gx e ((if c=3 then t else g)::L) i {vals:=t,dead:=aN})
      else !decide (c=4/\t≠g)) =
     X then
   uZ (λp=>push g p.snd) (av (if c=4 then -1::t else t) x)
  else Q:=rfl
theorem uU(e:J T)(L:Ls)(x:Fr):gx e L [] x=O x:=rfl
theorem uV(e:J T)(L:Ls)(x:Fr)(n:N)(h:J N):gx e L (n::h) x=(fN e L n x).bind λg=>gx e L h g:=rfl
noncomputable abbrev aG:=J (J T)
structure bb where
 ps:J S
 any:aS
noncomputable def given:J T->bb->aG->aS×bb×aG
 | [],n,b=>(X,n,b)
 | k::g,n,b=>match n.ps with
  | []=>(n.any,n,b)
  | p::e=>if k∈b.getD p [] then given g ⟨e,n.any⟩ (b.set p [k]) else(aN,⟨e,n.any⟩,b)
theorem BG(x:bb)(a:aG):given [] x a=(X,x,a):=rfl
theorem nQ(x:bb)(a:aG)(k:T)(e:J T):given (k::e) x a =
  match x.ps with
  | []=>(x.any,x,a)
  | p::ps=>if k∈J.getD a p [] then given e {ps:=ps,any:=x.any} (J.set a p [k]) else(aN,{ps:=ps,any:=x.any},a):=rfl
noncomputable def fresh (b:aG)(e:J (J T)):J S×aG:=((pd e.length).map (b.length+·),b++e)
noncomputable def asks (e:J T)(n:bb)(b:aG):bb×aG:=
 let q:=fresh b (e.map λk=>[k])
 (⟨q.1.reverse++n.ps,n.any⟩,q.2)
noncomputable def b9 (g:J (J T))(m:S):J (J T):=
 (pd m).map λk=>let e:=g.map λs=>s.getD k 0
  if e=g5 e.length (e.headD 0) then[e.headD 0] else[]
def wq (L:Ls)(o:Op)(b:aG):aI (bb×aG):=match o with
 | .cP=>O (⟨[],X⟩,b)
 | .ret=>let q:=fresh b ((L.getLastD []).reverse.map λk=>[k]);O (⟨q.1.reverse,X⟩,q.2)
 | .br l=>let s:=(L.getD l []).reverse
   let q:=fresh b (b9 [s] s.length);O (⟨q.1.reverse,X⟩,q.2)
 | .f9 x y z=>let s:=[(L.getD x []).reverse,(L.getD y []).reverse,(L.getD z []).reverse]
   if s.any (λt=>t.length != (L.getD x []).length) then Q else
   let q:=fresh b (b9 s (L.getD x []).length++[[-1]]);O (⟨q.1.reverse,X⟩,q.2)
 | _=>Q
noncomputable def gI (aa:J T)(L:Ls)(o:Op)(n:bb)(b:aG):aI (bb×aG):=match o with
 | .cP | .br _ | .f9 _ _ _ | .ret=>wq L o b
 | .drop=>O (⟨b.length::n.ps,n.any⟩,b++[[-1,-2,-16,-17]])
 | .sel=>match n.ps with
  | []=>if n.any then O (⟨[b.length+1,b.length,b.length],n.any⟩,(b++[[-1,-2]])++[[-1]]) else Q
  | p::e=>O (⟨b.length::p::p::e,n.any⟩,(b.set p ((b.getD p []).filter isNum))++[[-1]])
 | .dK=>match given [-1] n b with
  | (aN,_)=>Q
  | (X,n,b)=>O (⟨b.length::n.ps,n.any⟩,b++[[-16,-17]])
 | .gr l=>match given (L.getD l []) n b with
  | (aN,_)=>Q
  | (X,n,b)=>O (asks ((L.getD l []).reverse++[-1]) n b)
 | o=>match fixed aa o with
  | some (t,g)=>(match given g n b with
   | (aN,_)=>Q
   | (X,n,b)=>O (asks t.reverse n b))
  | none=>Q
noncomputable def bE (ends:J T)(b:aG):bb×aG:=asks ends.reverse ⟨[],aN⟩ b
noncomputable def ended (starts:J T)(r:aI (bb×aG))(b:aG):aS×aG:=match r with
 | none=>(aN,b)
 | some (n,b)=>match given starts n b with
  | (r,n,b)=>(r&&n.ps.isEmpty,b)
noncomputable def tJ (c:S)(t g:J T)(n:bb)(r:aS×aG)(more:aG->aS×aG):aI (bb×aG):=
 if(r.1&&(more r.2).1)=X then(match given g n (more r.2).2 with
  | (aN,_)=>Q
  | (X,n,b)=>O (asks (t.reverse++(if c=4 then[-1] else[])) n b))
 else Q
mutual
def bN (aa:J T)(L:Ls):N->bb->aG->aI (bb×aG)
 | .op o,n,b=>gI aa L o n b
 | .eO c t g e two h,n,b=>
  tJ c t g n (ended t (gJ aa ((if c=3 then t else g)::L) e (bE g b).1 (bE g b).2) b) (λb=>
   if two=X then ended t (gJ aa ((if c=3 then t else g)::L) h (bE g b).1 (bE g b).2) b else(!(eo (c=4/\t≠g)),b))
def gJ (aa:J T)(L:Ls):J N->bb->aG->aI (bb×aG)
 | [],n,b=>O (n,b)
 | m::e,n,b=>(gJ aa L e n b).bind λr=>bN aa L m r.1 r.2
end
theorem JB(e:J T)(L:Ls)(x:bb)(a:aG):gJ e L [] x a=O (x,a):=rfl
theorem JC(e:J T)(L:Ls)(x:bb)(a:aG)(m:N)(g:J N):gJ e L (m::g) x a=(gJ e L g x a).bind λr=>bN e L m r.fst r.snd:=rfl
theorem EU{e:J T}{L:Ls}{c:S}{t g:J T}{h i:J N}{two:aS}{n:bb}{b:aG}:bN e L (.eO c t g h two i) n b=tJ c t g n (ended t (gJ e ((if c=3 then t else g)::L) h (bE g b).1 (bE g b).2) b) (λb=>
 if two=X then ended t (gJ e ((if c=3 then t else g)::L) i (bE g b).1 (bE g b).2) b else(!(eo (c=4/\t≠g)),b)):=rfl
def holds (aa:J T)(L:Ls)(starts ends:J T)(e:J N)(b:aG):aS×aG:=
 ended starts (gJ aa L e (bE ends b).1 (bE ends b).2) b
end Internal.P
end
noncomputable section
namespace Internal.P
noncomputable def Kind (k:T):Prop:=k=-1\/k=-2\/k=-16\/k=-17
theorem Kind.ne(h:Kind k):k≠0:=by delta Kind at h;exact ZG h
def g8 (l:J T):Prop:=∀v∈l,v=0\/Kind v
def Al (g:S->T)(b:aG):J T->aS->J S->aS->Prop
 | [],_,[],_=>w1
 | [],dead,_::_,_=>dead=X
 | _::_,_,[],e=>e=X
 | v::vs,dead,p::h,e=>(v=0\/(v=g p/\v∈b.getD p []))/\Al g b vs dead h e
theorem abv(c:S->T)(b:aG)(x a:aS):Al c b [] x [] a=w1:=rfl
theorem abw(c:S->T)(b:aG)(x a:aS)(e:S)(tail:J S):Al c b [] x (e::tail) a=(x=X):=rfl
theorem abx(c:S->T)(b:aG)(x a:aS)(e:T)(tail:J T):Al c b (e::tail) x [] a=(a=X):=rfl
theorem aby(a:S->T)(b:aG)(x c:aS)(v:T)(vs:J T)(p:S)(e:J S):Al a b (v::vs) x (p::e) c=((v=0\/v=a p/\v∈J.getD b p [])/\Al a b vs x e c):=rfl
def Sat (f:Fr)(n:bb)(b:aG):Prop:=∃e,Al e b f.vals f.dead n.ps n.any
theorem Al.congr{j:aG}:∀{vs:J T}{dead:aS}{g:J S}{e:aS},(∀p∈g,∀v,v≠0->v=k p->v∈b.getD p []->v=i p/\v∈j.getD p [])->Al k b vs dead g e->Al i j vs dead g e
 | [],_,[],_,_,h=>h
 | [],_,_::_,_,_,h=>h
 | _::_,_,[],_,_,h=>h
 | v::vs,dead,p::g,e,q,h=>by
  refine au ?_ (Al.congr (λp hp=>q p (.tail _ hp)) h.2);by_cases z:v=0
  ·exact .inl z
  ·rcases h.1 with U | ⟨U,V⟩
   ·exact hQ U z
   ·exact .inr (q p (.head _) v z U V)
def Sat.book(q:∀p∈n.ps,b.getD p []=e.getD p [])(h:Sat f n b):Sat f n e:=by
 refine aH h ?_;intro a h;exact bq a (h.congr λp hp v c U V=>⟨U,q p hp▸V⟩)
def GW(q:∀p∈n.ps,b.getD p []=e.getD p []):Sat f n b↔Sat f n e:=
 ⟨λh=>h.book q,λh=>h.book λp hp=>(q p hp).symm⟩
def gK(n:bb)(b:aG):Sat ⟨[],X⟩ n b:=by
 refine bq (λa=>0) ?_;cases n.ps<;>first | exact fo | exact Z
def lA(f:Fr)(b:aG):Sat f ⟨[],X⟩ b:=by
 refine bq (λa=>0) ?_;cases f.vals<;>first | exact fo | exact Z
def eX(b:aG)(p q:S)(x:J T)(h:p<b.length):(b.set p x).getD q []=if q=p then x else b.getD q []:=by
 by_cases e:p=q
 ·subst e;simp[h]
 ·simp[e,j1 e]
def cV(b c:aG)(p:S)(h:p<b.length):(b++c).getD p []=b.getD p []:=by
 simp only[eI,hH h]
def m9(b c:aG)(i:S):(b++c).getD (b.length+i) []=c.getD i []:=by
 rw[eI,q0 (sX ..)];simp
structure Inv (n:bb)(b:aG):Prop where
 lt:∀p∈n.ps,p<b.length
 num:∀(l r:J S) (p:S),n.ps=l++p::r->p∈r->∀k∈b.getD p [],isNum k=X
set_option tactic.hygienic true in
def xB(i:k≠0)(hp:p<b.length)(c:k∈b.getD p []):Sat ⟨k::vs,dead⟩ ⟨p::j,g⟩ b↔Sat ⟨vs,dead⟩ ⟨j,g⟩ (b.set p [k]):=by
 constructor
 ·rintro⟨a,h⟩;haveI m:k=a p:=(h.1.resolve_left i).1;refine bq a (h.2.congr λq _ v _ U V=>⟨U,?_⟩);rw[eX _ _ _ _ hp]
  split
  ·rename_i e;clear hp c h;subst e;simp[U,m]
  ·exact V
 ·rintro⟨a,h⟩;refine ay (λq=>if q=p then k else a q) ?_ ?_
  ·exact .inr ⟨by simp,c⟩
  ·refine Al.congr (λq _ v _ U V=>?_) h;rw[eX _ _ _ _ hp] at V;clear h hp
   split at V
   ·rename_i e;subst e;have:v=k:=by simpa using V
    subst this;exact au (by simp) c
   ·rename_i e;exact au (by simp[e,U]) V
set_option tactic.hygienic true in
theorem lh:∀{ks:J T}{n:bb}{b:aG},(∀k∈ks,k≠0)->Inv n b->∀{r z L},given ks n b=(r,z,L)->
  (r=X->∀vs dead,Sat ⟨ks++vs,dead⟩ n b↔Sat ⟨vs,dead⟩ z L)/\(r=aN->∀vs dead,¬Sat ⟨ks++vs,dead⟩ n b)/\Inv z L/\L.length=b.length/\z.any=n.any/\(∀p∈z.ps,p∈n.ps)/\(∀p,p∉n.ps->L.getD p []=b.getD p [])
 | [],n,b,_,hi,r,z,L,e=>by
  delta given at e;cases e;exact Cu (λ_ _ _=>Vz) (λh=>(by injection h)) hi Z Z (λ_ h=>h) (λ_ _=>Z)
 | k::ks,⟨y,é⟩,b,W,hi,r,z,L,e=>by
  cases y with
  | nil=>
   dsimp only[BG,nQ] at e;cases e;refine Cu (λh vs dead=>?_) (λh vs dead=>?_) hi Z Z (λ_ h=>h) (λ_ _=>Z)
   ·clear hi;subst h;exact⟨λ_=>lA _ _,λ_=>lA _ _⟩
   ·clear hi;subst h;rintro⟨m,h⟩;exact hQ (show aN=X from h) (by decide)
  | cons p y=>
   have hp:=hi.lt p (.head _)
   revert e;refine aJ ?_ ?_<;>intro _ e
   ·rename_i a;haveI kr:Inv ⟨y,é⟩ (b.set p [k]):=by
     refine⟨λq hq=>by rw[kb];exact hi.lt q (.tail _ hq),λl r q d hq x c=>?_⟩;rw[eX _ _ _ _ hp] at c;have f:y=l++q::r:=d
     split at c
     ·rename_i s;subst s;have:x=k:=by simpa using c
      clear e;subst this;exact hi.num [] y q Z (by rw[f];simp) x a
     ·exact hi.num (p::l) r q (by show p::y=p::l++q::r;rw[f];rfl) hq x c
    refine Ct (lh (λj h'=>W j (.tail _ h')) kr e) λu g v t a5 i o=>?_;refine Cu (λh vs dead=>?_) (λh vs dead q=>?_) v (t.trans ((kb))) a5 (λq hq=>.tail _ (i q hq)) (λq hq=>?_)
    ·simp only[<-u h vs dead];exact xB (W k (.head _)) hp a
    ·exact g h vs dead ((xB (W k (.head _)) hp a).mp q)
    ·rw[a8,A0] at hq;exact(o q hq.2).trans ((eX _ _ _ _ hp).trans ((dm hq.1)))
   ·rename_i a;cases e;refine Cu (λh=>(by injection h)) (λ_ vs dead=>?_) ⟨λq hq=>hi.lt q (.tail _ hq),λl r q d hq=>hi.num (p::l) r q (by show p::y=p::l++q::r;rw[show y=l++q::r from d];rfl) hq⟩ Z Z (λq hq=>.tail _ hq) (λ_ _=>Z);rintro⟨m,h⟩;exact a (h.1.resolve_left (W k (.head _))).2
def wt(d:p∉s):Sat f ⟨p::s,m⟩ b↔∃v g,aw f=O (v,g)/\(v=0\/v∈b.getD p [])/\Sat g ⟨s,m⟩ b:=by
 obtain⟨vs,dead⟩:=f;cases vs with
 | nil=>
  cases dead with
  | false=>
   constructor
   ·rintro⟨a,h⟩;exact hQ (show aN=X from h) (by decide)
   ·rintro⟨v,g,h,_⟩;simp[aw] at h
  | true=>
   refine⟨λc=>⟨0,⟨[],X⟩,Z,.inl Z,gK _ _⟩,λc=>gK _ _⟩
 | cons v vs=>
  constructor
  ·rintro⟨a,h⟩;exact⟨v,⟨vs,dead⟩,Z,h.1.imp id (·.2),a,h.2⟩
  ·rintro⟨k,g,h,hv,a,y⟩;simp only[aw,fx,i3] at h;refine aq h λj=>?_;clear h;subst j;intro i;subst i;refine ay (λq=>if q=p then v else a q) (hv.imp id λh=>⟨by simp,h⟩) (y.congr λq hq x c U V=>⟨?_,V⟩);have:q≠p:=λe=>d (e▸hq);simp[this,U]
set_option tactic.hygienic true in
def gc{k:T}(e:k≠0)(f:Fr)(v:T)(g:Fr):pop k f=O (v,g)↔aw f=O (v,g)/\(v=0\/v∈[k]):=by
 delta pop;refine az (aw f) ?_ ?_
 ·intro h;simp
 ·intro p h;clear h;obtain⟨x,y⟩:=p;simp only[fx,i3,gg]
  split
  ·rename_i q;constructor
   ·intro z;injection z
   ·rintro⟨⟨rfl,rfl⟩,z⟩;exact(ZI q z).elim
  ·rename_i q;constructor
   ·intro z;injection z with z;injection z with z i;subst z i;exact au ⟨Z,Z⟩ (ZL e q)
   ·rintro⟨⟨rfl,rfl⟩,_⟩;rfl
theorem xC{z:aS}:∀{q:J S}{ks:J T}{L:J S}{f:Fr},q.length=ks.length->(∀i,i<ks.length->b.getD (q.getD i 0) []=[ks.getD i 0])->(∀k∈ks,k≠0)->(q++L).Pairwise (λx y=>x∈q->x≠y)->
  (Sat f ⟨q++L,z⟩ b↔∃l g,av ks f=O (l,g)/\Sat g ⟨L,z⟩ b)
 | [],[],L,f,_,_,_,_=>⟨λh=>⟨[],f,Z,h⟩,λ⟨l,g,e,h⟩=>by simp only[fy,fx,i3] at e;refine aq e λw s=>?_;clear e;subst s;exact h⟩
 | p::q,k::ks,L,f,W,hb,hk,hd=>by
  haveI t:p∉q++L:=λh=>(RR.mp hd).1 p h (.head _) Z;have m:∀g,(Sat g ⟨q++L,z⟩ b↔∃l c,av ks g=O (l,c)/\Sat c ⟨L,z⟩ b):=λg=>xC (by simpa using W) (λi hi=>by have:=hb (i+1) (by simpa using hi);simpa using this) (λu h'=>hk u (.tail _ h'))
   ((RR.mp hd).2.imp λh r=>h (.tail _ r))
  have j:b.getD p []=[k]:=by have:=hb 0 (by simp);simpa using this
  show Sat f ⟨p::(q++L),z⟩ b↔_;rw[wt t];constructor
  ·rintro⟨v,g,U,V,h3⟩;rw[j] at V;haveI h4:=(gc (hk k (.head _)) f v g).mpr ⟨U,V⟩;exact bG ((m g).mp h3) λl c h5 d=>ew (v::l) c (by simp[fy,fA,h4,h5]) d
  ·rintro⟨l,c,U,V⟩;dsimp only[fy,fA] at U;refine az (pop k f) ?_ ?_
   ·intro h3;rw[h3] at U;injection U
   ·intro a h3;rw[h3] at U;dsimp only at U;refine az (av ks a.2) ?_ ?_
    ·intro h4;rw[h4] at U;injection U
    ·intro n h4;rw[h4] at U;simp only[fx,i3] at U;refine jG l U λo=>?_;clear U;subst o;refine aq ((gc (hk k (.head _)) f a.1 a.2).mp h3) λh5 d=>?_;exact bx a.1 a.2 h5 (by refine ah j ?_;exact d) ((m a.2).mpr ⟨n.1,n.2,h4,V⟩)
 | [],_::_,_,_,W,_,_,_=>by injection W
 | _::_,[],_,_,W,_,_,_=>by injection W
end Internal.P
end
noncomputable section
namespace Internal.P
def fK:J (J T)->J T->aS->Prop
 | [],_,_=>w1
 | _::_,[],dead=>dead=X
 | a::e,v::vs,dead=>(v=0\/v∈a)/\fK e vs dead
theorem Dj(x:J T)(a:aS):fK [] x a=w1:=rfl
theorem Dk(x:aS)(e:J T)(tail:J (J T)):fK (e::tail) [] x=(x=X):=rfl
theorem yp(x:aS)(a:J T)(e:J (J T))(v:T)(vs:J T):fK (a::e) (v::vs) x=((v=0\/v∈a)/\fK e vs x):=rfl
noncomputable def pad (m:S)(vs:J T):J T:=vs.take m++g5 (m - vs.length) 0
theorem iR:∀{ks:J T}{f:Fr},(∀k∈ks,k≠0)->fK (ks.map λk=>[k]) f.vals f.dead->av ks f=O (pad ks.length f.vals,⟨f.vals.drop ks.length,f.dead⟩)
 | [],⟨vs,dead⟩,_,_=>by simp[fy,fA,pad]
 | k::ks,⟨[],dead⟩,e,h=>by
  subst h;haveI U:pop k ⟨[],X⟩=O (0,⟨[],X⟩):=by simp[pop,aw]
  have V:=iR (ks:=ks) (f:=⟨[],X⟩) (λx a=>e x (.tail _ a)) (by cases ks<;>simp[Dj,Dk,yp]);simp only[fA,U,V];simp[pad,yR]
 | k::ks,⟨v::vs,dead⟩,e,h=>by
  change (v=0\/v∈[k])/\fK (ks.map λk=>[k]) vs dead at h;have U:pop k ⟨v::vs,dead⟩=O (v,⟨vs,dead⟩):=(gc (e k (.head _)) _ _ _).mpr ⟨Z,h.1⟩;simp only[fA,U,(iR (ks:=ks) (f:=⟨vs,dead⟩) (λx a=>e x (.tail _ a)) h.2)];simp[pad]
theorem qT:∀{m:J T}{f:Fr} {l g},(∀k∈m,k≠0)->av m f=O (l,g)->fK (m.map λk=>[k]) f.vals f.dead
 | [],_,_,_,_,_=>by simp[Dj,Dk,yp]
 | k::m,⟨vs,dead⟩,l,g,p,h=>by
  dsimp only[fy,fA] at h;refine az (pop k ⟨vs,dead⟩) ?_ ?_
  ·intro h3;rw[h3] at h;injection h
  ·intro b h3;obtain⟨v,e⟩:=b;rw[h3] at h;dsimp only at h;refine az (av m e) ?_ ?_
   ·intro h4;rw[h4] at h;injection h
   ·intro j h4;refine aq ((gc (p k (.head _)) _ _ _).mp h3) λh5 d=>?_;cases vs with
    | nil=>
     clear h3;cases dead with| true=>rfl| false=>simp[aw] at h5
    | cons x q=>
     simp only[aw,fx,i3] at h5;refine aq h5 λi=>?_;clear h5;clear h h3;subst i;intro a;subst a;exact au d (qT (λx c=>p x (.tail _ c)) h4)
def VF{f:Fr}(e:∀k∈i,k≠0):(∃l g,av i f=O (l,g))↔fK (i.map λk=>[k]) f.vals f.dead:=
 ⟨λ⟨_,_,h⟩=>qT e h,λh=>⟨_,_,iR e h⟩⟩
def qU(g:∀k∈e,k≠0)(h:¬fK (e.map λk=>[k]) f.vals f.dead):av e f=Q:=by
 refine az (av e f) ?_ ?_
 ·intro q;rfl
 ·intro p q;exact hQ (qT g q) h
theorem xD{b:aG}:∀{q:J S}{al:J (J T)}{f:Fr},q.length=al.length->(∀i,i<al.length->b.getD (q.getD i 0) []=al.getD i [])->q.Nodup->(Sat f ⟨q,X⟩ b↔fK al f.vals f.dead)
 | [],[],f,_,_,_=>⟨λc=>fo,λc=>lA _ _⟩
 | p::q,a::al,f,m,hb,hd=>by
  rw[k9] at hd;have d:∀g,(Sat g ⟨q,X⟩ b↔fK al g.vals g.dead):=λg=>xD (by simpa using m) (λi hi=>by have:=hb (i+1) (by simpa using hi);simpa using this) hd.2;haveI e:b.getD p []=a:=by have:=hb 0 (by simp);simpa using this
  rw[wt hd.1,e];obtain⟨vs,dead⟩:=f;cases vs with
  | nil=>
   cases dead with
   | false=>simp[aw,Dj,Dk,yp]
   | true=>
    refine⟨λc=>Z,λc=>⟨0,⟨[],X⟩,Z,.inl Z,gK _ _⟩⟩
  | cons v vs=>
   constructor
   ·rintro⟨k,g,U,V,h3⟩;simp only[aw,fx,i3] at U;refine aq U λh=>?_;clear U;subst h;intro j;subst j;exact au V ((d _).mp h3)
   ·rintro⟨U,V⟩;exact bx v ⟨vs,dead⟩ Z U ((d ⟨vs,dead⟩).mpr V)
 | [],_::_,_,m,_,_=>by injection m
 | _::_,[],_,m,_,_=>by injection m
theorem mL(b:aG)(e:J (J T)):(fresh b e).1.length=e.length:=by simp[fresh]
def j8(b:aG)(e:J (J T)):(fresh b e).1.Nodup:=by
 delta fresh J.Nodup;rw[J.pairwise_map];exact(J.nodup_range).imp λh q=>h (by exact ZH q)
def l5(b:aG)(e:J (J T)):∀p∈(fresh b e).1,b.length<=p/\p<(fresh b e).2.length:=by
 intro p hp;refine dP p (hN.mp hp) λi hi=>?_;rw[QG] at hi;simp only[fresh,a9];exact ZJ hi
def mM{l:J g}(h:l.Nodup):l.reverse.Nodup:=by
 delta J.Nodup at *;rw[QP];exact h.imp λq e=>q e.symm
def xE(b:aG)(e:J (J T)):∀i,i<e.reverse.length->(fresh b e).2.getD ((fresh b e).1.reverse.getD i 0) []=e.reverse.getD i []:=by
 intro i hi;rw[eb] at hi;haveI U:(fresh b e).1.reverse.getD i 0=b.length+(e.length - 1 - i):=by
  rw[eI,nL (by rw[mL];exact hi),mL];delta fresh;rw[gX,uy (Bh hi)];rfl
 rw[U];show(b++e).getD _ []=_;rw[m9,eI,eI,nL hi]
def qV(z:∀k∈ks,k≠0)(hi:Inv n b)(f:Fr):Sat f (asks ks n b).1 (asks ks n b).2↔∃l g,av ks.reverse f=O (l,g)/\Sat g n b:=by
 haveI m:=l5 b (ks.map λk=>[k]);haveI j:(asks ks n b).2=b++ks.map λk=>[k]:=Z;haveI s:(asks ks n b).1=⟨(fresh b (ks.map λk=>[k])).1.reverse++n.ps,n.any⟩:=Z;simp only[s,j];haveI A:∀i,i<ks.reverse.length->(b++ks.map λk=>[k]).getD ((fresh b (ks.map λk=>[k])).1.reverse.getD i 0) []=[ks.reverse.getD i 0]:=λi hi=>by
  have:=(xE b (ks.map λk=>[k])) i (by simpa using hi);haveI e:(ks.map λk=>[k]).reverse.getD i []=[ks.reverse.getD i 0]:=by
   rw[<-s7,eI,gX,eI,ee (by simpa using hi)];rfl
  simp only[<-e];exact this
 haveI L:((fresh b (ks.map λk=>[k])).1.reverse++n.ps).Pairwise (λx y=>x∈(fresh b (ks.map λk=>[k])).1.reverse->x≠y):=by
  rw[J.pairwise_append];refine cG (VG (S:=λx y=>x∈(fresh b (ks.map λk=>[k])).1.reverse->x≠y) (λh q=>h) (mM (j8 b (ks.map λk=>[k])))) ?_ (λx a y o q e=>?_)
  ·rw[J.pairwise_iff_forall_sublist];intro x y d a;have c:=(m x (hO.mp a)).1;haveI r:=hi.lt x (d.subset (.head _));exact ZM c r
  ·haveI c:=(m x (hO.mp a)).1;exact ZN e c (hi.lt y o)
 rw[xC (ks:=ks.reverse) (by simp[(mL b (ks.map λk=>[k]))]) A (λk h=>z k (hO.mp h)) L];constructor
 ·rintro⟨l,g,U,V⟩;exact ew l g U (V.book λp hp=>cV _ _ _ (hi.lt p hp))
 ·rintro⟨l,g,U,V⟩;exact ew l g U (V.book λp hp=>(cV _ _ _ (hi.lt p hp)).symm)
def oY(hi:Inv n b):Inv (asks ks n b).1 (asks ks n b).2:=by
 haveI g:=l5 b (ks.map λk=>[k]);refine⟨λp hp=>?_,λl r p e hp k m=>?_⟩
 ·refine eE (ka.mp hp) (λh=>?_) λh=>?_
  ·exact(g p (hO.mp h)).2
  ·have:=hi.lt p h;show p<(b++_).length;simp only[a9];exact ZK this
 ·haveI f:(fresh b (ks.map λk=>[k])).1.reverse++n.ps=l++p::r:=e;by_cases h:p∈n.ps
  ·
   haveI d:=λq=>by have:=(g p (hO.mp q)).1;exact FX (hi.lt p h) this
   clear e;rcases J.append_eq_append_iff.mp f with⟨a,rfl,V⟩ | ⟨c,U,V⟩
   ·change n.ps=a++p::r at V;haveI m:k∈(b++ks.map λk=>[k]).getD p []:=m;rw[cV _ _ _ (hi.lt p h)] at m;exact hi.num a r p V hp k m
   ·cases c with
    | nil=>
     exact hi.num [] r p V.symm hp k ((cV _ _ _ (hi.lt p h))▸m)
    | cons x c=>
     simp only[lg,u0] at V;refine aq V ?_;clear V;intro i;subst i;exact hQ (by rw[U];simp) d
  ·
   exfalso
   haveI j:p∈(fresh b (ks.map λk=>[k])).1.reverse++n.ps:=by rw[f];simp
   haveI s:((fresh b (ks.map λk=>[k])).1.reverse++n.ps).count p<=1:=by
    rw[N4,J.count_eq_zero_of_not_mem h];exact Q8.mp (mM (j8 b (ks.map λk=>[k]))) p
   rw[f,N4,Q9] at s;have:=RT.mpr hp;exact MU s this
end Internal.P
end
noncomputable section
namespace Internal.P
def KL (l:J T):Prop:=∀k∈l,Kind k
theorem KL.ne(h:KL l):∀k∈l,k≠0:=λk e=>(h k e).ne
structure Bd (n:bb)(b:aG)(n':bb)(b':aG):Prop where
 ps:∀p∈n'.ps,p∈n.ps\/b.length<=p
 old:∀p,p<b.length->p∉n.ps->b'.getD p []=b.getD p []
 len:b.length<=b'.length
theorem Bd.trans{n c a:bb}{b d b2:aG}(x:Bd n b c d)(y:Bd c d a b2):Bd n b a b2:=by
 refine⟨λp hp=>?_,λp hp e=>?_,hD x.len y.len⟩
 ·refine eE (y.ps p hp) (λh=>?_) λh=>?_
  ·exact x.ps p h
  ·exact .inr (hD x.len h)
 ·rw[y.old p (k6 hp x.len) λh=>?_,x.old p hp e];refine eE (x.ps p h) (λh=>?_) λh=>?_
  ·exact e h
  ·exact FX hp h
def nR(e:J T)(n:bb)(b:aG):Bd n b (asks e n b).1 (asks e n b).2:=by
 refine⟨λp hp=>?_,λp hp a=>cV _ _ _ hp,?_⟩
 ·refine eE (ka.mp hp) (λh=>?_) λh=>?_
  ·exact .inr (l5 b _ p (hO.mp h)).1
  ·exact .inl h
 ·show b.length<=(b++_).length;exact ah a9 (FY)
def bI (F:Fr->aI Fr)(n:bb)(b:aG)(r:aI (bb×aG)):Prop:=match r with
 | none=>∀f,g8 f.vals->¬∃g,F f=O g/\Sat g n b
 | some (e,h)=>Inv e h/\Bd n b e h/\∀f,g8 f.vals->(Sat f e h↔∃g,F f=O g/\Sat g n b)
def oZ{n:bb}(m:∀k∈t,k≠0)(i:∀k∈g,k≠0)(hi:Inv n b):bI (λf=>(av t f).map λp=>push g p.2) n b (match given g n b with | (aN,_)=>Q | (X,n,b)=>O (asks t.reverse n b)):=by
 cases e:given g n b with
 | mk r x=>
  refine Ct (lh i hi e) λd j h v a5 o u=>?_;haveI s:Bd n b x.1 x.2:=⟨λp hp=>.inl (o p hp),λp c hp=>u p hp,sY v.symm⟩;clear e;cases r with
  | false=>
   intro f c;rintro⟨a,U,V⟩;change (av t f).map (λp=>push g p.2)=O a at U;refine az (av t f) ?_ ?_
   ·intro q;rw[q] at U;injection U
   ·intro p q;rw[q] at U;simp only[gL,fx] at U;subst U;exact j Z _ _ V
  | true=>
   refine cG (oY h) (s.trans (nR _ _ _)) (λf c=>?_);refine(qV (λk y=>m k (hO.mp y)) h f).trans ?_;rw[hC];constructor
   ·rintro⟨l,r,U,V⟩;exact ay (push g r) (by simp[U]) ((d Z _ _).mpr V)
   ·rintro⟨a,U,V⟩;change (av t f).map (λp=>push g p.2)=O a at U;refine az (av t f) ?_ ?_
    ·intro q;rw[q] at U;injection U
    ·intro p q;rw[q] at U;simp only[gL,fx] at U;subst U;exact ew p.1 p.2 Z ((d Z _ _).mp V)
def jQ(g:aS)(b:aG):Inv ⟨[],g⟩ b:=⟨λa h=>(by cases h),λl r p e=>by simp at e⟩
def xF(a:∀k∈K,k≠0):bI (λf=>(av K f).map λp=>kill p.2) n b (O (asks K.reverse ⟨[],X⟩ b)):=by
 refine cG (oY (jQ _ _)) ?_ (λf d=>?_)
 ·have:=nR K.reverse ⟨[],X⟩ b;refine⟨λp hp=>.inr ?_,λp hp d=>this.old p hp (by simp),this.len⟩;refine eE (this.ps p hp) (λh=>?_) λh=>?_
  ·cases h
  ·exact h
 ·refine(qV (λk e=>a k (hO.mp e)) (jQ _ _) f).trans ?_;rw[hC];constructor
  ·rintro⟨l,r,U,V⟩;exact ay (kill r) (by simp[U]) (gK _ _)
  ·rintro⟨c,U,V⟩;refine az (av K f) ?_ ?_;haveI U:(av K f).map (λp=>kill p.2)=O c:=U
   ·intro q;rw[q] at U;injection U
   ·intro p q;exact ew p.1 p.2 Z (lA _ _)
def GX(s:J T):b9 [s] s.length=s.map λk=>[k]:=by
 delta b9;apply Sn;intro i;rw[gX,gX];by_cases h:i<s.length
 ·rw[uy h,ee h];simp[eI,ee h,g5]
 ·rw[jM (by simpa using h),jM (Cy h)];rfl
def EV:(av (k::ks) f).map (·.2)=(pop k f).bind λp=>(av ks p.2).map (·.2):=by
 dsimp only[fy,fA];cases pop k f with
 | none=>rfl
 | some p=>
  dsimp only[dV];cases av ks p.2 with| none=>rfl| some q=>rfl
def bI.congr(h:∀f,F f=G f)(s:bI F n b r):bI G n b r:=by
 have:F=G:=funext h
 rwa [<-this]
def fR(hi:Inv n b)(f:Fr):(Inv ⟨b.length::n.ps,n.any⟩ (b++[al])/\Bd n b ⟨b.length::n.ps,n.any⟩ (b++[al]))/\(Sat f ⟨b.length::n.ps,n.any⟩ (b++[al])↔∃v g,aw f=O (v,g)/\(v=0\/v∈al)/\Sat g n b):=by
 haveI a:b.length∉n.ps:=λh=>l3 _ (hi.lt _ h);haveI e0:(b++[al]).getD b.length []=al:=by have:=m9 b [al] 0;simpa using this
 refine au ⟨⟨λp hp=>?_,λl r p e hp k j=>?_⟩,⟨λp hp=>?_,λp hp i=>cV _ _ _ hp,by simp⟩⟩ ?_
 ·simp only[a9];refine eE (a8.mp hp) (λh=>?_) λh=>?_
  ·exact ZP h
  ·have:=hi.lt p h;exact ZQ this
 ·cases l with
  | nil=>
   simp only[k8,u0] at e;refine aq e ?_;clear e;intro c;clear j;subst c;intro e;exact hQ (by rw[e];exact hp) a
  | cons x l=>
   simp only[lg,u0] at e;refine jG x e ?_;intro e;have d:p∈n.ps:=by rw[e];simp
   exact hi.num l r p e hp k ((cV _ _ _ (hi.lt p d))▸j)
 ·refine eE (a8.mp hp) (λh=>?_) λh=>?_
  ·exact .inr (sY h.symm)
  ·exact .inl h
 ·rw[wt a,e0];constructor
  ·rintro⟨v,g,U,V,h3⟩;exact bx v g U V (h3.book λp hp=>cV _ _ _ (hi.lt p hp))
  ·rintro⟨v,g,U,V,h3⟩;exact bx v g U V (h3.book λp hp=>(cV _ _ _ (hi.lt p hp)).symm)
def iS(h:g8 f.vals)(e:aw f=O (v,g)):(v=0\/Kind v)/\g8 g.vals:=by
 obtain⟨vs,dead⟩:=f;cases vs with
 | nil=>
  revert e;refine aJ ?_ ?_<;>intro c e
  ·injection e with e;injection e with e i;subst e i;exact au (.inl Z) h
  ·injection e
 | cons x j=>
  simp only[aw,fx,i3] at e;refine jG v e λb=>?_;clear e;subst b;exact au (h _ (.head _)) (λy a=>h y (.tail _ a))
def abz(v:T):v∈[(-1:T),-2,-16,-17]↔Kind v:=by simp[Kind]
def BH(a:S->T)(b:aG)(e:J S)(g:aS):Al a b [] X e g:=by
 cases e with| nil=>trivial| cons p e=>rfl
def BJ:Sat f ⟨q::q::W,L⟩ b↔
  ∃a g c e,aw f=O (a,g)/\aw g=O (c,e)/\(a=0\/a∈b.getD q [])/\(c=0\/c∈b.getD q [])/\(a=0\/c=0\/a=c)/\Sat (push [if a=0 then c else a] e) ⟨q::W,L⟩ b:=by
 obtain⟨vs,dead⟩:=f;rcases vs with _ | ⟨a,_ | ⟨c,r⟩⟩
 ·cases dead with
  | false=>
   constructor
   ·rintro⟨d,h⟩;exact hQ (show aN=X from h) (by decide)
   ·rintro⟨a,g,c,e,h,_⟩;simp[aw] at h
  | true=>
   refine⟨λj=>⟨0,⟨[],X⟩,0,⟨[],X⟩,Z,Z,.inl Z,.inl Z,.inl Z,λj=>0,.inl Z,BH _ _ _ _⟩,λj=>gK _ _⟩
 ·cases dead with
  | false=>
   constructor
   ·rintro⟨d,h⟩;exact hQ (show aN=X from h.2) (by decide)
   ·rintro⟨i,g,c,e,h,y,_⟩;simp only[aw,fx,i3] at h;refine jG i h λn=>?_;clear h;subst n;simp[aw] at y
  | true=>
   constructor
   ·rintro⟨d,U,V⟩;refine⟨a,⟨[],X⟩,0,⟨[],X⟩,Z,Z,U.imp id (·.2),.inl Z,.inr (.inl Z),d,?_,?_⟩
    ·show(if a=0 then 0 else a)=0\/_;by_cases z:a=0
     ·simp[z]
     ·exact(dm z)▸.inr (U.resolve_left z)
    ·exact BH _ _ _ _
   ·rintro⟨i,g,c,e,h,y,hv,_,_,d,x⟩;simp only[aw,fx,i3] at h;refine aq h λp=>?_;clear h;clear hv;subst p;intro s;refine ay d ?_ ?_
    ·by_cases z:a=0
     ·exact .inl z
     ·rw[dm z] at x;exact .inr (x.1.resolve_left z)
    ·show X=X;rfl
 ·constructor
  ·rintro⟨d,U,V,h3⟩;refine⟨a,⟨c::r,dead⟩,c,⟨r,dead⟩,Z,Z,U.imp id (·.2),V.imp id (·.2),?_,d,?_,h3⟩
   ·refine eE U (λU=>?_) λU=>?_
    ·exact .inl U
    ·refine eE V (λV=>?_) λV=>?_
     ·exact .inr (.inl V)
     ·exact .inr (.inr (U.1.trans V.1.symm))
   ·show(if a=0 then c else a)=0\/_;by_cases z:a=0
    ·rw[dE z];exact V
    ·rw[dm z];exact U
  ·rintro⟨i,g,t,e,h,y,l,m,hc,d,x⟩;simp only[aw,fx,i3] at h;refine aq h λk=>?_;clear h;clear l;subst k;intro u;subst u;simp only[aw,fx,i3] at y;refine aq y λw=>?_;clear y;clear m;subst w;intro v;subst v;refine dQ d ?_ ?_ x.2
   ·by_cases z:a=0
    ·exact .inl z
    ·rw[dm z] at x;exact .inr (x.1.resolve_left z)
   ·by_cases z:a=0
    ·rw[dE z] at x;exact x.1
    ·rw[dm z] at x;refine eE hc (λh=>?_) λo=>eE o (λh=>?_) λh=>?_
     ·exact hQ h z
     ·exact .inl h
     ·rw[<-h];exact x.1
end Internal.P
end
noncomputable section
namespace Internal.P
def tK (aa:J T):Op->Prop
 | .mZ k=>Kind k
 | .j7 k=>Kind k
 | .lX i | .lY i | .lZ i=>Kind (aa.getD i 0)
 | _=>w1
def mN (L:Ls):Prop:=∀l∈L,KL l
def mN.get(h:mN L)(i:S):KL (L.getD i []):=by
 refine ah (eI) ?_;refine az (L[i]?) ?_ ?_
 ·intro e;intro k g;cases g
 ·intro l e;exact h l (x7 e)
def mN.last(h:mN L):KL (L.getLastD []):=by
 cases L with
 | nil=>intro k g;cases g
 | cons l L=>
  rw[RU];cases L with
  | nil=>exact h l (.head _)
  | cons m L=>exact h _ (by rw[RU,zN];cases e:L.getLast? with| none=>simp| some x=>exact .tail _ (.tail _ (J.mem_of_getLast? e)))
def tL{q:J T×J T}(h:fixed e o=O q):(ek e L o=λf=>(av q.1 f).map λp=>push q.2 p.2)/\gI e L o n b=match given q.2 n b with | (aN,_)=>Q | (X,n,b)=>O (asks q.1.reverse n b):=by
 cases o<;>first | exact gf h▸⟨Z,Z⟩ | exact nomatch (show Q=O q from h)
def dA{e:J T}{L:Ls}{o:Op}{t g:J T}{n:bb}{b:aG}(h:fixed e o=O (t,g))(a:KL t)(c:KL g)(hi:Inv n b):bI (ek e L o) n b (gI e L o n b):=by
 rw[(tL (n:=n) (b:=b) h).1,(tL (L:=L) h).2];exact(oZ (t:=t) (g:=g) (n:=n) (b:=b) a.ne c.ne hi)
def g9(h:Kind k):KL [k]:=λx a=>by rw[gg.mp a];exact h
set_option tactic.hygienic true in
def zm(hi:Inv ⟨p::W,L⟩ b)(f:Fr):(∃d l i k,aw f=O (d,l)/\aw l=O (i,k)/\(d=0\/d∈(b.getD p []).filter isNum)/\(i=0\/i∈(b.getD p []).filter isNum)/\(d=0\/i=0\/d=i)/\
   Sat (push [if d=0 then i else d] k) ⟨p::W,L⟩ (b.set p ((b.getD p []).filter isNum)))↔
  ∃g,((aw f).bind λq=>(aw q.2).bind λr=>if(!(isNum q.1||q.1==0)||!(isNum r.1||r.1==0))=X then Q
   else if q.1≠r.1/\q.1≠0/\r.1≠0 then Q else O (push [if q.1=0 then r.1 else q.1] r.2))=O g/\Sat g ⟨p::W,L⟩ b:=by
 haveI hp:=hi.lt p (.head _);haveI num:∀(j:S->T) (vs:J T) (dead:aS),Al j b vs dead W L↔Al j (b.set p ((b.getD p []).filter isNum)) vs dead W L:=by
  intro j vs dead;constructor
  ·refine Al.congr λq hq v _ U V=>⟨U,?_⟩;rw[eX _ _ _ _ hp]
   split
   ·rename_i e;clear hp;subst e;exact jE.mpr ⟨V,hi.num [] W q Z hq v V⟩
   ·exact V
  ·refine Al.congr λq hq v _ U V=>⟨U,?_⟩;rw[eX _ _ _ _ hp] at V
   split at V
   ·rename_i e;clear hi hp;subst e;exact(jE.mp V).1
   ·exact V
 have self:(b.set p ((b.getD p []).filter isNum)).getD p []=(b.getD p []).filter isNum:=by exact(eX _ _ _ _ hp).trans ((dE Z))
 have é:∀(t:T) (g:Fr),(t=0\/isNum t=X)->(Sat (push [t] g) ⟨p::W,L⟩ (b.set p ((b.getD p []).filter isNum))↔Sat (push [t] g) ⟨p::W,L⟩ b):=by
  intro t g s;constructor
  ·rintro⟨j,U,V⟩;refine ay j (U.imp id λh=>⟨h.1,?_⟩) ((num j _ _).mpr V);rw[self] at h;exact(jE.mp h.2).1
  ·rintro⟨j,U,V⟩;refine ay j ?_ ((num j _ _).mp V);by_cases z:t=0
   ·exact .inl z
   ·have:=U.resolve_left z;refine .inr ⟨this.1,?_⟩;rw[self];exact jE.mpr ⟨this.2,s.resolve_left z⟩
 haveI u:∀v:T,(v=0\/v∈(b.getD p []).filter isNum)->(isNum v||v==0)=X:=by
  rintro v (rfl | h)
  ·simp
  ·rw[(jE.mp h).2];rfl
 constructor
 ·rintro⟨d,l,i,k,e1,m,U,V,hc,hs⟩;refine ay (push [if d=0 then i else d] k) ?_ ?_
  ·rw[e1,dV];dsimp only;rw[m,dV];dsimp only;rw[dm (by rw[u d U,u i V];decide),dm (by rintro⟨a,b,c⟩;refine eE hc (λh=>?_) λw=>eE w (λh=>?_) λh=>?_<;>contradiction)]
  ·refine(é _ _ ?_).mp hs;by_cases z:d=0
   ·rw[dE z];exact V.imp id λh=>(jE.mp h).2
   ·rw[dm z];exact U.imp id λh=>(jE.mp h).2
 ·rintro⟨g,h,hs⟩;refine az (aw f) ?_ ?_
  ·intro e1;rw[e1] at h;injection h
  ·intro x e1;obtain⟨d,l⟩:=x;rw[e1,dV] at h;dsimp only at h;refine az (aw l) ?_ ?_
   ·intro m;rw[m] at h;injection h
   ·intro y m;obtain⟨i,k⟩:=y;rw[m,dV] at h;dsimp only at h
    revert h;refine aJ ?_ ?_<;>intro _ h
    ·injection h
    ·rename_i o
     revert h;refine aJ ?_ ?_<;>intro _ h
     ·injection h
     ·rename_i hc;injection h with h;subst h
      have n:(d=0\/isNum d=X)/\(i=0\/isNum i=X):=by
       simp only[nr,kx,A0,So,p1] at o;exact au o.1.symm o.2.symm
      haveI s:((if d=0 then i else d)=0\/isNum (if d=0 then i else d)=X):=by
       by_cases z:d=0
       ·rw[dE z];exact n.2
       ·rw[dm z];exact n.1
      refine ak hs λj U V=>?_;clear hs;refine Wl d l i k Z m ?_ ?_ (by exact MW hc) ((é _ _ s).mpr ⟨j,U,V⟩)
      ·by_cases z:d=0
       ·exact .inl z
       ·rw[dm z] at U;exact .inr (jE.mpr ⟨(U.resolve_left z).2,n.1.resolve_left z⟩)
      ·by_cases z2:i=0
       ·exact .inl z2
       ·by_cases z:d=0
        ·have U:=(dE z)▸U;exact .inr (jE.mpr ⟨(U.resolve_left z2).2,n.2.resolve_left z2⟩)
        ·rw[dm z] at U;have:d=i:=by exact ZW (by exact MW hc) z2 z
         rw[this] at U;exact .inr (jE.mpr ⟨(U.resolve_left z2).2,n.2.resolve_left z2⟩)
set_option tactic.hygienic true in
def BK(hi:Inv ⟨p::j,i⟩ b):Inv ⟨p::p::j,i⟩ (b.set p ((b.getD p []).filter isNum)):=by
 refine⟨λq hq=>?_,λl r q e hq k g=>?_⟩
 ·rw[kb];refine eE (a8.mp hq) (λh=>?_) λh=>?_
  ·rw[h];exact(hi.lt p (.head _))
  ·exact hi.lt q h
 ·rw[eX _ _ _ _ (hi.lt p (.head _))] at g
  split at g
  ·exact(jE.mp g).2
  ·rename_i ne;cases l with
   | nil=>
    simp only[k8,u0] at e;exact hQ e.1.symm ne
   | cons x l=>
    simp only[lg,u0] at e;exact hi.num l r q e.2 hq k g
set_option tactic.hygienic true in
def GY{b:aG}(hi:Inv n b):bI (ek W L .sel) n b (gI W L .sel n b):=by
 haveI è:∀(p:S) (ps:J S) (é:aS) (b:aG),Inv ⟨p::ps,é⟩ b->Inv ⟨(b.set p ((b.getD p []).filter isNum)).length::p::p::ps,é⟩ ((b.set p ((b.getD p []).filter isNum))++[[-1]])/\
   ∀f,(Sat f ⟨(b.set p ((b.getD p []).filter isNum)).length::p::p::ps,é⟩ ((b.set p ((b.getD p []).filter isNum))++[[-1]])↔∃g,ek W L .sel f=O g/\Sat g ⟨p::ps,é⟩ b):=by
  intro p ps é b hi;haveI hp:=hi.lt p (.head _);haveI self:(b.set p ((b.getD p []).filter isNum)).getD p []=(b.getD p []).filter isNum:=by exact(eX _ _ _ _ hp).trans ((dE Z))
  refine au ((fR (al:=[-1]) (BK hi) ⟨[],X⟩).1.1) (λf=>?_);refine(fR (al:=[-1]) (BK hi) f).2.trans ?_;haveI ex:ek W L .sel f=(pop (-1) f).bind λp=>(aw p.2).bind λq=>(aw q.2).bind λr=>if(!(isNum q.1||q.1==0)||!(isNum r.1||r.1==0))=X then Q
   else if q.1≠r.1/\q.1≠0/\r.1≠0 then Q else O (push [if q.1=0 then r.1 else q.1] r.2):=Z
  rw[ex];constructor
  ·rintro⟨v,g,U,V,h3⟩;haveI h4:=BJ.mp h3;rw[self] at h4;refine ak ((zm hi g).mp h4) λo h5 m=>?_;exact ay o (by rw[(gc (by decide) f v g).mpr ⟨U,V⟩];exact h5) m
  ·rintro⟨o,h5,m⟩;refine az (pop (-1) f) ?_ ?_
   ·intro e;rw[e] at h5;injection h5
   ·intro q e;obtain⟨v,g⟩:=q;rw[e] at h5;refine aq ((gc (by decide) f v g).mp e) λU V=>bx v g U V (BJ.mpr ?_);rw[self];exact(zm hi g).mpr ⟨o,h5,m⟩
 obtain⟨ps,é⟩:=n;cases ps with
 | nil=>
  cases é with
  | false=>
   intro f _;rintro⟨g,U,V⟩;have ex:ek W L .sel f=(pop (-1) f).bind λp=>(aw p.2).bind λq=>(aw q.2).bind λr=>if(!(isNum q.1||q.1==0)||!(isNum r.1||r.1==0))=X then Q
    else if q.1≠r.1/\q.1≠0/\r.1≠0 then Q else O (push [if q.1=0 then r.1 else q.1] r.2):=Z
   rw[ex] at U;have:∃t r,g=push [t] r:=by
    refine az (pop (-1) f) ?_ ?_
    ·intro e;rw[e] at U;injection U
    ·intro q e;rw[e,dV] at U;refine az (aw q.2) ?_ ?_
     ·intro d;rw[d] at U;injection U
     ·intro a d;rw[d,dV] at U;refine az (aw a.2) ?_ ?_
      ·intro c;rw[c] at U;injection U
      ·intro l c;rw[c,dV] at U
       revert U;refine aJ ?_ ?_<;>intro _ U
       ·injection U
       ·revert U;refine aJ ?_ ?_<;>intro _ U
        ·injection U
        ·clear V;injection U with U;subst U;exact yy _ _ Z
   clear U;refine d9 this λt r w=>?_;clear this;subst w;refine aH V λA h=>?_;exact hQ (show aN=X from h) (by decide)
  | true=>
   refine aq (è b.length [] X (b++[[-1,-2]]) ((fR (al:=[-1,-2]) (jQ X b) ⟨[],X⟩).1.1)) λj i=>?_;haveI e0:(b++[[-1,-2]]).getD b.length []=[-1,-2]:=by have:=m9 b [[-1,-2]] 0;exact this
   have e1:(b++[[-1,-2]]).set b.length (((b++[[-1,-2]]).getD b.length []).filter isNum)=b++[[-1,-2]]:=by
    rw[e0];have:([-1,-2]:J T).filter isNum=[-1,-2]:=by decide
    rw[this,QR _ _ (gk _)];simp
   rw[e1] at j i;have y:(b++[[-1,-2]]).length=b.length+1:=by simp
   rw[y] at j i;refine cG j ⟨λp hp=>.inr ?_,λp hp _=>?_,?_⟩ (λf _=>(i f).trans ?_)
   ·simp only[a8,eA,hK] at hp;exact ZS hp
   ·rw[fJ,cV _ _ _ hp]
   ·simp only[a9];exact ZT
   ·constructor
    ·rintro⟨g,U,V⟩;exact ay g U (lA _ _)
    ·rintro⟨g,U,V⟩;refine ay g U ?_;have ex:ek W L .sel f=(pop (-1) f).bind λp=>(aw p.2).bind λq=>(aw q.2).bind λr=>if(!(isNum q.1||q.1==0)||!(isNum r.1||r.1==0))=X then Q
      else if q.1≠r.1/\q.1≠0/\r.1≠0 then Q else O (push [if q.1=0 then r.1 else q.1] r.2):=Z
     rw[ex] at U;clear V;refine az (pop (-1) f) ?_ ?_
     ·intro e;rw[e] at U;injection U
     ·intro q e;rw[e,dV] at U;refine az (aw q.2) ?_ ?_
      ·intro d;rw[d] at U;injection U
      ·intro a d;rw[d,dV] at U;refine az (aw a.2) ?_ ?_
       ·intro c;rw[c] at U;injection U
       ·intro l c;rw[c,dV] at U
        revert U;refine aJ ?_ ?_<;>intro _ U
        ·injection U
        ·rename_i k
         revert U;refine aJ ?_ ?_<;>intro _ U
         ·injection U
         ·injection U with U;subst U
          simp only[nr,kx,A0,So,p1] at k;haveI x:(if a.1=0 then l.1 else a.1)=0\/isNum (if a.1=0 then l.1 else a.1)=X:=by
           by_cases z:a.1=0
           ·rw[dE z];exact k.2.symm
           ·rw[dm z];exact k.1.symm
          refine ay (λ_=>(if a.1=0 then l.1 else a.1)) (x.imp id λh=>⟨Z,?_⟩) ?_
          ·rw[e0];simp only[isNum,nr,p1] at h;simp;exact h
          ·show Al _ _ _ _ [] X;cases l.2.vals<;>simp[abv,abw,abx,aby]
 | cons p ps=>
  refine aq (è p ps é b hi) λj i=>?_;rw[(kb ..)] at j i;refine cG j ⟨λq hq=>?_,λq hq k=>?_,?_⟩ (λf _=>i f)
  ·simp only[a8] at hq;refine eE hq (λh=>?_) λs=>eE s (λh=>?_) λu=>eE u (λh=>?_) λh=>?_
   ·exact .inr (ML h)
   ·exact .inl (by rw[h];exact .head _)
   ·exact .inl (by exact h▸.head _)
   ·exact .inl (.tail _ h)
  ·rw[cV _ _ _ (by rw[(kb ..)];exact hq),eX _ _ _ _ (hi.lt p (.head _)),dm λe=>k (by rw[e];exact .head _)]
  ·rw[a9,(kb ..)];exact FY
end Internal.P
end
noncomputable section
namespace Internal.P
def EW(hi:Inv n b):bI (ek i L .drop) n b (gI i L .drop n b):=by
 refine cG ((fR hi ⟨[],X⟩).1.1) ((fR hi ⟨[],X⟩).1.2) (λf ok=>(fR hi f).2.trans ?_);constructor
 ·rintro⟨v,g,U,_,h3⟩;exact ay g (by show(aw f).map _=_;refine ah U ?_;rfl) h3
 ·rintro⟨g,U,h3⟩;change (aw f).map (λp=>p.2)=O g at U;refine az (aw f) ?_ ?_
  ·intro e;rw[e] at U;injection U
  ·intro q e;obtain⟨v,a⟩:=q;rw[e] at U;simp only[gL,fx] at U;subst U;exact bx v a Z ((iS ok e).1.imp id λh=>(abz v).mpr h) h3
set_option tactic.hygienic true in
def AX{L:Ls}(hi:Inv n b):bI (ek x L .dK) n b (gI x L .dK n b):=by
 haveI ex:∀f,ek x L .dK f=(aw f).bind λp=>if(isRef p.1||p.1==0)=X then O (push [-1] p.2) else Q:=λ_=>Z
 haveI o:gI x L .dK n b=match given [-1] n b with | (aN,_)=>Q | (X,n,b)=>O (⟨b.length::n.ps,n.any⟩,b++[[-16,-17]]):=Z
 haveI c:∀v:T,v∈[(-16:T),-17]↔isRef v=X:=λv=>by simp[isRef]
 simp only[o];cases e:given [-1] n b with
 | mk r y=>
  refine Ct (lh (ks:=[-1]) (λk z=>by refine ah (gg.mp z) ?_;decide) hi e) λd i a s a5 j m=>?_;haveI l:Bd n b y.1 y.2:=⟨λp hp=>.inl (j p hp),λp _ hp=>m p hp,sY s.symm⟩;cases r with
  | false=>
   intro f _;rintro⟨g,U,V⟩;rw[ex] at U;refine az (aw f) ?_ ?_
   ·intro e;rw[e] at U;injection U
   ·intro q e;rw[e,dV] at U
    revert U;refine aJ ?_ ?_<;>intro _ U
    ·injection U with U;subst U
     exact i Z _ _ V
    ·injection U
  | true=>
   refine cG ((fR a ⟨[],X⟩).1.1) (l.trans (fR a ⟨[],X⟩).1.2) (λf _=>(fR a f).2.trans ?_);constructor
   ·rintro⟨v,g,U,V,h3⟩;refine ay (push [-1] g) ?_ ((d Z _ _).mpr h3);rw[ex,U,dV,dE];refine eE V (λh=>?_) λh=>?_
    ·simp[h]
    ·simp[(c v).mp h]
   ·rintro⟨g,U,V⟩;rw[ex] at U;refine az (aw f) ?_ ?_
    ·intro e;rw[e] at U;injection U
    ·intro q e;rw[e,dV] at U
     revert U;refine aJ ?_ ?_<;>intro _ U
     ·rename_i hv;injection U with U;subst U
      refine bx q.1 q.2 Z ?_ ((d Z _ _).mp V);simp only[nr,p1] at hv;exact hv.symm.imp id (c _).mpr
     ·injection U
def EX{e:J T}{L:Ls}{l:S}{n:bb}{b:aG}(a:mN L)(hi:Inv n b):bI (ek e L (.gr l)) n b (gI e L (.gr l) n b):=by
 have c:∀k∈(-1:T)::L.getD l [],k≠0:=λk i=>by
  refine eE (a8.mp i) (λh=>?_) λh=>?_
  ·rw[h];decide
  ·exact(a.get l).ne k h
 haveI d:gI e L (.gr l) n b=match given (L.getD l []) n b with | (aN,_)=>Q | (X,n,b)=>O (asks (-1::L.getD l []).reverse n b):=by
  show(match given (L.getD l []) n b with | (aN,_)=>Q | (X,n,b)=>O (asks ((L.getD l []).reverse++[-1]) n b))=_;simp only[i7]
 refine ah d ?_;refine(oZ (t:=-1::L.getD l []) (g:=L.getD l []) c (a.get l).ne hi).congr λf=>?_;show _=(pop (-1) f).bind λp=>(av (L.getD l []) p.2).map λq=>push (L.getD l []) q.2;have:=cx (uZ (push (L.getD l []))) (EV (k:=-1) (ks:=L.getD l []) (f:=f));rw[L2] at this;refine this.trans ?_;cases pop (-1) f with
 | none=>rfl
 | some p=>
  simp only[dV,L2];rfl
noncomputable def ji:J T->J T->J T->J (J T)
 | a::e,b::g,c::h=>(if a=b/\b=c then[a] else[])::ji e g h
 | _,_,_=>[]
theorem KQ:ji (a::e) (b::g) (c::h)=(if a=b/\b=c then[a] else[])::ji e g h:=rfl
theorem uX:∀{as bs cs:J T} (i:S),as.length=bs.length->bs.length=cs.length->i<as.length->(ji as bs cs)[i]?=O (if as.getD i 0=bs.getD i 0/\bs.getD i 0=cs.getD i 0 then[as.getD i 0] else[])
 | a::as,b::bs,c::cs,0,_,_,_=>rfl
 | a::as,b::bs,c::cs,i+1,U,V,h3=>uX (as:=as) (bs:=bs) (cs:=cs) i (sL U) (sL V) (F1 h3)
 | [],_,_,_,_,_,h3=>nomatch h3
 | _::_,[],_,_,U,_,_=>by injection U
 | _::_,_::_,[],_,_,V,_=>by injection V
theorem uY:∀{as bs cs:J T},as.length=bs.length->bs.length=cs.length->(ji as bs cs).length=as.length
 | a::as,b::bs,c::cs,U,V=>cx oi (uY (as:=as) (bs:=bs) (cs:=cs) (sL U) (sL V))
 | [],[],[],_,_=>rfl
 | _::_,[],_,U,_=>by injection U
 | [],_::_,_,U,_=>by injection U
 | _::_,_::_,[],_,V=>by injection V
 | [],[],_::_,_,V=>by injection V
theorem Dl{g j k:J T}(U:g.length=j.length)(V:j.length=k.length):(b9 [g.reverse,j.reverse,k.reverse] g.length).reverse=ji g j k:=by
 haveI a:(b9 [g.reverse,j.reverse,k.reverse] g.length).length=g.length:=by simp[b9]
 apply Sn;intro i;by_cases h:i<g.length
 ·simp only[uX i U V h,nL (by rw[a];exact h),a];delta b9;simp only[gX,uy (Bh h)];have e:∀l:J T,l.length=g.length->l.reverse.getD (g.length - 1 - i) 0=l.getD i 0:=λl a=>by
   simp only[eI,nL (ZR h a),a];congr 2;exact Mr h
  simp only[gL,i1,RV,e g Z,e j U.symm,e k (ZX U V),ff,qg,J.headD_cons];have:([g.getD i 0,j.getD i 0,k.getD i 0]=g5 (0+1+1+1) (g.getD i 0))↔(g.getD i 0=j.getD i 0/\j.getD i 0=k.getD i 0):=by
   simp[g5];exact ZZ
  simp only[this]
 ·simp only[jM (by rw[eb,a];exact Cy h),jM (by rw[uY U V];exact Cy h)]
def zo:∀(e:J (J T)),fK e [] X
 | []=>trivial
 | _::_=>rfl
theorem xG:∀(e:J (J T)) (m:S),fK e (g5 m 0) X
 | [],_=>trivial
 | _::_,0=>rfl
 | _::e,m+1=>⟨.inl Z,xG e m⟩
def lB:∀{al:J (J T)}{vs:J T}{dead:aS}{m:S},(m<=vs.length\/dead=X)->(fK al (pad m vs++vs.drop m) dead↔fK al vs dead):=by
 intro al vs dead m h;by_cases b:m<=vs.length
 ·have:pad m vs++vs.drop m=vs:=by
   delta pad;rw[S.sub_eq_zero_of_le b];simp
  rw[this]
 ·have hd:=h.resolve_left b;subst hd;have hp:pad m vs++vs.drop m=vs++g5 (m - vs.length) 0:=by
   delta pad;rw[Fe (by exact MV b),Fs (by exact MV b),hP]
  rw[hp];clear hp h b;generalize m - vs.length=j
  induction vs generalizing al with
  | nil=>exact⟨λc=>zo _,λc=>xG _ _⟩
  | cons v vs e=>
   cases al with| nil=>exact Vz| cons a al=>exact and_congr Vz e
theorem l6:∀{e:J (J T)}{vs:J T}{dead:aS},fK e vs dead->e.length<=vs.length\/dead=X
 | [],_,_,_=>.inl (la _)
 | _::_,[],_,h=>.inr h
 | _::e,_::vs,_,h=>(l6 h.2).imp (λh=>by simpa using h) id
set_option tactic.hygienic true in
theorem xH:∀{as bs cs:J T}{vs:J T}{dead:aS},as.length=bs.length->bs.length=cs.length->
  (fK (ji as bs cs) vs dead↔fK (as.map λk=>[k]) vs dead/\fK (bs.map λk=>[k]) vs dead/\fK (cs.map λk=>[k]) vs dead)
 | [],[],[],_,_,_,_=>⟨λ_=>⟨fo,fo,fo⟩,λ_=>fo⟩
 | a::as,b::bs,c::cs,[],dead,_,_=>⟨λh=>⟨h,h,h⟩,λh=>h.1⟩
 | a::as,b::bs,c::cs,v::vs,dead,U,V=>by
  simp only[KQ,yp,i1,(xH (as:=as) (bs:=bs) (cs:=cs) (vs:=vs) (dead:=dead) (by simpa using U) (by simpa using V)),gg];constructor
  ·rintro⟨h,h3,h4,h5⟩;refine pV ⟨?_,h3⟩ ⟨?_,h4⟩ ?_ h5<;>(refine eE h (λh=>?_) λh=>?_;· exact .inl h)<;>(split at h;rename_i q;replace h:=gg.mp h;first | exact .inr h | exact .inr (h.trans q.1) | exact .inr (h.trans (q.1.trans q.2)))<;>cases h
  ·rintro⟨⟨h3,h4⟩,⟨h5,f⟩,d,e⟩;refine pV ?_ h4 f e;by_cases z:v=0
   ·exact .inl z
   ·right
    refine ah (dE (MX h3 h5 d z)) ?_;simp;exact ZU d z (MX h3 h5 d z)
 | _::_,[],_,_,_,U,_=>by injection U
 | [],_::_,_,_,_,U,_=>by injection U
 | _::_,_::_,[],_,_,_,V=>by injection V
 | [],[],_::_,_,_,_,V=>by injection V
def GZ{L:Ls}(è:mN L)(hi:Inv n b):bI (ek é L (.f9 x y z)) n b (gI é L (.f9 x y z) n b):=by
 haveI ex:∀f,ek é L (.f9 x y z) f=(pop (-1) f).bind λp=>
   if(L.getD x []).length≠(L.getD z []).length then Q else
   (av (L.getD x []) p.2).bind λq=>
   if(L.getD y []).length≠(L.getD z []).length then Q else
   (av (L.getD y []) (push q.1 q.2)).bind λr=>
   (av (L.getD z []) (push r.1 r.2)).map λs=>kill s.2:=λj=>Z
 haveI H:gI é L (.f9 x y z) n b=if([(L.getD x []).reverse,(L.getD y []).reverse,(L.getD z []).reverse].any (λt=>t.length != (L.getD x []).length))=X then Q else
   O (⟨(fresh b (b9 [(L.getD x []).reverse,(L.getD y []).reverse,(L.getD z []).reverse] (L.getD x []).length++[[-1]])).1.reverse,X⟩,(fresh b (b9 [(L.getD x []).reverse,(L.getD y []).reverse,(L.getD z []).reverse] (L.getD x []).length++[[-1]])).2):=Z
 haveI F:=è.get x;haveI D:=è.get y;haveI G:=è.get z;generalize L.getD x []=W at *;generalize L.getD y []=bs at *;generalize L.getD z []=cs at *;by_cases A:W.length=bs.length/\bs.length=cs.length
 ·refine aq A λU V=>?_;haveI w:([W.reverse,bs.reverse,cs.reverse].any (λt=>t.length != W.length))=aN:=by simp[U,V]
  refine ah H ?_;refine ah w ?_;refine ah (dm (by decide)) ?_;generalize ù:b9 [W.reverse,bs.reverse,cs.reverse] W.length++[[-1]]=à;haveI C:à.reverse=[-1]::ji W bs cs:=by simp only[<-ù,KX,(Dl U V)];rfl
  refine cG ⟨λp hp=>((l5 b à) p (hO.mp hp)).2,λl r p e hp k hk=>?_⟩ ⟨λp hp=>.inr ((l5 b à) p (hO.mp hp)).1,λp hp j=>cV _ _ _ hp,?_⟩ (λf j=>?_)
  ·exfalso
   haveI e:(fresh b à).1.reverse=l++p::r:=e;have:=Q8.mp (mM (j8 b à)) p;simp only[e,N4,Q9] at this;exact MU this (RT.mpr hp)
  ·show b.length<=(b++à).length;simp only[a9];exact FY
  ·refine(xD (al:=à.reverse) (by simp only[eb,mL]) (xE b à) (mM (j8 b à))).trans (ah C ?_);have step:∀g:Fr,(fK (ji W bs cs) g.vals g.dead↔∃a,((av W g).bind λq=>(av bs (push q.1 q.2)).bind λr=>(av cs (push r.1 r.2)).map λs=>kill s.2)=O a):=by
    intro g;rw[xH U V];constructor
    ·rintro⟨i,hb,hc⟩;haveI r1:=iR F.ne i;have c:=l6 i;rw[d3] at c;have d:fK (bs.map λk=>[k]) (push (pad W.length g.vals) ⟨g.vals.drop W.length,g.dead⟩).vals (push (pad W.length g.vals) ⟨g.vals.drop W.length,g.dead⟩).dead:=(lB c).mpr hb;have r2:=iR D.ne d;have u:=(lB c).mpr hc;have m:=l6 d;rw[d3] at m;refine bq ⟨[],X⟩ ?_;refine ah r1 ?_;rw[dV];rw[r2,dV];rw[show(push (pad W.length g.vals) ⟨g.vals.drop W.length,g.dead⟩).dead=g.dead from Z,(iR (f:=push (pad bs.length (push (pad W.length g.vals) ⟨g.vals.drop W.length,g.dead⟩).vals) ⟨(push (pad W.length g.vals) ⟨g.vals.drop W.length,g.dead⟩).vals.drop bs.length,g.dead⟩) G.ne ((lB (al:=cs.map λk=>[k]) m).mpr u))];rfl
    ·rintro⟨a,h⟩;by_cases i:fK (W.map λk=>[k]) g.vals g.dead
     ·have r1:=iR F.ne i;have c:=l6 i;rw[d3] at c;simp only[r1,dV] at h;by_cases d:fK (bs.map λk=>[k]) (push (pad W.length g.vals) ⟨g.vals.drop W.length,g.dead⟩).vals (push (pad W.length g.vals) ⟨g.vals.drop W.length,g.dead⟩).dead
      ·have r2:=iR D.ne d;have m:=l6 d;rw[d3] at m;rw[r2,dV] at h;rw[show(push (pad W.length g.vals) ⟨g.vals.drop W.length,g.dead⟩).dead=g.dead from Z] at h;by_cases u:fK (cs.map λk=>[k]) (push (pad bs.length (push (pad W.length g.vals) ⟨g.vals.drop W.length,g.dead⟩).vals) ⟨(push (pad W.length g.vals) ⟨g.vals.drop W.length,g.dead⟩).vals.drop bs.length,g.dead⟩).vals g.dead
       ·exact cG i ((lB c).mp d) ((lB c).mp ((lB m).mp u))
       ·rw[qU G.ne u] at h;injection h
      ·rw[qU D.ne d] at h;injection h
     ·rw[qU F.ne i] at h;injection h
   haveI I:ek é L (.f9 x y z) f=(pop (-1) f).bind λp=>(av W p.2).bind λq=>(av bs (push q.1 q.2)).bind λr=>(av cs (push r.1 r.2)).map λs=>kill s.2:=by
    rw[ex];congr 1;funext p;refine ah (dm (ZV U V)) ?_;congr 1;funext q;exact(dm (by exact ZY V))
   refine ah I ?_;have kd:∀(g:Fr) a,((av W g).bind λq=>(av bs (push q.1 q.2)).bind λr=>(av cs (push r.1 r.2)).map λs=>kill s.2)=O a->a=⟨[],X⟩:=by
    intro g a h;refine az (av W g) ?_ ?_
    ·intro e1;rw[e1] at h;injection h
    ·intro q e1;simp only[e1,dV] at h;refine az (av bs (push q.1 q.2)) ?_ ?_
     ·intro o;rw[o] at h;injection h
     ·intro r o;simp only[o,dV] at h;refine az (av cs (push r.1 r.2)) ?_ ?_
      ·intro E;rw[E] at h;injection h
      ·intro s E;rw[E] at h;injection h with h;subst h;rfl
   clear I;obtain⟨vs,dead⟩:=f;cases vs with
   | nil=>
    cases dead with
    | false=>
     constructor
     ·intro h;exact hQ (show aN=X from h) (by decide)
     ·rintro⟨g,h,_⟩;have:pop (-1) ⟨[],aN⟩=Q:=by simp[pop,aw]
      rw[this] at h;injection h
    | true=>
     haveI e:pop (-1) ⟨[],X⟩=O (0,⟨[],X⟩):=by simp[pop,aw]
     constructor
     ·intro j;refine aH ((step ⟨[],X⟩).mp (zo _)) λa h=>?_;refine ay a (by refine ah e ?_;exact h) ?_;rw[kd _ _ h];exact gK _ _
     ·intro j;rfl
   | cons v vs=>
    constructor
    ·rintro⟨hv,h⟩;haveI e:pop (-1) ⟨v::vs,dead⟩=O (v,⟨vs,dead⟩):=(gc (by decide) _ _ _).mpr ⟨Z,hv⟩;refine aH ((step ⟨vs,dead⟩).mp h) λa h'=>?_;refine ay a (by refine ah e ?_;exact h') ?_;refine ah (kd _ _ h') ?_;exact gK _ _
    ·rintro⟨a,h,_⟩;refine az (pop (-1) ⟨v::vs,dead⟩) ?_ ?_
     ·intro e;rw[e] at h;injection h
     ·intro p e;obtain⟨â,g⟩:=p;simp only[e,dV] at h;refine aq ((gc (by decide) _ _ _).mp e) λe1 o=>?_;simp only[aw,fx,i3] at e1;clear e;refine aq e1 λN=>?_;clear e1;subst N;intro K;subst K;exact au o ((step ⟨vs,dead⟩).mpr ⟨a,h⟩)
 ·haveI w:([W.reverse,bs.reverse,cs.reverse].any (λt=>t.length != W.length))=X:=by
   simp only[NX,J.any_nil,eb,Sg,N3,aS.or_false,nr,bne_iff_ne];exact Z0 A
  rw[H,dE w];intro f j;rintro⟨g,h,_⟩;rw[ex] at h;refine az (pop (-1) f) ?_ ?_
  ·intro e;rw[e] at h;injection h
  ·intro p e;simp only[e,dV] at h
   revert h;refine aJ ?_ ?_<;>intro j h
   ·injection h
   ·refine az (av W p.2) ?_ ?_
    ·intro e1;rw[e1] at h;injection h
    ·intro q e1;simp only[e1,dV] at h
     revert h;refine aJ ?_ ?_<;>intro j h
     ·injection h
     ·exact Z1 A ‹_› ‹_›
end Internal.P
end
noncomputable section
namespace Internal.P
def zp(s:J T)(b:aG):(⟨(fresh b (s.map λk=>[k])).1.reverse,X⟩,(fresh b (s.map λk=>[k])).2)=asks s ⟨[],X⟩ b:=by
 show _=((⟨(fresh b (s.map λk=>[k])).1.reverse++[],X⟩:bb),(fresh b (s.map λk=>[k])).2);rw[hP]
def KR{h:J T}(c:tK h o)(g:mN L)(hi:Inv n b):bI (ek h L o) n b (gI h L o n b):=by
 haveI nil:KL []:=λk j=>by cases j
 cases o with
 | cP=>exact cG (jQ _ _) ⟨λp hp=>(by cases hp),λd d d=>Z,gk _⟩ (λf d=>⟨λd=>⟨kill f,Z,gK _ _⟩,λd=>lA _ _⟩)
 | br l=>
  haveI e:gI h L (.br l) n b=O (asks (L.getD l []).reverse ⟨[],X⟩ b):=by
   show O (_,_)=_;rw[<-zp,<-GX]
  refine ah e ?_;exact xF (g.get l).ne
 | ret=>
  haveI e:gI h L .ret n b=O (asks (L.getLastD []).reverse ⟨[],X⟩ b):=by
   show O (_,_)=_;rw[<-zp]
  exact e▸xF g.last.ne
 | gr l=>exact EX g hi
 | f9 x y z=>exact GZ g hi
 | drop=>exact EW hi
 | sel=>exact GY hi
 | dK=>exact AX hi
 | mZ k=>exact dA Z (λx a=>by simp only[a8,eA,hK] at a;rcases a with rfl | rfl | rfl<;>first | exact .inl Z | exact c) (g9 c) hi
 | xx m=>exact dA Z nil (g9 (.inl Z)) hi
 | xA m=>exact dA Z nil (g9 (.inr (.inl Z))) hi
 | j7 k=>exact dA Z nil (g9 c) hi
 | mI=>exact dA Z (λx a=>by simp only[a8,eA,hK] at a;rcases a with rfl | rfl<;>exact .inl Z) (g9 (.inl Z)) hi
 | mJ=>exact dA Z (g9 (.inr (.inl Z))) (g9 (.inl Z)) hi
 | mK=>exact dA Z (λx a=>by simp only[a8,eA,hK] at a;rcases a with rfl | rfl<;>exact .inr (.inl Z)) (g9 (.inr (.inl Z))) hi
 | lX i=>exact dA Z nil (g9 c) hi
 | lY i=>exact dA Z (g9 c) nil hi
 | lZ i=>exact dA Z (g9 c) (g9 c) hi
 | sQ=>exact dA Z nil nil hi
def nS(a:g8 g)(h:g8 f.vals):g8 (push g f).vals:=λv hv=>by
 refine eE (ka.mp hv) (λq=>?_) λq=>?_
 ·exact a v q
 ·exact h v q
theorem KL.BM(h:KL l):g8 l:=λv hv=>.inr (h v hv)
def rX(f:Fr):g8 (kill f).vals:=λv hv=>by cases hv
def zq(h:g8 f.vals)(e:pop k f=O (v,g)):(v=0\/Kind v)/\g8 g.vals:=by
 delta pop at e;refine az (aw f) ?_ ?_
 ·intro q;rw[q] at e;injection e
 ·intro p q;rw[q] at e
  revert e;refine aJ ?_ ?_<;>intro a e
  ·injection e
  ·injection e with e;injection e with e i;subst e i;exact iS h q
theorem rY:∀{m:J T}{f g:Fr}{l:J T},g8 f.vals->av m f=O (l,g)->g8 l/\g8 g.vals
 | [],f,g,l,h,e=>by simp only[fy,fx,i3] at e;refine jG l e λi=>?_;clear e;subst i;exact au (λv hv=>(by cases hv)) h
 | k::m,f,g,l,h,e=>by
  dsimp only[fy,fA] at e;refine az (pop k f) ?_ ?_
  ·intro e1;haveI e:=e1▸e;injection e
  ·intro p e1;rw[e1] at e;dsimp only at e;refine aq (zq h e1) λhv U=>?_;refine az (av m p.2) ?_ ?_
   ·intro c;rw[c] at e;injection e
   ·intro q c;rw[c] at e;simp only[fx,i3] at e;refine jG l e λj=>?_;clear e;subst j;refine aq (rY U c) λa b=>au (λx d=>?_) b;rcases a8.mp d with rfl | d
    ·exact hv
    ·exact a x d
def eK(h:fixed i o=O (t,g))(a:KL g)(c:g8 f.vals)(e:ek i L o f=O j):g8 j.vals:=by
 rw[(Vo (tL (L:=L) (n:=⟨[],aN⟩) (b:=[]) h).1 f)] at e;refine az (av t f) ?_ ?_
 ·intro q;rw[q] at e;injection e
 ·intro p q;rw[q] at e;injection e with e;subst e;exact nS a.BM (rY c q).2
def TY(d:tK W o)(j:mN L)(a:g8 f.vals)(e:ek W L o f=O f'):g8 f'.vals:=by
 haveI nil:KL []:=λk hk=>by cases hk
 cases o with
 | cP=>injection e with e;subst e;exact rX f
 | br l=>
  change (av (L.getD l []) f).map (λp=>kill p.2)=O f' at e;refine az (av (L.getD l []) f) ?_ ?_
  ·intro q;rw[q] at e;injection e
  ·intro p q;rw[q] at e;injection e with e;subst e;exact rX _
 | ret=>
  change (av (L.getLastD []) f).map (λp=>kill p.2)=O f' at e;refine az (av (L.getLastD []) f) ?_ ?_
  ·intro q;rw[q] at e;injection e
  ·intro p q;rw[q] at e;injection e with e;subst e;exact rX _
 | gr l=>
  change ((pop (-1) f).bind λp=>(av (L.getD l []) p.2).map λq=>push (L.getD l []) q.2)=O f' at e;refine az (pop (-1) f) ?_ ?_
  ·intro q;rw[q] at e;injection e
  ·intro p q;simp only[q,dV] at e;refine az (av (L.getD l []) p.2) ?_ ?_
   ·intro b;rw[b] at e;injection e
   ·intro r b;rw[b] at e;injection e with e;subst e;exact nS (j.get l).BM (rY (zq a q).2 b).2
 | f9 x y z=>
  change ((pop (-1) f).bind λp=>
   if(L.getD x []).length≠(L.getD z []).length then Q else
   (av (L.getD x []) p.2).bind λq=>
   if(L.getD y []).length≠(L.getD z []).length then Q else
   (av (L.getD y []) (push q.1 q.2)).bind λr=>
   (av (L.getD z []) (push r.1 r.2)).map λs=>kill s.2)=O f' at e
  refine az (pop (-1) f) ?_ ?_
  ·intro q;rw[q] at e;injection e
  ·intro p q;simp only[q] at e
   revert e;refine aJ ?_ ?_<;>intro g e
   ·injection e
   ·refine az (av (L.getD x []) p.2) ?_ ?_
    ·intro b;rw[b] at e;injection e
    ·intro r b;simp only[b] at e
     revert e;refine aJ ?_ ?_<;>intro g e
     ·injection e
     ·refine az (av (L.getD y []) (push r.1 r.2)) ?_ ?_
      ·intro c;rw[c] at e;injection e
      ·intro u c;simp only[c,dV] at e;refine az (av (L.getD z []) (push u.1 u.2)) ?_ ?_
       ·intro h;rw[h] at e;injection e
       ·intro w h;rw[h] at e;injection e with e;subst e;exact rX _
 | drop=>
  change (aw f).map (λp=>p.2)=O f' at e;refine az (aw f) ?_ ?_
  ·intro q;rw[q] at e;injection e
  ·intro p q;rw[q] at e;injection e with e;subst e;exact(iS a q).2
 | sel=>
  change ((pop (-1) f).bind λp=>(aw p.2).bind λq=>(aw q.2).bind λr=>if(!(isNum q.1||q.1==0)||!(isNum r.1||r.1==0))=X then Q
   else if q.1≠r.1/\q.1≠0/\r.1≠0 then Q else O (push [if q.1=0 then r.1 else q.1] r.2))=O f' at e
  refine az (pop (-1) f) ?_ ?_
  ·intro q;rw[q] at e;injection e
  ·intro p q;simp only[q,dV] at e;refine az (aw p.2) ?_ ?_
   ·intro b;rw[b] at e;injection e
   ·intro r b;simp only[b,dV] at e;refine az (aw r.2) ?_ ?_
    ·intro c;simp only[c] at e;injection e
    ·intro u c;simp only[c] at e;refine aq (iS (zq a q).2 b) λA n=>aq (iS n c) λt b2=>?_
     revert e;refine aJ ?_ ?_<;>intro g e
     ·injection e
     ·revert e;refine aJ ?_ ?_<;>intro g e
      ·injection e
      ·injection e with e;subst e
       refine nS (λv hv=>?_) b2;refine ah (gg.mp hv) ?_
       split
       ·exact t
       ·exact A
 | dK=>
  change ((aw f).bind λp=>if(isRef p.1||p.1==0)=X then O (push [-1] p.2) else Q)=O f' at e;refine az (aw f) ?_ ?_
  ·intro q;rw[q] at e;injection e
  ·intro p q;simp only[q] at e
   revert e;refine aJ ?_ ?_<;>intro g e
   ·injection e with e;subst e;exact nS (g9 (.inl Z)).BM (iS a q).2
   ·injection e
 | mZ k=>exact eK Z (g9 d) a e
 | xx m=>exact eK Z (g9 (.inl Z)) a e
 | xA m=>exact eK Z (g9 (.inr (.inl Z))) a e
 | j7 k=>exact eK Z (g9 d) a e
 | mI=>exact eK Z (g9 (.inl Z)) a e
 | mJ=>exact eK Z (g9 (.inl Z)) a e
 | mK=>exact eK Z (g9 (.inr (.inl Z))) a e
 | lX i=>exact eK Z (g9 d) a e
 | lY i=>exact eK Z nil a e
 | lZ i=>exact eK Z (g9 d) a e
 | sQ=>exact eK Z nil a e
mutual
def WN (aa:J T):N->Prop
 | .op o=>tK aa o
 | .eO _ t g e two h=>KL t/\KL g/\pP aa e/\pP aa h
def pP (aa:J T):J N->Prop
 | []=>w1
 | m::e=>WN aa m/\pP aa e
end
theorem u7(e:J T):pP e []=w1:=rfl
theorem u9(e:J T)(m:N)(g:J N):pP e (m::g)=(WN e m/\pP e g):=rfl
theorem G0(e:J T)(o:Op):WN e (N.op o)=tK e o:=rfl
theorem G1(e:J T)(c:S)(t g:J T)(h:J N)(two:aS)(i:J N):WN e (N.eO c t g h two i)=(KL t/\KL g/\pP e h/\pP e i):=rfl
def inside (aa:J T)(L:Ls)(c:S)(t g:J T)(e:J N)(two:aS)(h:J N):aS:=
 closes g (gx aa ((if c=3 then t else g)::L) e ⟨t,aN⟩)&&(if two=X then closes g (gx aa ((if c=3 then t else g)::L) h ⟨t,aN⟩) else !(eo (c=4/\t≠g)))
def vc(f:Fr):fN e L (.eO c t g h two i) f=if inside e L c t g h two i=X then(av (if c=4 then -1::t else t) f).map (λp=>push g p.2) else Q:=by
 rfl
def abA(b:WN i m)(d:mN L)(a:g8 f.vals)(e:fN i L m f=O s):g8 s.vals:=by
 cases m with
 | op o=>
  exact TY b d a e
 | eO c t g j two k=>
  rw[vc] at e
  revert e;refine aJ ?_ ?_<;>intro h e
  ·refine az (av (if c=4 then -1::t else t) f) ?_ ?_
   ·intro q;rw[q] at e;injection e
   ·intro p q;rw[q] at e;injection e with e;subst e;exact nS b.2.1.BM (rY a q).2
  ·injection e
def bI.seq(d:∀f a,g8 f.vals->F f=O a->g8 a.vals)(hi:Inv n b)(k:bI G n b W)(x:∀z L,W=O (z,L)->Inv z L->bI F z L (é (z,L))):bI (λf=>(F f).bind G) n b (W.bind é):=by
 cases W with
 | none=>
  intro f c;rintro⟨g,h,y⟩;haveI h:(F f).bind G=O g:=h;refine az (F f) ?_ ?_
  ·intro e;rw[e] at h;injection h
  ·intro a e;rw[e] at h;exact k a (d f a c e) ⟨g,h,y⟩
 | some p=>
  refine cF k λl m i=>?_;haveI x:=x p.1 p.2 Z l;show bI _ n b (é (p.1,p.2));refine az (é (p.1,p.2)) ?_ ?_
  ·intro j;simp only[j] at x;intro f c;rintro⟨g,h,y⟩;haveI h:(F f).bind G=O g:=h;refine az (F f) ?_ ?_
   ·intro e;rw[e] at h;injection h
   ·intro a e;haveI h:=e▸h;exact x f c ⟨a,e,(i a (d f a c e)).mpr ⟨g,h,y⟩⟩
  ·intro s j;simp only[j] at x;refine cF x λq o r=>cG q (m.trans o) (λf c=>(r f c).trans ?_);constructor
   ·rintro⟨a,U,V⟩;refine ak ((i a (d f a c U)).mp V) λg h3 h4=>?_;exact ay g (by show(F f).bind G=_;exact U▸h3) h4
   ·rintro⟨g,h,y⟩;refine az (F f) ?_ ?_
    ·intro e;have h:(F f).bind G=O g:=h;rw[e] at h;injection h
    ·intro a e;haveI h:(F f).bind G=O g:=h;rw[e] at h;exact ay a Z ((i a (d f a c e)).mpr ⟨g,h,y⟩)
def o9{G:Fr->aI Fr}(f:KL t)(q:KL g)(s:bI G (bE g b).1 (bE g b).2 r):((ended t r b).1=X↔closes g (G ⟨t,aN⟩)=X)/\b.length<=(ended t r b).2.length/\∀p,p<b.length->(ended t r b).2.getD p []=b.getD p []:=by
 have c:∀j:Fr,Sat j (bE g b).1 (bE g b).2↔close g j=X:=by
  intro j;refine(qV (ks:=g.reverse) (λk hk=>q.ne k (hO.mp hk)) (jQ _ _) j).trans ?_;rw[hC];delta close;refine az (av g j) ?_ ?_
  ·intro e;constructor
   ·rintro⟨_,_,h,_⟩;injection h
   ·intro h;injection h
  ·intro p e;obtain⟨l,r⟩:=p;constructor
   ·rintro⟨D,C,h,w,hs⟩;clear e;injection h with h;injection h with h e2;subst h e2
    obtain⟨vs,dead⟩:=r;cases vs with
    | nil=>rfl
    | cons v vs=>exact hQ (show aN=X from hs) (by decide)
   ·intro h;clear e;obtain⟨vs,dead⟩:=r;cases vs with| nil=>exact⟨l,⟨[],dead⟩,Z,λa=>0,fo⟩| cons v vs=>injection h
 cases r with
 | none=>
  refine cG ?_ (gk _) (λa a=>Z);constructor
  ·intro h;injection h
  ·intro h;refine az (G ⟨t,aN⟩) ?_ ?_
   ·intro e;rw[e] at h;injection h
   ·intro j e;rw[e] at h;exact hQ ⟨j,e,(c j).mpr h⟩ (s ⟨t,aN⟩ f.BM)
 | some p=>
  refine cF s λm d x=>?_;cases e:given t p.1 p.2 with
  | mk r L=>
   refine Ct (lh f.ne m e) λA u E z a5 è y=>?_;have i:ended t (O (p.1,p.2)) b=(r&&L.1.ps.isEmpty,L.2):=by
    show(match given t p.1 p.2 with | (r,n,b)=>(r&&n.ps.isEmpty,b))=_;exact ah e Z
   refine ah i ?_;refine cG ?_ (by show b.length<=L.2.length;refine ah z ?_;exact((nR _ _ _).trans d).len) (λp hp=>?_)
   ·haveI o:closes g (G ⟨t,aN⟩)=X↔Sat ⟨t,aN⟩ p.1 p.2:=by
     simp only[(x ⟨t,aN⟩ f.BM)];constructor
     ·intro h;refine az (G ⟨t,aN⟩) ?_ ?_
      ·intro e;rw[e] at h;injection h
      ·intro j e;rw[e] at h;exact ay j Z ((c j).mpr h)
     ·rintro⟨j,U,V⟩;exact ah U ((c j).mp V)
    simp only[o];clear e;cases r with
    | false=>
     constructor
     ·intro h;injection h
     ·intro h;exact hQ (by rw[hP];exact h) (u Z [] aN)
    | true=>
     have:=A Z [] aN;rw[hP] at this;simp only[this];obtain⟨W,é⟩:=L.1;cases W with
     | nil=>exact⟨λa=>⟨λa=>0,fo⟩,λa=>Z⟩
     | cons p W=>
      constructor
      ·intro h;injection h
      ·rintro⟨w,h⟩;exact hQ (show aN=X from h) (by decide)
   ·show L.2.getD p []=_;rw[y p λh=>?_,((nR _ _ _).trans d).old p hp (by simp)];refine eE (((nR _ _ _).trans d).ps p h) (λh=>?_) λh=>?_
    ·cases h
    ·exact FX hp h
def Inv.agree(hi:Inv n b)(a:b.length<=g.length)(h:∀p,p<b.length->g.getD p []=b.getD p []):Inv n g:=
 ⟨λp hp=>k6 (hi.lt p hp) a,λl r p e hp k i=>hi.num l r p e hp k (by rwa [h p (hi.lt p (by refine ah e ?_;simp))] at i)⟩
def bI.agree(hi:Inv n b)(d:b.length<=k.length)(h:∀p,p<b.length->k.getD p []=b.getD p [])(s:bI F n k r):bI F n b r:=by
 have m:∀g,Sat g n k↔Sat g n b:=λg=>GW λp hp=>h p (hi.lt p hp);cases r with
 | none=>
  intro f c;rintro⟨g,U,V⟩;exact s f c ⟨g,U,(m g).mpr V⟩
 | some p=>
  refine cF s λe a j=>cG e ⟨λp hp=>(a.ps p hp).imp id λq=>hD d q,λp hp i=>(a.old p (k6 hp d) i).trans (h p hp),hD d a.len⟩ (λf c=>(j f c).trans ?_);constructor
  ·rintro⟨g,U,V⟩;exact ay g U ((m g).mp V)
  ·rintro⟨g,U,V⟩;exact ay g U ((m g).mpr V)
def G3(h:KL l)(b:mN L):mN (l::L):=λx a=>by
 rcases a8.mp a with rfl | a
 ·exact h
 ·exact b x a
set_option tactic.hygienic true in
mutual
theorem nN{W:J T}:∀(m:N),WN W m->∀(L:Ls),mN L->∀n b,Inv n b->bI (fN W L m) n b (bN W L m n b)
 | .op o,hw,L,hL,n,b,hi=>by
  have e1:fN W L (.op o)=ek W L o:=Z;have E:bN W L (.op o) n b=gI W L o n b:=Z;rw[e1,E];exact KR hw hL hi
 | .eO c t g è two é,hw,L,hL,n,b,hi=>by
  refine eW hw λe j wi x=>?_;clear hw;have D:KL (if c=3 then t else g):=by split<;>assumption
  have v:=G3 D hL;have e1:fN W L (.eO c t g è two é)=λf=>if inside W L c t g è two é=X then(av (if c=4 then -1::t else t) f).map (λp=>push g p.2) else Q:=by funext f;exact vc f
  have u:∀b:aG,Inv (bE g b).1 (bE g b).2:=λb=>oY (jQ _ _);have F:=JD è wi _ v _ _ (u b);refine cF (o9 e j F) λw d i=>?_;rw[e1];dsimp only[EU];generalize A:ended t (gJ W ((if c=3 then t else g)::L) è (bE g b).1 (bE g b).2) b=r at *;clear A;obtain⟨r1,a⟩:=r;have d:b.length<=a.length:=d;have i:∀p,p<b.length->a.getD p []=b.getD p []:=i;have y:∀k∈(if c=4 then -1::t else t),k≠0:=by
   intro k hk
   split at hk
   ·rcases a8.mp hk with rfl | hk
    ·decide
    ·exact e.ne k hk
   ·exact e.ne k hk
  have z:∀n' b',asks (t.reverse++(if c=4 then[-1] else[])) n' b'=asks (if c=4 then -1::t else t).reverse n' b':=λn' b'=>by
   split<;>simp
  have à:∀(b2:aG),b.length<=b2.length->(∀p,p<b.length->b2.getD p []=b.getD p [])->bI (λf=>(av (if c=4 then -1::t else t) f).map (λp=>push g p.2)) n b (match given g n b2 with
    | (aN,_)=>Q
    | (X,n,b)=>O (asks (t.reverse++(if c=4 then[-1] else[])) n b)):=λb2 U V=>by
   have:=oZ y j.ne (hi.agree U V);simp only[z];exact this.agree hi U V
  have bad:bI (λf=>(Q:aI Fr)) n b Q:=λf _=>by rintro⟨g,h,_⟩;injection h
  delta tJ;dsimp only;cases two with
  | false=>
   have s:inside W L c t g è aN é=(r1&&!(eo (c=4/\t≠g))):=by
    delta inside;congr 1;rw[JA];exact w.symm
   rw[s];show bI _ n b (if(r1&&!(eo (c=4/\t≠g)))=X then _ else _);by_cases h:(r1&&!(eo (c=4/\t≠g)))=X
   ·simp only[dE h];exact à a d i
   ·simp only[dm h];exact bad
  | true=>
   have s2:=JD é x _ v _ _ (u a);refine cF (o9 e j s2) λC l q=>?_;show bI _ n b (if(r1&&(ended t (gJ W ((if c=3 then t else g)::L) é (bE g a).1 (bE g a).2) a).1)=X then(match given g n (ended t (gJ W ((if c=3 then t else g)::L) é (bE g a).1 (bE g a).2) a).2 with
    | (aN,_)=>Q
    | (X,n,b)=>O (asks (t.reverse++(if c=4 then[-1] else[])) n b)) else Q)
   generalize ù:ended t (gJ W ((if c=3 then t else g)::L) é (bE g a).1 (bE g a).2) a=r2 at *;clear ù;obtain⟨r2,b2⟩:=r2;have l:a.length<=b2.length:=l;have q:∀p,p<a.length->b2.getD p []=a.getD p []:=q;have s:inside W L c t g è X é=(r1&&r2):=by
    delta inside;congr 1
    ·rw[JA];exact w.symm
    ·rw[JA];exact C.symm
   rw[s];by_cases h:(r1&&r2)=X
   ·simp only[dE h];exact à b2 (hD d l) λp hp=>(q p (k6 hp d)).trans (i p hp)
   ·simp only[dm h];exact bad
theorem JD{q:J T}:∀(s:J N),pP q s->∀(L:Ls),mN L->∀n b,Inv n b->bI (gx q L s) n b (gJ q L s n b)
 | [],_,L,x,n,b,hi=>by
  have e1:gx q L []=O:=Z;have c:gJ q L [] n b=O (n,b):=Z;rw[e1,c];exact cG hi ⟨λp hp=>.inl hp,λ_ _ _=>Z,gk _⟩ (λf _=>⟨λh=>⟨f,Z,h⟩,λ⟨g,e,h⟩=>by injection e with e;subst e;exact h⟩)
 | m::s,a,L,x,n,b,hi=>by
  have e1:gx q L (m::s)=λf=>(fN q L m f).bind λg=>gx q L s g:=Z;have c:gJ q L (m::s) n b=(gJ q L s n b).bind λr=>bN q L m r.1 r.2:=Z;rw[e1,c];have a:WN q m/\pP q s:=a;exact bI.seq (λf l k e=>abA a.1 x k e) hi (JD s a.2 L x n b hi) λj i _ d=>nN m a.1 L x j i d
end
theorem G5(d:pP e g)(a:KL K):(holds e [K] [] K g []).1=closes K (gx e [K] g ⟨[],aN⟩):=by
 haveI b:mN [K]:=λx c=>by rw[gg.mp c];exact a
 rw[JA];have:=(o9 (t:=[]) (λk h=>by cases h) a (JD g d [K] b _ _ (oY (ks:=K.reverse) (jQ aN [])))).1;exact this
end Internal.P
end
noncomputable section
namespace Internal.P
inductive I where
 | op (o:Op) | bZ (c:S) (m:T) | cE | fin
noncomputable def I.ctorIdx (x:I):S:=@I.casesOn (λ_=>S) x (λ_=>nat_lit 0) (λ_ _=>nat_lit 1) (nat_lit 2) (nat_lit 3)
noncomputable def G6:J (J T×J T):=[([],[]),([],[-1]),([-2],[-2]),([-1,-16],[-2,-1]),([-2,-1],[])]
def arrow (m:T):J T×J T:=if 0<=m then G6.getD m.toNat ([],[]) else([],if m=-64 then[] else[m])
def tk (m:T):J T:=(arrow m).1.reverse
def gv (m:T):J T:=(arrow m).2.reverse
structure FF where
 c:T
 t:J T
 g:J T
 f:Fr
 d7:aS
noncomputable def FF.sR (x:FF):J T:=if x.c=3 then x.t else x.g
def bo (Y:J FF):Ls:=Y.map FF.sR
def bJ (aa:J T):I->J FF->aI (J FF)
 | _,[]=>Q
 | .op o,x::Y=>(ek aa (bo (x::Y)) o x.f).map λf=>{x with f:=f}::Y
 | .bZ c m,x::Y=>(av (if c=4 then -1::tk m else tk m) x.f).map λp=>⟨c,tk m,gv m,⟨tk m,aN⟩,p.2.dead||x.d7⟩::{x with f:=p.2}::Y
 | .cE,x::Y=>if x.c=4/\close x.g x.f=X then O (⟨5,x.t,x.g,⟨x.t,aN⟩,x.d7⟩::Y) else Q
 | .fin,x::Y=>if close x.g x.f=X/\¬(x.c=4/\x.t≠x.g) then(match Y with
  | []=>O []
  | y::Y=>O ({y with f:=push x.g y.f}::Y)) else Q
noncomputable def run (aa:J T):J I->J FF->aI (J FF)
 | [],Y=>O Y
 | i::e,Y=>(bJ aa i Y).bind (run aa e)
theorem fS(e:J T)(x:J FF):run e [] x=O x:=rfl
theorem dU(e:J T)(x:J FF)(i:I)(g:J I):run e (i::g) x=(bJ e i x).bind (run e g):=rfl
noncomputable def et (aa:J T):J I->J FF->S
 | [],_=>0
 | i::e,Y=>match bJ aa i Y with
  | none=>0
  | some Y=>et aa e Y+1
theorem G7(e:J T)(x:J FF):et e [] x=0:=rfl
theorem zr(e:J T)(x:J FF)(i:I)(g:J I):et e (i::g) x =
  match bJ e i x with
  | none=>0
  | some Y=>et e g Y+1:=rfl
inductive Reads:J I->J N->J I->Prop where
 | qX (r):Reads (.cE::r) [] (.cE::r)
 | pa (r):Reads (.fin::r) [] (.fin::r)
 | op {o is ms r}:Reads is ms r->Reads (.op o::is) (.op o::ms) r
 | one {c m is inner r1 ms r}:Reads is inner (.fin::r1)->Reads r1 ms r->Reads (.bZ c m::is) (.eO c (tk m) (gv m) inner aN []::ms) r
 | two {m is inner r1 other r2 ms r}:Reads is inner (.cE::r1)->Reads r1 other (.fin::r2)->Reads r2 ms r->Reads (.bZ 4 m::is) (.eO 4 (tk m) (gv m) inner X other::ms) r
def VH(x:FF)(f:Fr)(Y:J FF):bo ({x with f:=f}::Y)=bo (x::Y):=Z
theorem EY(h:Reads z L r):∀(x:FF) (Y:J FF),run q z (x::Y)=(gx q (bo (x::Y)) L x.f).bind λf=>run q r ({x with f:=f}::Y):=by
 induction h with
 | qX r=>intro x Y;dsimp only[uU,uV,dV]
 | pa r=>intro x Y;dsimp only[uU,uV,dV]
 | op h ih=>
  intro x Y;dsimp only[uU,uV,abt,abu,fS,dU,bJ];cases ek q (bo (x::Y)) _ x.f with
  | none=>rfl
  | some f=>
   dsimp only[gL,dV];simp only[ih];rfl
 | @one c m z s r1 L r U V W fD=>
  intro x Y;haveI i:∀(b:aS) (g:Fr),bo ((⟨(c:T),tk m,gv m,⟨tk m,aN⟩,b⟩:FF)::{x with f:=g}::Y)=(if c=3 then tk m else gv m)::bo (x::Y):=by
   intro b g;show(if(c:T)=3 then tk m else gv m)::bo (x::Y)=_;by_cases e:c=3
   ·subst e;rfl
   ·exact ah (dm e) (ah (dm (Mw e)) Z)
  haveI hc:((c:T)=4)↔c=4:=MB;dsimp only[uU,uV,fS,dU,bJ];rw[vc];haveI n:inside q (bo (x::Y)) c (tk m) (gv m) s aN []=(closes (gv m) (gx q ((if c=3 then tk m else gv m)::bo (x::Y)) s ⟨tk m,aN⟩)&&!(eo (c=4/\tk m≠gv m))):=Z;refine ah n (az (av (if c=4 then -1::tk m else tk m) x.f) ?_ ?_)
  ·intro hp;simp
  ·intro p hp;dsimp only[gL,dV];simp only[W,i];refine az (gx q ((if c=3 then tk m else gv m)::bo (x::Y)) s ⟨tk m,aN⟩) ?_ ?_
   ·intro hi;simp[closes]
   ·intro j hi;haveI l:closes (gv m) (O j)=close (gv m) j:=Z;refine ah l ?_;dsimp only[dV,fS,dU,bJ];by_cases a:close (gv m) j=X/\¬(c=4/\tk m≠gv m)
    ·have e:(close (gv m) j&&!(eo (c=4/\tk m≠gv m)))=X:=by
      rw[e3,kx,Qh];exact a
     rw[dE (by rw[hc];exact a),dE e];dsimp only[dV];simp only[fD];rfl
    ·have e:¬(close (gv m) j&&!(eo (c=4/\tk m≠gv m)))=X:=by
      simp only[e3,kx,Qh];exact a
     rw[dm (by rw[hc];exact a),dm e];rfl
 | @two m z s r1 y r2 L r U V h3 W fD nU=>
  intro x Y;dsimp only[uU,uV,fS,dU,bJ,i5];rw[vc];haveI n:inside q (bo (x::Y)) 4 (tk m) (gv m) s X y=(closes (gv m) (gx q (gv m::bo (x::Y)) s ⟨tk m,aN⟩)&&closes (gv m) (gx q (gv m::bo (x::Y)) y ⟨tk m,aN⟩)):=Z;refine ah n (ah (show(if(4:S)=4 then(-1:T)::tk m else tk m)=-1::tk m from Z) ?_);refine az (av (-1::tk m) x.f) ?_ ?_
  ·intro hp;simp
  ·intro p hp;dsimp only[gL,dV];simp only[W];haveI i:∀(b:aS) (g:Fr) (k:T) (u:Fr),k≠3->bo ((⟨k,tk m,gv m,u,b⟩:FF)::{x with f:=g}::Y)=gv m::bo (x::Y):=by
    intro b g k u hk;show(if k=3 then tk m else gv m)::bo (x::Y)=_;exact ah (dm hk) Z
   refine az (gx q (gv m::bo (x::Y)) s ⟨tk m,aN⟩) ?_ ?_
   ·intro hi;simp[closes]
   ·intro j hi;haveI l:closes (gv m) (O j)=close (gv m) j:=Z;refine ah l ?_;dsimp only[dV,fS,dU,bJ];refine gz (close (gv m) j) ?_ ?_
    ·intro a;simp
    ·intro a;rw[dE ⟨by rfl,Z⟩,dV,fD,i _ _ _ _ (by decide),aS.true_and];refine az (gx q (gv m::bo (x::Y)) y ⟨tk m,aN⟩) ?_ ?_
     ·intro o;simp[closes]
     ·intro k o;haveI d:closes (gv m) (O k)=close (gv m) k:=Z;dsimp only[dV,fS,dU,bJ];refine ah d (gz (close (gv m) k) ?_ ?_)
      ·intro hk;simp
      ·intro hk;rw[dE ⟨Z,by rintro⟨h,_⟩;cases h⟩];dsimp only[i5,dV];rw[nU];rfl
def wf:J S->J I->Prop
 | _,[]=>Gl
 | st,.op _::e=>wf st e
 | st,.bZ c _::e=>c≠5/\wf (c::st) e
 | st,.cE::e=>match st with
  | c::st=>c=4/\wf (5::st) e
  | []=>Gl
 | st,.fin::e=>match st with
  | _::st=>wf st e
  | []=>e=[]
def G8:∀(k:S) (q:J I),q.length<=k->∀st,wf st q->∃L r,Reads q L r/\r.length<=q.length/\
  ((∃s,r=.fin::s/\((st=[]/\s=[])\/∃c p,st=c::p/\wf p s))\/(∃s p,r=.cE::s/\st=4::p/\wf (5::p) s)):=by
 intro k
 induction k with
 | zero=>
  intro q f st h;cases q with| nil=>exact h.elim| cons i q=>simp at f
 | succ k x=>
  intro q f st h;cases q with
  | nil=>exact h.elim
  | cons i q=>
   have W:=by simpa using f
   clear f;cases i with
   | op o=>
    exact bV (x q W st h) λL r U V h3=>bx _ r (.op U) (p3 V) h3
   | cE=>
    cases st with
    | nil=>exact h.elim
    | cons c st=>
     refine rG c h ?_;intro h;exact bx [] _ (.qX _) (gk _) (.inr ⟨q,st,Z,Z,h⟩)
   | fin=>
    cases st with| nil=>exact bx [] _ (.pa _) (gk _) (.inl ⟨q,Z,.inl ⟨Z,h⟩⟩)| cons c st=>exact bx [] _ (.pa _) (gk _) (.inl ⟨q,Z,.inr ⟨c,st,Z,h⟩⟩)
   | bZ c m=>
    refine aq h ?_;clear h;intro g h;refine bV (x q W (c::st) h) λé r U V h3=>?_;rcases h3 with⟨y,rfl,h3⟩ | ⟨y,p,rfl,d,h3⟩
    ·rcases h3 with⟨h3,_⟩ | ⟨l,p,h3,h4⟩
     ·injection h3
     ·injection h3 with h3 z;subst h3 z
      have e:y.length<=k:=by simp at V;exact FZ W V
      refine bV (x y e st h4) λL r j b a=>?_;exact bx _ r (.one U j) (by simp at V ⊢;exact MC V b) a
    ·clear g h;injection d with d z;subst d z
     haveI e:y.length<=k:=by simp at V;exact FZ W V
     refine bV (x y e (5::st) h3) λè r j b a=>?_;rcases a with⟨r2,rfl,a⟩ | ⟨r2,p,rfl,d,_⟩
     ·rcases a with⟨a,_⟩ | ⟨l,p,a,g4⟩
      ·injection a
      ·injection a with a z;subst a z
       haveI n:r2.length<=k:=by simp at b V;exact FZ e b
       refine bV (x r2 n st g4) λL r k1 k2 k3=>?_;exact bx _ r (.two U j k1) (by simp at b V ⊢;exact MD V b k2) k3
     ·cases d
def KS(h:wf [] e):∃g,Reads e g [.fin]:=by
 refine bV (G8 e.length e (gk _) [] h) λg r U d h3=>?_;rcases h3 with⟨b,rfl,h3⟩ | ⟨b,i,rfl,a,_⟩
 ·rcases h3 with⟨_,rfl⟩ | ⟨c,i,h3,_⟩
  ·exact bq g U
  ·injection h3
 ·injection a
def start (K:J T):J FF:=[⟨-1,[],K,⟨[],aN⟩,aN⟩]
theorem KU(h:Reads j i [.fin]):(run g j (start K)).isSome=closes K (gx g [K] i ⟨[],aN⟩):=by
 delta start;simp only[EY h];haveI e:bo [(⟨-1,[],K,⟨[],aN⟩,aN⟩:FF)]=[K]:=Z;refine ah e ?_;cases gx g [K] i ⟨[],aN⟩ with
 | none=>rfl
 | some f=>
  dsimp only[dV,fS,dU,bJ,closes];cases close K f with| false=>simp| true=>rfl
noncomputable def dM:J I->J S->aI (J S)
 | [],st=>O st
 | .op _::e,st=>dM e st
 | .bZ c _::e,st=>if c=5 then Q else dM e (c::st)
 | .cE::e,st=>match st with
  | c::st=>if c=4 then dM e (5::st) else Q
  | []=>Q
 | .fin::e,st=>match st with
  | _::st=>dM e st
  | []=>Q
theorem Dn(x:J S):dM [] x=O x:=rfl
theorem Dp(x:J S)(o:Op)(e:J I):dM (I.op o::e) x=dM e x:=rfl
theorem JF(x:J S)(c:S)(m:T)(e:J I):dM (I.bZ c m::e) x=if c=5 then Q else dM e (c::x):=rfl
theorem TZ(e:J I)(c:S)(a:J S):dM (I.cE::e) (c::a)=if c=4 then dM e (5::a) else Q:=rfl
theorem T1(e:J I):dM (I.cE::e) []=Q:=rfl
theorem JG(e:J I)(c:S)(a:J S):dM (I.fin::e) (c::a)=dM e a:=rfl
theorem T2(e:J I):dM (I.fin::e) []=Q:=rfl
set_option tactic.hygienic true in
theorem qY:∀{a b:J I}{st e:J S},dM a st=O e->wf e b->wf st (a++b)
 | [],b,st,e,h,w=>by injection h with h;subst h;exact w
 | .op o::a,b,st,e,h,w=>qY (a:=a) h w
 | .bZ c m::a,b,st,e,h,w=>by
  revert h;refine aJ ?_ ?_<;>intro _ h
  ·try clear Dp
   injection h
  ·rename_i hc;exact au hc (qY h w)
 | .cE::a,b,[],e,h,w=>by injection h
 | .cE::a,b,c::st,e,h,w=>by
  revert h;refine aJ ?_ ?_<;>intro _ h
  ·rename_i hc;exact au hc (qY h w)
  ·clear w;injection h
 | .fin::a,b,[],e,h,w=>by injection h
 | .fin::a,b,c::st,e,h,w=>qY (a:=a) h w
theorem l7:∀{a b:J I}{st:J S},wf st (a++b)->b≠[]->∃e,dM a st=O e
 | [],b,st,w,_=>⟨st,Z⟩
 | .op o::a,b,st,w,hb=>l7 (a:=a) w hb
 | .bZ c m::a,b,st,w,hb=>by
  refine aq w ?_;intro hc w;rw[JF,dm hc];exact l7 w hb
 | .cE::a,b,[],w,hb=>w.elim
 | .cE::a,b,c::st,w,hb=>by
  refine rG c w ?_;intro w;dsimp only[Dn,Dp,JF,TZ,T1,JG,T2,i5];exact l7 w hb
 | .fin::a,b,[],w,hb=>by
  haveI w:a++b=[]:=w;rw[J.append_eq_nil_iff] at w;exact hQ w.2 hb
 | .fin::a,b,c::st,w,hb=>l7 (a:=a) w hb
noncomputable def hU:J S->J I
 | []=>[]
 | c::st=>(if c=4 then[.cE,.op .cP] else[])++[.fin,.op .cP]++hU st
theorem qZ:hU []=[]:=rfl
theorem q8(c:S)(st:J S):hU (c::st)=(if c=4 then[I.cE,I.op Op.cP] else[])++[I.fin,I.op Op.cP]++hU st:=rfl
noncomputable def sealed (e:J I)(n:S):J I:=if n=e.length then e else e.take n++[.op .cP]++hU ((dM (e.take n) []).getD [])++[.fin]
theorem wu:∀st:J S,wf st (hU st++[.fin])
 | []=>rfl
 | c::st=>by
  dsimp only[qZ,q8];by_cases h:c=4
  ·subst h;exact au Z (wu st)
  ·exact(dm h)▸wu st
theorem wy:∀{a b:J I}{Y:J FF},run e (a++b) Y=(run e a Y).bind (run e b)
 | [],b,Y=>rfl
 | i::a,b,Y=>by
  dsimp only[lg,fS,dU];cases bJ e i Y with| none=>rfl| some g=>dsimp only[dV];exact wy
noncomputable def codes:J FF->J T:=J.map FF.c
def vd(hc:codes Y=st.map (λc:S=>(c:T))++[-1])(h:bJ j i Y=O k)(g:dM [i] st=O q):codes k=q.map (λc:S=>(c:T))++[-1]:=by
 cases Y with
 | nil=>cases st<;>simp[codes] at hc
 | cons x Y=>
  cases i with
  | op o=>
   simp only[Dn,Dp,fx] at g;subst g;dsimp only[bJ] at h;refine az (ek j (bo (x::Y)) o x.f) ?_ ?_
   ·intro e;rw[e] at h;injection h
   ·intro f e;rw[e] at h;injection h with h;subst h;exact hc
  | bZ c m=>
   revert g;refine aJ ?_ ?_<;>intro a g
   ·injection g
   ·injection g with g;subst g
    dsimp only[bJ] at h;refine az (av (if c=4 then -1::tk m else tk m) x.f) ?_ ?_
    ·intro e;rw[e] at h;injection h
    ·intro p e;rw[e] at h;injection h with h;subst h
     show(c:T)::codes (x::Y)=_;refine ah hc ?_;rfl
  | cE=>
   cases st with
   | nil=>injection g
   | cons c st=>
    revert g;refine aJ ?_ ?_<;>intro a g
    ·injection g with g;subst g
     revert h;refine aJ ?_ ?_<;>intro a h
     ·injection h with h;subst h
      haveI hc:x.c::codes Y=(c:T)::(st.map (λc:S=>(c:T))++[-1]):=hc;show(5:T)::codes Y=_;refine ah ((GS hc).2) ?_;rfl
     ·injection h
    ·injection g
  | fin=>
   cases st with
   | nil=>injection g
   | cons c st=>
    simp only[Dn,JG,fx] at g;subst g
    revert h;refine aJ ?_ ?_<;>intro a h
    ·change x.c::codes Y=(c:T)::(st.map (λc:S=>(c:T))++[-1]) at hc;haveI hc:=(GS hc).2;cases Y with
     | nil=>cases st<;>simp[codes] at hc
     | cons y Y=>injection h with h;subst h;exact hc
    ·injection h
set_option tactic.hygienic true in
theorem xJ{j:J T}:∀{q:J I}{st k:J S}{Y p:J FF},codes Y=st.map (λc:S=>(c:T))++[-1]->run j q Y=O p->dM q st=O k->codes p=k.map (λc:S=>(c:T))++[-1]
 | [],st,k,Y,p,hc,h,g=>by injection h with h;subst h;injection g with g;subst g;exact hc
 | i::q,st,k,Y,p,hc,h,g=>by
  dsimp only[fS,dU] at h;refine az (bJ j i Y) ?_ ?_
  ·intro e;rw[e] at h;injection h
  ·intro b e;haveI h:=e▸h;have:∃a,dM [i] st=O a/\dM q a=O k:=by
    cases i with
    | op o=>exact ay st Z g
    | bZ c m=>
     revert g;refine aJ ?_ ?_<;>intro _ g
     ·try clear bJ;try clear az
      injection g
     ·rename_i hc;exact ay _ (dm hc) g
    | cE=>
     cases st with
     | nil=>injection g
     | cons c st=>
      revert g;refine aJ ?_ ?_<;>intro _ g
      ·rename_i hc;exact ay _ (dE hc) g
      ·injection g
    | fin=>
     cases st with| nil=>injection g| cons c st=>exact ay st Z g
   exact ak this λa U V=>xJ (vd hc e U) h V
theorem lj(g:J T):close g ⟨[],X⟩=X:=by
 have:∀g:J T,∃l,av g ⟨[],X⟩=O (l,⟨[],X⟩):=by
  intro g
  induction g with
  | nil=>exact bq [] Z
  | cons k g e=>
   refine aH e λl a=>?_;haveI U:pop k ⟨[],X⟩=O (0,⟨[],X⟩):=by simp[pop,aw]
   exact bq (0::l) (by simp only[fA,U,a])
 refine aH (this g) λl a=>?_;delta close;refine ah a ?_;rfl
theorem BN:ek e L .cP f=O (kill f):=rfl
theorem tM:∀(st:J S) (x:FF) (Y:J FF),x.f=⟨[],X⟩->codes (x::Y)=st.map (λc:S=>(c:T))++[-1]->run e (hU st++[.fin]) (x::Y)=O []
 | [],x,Y,g,hc=>by
  refine aq (GS hc) λU V=>?_;clear hc;cases Y with
  | cons y Y=>injection V
  | nil=>
   dsimp only[qZ,q8,k8,fS,dU,bJ];rw[g,lj,dE ⟨Z,by rw[U];rintro⟨h,_⟩;injection h⟩];rfl
 | c::st,x,Y,g,hc=>by
  refine aq (GS hc) λU V=>?_;clear hc;cases Y with
  | nil=>cases st<;>simp[codes] at V
  | cons y Y=>
   dsimp only[qZ,q8];by_cases h4:c=4
   ·subst h4;simp only[i5,lg,k8,dU,bJ,g,lj,U];rw[dE ⟨Z,fo⟩];simp only[dV,dU,bJ,BN,gL,kill,lj];exact tM st _ Y Z V
   ·simp only[dm h4,k8,lg,dU,bJ,g,lj,U];rw[dE ⟨fo,by rintro⟨h,_⟩;exact aab h4 h⟩];exact tM st _ Y Z V
def Dq(a:n≠g.length)(h:run e (g.take n) (start K)=O Y)(i:dM (g.take n) []=O st):(run e (sealed g n) (start K)).isSome=X:=by
 haveI hc:codes Y=st.map (λc:S=>(c:T))++[-1]:=xJ (st:=[]) Z h i;delta sealed;rw[dm a,fJ,fJ,wy,h,i];dsimp only[dV,aI.getD_some,lg,k8,fS,dU];clear i h;cases Y with
 | nil=>cases st<;>simp[codes] at hc
 | cons x Y=>
  dsimp only[bJ,BN,gL,dV,kill];rw[tM st {x with f:=⟨[],X⟩} Y Z hc];rfl
def iT(h:wf [] e)(c:n<e.length):∃st,dM (e.take n) []=O st/\wf [] (sealed e n):=by
 refine aH (l7 (a:=e.take n) (b:=e.drop n) (st:=[]) (by rw[(wh n e)];exact h) (by intro q;have:=cx QD q;simp at this;exact Z5 c this)) λst g=>?_;refine ay st g ?_;delta sealed;rw[dm (jB c),g,fJ,fJ];exact qY g (wu st)
theorem xK:∀{j:J I}{Y:J FF},run g j Y=Q->et g j Y<j.length/\(∃k,run g (j.take (et g j Y)) Y=O k)/\run g (j.take (et g j Y+1)) Y=Q
 | [],Y,h=>by injection h
 | i::j,Y,h=>by
  dsimp only[G7,zr];dsimp only[fS,dU] at h;refine az (bJ g i Y) ?_ ?_
  ·intro e;exact cG (Vp _) ⟨Y,Z⟩ (by simp[fS,dU,e])
  ·intro b e;refine cF (xK (e▸h)) λU a h3=>aH a λk V=>cG (by simpa using U) ⟨k,?_⟩ ?_
   ·simp only[Rp,dU,e,dV,V]
   ·simp only[Rp,dU,e,dV,h3]
end Internal.P
end
noncomputable section
namespace Internal.P
def pQ (aa:J T):I->Prop
 | .op o=>tK aa o
 | .bZ _ m=>KL (tk m)/\KL (gv m)
 | _=>w1
theorem G9(h:Reads m p r):(∀i∈m,pQ g i)->pP g p/\∀i∈r,pQ g i:=by
 induction h with
 | qX r=>intro h;exact au (by dsimp only[u7,u9]) h
 | pa r=>intro h;exact au (by dsimp only[u7,u9]) h
 | op _ q=>
  intro h;refine aq (q λi hi=>h i (.tail _ hi)) λa b=>?_;exact au (by dsimp only[u7,u9,G0,G1];exact au (h _ (.head _)) a) b
 | one _ _ j k=>
  intro h;refine aq (j λi hi=>h i (.tail _ hi)) λd c=>aq (k λi hi=>c i (.tail _ hi)) λe b2=>?_;exact au (by dsimp only[u7,u9,G0,G1];exact au ⟨(h _ (.head _)).1,(h _ (.head _)).2,d,fo⟩ e) b2
 | two _ _ _ j k s=>
  intro h;refine aq (j λi hi=>h i (.tail _ hi)) λd c=>aq (k λi hi=>c i (.tail _ hi)) λe b2=>aq (s λi hi=>b2 i (.tail _ hi)) λf b3=>?_;exact au (by simp only[u7,u9,G0,G1];exact au ⟨(h _ (.head _)).1,(h _ (.head _)).2,d,e⟩ f) b3
def Hd(h:Reads g j [.fin])(ok:∀i∈g,pQ e i)(a:KL K):(holds e [K] [] K j []).1=(run e g (start K)).isSome:=by
 simp only[KU h,G5 (G9 h ok).1 a]
def xM{g:J I}(ok:∀i∈g,pQ e i):∀i∈sealed g n,pQ e i:=by
 have a:∀st,∀i∈hU st,pQ e i:=by
  intro st
  induction st with
  | nil=>intro i hi;cases hi
  | cons c st h=>
   intro i hi;dsimp only[qZ,q8] at hi;simp only[ka] at hi;try clear n
   rcases hi with(hi | hi) | hi
   ·try clear I;try clear n
    split at hi
    ·simp only[a8,eA,hK] at hi;rcases hi with rfl | rfl<;>trivial
    ·cases hi
   ·simp only[a8,eA,hK] at hi;rcases hi with rfl | rfl<;>trivial
   ·exact h i hi
 intro i hi;delta sealed at hi
 split at hi
 ·exact ok i hi
 ·simp only[ka,gg] at hi;rcases hi with((hi | rfl) | hi) | rfl
  ·exact ok i (Jz hi)
  ·trivial
  ·exact a _ i hi
  ·trivial
def refusal(w:wf [] g)(h:run e g (start K)=Q):et e g (start K)<g.length/\(run e (sealed g (et e g (start K))) (start K)).isSome=X/\(run e (sealed g (et e g (start K)+1)) (start K)).isSome=aN:=by
 refine cF (xK h) λU a h3=>?_;refine aH a λY V=>?_;clear a;refine cG U ?_ ?_
 ·exact ak (iT w U) λst i b=>Dq (jB U) V i
 ·delta sealed
  split
  ·refine ah h ?_;rfl
  ·rw[fJ,fJ,wy,h3];rfl
noncomputable def sS:J FF->T
 | []=>0
 | x::Y=>x.f.vals.length+sS Y
theorem ve:sS []=0:=rfl
theorem vg(a:FF)(Y:J FF):sS (a::Y)=↑a.f.vals.length+sS Y:=rfl
noncomputable def note:J FF->aI T
 | []=>Q
 | x::Y=>if x.f.dead||x.d7 then Q else O (sS (x::Y))
noncomputable def sT (aa:J T):J I->J FF->J (aI T)
 | [],_=>[]
 | i::e,Y=>note Y::(match bJ aa i Y with
  | some Y=>sT aa e Y
  | none=>[])
theorem T4(e:J T)(x:J FF):sT e [] x=[]:=rfl
theorem JI(e:J T)(x:J FF)(i:I)(g:J I):sT e (i::g) x =
  note x::
   match bJ e i x with
   | some Y=>sT e g Y
   | none=>[]:=rfl
noncomputable abbrev HF:=aI T×T×T
def fT (aa:J T):I->J HF×aI T->J HF×aI T
 | .bZ c m,(e,h)=>
  let i:=h.map λh=>h - ((arrow m).1.length:T) - (if c=4 then 1 else 0)
  ((i,(arrow m).1.length,(arrow m).2.length)::e,i.map λb=>b+((arrow m).1.length:T))
 | .cE,(e,h)=>(e,match e with | (b,m,_)::_=>b.map (·+m) | []=>h)
 | .fin,(e,h)=>(e.tail,match e with | (b,_,n)::_=>b.map (·+n) | []=>h)
 | .op o,(e,h)=>(e,match o with
  | .cP | .br _ | .f9 _ _ _ | .ret=>Q
  | .gr _ | .drop=>h.map (·+-1)
  | .sel=>h.map (·+-2)
  | .dK=>h.map (·+0)
  | o=>match fixed aa o with
   | some (t,g)=>h.map λh=>h+((g.length:T) - (t.length:T))
   | none=>h)
def ng (aa:J T):J I->J HF×aI T->J (aI T)
 | [],_=>[]
 | i::e,s=>s.2::ng aa e (fT aa i s)
theorem OF(e:J T)(x:J HF×aI T):ng e [] x=[]:=rfl
theorem OG(e:J T)(x:J HF×aI T)(i:I)(g:J I):ng e (i::g) x=x.snd::ng e g (fT e i x):=rfl
def HI:J HF->J FF->Prop
 | [],[]=>w1
 | (b,m,n)::e,x::Y=>b=(if x.d7 then Q else O (sS Y))/\m=x.t.length/\n=x.g.length/\(match Y with | []=>w1 | y::_=>x.d7=(y.f.dead||y.d7))/\HI e Y
 | _,_=>Gl
set_option tactic.hygienic true in
def jm(e:aw f=O (v,g)):g.dead=f.dead/\(f.dead=aN->f.vals.length=g.vals.length+1):=by
 obtain⟨vs,dead⟩:=f;cases vs with
 | nil=>
  dsimp only[aw] at e
  revert e;refine aJ ?_ ?_<;>intro _ e
  ·rename_i h;injection e with e;injection e with e i;subst e i;exact au Z (λz=>by rw[show dead=aN from z] at h;injection h)
  ·injection e
 | cons x j=>
  simp only[aw,fx,i3] at e;refine jG v e λa=>?_;clear e;subst a;exact au Z (λ_=>Z)
def wz(e:pop k f=O (v,g)):g.dead=f.dead/\(f.dead=aN->f.vals.length=g.vals.length+1):=by
 delta pop at e;refine az (aw f) ?_ ?_
 ·intro q;rw[q] at e;injection e
 ·intro p q;rw[q] at e;dsimp only at e
  revert e;refine aJ ?_ ?_<;>intro a e
  ·injection e
  ·injection e with e;injection e with e h;subst e h;exact jm q
theorem pb:∀{s:J T}{f g:Fr}{l:J T},av s f=O (l,g)->g.dead=f.dead/\(f.dead=aN->f.vals.length=g.vals.length+s.length)
 | [],f,g,l,e=>by simp only[fy,fx,i3] at e;refine AZ g e λc=>?_;exact au Z (λc=>Z)
 | k::s,f,g,l,e=>by
  dsimp only[fy,fA] at e;refine az (pop k f) ?_ ?_
  ·intro e1;rw[e1] at e;injection e
  ·intro p e1;haveI e:=e1▸e;obtain⟨v,j⟩:=p;dsimp only at e;refine aq (wz e1) λb d=>?_;refine az (av s j) ?_ ?_
   ·intro a;rw[a] at e;injection e
   ·intro q a;rw[a] at e;simp only[fx,i3] at e;refine AZ g e λc=>?_;refine aq (pb a) λi m=>au (i.trans b) (λh=>?_);simp only[d h,m (b.trans h)];exact Z3
def pg(l:J T)(f:Fr):(push l f).vals.length=l.length+f.vals.length/\(push l f).dead=f.dead:=⟨a9,Z⟩
def OH{c:T}(e:ek W L o f=O f')(C:h=if f.dead||b then Q else O (f.vals.length+c)):(fT W (.op o) (hs,h)).2=if f'.dead||b then Q else O (f'.vals.length+c):=by
 have a:∀t g,fixed W o=O (t,g)->ek W L o f=(av t f).map (λp=>push g p.2)->(fT W (.op o) (hs,h)).2=h.map (λh=>h+((g.length:T) - (t.length:T)))->(fT W (.op o) (hs,h)).2=if f'.dead||b then Q else O (f'.vals.length+c):=by
  intro t g G e1 N;refine ah N ?_;rw[e1] at e;refine az (av t f) ?_ ?_
  ·intro q;rw[q] at e;injection e
  ·intro p q;rw[q] at e;injection e with e;subst e
   refine aq (pb q) λd n=>aq (pg g p.2) λpl E=>ah C (ah E (ah d ?_));clear C;refine gz f.dead ?_ ?_;rotate_left
   ·intro hd;rfl
   ·intro hd;cases b with
    | true=>rfl
    | false=>
     have:=n hd;simp only[xf,ia,kc,gL,pl];congr 1;exact Z4 this
 have dead:f'=⟨[],X⟩->Q=if f'.dead||b then Q else O ((f'.vals.length:T)+c):=by rintro rfl;rfl
 cases o with
 | cP=>injection e with e;subst e;exact dead Z
 | br l=>
  haveI e:(av (L.getD l []) f).map (λp=>kill p.2)=O f':=e;refine az (av (L.getD l []) f) ?_ ?_
  ·intro q;rw[q] at e;injection e
  ·intro p q;rw[q] at e;clear a;injection e with e;subst e;exact dead Z
 | ret=>
  have e:(av (L.getLastD []) f).map (λp=>kill p.2)=O f':=e;refine az (av (L.getLastD []) f) ?_ ?_
  ·intro q;rw[q] at e;injection e
  ·intro p q;rw[q] at e;clear a;injection e with e;subst e;exact dead Z
 | f9 x y z=>
  change ((pop (-1) f).bind λp=>
   if(L.getD x []).length≠(L.getD z []).length then Q else
   (av (L.getD x []) p.2).bind λq=>
   if(L.getD y []).length≠(L.getD z []).length then Q else
   (av (L.getD y []) (push q.1 q.2)).bind λr=>
   (av (L.getD z []) (push r.1 r.2)).map λs=>kill s.2)=O f' at e
  refine az (pop (-1) f) ?_ ?_
  ·intro q;rw[q] at e;injection e
  ·intro p q;rw[q,dV] at e
   revert e;refine aJ ?_ ?_<;>intro G e
   ·injection e
   ·refine az (av (L.getD x []) p.2) ?_ ?_
    ·intro j;rw[j] at e;injection e
    ·intro r j;rw[j,dV] at e
     revert e;refine aJ ?_ ?_<;>intro G e
     ·injection e
     ·refine az (av (L.getD y []) (push r.1 r.2)) ?_ ?_
      ·intro é;rw[é] at e;injection e
      ·intro u é;rw[é,dV] at e;refine az (av (L.getD z []) (push u.1 u.2)) ?_ ?_
       ·intro I;rw[I] at e;injection e
       ·intro w I;rw[I] at e;clear a;injection e with e;subst e;exact dead Z
 | gr l=>
  change ((pop (-1) f).bind λp=>(av (L.getD l []) p.2).map λq=>push (L.getD l []) q.2)=O f' at e;clear dead;refine az (pop (-1) f) ?_ ?_
  ·intro q;rw[q] at e;injection e
  ·intro p q;obtain⟨v,p⟩:=p;rw[q,dV] at e;refine az (av (L.getD l []) p) ?_ ?_
   ·intro j;rw[j] at e;injection e
   ·intro r j;rw[j] at e;clear a;injection e with e;subst e
    refine aq (wz q) λA D=>aq (pb j) λH è=>aq (pg (L.getD l []) r.2) λpl E=>?_;show h.map (·+-1)=_;refine ah C (ah E (ah H (ah A ?_)));clear C;refine gz f.dead ?_ ?_;rotate_left
    ·intro hd;rfl
    ·intro hd;cases b with
     | true=>rfl
     | false=>
      haveI F:=D hd;haveI à:=è (A.trans hd);simp only[xf,ia,kc,gL,pl];congr 1;exact Z7 F à
 | drop=>
  have e:(aw f).map (λp=>p.2)=O f':=e;refine az (aw f) ?_ ?_
  ·intro q;rw[q] at e;injection e
  ·intro p q;obtain⟨v,p⟩:=p;rw[q] at e;clear dead a;injection e with e;subst e
   refine aq (jm q) λA D=>?_;show h.map (·+-1)=_;refine ah C (ah A ?_);refine gz f.dead ?_ ?_;rotate_left
   ·intro hd;rfl
   ·intro hd;cases b with
    | true=>rfl
    | false=>
     haveI F:=D hd;simp only[xf,ia,kc,gL];congr 1;exact Z9 F
 | sel=>
  change ((pop (-1) f).bind λp=>(aw p.2).bind λq=>(aw q.2).bind λr=>if(!(isNum q.1||q.1==0)||!(isNum r.1||r.1==0))=X then Q
   else if q.1≠r.1/\q.1≠0/\r.1≠0 then Q else O (push [if q.1=0 then r.1 else q.1] r.2))=O f' at e
  clear dead;refine az (pop (-1) f) ?_ ?_
  ·intro q;rw[q] at e;injection e
  ·intro p q;rw[q,dV] at e;refine az (aw p.2) ?_ ?_
   ·intro j;rw[j] at e;injection e
   ·intro r j;rw[j,dV] at e;refine az (aw r.2) ?_ ?_
    ·intro é;rw[é] at e;injection e
    ·intro u é;rw[é,dV] at e
     revert e;refine aJ ?_ ?_<;>intro G e
     ·injection e
     ·revert e;refine aJ ?_ ?_<;>intro G e
      ·injection e
      ·clear a;injection e with e;subst e
       refine aq (wz (g:=p.2) (v:=p.1) q) λA D=>aq (jm (g:=r.2) (v:=r.1) j) λH è=>aq (jm (g:=u.2) (v:=u.1) é) λù K=>aq (pg [if r.1=0 then u.1 else r.1] u.2) λpl E=>?_;show h.map (·+-2)=_;refine ah C (ah E (ah ù (ah H (ah A ?_))));refine gz f.dead ?_ ?_;rotate_left
       ·intro hd;rfl
       ·intro hd;clear C;cases b with
        | true=>rfl
        | false=>
         haveI F:=D hd;simp only[xf,ia,kc,gL,pl,o4];congr 1;exact aad F (è (A.trans hd)) (K (H.trans (A.trans hd)))
 | dK=>
  change ((aw f).bind λp=>if(isRef p.1||p.1==0)=X then O (push [-1] p.2) else Q)=O f' at e;refine az (aw f) ?_ ?_
  ·intro q;rw[q] at e;injection e
  ·intro p q;rw[q,dV] at e
   revert e;refine aJ ?_ ?_<;>intro G e
   ·clear dead a;injection e with e;subst e
    refine aq (jm (g:=p.2) (v:=p.1) q) λA D=>aq (pg [-1] p.2) λpl E=>?_;show h.map (·+0)=_;refine ah C (ah E (ah A ?_));refine gz f.dead ?_ ?_;rotate_left
    ·intro hd;rfl
    ·intro hd;cases b with
     | true=>rfl
     | false=>
      simp only[xf,ia,kc,gL,pl,o4];congr 1;exact aaf (D hd)
   ·injection e
 | mZ k=>exact a _ _ Z Z Z
 | xx m=>exact a _ _ Z Z Z
 | xA m=>exact a _ _ Z Z Z
 | j7 k=>exact a _ _ Z Z Z
 | mI=>exact a _ _ Z Z Z
 | mJ=>exact a _ _ Z Z Z
 | mK=>exact a _ _ Z Z Z
 | lX i=>exact a _ _ Z Z Z
 | lY i=>exact a _ _ Z Z Z
 | lZ i=>exact a _ _ Z Z Z
 | sQ=>exact a _ _ Z Z Z
def VI(h:close g f=X):w1:=fo
theorem EZ{L:J T}:∀{is:J I}{Y:J FF}{W:J HF}{h:aI T},HI W Y->h=note Y->Y≠[]->run L is Y=O []->sT L is Y=ng L is (W,h)
 | [],Y,W,h,hi,hn,ne,hr=>rfl
 | i::is,[],W,h,hi,hn,ne,hr=>absurd Z ne
 | i::is,x::Y,[],h,hi,hn,ne,hr=>hi.elim
 | i::is,x::Y,(b,m,n)::W,h,hi,hn,ne,hr=>by
  dsimp only[fS,dU] at hr;clear ne;refine az (bJ L i (x::Y)) ?_ ?_
  ·intro e;rw[e] at hr;injection hr
  ·intro à e;rw[e] at hr;simp only[T4,JI,OF,OG,e,hn];congr 1;refine kF hi λhb s r j kr=>?_;clear hi;haveI ù:à≠[]->∃w h',fT L i ((b,m,n)::W,note (x::Y))=(w,h')/\HI w à/\h'=note à:=by
    intro é;clear hr hn;cases i with
    | op o=>
     dsimp only[bJ] at e;refine az (ek L (bo (x::Y)) o x.f) ?_ ?_
     ·intro q;rw[q] at e;injection e
     ·intro E q;rw[q] at e;clear é;injection e with e;subst e
      exact bx ((b,m,n)::W) _ Z ⟨hb,s,r,j,kr⟩ (OH (hs:=(b,m,n)::W) (c:=sS Y) (b:=x.d7) q (by rfl))
    | bZ c k=>
     dsimp only[bJ] at e;refine az (av (if c=4 then -1::tk k else tk k) x.f) ?_ ?_
     ·intro q;rw[q] at e;injection e
     ·intro p q;rw[q] at e;clear é;injection e with e;subst e
      refine aq (pb (g:=p.2) (l:=p.1) q) λd l=>?_;haveI lt:(tk k).length=(arrow k).1.length:=eb ..;haveI D:(gv k).length=(arrow k).2.length:=eb ..;haveI è:(note (x::Y)).map (λh=>h - ((arrow k).1.length:T) - (if c=4 then 1 else 0))=if(p.2.dead||x.d7)=X then Q else O (sS ({x with f:=p.2}::Y)):=by
       simp only[note,d];refine gz x.f.dead ?_ ?_;rotate_left
       ·intro hd;rfl
       ·intro hd;refine gz x.d7 ?_ ?_;rotate_left
        ·intro u;rfl
        ·intro u;have:=l hd;simp only[xf,ia,kc,gL,ve,vg];congr 1;by_cases h4:c=4
         ·rw[dE h4] at this ⊢;rw[ff,lt] at this;exact Z6 this
         ·rw[dm h4] at this ⊢;rw[lt] at this;exact Z8 this
      refine bx _ _ Z ⟨è,by exact ah lt Z,by simp only[D],Z,hb,s,r,j,kr⟩ ?_;show((note (x::Y)).map (λh=>h - ((arrow k).1.length:T) - (if c=4 then 1 else 0))).map (λb=>b+((arrow k).1.length:T))=note (_::{x with f:=p.2}::Y);refine ah è ?_;dsimp only[note];refine gz (p.2.dead||x.d7) ?_ ?_;rotate_left
      ·intro v;simp
      ·intro v;simp only[ia,kc,gL,xf,ve,vg,lt];congr 1;exact aaa
    | cE=>
     dsimp only[bJ] at e
     revert e;refine aJ ?_ ?_<;>intro â e
     ·clear é;injection e with e;subst e
      refine bx ((b,m,n)::W) _ Z ⟨hb,s,r,j,kr⟩ ?_;show b.map (·+m)=note (_::Y);refine ah hb ?_;dsimp only[note,N3];cases x.d7 with| true=>rfl| false=>simp only[ia,kc,gL,ve,vg,s];congr 1;exact aac
     ·try clear è;try clear f
      injection e
    | fin=>
     dsimp only[bJ] at e
     revert e;refine aJ ?_ ?_<;>intro â e
     ·cases Y with
      | nil=>injection e with e;subst e;exact hQ Z é
      | cons y Y=>
       clear é;injection e with e;subst e
       cases W with
       | nil=>exact kr.elim
       | cons k W=>
        obtain⟨b2,z,C⟩:=k;refine bx ((b2,z,C)::W) _ Z kr ?_;show b.map (·+n)=note ({y with f:=push x.g y.f}::Y);refine ah hb ?_;refine ah j ?_;show _=(if(y.f.dead||y.d7)=X then Q else O (((x.g++y.f.vals).length:T)+sS Y));by_cases t:(y.f.dead||y.d7)=X
        ·rw[dE t,dE t];rfl
        ·rw[dm t,dm t];simp only[gL,ve,vg,r,a9];congr 1;exact aae
     ·injection e
   refine DV à ?_ ?_
   ·intro a;clear e ù;subst a;cases is with| nil=>rfl| cons i2 is=>simp[fS,dU,bJ] at hr
   ·intro y A a;refine bV (ù (by refine ah a ?_;simp)) λw h' k1 k2 k3=>?_;simp only[k1,<-a];exact EZ k2 k3 (by refine ah a ?_;simp) hr
end Internal.P
end
noncomputable section
namespace Internal
open PySem
section
variable{e g:Type}{a:e}{H:Hp}{w:a7}{p q:T}{κ:e->Hp->V1 g}
theorem bB:(V1.ok a H).bind κ=κ a H:=rfl
theorem abB:(V1.bH w p q).bind κ=.bH w p q:=rfl
theorem aB:opt (O a) H=.ok a H:=rfl
end
section
variable (G:a7->aI AV)(C:CS)(k:S)
noncomputable def mO (f:a7)(o:AV)(H:Hp):V1 AV:=match o with
  | .obj n=>match H[n]? with
   | some (.inst _ Y)=>opt (Y.lookup f) H
   | _=>.bad
  | .exc w e g=>if f="why" then .ok (.str w) H else if f="function" then .ok (.int e) H else if f="at" then .ok (.int g) H else .bad
  | _=>.bad
noncomputable def Dr (o:AV)(H:Hp):V1 AV:=match o with
  | .int i=>.ok (.int (-i)) H
  | _=>.bad
def gy (op:oR)(x y:AV)(H:Hp):V1 AV:=opt (cK op x y) H
def gS (op:oR)(b:ME)(ρ:Loc)(x:AV)(H:Hp):V1 AV:=(ev G C k b ρ H).bind (gy op x)
noncomputable def me (r:aS)(H:Hp):V1 AV:=.ok (.bool r) H
def dJ (op:Gm)(x y:AV)(H:Hp):V1 AV:=(opt (bf H op x y) H).bind me
def eD (op:Gm)(b:ME)(ρ:Loc)(x:AV)(H:Hp):V1 AV:=(ev G C k b ρ H).bind (dJ op x)
def He (e:Gm)(c:ME)(ρ:Loc)(y:AV)(r:aS)(H:Hp):V1 AV:=if r then(ev G C k c ρ H).bind (dJ e y) else .ok (.bool aN) H
def Hg (op e:Gm)(c:ME)(ρ:Loc)(x y:AV)(H:Hp):V1 AV:=(opt (bf H op x y) H).bind (He G C k e c ρ y)
def Hh (op e:Gm)(b c:ME)(ρ:Loc)(x:AV)(H:Hp):V1 AV:=(ev G C k b ρ H).bind (Hg G C k op e c ρ x)
noncomputable def Hi (x:AV)(H:Hp):V1 AV:=match x with
  | .int i=>.ok (.bool (eo (i=-1\/i=-2\/i=-16\/i=-17))) H
  | _=>.bad
noncomputable def zw (x:AV)(H:Hp):V1 AV:=match x with
  | .bool b=>.ok (.bool (!b)) H
  | _=>.bad
def OI (e:J ME)(ρ:Loc)(x:AV)(H:Hp):V1 AV:=match x with
  | .bool X=>cX G C k e ρ H
  | .bool aN=>.ok (.bool aN) H
  | _=>.bad
def VJ (e:J ME)(ρ:Loc)(x:AV)(H:Hp):V1 AV:=match x with
  | .bool aN=>iy G C k e ρ H
  | .bool X=>.ok (.bool X) H
  | _=>.bad
def wA (a b:ME)(ρ:Loc)(x:AV)(H:Hp):V1 AV:=match x with
  | .bool X=>ev G C k a ρ H
  | .bool aN=>ev G C k b ρ H
  | _=>.bad
def nh (l:J AV)(H:Hp):V1 AV:=if l.length<=aZ then .ok (.tup l) H else .bad
noncomputable def JJ (e:J T)(l:J AV)(x:AV)(H:Hp):V1 AV:=match x with
  | .int i=>opt (dictAt e l i) H
  | _=>.bad
def VK (e:J T)(i:ME)(ρ:Loc)(l:J AV)(H:Hp):V1 AV:=(ev G C k i ρ H).bind (JJ e l)
def fU (x y:AV)(H:Hp):V1 AV:=opt (di H x y) H
def fV (i:ME)(ρ:Loc)(x:AV)(H:Hp):V1 AV:=(ev G C k i ρ H).bind (fU x)
def vj (x:AV)(H:Hp):V1 AV:=match x with
  | .tup l=>if 1<=l.length/\l.length<=aZ then .ok (.tup (l.drop 1)) H else .bad
  | _=>.bad
def Ds (x y:AV)(H:Hp):V1 AV:=match x,y with
  | .lst l,.int n=>if 0<=n/\l.length<=aZ then .ok (.lst (l.take n.toNat)) H else .bad
  | _,_=>.bad
def Hj (hi:ME)(ρ:Loc)(x:AV)(H:Hp):V1 AV:=(ev G C k hi ρ H).bind (Ds x)
noncomputable def OJ (c f:a7)(l:J AV)(H:Hp):V1 AV:=match C f (.obj H.length::l) (H++[.inst c []]) with
  | .ok .none e=>.ok (.obj H.length) e
  | _=>.bad
noncomputable def zx (f:a7)(n:S)(l:J AV)(H:Hp):V1 AV:=C f (.obj n::l) H
def BO (c m f:a7)(args:J ME)(ρ:Loc)(x:AV)(H:Hp):V1 AV:=match x with
  | .obj n=>match H[n]? with
   | some (.inst e Y)=>if e=c/\Y.lookup m=Q then(ct G C k args ρ H).bind (zx C f n) else .bad
   | _=>.bad
  | _=>.bad
def ph (n:S)(m:a7)(l:J AV)(H:Hp):V1 AV:=cW (eg H (.obj n) m l)
def sU (m:a7)(args:J ME)(ρ:Loc)(x:AV)(H:Hp):V1 AV:=match x with
  | .obj n=>match H[n]? with
   | some (.list _)=>(ct G C k args ρ H).bind (ph n m)
   | _=>.bad
  | _=>.bad
def zy (f:a7)(l:J AV)(H:Hp):V1 AV:=opt (gC H f l) H
noncomputable def wB (x:AV)(H:Hp):V1 AV:=cW (nA H x)
noncomputable def dI (x:AV)(l:J AV)(H:Hp):V1 (J AV):=.ok (x::l) H
def dB (e:J ME)(ρ:Loc)(x:AV)(H:Hp):V1 (J AV):=(ct G C k e ρ H).bind (dI x)
noncomputable def Hk (r:AV)(H:Hp):V1 (aI AV):=.ok (O r) H
def Dt (e:ME)(ρ:Loc)(b:AV)(H:Hp):V1 (aI AV):=match b with
    | .bool X=>(ev G C k e ρ H).bind Hk
    | .bool aN=>.ok Q H
    | _=>.bad
def pj (e:ME)(x:a7)(cond:J ME)(ρ:Loc)(v:AV)(H:Hp):V1 (aI AV):=(cX G C k cond ((x,v)::ρ) H).bind (Dt G C k e ((x,v)::ρ))
noncomputable def Du (e:aS)(n:S)(_:Unit)(g:Hp):V1 AV:=gP e n g
def Dv (g:aS)(e:ME)(x:a7)(cond:J ME)(ρ:Loc)(l:J AV)(H:Hp):V1 AV:=
 (compLoop (pj G C k e x cond ρ) H.length l (H++[.list []])).bind (Du g H.length)
def Dw (g:aS)(e:ME)(x:a7)(cond:J ME)(ρ:Loc)(s:AV)(H:Hp):V1 AV:=(opt (frozen s) H).bind (Dv G C k g e x cond ρ)
variable{G C k}{ρ:Loc}{H:Hp}
theorem cb:ev G C k (.lit v) ρ H=.ok v H:=rfl
theorem aM:ev G C k (.loc x) ρ H=opt (ρ.lookup x) H:=rfl
def ab5:ev G C k (.glob x) ρ H=opt (G x) H:=Z
theorem wC:ev G C k (.attr e f) ρ H=(ev G C k e ρ H).bind (mO f):=rfl
def aeu:ev G C k (.neg e) ρ H=(ev G C k e ρ H).bind Dr:=Z
theorem d0:ev G C k (.bin op a b) ρ H=(ev G C k a ρ H).bind (gS G C k op b ρ):=rfl
theorem cZ:ev G C k (.cmp a op b) ρ H=(ev G C k a ρ H).bind (eD G C k op b ρ):=rfl
theorem BP:ev G C k (.ef a op b e c) ρ H=(ev G C k a ρ H).bind (Hh G C k op e b c ρ):=rfl
theorem Dx:ev G C k (.fj e) ρ H=(ev G C k e ρ H).bind Hi:=rfl
theorem zA:ev G C k (.not e) ρ H=(ev G C k e ρ H).bind zw:=rfl
theorem zB:ev G C k (.and e) ρ H=cX G C k e ρ H:=rfl
theorem T6:ev G C k (.or e) ρ H=iy G C k e ρ H:=rfl
theorem and_nil:cX G C k [] ρ H=.ok (.bool X) H:=rfl
theorem and_cons:cX G C k (e::g) ρ H=(ev G C k e ρ H).bind (OI G C k g ρ):=rfl
def or_nil:iy G C k [] ρ H=.ok (.bool aN) H:=Z
theorem or_cons:iy G C k (e::g) ρ H=(ev G C k e ρ H).bind (VJ G C k g ρ):=rfl
theorem gd:ev G C k (.ite t a b) ρ H=(ev G C k t ρ H).bind (wA G C k a b ρ):=rfl
theorem jn:ev G C k (.tup e) ρ H=(ct G C k e ρ H).bind nh:=rfl
theorem jR:ev G C k (.list e g) ρ H=(ct G C k g ρ H).bind (eH e):=rfl
def ab6:ev G C k (.kG e vs i) ρ H=(ct G C k vs ρ H).bind (VK G C k e i ρ):=Z
theorem cg:ev G C k (.sub a i) ρ H=(ev G C k a ρ H).bind (fV G C k i ρ):=rfl
def abC:ev G C k (.ik a) ρ H=(ev G C k a ρ H).bind vj:=Z
theorem KV:ev G C k (.hR a h) ρ H=(ev G C k a ρ H).bind (Hj G C k h ρ):=rfl
theorem fE:ev G C k (.call f args) ρ H=(ct G C k args ρ H).bind (C f):=rfl
def aev:ev G C k (.new c f args) ρ H=(ct G C k args ρ H).bind (OJ C c f):=Z
theorem wD:ev G C k (.ix o c m f args) ρ H=(ev G C k o ρ H).bind (BO G C k c m f args ρ):=rfl
theorem Hl:ev G C k (.il c m f args) ρ H=(ct G C k args ρ H).bind (C f):=rfl
theorem iE:ev G C k (.aK o m args) ρ H=(ev G C k o ρ H).bind (sU G C k m args ρ):=rfl
theorem vk:ev G C k (.bi f args) ρ H=(ct G C k args ρ H).bind (zy f):=rfl
theorem tN{cond:J ME}:ev G C (k+1) (.comp g e x iter cond) ρ H=(ev G C (k+1) iter ρ H).bind (Dw G C k g e x cond ρ):=rfl
theorem xN:ev G C k (.freeze e) ρ H=(ev G C k e ρ H).bind wB:=rfl
theorem b6:ct G C k [] ρ H=.ok [] H:=rfl
theorem bu:ct G C k (e::g) ρ H=(ev G C k e ρ H).bind (dB G C k g ρ):=rfl
end
section
variable (G:a7->aI AV)(C:CS)(k:S)
noncomputable def kX (ρ:Loc)(_:AV)(H:Hp):V1 (Fl×Loc):=.ok (.next,ρ) H
noncomputable def tO (ρ:Loc)(v:AV)(H:Hp):V1 (Fl×Loc):=.ok (.ret v,ρ) H
noncomputable def Dy (x:a7)(ρ:Loc)(v:AV)(H:Hp):V1 (Fl×Loc):=.ok (.next,put x v ρ) H
noncomputable def wF (f:a7)(ρ:Loc)(v x:AV)(H:Hp):V1 (Fl×Loc):=match x with
  | .obj n=>match H[n]? with
   | some (.inst c Y)=>if Y.length<100 then .ok (.next,ρ) (H.set n (.inst c (put f v Y))) else .bad
   | _=>.bad
  | _=>.bad
def OK (o:ME)(f:a7)(ρ:Loc)(v:AV)(H:Hp):V1 (Fl×Loc):=(ev G C k o ρ H).bind (wF f ρ v)
noncomputable def zC (ρ:Loc)(v x y:AV)(H:Hp):V1 (Fl×Loc):=match x,y with
  | .obj n,.int i=>match H[n]? with
   | some (.list l)=>
    if 0<=i/\i<l.length then .ok (.next,ρ) (H.set n (.list (l.set i.toNat v)))
    else if i<0/\0<=i+l.length then .ok (.next,ρ) (H.set n (.list (l.set (i+l.length).toNat v)))
    else .bad
   | _=>.bad
  | _,_=>.bad
def Hm (i:ME)(ρ:Loc)(v x:AV)(H:Hp):V1 (Fl×Loc):=(ev G C k i ρ H).bind (zC ρ v x)
def Hn (o i:ME)(ρ:Loc)(v:AV)(H:Hp):V1 (Fl×Loc):=(ev G C k o ρ H).bind (Hm G C k i ρ v)
noncomputable def OL (g:J a7)(ρ:Loc)(v:AV)(H:Hp):V1 (Fl×Loc):=match eS (.many g) v ρ with
  | some e=>.ok (.next,e) H
  | none=>.bad
noncomputable def abD (x:a7)(ρ:Loc)(r:AV)(H:Hp):V1 (Fl×Loc):=.ok (.next,put x r ρ) H
def Ho (x:a7)(op:oR)(ρ:Loc)(a b:AV)(H:Hp):V1 (Fl×Loc):=match a,b with
  | .int i,.int j=>(opt (cK op (.int i) (.int j)) H).bind (abD x ρ)
  | _,_=>.bad
def OM (x:a7)(op:oR)(e:ME)(ρ:Loc)(a:AV)(H:Hp):V1 (Fl×Loc):=(ev G C k e ρ H).bind (Ho x op ρ a)
def xO (a b:J MS)(ρ:Loc)(x:AV)(H:Hp):V1 (Fl×Loc):=match x with
  | .bool X=>execs G C k a ρ H
  | .bool aN=>execs G C k b ρ H
  | _=>.bad
def c0 (e:J MS)(x:pF)(l:J AV)(ρ:Loc)(H:Hp):V1 (Fl×Loc):=forLoop (λρ H=>execs G C k e ρ H) x l ρ H
def kFor (e:J MS)(x:pF)(ρ:Loc)(l:J AV)(H:Hp):V1 (Fl×Loc):=c0 G C k e x l ρ H
def pk (t:ME)(e:J MS)(n:S)(ρ:Loc)(H:Hp):V1 (Fl×Loc):=whileLoop (λρ H=>ev G C k t ρ H) (λρ H=>execs G C k e ρ H) n ρ H
def cL (g:J MS)(p:Fl×Loc)(H:Hp):V1 (Fl×Loc):=match p with
  | (.next,e)=>execs G C k g e H
  | (.ret v,e)=>.ok (.ret v,e) H
noncomputable def bM (p:Fl×Loc)(H:Hp):V1 AV:=match p with
      | (.ret v,_)=>.ok v H
      | (.next,_)=>.ok .none H
def mP (e:J MS)(x:pF)(vs:J AV)(p:Fl×Loc)(H:Hp):V1 (Fl×Loc):=match p with
   | (.next,g)=>c0 G C k e x vs g H
   | (.ret r,g)=>.ok (.ret r,g) H
def Dz (x:AV)(H:Hp):V1 (J AV):=opt (frozen x) H
def zE (l:J AV)(H:Hp):V1 (J AV):=opt (mx l) H
def Hq (x:AV)(H:Hp):V1 (J AV):=opt ((dR x).map kS) H
def zF (x:AV)(H:Hp):V1 (J AV):=opt ((dR x).map Oh) H
def VL (t:ME)(b:J MS)(n:S)(p:Fl×Loc)(H:Hp):V1 (Fl×Loc):=match p with
   | (.next,e)=>pk G C k t b n e H
   | (.ret r,e)=>.ok (.ret r,e) H
def ON (t:ME)(b:J MS)(n:S)(ρ:Loc)(x:AV)(H:Hp):V1 (Fl×Loc):=match x with
  | .bool X=>(execs G C k b ρ H).bind (VL G C k t b n)
  | .bool aN=>.ok (.next,ρ) H
  | _=>.bad
variable{G C k}{ρ:Loc}{H:Hp}
def abE:pk G C k t b (n+1) ρ H=(ev G C k t ρ H).bind (ON G C k t b n ρ):=Z
theorem gT:aA G C k (.expr e) ρ H=(ev G C k e ρ H).bind (kX ρ):=rfl
theorem q9:aA G C k (.ret e) ρ H=(ev G C k e ρ H).bind (tO ρ):=rfl
theorem rd:aA G C k (.asg x e) ρ H=(ev G C k e ρ H).bind (Dy x ρ):=rfl
def KW:aA G C k (.cH o f e) ρ H=(ev G C k e ρ H).bind (OK G C k o f ρ):=Z
theorem KY:aA G C k (.gp o i e) ρ H=(ev G C k e ρ H).bind (Hn G C k o i ρ):=rfl
theorem wG:aA G C k (.cC g e) ρ H=(ev G C k e ρ H).bind (OL g ρ):=rfl
theorem OO:aA G C k (.aug x op e) ρ H=(opt (ρ.lookup x) H).bind (OM G C k x op e ρ):=rfl
theorem de:aA G C k (.iff t a b) ρ H=(ev G C k t ρ H).bind (xO G C k a b ρ):=rfl
def aew:aA G C (k+1) (.mv t b) ρ H=pk G C k t b WF ρ H:=Z
theorem rg:aA G C (k+1) (.cJ x e b) ρ H=(ue G C (k+1) e ρ H).bind (kFor G C k b x ρ):=rfl
theorem fF:execs G C k [] ρ H=.ok (.next,ρ) H:=rfl
theorem bc:execs G C k (s::ss) ρ H=(aA G C k s ρ H).bind (cL G C k ss):=rfl
theorem BQ:ue G C k (.seq e) ρ H=(ev G C k e ρ H).bind Dz:=rfl
theorem rh:ue G C k (.range e) ρ H=(ct G C k e ρ H).bind zE:=rfl
theorem Hr:ue G C k (.enum e) ρ H=(ev G C k e ρ H).bind Hq:=rfl
theorem wH:ue G C k (.rev e) ρ H=(ev G C k e ρ H).bind zF:=rfl
theorem bA:cK .Add (.int a) (.int b)=O (.int (a+b)):=rfl
theorem bS:cK .Sub (.int a) (.int b)=O (.int (a - b)):=rfl
theorem bP:cK .Add (.tup a) (.tup b)=(if(a++b).length<=aZ then O (a++b) else Q).map .tup:=rfl
theorem bL:cK .Add (.lst a) (.lst b)=(if(a++b).length<=aZ then O (a++b) else Q).map .lst:=rfl
theorem bF:cK .FloorDiv (.int a) (.int b)=if 0<b then O (.int (a / b)) else Q:=rfl
theorem bO:cK .Mod (.int a) (.int b)=if 0<b then O (.int (a % b)) else Q:=rfl
theorem bU:cK .Mult (.lst [a]) (.int n)=if 0<=n/\n<=aZ then O (.lst (g5 n.toNat a)) else Q:=rfl
theorem bT:cK .Mult (.int 7) (.int b)=O (.int (7*b)):=rfl
def wI:c0 G C k b x [] ρ H=.ok (.next,ρ) H:=Z
def fW(h:eS x v ρ=O e):c0 G C k b x (v::vs) ρ H=(execs G C k b e H).bind (mP G C k b x vs):=by
 show(match eS x v ρ with | none=>V1.bad | some g=>(execs G C k b g H).bind (mP G C k b x vs))=_;exact h▸Z
end
def vn(h:eS x v g=O ρ')(e:execs G C k b ρ' H=.ok (.next,i) j):c0 G C k b x (v::vs) g H=c0 G C k b x vs i j:=(fW h).trans (cx (·.bind (mP G C k b x vs)) e)
def OP(h:eS x v i=O g)(e:execs G C k b g H=.bH w p q):c0 G C k b x (v::vs) i H=.bH w p q:=(fW h).trans (cx (·.bind (mP G C k b x vs)) e)
def vq(h:eS x v i=O g)(e:execs G C k b g H=.ok (.ret u,j) m):c0 G C k b x (v::vs) i H=.ok (.ret u,j) m:=(fW h).trans (cx (·.bind (mP G C k b x vs)) e)
def E0(h:ev G C k t e H=.ok (.bool aN) g):pk G C k t b (n+1) e H=.ok (.next,e) g:=(cx (·.bind (ON G C k t b n e)) h:_)
def BU(h:ev G C k t g H=.ok (.bool X) H')(e:execs G C k b g H'=.ok (.next,i) j):pk G C k t b (n+1) g H=pk G C k t b n i j:=(cx (·.bind (ON G C k t b n g)) h:_).trans (cx (·.bind (VL G C k t b n)) e)
def mf{x:V1 e}(h:x=.ok a H):x.bind κ=κ a H:=by rw[h];rfl
def OQ{x:V1 e}(h:x=.bH w p q):x.bind g=.bH w p q:=by rw[h];rfl
def aU(h:aA G C k a e H=.ok (.next,ρ1) H1):execs G C k (a::g) e H=execs G C k g ρ1 H1:=bc.trans (mf h)
def yq [r4 p](h:ev G C k t e H=.ok (.bool (eo p)) H):(execs G C k (.iff t A []::g) e H).bind i=if p then((execs G C k A e H).bind (cL G C k g)).bind i else(execs G C k g e H).bind i:=by
 refine(cx (·.bind i) (bc.trans (cx (·.bind (cL G C k g)) (de.trans (mf h))))).trans ?_;by_cases q:p
 ·rw[dE q,cB q];rfl
 ·rw[dm q,a0 q];rfl
def DA [r4 p](h:a=e)(g:b=i):(if p then a else b)=if p then e else i:=h▸g▸Z
def T7{z:V1 AV}:(((z.bind (tO e)).bind (cL G C k [])).bind (cL G C k g)).bind bM=z:=by cases z<;>rfl
set_option tactic.hygienic true in
def fG:∀{ρ:Loc}{H:Hp},execs G C k a ρ H=.ok (.next,ρ1) H1->execs G C k (a++b) ρ H=execs G C k b ρ1 H1:=by
 induction a with
 | nil=>intro ρ H h;cases h;rfl
 | cons s a e=>
  intro ρ H h;haveI h:(aA G C k s ρ H).bind (cL G C k a)=_:=h;refine(bc (ss:=a++b)).trans ?_
  revert h
  generalize aA G C k s ρ H=z;intro h;cases z with
  | ok p i=>
   obtain⟨f,c⟩:=p;cases f with
   | next=>exact e h
   | _=>cases h
  | _=>injection h
def aY(h:PP f=O D)(U:decide (f="StackCheck.fail")=aN)(V:D.params.length=args.length):ae GG PP (d+1) f args H=(execs GG (ae GG PP d) cu D.body (D.params.zip args) H).bind bM:=by
 refine(dm (qe U):ae GG PP (d+1) f args H=(match PP f with | none=>V1.bad | some D=>if D.params.length=args.length then(execs GG (ae GG PP d) cu D.body (D.params.zip args) H).bind bM else .bad)).trans ?_;exact ah h (dE V)
noncomputable section
inductive Fact where
 | o (x a:aI AO) | r (x a:V1 AV) | b (x a:aI aS) | v (x a:aI AV) | l (x a:V1 (Fl×Loc)) | t (x a:aS) | f (x a:aI (J AV)) | d
noncomputable def Fact.ok (f:Fact):Prop:=Fact.rec (λx a=>x=a) (λx a=>x=a) (λx a=>x=a) (λx a=>x=a) (λx a=>x=a) (λx a=>x=a) (λx a=>x=a) w1 f
def Facts (F:J Fact):Prop:=xq w1 (λf _ q=>f.ok/\q) F
section
variable{F:J Fact}
def Facts.nil:Facts []:=fo
theorem Facts.o(h:x=a)(t:Facts F):Facts (.o x a::F):=⟨h,t⟩
theorem Facts.r(h:x=a)(t:Facts F):Facts (.r x a::F):=⟨h,t⟩
theorem Facts.b(h:x=a)(t:Facts F):Facts (.b x a::F):=⟨h,t⟩
theorem Facts.v(h:x=a)(t:Facts F):Facts (.v x a::F):=⟨h,t⟩
theorem Facts.l(h:x=a)(t:Facts F):Facts (.l x a::F):=⟨h,t⟩
theorem Facts.f(h:x=a)(t:Facts F):Facts (.f x a::F):=⟨h,t⟩
theorem Facts.t(h:x=a)(t:Facts F):Facts (.t x a::F):=⟨h,t⟩
theorem Facts.c(h:x=a)(t:Facts F):Facts (.b (O x) (O a)::F):=⟨cx O h,t⟩
theorem Facts.d(t:Facts F):Facts (.d::F):=⟨fo,t⟩
end
section
variable{i j y:Type}
noncomputable def QM (i j:Type):=(j->J Fact->aI (i×J Fact))->J Fact->aI (i×J Fact)
noncomputable def yr (f:Fact)(r:aI (i×J Fact)):aI (i×J Fact):=Oc Q (λp=>O (p.1,f::p.2)) r
def ask (p:j->j->Fact)(q:Fact->aI j)(x:j):QM i j:=λk F=>match F with
 | f::F=>match f with
  | .d=>yr .d (k x F)
  | f=>match q f with
   | some a=>yr (p x a) (k a F)
   | none=>Q
 | []=>Q
def rk (x:aI AO):QM i (aI AO):=ask .o (λf=>match f with | .o _ a=>O a | _=>Q) x
def d4 (x:V1 AV):QM i (V1 AV):=ask .r (λf=>match f with | .r _ a=>O a | _=>Q) x
def tP (x:aI aS):QM i (aI aS):=ask .b (λf=>match f with | .b _ a=>O a | _=>Q) x
def jo (x:aI AV):QM i (aI AV):=ask .v (λf=>match f with | .v _ a=>O a | _=>Q) x
def hV (x:V1 (Fl×Loc)):QM i (V1 (Fl×Loc)):=ask .l (λf=>match f with | .l _ a=>O a | _=>Q) x
def ni (x:aI (J AV)):QM i (aI (J AV)):=ask .f (λf=>match f with | .f _ a=>O a | _=>Q) x
def rn (x:aS):QM i aS:=ask .t (λf=>match f with | .t _ a=>O a | _=>Q) x
@[irreducible] def QM.pure (x:j):QM i j:=λk=>k x
@[irreducible] def bindM (m:QM i j)(f:j->QM i y):QM i y:=λk=>m λv=>f v k
@[irreducible] def bindR (m:QM i (V1 j))(f:j->Hp->QM i (V1 y)):QM i (V1 y):=λk=>m λr=>match r with
 | .ok a H=>f a H k
 | .bH w p q=>k (.bH w p q)
 | .bad=>k .bad
def Sound (i:Type)(m:QM i j)(v:j):Prop:=∀k F r h,m k F=O (r,h)->Facts h->∃g e,k v g=O (r,e)/\Facts e
theorem Sound.pure:Sound i (QM.pure v) v:=by delta QM.pure;exact λa F a e h g=>⟨F,e,h,g⟩
theorem Sound.bind(h:Sound i m v)(g:Sound i (f v) w):Sound i (bindM m f) w:=by
 delta bindM;intro k F r q e t;exact bG (h _ F r q e t) λp a e t=>g k p r a e t
theorem Sound.bindR{m:QM i (V1 j)}{v:V1 j}{f:j->Hp->QM i (V1 y)}{g:j->Hp->V1 y}(h:Sound i m v)(s:∀a H,Sound i (f a H) (g a H)):Sound i (bindR m f) (v.bind g):=by
 delta Internal.bindR;intro k F r z e t;refine bG (h _ F r z e t) λx b e t=>?_;cases v with| ok a H=>exact s a H k x r b e t| bH w p q=>exact ew x b e t| bad=>exact ew x b e t
def zG(h:yr f x=O (r,g)):∃e,g=f::e/\x=O (r,e):=by
 cases x with
 | none=>injection h
 | some p=>
  haveI e1:p.1=r:=cx u1.fst (gf h);exact ay p.2 ((cx u1.snd (gf h)).symm) (e1▸Z)
def KZ{p:j->j->Fact}(hp:∀a,(p x a).ok->x=a){k:j->J Fact->aI (i×J Fact)}{F:J Fact}(e:(match o with | some a=>yr (p x a) (k a F) | none=>Q)=O (r,h))(t:Facts h):∃g b,k x g=O (r,b)/\Facts b:=by
 cases o with
 | none=>injection e
 | some a=>
  refine ak (zG e) λb c=>?_;clear e;subst c;intro e;exact ew F b ((hp a t.1).symm▸e) t.2
theorem Sound.ask(hp:∀a,(p x a).ok->x=a):Sound i (Internal.ask p q x) x:=λk F r g e t=>by
 cases F with
 | nil=>injection e
 | cons f F=>
  cases f with
  | d=>
   refine ak (zG (f:=.d) e) λb c=>?_;clear e;subst c;intro e;exact ew F b e t.2
  | _=>
   exact KZ hp e t
theorem Sound.rk:Sound i (Internal.rk x) x:=.ask λa h=>h
theorem Sound.d4:Sound i (Internal.d4 x) x:=.ask λa h=>h
theorem Sound.tP:Sound i (Internal.tP x) x:=.ask λa h=>h
theorem Sound.jo:Sound i (Internal.jo x) x:=.ask λa h=>h
theorem Sound.hV:Sound i (Internal.hV x) x:=.ask λa h=>h
theorem Sound.ni:Sound i (Internal.ni x) x:=.ask λa h=>h
theorem Sound.rn:Sound i (Internal.rn x) x:=.ask λa h=>h
end
section
variable{j:Type}(G:a7->aI AV)(C:CS)(k:S)(s:aS)
def nV (x:AV)(H:Hp)(f:aI AO->QM j (V1 AV))(g:QM j (V1 AV)):QM j (V1 AV):=match x with
 | .obj n=>bindM (rk H[n]?) f
 | _=>g
def JK (f:a7)(x:AV)(H:Hp):QM j (V1 AV):=nV x H (λw=>.pure (match w with | some (.inst _ Y)=>opt (Y.lookup f) H | _=>.bad)) (.pure (mO f x H))
def OS (op:Gm)(x y:AV)(H:Hp):QM j (V1 AV):=bindM (tP (bf H op x y)) λo=>.pure ((opt o H).bind me)
def ro (rec:ME->Loc->Hp->QM j (V1 AV))(g:J ME)(ρ:Loc):Hp->QM j (V1 (J AV)):=
 xq (λH=>.pure (.ok [] H)) (λe _ q H=>bindR (rec e ρ H) λx H=>bindR (q H) λl H=>.pure (.ok (x::l) H)) g
def E1{e:Type}(x:AV)(a b:QM j (V1 e)):QM j (V1 e):=match x with
 | .bool t=>bindM (rn t) λt=>match t with
  | true=>a
  | false=>b
 | _=>.pure .bad
def OT (rec:ME->Loc->Hp->QM j (V1 AV))(g:J ME)(ρ:Loc):Hp->QM j (V1 AV):=
 xq (λH=>.pure (.ok (.bool X) H)) (λe _ q H=>bindR (rec e ρ H) λx H=>E1 x (q H) (.pure (.ok (.bool aN) H))) g
def VM (rec:ME->Loc->Hp->QM j (V1 AV))(g:J ME)(ρ:Loc):Hp->QM j (V1 AV):=
 xq (λH=>.pure (.ok (.bool aN) H)) (λe _ q H=>bindR (rec e ρ H) λx H=>E1 x (.pure (.ok (.bool X) H)) (q H)) g
def DB (rec:ME->Loc->Hp->QM j (V1 AV))(c m f:a7)(args:J ME)(ρ:Loc)(n:S)(H:Hp)(w:aI AO):QM j (V1 AV):=match w with
 | some (.inst e Y)=>if e=c/\Y.lookup m=Q then bindR (ro rec args ρ H) λl H=>d4 (C f (.obj n::l) H) else .pure .bad
 | _=>.pure .bad
def OU (rec:ME->Loc->Hp->QM j (V1 AV))(m:a7)(args:J ME)(ρ:Loc)(n:S)(H:Hp)(w:aI AO):QM j (V1 AV):=match w with
 | some (.list _)=>bindR (ro rec args ρ H) λl H=>d4 (cW (eg H (.obj n) m l))
 | _=>.pure .bad
def abF (op:oR)(x y:AV)(H:Hp):QM j (V1 AV):=match x with
 | .int _=>(match op with
  | .Mod | .FloorDiv=>bindM (jo (cK op x y)) λo=>.pure (opt o H)
  | _=>.pure (gy op x y H))
 | _=>bindM (jo (cK op x y)) λo=>.pure (opt o H)
def VN (rec:ME->Loc->Hp->QM j (V1 AV))(e:ME)(ρ:Loc)(H:Hp):QM j (V1 AV):=match e with
 | .lit v=>.pure (.ok v H)
 | .loc x=>match s with
  | true=>bindM (jo (ρ.lookup x)) λo=>.pure (opt o H)
  | false=>.pure (opt (ρ.lookup x) H)
 | .glob x=>.pure (opt (G x) H)
 | .attr e f=>bindR (rec e ρ H) (JK f)
 | .neg e=>bindR (rec e ρ H) λx H=>.pure (Dr x H)
 | .bin op a b=>bindR (rec a ρ H) λx H=>bindR (rec b ρ H) λy H=>abF op x y H
 | .cmp a op b=>bindR (rec a ρ H) λx H=>bindR (rec b ρ H) λy H=>OS op x y H
 | .ef a op b h c=>bindR (rec a ρ H) λx H=>bindR (rec b ρ H) λy H=>bindM (tP (bf H op x y)) λo=>bindR (.pure (opt o H)) λr H=>match r with
  | true=>bindR (rec c ρ H) λz H=>OS h y z H
  | false=>.pure (.ok (.bool aN) H)
 | .not e=>bindR (rec e ρ H) λx H=>.pure (zw x H)
 | .and g=>OT rec g ρ H
 | .or g=>VM rec g ρ H
 | .ite t a b=>bindR (rec t ρ H) λx H=>E1 x (rec a ρ H) (rec b ρ H)
 | .tup g=>bindR (ro rec g ρ H) λl H=>.pure (nh l H)
 | .list p g=>bindR (ro rec g ρ H) λl H=>.pure (eH p l H)
 | .sub a i=>bindR (rec a ρ H) λx H=>bindR (rec i ρ H) λy H=>bindM (jo (di H x y)) λo=>.pure (opt o H)
 | .call f args=>bindR (ro rec args ρ H) λl H=>d4 (C f l H)
 | .new c f args=>bindR (ro rec args ρ H) λl H=>bindM (d4 (C f (.obj H.length::l) (H++[.inst c []]))) λr=>.pure (match r with | .ok .none q=>.ok (.obj H.length) q | _=>.bad)
 | .ix o c m f args=>bindR (rec o ρ H) λx H=>nV x H (λw=>match x with | .obj n=>DB C rec c m f args ρ n H w | _=>.pure .bad) (.pure .bad)
 | .il _ _ f args=>bindR (ro rec args ρ H) λl H=>d4 (C f l H)
 | .aK o m args=>bindR (rec o ρ H) λx H=>nV x H (λw=>match x with | .obj n=>OU rec m args ρ n H w | _=>.pure .bad) (.pure .bad)
 | .bi f args=>bindR (ro rec args ρ H) λl H=>bindM (jo (gC H f l)) λo=>.pure (opt o H)
 | .freeze e=>bindR (rec e ρ H) λx H=>d4 (wB x H)
 | .ik e=>bindR (rec e ρ H) λx H=>d4 (vj x H)
 | .hR a b=>bindR (rec a ρ H) λx H=>bindR (rec b ρ H) λy H=>d4 (Ds x y H)
 | .kG L vs i=>bindR (ro rec vs ρ H) λl H=>bindR (rec i ρ H) λx H=>d4 (JJ L l x H)
 | .fj e=>bindR (rec e ρ H) λx H=>d4 (Hi x H)
 | e=>d4 (ev G C k e ρ H)
def qE (n:S):ME->Loc->Hp->QM j (V1 AV):=Od (λe ρ H=>d4 (ev G C k e ρ H)) (λ_ q=>VN G C k s q) n
variable{G C k s}
def E2(h:∀n,x=.obj n->Sound j (f H[n]?) v)(i:(∀n,x≠.obj n)->Sound j g v):Sound j (nV x H f g) v:=by
 cases x with
 | obj n=>exact Sound.bind .rk (h n Z)
 | _=>exact i nofun
def Hs:Sound j (JK f x H) (mO f x H):=E2 (λn e=>by subst e;exact .pure) λa=>.pure
variable{rec:ME->Loc->Hp->QM j (V1 AV)}{ρ:Loc}
def vt(a:∀e H,Sound j (rec e ρ H) (ev G C k e ρ H))(h:J ME):∀H,Sound j (ro rec h ρ H) (ct G C k h ρ H):=by
 induction h with| nil=>exact λH=>.pure| cons e h i=>exact λH=>.bindR (g:=dB G C k h ρ) (a e H) λx H=>.bindR (g:=dI x) (i H) λl H=>.pure
def zH(c:Sound j a p)(hb:Sound j b q):Sound j (E1 x a b) (match x with | .bool X=>p | .bool aN=>q | _=>.bad):=by
 cases x with
 | bool t=>
  refine Sound.bind .rn ?_;cases t with| true=>exact c| false=>exact hb
 | _=>exact .pure
def K1(a:∀e H,Sound j (rec e ρ H) (ev G C k e ρ H))(h:J ME):∀H,Sound j (OT rec h ρ H) (cX G C k h ρ H):=by
 induction h with| nil=>exact λH=>.pure| cons e h i=>exact λH=>.bindR (g:=OI G C k h ρ) (a e H) λx H=>zH (i H) .pure
def OV(a:∀e H,Sound j (rec e ρ H) (ev G C k e ρ H))(h:J ME):∀H,Sound j (VM rec h ρ H) (iy G C k h ρ H):=by
 induction h with
 | nil=>exact λH=>.pure
 | cons e h i=>
  exact λH=>.bindR (g:=VJ G C k h ρ) (a e H) λx H=>by
   cases x with
   | bool t=>
    refine Sound.bind .rn ?_;cases t with| true=>exact .pure| false=>exact i H
   | _=>exact .pure
end
def VO:(V1.bad:V1 e).bind f=.bad:=Z
def Ht(a:∀e H,Sound j (rec e g H) (ev G C k e g H)){x:AV}:Sound j (nV x H (λw=>match x with | .obj n=>DB C rec c m f args g n H w | _=>.pure .bad) (.pure .bad)) (BO G C k c m f args g x H):=by
 cases x with
 | obj n=>
  refine Sound.bind .rk ?_;show Sound j (DB C rec c m f args g n H H[n]?) (match H[n]? with
   | some (.inst i Y)=>if i=c/\Y.lookup m=Q then(ct G C k args g H).bind (zx C f n) else .bad
   | _=>.bad)
  cases H[n]? with
  | none=>exact .pure
  | some o=>
   cases o with
   | inst i Y=>
    show Sound j (if i=c/\Y.lookup m=Q then _ else _) (if i=c/\Y.lookup m=Q then _ else _);by_cases h:i=c/\Y.lookup m=Q
    ·refine ah (dE h) ?_;rw[dE h];exact .bindR (vt a args H) λl H=>.d4
    ·rw[dm h,dm h];exact .pure
   | _=>exact .pure
 | _=>exact .pure
def OW(a:∀e H,Sound h (rec e g H) (ev G C k e g H)){x:AV}:Sound h (nV x H (λw=>match x with | .obj n=>OU rec m args g n H w | _=>.pure .bad) (.pure .bad)) (sU G C k m args g x H):=by
 cases x with
 | obj n=>
  refine Sound.bind .rk ?_;show Sound h (OU rec m args g n H H[n]?) (match H[n]? with
   | some (.list _)=>(ct G C k args g H).bind (ph n m)
   | _=>.bad)
  cases H[n]? with
  | none=>exact .pure
  | some o=>
   cases o with| list l=>exact .bindR (vt a args H) λl H=>.d4| _=>exact .pure
 | _=>exact .pure
def OX(d:∀e h H,Sound L (rec e h H) (ev G C k e h H))(e:ME)(H:Hp):Sound L (VN G C k W rec e h H) (ev G C k e h H):=by
 have p:=λj=>vt (ρ:=h) (λe H=>d e h H) j;cases e with
 | lit v=>exact .pure
 | loc x=>cases W with| true=>exact Sound.bind .jo .pure| false=>exact .pure
 | glob x=>exact .pure
 | attr e f=>exact .bindR (g:=mO f) (d e h H) λx H=>Hs
 | neg e=>exact .bindR (g:=Dr) (d e h H) λx H=>.pure
 | bin op a b=>exact .bindR (g:=gS G C k op b h) (d a h H) λx H=>.bindR (g:=gy op x) (d b h H) λy H=>by cases x with | int=>(cases op<;>first | exact .pure | exact Sound.bind .jo .pure) | _=>exact Sound.bind .jo .pure
 | cmp a op b=>exact .bindR (g:=eD G C k op b h) (d a h H) λx H=>.bindR (g:=dJ op x) (d b h H) λy H=>Sound.bind .tP .pure
 | ef a op b q c=>
  refine .bindR (g:=Hh G C k op q b c h) (d a h H) λx H=>.bindR (g:=Hg G C k op q c h x) (d b h H) λy H=>Sound.bind .tP (.bindR (g:=He G C k q c h y) .pure λr H=>?_);cases r with| true=>exact .bindR (g:=dJ q y) (d c h H) λz H=>Sound.bind .tP .pure| false=>exact .pure
 | not e=>exact .bindR (g:=zw) (d e h H) λx H=>.pure
 | and j=>exact K1 (λe H=>d e h H) j H
 | or j=>exact OV (λe H=>d e h H) j H
 | ite t a b=>exact .bindR (g:=wA G C k a b h) (d t h H) λx H=>zH (d a h H) (d b h H)
 | tup j=>exact .bindR (g:=nh) (p j H) λl H=>.pure
 | list fz j=>exact .bindR (g:=eH fz) (p j H) λl H=>.pure
 | sub a i=>exact .bindR (g:=fV G C k i h) (d a h H) λx H=>.bindR (g:=fU x) (d i h H) λy H=>Sound.bind .jo .pure
 | call f args=>exact .bindR (g:=C f) (p args H) λl H=>.d4
 | new c f args=>exact .bindR (g:=OJ C c f) (p args H) λl H=>Sound.bind .d4 .pure
 | ix o c m f args=>exact .bindR (g:=BO G C k c m f args h) (d o h H) λx H=>Ht λe H=>d e h H
 | il c m f args=>exact .bindR (g:=C f) (p args H) λl H=>.d4
 | aK o m args=>exact .bindR (g:=sU G C k m args h) (d o h H) λx H=>OW λe H=>d e h H
 | bi f args=>exact .bindR (g:=zy f) (p args H) λl H=>Sound.bind .jo .pure
 | freeze e=>exact .bindR (g:=wB) (d e h H) λx H=>.d4
 | ik e=>exact .bindR (g:=vj) (d e h H) λx H=>.d4
 | hR a b=>exact .bindR (g:=Hj G C k b h) (d a h H) λx H=>.bindR (g:=Ds x) (d b h H) λy H=>.d4
 | kG s vs i=>exact .bindR (g:=VK G C k s i h) (p vs H) λl H=>.bindR (g:=JJ s l) (d i h H) λx H=>.d4
 | fj e=>exact .bindR (g:=Hi) (d e h H) λx H=>.d4
 | _=>exact .d4
def DC(n:S):∀(e:ME) (g:Loc) (H:Hp),Sound i (qE G C k j n e g H) (ev G C k e g H):=by
 induction n with| zero=>exact λe g H=>.d4| succ n h=>exact λe g H=>OX h e H
end
section
variable{j:Type}(G:a7->aI AV)(C:CS)(k:S)(L:aS)
def qL (one:MS->Loc->Hp->QM j (V1 (Fl×Loc)))(g:J MS):Loc->Hp->QM j (V1 (Fl×Loc)):=
 xq (λρ H=>.pure (.ok (.next,ρ) H)) (λs _ q ρ H=>bindR (one s ρ H) λp H=>match p with
  | (.next,e)=>q e H
  | (.ret v,e)=>.pure (.ok (.ret v,e) H)) g
def OY (f:a7)(ρ:Loc)(v:AV)(x:AV)(H:Hp):QM j (V1 (Fl×Loc)):=match x with
 | .obj n=>bindM (rk H[n]?) λw=>match w with
  | some (.inst c Y)=>bindM (rn (eo (Y.length<100))) λt=>.pure (if t then .ok (.next,ρ) (H.set n (.inst c (put f v Y))) else .bad)
  | _=>.pure .bad
 | _=>.pure .bad
def OZ (E:ME->Loc->Hp->QM j (V1 AV))(i:sv)(ρ:Loc)(H:Hp):QM j (V1 (J AV)):=match i with
 | .seq e=>bindR (E e ρ H) λx H=>bindM (ni (frozen x)) λo=>.pure (opt o H)
 | .range g=>bindR (ro E g ρ H) λl H=>bindM (ni (mx l)) λo=>.pure (opt o H)
 | .enum e=>bindR (E e ρ H) λx H=>bindM (ni (dR x)) λo=>.pure (opt (o.map kS) H)
 | .rev e=>bindR (E e ρ H) λx H=>bindM (ni (dR x)) λo=>.pure (opt (o.map Oh) H)
def VP (L:aS)(E:ME->Loc->Hp->QM j (V1 AV))(rec:MS->Loc->Hp->QM j (V1 (Fl×Loc)))(s:MS)(ρ:Loc)(H:Hp):QM j (V1 (Fl×Loc)):=match s with
 | .expr e=>bindR (E e ρ H) λ_ H=>.pure (.ok (.next,ρ) H)
 | .ret e=>bindR (E e ρ H) λv H=>.pure (.ok (.ret v,ρ) H)
 | .asg x e=>bindR (E e ρ H) λv H=>.pure (.ok (.next,put x v ρ) H)
 | .cH o f e=>bindR (E e ρ H) λv H=>bindR (E o ρ H) λx H=>OY f ρ v x H
 | .gp o i e=>bindR (E e ρ H) λv H=>bindR (E o ρ H) λx H=>bindR (E i ρ H) λy H=>hV (zC ρ v x y H)
 | .cC h e=>bindR (E e ρ H) λv H=>.pure (OL h ρ v H)
 | .aug x op e=>bindR (match L with | true=>bindM (jo (ρ.lookup x)) λo=>.pure (opt o H) | false=>.pure (opt (ρ.lookup x) H)) λa H=>bindR (E e ρ H) λb H=>.pure (Ho x op ρ a b H)
 | .iff t a b=>bindR (E t ρ H) λx H=>E1 x (qL rec a ρ H) (qL rec b ρ H)
 | .cJ x g b=>Od (hV (aA G C 0 (.cJ x g b) ρ H)) (λk _=>bindR (OZ E g ρ H) λl H=>hV (c0 G C k b x l ρ H)) k
 | .mv t b=>Od (hV (aA G C 0 (.mv t b) ρ H)) (λk _=>hV (pk G C k t b WF ρ H)) k
 | s=>hV (aA G C k s ρ H)
def qS (n:S):MS->Loc->Hp->QM j (V1 (Fl×Loc)):=Od (λs ρ H=>hV (aA G C k s ρ H)) (λn q=>VP G C k L (qE G C k L n) q) n
variable{G C k L}{rec:MS->Loc->Hp->QM j (V1 (Fl×Loc))}{E:ME->Loc->Hp->QM j (V1 AV)}{ρ:Loc}
set_option tactic.hygienic true in
def rZ(a:∀s ρ H,Sound j (rec s ρ H) (aA G C k s ρ H))(e:J MS):∀(ρ:Loc) (H:Hp),Sound j (qL rec e ρ H) (execs G C k e ρ H):=by
 induction e with
 | nil=>exact λρ H=>.pure
 | cons s e i=>
  refine λρ H=>.bindR (g:=cL G C k e) (a s ρ H) λp H=>?_;obtain⟨f,h⟩:=p;cases f with| next=>exact i h H| ret v=>exact .pure
def K2:Sound j (OY f ρ v x H) (wF f ρ v x H):=by
 cases x with
 | obj n=>
  refine Sound.bind .rk ?_;show Sound j (match H[n]? with
   | some (.inst c Y)=>bindM (rn (eo (Y.length<100))) λt=>QM.pure (if t then V1.ok (Fl.next,ρ) (H.set n (.inst c (put f v Y))) else V1.bad)
   | _=>QM.pure V1.bad) (match H[n]? with
   | some (.inst c Y)=>if Y.length<100 then V1.ok (Fl.next,ρ) (H.set n (.inst c (put f v Y))) else V1.bad
   | _=>V1.bad)
  cases H[n]? with
  | none=>exact .pure
  | some o=>
   cases o with
   | inst e Y=>
    refine Sound.bind .rn ?_;show Sound j (.pure (if eo (Y.length<100)=X then _ else _)) (if Y.length<100 then _ else _);by_cases h:Y.length<100
    ·rw[dE h,dE (cB h)];exact .pure
    ·rw[dm h,dm (λz=>h (gb z))];exact .pure
   | _=>exact .pure
 | _=>exact .pure
def K3(a:∀e ρ H,Sound j (E e ρ H) (ev G C k e ρ H))(i:sv)(H:Hp):Sound j (OZ E i ρ H) (ue G C k i ρ H):=by
 cases i with| seq e=>exact .bindR (g:=Dz) (a e ρ H) λx H=>Sound.bind .ni .pure| range h=>exact .bindR (g:=zE) (vt (λe H=>a e ρ H) h H) λx H=>Sound.bind .ni .pure| enum e=>exact .bindR (g:=Hq) (a e ρ H) λx H=>Sound.bind .ni .pure| rev e=>exact .bindR (g:=zF) (a e ρ H) λx H=>Sound.bind .ni .pure
def O0(c:∀e ρ H,Sound j (E e ρ H) (ev G C k e ρ H))(d:∀s ρ H,Sound j (rec s ρ H) (aA G C k s ρ H))(s:MS)(H:Hp):Sound j (VP G C k L E rec s ρ H) (aA G C k s ρ H):=by
 cases s with
 | expr e=>exact .bindR (g:=kX ρ) (c e ρ H) λx H=>.pure
 | ret e=>exact .bindR (g:=tO ρ) (c e ρ H) λx H=>.pure
 | asg x e=>exact .bindR (g:=Dy x ρ) (c e ρ H) λx H=>.pure
 | cH o f e=>exact .bindR (g:=OK G C k o f ρ) (c e ρ H) λv H=>.bindR (g:=wF f ρ v) (c o ρ H) λx H=>K2
 | gp o i e=>exact .bindR (g:=Hn G C k o i ρ) (c e ρ H) λv H=>.bindR (g:=Hm G C k i ρ v) (c o ρ H) λx H=>.bindR (g:=zC ρ v x) (c i ρ H) λy H=>.hV
 | cC h e=>exact .bindR (g:=OL h ρ) (c e ρ H) λx H=>.pure
 | aug x op e=>exact .bindR (g:=OM G C k x op e ρ) (by cases L with | true=>exact Sound.bind .jo .pure | false=>exact .pure) λa H=>.bindR (g:=Ho x op ρ a) (c e ρ H) λb H=>.pure
 | iff t a b=>exact .bindR (g:=xO G C k a b ρ) (c t ρ H) λx H=>zH (rZ d a ρ H) (rZ d b ρ H)
 | cJ x m b=>cases k with| zero=>exact .hV| succ k=>exact .bindR (g:=kFor G C k b x ρ) (K3 c m H) λl H=>.hV
 | mv t b=>cases k with| zero=>exact .hV| succ k=>exact .hV
 | _=>exact .hV
def r5(n:S):∀(s:MS) (ρ:Loc) (H:Hp),Sound j (qS G C k L n s ρ H) (aA G C k s ρ H):=by
 induction n with| zero=>exact λe ρ H=>.hV| succ n g=>exact λs ρ H=>O0 (λe ρ H=>DC n e ρ H) g s H
noncomputable def eY (v:j)(_:J Fact):aI (j×J Fact):=O (v,[])
theorem Sound.eY(h:Sound j m v)(t:Facts F)(e:m Internal.eY F=O (r,F)):v=r:=by
 exact bG (h _ _ _ _ e t) λg a e b=>cx u1.fst (gf e)
end
section
variable{G:a7->aI AV}{C:CS}{k:S}{ρ:Loc}{H:Hp}{F:J Fact}(t:Facts F)
include t
def hW(e:qL (qS G C k aN 30) g ρ H eY F=O (r,F)):execs G C k g ρ H=r:=(rZ (r5 30) g ρ H).eY t e
def eL(e:qL (qS G C k X 30) g ρ H eY F=O (r,F)):execs G C k g ρ H=r:=(rZ (r5 30) g ρ H).eY t e
def aQ(e:bindR (qL (qS G C k aN 30) h ρ H) (λp H=>QM.pure (bM p H)) eY F=O (r,F)):(execs G C k h ρ H).bind bM=r:=
 (Sound.bindR (g:=bM) (rZ (r5 30) h ρ H) λp H=>.pure).eY t e
def tQ(e:qE G C k aN 30 x ρ H eY F=O (r,F)):ev G C k x ρ H=r:=(DC 30 x ρ H).eY t e
def lp(e:bindR (qL (qS G C k X 30) h ρ H) (λp H=>QM.pure (bM p H)) eY F=O (r,F)):(execs G C k h ρ H).bind bM=r:=
 (Sound.bindR (g:=bM) (rZ (r5 30) h ρ H) λp H=>.pure).eY t e
def gU(e:qE G C k X 30 x ρ H eY F=O (r,F)):ev G C k x ρ H=r:=(DC 30 x ρ H).eY t e
def lq(e:qS G C k X 30 s ρ H eY F=O (r,F)):aA G C k s ρ H=r:=(r5 30 s ρ H).eY t e
def nk(e:qS G C k aN 30 s ρ H eY F=O (r,F)):aA G C k s ρ H=r:=(r5 30 s ρ H).eY t e
end
section
variable{H:Hp}{n:S}{l:J AV}
def E3(h:H[n]?=O (.list l)):bD H (.obj n)=O (X,l):=by
 show(match H[n]? with | some (.list l)=>O (X,l) | _=>Q)=_;exact ah h Z
def b7(h:H[n]?=O (.list l)):di H (.obj n) (.int i)=b8 l i:=by delta di;exact ah (E3 h) Z
def dO(h:H[n]?=O (.list l)):gC H "len" [.obj n]=O (.int l.length):=by
 show(bD H (.obj n)).map _=_;rw[E3 h];rfl
def Ua(h:(a++b).length<=aZ):cK .Add (.tup a) (.tup b)=O (.tup (a++b)):=by
 show(if(a++b).length<=aZ then O (a++b) else Q).map AV.tup=_;rw[dE h];rfl
def E4(h:l.length<=aZ):gC H "tuple" [.tup l]=O (.tup l):=show(if l.length<=aZ then O (AV.tup l) else Q)=_ from dE h
def rq(h:H[n]?=O (.list l))(b:l.length<aZ):cW (eg H (.obj n) "append" [x])=.ok .none (H.set n (.list (l++[x]))):=by
 show cW (match H[n]? with | some (.list l)=>_ | _=>Q)=_;refine ah h ?_;show cW (if l.length<aZ then _ else Q)=_;refine ah (dE b) ?_;rfl
def JM{i:T}(h:H[n]?=O (.list l))(b:0<=i/\i<l.length)(e:l.set i.toNat v=g):zC ρ v (.obj n) (.int i) H=.ok (.next,ρ) (H.set n (.list g)):=by
 show(match H[n]? with | some (.list l)=>_ | _=>V1.bad)=_;exact ah h ((dE b).trans (e▸Z))
def O5(h:H[n]?=O (.list l)):cW (eg H (.obj n) "reverse" [])=.ok .none (H.set n (.list l.reverse)):=by
 show cW (match H[n]? with | some (.list l)=>_ | _=>Q)=_;refine ah h ?_;rfl
def pop_at(h:H[n]?=O (.list l))(b:l.getLast?=O x):cW (eg H (.obj n) "pop" [])=.ok x (H.set n (.list l.dropLast)):=by
 show cW (match H[n]? with | some (.list l)=>_ | _=>Q)=_;refine ah h ?_;show cW (match l.getLast? with | some x=>O (x,H.set n (.list l.dropLast)) | none=>Q)=_;refine ah b ?_;rfl
end
def rb{x:V1 AV}(h:x=.ok (.bool t) H)(e:t=v):x=.ok (.bool v) H:=e▸h
section
variable{L:Hp}{n m:S}{y z:AO}{w:aI AO}
def O6(h:L[n]?=O z):(L.set n y)[n]?=O y:=F2 (by refine aH (fb.mp h) λa b=>?_;exact a)
def aex(h:m≠n)(e:L[n]?=w):(L.set m y)[n]?=w:=(k7 h).trans e
def aey(e:L[n]?=O z):(L++[y])[n]?=O z:=(hH (by refine aH (fb.mp e) λa b=>?_;exact a)).trans e
def rt(h:L[n]?=O (.list l)):wB (.obj n) L=.ok (.lst l) (L.set n .dead):=by
 show cW (match L[n]? with | some (.list l)=>O (AV.lst l,L.set n .dead) | _=>Q)=_;refine ah h ?_;rfl
end
def K4{e g:V1 AV}(o:∀a H,e=.ok a H->g=.ok .none H)(f:∀w q p,e=.bH w q p->g=.bH w q p)(b:e=.bad->g=.bad):g=e.bind λc H=>.ok .none H:=by
 refine w5 e ?_ ?_ ?_
 ·intro a H h;exact o a H h
 ·intro w q p h;exact f w q p h
 ·intro h;exact b h
section
variable{x y:a7}{v:AV}{ρ:Loc}{w:aI AV}
theorem bQ:(put x v ρ).lookup x=O v:=by
 induction ρ with
 | nil=>show jg x [(x,v)]=_;simp only[eC,G4]
 | cons p r g=>
  show jg x (if p.1=x then(p.1,v)::r else(p.1,p.2)::put x v r)=_;by_cases h:p.1=x
  ·rw[dE h,eC,h,G4]
  ·rw[dm h,eC,gn.mpr (λe=>h e.symm)];exact g
def aE(h:decide (y=x)=aN)(e:ρ.lookup y=w):(put x v ρ).lookup y=w:=by
 haveI h:=qe h;refine Vj ?_ e;clear e
 induction ρ with
 | nil=>show jg y [(x,v)]=Q;simp only[eC,gn.mpr h];rfl
 | cons p r i=>
  show jg y (if p.1=x then(p.1,v)::r else(p.1,p.2)::put x v r)=_;by_cases g:p.1=x
  ·rw[dE g,eC,eC,g,gn.mpr h]
  ·rw[dm g,eC,eC,i]
end
def r6(h:H[n]?=O (.list l))(b:l.length<aZ)(e:l++[x]=g):cW (eg H (.obj n) "append" [x])=.ok .none (H.set n (.list g)):=e▸rq h b
def lC(h:H[n]?=O (.list l))(b:l.getLast?=O x)(d:l.dropLast=e):cW (eg H (.obj n) "pop" [])=.ok x (H.set n (.list e)):=d▸pop_at h b
def Hu{b:S}(h:a=b):decide ((a:T)=(b:T))=X:=cB (cx _ h)
def O7{b:S}(h:¬a=b):decide ((a:T)=(b:T))=aN:=a0 λz=>h (Ub z)
def jq(h:b8 l i=O a):di H (.lst l) (.int i)=O a:=h
def pn(h:b8 l i=O a):di H (.tup l) (.int i)=O a:=h
def Own (e:J (S×AO))(H:Hp):Prop:=(e.map (·.1)).Nodup/\∀p∈e,H[p.1]?=O p.2
section
variable{cs l r:J (S×AO)}{H:Hp}{n:S}{o g:AO}{p:S×AO}
theorem Own.at(h:Own cs H)(m:p∈cs):H[p.1]?=O p.2:=h.2 p m
theorem Own.lt(h:Own cs H)(m:p∈cs):p.1<H.length:=(fb.mp (h.2 p m)).1
def Own.perm(h:Own cs H)(q:cs.Perm e):Own e H:=⟨(q.map _).nodup_iff.mp h.1,λp m=>h.2 p (q.mem_iff.mpr m)⟩
theorem Own.tail(h:Own (p::cs) H):Own cs H:=⟨(k9.mp h.1).2,λq m=>h.2 q (.tail _ m)⟩
def Own.abG(h:Own ((n,o)::cs) H)(g:AO):Own ((n,g)::cs) (H.set n g):=by
 refine au h.1 (λp m=>?_);rcases a8.mp m with rfl | m'
 ·exact F2 (h.lt (.head _))
 ·have:n≠p.1:=λz=>(k9.mp h.1).1 (z▸hN.mpr ⟨p,m',Z⟩);exact(k7 this).trans (h.2 p (.tail _ m'))
theorem Own.set(l:J (S×AO))(h:Own (l++(n,o)::r) H)(g:AO):Own (l++(n,g)::r) (H.set n g):=
 ((h.perm tp).abG g).perm tp.symm
def Own.new(h:Own cs H)(o:AO):Own ((H.length,o)::cs) (H++[o]):=by
 refine au (k9.mpr ⟨λm=>?_,h.1⟩) (λp m=>?_)
 ·exact ak (hN.mp m) λp hp e=>l3 _ (e▸h.lt hp)
 ·rcases a8.mp m with rfl | m'
  ·exact oL
  ·exact(hH (h.lt m')).trans (h.2 p m')
def Own.drop(l:J (S×AO))(h:Own (l++p::r) H):Own (l++r) H:=(h.perm tp).tail
def Own.back(l:J (S×AO))(h:Own (p::(l++r)) H):Own (l++p::r) H:=h.perm tp.symm
def Own.front(l:J (S×AO))(h:Own (l++p::r) H):Own (p::(l++r)) H:=h.perm tp
end
def K5{H:Hp}(h:H[c]?=O (.inst "Checker" Y))(U:Y.lookup "function"=O (.int e))(V:Y.lookup "at"=O (.int g)):ae GG PP (d+1) "StackCheck.fail" [.obj c,.str w] H=.bH w e g:=by
 show(match H[c]? with
  | some (AO.inst c Y)=>if c="Checker" then(match Y.lookup "function" with
   | some (.int e)=>match Y.lookup "at" with
    | some (.int g)=>V1.bH w e g
    | _=>V1.bad
   | _=>.bad) else .bad
  | _=>.bad)=_
 rw[h];refine(dE Z).trans ?_;rw[U];dsimp only;rw[V]
noncomputable abbrev aj (l:J T):J AV:=l.map AV.int
noncomputable def kJ:AV:=.lst [.tup [.tup [],.tup []],.tup [.tup [],.tup [.int (-1)]],.tup [.tup [.int (-2)],.tup [.int (-2)]],.tup [.tup [.int (-1),.int (-16)],.tup [.int (-2),.int (-1)]],.tup [.tup [.int (-2),.int (-1)],.tup []]]
structure Ch where
 c:S
 v:S
 b:S
 sc:S
 own:T
 places:J T
 K:J T
def Ch.Y (e:Ch)(g:T):Loc:=[("kinds",kJ),("funcs",.lst [.int e.own]),("function",.int 0),("locals",.tup (aj e.places)),("results",.tup (aj e.K.reverse)),("values",.obj e.v),("blocks",.obj e.b),("at",.int g),("scope",.obj e.sc)]
noncomputable def cS (Y:J P.FF):J T:=(Y.map (·.f.vals)).flatten
def da (x:P.FF)(h:S):Loc:=[("code",.int x.c),("params",.tup (aj x.t.reverse)),("results",.tup (aj x.g.reverse)),("height",.int h),("is_dead",.bool x.f.dead),("is_buried",.bool x.d7)]
def pq:J S->J P.FF->J (S×AO)
 | i::e,x::Y=>(i,.inst "Block" (da x (cS Y).length))::pq e Y
 | _,_=>[]
def vals (Y:J P.FF):J AV:=aj (cS Y).reverse
structure Rep (e:Ch)(pl:T)(m:S)(K:J (S×AO))(H:Hp)(is:J S)(Y:J P.FF):Prop where
 len:is.length=Y.length
 t:(cS Y).length<=m
 f:Y.length<=m
 m:m<100000
 o:Own ((e.c,.inst "Checker" (e.Y pl))::(e.v,.list (vals Y))::(e.b,.list (is.reverse.map .obj))::(pq is Y++K)) H
section
variable{e:Ch}{pl:T}{m d:S}{K:J (S×AO)}{H:Hp}{is:J S}{Y:J P.FF}{x:P.FF}{i:S}
theorem Rep.hc(R:Rep e pl m K H is Y):H[e.c]?=O (.inst "Checker" (e.Y pl)):=R.o.at (.head _)
theorem Rep.hv(R:Rep e pl m K H is Y):H[e.v]?=O (.list (vals Y)):=R.o.at (.tail _ (.head _))
theorem Rep.hb(R:Rep e pl m K H is Y):H[e.b]?=O (.list (is.reverse.map .obj)):=R.o.at (.tail _ (.tail _ (.head _)))
theorem Rep.hi(R:Rep e pl m K H (i::is) (x::Y)):H[i]?=O (.inst "Block" (da x (cS Y).length)):=R.o.at (.tail _ (.tail _ (.tail _ (.head _))))
theorem Rep.up(R:Rep e pl m K H is Y)(h:m<=g)(j:g<100000):Rep e pl g K H is Y:=⟨R.len,hD R.t h,hD R.f h,j,R.o⟩
theorem Rep.cons(R:Rep e pl m K H is (x::Y)):∃i g,is=i::g:=by
 cases is with
 | nil=>exact nomatch R.len
 | cons i is=>exact yy i is rfl
def fl(e:Ch)(pl:T):(e.Y pl).lookup "values"=O (.obj e.v)/\(e.Y pl).lookup "blocks"=O (.obj e.b)/\(e.Y pl).lookup "function"=O (.int 0)/\(e.Y pl).lookup "at"=O (.int pl):=⟨Z,Z,Z,Z⟩
theorem Rep.fail(R:Rep e pl m K H is Y):ae GG PP (d+1) "StackCheck.fail" [.obj e.c,.str w] H=.bH w 0 pl:=K5 R.hc Z Z
theorem ru{x:AV}:b8 (l++[x]) (-1)=O x:=by
 delta b8;haveI e:((-1:T)+((l++[x]).length:T))=(l.length:T):=by simp;exact z17
 rw[dm (by decide),e,dE (jl _)];exact oL
def dT:b8 ((i::l).reverse.map AV.obj) (-1)=O (.obj i):=by
 rw[i7,l9];exact ru
end
def Res (h:T){e:Type}(r:R AV)(o:aI e)(i:e->AV->Hp->Prop):Prop:=match o with
 | some a=>∃v g,r=.ok v g/\i a v g
 | none=>r=.bH "type mismatch" 0 h
section
variable{e:Ch}{pl:T}{m d:S}{K:J (S×AO)}{H:Hp}{is:J S}{Y:J P.FF}{x:P.FF}{i:S}
theorem Rep.vals(R:Rep e pl m K H is (x::Y))(f:P.Fr)(hd:f.dead=x.f.dead)(U:(cS ({x with f:=f}::Y)).length<=g)(V:m<=g)(h3:g<100000)(a:l=Internal.vals ({x with f:=f}::Y)):Rep e pl g K (H.set e.v (.list l)) is ({x with f:=f}::Y):=by
 refine d9 (R.cons) λi is d=>?_;subst d;subst a;refine⟨R.len,U,hD R.f V,h3,?_⟩;have:=R.o.set [(e.c,_)] (.list (Internal.vals ({x with f:=f}::Y)));haveI q:da {x with f:=f}=da x:=by delta da;exact ah hd Z
 show Own ((e.c,.inst "Checker" (e.Y pl))::(e.v,.list (Internal.vals ({x with f:=f}::Y)))::(e.b,.list ((i::is).reverse.map .obj))::((i,.inst "Block" (da {x with f:=f} (cS Y).length))::pq is Y++K)) _;exact ah q (this)
theorem cq:cS (x::Y)=x.f.vals++cS Y:=rfl
def E5(k:T):vals ({x with f:=P.push [k] x.f}::Y)=vals (x::Y)++[.int k]:=by
 delta vals;simp only[cq];simp[P.push]
theorem eZ:(vals Y).length=(cS Y).length:=by delta vals;simp
end
def jr:∀{g:Loc},(put x v g).lookup y=if y=x then O v else g.lookup y:=λ{g}=>by
 induction g with
 | nil=>
  show jg y [(x,v)]=_;by_cases h:y=x
  ·rw[dE h,eC,p1.mpr h]
  ·rw[dm h,eC,gn.mpr h]
 | cons i g j=>
  obtain⟨z,w⟩:=i;dsimp only[uc,mw];by_cases e:z=x
  ·rw[dE e,eC,eC];by_cases h:y=x
   ·rw[dE h,p1.mpr (h.trans e.symm)]
   ·rw[dm h,gn.mpr λq=>h (q.trans e)]
  ·rw[dm e,eC,j,eC];by_cases h:y=x
   ·rw[dE h,dE h,gn.mpr λq=>e (q.symm.trans h)]
   ·rw[dm h,dm h]
section
variable{e:Ch}{pl:T}{m d k:S}{K:J (S×AO)}{H:Hp}{is:J S}{Y:J P.FF}{x:P.FF}{i:S}{C:CS}
def bl(x:P.FF)(h:S):(da x h).lookup "code"=O (.int x.c)/\(da x h).lookup "params"=O (.tup (aj x.t.reverse))/\(da x h).lookup "results"=O (.tup (aj x.g.reverse))/\(da x h).lookup "height"=O (.int h)/\(da x h).lookup "is_dead"=O (.bool x.f.dead)/\(da x h).lookup "is_buried"=O (.bool x.d7):=⟨Z,Z,Z,Z,Z,Z⟩
theorem Rep.push(R:Rep e pl m K H is (x::Y))(a:m+1<100000)(k:T):Rep e pl (m+1) K (H.set e.v (.list (Internal.vals (x::Y)++[.int k]))) is ({x with f:=P.push [k] x.f}::Y):=
 R.vals (P.push [k] x.f) Z (by have:=R.t;simp only[cq] at this ⊢;simp[P.push] at this ⊢;exact z61 this) (o7 m) a (E5 k).symm
def Rep.lim(R:Rep e pl m K H is Y):(Internal.vals Y).length<aZ:=by rw[eZ];have:=R.t;have:=R.m;exact z62 ‹_› this
def K6:PP "StackCheck.push"=O kM:=Z
def gj(R:Rep e pl m K H is (x::Y))(a:m+1<100000)(k:T):∃g,ae GG PP (d+1) "StackCheck.push" [.obj e.c,.int k] H=.ok .none g/\Rep e pl (m+1) K g is ({x with f:=P.push [k] x.f}::Y):=by
 refine ay _ ?_ (R.push a k);exact(aY K6 (by decide) Z).trans (aQ (.o R.hc (.o R.hv (.r (rq (x:=AV.int k) R.hv R.lim) .nil))) (by kernel_rfl))
theorem xP:∀(l:J T) {m:S}{H:Hp}{x:P.FF}{ρ:Loc},Rep e pl m K H is (x::Y)->m+l.length<100000->ρ.lookup "self"=O (.obj e.c)->
  ∃g h,c0 GG C k [.expr (.aK (.attr .S "values") "append" [.loc "kind"])] (.one "kind") (aj l) ρ H=.ok (.next,g) h/\Rep e pl (m+l.length) K h is ({x with f:=P.push l.reverse x.f}::Y)
 | [],m,H,x,ρ,R,j,p=>⟨ρ,H,Z,R⟩
 | a::l,m,H,x,ρ,R,j,p=>by
  have d:m+1+l.length<100000:=by simpa [S.add_assoc,S.add_comm 1] using j
  have b:(V6 "kind" (.int a) ρ).lookup "self"=O (.obj e.c):=aE (by kernel_rfl) p;haveI s:(V6 "kind" (.int a) ρ).lookup "kind"=O (.int a):=bQ;refine bG (xP l (ρ:=V6 "kind" (.int a) ρ) (R.push (by exact Mt d) a) d b) λg h U V=>ew g h ?_ ?_
  ·rw[<-U];show c0 GG C k _ _ (AV.int a::aj l) ρ H=_;exact vn (ρ':=V6 "kind" (.int a) ρ) Z (eL (.v b (.o R.hc (.o R.hv (.v s (.r (rq (x:=.int a) R.hv R.lim) .nil))))) (by kernel_rfl))
  ·haveI q:P.push l.reverse (P.push [a] x.f)=P.push (a::l).reverse x.f:=by simp[P.push]
   have w:m+1+l.length=m+(a::l).length:=by simp;exact z72
   rw[<-q,<-w];exact V
def AY:PP "StackCheck.push_all"=O iI:=Z
def ig(b:frozen a=O (aj l))(R:Rep e pl m K H is (x::Y))(g:m+l.length<100000):∃h,ae GG PP (d+1) "StackCheck.push_all" [.obj e.c,a] H=.ok .none h/\Rep e pl (m+l.length) K h is ({x with f:=P.push l.reverse x.f}::Y):=by
 refine bG (xP (C:=ae GG PP d) (k:=5) l (ρ:=[("self",.obj e.c),("kinds",a)]) R g Z) λj h U V=>ay h ?_ V;exact(aY AY (by decide) Z).trans (aQ (.f b (.l U .nil)) (by kernel_rfl))
theorem tR(h:x.f.vals=v::r):vals (x::Y)=vals ({x with f:={x.f with vals:=r}}::Y)++[.int v]:=by
 unfold vals;simp only[cq,h];simp
def Uc:PP "StackCheck.pop_any"=O iY:=Z
def js(R:Rep e pl m K H is (x::Y)):Res pl (ae GG PP (d+2) "StackCheck.pop_any" [.obj e.c] H) (P.aw x.f) λp v q=>v=.int p.1/\Rep e pl m K q is ({x with f:=p.2}::Y):=by
 refine d9 (R.cons) λi is h=>?_;subst h;refine DV x.f.vals ?_ ?_;rotate_left
 ·intro v r hv;haveI hd:decide (((cS Y).length:T)<((vals (x::Y)).length:T))=X:=by simp only[eZ,cq,hv];simp;exact U7
  have hp:P.aw x.f=O (v,{x.f with vals:=r}):=by delta P.aw;rw[hv]
  rw[hp];refine bx (.int v) (H.set e.v (.list (vals ({x with f:={x.f with vals:=r}}::Y)))) ?_ Z (R.vals {x.f with vals:=r} Z (by have:=R.t;simp only[cq,hv] at this;simp only[cq];simp at this ⊢;exact U8 this) (gk _) R.m Z);have b:(vals (x::Y)).getLast?=O (.int v):=by rw[tR hv];simp
  haveI g:(vals (x::Y)).dropLast=vals ({x with f:={x.f with vals:=r}}::Y):=by simp only[tR hv];simp
  exact aQ (.o R.hc (.v ((b7 R.hb).trans (dT (i:=i) (l:=is))) (.o R.hc (.v (dO R.hv) (.o R.hi (.d (.t hd (.o R.hc (.o R.hv (.r (lC R.hv b g) .nil)))))))))) (by kernel_rfl)
 ·intro hv;have hd:decide (((cS Y).length:T)<((vals (x::Y)).length:T))=aN:=by simp only[eZ,cq,hv];simp
  refine gz x.f.dead ?_ ?_;rotate_left
  ·intro a;have hp:P.aw x.f=O (0,x.f):=by delta P.aw;rw[hv];simp only[a,i5]
   rw[hp];refine bx (.int 0) H ?_ Z R;have b:GG "UNKNOWN"=O (.int 0):=Z;exact aQ (.o R.hc (.v ((b7 R.hb).trans (dT (i:=i) (l:=is))) (.o R.hc (.v (dO R.hv) (.o R.hi (.d (.t hd (.o R.hi (.t (cx i6 a) .nil))))))))) (by kernel_rfl)
  ·intro a;have hp:P.aw x.f=Q:=by delta P.aw;rw[hv];simp[a]
   rw[hp];have j:(e.Y pl).lookup "fail"=Q:=Z;exact aQ (.o R.hc (.v ((b7 R.hb).trans (dT (i:=i) (l:=is))) (.o R.hc (.v (dO R.hv) (.o R.hi (.d (.t hd (.o R.hi (.t (cx i6 a) (.o R.hc (.r (R.fail (d:=d) (w:="type mismatch")) .nil))))))))))) (by kernel_rfl)
end
section
variable{e:Ch}{pl:T}{m d k n:S}{K:J (S×AO)}{H:Hp}{is:J S}{Y:J P.FF}{x:P.FF}{i:S}{C:CS}{o L:AO}
def Rep.alloc(R:Rep e pl m K H is Y)(o:AO):Rep e pl m ((H.length,o)::K) (H++[o]) is Y:=
 ⟨R.len,R.t,R.f,R.m,(R.o.new o).back ((e.c,_)::(e.v,_)::(e.b,_)::pq is Y)⟩
def Rep.cell(R:Rep e pl m ((n,o)::K) H is Y):H[n]?=O o:=(R.o.front ((e.c,_)::(e.v,_)::(e.b,_)::pq is Y)).at (.head _)
def Rep.put(R:Rep e pl m ((n,o)::K) H is Y)(L:AO):Rep e pl m ((n,L)::K) (H.set n L) is Y:=
 ⟨R.len,R.t,R.f,R.m,R.o.set ((e.c,_)::(e.v,_)::(e.b,_)::pq is Y) L⟩
def Rep.free(R:Rep e pl m ((n,o)::K) H is Y):Rep e pl m K H is Y:=
 ⟨R.len,R.t,R.f,R.m,R.o.drop ((e.c,_)::(e.v,_)::(e.b,_)::pq is Y)⟩
def aff:GG "UNKNOWN"=O (.int 0):=Z
def afg:(e.Y pl).lookup "fail"=Q/\(e.Y pl).lookup "pop_any"=Q/\(e.Y pl).lookup "pop"=Q/\(e.Y pl).lookup "push_all"=Q/\(e.Y pl).lookup "pop_all"=Q/\(e.Y pl).lookup "push"=Q/\(e.Y pl).lookup "kill"=Q/\(e.Y pl).lookup "close"=Q/\(e.Y pl).lookup "target"=Q/\(e.Y pl).lookup "begin"=Q/\(e.Y pl).lookup "block_kind"=Q/\(e.Y pl).lookup "local_at"=Q/\(e.Y pl).lookup "step"=Q/\(e.Y pl).lookup "control"=Q/\(e.Y pl).lookup "local"=Q/\(e.Y pl).lookup "number"=Q/\(e.Y pl).lookup "more"=Q/\(e.Y pl).lookup "other"=Q/\(e.Y pl).lookup "end"=Q/\(e.Y pl).lookup "branch"=Q/\(e.Y pl).lookup "select"=Q/\(e.Y pl).lookup "reference"=Q/\(e.Y pl).lookup "check"=Q:=
 ⟨Z,Z,Z,Z,Z,Z,Z,Z,Z,Z,Z,Z,Z,Z,Z,Z,Z,Z,Z,Z,Z,Z,Z⟩
def aeA:PP "StackCheck.pop"=O lK:=Z
def mh(k:T)(R:Rep e pl m K H is (x::Y)):Res pl (ae GG PP (d+3) "StackCheck.pop" [.obj e.c,.int k] H) (P.pop k x.f) λp v j=>v=.int p.1/\Rep e pl m K j is ({x with f:=p.2}::Y):=by
 haveI h:=js R (d:=d);delta P.pop;refine az (P.aw x.f) ?_ ?_
 ·intro hp;rw[hp] at h;exact aQ (.o R.hc (.r h .nil)) (by kernel_rfl)
 ·intro p hp;rw[hp] at h;refine bX h ?_;clear h;intro j h a;clear hp;obtain⟨v,g⟩:=p;dsimp only at h a ⊢;by_cases U:v=k
  ·subst U;refine ah (dm (λz=>z.1 Z)) (bx (.int v) j ?_ Z a);exact aQ (.o R.hc (.r h (.d (.t (cx i6 (cB (QJ (v)))) (.d .nil))))) (by kernel_rfl)
  ·by_cases V:v=0
   ·subst V;refine ah (dm (λz=>z.2.1 Z)) (bx (.int 0) j ?_ Z a);exact aQ (.o R.hc (.r h (.d (.t (cx i6 (a0 U)) (.d (.d (.d .nil))))))) (by kernel_rfl)
   ·by_cases h3:k=0
    ·subst h3;refine ah (dm (λz=>z.2.2 Z)) (bx (.int v) j ?_ Z a);exact aQ (.o R.hc (.r h (.d (.t (cx i6 (a0 U)) (.d (.t (cx i6 (a0 U)) (.d (.d (.d .nil))))))))) (by kernel_rfl)
    ·rw[dE ⟨U,V,h3⟩];exact aQ (.o R.hc (.r h (.d (.t (cx i6 (a0 U)) (.d (.t (cx i6 (a0 V)) (.d (.t (cx i6 (a0 h3)) (.d (.o a.hc (.r (a.fail (d:=d+1) (w:="type mismatch")) .nil))))))))))) (by kernel_rfl)
noncomputable def downs:S->J AV
 | 0=>[]
 | j+1=>.int j::downs j
def DD(n:S):iH ((n:T) - 1) (-1)=downs n:=by
 delta iH;have e:((n:T) - 1 - -1).toNat=n:=MF;rw[e]
 induction n with
 | zero=>rfl
 | succ n g=>
  simp only[Gj,i1,p2];have:((λ(i:S)=>AV.int (((n+1:S):T) - 1 - (i:T)))∘oi)=λ(i:S)=>AV.int ((n:T) - 1 - (i:T)):=by
   funext i;dsimp only[T9];congr 1;exact Xx
  simp only[this,g (MF)];congr 2;exact Xz
def jS{j:S}(h:l[j]?=O v):b8 (aj l) (j:T)=O (.int v):=by
 delta b8;simp[h]
def Hv{l:J T}(h:l[j]?=O v):(l.take (j+1)).reverse=v::(l.take j).reverse:=by
 refine aH (fb.mp h) λa e=>?_;simp only[J.take_succ_eq_append_getElem a,KX,e];rfl
abbrev DE:J MS:=[.expr (.aK (.loc "found") "append" [.M "pop" "StackCheck.pop" [.sub (.loc "kinds") (.loc "place")]])]
theorem zI{l:J T}:∀(j:S) {H:Hp}{x:P.FF}{ρ:Loc}{acc:J AV},j<=l.length->acc.length+j<1000->Rep e pl m ((n,.list acc)::K) H is (x::Y)->ρ.lookup "self"=O (.obj e.c)->ρ.lookup "kinds"=O (.tup (aj l))->ρ.lookup "found"=O (.obj n)->
  match P.av (l.take j).reverse x.f with
  | some (vs,g)=>∃W H',c0 GG (ae GG PP (d+3)) k DE (.one "place") (downs j) ρ H=.ok (.next,W) H'/\W.lookup "found"=O (.obj n)/\Rep e pl m ((n,.list (acc++aj vs))::K) H' is ({x with f:=g}::Y)
  | none=>c0 GG (ae GG PP (d+3)) k DE (.one "place") (downs j) ρ H=.bH "type mismatch" 0 pl
 | 0,H,x,ρ,acc,hj,hm,R,hs,hk,hn=>by
  refine bx ρ H Z hn ?_;rw[show aj []=([]:J AV) from Z,hP];exact R
 | j+1,H,x,ρ,acc,hj,hm,R,hs,hk,hn=>by
  haveI hv:l[j]?=O l[j]:=ee hj;refine ah (Hv hv) ?_;haveI s:(V6 "place" (.int j) ρ).lookup "self"=O (.obj e.c):=aE (by kernel_rfl) hs;have i:(V6 "place" (.int j) ρ).lookup "kinds"=O (.tup (aj l)):=aE (by kernel_rfl) hk;haveI u:(V6 "place" (.int j) ρ).lookup "found"=O (.obj n):=aE (by kernel_rfl) hn;haveI z:(V6 "place" (.int j) ρ).lookup "place"=O (.int j):=bQ;show match (match P.pop l[j] x.f with | some (v,g)=>_ | none=>_:aI (J T×P.Fr)) with | some (vs,g)=>_ | none=>_
  have h:=mh l[j] R (d:=d);have q:=λF t=>Facts.v u (.o R.cell (.v s (.o R.hc (.v i (.v z (.v (F:=F) (pn (H:=H) (jS hv)) t))))));refine az (P.pop l[j] x.f) ?_ ?_
  ·intro hp;rw[hp] at h;exact OP (vs:=downs j) Z (eL (q _ (.r h .nil)) (by kernel_rfl))
  ·intro p hp;rw[hp] at h;refine bX h ?_;intro H' h w;have st:c0 GG (ae GG PP (d+3)) k DE (.one "place") (downs (j+1)) ρ H=c0 GG (ae GG PP (d+3)) k DE (.one "place") (downs j) (put "place" (.int j) ρ) (H'.set n (.list (acc++[.int p.1]))):=vn Z (eL (q _ (.r h (.r (rq (x:=.int p.1) w.cell (by delta aZ;exact Mj hm)) .nil))) (by kernel_rfl));haveI a:=zI j (x:={x with f:=p.2}) (q7 hj) (by simp;exact Bf hm) (w.put (.list (acc++[.int p.1]))) s i u;show match (match P.av (l.take j).reverse p.2 with | some (v,g)=>_ | none=>_:aI (J T×P.Fr)) with | some (vs,g)=>_ | none=>_
   refine az (P.av (l.take j).reverse p.2) ?_ ?_
   ·intro b;rw[b] at a;exact st.trans a
   ·intro r b;simp only[b] at a;refine bV a λA H2 e1 é y=>bx A H2 (st.trans e1) é ?_;rw[fJ] at y;exact y
def Ue:PP "StackCheck.pop_all"=O iZ:=Z
def pv(g:l.length<100)(R:Rep e pl m K H is (x::Y)):Res pl (ae GG PP (d+4) "StackCheck.pop_all" [.obj e.c,.tup (aj l)] H) (P.av l.reverse x.f) λp v j=>v=.lst (aj p.1.reverse)/\Rep e pl m K j is ({x with f:=p.2}::Y):=by
 haveI h:=zI (l:=l) (n:=H.length) (K:=K) (k:=5) (d:=d) l.length (ρ:=[("self",.obj e.c),("kinds",.tup (aj l)),("found",.obj H.length)]) (acc:=[]) (gk _) (by simp;exact D4 g) (R.alloc (.list [])) Z Z Z;rw[J.take_length] at h;have hi:mx [.int (((aj l).length:T) - 1),.int (-1),.int (-1)]=O (downs l.length):=by
  rw[d3];exact(dE ⟨Z,by unfold gD;exact cB (XW g),Z⟩).trans (cx O (DD l.length))
 refine az (P.av l.reverse x.f) ?_ ?_
 ·intro hp;rw[hp] at h;exact aQ (.d (.f hi (.l h .nil))) (by kernel_rfl)
 ·intro p hp;rw[hp] at h;refine bV h ?_;intro s j h b a;refine bx (.lst (aj p.1).reverse) _ ?_ (cx AV.lst s7.symm) (((a.put (.list (aj p.1).reverse)).put .dead).free);exact lp (.d (.d (.f hi (.l h (.v b (.o a.cell (.r (O5 a.cell) (.v b (.r (rt (l:=(aj p.1).reverse) (O6 a.cell)) .nil))))))))) (by kernel_rfl)
end
section
variable{e:Ch}{pl:T}{m d k n:S}{K:J (S×AO)}{H:Hp}{is:J S}{Y:J P.FF}{x:P.FF}{i:S}{C:CS}{o L:AO}
def E6(x:P.FF)(v:T)(r:J T)(Y:J P.FF)(h:x.f.vals=v::r):(vals (x::Y)).getLast?=O (.int v)/\(vals (x::Y)).dropLast=vals ({x with f:={x.f with vals:=r}}::Y):=by
 rw[tR h];exact au (by simp) (by simp)
theorem xQ:∀(n:S) (l:J T) {H:Hp}{x:P.FF},x.f.vals=l->l.length<n->Rep e pl m K H (i::is) (x::Y)->
  ∃h,pk GG C k (.cmp (.bi "len" [.attr .S "values"]) .Gt (.attr (.loc "block") "height")) [.expr (.aK (.attr .S "values") "pop" [])] n [("self",.obj e.c),("block",.obj i)] H=.ok (.next,[("self",.obj e.c),("block",.obj i)]) h/\Rep e pl m K h (i::is) ({x with f:={x.f with vals:=[]}}::Y)
 | 0,l,H,x,g,j,R=>nomatch j
 | n+1,[],H,x,g,j,R=>by
  haveI hd:decide (((cS Y).length:T)<((vals (x::Y)).length:T))=aN:=by simp only[eZ,cq,g];simp
  refine ay H (E0 (tQ (.o R.hc (.v (dO R.hv) (.o R.hi (.c hd .nil)))) (by kernel_rfl))) ?_
  ·have:x.f={x.f with vals:=[]}:=by rw[<-g]
   simp only[<-this];exact R
 | n+1,v::r,H,x,g,j,R=>by
  haveI hd:decide (((cS Y).length:T)<((vals (x::Y)).length:T))=X:=by simp only[eZ,cq,g];simp;exact U7
  refine aq (E6 x v r Y g) λa b=>?_;haveI d:Rep e pl m K (H.set e.v (.list (vals ({x with f:={x.f with vals:=r}}::Y)))) (i::is) ({x with f:={x.f with vals:=r}}::Y):=
   R.vals {x.f with vals:=r} Z (by have:=R.t;rw[cq,g] at this;dsimp only[cq];simp at this ⊢;exact U8 this) (gk _) R.m Z
  exact ak (xQ n r (x:={x with f:={x.f with vals:=r}}) Z (F1 j) d) λh U V=>ay h ((BU (H':=H) (tQ (.o R.hc (.v (dO R.hv) (.o R.hi (.c hd .nil)))) (by kernel_rfl)) (hW (.o R.hc (.o R.hv (.r (lC R.hv a b) .nil))) (by kernel_rfl))).trans U) V
def abH(x:P.FF)(h:S):put "is_dead" (.bool X) (da x h)=da {x with f:={x.f with dead:=X}} h:=by
 simp only[mw,da,a7.reduceEq,kc,i5]
def Rep.eO(R:Rep e pl m K H (i::is) (x::Y))(a:y.f.vals=x.f.vals):Rep e pl m K (H.set i (.inst "Block" (da y (cS Y).length))) (i::is) (y::Y):=by
 haveI q:cS (y::Y)=cS (x::Y):=by simp only[cq,a]
 refine⟨R.len,q▸R.t,R.f,R.m,?_⟩;haveI w:Internal.vals (y::Y)=Internal.vals (x::Y):=by delta Internal.vals;exact ah q Z
 exact ah w (R.o.set [(e.c,_),(e.v,_),(e.b,_)] _)
def K7:PP "StackCheck.kill"=O kN:=Z
def r7(R:Rep e pl m K H is (x::Y)):∃g,ae GG PP (d+1) "StackCheck.kill" [.obj e.c] H=.ok .none g/\Rep e pl m K g is ({x with f:=P.kill x.f}::Y):=by
 refine d9 (R.cons) λi is b=>?_;subst b;refine ak (xQ (C:=ae GG PP d) (k:=5) WF x.f.vals Z (by have:=R.t;have:=R.m;dsimp only[cq] at *;simp at *;exact X8 ‹_› this) R) λg U a=>?_;refine ay _ ?_ (a.eO (y:={x with f:=P.kill x.f}) Z);exact(aY K7 (by decide) Z).trans (aQ (.o R.hc (.v ((b7 R.hb).trans (dT (i:=i) (l:=is))) (.l U (.o a.hi (.d .nil))))) (by kernel_rfl))
def O8{Y:Loc}:wF f g v (.obj H.length) (H++(.inst c Y::h))=if Y.length<100 then .ok (.next,g) (H++(.inst c (put f v Y)::h)) else .bad:=by
 haveI e1:(H++(AO.inst c Y::h))[H.length]?=O (.inst c Y):=by simp
 haveI a:(H++(AO.inst c Y::h)).set H.length (.inst c (put f v Y))=H++(.inst c (put f v Y)::h):=by simp
 delta wF;dsimp only;rw[e1];dsimp only;rw[a]
noncomputable def fe (p:a7×aI AV):ME:=Oc (.loc p.1) .lit p.2
def fv (ρ:Loc)(p:a7×aI AV):aI AV:=Oc (ρ.lookup p.1) O p.2
def Uh(h:fv g p=O v):ev G C k (fe p) g H=.ok v H:=by
 obtain⟨x,w⟩:=p;cases w with| none=>exact cx (opt · H) h| some w=>exact cx (opt · H) h
def DF{Y:Loc}{e:ME}(h:g.lookup "self"=O (.obj H.length))(a:ev G C k e g (H++(.inst c Y::p))=.ok v (H++(.inst c Y::j)))(b:Y.length<100):aA G C k (.cH .S f e) g (H++(.inst c Y::p))=.ok (.next,g) (H++(.inst c (put f v Y)::j)):=
 (KW.trans (mf a)).trans ((mf (κ:=wF f g v) ((cx (opt · _) h:ev G C k .S g _=_))).trans (O8.trans (dE b)))
def O9 (ρ:Loc)(l:J (a7×a7×aI AV)):Loc->aI Loc:=xq O (λp _ q Y=>Oc Q (λv=>if Y.length<100 then q (put p.1 v Y) else Q) (fv ρ p.2)) l
def r8(g:ρ.lookup "self"=O (.obj H.length)):∀{Y:Loc},O9 ρ l Y=O fs'->execs G C k (l.map λp=>.cH .S p.1 (fe p.2)) ρ (H++(.inst c Y::q))=.ok (.next,ρ) (H++(.inst c fs'::q)):=by
 induction l with
 | nil=>intro Y h;injection h with h;subst h;rfl
 | cons p l j=>
  intro Y h;replace h:Oc Q (λv=>if Y.length<100 then O9 ρ l (put p.1 v Y) else Q) (fv ρ p.2)=O fs':=h;cases e:fv ρ p.2 with
  | none=>rw[e] at h;injection h
  | some v=>
   rw[e] at h;exact t9 h (λa h=>(aU (DF g (Uh e) a)).trans (j h)) λb h=>by injection h
def Hw:PP "Block.__init__"=O p9:=Z
def tS:ae GG PP (d+1) "Block.__init__" [.obj H.length,c,p,r,h,b] (H++[.inst "Block" []])=.ok .none (H++[.inst "Block" [("code",c),("params",p),("results",r),("height",h),("is_dead",.bool aN),("is_buried",b)]]):=
 (aY Hw (by decide) Z).trans (mf (r8 (l:=[("code","code",Q),("params","params",Q),("results","results",Q),("height","height",Q),("is_dead","",O (.bool aN)),("is_buried","is_buried",Q)]) Z (by kernel_rfl)))
def Rep.begin(R:Rep e pl m K H is Y)(d:y.f.vals=[])(a:m+1<100000):Rep e pl (m+1) K ((H++[AO.inst "Block" (da y (cS Y).length)]).set e.b (.list ((H.length::is).reverse.map .obj))) (H.length::is) (y::Y):=by
 haveI q:cS (y::Y)=cS Y:=by rw[cq,d];rfl
 haveI w:Internal.vals (y::Y)=Internal.vals Y:=by delta Internal.vals;rw[q]
 refine⟨cx oi R.len,q▸p3 R.t,x8 R.f,a,?_⟩;exact ah w (((R.o.new (.inst "Block" (da y (cS Y).length))).back [(e.c,_),(e.v,_),(e.b,_)]).set [(e.c,_),(e.v,_)] _)
def Rep.Pa(R:Rep e pl m K H is Y)(g:Hp):(H++g)[e.c]?=O (.inst "Checker" (e.Y pl))/\(H++g)[e.v]?=O (.list (Internal.vals Y))/\(H++g)[e.b]?=O (.list (is.reverse.map .obj)):=
 ⟨by rw[hH (R.o.lt (.head _))];exact R.hc,by rw[hH (R.o.lt (.tail _ (.head _)))];exact R.hv,by rw[hH (R.o.lt (.tail _ (.tail _ (.head _))))];exact R.hb⟩
def Rep.Pb(R:Rep e pl m K H is Y):(is.reverse.map AV.obj).length<aZ:=by
 have:=R.f;have:=R.m;have:=R.len;simp;exact Yh ‹_› ‹_› this
def BV:is.reverse.map AV.obj++[AV.obj n]=(n::is).reverse.map .obj:=by simp
def or_bool(U:ev G C k p g H=.ok (.bool a) H)(V:ev G C k q g H=.ok (.bool b) H):ev G C k (.or [p,q]) g H=.ok (.bool (a||b)) H:=by
 simp only[T6,or_cons,U,bB];clear U;cases a with
 | true=>rfl
 | false=>
  show iy _ _ _ _ _ _=_;simp only[or_cons,V,bB];clear V;cases b<;>rfl
def Hz:PP "StackCheck.begin"=O j9:=Z
def HD(R:Rep e pl m K H is (x::Y))(u:m+1+t.length<100000):∃W n,ae GG PP (d+2) "StackCheck.begin" [.obj e.c,.int c,.tup (aj t),.tup (aj g)] H=.ok .none W/\Rep e pl (m+1+t.length) K W (n::is) (⟨c,t.reverse,g.reverse,⟨t.reverse,aN⟩,x.f.dead||x.d7⟩::x::Y):=by
 refine d9 (R.cons) λi is A=>?_;subst A;haveI w:=R.begin (y:=⟨c,t.reverse,g.reverse,⟨[],aN⟩,x.f.dead||x.d7⟩) Z (Mt u);refine ak (ig (d:=d) (a:=.tup (aj t)) (l:=t) Z w u) λW U C=>ew W H.length ?_ ?_
 ·rw[aY Hz (by decide) Z];haveI hb:=tS (d:=d) (H:=H) (c:=.int c) (p:=.tup (aj t)) (r:=.tup (aj g)) (h:=.int (cS (x::Y)).length) (b:=.bool (x.f.dead||x.d7));haveI é:[("code",AV.int c),("params",.tup (aj t)),("results",.tup (aj g)),("height",.int (cS (x::Y)).length),("is_dead",.bool aN),("is_buried",.bool (x.f.dead||x.d7))]=da ⟨c,t.reverse,g.reverse,⟨[],aN⟩,x.f.dead||x.d7⟩ (cS (x::Y)).length:=by
   delta da;simp only[hC]
  refine cF (R.Pa [.inst "Block" (da ⟨c,t.reverse,g.reverse,⟨[],aN⟩,x.f.dead||x.d7⟩ (cS (x::Y)).length)]) λz D s=>?_;rw[é] at hb;have j:=λF t=>Facts.o R.hc (.v ((b7 R.hb).trans (dT (i:=i) (l:=is))) (.o R.hc (.v ((dO R.hv).trans (cx (λn:S=>O (AV.int n)) eZ)) (.o R.hi (F:=F) t))));have k:=λb (e:(x.f.dead||x.d7)=b)=>Facts.r ((cx (λb=>ae GG PP (d+1) "Block.__init__" [.obj H.length,.int c,.tup (aj t),.tup (aj g),.int (cS (x::Y)).length,.bool b] (H++[.inst "Block" []])) e.symm).trans hb) (.o z (.o s (.r (r6 s R.Pb (BV (is:=i::is) (n:=H.length))) (.o w.hc (.r U .nil)))));refine gz x.f.dead (λq=>?_) λq=>aQ (j _ (.t q (k X (by rw[q];rfl)))) (by kernel_rfl);exact gz x.d7 (λr=>aQ (j _ (.t q (.o R.hi (.t r (k aN (by rw[q,r];rfl)))))) (by kernel_rfl)) λr=>aQ (j _ (.t q (.o R.hi (.t r (k X (by rw[q,r];rfl)))))) (by kernel_rfl)
 ·haveI q:P.push t.reverse (⟨[],aN⟩:P.Fr)=⟨t.reverse,aN⟩:=by simp[P.push]
  exact(q▸C)
end
section
variable{e:Ch}{pl:T}{m d k n:S}{K:J (S×AO)}{H:Hp}{is:J S}{Y:J P.FF}{x:P.FF}{i:S}{C:CS}{o L:AO}
def Rep.close(R:Rep e pl m K H (i::is) (x::Y))(a:x.f.vals=[]):Rep e pl m ((i,.inst "Block" (da x (cS Y).length))::K) (H.set e.b (.list (is.reverse.map .obj))) is Y:=by
 haveI q:cS (x::Y)=cS Y:=by refine ah cq ?_;refine ah a ?_;rfl
 haveI w:Internal.vals (x::Y)=Internal.vals Y:=by delta Internal.vals;exact ah q Z
 refine⟨sL R.len,q▸R.t,q7 R.f,R.m,?_⟩;exact(w).symm▸(((R.o.set [(e.c,_),(e.v,_)] (.list (is.reverse.map .obj))).front [(e.c,_),(e.v,_),(e.b,_)])).back ((e.c,_)::(e.v,_)::(e.b,_)::pq is Y)
noncomputable def nW (x:P.FF):aI P.Fr:=match P.av x.g x.f with
 | some (_,g)=>if g.vals=[] then O g else Q
 | none=>Q
def abI:PP "StackCheck.close"=O ke:=Z
def zJ(j:x.g.length<100)(R:Rep e pl m K H (i::is) (x::Y)):Res pl (ae GG PP (d+5) "StackCheck.close" [.obj e.c] H) (nW x) λg v q=>v=.obj i/\g.vals=[]/\Rep e pl m ((i,.inst "Block" (da {x with f:=g} (cS Y).length))::K) q is Y:=by
 haveI h:=pv (d:=d) (l:=x.g.reverse) (by simpa using j) R;rw[hC] at h;delta nW;refine az (P.av x.g x.f) ?_ ?_
 ·intro hp;rw[hp] at h;exact aQ (.o R.hc (.v ((b7 R.hb).trans (dT (i:=i) (l:=is))) (.o R.hc (.o R.hi (.r h .nil))))) (by kernel_rfl)
 ·intro p hp;rw[hp] at h;refine bX h ?_;intro q h a;dsimp only at h a ⊢;by_cases hv:p.2.vals=[]
  ·rw[dE hv];have hd:decide (((vals ({x with f:=p.2}::Y)).length:T)=((cS Y).length:T))=X:=by simp only[eZ,cq,hv];simp
   have b:((i::is).reverse.map AV.obj).getLast?=O (.obj i)/\((i::is).reverse.map AV.obj).dropLast=is.reverse.map .obj:=by simp
   refine hG (.obj i) _ ?_ Z hv (a.close hv);exact aQ (.o R.hc (.v ((b7 R.hb).trans (dT (i:=i) (l:=is))) (.o R.hc (.o R.hi (.r h (.o a.hc (.v (dO a.hv) (.o a.hi (.d (.t (cx i6 hd) (.o a.hc (.o a.hb (.r (lC a.hb b.1 b.2) .nil))))))))))))) (by kernel_rfl)
  ·rw[dm hv];have hd:decide (((vals ({x with f:=p.2}::Y)).length:T)=((cS Y).length:T))=aN:=a0 (by
    simp only[eZ,cq];refine ah a9 ?_;have:=J.length_pos_iff.mpr hv;exact Yb this)
   have k:=a.fail (d:=d+3) (w:="type mismatch");exact aQ (.o R.hc (.v ((b7 R.hb).trans (dT (i:=i) (l:=is))) (.o R.hc (.o R.hi (.r h (.o a.hc (.v (dO a.hv) (.o a.hi (.d (.t (cx i6 hd) (.o a.hc (.r k .nil)))))))))))) (by kernel_rfl)
def zK(x:P.FF):P.close x.g x.f=(nW x).isSome:=by
 delta P.close nW;cases P.av x.g x.f with
 | none=>rfl
 | some p=>
  cases h:p.2.vals<;>simp[h]
theorem rx:∀l:J T,atoms (aj l)=O (l.map O)
 | []=>rfl
 | a::l=>by
  show(match atom (.int a),atoms (aj l) with | some a,O l=>O (a::l) | _,_=>Q)=_;refine ah (rx l) ?_;rfl
theorem Pc(a b:J T):fk H (.tup (aj a)) (.tup (aj b))=O (eo (a=b)):=by
 dsimp only[fk];simp only[bD,rx];congr 1;by_cases h:a=b
 ·subst h;simp
 ·simp only[a0 h];exact a0 λq=>h (by
   have:=cx (L1 id) q;simpa [RW] using this)
def agq:GG "IF"=O (.int 4)/\GG "ELSE"=O (.int 5)/\GG "LOOP"=O (.int 3)/\GG "BLOCK"=O (.int 2)/\GG "I32"=O (.int (-1))/\GG "I64"=O (.int (-2))/\GG "FUNCREF"=O (.int (-16))/\GG "EXTERNREF"=O (.int (-17)):=⟨Z,Z,Z,Z,Z,Z,Z,Z⟩
theorem rev_eq{b:J T}:decide (a.reverse=b.reverse)=decide (a=b):=by
 by_cases h:a=b
 ·subst h;simp
 ·simp only[a0 h,a0 λq=>h (SY.mp q)]
def K8(a b:J T):bf H .NotEq (.tup (aj a.reverse)) (.tup (aj b.reverse))=O (!decide (a=b)):=by
 show(fk H _ _).map _=_;simp only[Pc,rev_eq];rfl
theorem d8(a b:T):bf H .Eq (.int a) (.int b)=O (eo (a=b))/\bf H .NotEq (.int a) (.int b)=O (!decide (a=b))/\bf H .Gt (.int a) (.int b)=O (eo (b<a))/\bf H .Lt (.int a) (.int b)=O (eo (a<b))/\bf H .LtE (.int a) (.int b)=O (eo (a<=b))/\bf H .GtE (.int a) (.int b)=O (eo (b<=a)):=⟨Z,Z,Z,Z,Z,Z⟩
def aeB:PP "StackCheck.end"=O lL:=Z
def Pd(C:x.g.length<100)(p:m+x.g.length<100000)(R:Rep e pl m K H is (x::Y)):Res pl (ae GG PP (d+6) "StackCheck.end" [.obj e.c] H) (P.bJ W .fin (x::Y)) λé v H'=>v=.none/\∃iM,Rep e pl (m+x.g.length) K H' iM é:=by
 refine d9 (R.cons) λi is è=>?_;subst è;haveI h:=zJ (d:=d) C R;dsimp only[P.bJ];rw[zK];refine az (nW x) ?_ ?_
 ·intro hp;have h:=hp▸h;exact aQ (.o R.hc (.r h .nil)) (by kernel_rfl)
 ·intro g hp;rw[hp] at h;refine w4 h ?_;clear h;intro H' h hv f;have n:=λF v (b:x.c=4) (q:decide (x.t=x.g)=v) t=>Facts.o R.hc (.r h (.o f.cell (.d (.t (cB b) (.o f.cell (.o f.cell (.b (K8 (H:=H') x.t x.g) (.t (cx i6 q) (.d (F:=F) t)))))))));by_cases k:x.c=4/\¬x.t=x.g
  ·rw[dm (λz=>z.2 k)];exact aQ (n _ _ k.1 (a0 k.2) (.o f.hc (.r (f.fail (d:=d+4) (w:="type mismatch")) .nil))) (by kernel_rfl)
  ·rw[dE ⟨Z,k⟩];have u:=λF (b:¬x.c=4) t=>Facts.o R.hc (.r h (.o f.cell (.d (.t (a0 b) (.d (F:=F) t)))));cases Y with
   | nil=>
    cases is with
    | cons j is=>exact nomatch f.len
    | nil=>
     refine⟨.none,H',?_,Z,[],f.free.up (sX _ _) p⟩;haveI s:=Facts.o f.hc (.v (dO f.hb) (.d (.d .nil)));exact dite (x.c=4) (λb=>aQ (n _ _ b (cB (r4.not_not.mp λq=>k ⟨b,q⟩)) s) (by kernel_rfl)) λb=>aQ (u _ b s) (by kernel_rfl)
   | cons y Y=>
    refine ak (ig (d:=d+4) (a:=.tup (aj x.g.reverse)) (l:=x.g.reverse) Z f (by simpa using p)) λH2 V A=>?_;refine d9 (f.cons) λj is D=>?_;subst D;rw[eb,hC] at A;refine⟨.none,H2,?_,Z,_,A.free⟩;haveI s:=Facts.o f.hc (.v (dO f.hb) (.d (.t (cB (show(0:T)<(((j::is).reverse.map AV.obj).length:T) by simp only[d3,eb];exact Yl)) (.o f.hc (.o f.cell (.r V .nil))))));exact dite (x.c=4) (λb=>aQ (n _ _ b (cB (r4.not_not.mp λq=>k ⟨b,q⟩)) s) (by kernel_rfl)) λb=>aQ (u _ b s) (by kernel_rfl)
def Rep.kr(R:Rep e pl m K H is (x::Y)):∃i g,is=i::g/\H[i]?=O (.inst "Block" (da x (cS Y).length)):=by
 refine d9 (R.cons) λi is a=>?_;subst a;exact ew i is Z R.hi
def abJ:PP "StackCheck.other"=O kf:=Z
def HE(w:x.g.length<100)(h4:x.c=4)(s:m+1+x.t.length<100000)(R:Rep e pl m K H is (x::Y)):Res pl (ae GG PP (d+6) "StackCheck.other" [.obj e.c] H) (P.bJ W .cE (x::Y)) λé v H'=>v=.none/\∃iM,Rep e pl (m+1+x.t.length) K H' iM é:=by
 refine d9 (R.cons) λi is A=>?_;subst A;haveI h:=zJ (d:=d) w R;dsimp only[P.bJ];rw[zK];refine az (nW x) ?_ ?_
 ·intro hp;haveI h:=hp▸h;rw[dm (λz=>nomatch z.2)];exact aQ (.o R.hc (.v ((b7 R.hb).trans (dT (i:=i) (l:=is))) (.o R.hi (.o R.hc (.v ((b7 R.hb).trans (dT (i:=i) (l:=is))) (.o R.hi (.d (.t (cx i6 (cB h4)) (.o R.hc (.r h .nil)))))))))) (by kernel_rfl)
 ·intro g hp;simp only[hp] at h;rw[dE ⟨h4,Z⟩];refine w4 h ?_;intro H' h hv f;haveI k:=f.begin (y:=⟨5,x.t,x.g,⟨[],aN⟩,x.d7⟩) Z (Mt s);refine ak (ig (d:=d+4) (a:=.tup (aj x.t.reverse)) (l:=x.t.reverse) Z k (by simpa using s)) λH2 V j=>?_;haveI hb:=tS (d:=d+4) (H:=H') (c:=.int 5) (p:=.tup (aj x.t.reverse)) (r:=.tup (aj x.g.reverse)) (h:=.int (cS Y).length) (b:=.bool x.d7);refine cF (f.Pa [.inst "Block" (da ⟨5,x.t,x.g,⟨[],aN⟩,x.d7⟩ (cS Y).length)]) λè C u=>?_;rw[eb,hC] at j;haveI q:P.push x.t (⟨[],aN⟩:P.Fr)=⟨x.t,aN⟩:=by simp[P.push]
  haveI j:=q▸j;refine⟨.none,H2,?_,Z,_,j.free⟩;exact aQ (.o R.hc (.v ((b7 R.hb).trans (dT (i:=i) (l:=is))) (.o R.hi (.o R.hc (.v ((b7 R.hb).trans (dT (i:=i) (l:=is))) (.o R.hi (.d (.t (cx i6 (cB h4)) (.o R.hc (.r h (.o f.hc (.o f.hb (.o f.cell (.o f.cell (.o f.hc (.v ((dO f.hv).trans (cx (λn:S=>O (AV.int n)) (eZ ..))) (.r hb (.r (r6 u f.Pb (BV (is:=is) (n:=H'.length))) (.o k.hc (.o k.cell (.r V .nil))))))))))))))))))))) (by kernel_rfl)
theorem BW:∀{is:J S}{Y:J P.FF}{l i:S}{x:P.FF},is[l]?=O i->Y[l]?=O x->∃h,(i,.inst "Block" (da x h))∈pq is Y
 | i::is,x::Y,0,j,y,U,V=>by
  injection U with U;subst U;injection V with V;cases V
  exact bq _ (.head _)
 | i::is,x::Y,l+1,j,y,U,V=>by
  exact aH (BW (is:=is) (Y:=Y) (l:=l) U V) λh a=>bq h (.tail _ a)
 | [],_,l,i,x,U,_=>by injection U
 | _::_,[],l,i,x,_,V=>by injection V
def abK:PP "Block.label"=O pG:=Z
def HG(hi:H[i]?=O (.inst "Block" (da x h))):ae GG PP (d+1) "Block.label" [.obj i] H=.ok (.tup (aj x.sR.reverse)) H:=by
 delta P.FF.sR;by_cases h3:x.c=3
 ·rw[dE h3];exact aQ (.o hi (.d (.t (cB h3) (.o hi .nil)))) (by kernel_rfl)
 ·rw[dm h3];exact aQ (.o hi (.d (.t (a0 h3) (.o hi .nil)))) (by kernel_rfl)
def afh:(da x h).lookup "label"=Q:=Z
def E7:PP "StackCheck.target"=O ju:=Z
def mQ(b:l<Y.length)(R:Rep e pl m K H is Y):ae GG PP (d+2) "StackCheck.target" [.obj e.c,.int l] H=.ok (.tup (aj ((P.bo Y).getD l []).reverse)) H:=by
 have a:l<is.length:=ah R.len (b);refine aH (BW (ee a) (ee b)) λh k=>?_;haveI f:H[is[l]]?=O (.inst "Block" (da Y[l] h)):=R.o.at (.tail _ (.tail _ (.tail _ (Ra K k))));haveI e1:(P.bo Y).getD l []=Y[l].sR:=by
  delta P.bo;simp only[eI,gX,(ee b)];rfl
 refine ah e1 ?_;haveI p:decide ((l:T)<((is.reverse.map AV.obj).length:T))=X:=cB (by rw[d3,eb];exact D3 a);haveI g:b8 (is.reverse.map AV.obj) (((is.reverse.map AV.obj).length:T) - 1 - (l:T))=O (.obj is[l]):=by
  haveI j:((is.reverse.map AV.obj).length:T) - 1 - (l:T)=((is.length - 1 - l:S):T):=by rw[d3,eb];exact Mq a
  delta b8;refine ah j ?_;refine ah (dE (jl _)) ?_;simp only[mG,gX,nL (Bh a),show is.length - 1 - (is.length - 1 - l)=l by exact Mr a,(ee a)];rfl
 exact(aY E7 (by decide) Z).trans (aQ (.d (.o R.hc (.v (dO R.hb) (.d (.t (cx i6 p) (.o R.hc (.o R.hc (.v (dO R.hb) (.v ((b7 R.hb).trans g) (.o f (.r (HG f (d:=d) (H:=H) (x:=Y[l]) (i:=is[l]) (h:=h)) .nil))))))))))) (by kernel_rfl))
end
section
variable{e:Ch}{pl:T}{m d k n:S}{K:J (S×AO)}{H:Hp}{is:J S}{Y:J P.FF}{x:P.FF}{i:S}{C:CS}{o s:AO}
noncomputable def void (r:V1 AV):V1 AV:=r.bind λ_ H=>.ok .none H
def call_v{j:V1 AV}{L:V1 AV->J Fact}{d:S}{H:Hp}{f:a7}{D:bp}{args:J AV}(h:PP f=O D)(U:decide (f="StackCheck.fail")=aN)(V:D.params.length=args.length)(t:∀y,j=y->Facts (L y))(e1:∀a g,bindR (qL (qS GG (ae GG PP d) cu aN 30) D.body (D.params.zip args) H) (λp H=>QM.pure (bM p H)) eY (L (.ok a g))=O (.ok .none g,L (.ok a g)))(b:∀w p q,bindR (qL (qS GG (ae GG PP d) cu aN 30) D.body (D.params.zip args) H) (λp H=>QM.pure (bM p H)) eY (L (.bH w p q))=O (.bH w p q,L (.bH w p q)))(c:bindR (qL (qS GG (ae GG PP d) cu aN 30) D.body (D.params.zip args) H) (λp H=>QM.pure (bM p H)) eY (L .bad)=O (.bad,L .bad)):ae GG PP (d+1) f args H=void j:=by
 refine(aY h U V).trans ?_;cases j with| ok a g=>exact aQ (t _ Z) (e1 a g)| bH w p q=>exact aQ (t _ Z) (b w p q)| bad=>exact aQ (t _ Z) c
def ab7:void (.ok v H)=.ok .none H:=Z
def abL:void (.bH w a b)=.bH w a b:=Z
theorem Res.void{j:Type}{r:V1 AV}{o:aI j}{p:j->AV->Hp->Prop}(h:Res pl r o p):Res pl (void r) o λa v g=>v=.none/\∃w,p a w g:=by
 cases o with
 | none=>have h:r=_:=h;rw[h];rfl
 | some a=>
  refine bG h ?_;clear h;intro v g h q;exact⟨.none,g,by rw[h];rfl,Z,v,q⟩
def Res.mono{o:aI p}(h:Res pl r o y)(q:∀a v g,y a v g->j a v g):Res pl r o j:=by
 cases o with| none=>exact h| some a=>refine bG h ?_;intro v g h k;exact ew v g h (q _ _ _ k)
theorem e7{n:T}:ae GG PP (d+1) "is_block" [.int n] H=.ok (.bool (eo (n∈[2,3,4]))) H:=by kernel_rfl
def vu{n:T}:ae GG PP (d+1) "is_kind" [.int n] H=.ok (.bool (eo (n=-1\/n=-2\/n=-16\/n=-17))) H:=by kernel_rfl
def xR{n:T}:ae GG PP (d+1) "is_number_kind" [.int n] H=.ok (.bool (eo (n∈[-1,-2,0]))) H:=by kernel_rfl
def xS{n:T}:ae GG PP (d+1) "is_reference_kind" [.int n] H=.ok (.bool (eo (n∈[-16,-17,0]))) H:=by kernel_rfl
def K9:ae GG PP (d+1) "number_kind" [.int 106] H=.ok (.tup [.tup (aj [-1,-1]),.tup (aj [-1])]) H:=by kernel_rfl
def Pe:ae GG PP (d+1) "number_kind" [.int 80] H=.ok (.tup [.tup (aj [-2]),.tup (aj [-1])]) H:=by kernel_rfl
def La:ae GG PP (d+1) "number_kind" [.int 124] H=.ok (.tup [.tup (aj [-2,-2]),.tup (aj [-2])]) H:=by kernel_rfl
noncomputable def marks:J T:=[-64,-1,-2,-16,0,1,2,3,4]
def HH{n:T}(h:n∈marks):ae GG PP (d+1) "block_kind_kinds" [kJ,.int n] H=.ok (.tup [.tup (aj (P.arrow n).1),.tup (aj (P.arrow n).2)]) H:=by
 simp only[marks,a8,eA,hK] at h;rcases h with rfl | rfl | rfl | rfl | rfl | rfl | rfl | rfl | rfl<;>kernel_rfl
def fl2(e:Ch)(pl:T):(e.Y pl).lookup "kinds"=O kJ/\(e.Y pl).lookup "locals"=O (.tup (aj e.places))/\(e.Y pl).lookup "results"=O (.tup (aj e.K.reverse)):=⟨Z,Z,Z⟩
def HJ:PP "StackCheck.block_kind"=O gY:=Z
def zL{n:T}(h:n∈marks)(R:Rep e pl m K H is Y):ae GG PP (d+2) "StackCheck.block_kind" [.obj e.c,.int n] H=.ok (.tup [.tup (aj (P.arrow n).1),.tup (aj (P.arrow n).2)]) H:=by
 exact(aY HJ (by decide) Z).trans (aQ (.o R.hc (.r (HH h (d:=d) (H:=H) (n:=n)) (.d (.d .nil)))) (by kernel_rfl))
def Pf:PP "StackCheck.local_at"=O iJ:=Z
def ry(a:l<e.places.length)(R:Rep e pl m K H is Y):ae GG PP (d+1) "StackCheck.local_at" [.obj e.c,.int l] H=.ok (.int (e.places.getD l 0)) H:=by
 haveI g:decide ((l:T)<((aj e.places).length:T))=X:=cB (by rw[d3];exact D3 a);exact(aY Pf (by decide) Z).trans (aQ (.d (.o R.hc (.d (.d (.t (cx i6 g) (.o R.hc (.v (jq (H:=H) (jS (by rw[eI,ee a];rfl):b8 (aj e.places) (l:T)=O (.int (e.places.getD l 0)))) .nil))))))) (by kernel_rfl))
def Rep.one{f:P.Fr}(R:Rep e pl m K H is ({{x with f:=f} with f:=g}::Y)):Rep e pl m K H is ({x with f:=g}::Y):=R
def VQ:PP "StackCheck.number"=O jv:=Z
def rz(b:ae GG PP (d+4) "number_kind" [.int n]=λH=>.ok (.tup [.tup (aj t),.tup (aj g)]) H)(j:t.length<100)(k:m+g.length<100000)(R:Rep e pl m K H is (x::Y)):Res pl (ae GG PP (d+5) "StackCheck.number" [.obj e.c,.int n] H) ((P.av t.reverse x.f).map λp=>P.push g.reverse p.2) λf v y=>v=.none/\Rep e pl (m+g.length) K y is ({x with f:=f}::Y):=by
 haveI h:=pv (d:=d) (l:=t) j R;refine az (P.av t.reverse x.f) ?_ ?_
 ·intro hp;rw[hp] at h;exact aQ (.r (Vo b H) (.d (.d (.o R.hc (.d (.r h .nil)))))) (by kernel_rfl)
 ·intro p hp;rw[hp] at h;refine bX h ?_;intro y h i;refine ak (ig (d:=d+3) (a:=.tup (aj g)) (l:=g) Z i k) λz V q=>bx .none z ?_ Z q;exact aQ (.r (Vo b H) (.d (.d (.o R.hc (.d (.r h (.o i.hc (.d (.r V .nil))))))))) (by kernel_rfl)
end
section
variable{e:Ch}{pl:T}{m d k n:S}{K:J (S×AO)}{H:Hp}{is:J S}{Y:J P.FF}{x:P.FF}{i:S}{C:CS}{o L:AO}
def jT(g:ks.length<100)(R:Rep e pl m K H is (x::Y)):Res pl (ae GG PP (d+4) "StackCheck.pop_all" [.obj e.c,.tup (aj ks.reverse)] H) (P.av ks x.f) λp v j=>v=.lst (aj p.1.reverse)/\Rep e pl m K j is ({x with f:=p.2}::Y):=by
 haveI h:=pv (d:=d) (l:=ks.reverse) (by simpa using g) R;simp only[hC] at h;exact h
def zM(b:frozen a=O (aj j.reverse))(R:Rep e pl m K H is (x::Y))(g:m+j.length<100000):∃h,ae GG PP (d+1) "StackCheck.push_all" [.obj e.c,a] H=.ok .none h/\Rep e pl (m+j.length) K h is ({x with f:=P.push j x.f}::Y):=by
 refine ak (ig (d:=d) b R (by simpa using g)) λh U V=>?_;rw[eb,hC] at V;exact ay h U V
theorem E8:∀{j l:J T}{f g:P.Fr},P.av j f=O (l,g)->l.length=j.length
 | [],l,f,g,h=>by injection h with h;injection h with h s;subst h s;rfl
 | k::j,l,f,g,h=>by
  dsimp only[P.fy,P.fA] at h;refine az (P.pop k f) ?_ ?_
  ·intro hp;rw[hp] at h;injection h
  ·intro p hp;rw[hp] at h;clear hp;dsimp only at h;refine az (P.av j p.2) ?_ ?_
   ·intro a;rw[a] at h;injection h
   ·intro q a;rw[a] at h;injection h with h;injection h with h s;subst h s
    exact cx oi (E8 a)
structure tT (Y:J P.FF)(l:S):Prop where
 lt:l<Y.length
 n:((P.bo Y).getD l []).length<=2
theorem e0:b8 (a::r) 0=O a:=rfl
theorem e1:b8 (a::b::r) 1=O b:=rfl
def VT:PP "StackCheck.branch"=O jw:=Z
def Un(g:tT (x::Y) l)(R:Rep e pl m K H is (x::Y)):Res pl (ae GG PP (d+5) "StackCheck.branch" [.obj e.c,.tup [.int 12,.int l]] H) ((P.av ((P.bo (x::Y)).getD l []) x.f).map λp=>P.kill p.2) λf v j=>v=.none/\Rep e pl m K j is ({x with f:=f}::Y):=by
 haveI a:=mQ (d:=d+2) g.lt R;haveI h:=jT (d:=d) (ks:=(P.bo (x::Y)).getD l []) (by have:=g.n;exact D2 this) R;generalize (P.bo (x::Y)).getD l []=q at a h ⊢;refine az (P.av q x.f) ?_ ?_
 ·intro hp;rw[hp] at h;exact aQ (.d (.d (.d (.o R.hc (.o R.hc (.d (.r a (.r h .nil)))))))) (by kernel_rfl)
 ·intro p hp;rw[hp] at h;refine bX h ?_;intro j h b;refine ak (r7 (d:=d+3) b) λs V i=>bx .none s ?_ Z i;exact aQ (.d (.d (.d (.o R.hc (.o R.hc (.d (.r a (.r h (.o b.hc (.r V .nil)))))))))) (by kernel_rfl)
def Lb(u:tT (x::Y) l)(t:m+2<100000)(R:Rep e pl m K H is (x::Y)):Res pl (ae GG PP (d+5) "StackCheck.branch" [.obj e.c,.tup [.int 13,.int l]] H) ((P.pop (-1) x.f).bind λp=>(P.av ((P.bo (x::Y)).getD l []) p.2).map λq=>P.push ((P.bo (x::Y)).getD l []) q.2) λf v z=>v=.none/\Rep e pl (m+2) K z is ({x with f:=f}::Y):=by
 haveI b:=mh (d:=d+1) (-1) R;refine az (P.pop (-1) x.f) ?_ ?_
 ·intro j;rw[j] at b;exact aQ (.d (.d (.d (.d (.d (.o R.hc (.r b .nil))))))) (by kernel_rfl)
 ·intro p j;simp only[j] at b;refine bX b ?_;intro H1 b g;haveI k:=mQ (d:=d+2) (Y:={x with f:=p.2}::Y) u.lt g;haveI i:=u.n;haveI h:=jT (d:=d) (ks:=(P.bo (x::Y)).getD l []) (D2 i) g;generalize (P.bo (x::Y)).getD l []=y at k h i ⊢;show Res pl _ ((P.av y p.2).map λq=>P.push y q.2) _;refine az (P.av y p.2) ?_ ?_
  ·intro hp;rw[hp] at h;exact aQ (.d (.d (.d (.d (.d (.o R.hc (.r b (.o g.hc (.d (.r k (.o g.hc (.r h .nil)))))))))))) (by kernel_rfl)
  ·intro q hp;simp only[hp] at h;refine bX h ?_;intro z h s;refine ak (zM (d:=d+3) (a:=.tup (aj y.reverse)) Z s (Yt t i)) λW V w=>bx .none W ?_ Z (w.up (Yu i) t);exact aQ (.d (.d (.d (.d (.d (.o R.hc (.r b (.o g.hc (.d (.r k (.o g.hc (.r h (.o s.hc (.r V .nil)))))))))))))) (by kernel_rfl)
def BY{l:J T}:(aj l.reverse).length=l.length:=by simp
def len_eq{a b:S}:decide ((a:T)=(b:T))=decide (a=b):=by
 by_cases h:a=b
 ·subst h;simp
 ·simp only[a0 h,a0 (λq:(a:T)=(b:T)=>h (Ub q))]
def Pg:J MS:=[.asg "kinds" (.M "target" "StackCheck.target" [.sub (.loc "instruction") (.loc "place")]),.iff (.cmp (.bi "len" [.loc "kinds"]) .NotEq (.bi "len" [.loc "last"])) [.Z "type mismatch"] [],.expr (.M "push_all" "StackCheck.push_all" [.M "pop_all" "StackCheck.pop_all" [.loc "kinds"]])]
def Uo{a b:J T}{p:aS}(h:decide (a.length=b.length)=p):(!decide (((aj a.reverse).length:T)=((aj b.reverse).length:T)))=!p:=by rw[len_eq,BY,BY,h]
def zO{last:J T}(C:tT (x::Y) l)(é:m+2<100000)(R:Rep e pl m K H is (x::Y))(hs:ρ.lookup "self"=O (.obj e.c))(hi:ρ.lookup "instruction"=O (.tup ins))(y:ρ.lookup "last"=O (.tup (aj last.reverse)))(D:b8 ins p=O (.int l)):(∀q,(if((P.bo (x::Y)).getD l []).length≠last.length then Q else P.av ((P.bo (x::Y)).getD l []) x.f)=O q->∃H',execs GG (ae GG PP (d+4)) k Pg (put "place" (.int p) ρ) H=.ok (.next,put "kinds" (.tup (aj ((P.bo (x::Y)).getD l []).reverse)) (put "place" (.int p) ρ)) H'/\Rep e pl (m+2) K H' is ({x with f:=P.push q.1 q.2}::Y))/\
  ((if((P.bo (x::Y)).getD l []).length≠last.length then Q else P.av ((P.bo (x::Y)).getD l []) x.f)=Q->execs GG (ae GG PP (d+4)) k Pg (put "place" (.int p) ρ) H=.bH "type mismatch" 0 pl):=by
 have i:=aE (x:="place") (v:=.int p) (by kernel_rfl) hs;haveI kr:=aE (x:="place") (v:=.int p) (by kernel_rfl) hi;haveI A:=aE (x:="place") (v:=.int p) (by kernel_rfl) y;have j:=bQ (x:="place") (v:=.int p) (ρ:=ρ);clear hs hi y;generalize put "place" (.int p) ρ=cw at i kr A j ⊢;have g:=C.n;haveI h:=jT (d:=d) (D2 g) R;haveI z:=mQ (d:=d+2) C.lt R;generalize (P.bo (x::Y)).getD l []=W at z h g ⊢;have V:=aE (x:="kinds") (v:=.tup (aj W.reverse)) (by kernel_rfl) i;have h3:=bQ (x:="kinds") (v:=.tup (aj W.reverse)) (ρ:=cw);have u:=λF q b t=>Facts.v i (.o R.hc (.v kr (.v j (.v (pn (H:=H) D) (.r z (.v h3 (.d (.v (aE (x:="kinds") (v:=.tup (aj W.reverse)) (by kernel_rfl) A) (.d (.d (.t (Uo (a:=W) (b:=last) (p:=q) b) (.v V (.o R.hc (F:=F) t)))))))))))));by_cases hk:W.length=last.length
 ·haveI s:=λF t=>u _ _ (cB hk) (.v V (.o R.hc (.v h3 (F:=F) t)));rw[dm (not_not_intro hk)];exact(au (λq hp=>by
   rw[hp] at h;refine bX h ?_;intro H' h E;haveI hq:=E8 hp;exact ak (zM (d:=d+3) (a:=.lst (aj q.1.reverse)) Z E (Yv é g hq)) λH2 V G=>ay H2 (eL (s _ (.r h (.r V .nil))) (by kernel_rfl)) (G.up (Yw g hq) é)) (λhp=>by
   exact eL (s _ (.r (hp▸h) .nil)) (by kernel_rfl)))
 ·rw[dE hk];exact au (λq=>nofun) (λI=>eL (u _ _ (a0 hk) (.r (R.fail (d:=d+3) (w:="type mismatch")) .nil)) (by kernel_rfl))
end
section
variable{e:Ch}{pl:T}{m d k n:S}{K:J (S×AO)}{H:Hp}{is:J S}{Y:J P.FF}{x:P.FF}{i:S}{C:CS}{o W:AO}
def wJ{x:a7}:c0 G C k b (.one x) (v::vs) g H=(execs G C k b (put x v g) H).bind (mP G C k b (.one x) vs):=Z
def Up:mx [.int 1,.int 3]=O [.int 1,.int 2]:=Z
def r9{x:a7}(h:execs G C k b (put x v g) H=.bH w p q):c0 G C k b (.one x) (v::vs) g H=.bH w p q:=wJ.trans (cx (R.bind · _) h)
def kC{x:a7}(h:execs G C k b (put x v p) H=.ok (.next,j) q)(g:c0 G C k b (.one x) vs j q=r):c0 G C k b (.one x) (v::vs) p H=r:=wJ.trans ((cx (R.bind · _) h).trans g)
def Ph(E:tT (x::Y) a)(hb:tT (x::Y) b)(hc:tT (x::Y) c)(A:m+4<100000)(R:Rep e pl m K H is (x::Y)):Res pl (ae GG PP (d+5) "StackCheck.branch" [.obj e.c,.tup [.int 14,.int a,.int b,.int c]] H) (P.ek é (P.bo (x::Y)) (.f9 a b c) x.f) λf v H'=>v=.none/\Rep e pl (m+4) K H' is ({x with f:=f}::Y):=by
 haveI g:=mh (d:=d+1) (-1) R;simp only[P.ek];refine az (P.pop (-1) x.f) ?_ ?_
 ·intro y;rw[y] at g;exact aQ (.d (.d (.d (.d (.d (.o R.hc (.r g .nil))))))) (by kernel_rfl)
 ·intro p y;simp only[y] at g;refine bX g ?_;intro H1 g è;haveI t1:=zO (d:=d) (k:=5) (x:={x with f:=p.2}) (p:=1) (ins:=[.int 14,.int a,.int b,.int c]) (last:=(P.bo (x::Y)).getD c []) (ρ:=[("self",.obj e.c),("instruction",.tup [.int 14,.int a,.int b,.int c]),("code",.int 14),("last",.tup (aj ((P.bo (x::Y)).getD c []).reverse))]) ⟨E.lt,E.n⟩ (by exact Yp A) è Z Z Z Z;have i:=λF (t:Facts F)=>Facts.d (.d (.d (.d (.d (.o R.hc (.r g (.o è.hc (.d (.r (mQ (d:=d+2) (Y:={x with f:=p.2}::Y) hc.lt è) (.d (.f Up t)))))))))));show Res pl _ (if _ then Q else _) _;by_cases u:((P.bo (x::Y)).getD a []).length≠((P.bo (x::Y)).getD c []).length
  ·rw[dE u];exact aQ (i _ (.l (r9 (vs:=[.int 2]) (t1.2 (dE u))) .nil)) (by kernel_rfl)
  ·rw[dm u];refine az (P.av ((P.bo (x::Y)).getD a []) p.2) ?_ ?_
   ·intro w;exact aQ (i _ (.l (r9 (vs:=[.int 2]) (t1.2 ((dm u).trans w))) .nil)) (by kernel_rfl)
   ·intro q w;refine ak (t1.1 _ ((dm u).trans w)) λH2 V L=>?_;haveI t2:=zO (d:=d) (k:=5) (x:={x with f:=P.push q.1 q.2}) (p:=2) (ins:=[.int 14,.int a,.int b,.int c]) (last:=(P.bo (x::Y)).getD c [])
     (ρ:=put "kinds" (.tup (aj ((P.bo (x::Y)).getD a []).reverse)) (put "place" (.int 1) [("self",.obj e.c),("instruction",.tup [.int 14,.int a,.int b,.int c]),("code",.int 14),("last",.tup (aj ((P.bo (x::Y)).getD c []).reverse))])) ⟨hb.lt,hb.n⟩ (by exact Yq A) L Z Z Z Z
    show Res pl _ (if _ then Q else _) _;by_cases j:((P.bo (x::Y)).getD b []).length≠((P.bo (x::Y)).getD c []).length
    ·rw[dE j];exact aQ (i _ (.l (kC V (r9 (vs:=[]) (t2.2 (dE j)))) .nil)) (by kernel_rfl)
    ·rw[dm j];refine az (P.av ((P.bo (x::Y)).getD b []) (P.push q.1 q.2)) ?_ ?_
     ·intro z;exact aQ (i _ (.l (kC V (r9 (vs:=[]) (t2.2 ((dm j).trans z)))) .nil)) (by kernel_rfl)
     ·intro r z;refine ak (t2.1 _ ((dm j).trans z)) λN h3 C=>?_;haveI h:=jT (d:=d) (ks:=(P.bo (x::Y)).getD c []) (D2 hc.n) C;show Res pl _ ((P.av ((P.bo (x::Y)).getD c []) (P.push r.1 r.2)).map λs=>P.kill s.2) _;have D:=λF (t:Facts F)=>i _ (.l (kC V (kC h3 wI)) (.o C.hc t));refine az (P.av ((P.bo (x::Y)).getD c []) (P.push r.1 r.2)) ?_ ?_
      ·intro hp;rw[hp] at h;exact aQ (D _ (.r h .nil)) (by kernel_rfl)
      ·intro s hp;simp only[hp] at h;refine bX h ?_;intro ù h G;exact ak (r7 (d:=d+3) G) λà h5 I=>bx .none à (aQ (D _ (.r h (.o G.hc (.r h5 .nil)))) (by kernel_rfl)) Z (I.up (by exact Yr) A)
end
section
variable{e:Ch}{pl:T}{m d k n:S}{K:J (S×AO)}{H:Hp}{is:J S}{Y:J P.FF}{x:P.FF}{i:S}{C:CS}{o s:AO}{r:J AV}
section
variable{G:a7->aI AV}{ρ:Loc}{q:V1 AV}
def aeC:(q.bind (kX ρ)).bind (cL G C k [])=q.bind (kX ρ):=by cases q<;>rfl
def aeD:(q.bind (kX ρ)).bind bM=void q:=by cases q<;>rfl
end
theorem sV{n:T}:bf H .In (.int n) (.tup [.int a,.int b])=O (eo (n∈[a,b])):=rfl
theorem sW{n:T}:bf H .In (.int n) (.tup [.int a,.int b,.int c])=O (eo (n∈[a,b,c])):=rfl
theorem Pj{b:AV}:[a,b].length<=aZ:=by show 2<=aZ;decide
theorem zR{c:AV}:[a,b,c].length<=aZ:=by show 3<=aZ;decide
def lD:PP "StackCheck.step"=O kO:=Z
def dC{n:T}(h:n<=16)(R:Rep e pl m K H is Y):ae GG PP (d+1) "StackCheck.step" [.obj e.c,.tup (.int n::r)] H=void (ae GG PP d "StackCheck.control" [.obj e.c,.tup (.int n::r)] H):=by
 exact call_v lD (by decide) Z (λa b=>.d (.d (.t (cB h) (.d (.o R.hc (.r b .nil)))))) (λa a=>by kernel_rfl) (λa a a=>by kernel_rfl) (by kernel_rfl)
def gV{n:T}(U:26<=n)(V:n<=34)(R:Rep e pl m K H is Y):ae GG PP (d+1) "StackCheck.step" [.obj e.c,.tup (.int n::r)] H=void (ae GG PP d "StackCheck.local" [.obj e.c,.tup (.int n::r)] H):=call_v lD (by decide) Z (λa b=>.d (.d (.t (a0 (Yx U)) (.d (.t (a0 (Yy U)) (.d (.c (cB U) (.d (.t (cB V) (.o R.hc (.r b .nil))))))))))) (λa a=>by kernel_rfl) (λa a a=>by kernel_rfl) (by kernel_rfl)
def nq{n:T}(U:69<=n)(V:n<=196)(R:Rep e pl m K H is Y):ae GG PP (d+1) "StackCheck.step" [.obj e.c,.tup [.int n]] H=void (ae GG PP d "StackCheck.number" [.obj e.c,.int n] H):=call_v lD (by decide) Z (λa b=>.d (.d (.t (a0 (Yz U)) (.d (.t (a0 (YA U)) (.d (.c (cB (YB U)) (.d (.t (a0 (YC U)) (.d (.t (a0 (YD U)) (.d (.t (a0 (YE U)) (.c (cB U) (.d (.t (cB V) (.o R.hc (.r b .nil)))))))))))))))))) (λa a=>by kernel_rfl) (λa a a=>by kernel_rfl) (by kernel_rfl)
def xT{n:T}(U:208<=n)(R:Rep e pl m K H is Y):ae GG PP (d+1) "StackCheck.step" [.obj e.c,.tup (.int n::r)] H=void (ae GG PP d "Checker.more" [.obj e.c,.tup (.int n::r)] H):=call_v lD (by decide) Z (λa b=>.d (.d (.t (a0 (YG U)) (.d (.t (a0 (YH U)) (.d (.c (cB (YI U)) (.d (.t (a0 (YJ U)) (.d (.t (a0 (YK U)) (.d (.t (a0 (YL U)) (.c (cB (YM U)) (.d (.t (a0 (YN U)) (.o R.hc (.r b .nil)))))))))))))))))) (λa a=>by kernel_rfl) (λa a a=>by kernel_rfl) (by kernel_rfl)
def Lc(R:Rep e pl m K H is Y):ae GG PP (d+1) "StackCheck.step" [.obj e.c,.tup (.int 65::r)] H=void (ae GG PP d "StackCheck.push" [.obj e.c,.int (-1)] H):=by
 exact call_v lD (by decide) Z (λa b=>.d (.d (.d (.d (.d (.d (.d (.d (.d (.d (.d (.o R.hc (.r b .nil))))))))))))) (λa a=>by kernel_rfl) (λa a a=>by kernel_rfl) (by kernel_rfl)
def Ld(R:Rep e pl m K H is Y):ae GG PP (d+1) "StackCheck.step" [.obj e.c,.tup (.int 66::r)] H=void (ae GG PP d "StackCheck.push" [.obj e.c,.int (-2)] H):=by
 exact call_v lD (by decide) Z (λa b=>.d (.d (.d (.d (.d (.d (.d (.d (.d (.d (.d (.d (.d (.o R.hc (.r b .nil))))))))))))))) (λa a=>by kernel_rfl) (λa a a=>by kernel_rfl) (by kernel_rfl)
def Le:PP "Checker.more"=O nG:=Z
def zS{n:T}(U:208<=n)(V:n<=210)(R:Rep e pl m K H is Y):ae GG PP (d+1) "Checker.more" [.obj e.c,.tup (.int n::r)] H=void (ae GG PP d "Checker.reference" [.obj e.c,.tup (.int n::r)] H):=by
 haveI q:decide (n∈[17,19])=aN:=a0 (by simp;exact YR U);exact call_v Le (by decide) Z (λf g=>.d (.b (sV (H:=H) (n:=n) (a:=17) (b:=19)) (.t q (.c (cB (YS U)) (.d (.t (a0 (YT U)) (.c (cB (YU U)) (.d (.t (a0 (YV U)) (.c (cB U) (.d (.t (cB V) (.o R.hc (.r g .nil)))))))))))))) (λf f=>by kernel_rfl) (λf f f=>by kernel_rfl) (by kernel_rfl)
def gW:PP "StackCheck.control"=O cY:=Z
def Uq(R:Rep e pl m K H is Y):ae GG PP (d+1) "StackCheck.control" [.obj e.c,.tup [.int 0]] H=void (ae GG PP d "StackCheck.kill" [.obj e.c] H):=by
 exact call_v gW (by decide) Z (λa b=>.d (.d (.d (.o R.hc (.r b .nil))))) (λa a=>by kernel_rfl) (λa a a=>by kernel_rfl) (by kernel_rfl)
def Ur(R:Rep e pl m K H is Y):ae GG PP (d+2) "StackCheck.control" [.obj e.c,.tup [.int 1]] H=.ok .none H:=by
 exact(aY gW (by decide) Z).trans (aQ (.d (.d (.d (.r (e7 (d:=d) (H:=H) (n:=1)) (.d (.d (.d (.d (.d (.b (sW (H:=H) (n:=1) (a:=12) (b:=13) (c:=14)) (.d (.d (.d (.d (.d (.d (.d .nil))))))))))))))))) (by kernel_rfl))
def zT{n:T}(h:n=12\/n=13\/n=14)(R:Rep e pl m K H is Y):ae GG PP (d+2) "StackCheck.control" [.obj e.c,.tup (.int n::r)] H=void (ae GG PP (d+1) "StackCheck.branch" [.obj e.c,.tup (.int n::r)] H):=by
 haveI q:decide (n∈[12,13,14])=X:=cB (by simpa using h);haveI i:decide (n∈[2,3,4])=aN:=a0 (by simp;exact YX h);exact call_v gW (by decide) Z (λf g=>.d (.d (.t (a0 (show ¬n=0 by exact YY h)) (.r (e7 (d:=d) (H:=H) (n:=n)) (.t i (.d (.t (a0 (show ¬n=5 by exact Y0 h)) (.d (.t (a0 (show ¬n=11 by exact Y1 h)) (.b (sW (H:=H) (n:=n) (a:=12) (b:=13) (c:=14)) (.t q (.o R.hc (.r g .nil))))))))))))) (λf f=>by kernel_rfl) (λf f f=>by kernel_rfl) (by kernel_rfl)
def Us(R:Rep e pl m K H is Y):ae GG PP (d+2) "StackCheck.control" [.obj e.c,.tup [.int 5]] H=void (ae GG PP (d+1) "StackCheck.other" [.obj e.c] H):=by
 exact call_v gW (by decide) Z (λa b=>.d (.d (.d (.r (e7 (d:=d) (H:=H) (n:=5)) (.d (.d (.d (.o R.hc (.r b .nil))))))))) (λa a=>by kernel_rfl) (λa a a=>by kernel_rfl) (by kernel_rfl)
def Pk(R:Rep e pl m K H is Y):ae GG PP (d+2) "StackCheck.control" [.obj e.c,.tup [.int 11]] H=void (ae GG PP (d+1) "StackCheck.end" [.obj e.c] H):=by
 exact call_v gW (by decide) Z (λa b=>.d (.d (.d (.r (e7 (d:=d) (H:=H) (n:=11)) (.d (.d (.d (.d (.d (.o R.hc (.r b .nil))))))))))) (λa a=>by kernel_rfl) (λa a a=>by kernel_rfl) (by kernel_rfl)
def Pl(i:e.K.length<100)(R:Rep e pl m K H is (x::Y)):Res pl (ae GG PP (d+5) "StackCheck.control" [.obj e.c,.tup [.int 15]] H) ((P.av e.K x.f).map λp=>P.kill p.2) λf v q=>v=.none/\Rep e pl m K q is ({x with f:=f}::Y):=by
 haveI h:=jT (d:=d) i R;refine az (P.av e.K x.f) ?_ ?_
 ·intro hp;rw[hp] at h;exact aQ (.d (.d (.d (.r (e7 (d:=d+3) (H:=H) (n:=15)) (.d (.d (.d (.d (.d (.b (sW (H:=H) (n:=15) (a:=12) (b:=13) (c:=14)) (.d (.d (.d (.o R.hc (.o R.hc (.r h .nil)))))))))))))))) (by kernel_rfl)
 ·intro p hp;rw[hp] at h;refine bX h ?_;intro q h g;refine ak (r7 (d:=d+3) g) λy V j=>bx .none y ?_ Z j;exact aQ (.d (.d (.d (.r (e7 (d:=d+3) (H:=H) (n:=15)) (.d (.d (.d (.d (.d (.b (sW (H:=H) (n:=15) (a:=12) (b:=13) (c:=14)) (.d (.d (.d (.o R.hc (.o R.hc (.r h (.o g.hc (.r V .nil)))))))))))))))))) (by kernel_rfl)
section
variable{G:a7->aI AV}{ρ:Loc}{q:V1 (Fl×Loc)}
theorem Lf:(q.bind (cL G C k [])).bind bM=q.bind bM:=by
 cases q with
 | ok p H=>obtain⟨f,ρ⟩:=p;cases f<;>rfl
 | bH _ _ _=>rfl
 | bad=>rfl
def ab8:(q.bind (cL G C k [])).bind (cL G C k [])=q.bind (cL G C k []):=by
 cases q with
 | ok p H=>obtain⟨f,ρ⟩:=p;cases f<;>rfl
 | bH _ _ _=>rfl
 | bad=>rfl
end
def wK:J MS:=[.cC ["params","results"] (.M "block_kind" "StackCheck.block_kind" [.sub (.loc "instruction") (.n 1)]),.expr (.M "pop_all" "StackCheck.pop_all" [.loc "params"]),.expr (.M "begin" "StackCheck.begin" [.loc "code",.loc "params",.loc "results"])]
def zU(z:q∈marks)(b:(P.tk q).length<100)(i:m+1+(P.tk q).length<100000)(R:Rep e pl m K H is (x::Y)):Res pl ((execs GG (ae GG PP (d+4)) cu wK [("self",.obj e.c),("instruction",.tup [.int c,.int q]),("code",.int c)] H).bind bM)
   ((P.av (P.tk q) x.f).map λp=>(⟨c,P.tk q,P.gv q,⟨P.tk q,aN⟩,p.2.dead||x.d7⟩::{x with f:=p.2}::Y:J P.FF)) λy v L=>v=.none/\∃W,Rep e pl (m+1+(P.tk q).length) K L W y:=by
 haveI h:=jT (d:=d) b R;haveI j:aj (P.tk q).reverse=aj (P.arrow q).1:=by delta P.tk;rw[hC]
 have h:=j▸h;refine az (P.av (P.tk q) x.f) ?_ ?_
 ·intro hp;rw[hp] at h;exact aQ (.o R.hc (.d (.r (zL (d:=d+2) z R) (.o R.hc (.r h .nil))))) (by kernel_rfl)
 ·intro p hp;rw[hp] at h;refine bX h ?_;intro L h a;refine bG (HD (d:=d+2) (c:=c) (t:=(P.arrow q).1) (g:=(P.arrow q).2) a (((eb).symm)▸i)) λH2 n V k=>⟨.none,H2,?_,Z,_,(((eb).symm)▸k)⟩;exact aQ (.o R.hc (.d (.r (zL (d:=d+2) z R) (.o R.hc (.r h (.o a.hc (.r V .nil))))))) (by kernel_rfl)
noncomputable def yt:MS:=.iff (.cmp (.loc "code") .Eq (.glob "IF")) [.expr (.M "pop" "StackCheck.pop" [.glob "I32"])] []
def HK(hc:c=2\/c=3\/c=4)(hi:b8 g 0=O (.int c)):ae GG PP (d+2) "StackCheck.control" [.obj e.c,.tup g] H=((aA GG (ae GG PP (d+1)) cu yt [("self",.obj e.c),("instruction",.tup g),("code",.int c)] H).bind (cL GG (ae GG PP (d+1)) cu wK)).bind bM:=by
 refine ah (aY gW (by decide) Z) ?_;haveI q:decide (c∈[2,3,4])=X:=cB (by simpa using hc);haveI a:cY.body=[.asg "code" (.sub (.loc "instruction") (.n 0)),.iff (.cmp (.loc "code") .Eq (.n 0)) [.expr (.M "kill" "StackCheck.kill" [])] [.iff (.call "is_block" [.loc "code"]) (yt::wK) (match cY.body with | [_,.iff _ _ [.iff _ _ z]]=>z | _=>[])]]:=Z;refine ah a ?_;dsimp only[bc,rd,cg,aM];generalize (match cY.body with | [_,.iff _ _ [.iff _ _ z]]=>z | _=>[])=z;simp only[cY,PV,A5,jg,a7.reduceBEq,aB,bB,fV,fU,cb,di,bD,hi,Dy,uc,mw,a7.reduceEq,kc,cL];dsimp only[bc,de,cZ,aM];simp only[jg,a7.reduceBEq,aB,bB,eD,dJ,cb,d8,(a0 (Y8 hc)),me,xO];dsimp only[bc,de,fE,bu,aM];simp only[jg,a7.reduceBEq,aB,bB,dB,dI,b6,e7,q,xO,Lf];dsimp only[bc]
def Lg(hc:c=2\/c=3\/c=4)(z:q∈marks)(i:(P.tk q).length<100)(j:m+1+(P.tk q).length<100000)(R:Rep e pl m K H is (x::Y)):Res pl (ae GG PP (d+5) "StackCheck.control" [.obj e.c,.tup [.int c,.int q]] H) ((P.av (if c=4 then -1::P.tk q else P.tk q) x.f).map λp=>(⟨c,P.tk q,P.gv q,⟨P.tk q,aN⟩,p.2.dead||x.d7⟩::{x with f:=p.2}::Y:J P.FF)) λy v L=>v=.none/\∃W,Rep e pl (m+1+(P.tk q).length) K L W y:=by
 refine ah (HK hc e0) ?_;by_cases h4:c=4
 ·rw[dE h4];haveI a:=mh (d:=d+1) (-1) R;dsimp only[P.fy,P.fA];refine az (P.pop (-1) x.f) ?_ ?_
  ·intro hp;rw[hp] at a;exact OQ (OQ (nk (.d (.t (cB h4) (.o R.hc (.r a .nil)))) (by kernel_rfl)))
  ·intro p hp;simp only[hp] at a;refine bX a ?_;intro H1 a k;haveI h:(aA GG (ae GG PP (d+4)) cu yt [("self",.obj e.c),("instruction",.tup [.int c,.int q]),("code",.int c)] H)=.ok (.next,[("self",.obj e.c),("instruction",.tup [.int c,.int q]),("code",.int c)]) H1:=by
    exact nk (.d (.t (cB h4) (.o R.hc (.r a .nil)))) (by kernel_rfl)
   refine ah h ?_;haveI g:=zU (d:=d) (c:=c) z i j k;dsimp only at g ⊢;refine az (P.av (P.tk q) p.2) ?_ ?_
   ·intro b;rw[b] at g;exact g
   ·intro r b;simp only[b] at g;exact g
 ·refine ah (dm h4) ?_;haveI h:(aA GG (ae GG PP (d+4)) cu yt [("self",.obj e.c),("instruction",.tup [.int c,.int q]),("code",.int c)] H)=.ok (.next,[("self",.obj e.c),("instruction",.tup [.int c,.int q]),("code",.int c)]) H:=by
   exact nk (.d (.t (a0 h4) .nil)) (by kernel_rfl)
  exact ah h (zU (d:=d) (c:=c) z i j R)
end
section
variable{e:Ch}{pl:T}{m d k n:S}{K:J (S×AO)}{H:Hp}{is:J S}{Y:J P.FF}{x:P.FF}{i:S}{C:CS}{o W:AO}{r:J AV}
def zV:PP "StackCheck.local"=O kh:=Z
def Pm(R:Rep e pl m K H is Y):ae GG PP (d+1) "StackCheck.local" [.obj e.c,.tup [.int 26]] H=void (ae GG PP d "StackCheck.pop_any" [.obj e.c] H):=by
 exact call_v zV (by decide) Z (λa b=>.d (.d (.d (.o R.hc (.r b .nil))))) (λa a=>by kernel_rfl) (λa a a=>by kernel_rfl) (by kernel_rfl)
def BZ{n:T}(h:n=27\/n=28)(R:Rep e pl m K H is Y):ae GG PP (d+1) "StackCheck.local" [.obj e.c,.tup (.int n::r)] H=void (ae GG PP d "StackCheck.select" [.obj e.c,.tup (.int n::r)] H):=by
 have q:decide (n∈[27,28])=X:=cB (by simpa using h);exact K4 (λg g f=>aQ (.d (.d (.t (a0 (show ¬n=26 by exact Ml h)) (.b (sV (H:=H) (n:=n) (a:=27) (b:=28)) (.t q (.o R.hc (.r f .nil))))))) (by kernel_rfl)) (λg g g f=>aQ (.d (.d (.t (a0 (show ¬n=26 by exact Ml h)) (.b (sV (H:=H) (n:=n) (a:=27) (b:=28)) (.t q (.o R.hc (.r f .nil))))))) (by kernel_rfl)) λf=>aQ (.d (.d (.t (a0 (show ¬n=26 by exact Ml h)) (.b (sV (H:=H) (n:=n) (a:=27) (b:=28)) (.t q (.o R.hc (.r f .nil))))))) (by kernel_rfl)
def Lh(i:l<e.places.length)(j:m+1<100000)(R:Rep e pl m K H is (x::Y)):∃p,ae GG PP (d+2) "StackCheck.local" [.obj e.c,.tup [.int 32,.int l]] H=.ok .none p/\Rep e pl (m+1) K p is ({x with f:=P.push [e.places.getD l 0] x.f}::Y):=by
 refine ak (gj (d:=d) R j (e.places.getD l 0)) λp h g=>ay p ?_ g;exact(aY zV (by decide) Z).trans (aQ (.d (.d (.d (.b (sV (H:=H) (n:=32) (a:=27) (b:=28)) (.d (.d (.d (.o R.hc (.d (.r (ry i R (e:=e) (pl:=pl) (m:=m) (d:=d) (K:=K) (H:=H) (is:=is) (Y:=x::Y) (l:=l)) (.d (.d (.d (.d (.o R.hc (.r h .nil)))))))))))))))) (by kernel_rfl))
def Li{l:S}(g:l<e.places.length)(R:Rep e pl m K H is (x::Y)):Res pl (ae GG PP (d+4) "StackCheck.local" [.obj e.c,.tup [.int 33,.int l]] H) (P.pop (e.places.getD l 0) x.f) λp v j=>v=.none/\Rep e pl m K j is ({x with f:=p.2}::Y):=by
 haveI h:=mh (d:=d) (e.places.getD l 0) R;refine az (P.pop (e.places.getD l 0) x.f) ?_ ?_
 ·intro hp;rw[hp] at h;exact aQ (.d (.d (.d (.b (sV (H:=H) (n:=33) (a:=27) (b:=28)) (.d (.d (.d (.o R.hc (.d (.r (ry g R (e:=e) (pl:=pl) (m:=m) (d:=d+2) (K:=K) (H:=H) (is:=is) (Y:=x::Y) (l:=l)) (.d (.d (.o R.hc (.r h .nil)))))))))))))) (by kernel_rfl)
 ·intro p hp;simp only[hp] at h;refine bX h ?_;clear h;intro j h i;refine bx .none j ?_ Z i;exact aQ (.d (.d (.d (.b (sV (H:=H) (n:=33) (a:=27) (b:=28)) (.d (.d (.d (.o R.hc (.d (.r (ry g R (e:=e) (pl:=pl) (m:=m) (d:=d+2) (K:=K) (H:=H) (is:=is) (Y:=x::Y) (l:=l)) (.d (.d (.o R.hc (.r h (.d (.d .nil)))))))))))))))) (by kernel_rfl)
def Lj(i:l<e.places.length)(j:m+1<100000)(R:Rep e pl m K H is (x::Y)):Res pl (ae GG PP (d+4) "StackCheck.local" [.obj e.c,.tup [.int 34,.int l]] H) (P.pop (e.places.getD l 0) x.f) λp v q=>v=.none/\Rep e pl (m+1) K q is ({x with f:=P.push [e.places.getD l 0] p.2}::Y):=by
 haveI h:=mh (d:=d) (e.places.getD l 0) R;refine az (P.pop (e.places.getD l 0) x.f) ?_ ?_
 ·intro hp;rw[hp] at h;exact aQ (.d (.d (.d (.b (sV (H:=H) (n:=34) (a:=27) (b:=28)) (.d (.d (.d (.o R.hc (.d (.r (ry i R (e:=e) (pl:=pl) (m:=m) (d:=d+2) (K:=K) (H:=H) (is:=is) (Y:=x::Y) (l:=l)) (.d (.d (.o R.hc (.r h .nil)))))))))))))) (by kernel_rfl)
 ·intro p hp;simp only[hp] at h;refine bX h ?_;clear h;intro q h g;refine ak (gj (d:=d+2) g j (e.places.getD l 0)) λs V k=>bx .none s ?_ Z k;exact aQ (.d (.d (.d (.b (sV (H:=H) (n:=34) (a:=27) (b:=28)) (.d (.d (.d (.o R.hc (.d (.r (ry i R (e:=e) (pl:=pl) (m:=m) (d:=d+2) (K:=K) (H:=H) (is:=is) (Y:=x::Y) (l:=l)) (.d (.d (.o R.hc (.r h (.d (.d (.o g.hc (.r V .nil)))))))))))))))))) (by kernel_rfl)
def VW:PP "StackCheck.select"=O jx:=Z
def Lk{k:T}(j:k=-1\/k=-2\/k=-16\/k=-17)(b:m+1<100000)(R:Rep e pl m K H is (x::Y)):Res pl (ae GG PP (d+5) "StackCheck.select" [.obj e.c,.tup [.int 28,.int k]] H) ((P.av [-1,k,k] x.f).map λp=>P.push [k] p.2) λf v q=>v=.none/\Rep e pl (m+1) K q is ({x with f:=f}::Y):=by
 haveI h:=jT (d:=d) (ks:=[-1,k,k]) (show 3<100 by decide) R;refine az (P.av [-1,k,k] x.f) ?_ ?_
 ·intro hp;rw[hp] at h;exact aQ (.d (.d (.d (.d (.d (.d (.d (.r (vu (d:=d+3) (H:=H) (n:=k)) (.t (cx i6 (cB j)) (.o R.hc (.d (.d (.r h .nil))))))))))))) (by kernel_rfl)
 ·intro p hp;simp only[hp] at h;refine bX h ?_;clear h;intro q h a;refine ak (gj (d:=d+3) a b k) λs V g=>?_;refine bx .none s ?_ Z g;exact aQ (.d (.d (.d (.d (.d (.d (.d (.r (vu (d:=d+3) (H:=H) (n:=k)) (.t (cx i6 (cB j)) (.o R.hc (.d (.d (.r h (.o a.hc (.d (.r V .nil)))))))))))))))) (by kernel_rfl)
def E9(v:T):decide (v∈[-1,-2,0])=(P.isNum v||v==0):=by
 delta P.isNum;by_cases h:v∈[-1,-2,0]
 ·refine ah (cB h) ?_;simp only[a8,eA,hK] at h;rcases h with rfl | rfl | rfl<;>rfl
 ·refine ah (a0 h) ?_;simp only[a8,eA,hK,A0] at h;simp only[gn.mpr h.1,gn.mpr h.2.1,gn.mpr h.2.2];rfl
def Pn(v:T):decide (v∈[-16,-17,0])=(P.isRef v||v==0):=by
 unfold P.isRef;by_cases h:v∈[-16,-17,0]
 ·rw[cB h];simp only[a8,eA,hK] at h;rcases h with rfl | rfl | rfl<;>rfl
 ·rw[a0 h];simp only[a8,eA,hK,A0] at h;simp only[gn.mpr h.1,gn.mpr h.2.1,gn.mpr h.2.2];rfl
def Po(I:m+1<100000)(R:Rep e pl m K H is (x::Y)):Res pl (ae GG PP (d+4) "StackCheck.select" [.obj e.c,.tup [.int 27]] H) (P.ek é L .sel x.f) λf v H'=>v=.none/\Rep e pl (m+1) K H' is ({x with f:=f}::Y):=by
 haveI h:=mh (d:=d) (-1) R;show Res pl _ ((P.pop (-1) x.f).bind _) _;refine az (P.pop (-1) x.f) ?_ ?_
 ·intro hp;rw[hp] at h;exact aQ (.d (.d (.d (.o R.hc (.r h .nil))))) (by kernel_rfl)
 ·intro p hp;simp only[hp] at h;refine bX h ?_;clear h;intro H1 h A;haveI U:=js (d:=d+1) A;show Res pl _ ((P.aw p.2).bind _) _;refine az (P.aw p.2) ?_ ?_
  ·intro ù;rw[ù] at U;exact aQ (.d (.d (.d (.o R.hc (.r h (.o A.hc (.r U .nil))))))) (by kernel_rfl)
  ·intro q ù;simp only[ù] at U;refine bX U ?_;clear U;intro H2 U E;haveI V:=js (d:=d+1) E;show Res pl _ ((P.aw q.2).bind _) _;refine az (P.aw q.2) ?_ ?_
   ·intro G;rw[G] at V;exact aQ (.d (.d (.d (.o R.hc (.r h (.o A.hc (.r U (.o E.hc (.r V .nil))))))))) (by kernel_rfl)
   ·intro s G;simp only[G] at V;refine bX V ?_;clear V;intro ô V i;haveI î:=i.fail (d:=d+2) (w:="type mismatch");show Res pl _ (if(!(P.isNum q.1||q.1==0)||!(P.isNum s.1||s.1==0))=X then Q else if q.1≠s.1/\q.1≠0/\s.1≠0 then Q else O (P.push [if q.1=0 then s.1 else q.1] s.2)) _;haveI â:=E9 q.1;haveI D:=E9 s.1;generalize à:(P.isNum q.1||q.1==0)=b1 at â;generalize ê:(P.isNum s.1||s.1==0)=b2 at D;haveI ä:=xR (d:=d+2) (H:=ô) (n:=q.1);haveI C:=xR (d:=d+2) (H:=ô) (n:=s.1);rw[D] at C;haveI N:=λF (t:Facts F)=>Facts.d (.d (.d (.o R.hc (.r h (.o A.hc (.r U (.o E.hc (.r V (.r (â▸ä) t)))))))));clear â D ê à;cases b1 with
    | false=>
     exact aQ (N _ (.d (.d (.o i.hc (.r î .nil))))) (by kernel_rfl)
    | true=>
     cases b2 with
     | false=>
      exact aQ (N _ (.d (.r C (.d (.d (.o i.hc (.r î .nil))))))) (by kernel_rfl)
     | true=>
      rw[dm (by decide)];haveI û:=λF (t:Facts F)=>N _ (.d (.r C (.d (.d (.d (F:=F) t)))));by_cases e1:q.1=s.1
      ·rw[dm (λz=>z.1 e1),e1,ite_self];refine ak ((λk=>gj (d:=d+2) i I k) s.1) λy h4 l=>?_;haveI j:=λF b u t=>û _ (.t (cx i6 (cB e1)) (.d (.o i.hc (.d (.t (x:=eo (q.1=0)) (a:=b) u (F:=F) t)))));refine bx .none y ?_ Z l;by_cases g:q.1=0
       ·exact aQ (j _ _ (cB g) (.r h4 .nil)) (by kernel_rfl)
       ·exact aQ (j _ _ (a0 g) (.r (e1▸h4) .nil)) (by kernel_rfl)
      ·haveI j:=λF b u t=>û _ (.t (cx i6 (a0 e1)) (.d (.t (x:=!decide (q.1=0)) (a:=b) u (F:=F) t)));by_cases g:q.1=0
       ·rw[dm (λz=>z.2.1 g),dE g];exact ak ((λk=>gj (d:=d+2) i I k) s.1) λy h4 l=>bx .none y (aQ (j _ _ (cx i6 (cB g)) (.d (.o i.hc (.d (.t (cB g) (.r h4 .nil)))))) (by kernel_rfl)) Z l
       ·rw[dm g];by_cases è:s.1=0
        ·rw[dm (λz=>z.2.2 è)];exact ak ((λk=>gj (d:=d+2) i I k) q.1) λy h4 l=>bx .none y (aQ (j _ _ (cx i6 (a0 g)) (.d (.t (cx i6 (cB è)) (.d (.o i.hc (.d (.t (a0 g) (.r h4 .nil)))))))) (by kernel_rfl)) Z l
        ·rw[dE ⟨e1,g,è⟩];exact aQ (j _ _ (cx i6 (a0 g)) (.d (.t (cx i6 (a0 è)) (.d (.o i.hc (.r î .nil)))))) (by kernel_rfl)
def Pp:PP "Checker.reference"=O jy:=Z
def HM{k:T}(p:k=-16\/k=-17)(g:m+1<100000)(R:Rep e pl m K H is (x::Y)):∃j,ae GG PP (d+2) "Checker.reference" [.obj e.c,.tup [.int 208,.int k]] H=.ok .none j/\Rep e pl (m+1) K j is ({x with f:=P.push [k] x.f}::Y):=by
 refine ak (gj (d:=d) R g k) λj h a=>ay j ?_ a;haveI q:bf H .NotIn (.int k) (.tup [.int (-16),.int (-17)])=O aN:=by
  show O (!decide (k∈[-16,-17]))=_;rw[cB (by simpa using p)];rfl
 exact aQ (.d (.d (.d (.d (.b q (.d (.o R.hc (.d (.r h .nil))))))))) (by kernel_rfl)
def Fb(j:m+1<100000)(R:Rep e pl m K H is (x::Y)):Res pl (ae GG PP (d+3) "Checker.reference" [.obj e.c,.tup [.int 209]] H) (P.ek q L .dK x.f) λf v y=>v=.none/\Rep e pl (m+1) K y is ({x with f:=f}::Y):=by
 haveI h:=js (d:=d) R;dsimp only[P.ek];refine az (P.aw x.f) ?_ ?_
 ·intro hp;rw[hp] at h;exact aQ (.d (.d (.d (.d (.d (.o R.hc (.r h .nil))))))) (by kernel_rfl)
 ·intro p hp;simp only[hp] at h;refine bX h ?_;intro s h a;haveI b:=Pn p.1;show Res pl _ (if(P.isRef p.1||p.1==0)=X then O (P.push [-1] p.2) else Q) _;generalize (P.isRef p.1||p.1==0)=z at b;cases z with
  | false=>
   exact aQ (.d (.d (.d (.d (.d (.o R.hc (.r h (.r (xS (d:=d+1) (H:=s) (n:=p.fst)) (.t (cx i6 b) (.o a.hc (.r (a.fail (d:=d+1) (w:="type mismatch")) .nil))))))))))) (by kernel_rfl)
  | true=>
   refine ak (gj (d:=d+1) a j (-1)) λg h4 i=>bx .none g ?_ Z i;exact aQ (.d (.d (.d (.d (.d (.o R.hc (.r h (.r (xS (d:=d+1) (H:=s) (n:=p.fst)) (.t (cx i6 b) (.o a.hc (.r h4 .nil))))))))))) (by kernel_rfl)
end
noncomputable def ov:P.Op->J AV
 | .cP=>[.int 0] | .br l=>[.int 12,.int l] | .gr l=>[.int 13,.int l] | .f9 a b c=>[.int 14,.int a,.int b,.int c] | .ret=>[.int 15]
 | .drop=>[.int 26] | .sel=>[.int 27] | .dK=>[.int 209] | .mZ k=>[.int 28,.int k] | .xx n=>[.int 65,.int n] | .xA n=>[.int 66,.int n]
 | .j7 k=>[.int 208,.int k] | .mI=>[.int 106] | .mJ=>[.int 80] | .mK=>[.int 124]
 | .lX i=>[.int 32,.int i] | .lY i=>[.int 33,.int i] | .lZ i=>[.int 34,.int i] | .sQ=>[.int 1]
noncomputable def iv:P.I->AV
 | .op o=>.tup (ov o)
 | .bZ c m=>.tup [.int c,.int m]
 | .cE=>.tup [.int 5]
 | .fin=>.tup [.int 11]
def mR (aa:J T)(n:S):P.Op->Prop
 | .br l | .gr l=>l<n
 | .f9 a b c=>a<n/\b<n/\c<n
 | .mZ k=>P.Kind k
 | .j7 k=>k=-16\/k=-17
 | .lX i | .lY i | .lZ i=>i<aa.length
 | _=>w1
def LW (aa:J T):J S->J P.I->Prop
 | _,[]=>w1
 | st,.op o::e=>mR aa (st.length+1) o/\LW aa st e
 | st,.bZ c m::e=>(c=2\/c=3\/c=4)/\m∈marks/\st.length<4/\LW aa (c::st) e
 | st,.cE::e=>match st with
  | c::st=>c=4/\LW aa (5::st) e
  | []=>Gl
 | st,.fin::e=>match st with
  | _::st=>LW aa st e
  | []=>e=[]
structure FI (e:Ch)(st:J S)(Y:J P.FF):Prop where
 c:P.codes Y=st.map (λc:S=>(c:T))++[-1]
 s:∀y∈Y,y.t.length<=2/\y.g.length<=2
 k:(P.bo Y).getLastD []=e.K
 kl:e.K.length<=2
section
variable{e:Ch}{pl:T}{m d k n:S}{K:J (S×AO)}{H:Hp}{is:J S}{Y:J P.FF}{x:P.FF}{i:S}{C:CS}{o L:AO}{r:J AV}{st:J S}
theorem FI.len(h:FI e st Y):Y.length=st.length+1:=by
 have:=cx QD h.c;simpa [P.codes] using this
def FI.lb(h:FI e st Y)(b:l<st.length+1):tT Y l:=by
 refine⟨h.len▸b,?_⟩;have a:=h.len▸b;dsimp only[P.bo];simp only[eI,gX,ee a];show(Y[l].sR).length<=2;have:=h.s Y[l] (PW a);delta P.FF.sR
 split
 ·exact this.1
 ·exact this.2
def Res.step{r:V1 AV}{o:aI j}(h:Res pl r o p)(q:∀a v g,p a v g->Q' (f a) v g):Res pl r (o.map f) Q':=by
 cases o with| none=>exact h| some a=>refine bG h ?_;intro v g h k;exact ew v g h (q _ _ _ k)
def Res.of{r:V1 AV}(h:r=.ok v H')(q:g a v H'):Res pl r (O a) g:=⟨v,H',h,q⟩
abbrev QF (e:Ch)(pl:T)(m:S)(K:J (S×AO))(is:J S)(x:P.FF)(Y:J P.FF):P.Fr->AV->Hp->Prop:=λf v g=>v=.none/\Rep e pl m K g is ({x with f:=f}::Y)
def zW{k:T}:P.av [k] f=(P.pop k f).map λp=>([p.1],p.2):=by
 dsimp only[P.fy,P.fA];cases P.pop k f with| none=>rfl| some p=>rfl
def Res.eq{pl:T}{g:Type}{r a:V1 AV}{o:aI g}{j:g->AV->Hp->Prop}(e:r=a)(h:Res pl a o j):Res pl r o j:=e▸h
def Ll(o:P.Op)(s:m+6<100000)(I:FI e st (x::Y))(w:mR e.places (st.length+1) o)(R:Rep e pl m K H is (x::Y)):Res pl (ae GG PP (d+8) "StackCheck.step" [.obj e.c,.tup (ov o)] H) (P.ek e.places (P.bo (x::Y)) o x.f) (QF e pl (m+6) K is x Y):=by
 have up:∀{r:V1 AV}{a:aI P.Fr}{j:S},j<=6->Res pl r a (QF e pl (m+j) K is x Y)->Res pl (void r) a (QF e pl (m+6) K is x Y):=λz h=>h.void.mono λu u u q=>⟨q.1,q.2.choose_spec.2.up (z7 z) s⟩;have y:∀{r:V1 AV}{a:aI P.Fr}{j:S},j<=6->Res pl r a (QF e pl (m+j) K is x Y)->Res pl (void (void r)) a (QF e pl (m+6) K is x Y):=λz h=>h.void.void.mono λu u u q=>⟨q.1,q.2.choose_spec.2.choose_spec.2.up (z7 z) s⟩;cases o with
 | cP=>
  refine ak (r7 (d:=d+5) R) λW h v=>?_;exact .eq ((dC (by decide) R).trans (cx void (Uq R))) (y (j:=0) (by decide) (Res.of h ⟨Z,v⟩))
 | br l=>
  exact .eq ((dC (by decide) R).trans (cx void (zT (.inl Z) R))) (y (j:=0) (by decide) (Un (d:=d+1) (I.lb w) R))
 | gr l=>
  exact .eq ((dC (by decide) R).trans (cx void (zT (.inr (.inl Z)) R))) (y (j:=2) (by decide) (Lb (d:=d+1) (I.lb w) (z8 s) R))
 | f9 a b c=>
  exact .eq ((dC (by decide) R).trans (cx void (zT (.inr (.inr Z)) R))) (y (j:=4) (by decide) (Ph (d:=d+1) (I.lb w.1) (I.lb w.2.1) (I.lb w.2.2) (z9 s) R))
 | ret=>
  show Res pl (ae GG PP (d+8) "StackCheck.step" [.obj e.c,.tup [.int 15]] H) ((P.av ((P.bo (x::Y)).getLastD []) x.f).map λp=>P.kill p.2) _;rw[dC (by decide) R,I.k];exact up (j:=0) (by decide) (Pl (d:=d+2) (by have:=I.kl;exact D2 this) R)
 | drop=>
  exact .eq ((gV (by decide) (by decide) R).trans (cx void (Pm R))) ((js (d:=d+4) R).void.void.step (Q':=QF e pl (m+6) K is x Y) λu u u q=>⟨q.1,q.2.choose_spec.2.choose_spec.2.up (UU) s⟩)
 | sel=>
  exact .eq ((gV (by decide) (by decide) R).trans (cx void (BZ (.inl Z) R))) (y (j:=1) (by decide) (Po (d:=d+2) (pY s) R))
 | dK=>
  exact .eq ((xT (by decide) R).trans (cx void (zS (by decide) (by decide) R))) (y (j:=1) (by decide) (Fb (d:=d+3) (pY s) R))
 | mZ k=>
  exact .eq ((gV (by decide) (by decide) R).trans (cx void (BZ (.inr Z) R))) (y (j:=1) (by decide) (Lk (d:=d+1) w (pY s) R))
 | xx n=>
  refine ak (gj (d:=d+6) R (pY s) (-1)) λW h v=>?_;exact .eq (Lc R) (up (j:=1) (by decide) (Res.of h ⟨Z,v⟩))
 | xA n=>
  refine ak (gj (d:=d+6) R (by exact pY s) (-2)) λW h v=>?_;exact .eq (Ld R) (up (j:=1) (by decide) (Res.of h ⟨Z,v⟩))
 | j7 k=>
  refine ak (HM (d:=d+4) w (pY s) R) λW h v=>?_;exact .eq ((xT (by decide) R).trans (cx void (zS (by decide) (by decide) R))) (y (j:=1) (by decide) (Res.of h ⟨Z,v⟩))
 | mI=>
  exact .eq (nq (by decide) (by decide) R) (up (j:=1) (by decide) (rz (d:=d+2) (t:=[-1,-1]) (g:=[-1]) (funext λH=>K9) (show 2<100 by decide) (show m+1<100000 by exact pY s) R))
 | mJ=>
  exact .eq (nq (by decide) (by decide) R) (up (j:=1) (by decide) (rz (d:=d+2) (t:=[-2]) (g:=[-1]) (funext λH=>Pe) (show 1<100 by decide) (show m+1<100000 by exact pY s) R))
 | mK=>
  exact .eq (nq (by decide) (by decide) R) (up (j:=1) (by decide) (rz (d:=d+2) (t:=[-2,-2]) (g:=[-2]) (funext λH=>La) (show 2<100 by decide) (show m+1<100000 by exact pY s) R))
 | lX i=>
  refine ak (Lh (d:=d+5) w (pY s) R) λW h v=>?_;exact .eq (gV (by decide) (by decide) R) (up (j:=1) (by decide) (Res.of h ⟨Z,v⟩))
 | lY i=>
  show Res pl (ae GG PP (d+8) "StackCheck.step" [.obj e.c,.tup [.int 33,.int i]] H) ((P.av [e.places.getD i 0] x.f).map λp=>P.push [] p.2) _;rw[gV (by decide) (by decide) R,zW,L2];exact(Li (d:=d+3) w R).void.step (Q':=QF e pl (m+6) K is x Y) λu u u q=>⟨q.1,q.2.choose_spec.2.up (UU) s⟩
 | lZ i=>
  show Res pl (ae GG PP (d+8) "StackCheck.step" [.obj e.c,.tup [.int 34,.int i]] H) ((P.av [e.places.getD i 0] x.f).map λp=>P.push [e.places.getD i 0] p.2) _;rw[gV (by decide) (by decide) R,zW,L2];exact(Lj (d:=d+3) w (pY s) R).void.step (Q':=QF e pl (m+6) K is x Y) λu u u q=>⟨q.1,q.2.choose_spec.2.up (Mk) s⟩
 | sQ=>
  exact .eq ((dC (by decide) R).trans (cx void (Ur R))) (up (j:=0) (by decide) (Res.of (H':=H) Z ⟨Z,R⟩))
def iW (aa:J T)(st:J S):P.I->Prop
 | .op o=>mR aa (st.length+1) o
 | .bZ c m=>(c=2\/c=3\/c=4)/\m∈marks
 | .cE=>∃g,st=4::g
 | .fin=>w1
def gM(h:g∈marks):(P.tk g).length<=2/\(P.gv g).length<=2:=by
 simp only[marks,a8,eA,hK] at h;rcases h with rfl | rfl | rfl | rfl | rfl | rfl | rfl | rfl | rfl<;>exact au (by decide) (by decide)
def Lm(j:P.I)(b:m+6<100000)(I:FI e st (x::Y))(w:iW e.places st j)(R:Rep e pl m K H is (x::Y)):Res pl (ae GG PP (d+8) "StackCheck.step" [.obj e.c,iv j] H) (P.bJ e.places j (x::Y)) λs v y=>v=.none/\∃z,Rep e pl (m+6) K y z s:=by
 have g:=I.s x (.head _);cases j with
 | op o=>exact(Ll (d:=d) o b I w R).step λa a a q=>⟨q.1,_,q.2⟩
 | bZ c p=>
  haveI l:=gM w.2;show Res pl (ae GG PP (d+8) "StackCheck.step" [.obj e.c,.tup [.int c,.int p]] H) ((P.av (if c=4 then -1::P.tk p else P.tk p) x.f).map _) _;have hc:(c:T)=2\/(c:T)=3\/(c:T)=4:=by have:=w.1;exact yC this
  rw[dC (by exact z25 hc) R];haveI h:=Lg (d:=d+2) hc w.2 (by exact z26 l) (by exact UX b l) R;have e1:(if(c:T)=4 then -1::P.tk p else P.tk p)=(if c=4 then -1::P.tk p else P.tk p):=by
   by_cases h4:c=4
   ·rw[dE h4,dE (by exact Mm h4)]
   ·rw[dm h4,dm (by exact Mn h4)]
  rw[e1] at h;exact h.void.mono λa a a q=>⟨q.1,q.2.choose_spec.2.choose,q.2.choose_spec.2.choose_spec.up (by exact UZ l) b⟩
 | cE=>
  refine aH w λW i=>?_;clear w;subst i;show Res pl (ae GG PP (d+8) "StackCheck.step" [.obj e.c,.tup [.int 5]] H) _ _;rw[dC (by decide) R,Us R];exact(HE (d:=d) (by exact U0 g) ((GS I.c).1) (by exact UX b g) R).void.void.mono λa a a q=>⟨q.1,q.2.choose_spec.2.choose_spec.2.choose,q.2.choose_spec.2.choose_spec.2.choose_spec.up (by exact UZ g) b⟩
 | fin=>
  show Res pl (ae GG PP (d+8) "StackCheck.step" [.obj e.c,.tup [.int 11]] H) _ _;rw[dC (by decide) R,Pk R];exact(Pd (d:=d) (by exact U0 g) (by exact z37 b g) R).void.void.mono λa a a q=>⟨q.1,q.2.choose_spec.2.choose_spec.2.choose,q.2.choose_spec.2.choose_spec.2.choose_spec.up (by exact z38 g) b⟩
end
section
variable{e:Ch}{pl:T}{m d k n:S}{K:J (S×AO)}{H:Hp}{is:J S}{Y:J P.FF}{x:P.FF}{i:S}{C:CS}{o W:AO}{r:J AV}{st:J S}
noncomputable def hv:aI T->AV
 | none=>.none
 | some h=>.int h
theorem Fc:∀Y:J P.FF,P.sS Y=((cS Y).length:T)
 | []=>rfl
 | x::Y=>by
  dsimp only[P.ve,P.vg];simp only[Fc Y,cq,a9];exact z0
def aeG(e:Ch)(pl a:T):put "at" (.int a) (e.Y pl)=e.Y a:=by
 simp only[Ch.Y,mw,a7.reduceEq,kc,i5]
def Rep.ato(R:Rep e pl m K H is Y)(a:T):Rep e a m K (H.set e.c (.inst "Checker" (e.Y a))) is Y:=⟨R.len,R.t,R.f,R.m,R.o.set [] _⟩
def eG:J MS:=[.cH .S "at" (.loc "at"),.iff (.cmp (.bi "len" [.attr .S "blocks"]) .Eq (.n 0)) [.Z "type mismatch"] [],.asg "block" (.sub (.attr .S "blocks") (.n (-1))),.expr (.aK (.loc "found") "append" [.ite (.or [.attr (.loc "block") "is_dead",.attr (.loc "block") "is_buried"]) (.lit .none) (.bi "len" [.attr .S "values"])]),.expr (.M "step" "StackCheck.step" [.loc "instruction"])]
def DG(j:P.I){a:T}(E:é.length<1000)(à:m+6<100000)(I:FI e st (x::Y))(w:iW e.places st j)(R:Rep e pl m ((n,.list é)::K) H is (x::Y))(U:ρ.lookup "self"=O (.obj e.c))(V:ρ.lookup "found"=O (.obj n))(h3:ρ.lookup "at"=O (.int a))(h4:ρ.lookup "instruction"=O (iv j)):match P.bJ e.places j (x::Y) with
  | some è=>∃i H',execs GG (ae GG PP (d+8)) k eG ρ H=.ok (.next,put "block" (.obj i) ρ) H'/\∃s,Rep e a (m+6) ((n,.list (é++[hv (P.note (x::Y))]))::K) H' s è
  | none=>execs GG (ae GG PP (d+8)) k eG ρ H=.bH "type mismatch" 0 a:=by
 refine d9 (R.cons) λi is G=>?_;subst G;haveI g:=R.ato a;have C:=g.put (.list (é++[hv (P.note (x::Y))]));haveI h:=Lm (d:=d) j à I w C;haveI L:é.length<aZ:=by unfold aZ;exact z2 E
 haveI k1:(put "block" (.obj i) ρ).lookup "self"=O (.obj e.c):=aE (by kernel_rfl) U;haveI p:(put "block" (.obj i) ρ).lookup "block"=O (.obj i):=bQ;have y:=λv (q:hv (P.note (x::Y))=v)=>Facts.r (r6 g.cell L (cx (λz=>é++[z]) q.symm)) .nil;have u:=λF t=>Facts.v h3 (.v U (.o R.hc (.d (.v U (.o g.hc (.v (dO g.hb) (.d (.t (a0 (by rw[d3,eb];exact z4):decide ((((i::is).reverse.map AV.obj).length:T)=0)=aN) (.v U (.o g.hc (.v ((b7 g.hb).trans (dT (i:=i) (l:=is))) (.v (aE (x:="block") (v:=.obj i) (by kernel_rfl) V) (.o g.cell (.v p (.o g.hi (F:=F) t)))))))))))))));have A:execs GG (ae GG PP (d+8)) k (eG.take 4) ρ H=.ok (.next,put "block" (.obj i) ρ) ((H.set e.c (.inst "Checker" (e.Y a))).set n (.list (é++[hv (P.note (x::Y))]))):=by
  refine gz x.f.dead (λq=>?_) λq=>eL (u _ (.t q (.d (y .none (by show hv (if(x.f.dead||x.d7)=X then _ else _)=_;refine ah q ?_;rfl))))) (by kernel_rfl);refine gz x.d7 (λr=>?_) λr=>?_
  ·exact eL (u _ (.t q (.v p (.o g.hi (.t r (.d (.v k1 (.o g.hc (.v ((dO g.hv).trans (cx (λn:S=>O (AV.int n)) eZ)) (y (.int (cS (x::Y)).length) (by show hv (if(x.f.dead||x.d7)=X then _ else _)=_;rw[q,r,Fc];rfl))))))))))) (by kernel_rfl)
  ·exact eL (u _ (.t q (.v p (.o g.hi (.t r (.d (y .none (by show hv (if(x.f.dead||x.d7)=X then _ else _)=_;rw[q,r];rfl)))))))) (by kernel_rfl)
 have s2:=λF t=>Facts.v k1 (.o C.hc (.v (aE (by kernel_rfl) h4:(put "block" (.obj i) ρ).lookup "instruction"=O (iv j)) (F:=F) t));refine az (P.bJ e.places j (x::Y)) ?_ ?_
 ·intro hp;rw[hp] at h;exact(fG (b:=eG.drop 4) A).trans (eL (s2 _ (.r h .nil)) (by kernel_rfl))
 ·intro è hp;simp only[hp] at h;obtain⟨v,H',h,rfl,s,D⟩:=h;exact⟨i,H',(fG (b:=eG.drop 4) A).trans (eL (s2 _ (.r h .nil)) (by kernel_rfl)),s,D⟩
def Uv:(a::b::l).getLastD []=(b::l).getLastD []:=Z
set_option tactic.hygienic true in
def FI.step(I:FI e st (x::Y))(w:iW e.places st j)(p:P.dM [j] st=O q)(h:P.bJ e.places j (x::Y)=O g):FI e q g:=by
 refine⟨(P.vd I.c h p),?_,?_,I.kl⟩
 ·cases j with
  | op o=>
   refine dP g (h7.mp h) λf b=>?_;intro y a;rcases a8.mp a with rfl | a
   ·exact I.s x (.head _)
   ·exact I.s y (.tail _ a)
  | bZ c L=>
   refine dP g (h7.mp h) λf b=>?_;intro y a;rcases a8.mp a with rfl | a
   ·exact gM w.2
   ·rcases a8.mp a with rfl | a
    ·exact I.s x (.head _)
    ·exact I.s y (.tail _ a)
  | cE=>
   revert h;refine aJ ?_ ?_<;>intro _ h
   ·injection h with h;subst h
    intro y a;rcases a8.mp a with rfl | a
    ·exact I.s x (.head _)
    ·exact I.s y (.tail _ a)
   ·injection h
  | fin=>
   revert h;refine aJ ?_ ?_<;>intro _ h
   ·cases Y with
    | nil=>injection h with h;subst h;intro y a;cases a
    | cons z Y=>
     injection h with h;subst h
     intro y a;rcases a8.mp a with rfl | a
     ·exact I.s z (.tail _ (.head _))
     ·exact I.s y (.tail _ (.tail _ a))
   ·injection h
 ·cases j with
  | op o=>
   exact dP g (h7.mp h) λf b=>I.k
  | bZ c L=>
   exact dP g (h7.mp h) λf b=>I.k
  | cE=>
   revert h;refine aJ ?_ ?_<;>intro _ h
   ·rename_i d;injection h with h;subst h
    haveI e1:P.FF.sR ⟨5,x.t,x.g,⟨x.t,aN⟩,x.d7⟩=P.FF.sR x:=by
     delta P.FF.sR;rw[dm (by show ¬(5:T)=3;decide),dm (by rw[d.1];decide)]
    show(P.FF.sR ⟨5,x.t,x.g,⟨x.t,aN⟩,x.d7⟩::P.bo Y).getLastD []=e.K;exact ah e1 (I.k)
   ·injection h
  | fin=>
   cases st with
   | nil=>injection p
   | cons c st=>
    revert h;refine aJ ?_ ?_<;>intro _ h
    ·cases Y with
     | nil=>have:=I.len;injection this with this;injection this
     | cons z Y=>
      injection h with h;subst h
      exact I.k
    ·injection h
theorem LW.iW{g:J T}{j:P.I}{is:J P.I}(h:LW g st (j::is)):iW g st j:=by
 cases j with
 | op o=>exact h.1
 | bZ c m=>exact au h.1 h.2.1
 | cE=>
  cases st with| nil=>exact h.elim| cons c st=>refine aq (h:c=4/\_) λa=>?_;clear h;subst a;intro b;exact bq st Z
 | fin=>exact fo
def LW.next{is:J P.I}(h:LW g st (j::is)):(∃p,P.dM [j] st=O p/\LW g p is/\(P.wf st (j::is)->P.wf p is))\/(j=.fin/\st=[]/\is=[]):=by
 cases j with
 | op o=>exact .inl ⟨st,Z,h.2,id⟩
 | bZ c m=>exact .inl ⟨c::st,by show(if c=5 then Q else _)=_;refine ah (dm (by have:=h.1;exact IU this)) ?_;rfl,h.2.2.2,RX⟩
 | cE=>
  cases st with| nil=>exact h.elim| cons c st=>refine rG c (h:c=4/\_) ?_;intro h;exact .inl ⟨5::st,Z,h,RX⟩
 | fin=>
  cases st with| nil=>exact .inr ⟨Z,Z,h⟩| cons c st=>exact .inl ⟨st,Z,h,id⟩
noncomputable def sd:S->J AV->J AV
 | _,[]=>[]
 | a,v::vs=>.tup [.int a,v]::sd (a+1) vs
theorem B3:∀(l:J AV) (a:S),(l.zipIdx a).map (λp=>AV.tup [.int p.2,p.1])=sd a l
 | [],a=>rfl
 | v::l,a=>by
  exact cx _ (B3 l (a+1))
theorem vA:∀(is:J P.I) {st:J S}{a m:S}{pl:T}{H:Hp}{z:J S}{Y:J P.FF}{ρ:Loc}{acc:J AV},P.wf st is->LW e.places st is->FI e st Y->acc.length+is.length<1000->m+6*is.length<100000->Rep e pl m ((n,.list acc)::K) H z Y->ρ.lookup "self"=O (.obj e.c)->ρ.lookup "found"=O (.obj n)->
  match P.run e.places is Y with
  | some é=>é=[]/\∃L H' VX m',c0 GG (ae GG PP (d+8)) k eG (.many ["at","instruction"]) (sd a (is.map iv)) ρ H=.ok (.next,L) H'/\L.lookup "self"=O (.obj e.c)/\L.lookup "found"=O (.obj n)/\Rep e VX m' ((n,.list (acc++(P.sT e.places is Y).map hv))::K) H' [] []
  | none=>c0 GG (ae GG PP (d+8)) k eG (.many ["at","instruction"]) (sd a (is.map iv)) ρ H=.bH "type mismatch" 0 ((a+P.et e.places is Y:S):T)
 | [],st,a,m,pl,H,z,Y,ρ,acc,hw,hl,I,ha,hm,R,U,V=>hw.elim
 | j::is,st,a,m,pl,H,z,Y,ρ,acc,hw,hl,I,ha,hm,R,U,V=>by
  cases Y with
  | nil=>have:=I.len;injection this
  | cons x Y=>
   haveI k1:(put "instruction" (iv j) (put "at" (.int a) ρ)).lookup "self"=O (.obj e.c):=aE (by kernel_rfl) (aE (by kernel_rfl) U);haveI k2:(put "instruction" (iv j) (put "at" (.int a) ρ)).lookup "found"=O (.obj n):=aE (by kernel_rfl) (aE (by kernel_rfl) V);haveI k3:(put "instruction" (iv j) (put "at" (.int a) ρ)).lookup "at"=O (.int a):=aE (by kernel_rfl) bQ;haveI g:(put "instruction" (iv j) (put "at" (.int a) ρ)).lookup "instruction"=O (iv j):=bQ;have t:=DG (d:=d) (k:=k) j (by dsimp only[ff] at ha;exact Bg ha) (z35 (UY ((ff)▸hm))) I hl.iW R k1 k2 k3 g;haveI e0:c0 GG (ae GG PP (d+8)) k eG (.many ["at","instruction"]) (sd a ((j::is).map iv)) ρ H=(execs GG (ae GG PP (d+8)) k eG (put "instruction" (iv j) (put "at" (.int a) ρ)) H).bind (mP GG (ae GG PP (d+8)) k eG (.many ["at","instruction"]) (sd (a+1) (is.map iv))):=fW Z;refine ah e0 ?_;generalize put "instruction" (iv j) (put "at" (.int a) ρ)=cw at k1 k2 k3 g t;rw[P.dU,P.zr,P.JI];clear k3 g e0;refine az (P.bJ e.places j (x::Y)) ?_ ?_
   ·intro hp;rw[hp] at t;refine ah t ?_;rfl
   ·intro f hp;rw[hp] at t;dsimp only[dV];obtain⟨i,H',t,p,l⟩:=t;refine ah t ?_;rcases hl.next with⟨u,hs,o,q⟩ | ⟨rfl,rfl,rfl⟩
    ·have b:=vA is (a:=a+1) (ρ:=put "block" (.obj i) cw) (q hw) o (I.step hl.iW hs hp) ((a9)▸Bf ha) (UY ((ff)▸hm)) l (aE (by kernel_rfl) k1) (aE (by kernel_rfl) k2);clear hs;refine az (P.run e.places is f) ?_ ?_
     ·intro h;rw[h] at b;dsimp only at b ⊢;exact(show a+(P.et e.places is f+1)=a+1+P.et e.places is f by exact U1)▸b
     ·intro é h;simp only[h] at b;rw[fJ] at b;exact b
    ·haveI r:f=[]:=by
      revert hp;refine aJ ?_ ?_<;>intro s hp
      ·cases Y with
       | nil=>injection hp with hp;subst hp;rfl
       | cons y Y=>have:=I.len;injection this with this;cases this
      ·injection hp
     subst r;refine⟨Z,_,H',a,m+6,Z,(aE (by kernel_rfl) k1),(aE (by kernel_rfl) k2),?_⟩;cases p with
     | nil=>exact l
     | cons _ _=>exact nomatch l.len
end
section
variable{e:Ch}{pl:T}{m d k n:S}{K:J (S×AO)}{H:Hp}{is:J P.I}{Y:J P.FF}{x:P.FF}{i:S}{C:CS}{o z:AO}{r:J AV}{st:J S}{own:T}
def pR (own:T):Loc:=[("kinds",kJ),("funcs",.lst [.int own]),("tables",.lst []),("memories",.lst []),("globals",.lst []),("elems",.lst []),("datas",.int 0),("declared",.ny)]
def zX (own:T)(is:J P.I):Loc:=[("kind",.int own),("locals",.tup (aj [-1,-2,-17])),("body",.lst (is.map iv))]
def sl:(pR own).lookup "kinds"=O kJ/\(pR own).lookup "funcs"=O (.lst [.int own]):=⟨Z,Z⟩
theorem nl:(zX own is).lookup "kind"=O (.int own)/\(zX own is).lookup "locals"=O (.tup (aj [-1,-2,-17]))/\(zX own is).lookup "body"=O (.lst (is.map iv)):=⟨Z,Z,Z⟩
noncomputable def DH (lk g pl h:AV)(n:S):Loc:=[("kinds",lk),("funcs",g),("function",.int 0),("locals",pl),("results",h),("values",.obj (n+1)),("blocks",.obj (n+3)),("at",.int 0)]
def HN:PP "StackCheck.__init__"=O kL:=Z
def afi:GG "FUNCTION"=O (.int (-1)):=Z
def HP{fn pl:AV}:ae GG PP (d+2) "StackCheck.__init__" [.obj H.length,lk,fn,.int 0,pl,rs] (H++[.inst "Checker" []]) =
  .ok .none (H++[.inst "Checker" (DH lk fn pl rs H.length),.list [],.inst "Block" [("code",.int (-1)),("params",.tup []),("results",rs),("height",.int 0),("is_dead",.bool aN),("is_buried",.bool aN)],.list [.obj (H.length+2)]]):=by
 let g:Loc:=[("self",.obj H.length),("kinds",lk),("funcs",fn),("function",.int 0),("places",pl),("results",rs)];let F:Loc:=[("kinds",lk),("funcs",fn),("function",.int 0),("locals",pl),("results",rs)];have e1:ev GG (ae GG PP (d+1)) cu (.list aN []) g (H++[.inst "Checker" F])=.ok (.obj (H.length+1)) (H++[.inst "Checker" F,.list []]):=by
  show eH aN [] _=_;simp only[eH,a9,ff,qg,fJ,lg,k8,la,i5,ia,kc]
 let s:Hp:=H++[.inst "Checker" (put "values" (.obj (H.length+1)) F),.list []];let j:AO:=.inst "Block" [("code",.int (-1)),("params",.tup []),("results",rs),("height",.int 0),("is_dead",.bool aN),("is_buried",.bool aN)];have a:ev GG (ae GG PP (d+1)) cu (.list aN [.new "Block" "Block.__init__" [.glob "FUNCTION",.tup [],.loc "results",.n 0,.lit (.bool aN)]]) g s=.ok (.obj (H.length+3)) (H++[.inst "Checker" (put "values" (.obj (H.length+1)) F),.list [],j,.list [.obj (H.length+2)]]):=
  Vj (b:=.ok (.obj (s++[j]).length) ((s++[j])++[.list [.obj s.length]])) (tQ (.r (tS (d:=d) (H:=s) (c:=.int (-1)) (p:=.tup []) (r:=rs) (h:=.int 0) (b:=.bool aN)) .nil) (by kernel_rfl)) (by simp only[s,a9,ff,qg,fJ,lg,k8,zQ,S.reduceAdd])
 exact(aY HN (by decide) Z).trans (mf ((fG (r8 (q:=[]) (Y:=[]) (ρ:=g) (fs':=F) (l:=[("kinds","kinds",Q),("funcs","funcs",Q),("function","function",Q),("locals","places",Q),("results","results",Q)]) Z (by kernel_rfl))).trans
  ((aU (DF Z e1 (by decide:5<100))).trans ((aU (DF Z a (by decide:6<100))).trans (r8 (l:=[("at","",O (.int 0))]) (ρ:=g) Z (by kernel_rfl))))))
def HQ:PP "Checker.__init__"=O nB:=Z
def HR{pl:AV}(g:(H:Hp)[s]?=O (.inst "Scope" (pR own))):ae GG PP (d+3) "Checker.__init__" [.obj H.length,.obj s,.int 0,pl,rs] (H++[.inst "Checker" []]) =
  .ok .none (H++[.inst "Checker" (DH kJ (.lst [.int own]) pl rs H.length++[("scope",.obj s)]),.list [],.inst "Block" [("code",.int (-1)),("params",.tup []),("results",rs),("height",.int 0),("is_dead",.bool aN),("is_buried",.bool aN)],.list [.obj (H.length+2)]]):=by
 haveI h:(H++[AO.inst "Checker" []])[s]?=O (.inst "Scope" (pR own)):=(hH (fb.mp g).1).trans g;exact(aY HQ (by decide) Z).trans (mf ((aU (nk (.o h (.o h (.r (HP (d:=d) (H:=H) (lk:=kJ) (fn:=.lst [.int own]) (pl:=pl) (rs:=rs)) .nil))) (by kernel_rfl))).trans (r8 (ρ:=[("self",.obj H.length),("scope",.obj s),("function",.int 0),("places",pl),("results",rs)]) (Y:=DH kJ (.lst [.int own]) pl rs H.length) (l:=[("scope","scope",Q)]) Z (by kernel_rfl))))
def HT(h:0<=own/\own<5):∃l,kJ=.lst l/\b8 l own=O (.tup [.tup (aj (P.arrow own).1),.tup (aj (P.arrow own).2)])/\l.length=5:=by
 have:own=0\/own=1\/own=2\/own=3\/own=4:=Mp h;refine dQ _ Z ?_ Z;clear h;rcases this with rfl | rfl | rfl | rfl | rfl<;>rfl
def pz (H:Hp)(s:S)(own:T):Ch:=⟨H.length,H.length+1,H.length+3,s,own,(P.arrow own).1++[-1,-2,-17],P.gv own⟩
def Lo:PP "checker_of"=O qh:=Z
def Lp(h:0<=own/\own<5)(L:Own K H)(p:H[s]?=O (.inst "Scope" (pR own)))(a:H[f]?=O (.inst "Func" (zX own is))):∃y,ae GG PP (d+4) "checker_of" [.obj s,.int 0,.obj f] H=.ok (.obj H.length) y/\Rep (pz H s own) 0 1 K y [H.length+2] (P.start (P.gv own)):=by
 refine cR (HT h) λl j e k=>?_;have l1:(aj (P.arrow own).1).length<=aZ/\(aj (P.arrow own).2).length<=aZ/\(aj (P.arrow own).1++aj [-1,-2,-17]).length<=aZ:=by
  have:own=0\/own=1\/own=2\/own=3\/own=4:=Mp h;clear h p a e;rcases this with rfl | rfl | rfl | rfl | rfl<;>exact cG (by decide) (by decide) (by decide)
 haveI q:aj ((P.arrow own).1++[-1,-2,-17])=aj (P.arrow own).1++aj [-1,-2,-17]:=l9;haveI e1:(pz H s own).Y 0=DH kJ (.lst [.int own]) (.tup (aj (P.arrow own).1++aj [-1,-2,-17])) (.tup (aj (P.arrow own).2)) H.length++[("scope",.obj s)]:=by
  delta Ch.Y pz;refine ah q (ah (show(P.gv own).reverse=(P.arrow own).2 from hC _) ?_);rfl
 haveI i:da ⟨-1,[],P.gv own,⟨[],aN⟩,aN⟩ 0=[("code",.int (-1)),("params",.tup []),("results",.tup (aj (P.arrow own).2)),("height",.int 0),("is_dead",.bool aN),("is_buried",.bool aN)]:=by
  delta da;refine ah (show(P.gv own).reverse=(P.arrow own).2 from hC _) ?_;rfl
 haveI g:=HR (d:=d) (pl:=.tup (aj (P.arrow own).1++aj [-1,-2,-17])) (rs:=.tup (aj (P.arrow own).2)) p;rw[<-e1,<-i] at g;refine ay (H++[.inst "Checker" ((pz H s own).Y 0),.list [],.inst "Block" (da ⟨-1,[],P.gv own,⟨[],aN⟩,aN⟩ 0),.list [.obj (H.length+2)]]) ?_ ?_
 ·exact(aY Lo (by decide) Z).trans (aQ (.o a (.c (cB h.1) (.o p (.d (.c (x:=eo (own<5)) (cB h.2) (.d (.o p (.o a (.v (j▸jq (H:=H) e:di H kJ (.int own)=O (.tup [.tup (aj (P.arrow own).1),.tup (aj (P.arrow own).2)])) (.v (E4 (H:=H) l1.1) (.o a (.d (.v (Ua l1.2.2) (.v (E4 (H:=H) l1.2.1) (.r g .nil))))))))))))))) (by kernel_rfl))
 ·haveI b:=(((L.new (.inst "Checker" ((pz H s own).Y 0))).new (.list [])).new (.inst "Block" (da ⟨-1,[],P.gv own,⟨[],aN⟩,aN⟩ 0))).new (.list [.obj (H.length+2)]);simp only[a9,fJ,lg,k8] at b;exact⟨Z,la _,gk _,by decide,(b.front [_,_,_]).perm (J.Perm.cons _ (tp (l₁:=[_,_])))⟩
def HU:PP "StackCheck.check"=O eT:=Z
def HV(h:0<=own/\own<5):FI (pz H s own) [] (P.start (P.gv own)):=by
 have g:(P.gv own).length<=2:=by
  have:own=0\/own=1\/own=2\/own=3\/own=4:=Mp h;clear h;rcases this with rfl | rfl | rfl | rfl | rfl<;>decide
 refine⟨Z,λy a=>?_,Z,g⟩;rcases a8.mp a with rfl | a
 ·exact au (la _) g
 ·cases a
def HW{e:Ch}(n:P.wf [] is)(s:LW e.places [] is)(I:FI e [] (P.start y))(i:is.length<900)(R:Rep e pl m K H è (P.start y))(q:m<1000):match P.run e.places is (P.start y) with
  | some L=>L=[]/\∃W,ae GG PP (d+9) "StackCheck.check" [.obj e.c,.lst (is.map iv)] H=.ok (.lst ((P.sT e.places is (P.start y)).map hv)) W/\Own K W
  | none=>ae GG PP (d+9) "StackCheck.check" [.obj e.c,.lst (is.map iv)] H=.bH "type mismatch" 0 (P.et e.places is (P.start y):S):=by
 haveI j:=λF (t:Facts F)=>Facts.f (x:=dR (.lst (is.map iv))) Z t;have h:=B3 (is.map iv) 0▸vA (d:=d) (k:=5) is (a:=0) (ρ:=[("self",.obj e.c),("body",.lst (is.map iv)),("found",.obj H.length)]) (acc:=[]) n s I (by simp;exact U6 i) (by exact z75 i q) (R.alloc (.list [])) Z Z;refine az (P.run e.places is (P.start y)) ?_ ?_
 ·intro hp;rw[hp] at h;rw[zQ] at h;exact(aY HU (by decide) Z).trans (aQ (j _ (.l h .nil)) (by kernel_rfl))
 ·intro L hp;rw[hp] at h;clear hp;obtain⟨rfl,é,W,w,m',h,p,u,g⟩:=h;refine⟨Z,_,?_,((g.put .dead).free).o.tail.tail.tail⟩;exact(cx (·.bind bM) (fG (ρ1:=é) (H1:=W) (a:=eT.body.take 2) (b:=eT.body.drop 2) (hW (j _ (.l h .nil)) (by kernel_rfl)))).trans (lp (.v p (.o g.hc (.v (dO g.hb) (.d (.d (.v u (.r (rt g.cell) .nil))))))) (by kernel_rfl))
end
section
variable{d k n:S}{K:J (S×AO)}{H:Hp}{is:J P.I}{own:T}
def Ux:PP "check_function"=O fL:=Z
def Uy:PP "heights_of"=O lM:=Z
def Pr{a:J T}(m:a=(P.arrow own).1++[-1,-2,-17])(h:0<=own/\own<5)(j:P.wf [] is)(l:LW a [] is)(k:is.length<900)(W:Own K H)(z:(s,AO.inst "Scope" (pR own))∈K)(g:(f,AO.inst "Func" (zX own is))∈K):match P.run a is (P.start (P.gv own)) with
  | some p=>p=[]/\∃x,ae GG PP (d+10) "check_function" [.obj s,.int 0,.obj f] H=.ok .none x/\ae GG PP (d+10) "heights_of" [.obj s,.int 0,.obj f] H=.ok (.lst ((P.sT a is (P.start (P.gv own))).map hv)) x/\Own K x
  | none=>ae GG PP (d+10) "check_function" [.obj s,.int 0,.obj f] H=.bH "type mismatch" 0 (P.et a is (P.start (P.gv own)):S):=by
 subst m;refine ak (Lp (d:=d+5) h W (W.at z) (W.at g)) λq U R=>?_;haveI c:=R.o.at (.tail _ (.tail _ (.tail _ (.tail _ g))));haveI hc:=HW (d:=d) (e:=pz H s own) j l (HV h) k R (by decide);refine ah (aY Ux (by decide) Z) (ah (aY Uy (by decide) Z) ?_);haveI y:((pz H s own).Y 0).lookup "check"=Q:=Z;refine az (P.run (pz H s own).places is (P.start (P.gv own))) ?_ ?_
 ·intro hp;have hc:=hp▸hc;haveI hc:ae GG PP (d+9) "StackCheck.check" [.obj H.length,.lst (is.map iv)] q=_:=hc;have b:q[H.length]?=_:=R.hc;simp only[fL,bB,aB,aM,wC,wD,fE,b6,bu,gT,bc,mO,BO,zx,dB,dI,PV,A5,jg,a7.reduceBEq,U,b,c,nl,hc];rfl
 ·intro p hp;rw[hp] at hc;obtain⟨e1,L,hc,i⟩:=hc;haveI hc:ae GG PP (d+9) "StackCheck.check" [.obj H.length,.lst (is.map iv)] q=_:=hc;haveI b:q[H.length]?=_:=R.hc;refine⟨e1,L,?_,?_,i⟩
  ·simp only[fL,bB,aB,aM,wC,wD,fE,b6,bu,gT,fF,bc,kX,mO,BO,zx,cL,bM,dB,dI,PV,A5,jg,a7.reduceBEq,VA,i5,kc,dE,a7.reduceEq,ia,Ud,aS.not_false,and_self,and_true,reduceCtorEq,U,b,y,c,nl,hc]
  ·simp only[lM,bB,abB,aB,aM,wC,wD,fE,b6,bu,q9,fF,bc,tO,mO,BO,zx,cL,bM,dB,dI,PV,A5,jg,a7.reduceBEq,VA,i5,kc,dE,a7.reduceEq,reduceCtorEq,U,b,y,c,nl,hc];rfl
def bW (b:P.aG):J AV:=b.map λe=>.lst (aj e)
noncomputable def du (e:J S):J AV:=e.reverse.map λ(i:S)=>AV.int i
def HX:PP "_law_place"=O qi:=Z
theorem iF(hb:H[b]?=O (.list (bW g)))(e:g.length<1000000):ae GG PP (d+1) "_law_place" [.obj b,.lst (aj ks)] H=.ok (.int g.length) (H.set b (.list (bW (g++[ks])))):=by
 haveI e1:bW (g++[ks])=bW g++[.lst (aj ks)]:=by delta bW;simp
 haveI c:(bW g).length<aZ:=by delta bW aZ;rw[d3];exact z40 e
 haveI a:(((bW g++[AV.lst (aj ks)]).length:S):T) - 1=g.length:=by delta bW;simp
 rw[aY HX (by decide) Z];simp only[qi,bB,aB,cb,aM,d0,cZ,BP,Dx,zA,Hl,iE,vk,xN,b6,bu,mO,Dr,gy,gS,ph,sU,zy,wB,dI,dB,gT,q9,OO,bc,BQ,rh,Hr,wH,kX,tO,kFor,cL,bM,mP,Dz,zE,Hq,zF,cW,PV,A5,jg,a7.reduceBEq,VA,i5,kc,and_true,reduceCtorEq,eg,gC,bA,bS,bP,bL,bF,bO,bU,bT,bD,uZ,hb,e1,(F2 ((fb.mp hb).1)),c,a]
def dh (bk:P.aG):Prop:=∀e∈bk,e.length<=4
def dh.get(h:dh g)(i:S):(g.getD i []).length<=4:=by
 refine ah (eI) ?_;refine az (g[i]?) ?_ ?_
 ·intro e;exact la _
 ·intro a e;exact h a (x7 e)
theorem dh.set(h:dh e)(a:l.length<=4):dh (e.set i l):=λg j=>by
 rcases J.mem_or_eq_of_mem_set j with q | rfl
 ·exact h g q
 ·exact a
def dh.app(h:dh g)(i:dh j):dh (g++j):=λe m=>(ka.mp m).elim (h e) (i e)
def dh.one(a:l.length<=4):dh [l]:=λg e=>by rcases gg.mp e with rfl;exact a
def dh.ones(l:J T):dh (l.map λk=>[k]):=λe g=>dP e (hN.mp g) λa b=>(by decide:1<=4)
structure BR (b q p m:S)(n:P.bb)(bk:P.aG)(K:J (S×AO))(H:Hp):Prop where
 o:Own ((b,.list (bW bk))::(q,.list [.obj p,.bool n.any])::(p,.list (du n.ps))::K) H
 lt:∀i∈n.ps,i<bk.length
 l1:bk.length<=m
 l2:n.ps.length<=m
 m:m<500000
 k:dh bk
section
variable{b q p m:S}{L:P.bb}{bk:P.aG}
theorem BR.hb(R:BR b q p m L bk K H):H[b]?=O (.list (bW bk)):=R.o.at (.head _)
theorem BR.hq(R:BR b q p m L bk K H):H[q]?=O (.list [.obj p,.bool L.any]):=R.o.at (.tail _ (.head _))
theorem BR.hp(R:BR b q p m L bk K H):H[p]?=O (.list (du L.ps)):=R.o.at (.tail _ (.tail _ (.head _)))
theorem BR.up(R:BR b q p m L bk K H)(h:m<=e)(g:e<500000):BR b q p e L bk K H:=⟨R.o,R.lt,hD R.l1 h,hD R.l2 h,g,R.k⟩
def B4(h:i<bk.length):b8 (bW bk) (i:T)=O (.lst (aj (bk.getD i []))):=by
 delta b8 bW;rw[dE (jl _),mG,gX,eI,ee h];rfl
def B5:(bW bk).set i (.lst (aj ks))=bW (bk.set i ks):=by delta bW;simp only[J.map_set]
theorem pA:∀l:J T,intsOf (aj l)=O l
 | []=>rfl
 | a::l=>by
  show(intsOf (aj l)).map (a::·)=_;refine ah (pA l) ?_;rfl
def Pt:bf H .In (.int a) (.lst (aj l))=O (eo (a∈l))/\bf H .NotIn (.int a) (.lst (aj l))=O (!decide (a∈l)):=by
 constructor
 ·show iX (.int a) (aj l)=_;delta iX;rw[pA]
 ·show(iX (.int a) (aj l)).map (!·)=_;delta iX;rw[pA];rfl
def eq_nil(h:H[p]?=O (.list l)):bf H .Eq (.obj p) (.lst [])=O l.isEmpty:=by
 delta bf fk bD;simp only[h];clear h;cases l with| nil=>rfl| cons a l=>rfl
theorem wL(e:J S):(du e).isEmpty=e.isEmpty:=by cases e<;>simp[du]
def jU(i:S)(e:J S):du (i::e)=du e++[.int i]:=by simp[du]
def B6:J MS:=[.iff (.cmp (.sub (.loc "need") (.n 0)) .Eq (.list X [])) [.ret (.sub (.loc "need") (.n 1))] [],.asg "place" (.aK (.sub (.loc "need") (.n 0)) "pop" []),.iff (.cmp (.loc "kind") .NotIn (.sub (.loc "book") (.loc "place"))) [.ret (.lit (.bool aN))] [],.gp (.loc "book") (.loc "place") (.list X [.loc "kind"])]
theorem Lq:([]:J AV).length<=aZ:=la _
theorem nY{a:AV}:[a].length<=aZ:=by show 1<=aZ;decide
def HY:∀(W:J T) {L:P.bb}{bk:P.aG}{H:Hp}{ρ:Loc},BR b q p m L bk K H->ρ.lookup "book"=O (.obj b)->ρ.lookup "need"=O (.obj q)->
  ∃H' f é,c0 GG C k B6 (.one "kind") (aj W) ρ H=.ok (f,é) H'/\BR b q p m (P.given W L bk).2.1 (P.given W L bk).2.2 K H'/\
   ((f=.next/\(P.given W L bk).1=X)\/f=.ret (.bool (P.given W L bk).1)):=by
 intro W
 induction W with
 | nil=>intro L bk H ρ R U V;exact vO H .next ρ Z R (.inl ⟨Z,Z⟩)
 | cons a W ih=>
  intro L bk H ρ R U V;haveI k1:(put "kind" (.int a) ρ).lookup "book"=O (.obj b):=aE (by kernel_rfl) U;haveI k2:(put "kind" (.int a) ρ).lookup "need"=O (.obj q):=aE (by kernel_rfl) V;haveI k3:(put "kind" (.int a) ρ).lookup "kind"=O (.int a):=bQ;haveI A:=eq_nil R.hp;rw[wL] at A;have u:=λF t=>Facts.v k2 (.v (b7 (i:=0) R.hq) (.b A (.d (F:=F) t)));refine DV L.ps ?_ ?_
  ·intro e;rw[e] at u;rw[show P.given (a::W) L bk=(L.any,L,bk) by simp only[P.nQ,e]];exact vO H (.ret (.bool L.any)) (put "kind" (.int a) ρ) (vq (vs:=aj W) Z (eL (u _ (.v k2 (.v (b7 (i:=1) R.hq) .nil))) (by kernel_rfl))) R (.inr Z)
  ·intro i ps e;have hi:=R.lt i (ah e (.head _));haveI g:=R.o.set [(b,_),(q,_)] (.list (du ps));haveI y:(du L.ps).getLast?=O (.int i)/\(du L.ps).dropLast=du ps:=by rw[e,jU];exact au (by simp) (by simp)
   haveI s:(put "place" (.int i) (put "kind" (.int a) ρ)).lookup "book"=O (.obj b):=aE (by kernel_rfl) k1;haveI z:(put "place" (.int i) (put "kind" (.int a) ρ)).lookup "kind"=O (.int a):=aE (by kernel_rfl) k3;haveI x:(put "place" (.int i) (put "kind" (.int a) ρ)).lookup "place"=O (.int i):=bQ;have è:=λF v (c:decide (a∈bk.getD i [])=v) t=>(e▸u) _ (.v k2 (.v (b7 (i:=0) R.hq) (.o R.hp (.r (lC R.hp y.1 y.2) (.v z (.v s (.v x (.v ((b7 (g.at (.head _))).trans (B4 hi)) (.b (Pt (H:=H.set p (.list (du ps))) (l:=bk.getD i []) (a:=a)).2 (.t (F:=F) (cx i6 c) t))))))))));by_cases n:a∈bk.getD i []
   ·rw[show P.given (a::W) L bk=P.given W ⟨ps,L.any⟩ (bk.set i [a]) by simp only[P.nQ,e];exact dE n];haveI E:BR b q p m ⟨ps,L.any⟩ (bk.set i [a]) K ((H.set p (.list (du ps))).set b (.list (bW (bk.set i [a])))):=
     ⟨g.set [] _,λj w=>by refine ah kb ?_;exact R.lt j (by rw[e];exact .tail _ w),by refine ah kb ?_;exact R.l1,by have:=R.l2;rw[e,ff] at this;exact q7 this,R.m,R.k.set (by show 1<=4;decide)⟩
    refine gA (ih E s (ρ:=put "place" (.int i) (put "kind" (.int a) ρ)) (aE (by kernel_rfl) k2)) λH' f é h D h3=>?_;exact vO H' f é ((vn Z (eL (è _ _ (cB n) (.v z (.v s (.v x (.l (JM (ρ:=put "place" (.int i) (put "kind" (.int a) ρ)) (v:=.lst [.int a]) (i:=(i:T)) (g.at (.head _)) ⟨jl _,by delta bW;rw[d3];exact D3 hi⟩ (B5 (ks:=[a]))) .nil))))) (by kernel_rfl))).trans h) D h3
   ·rw[show P.given (a::W) L bk=(aN,⟨ps,L.any⟩,bk) by simp only[P.nQ,e];exact dm n];exact vO (H.set p (.list (du ps))) (.ret (.bool aN)) (put "place" (.int i) (put "kind" (.int a) ρ)) (vq (vs:=aj W) Z (eL (è _ _ (a0 n) .nil) (by kernel_rfl))) ⟨g,λj w=>R.lt j (by rw[e];exact .tail _ w),R.l1,by have:=R.l2;rw[e,ff] at this;exact q7 this,R.m,R.k⟩ (.inr Z)
def HZ:PP "_law_given"=O my:=Z
def tU(R:BR b q p m L bk K H):∃i,ae GG PP (d+1) "_law_given" [.obj b,.obj q,.lst (aj ks.reverse)] H=.ok (.bool (P.given ks L bk).1) i/\BR b q p m (P.given ks L bk).2.1 (P.given ks L bk).2.2 K i:=by
 refine gA (HY (C:=ae GG PP d) (k:=5) ks (ρ:=[("book",.obj b),("need",.obj q),("kinds",.lst (aj ks.reverse))]) R Z Z) λi f j h c a=>ay i ?_ c;refine ah (aY HZ (by decide) Z) ?_;haveI g:my.body=[.cJ (.one "kind") (.rev (.loc "kinds")) B6,.ret (.lit (.bool X))]:=Z;haveI e:(aj ks.reverse).reverse=aj ks:=by simp
 refine ah g ?_;simp only[my,cu,bc,rg,wH,aM,bB,aB,zF,dR,uZ,e,kFor,PV,A5,jg,a7.reduceBEq,h];clear h;rcases a with⟨rfl,a⟩ | rfl
 ·refine ah a ?_;rfl
 ·rfl
end
end
section
variable{d k n:S}{K:J (S×AO)}{H:Hp}{own:T}{b q p m:S}{s:P.bb}{bk:P.aG}{G:a7->aI AV}{C:CS}{ρ:Loc}
def B7{e:AV->Hp->V1 (aI AV)}(hb:e x H=.ok (O v) g)(a:g[n]?=O (.list r))(b:r.length<aZ):compLoop e n (x::h) H=compLoop e n h (g.set n (.list (r++[v]))):=by
 show(match e x H with | .ok (O v) g=>_ | .ok Q g=>_ | _=>_)=_;refine ah hb ?_;dsimp only;exact ah a ((dE b))
def Lr(hb:e x H=.ok Q g):compLoop e n (x::h) H=compLoop e n h g:=by
 show(match e x H with | .ok (O v) g=>_ | .ok Q g=>_ | _=>_)=_;exact ah hb Z
noncomputable def idxs:S->S->J AV
 | _,0=>[]
 | a,n+1=>.int a::idxs (a+1) n
def aeI(x:S):idxs x 0=[]:=Z
theorem Pu(x n:S):idxs x (n+1)=AV.int ↑x::idxs (x+1) n:=rfl
theorem tV:∀(n a:S),(idxs a n).length=n
 | 0,_=>rfl
 | n+1,a=>cx oi (tV n (a+1))
theorem wM:∀(n a:S),idxs a n=((pd n).map (a+·)).map λ(i:S)=>AV.int i
 | 0,_=>rfl
 | n+1,a=>by
  haveI e:(a+1+·)=((a+·)∘oi):=by funext i;exact z1
  simp only[Gj,p2,i1,Pu,wM n (a+1)];rw[e];rfl
noncomputable abbrev wN:ME:=.call "_law_place" [.loc "book",.list X [.loc "kind"]]
def zZ:∀(e:J T) {bk:P.aG}{H:Hp}{acc:J AV},Own ((b,.list (bW bk))::(n,.list acc)::K) H->bk.length+e.length<900000->acc.length+e.length<1000->ρ.lookup "book"=O (.obj b)->
  ∃g,compLoop (pj GG (ae GG PP (d+1)) k wN "kind" [] ρ) n (aj e) H=.ok () g/\Own ((b,.list (bW (bk++e.map λk=>[k])))::(n,.list (acc++idxs bk.length e.length))::K) g:=by
 intro e
 induction e with
 | nil=>intro bk H acc j U V hb;exact ay H Z (by simpa [idxs] using j)
 | cons a e i=>
  intro bk H acc j U V hb;haveI hp:ae GG PP (d+1) "_law_place" [.obj b,.lst [.int a]] H=_:=iF (d:=d) (ks:=[a]) (j.at (.head _)) (z5 U);haveI st:pj GG (ae GG PP (d+1)) k wN "kind" [] ρ (.int a) H=.ok (O (.int bk.length)) (H.set b (.list (bW (bk++[[a]])))):=by
   simp only[pj,and_nil,bB,Dt,Hk,fE,bu,b6,dB,dI,aM,jR,eH,nY,dE,aB,jg,a7.reduceBEq,hb,hp]
  refine ak (i ((j.set [] (.list (bW (bk++[[a]])))).set [(b,_)] (.list (acc++[.int bk.length]))) (by simp only[a9];exact UW U) (by refine ah a9 ?_;exact Bf V) hb) λg h c=>?_;refine ay g ?_ ?_
  ·rw[show aj (a::e)=.int a::aj e from Z,B7 st ((j.set [] (.list (bW (bk++[[a]])))).at (.tail _ (.head _))) (by delta aZ;exact Mj V)];exact h
  ·simp only[a9,fJ] at c;exact c
def Pw(g:ev GG (ae GG PP (d+1)) (k+1) j ρ H=.ok (.lst (aj e)) H)(x:Own ((b,.list (bW bk))::K) H)(U:bk.length+e.length<900000)(V:e.length<1000)(hb:ρ.lookup "book"=O (.obj b)):∃i,ev GG (ae GG PP (d+1)) (k+1) (.comp X wN "kind" j []) ρ H=.ok (.lst (idxs bk.length e.length)) i/\Own ((b,.list (bW (bk++e.map λk=>[k])))::K) i:=by
 refine ak (zZ (d:=d) (k:=k) (ρ:=ρ) e (acc:=[]) ((x.new (.list [])).back [(b,_)]) U (by simpa using V) hb) λy h a=>ay _ ?_ ((a.set [(b,_)] .dead).drop [(b,_)]);simp only[tN,g];simp only[Dw,frozen,aB,bB,Dv,h,Du,gP,nA,(a.at (.tail _ (.head _))),cW];rfl
def B8(e:ev GG (ae GG PP (d+1)) (k+1) it ρ H=.ok (.lst (aj ks)) H)(i:Own ((b,.list (bW bk))::K) H)(U:bk.length+ks.length<900000)(V:ks.length<1000)(hb:ρ.lookup "book"=O (.obj b)):∃g p,ev GG (ae GG PP (d+1)) (k+1) (.comp aN wN "kind" it []) ρ H=.ok (.obj p) g/\Own ((b,.list (bW (bk++ks.map λk=>[k])))::(p,.list (idxs bk.length ks.length))::K) g:=by
 refine ak (zZ (d:=d) (k:=k) (ρ:=ρ) ks (acc:=[]) ((i.new (.list [])).back [(b,_)]) U (by simpa using V) hb) λj h a=>ew _ H.length ?_ a;simp only[tN,e];simp only[Dw,frozen,aB,bB,Dv,h,Du,gP,kc,ia]
theorem Lu{l:J S}:du l.reverse=l.map λ(i:S)=>AV.int i:=by delta du;rw[hC]
def rA(bk:P.aG)(e:J (J T)):du (P.fresh bk e).1.reverse=idxs bk.length e.length:=by simp only[Lu,wM];rfl
def tW:∀i∈(P.fresh bk e).1,i<bk.length+e.length:=λi hi=>by
 refine dP i (hN.mp hi) λj a=>?_;have:=QG.mp a;exact z20 this
def Px(a:g.length<=4)(R:BR b q p m s bk K H)(c:m+4<500000)(j:ev GG (ae GG PP (d+1)) (k+1) (.loc "takes") ρ H=.ok (.lst (aj g)) H)(hb:ρ.lookup "book"=O (.obj b))(hq:ρ.lookup "need"=O (.obj q)):∃x,aA GG (ae GG PP (d+1)) (k+1) (.expr (.aK (.sub (.loc "need") (.n 0)) "extend" [.comp X wN "kind" (.loc "takes") []])) ρ H=.ok (.next,ρ) x/\BR b q p (m+4) (P.asks g s bk).1 (P.asks g s bk).2 K x:=by
 refine ak (Pw (d:=d) (k:=k) j R.o (by have:=R.l1;exact z21 a c this) (z23 a) hb) λy h z=>?_;haveI f:(du s.ps++idxs bk.length g.length).length<=aZ:=by
  simp only[a9,tV];delta du aZ;have:=R.l2;rw[d3,eb];exact z24 a c this
 haveI e:du ((P.fresh bk (g.map λk=>[k])).1.reverse++s.ps)=du s.ps++idxs bk.length g.length:=by
  have:=rA bk (g.map λk=>[k]);rw[d3] at this;delta du at this ⊢;simp only[KX,l9,this]
 refine ay (y.set p (.list (du s.ps++idxs bk.length g.length))) ?_ ?_;rotate_left
 ·refine⟨?_,?_,?_,?_,c,R.k.app (dh.ones g)⟩;rotate_left
  ·intro i hi;simp only[show(P.asks g s bk).2=bk++g.map λk=>[k] from Z,a9,d3];refine eE (ka.mp hi) (λhi=>?_) λhi=>?_
   ·have:=tW i (hO.mp hi);rw[d3] at this;exact this
   ·exact k6 (R.lt i hi) (sX _ _)
  ·simp only[show(P.asks g s bk).2=bk++g.map λk=>[k] from Z,a9,d3];have:=R.l1;exact z28 a this
  ·show((P.fresh bk (g.map λk=>[k])).1.reverse++s.ps).length<=_;have:(P.fresh bk (g.map λk=>[k])).1.length=g.length:=by simp[P.fresh]
   refine ah a9 (ah eb ?_);refine ah this ?_;have:=R.l2;exact z31 a this
  ·show Own ((b,.list (bW (bk++g.map λk=>[k])))::(q,.list [.obj p,.bool s.any])::(p,.list (du ((P.fresh bk (g.map λk=>[k])).1.reverse++s.ps)))::K) _;exact ah e (z.set [(b,_),(q,_)] _)
 ·haveI Py:=R.hq;simp only[gT,iE,cg,aM,cb,bB,aB,fV,fU,di,bD,hq,R.hq,R.hp,e0,sU,bu,b6,dB,dI,h,ph,eg,(z.at (.tail _ (.tail _ (.head _)))),i5,kc,a7.reduceEq,f,cW,kX]
def abM:PP "_law_arrow"=O w7:=Z
theorem tX{e:T}(h:e∈marks):ae GG PP (d+1) "_law_arrow" [.int e] H=.ok (.tup [.lst (aj (P.arrow e).1),.lst (aj (P.arrow e).2)]) H:=by
 simp only[marks,a8,eA,hK] at h;rcases h with rfl | rfl | rfl | rfl | rfl | rfl | rfl | rfl | rfl<;>kernel_rfl
def tY:PP "_law_fixed"=O w8:=Z
def H8{q:J T×J T}(h:P.fixed g o=O q)(w:mR g n o):ae GG PP (d+1) "_law_fixed" [.tup (ov o),.lst (aj g)] H=.ok (.tup [.lst (aj q.1.reverse),.lst (aj q.2.reverse)]) H:=by
 haveI e:∀{i:S},i<g.length->b8 (aj g) (i:T)=O (.int (g.getD i 0)):=λ{i} f=>jS (by refine ah (eI) ?_;refine ah (ee f) ?_;rfl);cases o with
 | lX i=>exact gf h▸(aY tY (by decide) Z).trans (aQ (.d (.b (sW (H:=H) (n:=32) (a:=32) (b:=33) (c:=34)) (.d (.d (.v (jq (H:=H) (e w)) (.d (.d (.d (.d .nil))))))))) (by kernel_rfl))
 | lY i=>exact gf h▸(aY tY (by decide) Z).trans (aQ (.d (.b (sW (H:=H) (n:=33) (a:=32) (b:=33) (c:=34)) (.d (.d (.v (jq (H:=H) (e w)) (.d (.d (.d (.d .nil))))))))) (by kernel_rfl))
 | lZ i=>exact gf h▸(aY tY (by decide) Z).trans (aQ (.d (.b (sW (H:=H) (n:=34) (a:=32) (b:=33) (c:=34)) (.d (.d (.v (jq (H:=H) (e w)) (.d (.d (.d (.d .nil))))))))) (by kernel_rfl))
 | _=>first | exact gf h▸(by kernel_rfl) | exact nomatch (show Q=O _ from h)
def Aa(h:P.fixed e o=O (t,g))(w:mR e n o):ae GG PP (d+1) "_law_fixed" [.tup (ov o),.lst (aj e)] H=.ok (.tup [.lst (aj t.reverse),.lst (aj g.reverse)]) H:=H8 h w
end
section
variable{d k n:S}{K:J (S×AO)}{H:Hp}{own:T}{b q p m:S}{W:P.bb}{bk:P.aG}{G:a7->aI AV}{C:CS}{ρ:Loc}
def Own.grow(g:Own e H)(h:Hp):Own e (H++h):=⟨g.1,λp m=>by refine ah (hH (g.lt m)) ?_;exact g.2 p m⟩
theorem rB{cond:J ME}:∀(l:J AV) {acc:J AV},acc.length+l.length<1000->(∀v∈l,∀H,cX G C k cond ((x,v)::ρ) H=.ok (.bool (g v)) H)->(∀v∈l,g v=X->∀H,ev G C k e ((x,v)::ρ) H=.ok (f v) H)->
  compLoop (pj G C k e x cond ρ) H.length l (H++[.list acc])=.ok () (H++[.list (acc++(l.filter g).map f)])
 | [],acc,h,_,_=>by simp only[J.filter_nil,RV,hP];rfl
 | v::l,acc,h,hc,i=>by
  haveI b:=hc v (.head _);refine gz (g v) ?_ ?_;rotate_left
  ·intro a;haveI st:pj G C k e x cond ρ v (H++[.list acc])=.ok (O (f v)) (H++[.list acc]):=by
    rw[a] at b;simp only[pj,b,bB,Dt,i v (.head _) a,Hk]
   rw[B7 st ((λr=>oL) acc) (by delta aZ;exact Mj h),(λr c=>by simp:∀r c:J AV,(H++[AO.list r]).set H.length (.list c)=H++[.list c]),rB l (by simp only[a9,o4];exact Bf h) (λv hv=>hc v (.tail _ hv)) (λv hv=>i v (.tail _ hv)),Hb,a,dE Z,i1,fJ];rfl
  ·intro a;haveI st:pj G C k e x cond ρ v (H++[.list acc])=.ok Q (H++[.list acc]):=by
    rw[a] at b;simp only[pj,b,bB,Dt]
   refine ah (Lr st) ?_;rw[rB l (z57 h) (λv hv=>hc v (.tail _ hv)) (λv hv=>i v (.tail _ hv)),Hb,a,dm (by decide)]
def se{cond:J ME}(e:ev G C (k+1) it ρ H=.ok s H)(i:frozen s=O l)(c:l.length<1000)(hc:∀v∈l,∀H,cX G C k cond ((x,v)::ρ) H=.ok (.bool (g v)) H)(a:∀v∈l,g v=X->∀H,ev G C k elt ((x,v)::ρ) H=.ok (f v) H):ev G C (k+1) (.comp X elt x it cond) ρ H=.ok (.lst ((l.filter g).map f)) (H++[AO.dead]):=by
 haveI h:=rB (H:=H) (acc:=[]) l (by simpa using c) hc a;dsimp only[k8] at h;haveI b:∀r:J AV,(H++[AO.list r])[H.length]?=O (.list r):=λr=>oL;haveI d:∀r:J AV,(H++[AO.list r]).set H.length .dead=H++[.dead]:=λr=>by simp
 simp only[tN,e];simp only[Dw,i,aB,bB,Dv,h,Du,gP,i5,nA,b,cW,d]
theorem sZ{l:J AV}:l.filter (λa=>X)=l:=J.filter_eq_self.mpr λa a=>rfl
def cQ (L:P.Ls):J AV:=L.reverse.map λe=>.lst (aj e.reverse)
def B9:(cQ L).length=L.length:=by simp[cQ]
def Ab{L:P.Ls}{l:S}(h:l<L.length):b8 (cQ L) (((cQ L).length:T) - 1 - (l:T))=O (.lst (aj (L.getD l []).reverse)):=by
 haveI a:((cQ L).length:T) - 1 - (l:T)=((L.length - 1 - l:S):T):=ah B9 (Mq h);delta b8;refine ah a ?_;refine ah (dE (jl _)) ?_;simp only[mG];delta cQ;simp only[gX,nL (Bh h),show L.length - 1 - (L.length - 1 - l)=l by exact Mr h,eI,ee h];rfl
def H9(h:L≠[]):b8 (cQ L) 0=O (.lst (aj (L.getLastD []).reverse)):=by
 have:L.reverse[0]?=O (L.getLastD []):=by
  rw[<-J.head?_eq_getElem?,J.head?_reverse];cases L with| nil=>exact hQ Z h| cons a l=>simp[zN,J.getLast?_cons]
 show(L.reverse.map _)[0]?=_;simp only[gX,this];rfl
noncomputable def Pz (e:J T):J T:=if e=g5 e.length (e.headD 0) then[e.headD 0] else[]
def jk (e:J (J T))(k:S):J T:=Pz (e.map λs=>s.getD k 0)
def xV (e:J (J T)):S->S->J (J T)
 | _,0=>[]
 | a,j+1=>jk e a::xV e (a+1) j
theorem Uz(e:J (J T)):xV e a (j+1)=jk e a::xV e (a+1) j:=rfl
theorem Fg(g:J (J T)):∀(j a:S),xV g a j=(pd j).map λi=>jk g (a+i)
 | 0,_=>rfl
 | j+1,a=>by
  simp only[Gj,i1,p2,Uz,Fg g j (a+1)];haveI e:(λi=>jk g (a+1+i))=((λi=>jk g (a+i))∘oi):=by funext i;congr 1;exact z1
  refine ah e ?_;rfl
def Ac(e:J (J T))(m:S):xV e 0 m=P.b9 e m:=by
 simp only[Fg];simp only[zQ];exact Z
theorem Ca(e:J (J T)):∀(j a:S),(xV e a j).length=j
 | 0,_=>rfl
 | j+1,a=>cx oi (Ca e j (a+1))
def Ad(m:S):fq 0 m=idxs 0 m:=by
 simp only[wM];simp only[p2];congr 1
def sf:J MS:=[.asg "kinds" (.comp X (.sub (.loc "side") (.loc "k")) "side" (.loc "sides") []),.expr (.aK (.loc "found") "append" [.call "_law_place" [.loc "book",.ite (.cmp (.loc "kinds") .Eq (.bin .Mult (.list X [.sub (.loc "kinds") (.n 0)]) (.bi "len" [.loc "kinds"]))) (.list X [.sub (.loc "kinds") (.n 0)]) (.list X [])]])]
theorem Fh{b:J T}(h:a.length=b.length):bf H .Eq (.lst (aj a)) (.lst (aj b))=O (eo (a=b)):=by
 delta bf fk bD;simp only[d3,h,rx];rw[dm (λz=>z Z)];congr 1;by_cases e:a=b
 ·clear h;subst e;simp
 ·simp only[a0 e];exact a0 λq=>e (by
   have:=cx (L1 id) q;simpa [RW] using this)
def Lw{n:S}{a:T}:g5 n (AV.int a)=aj (g5 n a):=by simp
theorem Fj{a:S}(b:a<s.length):b8 (aj s) (a:T)=O (.int (s.getD a 0)):=jS (by rw[eI,ee b];rfl)
def VY (a:S)(v:AV):AV:=match v with | .lst l=>(b8 l (a:T)).getD .none | _=>.none
theorem Cb(b:a<s.length):VY a (.lst (aj s))=.int (s.getD a 0):=by
 show(b8 (aj s) (a:T)).getD .none=_;refine ah (Fj b) ?_;rfl
theorem Fm{y:J (J T)}(d:y.length<100)(c:∀s∈y,a<s.length)(j:ρ.lookup "sides"=O (.lst (y.map λs=>.lst (aj s))))(e:ρ.lookup "k"=O (.int a)):ev G C (k+1) (.comp X (.sub (.loc "side") (.loc "k")) "side" (.loc "sides") []) ρ H=.ok (.lst (aj (y.map λs=>s.getD a 0))) (H++[AO.dead]):=by
 haveI h:=se (G:=G) (C:=C) (k:=k) (ρ:=ρ) (H:=H) (elt:=.sub (.loc "side") (.loc "k")) (it:=.loc "sides") (x:="side") (cond:=[]) (f:=VY a) (g:=λb=>X) (l:=y.map λs=>.lst (aj s)) (s:=.lst (y.map λs=>.lst (aj s)))
  (by simp only[aM,j];rfl) Z (by rw[d3];exact D4 d) (λb b b=>Z) (λv hv b H=>by
   refine dP v (hN.mp hv) λs i=>?_;simp only[Cb (c s i)];simp only[cg,aM,fV,fU,di,bD,jg,a7.reduceBEq,e,aB,bB,Fj (c s i)])
 refine ah h (ah sZ (ah p2 ?_));congr 2;simp only[show aj (y.map λs=>s.getD a 0)=y.map (AV.int∘λs=>s.getD a 0) from p2 ..];exact Rq λs i=>Cb (c s i)
def Lx{n:S}(h:n<100):(0:T)<=(n:T)/\(n:T)<=((aZ:S):T):=⟨jl _,Og.mpr (hD (pS h) (by decide))⟩
def Ly(h:N<100):cK .Mult (.lst [AV.int c]) (.int (N:S))=O (.lst (aj (g5 N c))):=by
 rw[bU,dE (Lx h),mG,Lw]
def Ia{x:J AV}(z:s≠[]/\s.length<100)(L:Own ((b,.list (bW bk))::(n,.list x)::K) H)(U:bk.length<900000)(V:x.length<1000)(l:ρ.lookup "book"=O (.obj b))(i:ρ.lookup "found"=O (.obj n))(g:ρ.lookup "kinds"=O (.lst (aj s))):aA GG (ae GG PP (d+1)) k (.expr (.aK (.loc "found") "append" [.call "_law_place" [.loc "book",.ite (.cmp (.loc "kinds") .Eq (.bin .Mult (.list X [.sub (.loc "kinds") (.n 0)]) (.bi "len" [.loc "kinds"]))) (.list X [.sub (.loc "kinds") (.n 0)]) (.list X [])]])) ρ H =
   .ok (.next,ρ) ((H.set b (.list (bW (bk++[Pz s])))).set n (.list (x++[AV.int bk.length]))):=by
 haveI h:b8 (aj s) 0=O (.int (s.headD 0)):=by
  clear g i;cases s with| nil=>exact hQ Z z.1| cons c r=>rfl
 haveI m:Pz s=if s=g5 s.length (s.headD 0) then[s.headD 0] else[]:=Z
 rw[m];generalize s.headD 0=c at h;haveI e:(H.set b (.list (bW (bk++[(if s=g5 s.length c then[c] else[])]))))[n]?=O (.list x):=(L.set [] (.list (bW (bk++[(if s=g5 s.length c then[c] else[])])))).at (.tail _ (.head _));haveI j:x.length<aZ:=by delta aZ;exact z2 V
 haveI y:(aj s).length=s.length:=d3 _;haveI f:ev GG (ae GG PP (d+1)) k (.cmp (.loc "kinds") .Eq (.bin .Mult (.list X [.sub (.loc "kinds") (.n 0)]) (.bi "len" [.loc "kinds"]))) ρ H=.ok (.bool (eo (s=g5 s.length c))) H:=by
  simp only[cZ,aM,g,aB,bB,eD,d0,jR,cg,cb,fV,fU,di,bD,h,bu,b6,dB,dI,eH,nY,i5,gS,gy,vk,zy,gC,uZ,y];refine ah (Ly z.2) ?_;simp only[aB,bB,dJ,(Fh (H:=H) (a:=s) (b:=g5 s.length c) (ah QH Z)),me]
 by_cases hq:s=g5 s.length c
 ·rw[dE hq] at e ⊢;have hp:ae GG PP (d+1) "_law_place" [.obj b,.lst [.int c]] H=_:=iF (d:=d) (ks:=[c]) (L.at (.head _)) (U4 U);rw[cB hq] at f;simp only[gT,iE,aM,i,aB,bB,sU,(L.at (.tail _ (.head _))),bu,b6,fE,dB,dI,l,gd,f,wA,jR,cg,g,fV,fU,cb,di,bD,h,eH,nY,i5,hp,ph,eg,e,j,cW,kX]
 ·rw[dm hq] at e ⊢;have hp:ae GG PP (d+1) "_law_place" [.obj b,.lst []] H=_:=iF (d:=d) (ks:=[]) (L.at (.head _)) (U4 U);rw[a0 hq] at f;simp only[gT,iE,aM,i,aB,bB,sU,(L.at (.tail _ (.head _))),bu,b6,fE,dB,dI,l,gd,f,wA,jR,eH,Lq,i5,hp,ph,eg,e,j,cW,kX]
def Ib(f:è≠[]/\è.length<100)(t:∀s∈è,s.length=mm):∀(j a:S) {bk:P.aG}{H:Hp}{x:J AV}{ρ:Loc},a+j=mm->Own ((b,.list (bW bk))::(n,.list x)::K) H->bk.length+j<900000->x.length+j<1000->
  ρ.lookup "book"=O (.obj b)->ρ.lookup "found"=O (.obj n)->ρ.lookup "sides"=O (.lst (è.map λs=>.lst (aj s)))->
  ∃H' L,c0 GG (ae GG PP (d+1)) (k+1) sf (.one "k") (idxs a j) ρ H=.ok (.next,L) H'/\Own ((b,.list (bW (bk++xV è a j)))::(n,.list (x++idxs bk.length j))::K) H'/\(∀y,y≠"k"->y≠"kinds"->L.lookup y=ρ.lookup y):=by
 intro j
 induction j with
 | zero=>intro a bk H x ρ c é U V hb m hs;exact bx H ρ Z (by rw[show idxs bk.length 0=[] from Z,show xV è a 0=[] from Z];simpa using é) (λq q q=>Z)
 | succ j ih=>
  intro a bk H x ρ c é U V hb m hs;haveI k1:(put "k" (.int a) ρ).lookup "book"=O (.obj b):=aE (by kernel_rfl) hb;haveI k2:(put "k" (.int a) ρ).lookup "found"=O (.obj n):=aE (by kernel_rfl) m;haveI k3:(put "k" (.int a) ρ).lookup "sides"=O (.lst (è.map λs=>.lst (aj s))):=aE (by kernel_rfl) hs;haveI l:(put "k" (.int a) ρ).lookup "k"=O (.int a):=bQ;haveI k5:∀y,y≠"k"->(put "k" (.int a) ρ).lookup y=ρ.lookup y:=λy h=>aE (a0 h) Z;refine ah (show idxs a (j+1)=.int a::idxs (a+1) j from Z) (ah wJ ?_);generalize put "k" (.int a) ρ=cw at k1 k2 k3 l k5;haveI e:(put "kinds" (.lst (aj (è.map λs=>s.getD a 0))) cw).lookup "book"=O (.obj b):=aE (by kernel_rfl) k1;haveI g:(put "kinds" (.lst (aj (è.map λs=>s.getD a 0))) cw).lookup "found"=O (.obj n):=aE (by kernel_rfl) k2;haveI p:(put "kinds" (.lst (aj (è.map λs=>s.getD a 0))) cw).lookup "sides"=O (.lst (è.map λs=>.lst (aj s))):=aE (by kernel_rfl) k3;haveI r:(put "kinds" (.lst (aj (è.map λs=>s.getD a 0))) cw).lookup "kinds"=O (.lst (aj (è.map λs=>s.getD a 0))):=bQ;haveI o:∀y,y≠"kinds"->(put "kinds" (.lst (aj (è.map λs=>s.getD a 0))) cw).lookup y=cw.lookup y:=λy h=>aE (a0 h) Z;haveI st:execs GG (ae GG PP (d+1)) (k+1) sf cw H=(aA GG (ae GG PP (d+1)) (k+1) (.expr (.aK (.loc "found") "append" [.call "_law_place" [.loc "book",.ite (.cmp (.loc "kinds") .Eq (.bin .Mult (.list X [.sub (.loc "kinds") (.n 0)]) (.bi "len" [.loc "kinds"]))) (.list X [.sub (.loc "kinds") (.n 0)]) (.list X [])]])) (put "kinds" (.lst (aj (è.map λs=>s.getD a 0))) cw) (H++[AO.dead])).bind (cL GG (ae GG PP (d+1)) (k+1) []):=by
   delta sf;simp only[bc,rd,(Fm (G:=GG) (C:=ae GG PP (d+1)) (k:=k) (H:=H) f.2 (λs hs=>by refine ah (t s hs) ?_;exact IV c) k3 l)];rfl
  refine ah st ?_;generalize put "kinds" (.lst (aj (è.map λs=>s.getD a 0))) cw=cN at e g p r o;rw[Ia (d:=d) (k:=k+1) (⟨λz=>f.1 (J.map_eq_nil_iff.mp z),by rw[d3];exact f.2⟩) (é.grow [AO.dead]) (z65 U) (Bg V) e g r];refine bV (ih (a+1) (ρ:=cN) (U5 c) (((é.grow [AO.dead]).set [] (.list (bW (bk++[jk è a])))).set [(b,_)] (.list (x++[AV.int bk.length]))) (by refine ah a9 ?_;exact UW U) (by refine ah a9 ?_;exact Bf V) e g p) λH' L h i h3=>?_;refine bx H' L h ?_ (λy U V=>(h3 y U V).trans ((o y V).trans ((k5 y U))));simp only[a9,fJ] at i;exact i
end
section
variable{d k n:S}{K:J (S×AO)}{H:Hp}{own:T}{b q p m:S}{nd:P.bb}{bk:P.aG}{G:a7->aI AV}{C:CS}{ρ:Loc}
def ne_nil:bf H .NotEq (.lst l) (.lst [])=O (!l.isEmpty):=by
 cases l<;>rfl
def vE{ks:J (J T)}{H:Hp}(hB:dh bk)(a:dh ks)(g:Own ((b,.list (bW (bk++ks)))::(p,.list (idxs bk.length ks.length))::K) H)(h:bk.length<=m)(e:ks.length<=5)(c:m+5<500000):BR b H.length p (m+5) ⟨(P.fresh bk ks).1.reverse,X⟩ (P.fresh bk ks).2 K (H++[AO.list [.obj p,.bool X]]):=by
 refine⟨?_,?_,?_,?_,c,hB.app a⟩
 ·show Own ((b,.list (bW (bk++ks)))::(H.length,.list [.obj p,.bool X])::(p,.list (du (P.fresh bk ks).1.reverse))::K) _;refine ah ((rA bk ks)) ?_;exact(g.new (.list [.obj p,.bool X])).back [(b,_)]
 ·intro i hi;have:=tW i (hO.mp hi);show i<(bk++ks).length;simp only[a9];exact this
 ·show(bk++ks).length<=_;rw[a9];exact z42 h e
 ·show((P.fresh bk ks).1.reverse).length<=_;rw[eb];have:(P.fresh bk ks).1.length=ks.length:=by simp[P.fresh]
  exact z43 e this
def sg:J MS:=[.iff (.cmp (.comp X (.loc "side") "side" (.loc "sides") [.cmp (.bi "len" [.loc "side"]) .NotEq (.bi "len" [.sub (.loc "sides") (.n 0)])]) .NotEq (.list X [])) [.ret (.lit .none)] [],
 .asg "found" (.list aN []),
 .cJ (.one "k") (.range [.bi "len" [.sub (.loc "sides") (.n 0)]]) sf,
 .iff (.cmp (.sub (.loc "op") (.n 0)) .Eq (.n 14)) [.expr (.aK (.loc "found") "append" [.call "_law_place" [.loc "book",.list X [.n (-1)]]])] [],
 .ret (.list aN [.loc "found",.lit (.bool X)])]
noncomputable def wO (n:S)(v:AV):aS:=match v with | .lst l=>!decide (l.length=n) | _=>aN
def Ic(hB:dh bk)(ö:(s0::à).length<100)(j:s0.length<=2)(î:Own ((b,.list (bW bk))::K) H)(ù:bk.length<=m)(A:m+5<500000)(ä:ρ.lookup "book"=O (.obj b))(N:ρ.lookup "sides"=O (.lst ((s0::à).map λs=>.lst (aj s))))(q3:ρ.lookup "op"=O (.tup (.int c::r))):if(s0::à).any (λt=>t.length != s0.length)=X then ∃H',(execs GG (ae GG PP (d+1)) (k+2) sg ρ H).bind bM=.ok .none H'
  else ∃H' q p,(execs GG (ae GG PP (d+1)) (k+2) sg ρ H).bind bM=.ok (.obj q) H'/\
   BR b q p (m+5) ⟨(P.fresh bk (P.b9 (s0::à) s0.length++(if c=14 then[[-1]] else[]))).1.reverse,X⟩ (P.fresh bk (P.b9 (s0::à) s0.length++(if c=14 then[[-1]] else[]))).2 K H':=by
 haveI g0:b8 ((s0::à).map λs=>AV.lst (aj s)) 0=O (.lst (aj s0)):=Z;have ô:=se (G:=GG) (C:=ae GG PP (d+1)) (k:=k+1) (ρ:=ρ) (H:=H) (elt:=.loc "side") (it:=.loc "sides") (x:="side") (cond:=[.cmp (.bi "len" [.loc "side"]) .NotEq (.bi "len" [.sub (.loc "sides") (.n 0)])]) (f:=id) (g:=wO s0.length) (l:=(s0::à).map λs=>.lst (aj s)) (s:=.lst ((s0::à).map λs=>.lst (aj s)))
  (gU (.v N .nil) (by kernel_rfl)) Z (by rw[d3];exact D4 ö) (λv hv H=>by
   refine dP v (hN.mp hv) λs hs=>?_;clear hv;refine gz (wO s0.length (.lst (aj s))) (λe=>?_) λe=>?_ <;>
    exact gU (x:=.and [.cmp (.bi "len" [.loc "side"]) .NotEq (.bi "len" [.sub (.loc "sides") (.n 0)])]) (.d (.d (.v N (.d (.d (.b ((d8 (H:=H) ((aj s).length:S) ((aj s0).length:S)).2.1.trans (cx O (((cx (!·) (len_eq (a:=(aj s).length))).trans (cx (λz=>!decide (_=z)) (d3 _))).trans e))) (.d .nil))))))) (by kernel_rfl)) (λv hv jj H=>tQ .nil (by kernel_rfl))
 rw[J.map_id] at ô;have ê:(((s0::à).map λs=>AV.lst (aj s)).filter (wO s0.length)).isEmpty=!((s0::à).any λt=>t.length != s0.length):=by
  have:∀à:J (J T),((à.map λs=>AV.lst (aj s)).filter (wO s0.length)).isEmpty=!(à.any λt=>t.length != s0.length):=by
   intro à
   induction à with
   | nil=>rfl
   | cons t à ih=>
    haveI hb:wO s0.length (.lst (aj t))=(t.length != s0.length):=by
     show(!decide ((aj t).length=s0.length))=_;refine gz (t.length != s0.length) ?_ ?_;rotate_left
     ·intro h;rw[a0 (by simpa using h)];rfl
     ·intro h;rw[cB (by simpa using h)];rfl
    simp only[i1,Hb,hb,NX];cases(t.length != s0.length) with
    | true=>rfl
    | false=>rw[dm (by decide),ih,N3]
  exact this _
 haveI E:=ne_nil (H:=H++[AO.dead]) (l:=((s0::à).map λs=>AV.lst (aj s)).filter (wO s0.length));simp only[ê,RM] at E;refine gz ((s0::à).any λt=>t.length != s0.length) ?_ ?_;rotate_left
 ·intro D;exact bq (H++[.dead]) (lp (.r ô (.b E (.t D .nil))) (by kernel_rfl))
 ·intro D;rw[dm (by decide)];haveI Gy:∀s∈s0::à,s.length=s0.length:=λs hs=>by
   have:=Sf.mp D s hs;simpa using this
  let H1:=H++[AO.dead];haveI k2:(put "found" (.obj H1.length) ρ).lookup "sides"=O (.lst ((s0::à).map λs=>.lst (aj s))):=aE (by kernel_rfl) N;refine bV (Ib (d:=d) (k:=k) (n:=H1.length) ⟨yj _ _,ö⟩ Gy s0.length 0 (ρ:=put "found" (.obj H1.length) ρ) (zQ _) (((î.grow [AO.dead]).new (.list [])).back [(b,_)]) (by exact z46 j ù A) (by simp;exact Mo j) (aE (by kernel_rfl) ä) bQ k2) λH2 è h u h3=>?_;have L:è.lookup "found"=O (.obj H1.length):=by exact(h3 _ (by decide) (by decide)).trans (bQ)
  rw[Ac,k8] at u;haveI ç:mx [.int ((aj s0).length:S)]=O (idxs 0 s0.length):=by
   refine ah ((d3 _)) ?_;exact(dE (by delta gD;exact cB (by exact z48 j))).trans (cx O (Ad _))
  have w:(P.b9 (s0::à) s0.length).length=s0.length:=by rw[<-Ac,Ca]
  have I:dh (P.b9 (s0::à) s0.length):=λks hk=>by
   refine dP ks (hN.mp hk) λi jj=>?_;clear hk;dsimp only
   split
   ·exact(by decide:1<=4)
   ·exact la _
  generalize P.b9 (s0::à) s0.length=â at u w I ⊢;have é:=λF v (q:decide (c=14)=v) t=>Facts.r ô (.b E (.t D (.v k2 (.d (.d (.f ç (.l h (.v (by exact(h3 _ (by decide) (by decide)).trans ((aE (by kernel_rfl) q3))) (.d (.d (.t (F:=F) q t)))))))))));by_cases y:c=14
  ·refine ah (dE y) ?_;haveI hp:ae GG PP (d+1) "_law_place" [.obj b,.lst [.int (-1)]] H2=_:=iF (d:=d) (ks:=[-1]) (u.at (.head _)) (by rw[a9];exact z49 j ù A w);have ü:=u.set [] (.list (bW (bk++â++[[-1]])));haveI W:(H2.set b (.list (bW (bk++â++[[-1]]))))[H1.length]?=O (.list (idxs bk.length s0.length)):=ü.at (.tail _ (.head _));haveI ñ:(idxs bk.length s0.length).length<aZ:=by rw[tV];delta aZ;exact z50 j
   haveI R:=ü.set [(b,_)] (.list (idxs bk.length s0.length++[.int (bk++â).length]));have û:idxs bk.length s0.length++[AV.int ((bk++â).length:S)]=idxs bk.length (â++[[-1]]).length:=by
    have:∀n a:S,idxs a n++[AV.int ((a+n:S):T)]=idxs a (n+1):=by
     intro n
     induction n with
     | zero=>intro a;rfl
     | succ n ih=>intro a;rw[idxs,lg,show a+(n+1)=a+1+n by exact U1,ih (a+1)];rfl
    rw[a9,a9,w,this];rfl
   rw[û,fJ] at R;rw[fJ] at hp W;refine ed _ _ H1.length ?_ (vE hB (I.app (dh.one (by decide))) R ù (by simp only[a9,w,o4];exact z51 j) A);exact lp (é _ _ (cB y) (.v L (.o (u.at (.tail _ (.head _))) (.v (by exact(h3 _ (by decide) (by decide)).trans ((aE (by kernel_rfl) ä))) (.r hp (.r (r6 W ñ û) (.v L .nil))))))) (by kernel_rfl)
  ·refine ah (dm y) ?_;rw[hP];refine ed _ _ H1.length ?_ (vE hB I ((w).symm▸u) ù (by refine ah w ?_;exact U3 j) A);exact lp (é _ _ (a0 y) (.v L .nil)) (by kernel_rfl)
end
section
variable{d k n:S}{K:J (S×AO)}{H:Hp}{own:T}{b q p m:S}{W:P.bb}{bk:P.aG}{G:a7->aI AV}{C:CS}{ρ:Loc}{L:P.Ls}
structure LL (L:P.Ls):Prop where
 ne:L≠[]
 n:L.length<100
 s:∀l∈L,l.length<=2
def LL.get(h:LL L)(l:S):(L.getD l []).length<=2:=by
 refine ah (eI) ?_;refine az (L[l]?) ?_ ?_
 ·intro e;exact la _
 ·intro a e;exact h.s a (x7 e)
def LL.last(h:LL L):(L.getLastD []).length<=2:=by
 have:L.getLastD []∈L:=by
  rw[zN,JH h.ne];exact J.getLast_mem h.ne
 exact h.s _ this
def V0 (L:P.Ls)(v:AV):AV:=match v with | .int i=>(b8 (cQ L) (((cQ L).length:T) - 1 - i)).getD .none | _=>.none
def Fo(h:l<L.length):V0 L (.int l)=.lst (aj (L.getD l []).reverse):=by
 show(b8 (cQ L) (((cQ L).length:T) - 1 - (l:T))).getD .none=_;rw[Ab h];rfl
def Ie{y:J S}(e:∀l∈y,l<L.length)(i:y.length<100)(m:ρ.lookup "op"=O (.tup (.int c::y.map λ(l:S)=>AV.int l)))(j:ρ.lookup "labels"=O (.lst (cQ L))):ev G C (k+1) (.comp X (.sub (.loc "labels") (.bin .Sub (.bin .Sub (.bi "len" [.loc "labels"]) (.n 1)) (.loc "label"))) "label" (.ik (.loc "op")) []) ρ H=.ok (.lst ((y.map λl=>(L.getD l []).reverse).map λs=>.lst (aj s))) (H++[AO.dead]):=by
 haveI h:=se (G:=G) (C:=C) (k:=k) (ρ:=ρ) (H:=H) (elt:=.sub (.loc "labels") (.bin .Sub (.bin .Sub (.bi "len" [.loc "labels"]) (.n 1)) (.loc "label"))) (it:=.ik (.loc "op")) (x:="label") (cond:=[]) (f:=V0 L) (g:=λa=>X) (l:=y.map λ(l:S)=>AV.int l) (s:=.tup (y.map λ(l:S)=>AV.int l))
  (gU (.v m (.r (show vj (.tup (AV.int c::y.map λ(l:S)=>AV.int l)) H=.ok (.tup (y.map λ(l:S)=>AV.int l)) H from dE (⟨x8 (la _),by rw[ff,d3];exact U2 i⟩)) .nil)) (by kernel_rfl)) Z (by rw[d3];exact D4 i) (λa a a=>Z) (λv hv a H=>by
   exact dP v (hN.mp hv) λl b=>ah (Fo (e l b)) (gU (.v j (.v j (.d (.d (.v (jq (H:=H) (Ab (e l b))) .nil))))) (by kernel_rfl)))
 simp only[h,sZ,p2];congr 2;exact Rq λl b=>Fo (e l b)
def wQ:PP "_law_jump"=O td:=Z
def Fp{h:J S}(hc:c=12\/c=14)(f:∀l∈h,l<L.length)(g:h.length<100)(ρ:Loc)(e:ρ=[("op",.tup (.int c::h.map λ(l:S)=>AV.int l)),("labels",.lst (cQ L)),("book",.obj b)]):ae GG PP (d+2) "_law_jump" [.tup (.int c::h.map λ(l:S)=>AV.int l),.lst (cQ L),.obj b] H=(execs GG (ae GG PP (d+1)) 6 sg (put "sides" (.lst ((h.map λl=>(L.getD l []).reverse).map λs=>.lst (aj s))) ρ) (H++[AO.dead])).bind bM:=by
 subst e;exact(aY wQ (by decide) Z).trans (cx (·.bind bM) (fG (a:=td.body.take 3) (b:=sg) (hW (.d (.c (x:=eo (c=0)) (a0 (z52 hc)) (.d (.d (.c (x:=eo (c=15)) (a0 (z53 hc)) (.d (.r (Ie (G:=GG) (C:=ae GG PP (d+1)) (k:=5) (ρ:=[("op",.tup (.int c::h.map λ(l:S)=>AV.int l)),("labels",.lst (cQ L)),("book",.obj b)]) (H:=H) f g Z Z) .nil))))))) (by kernel_rfl))))
def rC{e:J S}:(put "sides" g [("op",.tup (.int c::e.map λ(l:S)=>AV.int l)),("labels",.lst (cQ L)),("book",.obj b)]).lookup "book"=O (.obj b)/\
  (put "sides" g [("op",.tup (.int c::e.map λ(l:S)=>AV.int l)),("labels",.lst (cQ L)),("book",.obj b)]).lookup "sides"=O g/\
  (put "sides" g [("op",.tup (.int c::e.map λ(l:S)=>AV.int l)),("labels",.lst (cQ L)),("book",.obj b)]).lookup "op"=O (.tup (.int c::e.map λ(l:S)=>AV.int l)):=⟨Z,Z,Z⟩
noncomputable def Ae:P.Op->aS
 | .cP | .br _ | .f9 _ _ _ | .ret=>X
 | _=>aN
def RB (b m:S)(K:J (S×AO))(r:V1 AV)(o:aI (P.bb×P.aG)):Prop:=match o with
 | some (g,h)=>∃e q p,r=.ok (.obj q) e/\BR b q p m g h K e
 | none=>∃e,r=.ok .none e
@[elab_as_elim] def DJ{e:P.Op->Prop}{o:P.Op}(h:Ae o=X)(U:e .cP)(V:e .ret)(h3:∀l,e (.br l))(h4:∀x y z,e (.f9 x y z)):e o:=by
 cases o with
 | cP=>exact U
 | ret=>exact V
 | br l=>exact h3 l
 | f9 x y z=>exact h4 x y z
 | _=>exact nomatch h
def Ig(hB:dh bk)(g:Own ((b,.list (bW bk))::K) H)(c:bk.length<=m)(a:m+5<500000):RB b (m+5) K (ae GG PP (d+2) "_law_jump" [.tup (ov .cP),.lst (cQ L),.obj b] H) (P.wq L .cP bk):=by
 haveI hb:=vE (ks:=[]) (m:=m) (p:=H.length) (bk:=bk) hB (λe h=>nomatch h) (by rw[hP];exact((g.new (.list [])).back [(b,_)])) c (la _) a;refine ed _ _ H.length ?_ (((cx (λr:J S×P.aG=>BR b (H++[AO.list []]).length H.length (m+5) ⟨r.1.reverse,X⟩ r.2 K _) (show P.fresh bk []=([],bk) by simp[P.fresh])).mp hb));exact(aY wQ (by decide) Z).trans (aQ (.d (.d (.d .nil))) (by kernel_rfl))
def Ih(hB:dh bk)(a:LL L)(g:Own ((b,.list (bW bk))::K) H)(e:bk.length<=m)(c:m+5<500000):RB b (m+5) K (ae GG PP (d+2) "_law_jump" [.tup (ov .ret),.lst (cQ L),.obj b] H) (P.wq L .ret bk):=by
 refine bG (B8 (d:=d) (k:=5) (ρ:=[("op",.tup [.int 15]),("labels",.lst (cQ L)),("book",.obj b)]) (it:=.sub (.loc "labels") (.n 0)) (ks:=(L.getLastD []).reverse) (tQ (.v (jq (H:=H) (H9 a.ne)) .nil) (by kernel_rfl)) g (by rw[eb];exact z56 e c (a.last)) (by rw[eb];exact Mo (a.last)) Z) λi p h f=>?_;refine ed _ _ p ?_ (vE (m:=m) (ks:=(L.getLastD []).reverse.map λk=>[k]) (p:=p) (K:=K) (b:=b) (bk:=bk) (H:=i) hB (dh.ones _) (by rw[d3];exact f) e (by rw[d3,eb];exact U3 (a.last)) c);exact(aY wQ (by decide) Z).trans (aQ (.d (.d (.d (.d (.d (.d (.r h .nil))))))) (by kernel_rfl))
def Cc(hB:dh bk)(g:LL L)(z:Own ((b,.list (bW bk))::K) H)(i:bk.length<=m)(h:m+5<500000)(hc:c=12\/c=14)(j:∀l∈x::ls,l<L.length)(f:(x::ls).length<100)(e0:(L.getD x []).reverse=y)(e1:(ls.map λl=>(L.getD l []).reverse)=é):RB b (m+5) K (ae GG PP (d+2) "_law_jump" [.tup (.int c::(x::ls).map λ(l:S)=>AV.int l),.lst (cQ L),.obj b] H) (if(y::é).any (λt=>t.length != y.length)=X then Q else O (⟨(P.fresh bk (P.b9 (y::é) y.length++(if c=14 then[[-1]] else[]))).1.reverse,X⟩,(P.fresh bk (P.b9 (y::é) y.length++(if c=14 then[[-1]] else[]))).2)):=by
 subst e0;subst e1;haveI a:=Ic (d:=d) (k:=4) (m:=m) (s0:=(L.getD x []).reverse) (à:=ls.map λl=>(L.getD l []).reverse) (c:=c) (r:=(x::ls).map λ(l:S)=>AV.int l) (ρ:=put "sides" (.lst (((x::ls).map λl=>(L.getD l []).reverse).map λs=>.lst (aj s))) [("op",.tup (.int c::(x::ls).map λ(l:S)=>AV.int l)),("labels",.lst (cQ L)),("book",.obj b)]) hB (by rw[ff,d3];exact f) (by rw[eb];exact g.get x) (z.grow [AO.dead]) i h rC.1 rC.2.1 rC.2.2;refine ah (Fp (d:=d) (b:=b) (H:=H) hc j f _ Z) (gz (((L.getD x []).reverse::ls.map λl=>(L.getD l []).reverse).any (λt=>t.length != (L.getD x []).reverse.length)) (λe=>?_) λe=>?_)
 ·rw[e] at a;exact a
 ·rw[e] at a;exact a
def Lz{o:P.Op}(hB:dh bk)(i:Ae o=X)(f:LL L)(w:mR s L.length o)(é:Own ((b,.list (bW bk))::K) H)(e:bk.length<=m)(a:m+5<500000):RB b (m+5) K (ae GG PP (d+2) "_law_jump" [.tup (ov o),.lst (cQ L),.obj b] H) (P.wq L o bk):=by
 revert w
 refine DJ i (λg=>Ig hB é e a) (λg=>Ih hB f é e a) (λl w=>?_) λx y z w=>?_
 ·have h:=Cc (d:=d) (ls:=[]) hB f é e a (.inl Z) (λj c=>by rcases gg.mp c with rfl;exact w) (by show 1<100;decide) Z Z;rw[dm (by simp),dm (by decide),hP] at h;exact h
 ·haveI h:=Cc (d:=d) (x:=x) (ls:=[y,z]) hB f é e a (.inr Z) (λj c=>by
   simp only[a8,eA,hK] at c;rcases c with rfl | rfl | rfl
   ·exact w.1
   ·exact w.2.1
   ·exact w.2.2) (by show 3<100;decide) Z Z
  haveI h:=eb▸h;exact h
end
section
variable{d k n:S}{K:J (S×AO)}{H:Hp}{own:T}{b q p m:S}{x:P.bb}{bk:P.aG}{G:a7->aI AV}{C:CS}{ρ:Loc}{L:P.Ls}{aa:J T}
def lr:J MS:=[.iff (.not (.call "_law_given" [.loc "book",.loc "need",.loc "gives"])) [.ret (.lit .none)] [],
 .expr (.aK (.sub (.loc "need") (.n 0)) "extend" [.comp X wN "kind" (.loc "takes") []]),
 .ret (.loc "need")]
def JO:J MS:=[.expr (.aK (.sub (.loc "need") (.n 0)) "append" [.call "_law_place" [.loc "book",.list X [.n (-1),.n (-2),.n (-16),.n (-17)]]]),.ret (.loc "need")]
def wR:J MS:=[.iff (.and [.cmp (.sub (.loc "need") (.n 0)) .Eq (.list X []),.not (.sub (.loc "need") (.n 1))]) [.ret (.lit .none)] [],.asg "place" (.ite (.cmp (.sub (.loc "need") (.n 0)) .NotEq (.list X [])) (.aK (.sub (.loc "need") (.n 0)) "pop" []) (.call "_law_place" [.loc "book",.list X [.n (-1),.n (-2)]])),.gp (.loc "book") (.loc "place") (.comp X (.loc "kind") "kind" (.sub (.loc "book") (.loc "place")) [.cmp (.loc "kind") .In (.tup [.n (-1),.n (-2)])]),.expr (.aK (.sub (.loc "need") (.n 0)) "extend" [.list X [.loc "place",.loc "place",.call "_law_place" [.loc "book",.list X [.n (-1)]]]]),.ret (.loc "need")]
def yu:J MS:=[.iff (.not (.call "_law_given" [.loc "book",.loc "need",.list X [.n (-1)]])) [.ret (.lit .none)] [],.expr (.aK (.sub (.loc "need") (.n 0)) "append" [.call "_law_place" [.loc "book",.list X [.n (-16),.n (-17)]]]),.ret (.loc "need")]
def yv:J MS:=[.cC ["takes","gives"] (.call "_law_arrow" [.sub (.loc "op") (.n 1)]),.iff (.and [.cmp (.loc "other") .Is (.lit .none),.cmp (.loc "code") .Eq (.n 4),.cmp (.loc "takes") .NotEq (.loc "gives")]) [.ret (.lit .none)] []]
def lE:MS:=.cJ (.one "nodes") (.seq (.ite (.cmp (.loc "other") .Is (.lit .none)) (.list X [.loc "inner"]) (.list X [.loc "inner",.loc "other"]))) [.iff (.not (.call "_law_holds" [.loc "nodes",.loc "takes",.loc "gives",.bin .Add (.loc "labels") (.list X [.ite (.cmp (.loc "code") .Eq (.n 3)) (.loc "takes") (.loc "gives")]),.loc "places",.loc "book"])) [.ret (.lit .none)] []]
noncomputable def si:MS:=.asg "takes" (.ite (.cmp (.loc "code") .Eq (.n 4)) (.bin .Add (.loc "takes") (.list X [.n (-1)])) (.loc "takes"))
def UA:J MS:=[.asg "gives" (.sub (.loc "labels") (.bin .Sub (.bin .Sub (.bi "len" [.loc "labels"]) (.n 1)) (.sub (.loc "op") (.n 1)))),.asg "takes" (.bin .Add (.loc "gives") (.list X [.n (-1)]))]
noncomputable def PA:J MS:=[.cC ["takes","gives"] (.call "_law_fixed" [.loc "op",.loc "places"])]
def a5:MS:=.iff (.cmp (.loc "code") .In (.tup [.n 2,.n 3,.n 4])) (yv++[lE,si]) [.iff (.cmp (.loc "code") .Eq (.n 13)) UA PA]
def DK:qj.body=.asg "code" (.sub (.loc "op") (.n 0))::.iff (.cmp (.loc "code") .In (.tup [.n 0,.n 12,.n 14,.n 15])) [.ret (.call "_law_jump" [.loc "op",.loc "labels",.loc "book"])] []::.iff (.cmp (.loc "code") .Eq (.n 26)) JO []::.iff (.cmp (.loc "code") .Eq (.n 27)) wR []::.iff (.cmp (.loc "code") .Eq (.n 209)) yu []::a5::lr:=Z
def Ii:PP "_law_ahead"=O qj:=Z
def aR (op e g:AV)(q:S)(L:P.Ls)(aa:J T)(b:S):Loc:=[("op",op),("inner",e),("other",g),("need",.obj q),("labels",.lst (cQ L)),("places",.lst (aj aa)),("book",.obj b)]
theorem in4{n a b c d:T}:bf H .In (.int n) (.tup [.int a,.int b,.int c,.int d])=O (eo (n∈[a,b,c,d])):=rfl
theorem abO{a b c d:AV}:[a,b,c,d].length<=aZ:=by show 4<=aZ;decide
def aeL{r:V1 (Fl×Loc)}:(r.bind (cL G C k [])).bind (cL G C k e)=r.bind (cL G C k e):=by
 cases r with
 | ok p H=>obtain⟨f,ρ⟩:=p;cases f<;>rfl
 | bH _ _ _=>rfl
 | bad=>rfl
def jV:ae GG PP (d+1) "_law_ahead" [.tup (.int c::r),e,g,.obj q,.lst (cQ L),.lst (aj aa),.obj b] H =
  if c∈[0,12,14,15] then ae GG PP d "_law_jump" [.tup (.int c::r),.lst (cQ L),.obj b] H
  else if c=26 then((execs GG (ae GG PP d) 6 JO (aR (.tup (.int c::r)) e g q L aa b++[("code",AV.int c)]) H).bind (cL GG (ae GG PP d) 6 (.iff (.cmp (.loc "code") .Eq (.n 27)) wR []::.iff (.cmp (.loc "code") .Eq (.n 209)) yu []::a5::lr))).bind bM
  else if c=27 then((execs GG (ae GG PP d) 6 wR (aR (.tup (.int c::r)) e g q L aa b++[("code",AV.int c)]) H).bind (cL GG (ae GG PP d) 6 (.iff (.cmp (.loc "code") .Eq (.n 209)) yu []::a5::lr))).bind bM
  else if c=209 then((execs GG (ae GG PP d) 6 yu (aR (.tup (.int c::r)) e g q L aa b++[("code",AV.int c)]) H).bind (cL GG (ae GG PP d) 6 (a5::lr))).bind bM
  else((aA GG (ae GG PP d) 6 a5 (aR (.tup (.int c::r)) e g q L aa b++[("code",AV.int c)]) H).bind (cL GG (ae GG PP d) 6 lr)).bind bM:=by
 refine(aY Ii (by decide) Z).trans ((cx (·.bind bM) ((cx (λl=>execs GG (ae GG PP d) 6 l _ H) DK).trans (aU (ρ1:=aR (.tup (.int c::r)) e g q L aa b++[("code",AV.int c)]) (H1:=H) (by kernel_rfl)))).trans ?_);refine(yq (p:=c∈[0,12,14,15]) (by kernel_rfl)).trans (DA ?_ ((yq (p:=c=26) (by kernel_rfl)).trans (DA Z ((yq (p:=c=27) (by kernel_rfl)).trans (DA Z ((yq (p:=c=209) (by kernel_rfl)).trans (DA Z ?_)))))))
 ·exact T7 (z:=ae GG PP d "_law_jump" [.tup (.int c::r),.lst (cQ L),.obj b] H)
 ·exact cx (·.bind bM) bc
def wU{g:J T}(R:BR b q p m x bk K H)(o:m+4<500000)(l:ts.length<=4)(e:ρ.lookup "book"=O (.obj b))(c:ρ.lookup "need"=O (.obj q))(i:ρ.lookup "gives"=O (.lst (aj g.reverse)))(j:ρ.lookup "takes"=O (.lst (aj ts))):RB b (m+4) K ((execs GG (ae GG PP (d+1)) 6 lr ρ H).bind bM) (match P.given g x bk with | (aN,_)=>Q | (X,n,b)=>O (P.asks ts n b)):=by
 refine ak (tU (d:=d) (ks:=g) R) λW h f=>?_;generalize a:P.given g x bk=gv at h f ⊢;clear a;obtain⟨t,n',s⟩:=gv;delta lr;simp only[bc,de,zA,fE];simp only[bu,b6,aM,e,c,i,aB,bB,dB,dI,h,zw];clear h;cases t with
 | false=>exact bq _ Z
 | true=>
  refine ak (Px (d:=d) (k:=5) l f o (by rw[aM,j];rfl) e c) λy V r=>?_;refine ed y q p ?_ r;simp only[Ud,xO,fF,bB,cL];simp only[bc,V];simp only[bB,cL,bc,q9,aM,c,aB,tO,bM]
end
section
variable{d k n:S}{K:J (S×AO)}{H:Hp}{own:T}{b q p m:S}{W:P.bb}{bk:P.aG}{G:a7->aI AV}{C:CS}{ρ:Loc}{L:P.Ls}{aa:J T}
theorem BR.push(R:BR b q p m W bk K H)(a:m+1<500000)(e:J T)(g:e.length<=4):BR b q p (m+1) ⟨bk.length::W.ps,W.any⟩ (bk++[e]) K ((H.set b (.list (bW (bk++[e])))).set p (.list (du W.ps++[AV.int bk.length]))):=by
 refine⟨?_,?_,?_,?_,a,R.k.app (dh.one g)⟩
 ·show Own ((b,.list (bW (bk++[e])))::(q,.list [.obj p,.bool W.any])::(p,.list (du (bk.length::W.ps)))::K) _;rw[jU];exact(R.o.set [] (.list (bW (bk++[e])))).set [(b,_),(q,_)] _
 ·intro i hi;simp only[a9];rcases a8.mp hi with rfl | hi
  ·exact iB _
  ·exact jc (R.lt i hi)
 ·simp only[a9];exact x8 R.l1
 ·exact x8 R.l2
theorem BR.Py(R:BR b q p m W bk K H)(e:J T):(H.set b (.list (bW (bk++[e]))))[p]?=O (.list (du W.ps)):=(R.o.set [] (.list (bW (bk++[e])))).at (.tail _ (.tail _ (.head _)))
def BR.lim(R:BR b q p m W bk K H):(du W.ps).length<600000:=by
 delta du;have:=R.l2;have:=R.m;rw[d3,eb];exact z67 ‹_› this
def PB (e:J ME):MS:=.expr (.aK (.sub (.loc "need") (.n 0)) "append" [.call "_law_place" [.loc "book",.list X e]])
def Fq(R:BR b q p m W bk K H)(g:m+1<500000)(f:ρ.lookup "book"=O (.obj b))(c:ρ.lookup "need"=O (.obj q))(j:ct GG (ae GG PP (d+1)) k ks ρ H=.ok (aj l) H)(a:l.length<=4):∃i,execs GG (ae GG PP (d+1)) k [PB ks,.ret (.loc "need")] ρ H=.ok (.ret (.obj q),ρ) i/\BR b q p (m+1) ⟨bk.length::W.ps,W.any⟩ (bk++[l]) K i:=by
 haveI e:(aj l).length<=aZ:=by rw[d3];exact z69 a
 have h:(du W.ps).length<aZ:=by have:=R.lim;exact z70 this
 refine ay _ ?_ (R.push g l a);delta PB;dsimp only[bc,gT,iE,cg,aM,c];simp only[aB,bB,cb,fV,fU,di,bD,R.hq,e0,sU,R.hp,bu,b6,fE,aM,f,dB,dI,jR,j,eH,e,i5,(iF (d:=d) (ks:=l) R.hb (by have:=R.l1;have:=R.m;exact Ms ‹_› this)),ph,eg,R.Py,h,cW,kX,cL,bc,q9,c,tO]
noncomputable def Ij (v:AV):aS:=match v with | .int a=>decide (a∈[-1,-2]) | _=>aN
def DL(l:J T):(aj l).filter Ij=aj (l.filter P.isNum):=by
 haveI h:∀a:T,Ij (.int a)=P.isNum a:=λa=>by
  show eo (a∈[-1,-2])=(a==-1||a==-2);by_cases U:a=-1
  ·subst U;rfl
  ·by_cases V:a=-2
   ·clear U;subst V;rfl
   ·rw[a0 (by simp[U,V]),gn.mpr U,gn.mpr V];rfl
 induction l with
 | nil=>rfl
 | cons a l e=>
  simp only[show aj (a::l)=.int a::aj l from Z,Hb,h,e];cases P.isNum a<;>rfl
def Cd:J MS:=[.gp (.loc "book") (.loc "place") (.comp X (.loc "kind") "kind" (.sub (.loc "book") (.loc "place")) [.cmp (.loc "kind") .In (.tup [.n (-1),.n (-2)])]),.expr (.aK (.sub (.loc "need") (.n 0)) "extend" [.list X [.loc "place",.loc "place",.call "_law_place" [.loc "book",.list X [.n (-1)]]]]),.ret (.loc "need")]
def wr{x:V1 (Fl×Loc)}(h:x=.ok (.ret v,ρ') H):(x.bind (cL G C k e)).bind bM=.ok v H:=h▸Z
def PC(h:H[p]?=O (.list l))(b:(l++a).length<=aZ):cW (eg H (.obj p) "extend" [.lst a])=.ok .none (H.set p (.list (l++a))):=by
 show cW (match H[p]? with | some (.list l)=>_ | _=>Q)=_;refine ah h ?_;show cW (if(l++a).length<=aZ then _ else Q)=_;refine ah (dE b) ?_;rfl
def Af(R:BR b q p m W bk K H)(hi:i<bk.length)(hk:(bk.getD i []).length<100)(é:m+3<500000)(z:ρ.lookup "book"=O (.obj b))(A:ρ.lookup "need"=O (.obj q))(u:ρ.lookup "place"=O (.int i)):∃H',execs GG (ae GG PP (d+1)) (k+2) Cd ρ H=.ok (.ret (.obj q),ρ) H'/\BR b q p (m+3) ⟨bk.length::i::i::W.ps,W.any⟩ ((bk.set i ((bk.getD i []).filter P.isNum))++[[-1]]) K H':=by
 have hc:=se (G:=GG) (C:=ae GG PP (d+1)) (k:=k+1) (ρ:=ρ) (H:=H) (elt:=.loc "kind") (it:=.sub (.loc "book") (.loc "place")) (x:="kind") (cond:=[.cmp (.loc "kind") .In (.tup [.n (-1),.n (-2)])]) (f:=id) (g:=Ij) (l:=aj (bk.getD i [])) (s:=.lst (aj (bk.getD i [])))
  (gU (.v z (.v u (.v ((b7 R.hb).trans (B4 hi)) .nil))) (by kernel_rfl)) Z (by rw[d3];exact D4 hk) (λv hv H=>by
   clear hi;refine dP v (hN.mp hv) λa t=>?_;show _=V1.ok (AV.bool (eo (a∈[-1,-2]))) H;simp only[and_cons,cZ,aM,jn,cb,bu,b6,dB,dI,nh,Pj,i5,eD,dJ,sV,me,jg,a7.reduceBEq,aB,bB];cases eo (a∈[-1,-2])<;>rfl) (λv hv E H=>tQ .nil (by kernel_rfl))
 rw[J.map_id,DL] at hc;haveI hs:(bW bk).set (i:T).toNat (.lst (aj ((bk.getD i []).filter P.isNum)))=bW (bk.set i ((bk.getD i []).filter P.isNum)):=B5;have c:BR b q p m W (bk.set i ((bk.getD i []).filter P.isNum)) K ((H++[AO.dead]).set b (.list (bW (bk.set i ((bk.getD i []).filter P.isNum))))):=
  ⟨((R.o.grow [AO.dead]).set [] (.list (bW (bk.set i ((bk.getD i []).filter P.isNum))))),λj h=>by rw[kb];exact R.lt j h,by refine ah kb ?_;exact R.l1,R.l2,R.m,R.k.set (hD (J.length_filter_le _ _) (R.k.get i))⟩
 have t:=JM (ρ:=ρ) (v:=.lst (aj ((bk.getD i []).filter P.isNum))) ((R.o.grow [AO.dead]).at (.head _)) ⟨jl i,by delta bW;rw[d3];exact D3 hi⟩ hs;clear hs;generalize w:bk.set i ((bk.getD i []).filter P.isNum)=xW at c t;haveI y:xW.length=bk.length:=by rw[<-w,kb]
 generalize D:(H++[AO.dead]).set b (.list (bW xW))=H2 at c t;haveI hp:ae GG PP (d+1) "_law_place" [.obj b,.lst [.int (-1)]] H2=_:=iF (d:=d) (ks:=[-1]) c.hb (by have:=c.l1;have:=c.m;exact Ms ‹_› this);refine ay ((H2.set b (.list (bW (xW++[[-1]])))).set p (.list (du W.ps++[AV.int i,.int i,.int xW.length]))) ?_ ?_
 ·exact eL (.r hc (.v z (.v u (.l t (.v A (.v (b7 (i:=0) c.hq) (.o c.hp (.v u (.v u (.v z (.r hp (.r (PC (c.Py [-1]) (a:=[AV.int i,.int i,.int xW.length]) (by rw[a9];have:=R.lim;exact z73 this)) (.v A .nil))))))))))))) (by kernel_rfl)
 ·refine⟨?_,?_,?_,?_,é,c.k.app (dh.one (by decide))⟩
  ·show Own ((b,.list (bW (xW++[[-1]])))::(q,.list [.obj p,.bool W.any])::(p,.list (du (bk.length::i::i::W.ps)))::K) _;haveI e:du (bk.length::i::i::W.ps)=du W.ps++[AV.int i,.int i,.int xW.length]:=by rw[jU,jU,jU,y];simp
   exact e▸(c.o.set [] (.list (bW (xW++[[-1]])))).set [(b,_),(q,_)] _
  ·intro j h;simp only[a9,y];rcases a8.mp h with rfl | h
   ·exact iB _
   ·rcases a8.mp h with rfl | h
    ·exact jc hi
    ·rcases a8.mp h with rfl | h
     ·exact jc hi
     ·exact jc (R.lt j h)
  ·rw[a9,y];have:=R.l1;exact z76 this
  ·show W.ps.length+1+1+1<=_;have:=R.l2;exact z77 this
def LA(h:H[p]?=O (.list l)):bf H .NotEq (.obj p) (.lst [])=O (!l.isEmpty):=by
 show(fk H _ _).map _=_;have:=eq_nil h;rw[show fk H (.obj p) (.lst [])=O l.isEmpty from this];rfl
def LB(R:BR b q p m W bk K H)(s:m+4<500000)(y:ρ.lookup "book"=O (.obj b))(l:ρ.lookup "need"=O (.obj q))(ss:J MS):RB b (m+4) K (((execs GG (ae GG PP (d+1)) 6 wR ρ H).bind (cL GG (ae GG PP (d+1)) 6 ss)).bind bM) (P.gI aa L .sel W bk):=by
 haveI c:=eq_nil R.hp;haveI g:=LA R.hp;rw[wL] at c g;refine ah (show wR=wR.take 2++Cd from Z) ?_;have e:=λF (t:Facts F)=>Facts.v l (.v (b7 (i:=0) R.hq) t);delta P.gI;dsimp only;refine DV W.ps ?_ ?_
 ·intro a;rw[a] at c g;dsimp only;refine gz W.any ?_ ?_
  ·intro n;exact bq H (wr (ρ':=ρ) (eL (e _ (.b c (.d (.v l (.v ((b7 (i:=1) R.hq).trans (cx (λx=>O (AV.bool x)) n)) (.d (.d .nil))))))) (by kernel_rfl)))
  ·intro n;have hp:=iF (d:=d) (ks:=[-1,-2]) R.hb (by have:=R.l1;have:=R.m;exact Ms ‹_› this);have z:BR b q p (m+1) W (bk++[[-1,-2]]) K (H.set b (.list (bW (bk++[[-1,-2]])))):=
    ⟨R.o.set [] _,λj w=>by simp only[a9];exact jc (R.lt j w),by simp only[a9];exact x8 R.l1,p3 R.l2,z83 s,R.k.app (dh.one (by decide))⟩
   have é:(bk++[[-1,-2]]).getD bk.length []=[-1,-2]:=by rw[eI,oL];rfl
   refine ak (Af (d:=d) (k:=4) (i:=bk.length) (ρ:=put "place" (.int bk.length) ρ) z (by simp only[a9];exact z84) (by rw[é];decide) (z85 s) (aE (by kernel_rfl) y) (aE (by kernel_rfl) l) (bQ)) λH' h f=>?_;rw[é] at f;have u:(bk++[[-1,-2]]).set bk.length (([-1,-2]:J T).filter P.isNum)=bk++[[-1,-2]]:=by
    rw[show([-1,-2]:J T).filter P.isNum=[-1,-2] from Z];simp
   simp only[u,a,n,a9] at f;exact ed H' q p (wr ((fG (ρ1:=put "place" (.int bk.length) ρ) (eL (e _ (.b c (.d (.v l (.v ((b7 (i:=1) R.hq).trans (cx (λx=>O (AV.bool x)) n)) (.d (.d (e _ (.b g (.d (.v y (.r hp .nil)))))))))))) (by kernel_rfl))).trans h)) f
 ·intro i ps a;rw[a] at c g;have hi:=R.lt i (by rw[a];exact .head _);have A:(du W.ps).getLast?=O (.int i)/\(du W.ps).dropLast=du ps:=by rw[a,jU];exact au (by simp) (by simp)
  have z:BR b q p m ⟨ps,W.any⟩ bk K (H.set p (.list (du ps))):=
   ⟨R.o.set [(b,_),(q,_)] _,λj w=>R.lt j (by rw[a];exact .tail _ w),R.l1,by have:=R.l2;rw[a] at this;exact q7 this,R.m,R.k⟩
  refine ak (Af (d:=d) (k:=4) (i:=i) (ρ:=put "place" (.int i) ρ) z hi (by have:=R.k.get i;exact z89 this) (z90 s) (aE (by kernel_rfl) y) (aE (by kernel_rfl) l) (bQ)) λH' h f=>?_;exact ed H' q p (wr ((fG (ρ1:=put "place" (.int i) ρ) (eL (e _ (.b c (.d (.d (e _ (.b g (.d (e _ (.o R.hp (.r (lC R.hp A.1 A.2) .nil)))))))))) (by kernel_rfl))).trans h)) (f.up z93 s)
end
section
variable{d k n:S}{K:J (S×AO)}{H:Hp}{own:T}{b q p m:S}{i:P.bb}{bk:P.aG}{G:a7->aI AV}{C:CS}{ρ:Loc}{L:P.Ls}{aa:J T}
theorem RB.up(h:RB b m K r o)(U:m<=g)(V:g<500000):RB b g K r o:=by
 cases o with| none=>exact h| some x=>exact dp h λj q p e R=>ed j q p e (R.up U V)
abbrev mS (op e g:AV)(q:S)(L:P.Ls)(aa:J T)(b:S)(c:T):Loc:=aR op e g q L aa b++[("code",AV.int c)]
def Ce:(mS op e g q L aa b c).lookup "op"=O op/\(mS op e g q L aa b c).lookup "need"=O (.obj q)/\(mS op e g q L aa b c).lookup "labels"=O (.lst (cQ L))/\(mS op e g q L aa b c).lookup "places"=O (.lst (aj aa))/\(mS op e g q L aa b c).lookup "book"=O (.obj b)/\(mS op e g q L aa b c).lookup "code"=O (.int c)/\(mS op e g q L aa b c).lookup "other"=O g/\(mS op e g q L aa b c).lookup "inner"=O e:=⟨Z,Z,Z,Z,Z,Z,Z,Z⟩
def afj:eS (.many ["takes","gives"]) (.tup [t,g]) ρ=O (put "gives" g (put "takes" t ρ)):=Z
def ab9(U:y≠"gives")(V:y≠"takes"):(put "gives" g (put "takes" t ρ)).lookup y=ρ.lookup y:=aE (a0 U) (aE (a0 V) Z)
def aeN:(put "gives" g (put "takes" t ρ)).lookup "takes"=O t:=aE (by kernel_rfl) bQ
def aeO:(put "gives" g (put "takes" t ρ)).lookup "gives"=O g:=bQ
def Ft{t:J T}(h:P.fixed aa o=O (t,g)):t.length<=4:=by
 haveI e:∀{q},P.fixed aa o=O q->q.1.length<=4:=λh=>by
  cases o<;>first | exact gf h▸la _ | exact gf h▸(by decide:1<=4) | exact gf h▸(by decide:2<=4) | exact gf h▸(by decide:3<=4) | exact nomatch (show Q=O _ from h)
 exact e h
def og(h:aA G C k s ρ H=.ok (.ret v,e) g):execs G C k (s::j) ρ H=.ok (.ret v,e) g:=bc.trans (mf h)
def Ag{b:J T}(h:(a++b).length<=aZ):cK .Add (.lst (aj a)) (.lst (aj b))=O (.lst (aj (a++b))):=(add_l (by rw[a9,d3,d3,<-a9];exact h)).trans (cx (λl=>O (AV.lst l)) l9.symm)
noncomputable def nj (c:T):aS:=eo (c∉[0,12,14,15]/\c≠26/\c≠27/\c≠209/\c∉[2,3,4]/\c≠13)
def Ah (d:S)(b q m:S)(i:P.bb)(bk:P.aG)(K:J (S×AO))(H:Hp)(e g:AV)(L:P.Ls)(aa:J T)(o:P.Op):Prop:=RB b (m+6) K (ae GG PP (d+3) "_law_ahead" [.tup (ov o),e,g,.obj q,.lst (cQ L),.lst (aj aa),.obj b] H) (P.gI aa L o i bk)
def RB.of(e:x=y)(h:RB b m K y o):RB b m K x o:=e▸h
def wx{x:V1 (Fl×Loc)}(h:x=.ok (.next,e) g):(x.bind (cL G C k j)).bind bM=(execs G C k j e g).bind bM:=h▸Z
section
variable{o:P.Op}{j k:AV}{c:T}{r:J AV}
def PD{g:J T}(w:mR aa L.length o)(R:BR b q p m i bk K H)(f:m+6<500000)(e:ov o=.int c::r)(hc:nj c=X)(a:P.fixed aa o=O (t,g))(hb:P.gI aa L o i bk=(match P.given g i bk with | (aN,_)=>Q | (X,n,b)=>O (P.asks t.reverse n b))):Ah d b q m i bk K H j k L aa o:=by
 delta Ah;simp only[hb];refine Cs (gb hc) λU V h3 h4 h5 h=>.of ((cx (λl=>ae GG PP (d+3) "_law_ahead" [.tup l,j,k,.obj q,.lst (cQ L),.lst (aj aa),.obj b] H) e).trans (jV.trans ((dm U).trans ((dm V).trans ((dm h3).trans ((dm h4).trans (wx (nk (.c (a0 h5) (.d (.c (a0 h) (.d (.r ((cx (λl=>ae GG PP (d+2) "_law_fixed" [.tup l,.lst (aj aa)] H) e).symm.trans (Aa (d:=d+1) a w)) .nil))))) (by kernel_rfl)))))))))
  ((wU (ρ:=put "gives" (.lst (aj g.reverse)) (put "takes" (.lst (aj t.reverse)) (aR (.tup (.int c::r)) j k q L aa b++[("code",AV.int c)]))) (d:=d+1) R (Mu f) (by rw[eb];exact Ft a) (by kernel_rfl) (by kernel_rfl) (by kernel_rfl) (by kernel_rfl)).up Mv f)
def vF(g:LL L)(w:mR aa L.length o)(R:BR b q p m i bk K H)(e:m+6<500000)(f:Ae o=X)(hb:P.gI aa L o i bk=P.wq L o bk)(a:ov o=.int c::r)(hc:decide (c∈[0,12,14,15])=X):Ah d b q m i bk K H j k L aa o:=by
 haveI h:=Lz (d:=d) (m:=m) R.k f g w ((R.o.drop [(b,_)]).drop [(b,_)]) R.l1 (z95 e);delta Ah;rw[hb,a,jV,dE (gb hc),<-a];exact RB.up (m:=m+5) h z96 e
end
def Ik(R:BR b q p m i bk K H)(a:m+6<500000):Ah d b q m i bk K H g j L aa .dK:=by
 show RB b (m+6) K _ (match P.given [-1] i bk with | (aN,_)=>Q | (X,n,b)=>O (⟨b.length::n.ps,n.any⟩,b++[[-16,-17]]));refine .of (jV.trans ((dm (by decide)).trans ((dm (by decide)).trans ((dm (by decide)).trans (dE Z))))) (ak (tU (d:=d+1) (ks:=[-1]) R) λs h c=>?_);generalize P.given [-1] i bk=gv at h c ⊢;obtain⟨t,z,f⟩:=gv;cases t with
 | false=>exact bq s (wr (og (nk (ρ:=mS (.tup [.int 209]) g j q L aa b 209) (r:=.ok (.ret .none,mS (.tup [.int 209]) g j q L aa b 209) s) (.r h (.d .nil)) (by kernel_rfl))))
 | true=>exact ak (Fq (d:=d+1) (k:=6) (l:=[-16,-17]) (ks:=[.n (-16),.n (-17)]) (ρ:=mS (.tup [.int 209]) g j q L aa b 209) c (U9 a) Z Z Z (by decide)) λy V e=>ed y q p (wr ((aU (nk (.r h (.d .nil)) (by kernel_rfl))).trans V)) (e.up Mk a)
def Il(c:LL L)(w:mR aa L.length (.gr l))(R:BR b q p m i bk K H)(f:m+6<500000):Ah d b q m i bk K H h j L aa (.gr l):=by
 haveI e:aA GG (ae GG PP (d+2)) 6 a5 (mS (.tup [.int 13,.int l]) h j q L aa b 13) H=.ok (.next,put "takes" (.lst (aj ((L.getD l []).reverse++[-1]))) (put "gives" (.lst (aj (L.getD l []).reverse)) (mS (.tup [.int 13,.int l]) h j q L aa b 13))) H:=
  nk (.d (.d (.d (.d (.d (.d (.v (Ab w) (.v (Ag (a:=(L.getD l []).reverse) (b:=[-1]) (by rw[a9,eb,o4];exact z86 (c.get l))) .nil)))))))) (by kernel_rfl)
 exact .of (jV.trans ((dm (by decide)).trans ((dm (by decide)).trans ((dm (by decide)).trans ((dm (by decide)).trans (wx e))))))
  ((wU (d:=d+1) (g:=L.getD l []) (ts:=(L.getD l []).reverse++[-1]) R (Mu f) (by rw[a9,eb,o4];exact z99 (c.get l)) (by kernel_rfl) (by kernel_rfl) (by kernel_rfl) (by kernel_rfl)).up Mv f)
def PE(c:LL L)(w:mR aa L.length o)(R:BR b q p m i bk K H)(a:m+6<500000):RB b (m+6) K (ae GG PP (d+3) "_law_ahead" [.tup (ov o),g,j,.obj q,.lst (cQ L),.lst (aj aa),.obj b] H) (P.gI aa L o i bk):=by
 change Ah d b q m i bk K H g j L aa o;cases o with
 | drop=>exact .of (jV.trans ((dm (by decide)).trans (dE Z))) (ak (Fq (d:=d+1) (k:=6) (l:=[-1,-2,-16,-17]) (ks:=[.n (-1),.n (-2),.n (-16),.n (-17)]) (ρ:=mS (.tup [.int 26]) g j q L aa b 26) R (U9 a) Z Z Z (by decide)) λs h e=>ed s q p (wr h) (e.up Mk a))
 | sel=>exact(LB (d:=d+1) R (Mu a) Ce.2.2.2.2.1 Ce.2.1 _).up Mv a
 | dK=>exact Ik R a
 | gr l=>exact Il c w R a
 | cP=>exact vF c w R a Z Z Z Z
 | br l=>exact vF c w R a Z Z Z Z
 | f9 x y z=>exact vF c w R a Z Z Z Z
 | ret=>exact vF c w R a Z Z Z Z
 | _=>exact PD w R a Z Z Z Z
end
section
variable{d k n:S}{K:J (S×AO)}{H:Hp}{own:T}{b q p m:S}{W:P.bb}{bk:P.aG}{G:a7->aI AV}{C:CS}{ρ:Loc}{L:P.Ls}{aa:J T}
mutual
def NV (aa:J T):S->P.N->AV->Prop
 | n,.op o,v=>mR aa n o/\v=.tup [.tup (ov o),.none,.none]
 | n,.eO c t g e two h,v=>∃i iv j,i∈marks/\(c=2\/c=3\/c=4)/\t=P.tk i/\g=P.gv i/\(two=X->c=4)/\s6 aa (n+1) e iv/\s6 aa (n+1) h j/\v=.tup [.tup [.int c,.int i],.lst iv,if two=X then .lst j else .none]
def s6 (aa:J T):S->J P.N->J AV->Prop
 | _,[],l=>l=[]
 | n,x::e,l=>∃v r,l=v::r/\NV aa n x v/\s6 aa n e r
end
mutual
noncomputable def dN:P.N->S
 | .op _=>0
 | .eO _ _ _ e _ g=>1+max (jt e) (jt g)
noncomputable def jt:J P.N->S
 | []=>0
 | x::e=>max (dN x) (jt e)
end
mutual
noncomputable def sN:P.N->S
 | .op _=>6
 | .eO _ _ _ e _ g=>12+dw e+dw g
noncomputable def dw:J P.N->S
 | []=>0
 | x::e=>sN x+dw e
end
def bR (aa:J T)(L:P.Ls):J P.N->P.bb->P.aG->aI (P.bb×P.aG)
 | [],n,b=>O (n,b)
 | x::e,n,b=>(P.bN aa L x n b).bind λr=>bR aa L e r.1 r.2
def agr(aa:J T)(L:P.Ls)(x:P.bb)(a:P.aG):bR aa L [] x a=O (x,a):=Z
def ags(aa:J T)(L:P.Ls)(x:P.bb)(a:P.aG)(b:P.N)(e:J P.N):bR aa L (b::e) x a=(P.bN aa L b x a).bind λr=>bR aa L e r.fst r.snd:=Z
theorem Fu:∀(e a:J P.N) (n:P.bb) (b:P.aG),bR aa L (e++a) n b=(bR aa L e n b).bind λr=>bR aa L a r.1 r.2
 | [],a,n,b=>rfl
 | x::e,a,n,b=>by
  show(P.bN aa L x n b).bind _=((P.bN aa L x n b).bind _).bind _;cases P.bN aa L x n b with| none=>rfl| some r=>exact Fu e a r.1 r.2
theorem Cg:∀(e:J P.N) (n:P.bb) (b:P.aG),P.gJ aa L e n b=bR aa L e.reverse n b
 | [],n,b=>by dsimp only[P.JB,P.JC];rfl
 | x::e,n,b=>by
  dsimp only[P.JB,P.JC];simp only[i7,Fu,Cg e];congr 1;funext r;show _=(P.bN aa L x r.1 r.2).bind λr=>O (r.1,r.2);clear e;cases P.bN aa L x r.1 r.2<;>rfl
def HB (b m:S)(K:J (S×AO))(r:V1 AV)(h:aS×P.aG):Prop:=
 if h.1=X then ∃e,r=.ok (.bool X) e/\Own ((b,.list (bW h.2))::K) e/\h.2.length<=m/\dh h.2 else ∃e,r=.ok (.bool aN) e
def AH (d:S)(aa:J T)(L:P.Ls)(x:P.N)(v:AV):Prop:=∀{K:J (S×AO)}{H:Hp}{b q p m:S}{W:P.bb}{bk:P.aG},BR b q p m W bk K H->m+sN x<500000->
 ∃op e g,v=.tup [op,e,g]/\RB b (m+sN x) K (ae GG PP d "_law_ahead" [op,e,g,.obj q,.lst (cQ L),.lst (aj aa),.obj b] H) (P.bN aa L x W bk)
noncomputable def JP:J MS:=[.asg "need" (.call "_law_ahead" [.loc "op",.loc "inner",.loc "other",.loc "need",.loc "labels",.loc "places",.loc "book"]),.iff (.cmp (.loc "need") .Is (.lit .none)) [.ret (.lit (.bool aN))] []]
inductive iG (Z:P.N->AV->Prop):J P.N->J AV->Prop where
 | nil:iG Z [] []
 | cons {x v xs vs}:Z x v->iG Z xs vs->iG Z (x::xs) (v::vs)
def iG.app(U:iG s e vs)(V:iG s g i):iG s (e++g) (vs++i):=by
 induction U with| nil=>exact V| cons h _ j=>exact .cons h j
def iG.rev(h:iG i e vs):iG i e.reverse vs.reverse:=by
 induction h with| nil=>exact .nil| cons h _ g=>simp only[i7];exact g.app (.cons h .nil)
theorem Ci:∀g e:J P.N,dw (g++e)=dw g+dw e
 | [],e=>by show dw e=0+dw e;exact z78
 | x::g,e=>by show sN x+dw (g++e)=sN x+dw g+dw e;exact(Ci g e)▸z79
theorem wV:∀e:J P.N,dw e.reverse=dw e
 | []=>rfl
 | x::e=>by
  rw[i7,Ci,wV e];exact z80
def PG (b m:S)(K:J (S×AO))(ρ:Loc)(r:V1 (Fl×Loc))(o:aI (P.bb×P.aG)):Prop:=match o with
 | some (i,j)=>∃g h s e,r=.ok (.next,e) g/\BR b h s m i j K g/\e.lookup "need"=O (.obj h)/\e.lookup "book"=O (.obj b)/\e.lookup "starts"=ρ.lookup "starts"
 | none=>∃g e,r=.ok (.ret (.bool aN),e) g
def PH{xs:J P.N}{vs:J AV}(D:iG (AH d aa L) xs vs):∀{W:P.bb}{bk:P.aG}{H:Hp}{ρ:Loc}{q p m:S},BR b q p m W bk K H->m+dw xs<500000->
  ρ.lookup "need"=O (.obj q)->ρ.lookup "labels"=O (.lst (cQ L))->ρ.lookup "places"=O (.lst (aj aa))->ρ.lookup "book"=O (.obj b)->
  PG b (m+dw xs) K ρ (c0 GG (ae GG PP d) k JP (.many ["op","inner","other"]) vs ρ H) (bR aa L xs W bk):=by
 induction D with
 | nil=>intro W bk H ρ q p m R w f c t g;exact Cw H q p ρ Z R f g Z
 | @cons x v xs vs V2 _ a=>
  intro W bk H ρ q p m R w f c t g;have A:m+sN x+dw xs<500000:=z81 w (show dw (x::xs)=sN x+dw xs from Z);refine aP v (V2 R (by exact z82 A)) λop vi vo h=>?_;clear V2;have lk:∀y:a7,y≠"op"->y≠"inner"->y≠"other"->(put "other" vo (put "inner" vi (put "op" op ρ))).lookup y=ρ.lookup y:=λy U V h3=>aE (a0 h3) (aE (a0 V) (aE (a0 U) Z));have k1:=(lk "need" (by decide) (by decide) (by decide)).trans f;have k2:=(lk "labels" (by decide) (by decide) (by decide)).trans c;have k3:=(lk "places" (by decide) (by decide) (by decide)).trans t;have s:=(lk "book" (by decide) (by decide) (by decide)).trans g;have k5:=lk "starts" (by decide) (by decide) (by decide);have i:(put "other" vo (put "inner" vi (put "op" op ρ))).lookup "op"=O op:=aE (by kernel_rfl) (aE (by kernel_rfl) bQ);have l:(put "other" vo (put "inner" vi (put "op" op ρ))).lookup "inner"=O vi:=aE (by kernel_rfl) bQ;have n:(put "other" vo (put "inner" vi (put "op" op ρ))).lookup "other"=O vo:=bQ;have j:eS (.many ["op","inner","other"]) (.tup [op,vi,vo]) ρ=O (put "other" vo (put "inner" vi (put "op" op ρ))):=Z;generalize put "other" vo (put "inner" vi (put "op" op ρ))=cw at k1 k2 k3 s k5 i l n j;have u:=λv H' (h:ae GG PP d "_law_ahead" [op,vi,vo,.obj q,.lst (cQ L),.lst (aj aa),.obj b] H=.ok v H')=>Facts.v i (.v l (.v n (.v k1 (.v k2 (.v k3 (.v s (.r h (.v (bQ (x:="need") (v:=v) (ρ:=cw)) (.d (.d .nil))))))))));clear k1 i l n f c t g lk;show PG b _ K ρ _ ((P.bN aa L x W bk).bind λr=>bR aa L xs r.1 r.2);generalize P.bN aa L x W bk=o at h ⊢;cases o with
  | none=>exact aH h λH' h=>yy H' (put "need" .none cw) (vq j (eL (u _ _ h) (by kernel_rfl)))
  | some r=>
   refine dp h λH' z è h I=>?_;have a:=a (ρ:=put "need" (.obj z) cw) I A bQ (aE (by kernel_rfl) k2) (aE (by kernel_rfl) k3) (aE (by kernel_rfl) s);have e:=vn (G:=GG) (C:=ae GG PP d) (k:=k) (b:=JP) (H:=H) (vs:=vs) j (eL (u _ _ h) (by kernel_rfl:_=O (V1.ok (Fl.next,put "need" (.obj z) cw) H',_)));show PG b _ K ρ _ (bR aa L xs r.1 r.2);rw[e];generalize bR aa L xs r.1 r.2=o at a ⊢;clear e u h;cases o with
   | none=>exact a
   | some r2=>exact Cv a λH2 c F E U é h3 h4 h5=>Cw H2 c F E U ((show m+sN x+dw xs=m+dw (x::xs) from z87)▸é) h3 h4 (h5.trans ((aE (by kernel_rfl) Z).trans k5))
def Im:PP "_law_holds"=O kj:=Z
def holds_of{ms:J P.N}{l:J AV}{é ends:J T}(y:iG (AH (d+1) aa L) ms l)(g:ends.length<=2)(hB:dh bk)(ù:Own ((b,.list (bW bk))::K) H)(U:bk.length<=m)(u:m+2+dw ms<500000):HB b (m+2+dw ms) K (ae GG PP (d+2) "_law_holds" [.lst l,.lst (aj é.reverse),.lst (aj ends.reverse),.lst (cQ L),.lst (aj aa),.obj b] H) (P.holds aa L é ends ms bk):=by
 refine bG (B8 (d:=d) (k:=5) (ρ:=[("nodes",.lst l),("starts",.lst (aj é.reverse)),("ends",.lst (aj ends.reverse)),("labels",.lst (cQ L)),("places",.lst (aj aa)),("book",.obj b)]) (it:=.loc "ends") (ks:=ends.reverse) Z ù (by rw[eb];exact Wx g U u) (by rw[eb];exact Mo g) Z) λH1 p h à=>?_;haveI n:=rA bk (ends.reverse.map λk=>[k]);rw[d3] at n;haveI x:BR b H1.length p (m+2) (P.bE ends bk).1 (P.bE ends bk).2 K (H1++[AO.list [.obj p,.bool aN]]):=by
  refine⟨?_,?_,?_,?_,Wz u,hB.app (dh.ones _)⟩
  ·show Own ((b,.list (bW (bk++ends.reverse.map λk=>[k])))::(H1.length,.list [.obj p,.bool aN])::(p,.list (du ((P.fresh bk (ends.reverse.map λk=>[k])).1.reverse++[])))::K) _;rw[hP,n];exact(à.new (.list [.obj p,.bool aN])).back [(b,_)]
  ·intro i hi;have hi:i∈(P.fresh bk (ends.reverse.map λk=>[k])).1.reverse++[]:=hi;rw[hP] at hi;have:=tW i (hO.mp hi);show i<(bk++ends.reverse.map λk=>[k]).length;rw[a9];exact this
  ·show(bk++ends.reverse.map λk=>[k]).length<=_;simp only[a9,d3,eb];exact WA g U
  ·show((P.fresh bk (ends.reverse.map λk=>[k])).1.reverse++[]).length<=_;simp only[hP,eb];have:(P.fresh bk (ends.reverse.map λk=>[k])).1.length=ends.length:=by simp[P.fresh]
   exact WB g this
 have c:=PH (d:=d+1) (k:=5) (K:=K) (b:=b) y.rev (ρ:=put "need" (.obj H1.length) [("nodes",.lst l),("starts",.lst (aj é.reverse)),("ends",.lst (aj ends.reverse)),("labels",.lst (cQ L)),("places",.lst (aj aa)),("book",.obj b)]) x (by rw[wV];exact u) Z Z Z Z;rw[wV] at c;delta P.holds P.ended;rw[Cg,aY Im (by decide) Z];generalize bR aa L ms.reverse (P.bE ends bk).1 (P.bE ends bk).2=o at c ⊢;clear n x y;cases o with
 | none=>exact d9 c λH' è c=>bq H' (aQ (.r h (.d (.l c .nil))) (by kernel_rfl))
 | some r=>
  refine Cv c ?_;intro H2 E D q c C k1 k2 k3;haveI k3:q.lookup "starts"=O (.lst (aj é.reverse)):=k3;refine ak (tU (d:=d) (ks:=é) C) λj h3 f=>?_;have st:=λ{v} (w:(execs GG (ae GG PP (d+1)) 6 (kj.body.drop 2) q H2).bind bM=.ok v j)=>(cx (·.bind bM) (fG (a:=kj.body.take 2) (b:=kj.body.drop 2) (ρ1:=q) (H1:=H2) (ρ:=[("nodes",.lst l),("starts",.lst (aj é.reverse)),("ends",.lst (aj ends.reverse)),("labels",.lst (cQ L)),("places",.lst (aj aa)),("book",.obj b)]) (H:=H) (hW (.r h (.d (.l c .nil))) (by kernel_rfl)))).trans w;dsimp only;generalize P.given é r.1 r.2=gv at h3 f ⊢;obtain⟨t,z,A⟩:=gv;haveI s:=eq_nil f.hp;simp only[wL] at s;clear c;cases t with
  | false=>exact bq j (st (lp (.v k2 (.v k1 (.v k3 (.r h3 (.d .nil))))) (by kernel_rfl)))
  | true=>
   cases e:z.ps.isEmpty with
   | false=>exact bq j (st (lp (.v k2 (.v k1 (.v k3 (.r h3 (.d (.v k1 (.v (b7 (i:=0) f.hq) (.b (s.trans (cx O e)) (.d .nil))))))))) (by kernel_rfl)))
   | true=>exact L6 j (st (lp (.v k2 (.v k1 (.v k3 (.r h3 (.d (.v k1 (.v (b7 (i:=0) f.hq) (.b (s.trans (cx O e)) (.d .nil))))))))) (by kernel_rfl))) ((f.o.drop [(b,_)]).drop [(b,_)]) f.l1 f.k
end
section
variable{d k n:S}{K:J (S×AO)}{H:Hp}{own:T}{b q p m:S}{W:P.bb}{bk:P.aG}{G:a7->aI AV}{C:CS}{ρ:Loc}{L:P.Ls}{aa:J T}
theorem lu:∀(e:J T) (n:P.bb) (b:P.aG),(P.given e n b).2.2.length=b.length
 | [],n,b=>rfl
 | k::e,n,b=>by
  dsimp only[P.BG,P.nQ];cases n.ps with
  | nil=>rfl
  | cons p g=>
   dsimp only
   split
   ·rw[lu e,kb]
   ·rfl
def ij{g:P.bb}{a e:P.aG}(h:O (i,a)=O (g,e)):a=e:=by cases(h);rfl
def eM{b:P.aG}:b.length<=(b++l).length:=by simp only[a9];exact sX _ _
def pB{n:P.bb}{b:P.aG}(h:(match P.given g n b with | (aN,_)=>Q | (X,n,b)=>O (P.asks t n b))=O (i,e)):b.length<=e.length:=by
 have:=lu g n b;generalize P.given g n b=gv at h this;obtain⟨r,a,c⟩:=gv;cases r with
 | false=>injection h
 | true=>
  obtain rfl:=ij h;exact hD (sY this.symm) eM
def mT{b e:P.aG}(h:P.wq L o b=O (g,e)):b.length<=e.length:=by
 cases o with
 | cP=>exact sY (cx _ (ij h))
 | br l=>obtain rfl:=ij h;exact eM
 | ret=>obtain rfl:=ij h;exact eM
 | f9 x y z=>exact t9 h (λa h=>nomatch h) λa h=>by obtain rfl:=ij h;exact eM
 | _=>exact nomatch (show Q=O _ from h)
def Io{n:P.bb}{b:P.aG}(h:P.gI aa L o n b=O (s,j)):b.length<=j.length:=by
 have e:∀{t g:J T},P.fixed aa o=O (t,g)->(match P.given g n b with | (aN,_)=>Q | (X,n,b)=>O (P.asks t.reverse n b))=O (s,j)->b.length<=j.length:=λa h=>pB h;cases o with
 | cP=>exact mT (L:=L) (o:=.cP) h
 | br l=>exact mT (L:=L) (o:=.br l) h
 | f9 x y z=>exact mT (L:=L) (o:=.f9 x y z) h
 | ret=>exact mT (L:=L) (o:=.ret) h
 | drop=>obtain rfl:=ij h;exact eM
 | sel=>
  delta P.gI at h;dsimp only at h
  split at h
  ·revert h;refine aJ ?_ ?_<;>intro a h
   ·clear e;obtain rfl:=ij h;exact hD eM eM
   ·injection h
  ·clear e;obtain rfl:=ij h;rw[a9,kb];exact sX _ _
 | dK=>
  change (match P.given [-1] n b with | (aN,_)=>Q | (X,n,b)=>O (⟨b.length::n.ps,n.any⟩,b++[[-16,-17]]))=O (s,j) at h;have:=lu [-1] n b;generalize P.given [-1] n b=gv at h this;obtain⟨r,c,d⟩:=gv;clear e;cases r with
  | false=>injection h
  | true=>obtain rfl:=ij h;exact hD (sY this.symm) eM
 | gr l=>exact pB (g:=L.getD l []) (t:=(L.getD l []).reverse++[-1]) h
 | mZ k=>exact e Z h
 | xx n=>exact e Z h
 | xA n=>exact e Z h
 | j7 k=>exact e Z h
 | mI=>exact e Z h
 | mJ=>exact e Z h
 | mK=>exact e Z h
 | lX i=>exact e Z h
 | lY i=>exact e Z h
 | lZ i=>exact e Z h
 | sQ=>exact e Z h
def pC{b:P.aG}(h:∀g e,r=O (g,e)->b.length<=e.length):b.length<=(P.ended t r b).2.length:=by
 cases r with
 | none=>exact gk _
 | some x=>
  exact z97 (h x.1 x.2 Z) (lu t x.1 x.2)
def Fv{n:P.bb}(h:P.tJ c t g n r more=O (i,e)):(more r.2).2.length<=e.length:=by
 delta P.tJ at h;by_cases q:(r.1&&(more r.2).1)=X
 ·rw[dE q] at h;exact pB (t:=t.reverse++(if c=4 then[-1] else[])) h
 ·rw[dm q] at h;injection h
mutual
theorem LC:∀(x:P.N) {L:P.Ls}{n y:P.bb}{b s:P.aG},P.bN aa L x n b=O (y,s)->b.length<=s.length
 | .op o,L,n,y,b,s,h=>by delta P.bN at h;dsimp only at h;exact Io h
 | .eO c t g i two j,L,n,y,b,s,h=>by
  have a:=Fv (P.EU.symm.trans h);have U:=pC (t:=t) (b:=b) (r:=P.gJ aa ((if c=3 then t else g)::L) i (P.bE g b).1 (P.bE g b).2) λy s e=>hD eM (pD i e);generalize P.ended t (P.gJ aa ((if c=3 then t else g)::L) i (P.bE g b).1 (P.bE g b).2) b=e1 at a U;obtain⟨z,d⟩:=e1;cases two with
  | false=>exact hD U a
  | true=>
   have V:=pC (t:=t) (b:=d) (r:=P.gJ aa ((if c=3 then t else g)::L) j (P.bE g d).1 (P.bE g d).2) λy s e=>hD eM (pD j e);exact hD (hD U V) a
theorem pD:∀(g:J P.N) {L:P.Ls}{n i:P.bb}{b e:P.aG},P.gJ aa L g n b=O (i,e)->b.length<=e.length
 | [],L,n,i,b,e,h=>by delta P.gJ at h;dsimp only at h;obtain rfl:=ij h;exact gk _
 | x::g,L,n,i,b,e,h=>by
  refine ak (Dm.mp h) λr U V=>?_;exact hD (pD g U) (LC x V)
end
def DM{b:P.aG}:b.length<=(P.holds aa L starts ends ms b).2.length:=
 pC λg h e=>hD eM (pD ms e)
def PI{b:J T}:bf H .NotEq (.lst (aj a)) (.lst (aj b))=O (!decide (a=b)):=by
 by_cases c:a.length=b.length
 ·have:=Fh (H:=H) c;show(fk H _ _).map _=_;rw[show fk H (.lst (aj a)) (.lst (aj b))=O (eo (a=b)) from this];rfl
 ·rw[a0 λz=>c (cx QD z)];show(fk H _ _).map _=_;have:fk H (.lst (aj a)) (.lst (aj b))=O aN:=by
   delta fk bD;dsimp only;rw[d3,d3,dE c]
  rw[this];rfl
noncomputable def lF:J MS:=[.iff (.not (.call "_law_holds" [.loc "nodes",.loc "takes",.loc "gives",.bin .Add (.loc "labels") (.list X [.ite (.cmp (.loc "code") .Eq (.n 3)) (.loc "takes") (.loc "gives")]),.loc "places",.loc "book"])) [.ret (.lit .none)] []]
def Ip:cQ (l::L)=cQ L++[.lst (aj l.reverse)]:=by delta cQ;simp
def Iq{c:S}(o:L.length<100)(m:ρ.lookup "nodes"=O s)(n:ρ.lookup "takes"=O (.lst (aj t.reverse)))(h:ρ.lookup "gives"=O (.lst (aj g.reverse)))(f:ρ.lookup "labels"=O (.lst (cQ L)))(e:ρ.lookup "code"=O (.int c))(j:ρ.lookup "places"=O (.lst (aj aa)))(i:ρ.lookup "book"=O (.obj b)):execs GG (ae GG PP d) k lF ρ H=(((ae GG PP d "_law_holds" [s,.lst (aj t.reverse),.lst (aj g.reverse),.lst (cQ ((if c=3 then t else g)::L)),.lst (aj aa),.obj b] H).bind zw).bind (xO GG (ae GG PP d) k [.ret (.lit .none)] [] ρ)).bind (cL GG (ae GG PP d) k []):=by
 haveI a:∀l:J T,cK .Add (.lst (cQ L)) (.lst [.lst (aj l.reverse)])=O (.lst (cQ (l::L))):=λl=>by
  rw[add_l (by rw[a9,B9];exact U2 o),Ip]
 delta lF;simp only[bc,de,zA,fE];by_cases h3:c=3
 ·refine ah (dE h3) ?_;have hd:decide ((c:T)=3)=X:=cB (Ww h3);simp only[bu,b6,aM,d0,jR,gd,cZ,cb,m,n,h,f,e,j,i,aB,bB,dB,dI,gS,gy,eD,dJ,d8,hd,me,wA,eH,nY,i5,a]
 ·refine ah (dm h3) ?_;have hd:=a0 (Mw h3);simp only[bu,b6,aM,d0,jR,gd,cZ,cb,m,n,h,f,e,j,i,aB,bB,dB,dI,gS,gy,eD,dJ,d8,hd,me,wA,eH,nY,i5,a]
def HS (d:S)(aa:J T)(L:P.Ls)(e:J P.N)(l:J AV):Prop:=∀{K:J (S×AO)}{H:Hp}{b m:S}{bk:P.aG}{starts ends:J T},ends.length<=2->dh bk->Own ((b,.list (bW bk))::K) H->bk.length<=m->m+2+dw e<500000->
 HB b (m+2+dw e) K (ae GG PP d "_law_holds" [.lst l,.lst (aj starts.reverse),.lst (aj ends.reverse),.lst (cQ L),.lst (aj aa),.obj b] H) (P.holds aa L starts ends e bk)
def Cj{c:S}(hs:HS d aa ((if c=3 then t else g)::L) z l)(e:g.length<=2)(R:BR b q p m W bk K H)(a:m+2+dw z<500000)(f:L.length<100)(w:ρ.lookup "nodes"=O (.lst l))(x:ρ.lookup "takes"=O (.lst (aj t.reverse)))(n:ρ.lookup "gives"=O (.lst (aj g.reverse)))(s:ρ.lookup "labels"=O (.lst (cQ L)))(j:ρ.lookup "code"=O (.int c))(v:ρ.lookup "places"=O (.lst (aj aa)))(u:ρ.lookup "book"=O (.obj b)):if(P.holds aa ((if c=3 then t else g)::L) t g z bk).1=X then ∃y,execs GG (ae GG PP d) k lF ρ H=.ok (.next,ρ) y/\BR b q p (m+2+dw z) W (P.holds aa ((if c=3 then t else g)::L) t g z bk).2 K y
  else ∃y,execs GG (ae GG PP d) k lF ρ H=.ok (.ret .none,ρ) y:=by
 refine ah (Iq f w x n s j v u) ?_;haveI h:=hs (starts:=t) (ends:=g) e R.k R.o R.l1 a;haveI mono:=DM (aa:=aa) (L:=(if c=3 then t else g)::L) (starts:=t) (ends:=g) (ms:=z) (b:=bk);generalize P.holds aa ((if c=3 then t else g)::L) t g z bk=hh at h mono ⊢;obtain⟨r,b2⟩:=hh;cases r with
 | false=>
  refine aH h ?_;intro y h;exact ah h (bq y Z)
 | true=>
  refine L5 h ?_;intro y h é U V;refine ah h ?_;exact⟨y,Z,é,λi hi=>k6 (R.lt i hi) mono,U,by have:=R.l2;exact Wy this,a,V⟩
end
section
variable{d k n:S}{K:J (S×AO)}{H:Hp}{own:T}{b q p m:S}{W:P.bb}{bk:P.aG}{G:a7->aI AV}{C:CS}{ρ:Loc}{L:P.Ls}{aa:J T}
def is_none(v:AV)(h:v≠.ny):bf H .Is v .none=O (match v with | .none=>X | _=>aN):=by
 cases v<;>first | rfl | exact hQ Z h
def abR(h:ev G C k t ρ H=.ok (.bool X) H):aA G C k (.iff t A e) ρ H=execs G C k A ρ H:=de.trans (mf h)
def wW{b:J MS}(e:execs G C k b (put x v ρ) H=.ok (.ret u,g) h):c0 G C k b (.one x) (v::vs) ρ H=.ok (.ret u,g) h:=vq Z e
def wn{x y:V1 (Fl×Loc)}{e:Fl×Loc->Hp->V1 (Fl×Loc)}(h:x=y):(x.bind e).bind bM=(y.bind e).bind bM:=h▸Z
def kK (op e h:AV)(q:S)(L:P.Ls)(aa:J T)(b c:S)(t g:J T):Loc:=aR op e h q L aa b++[("code",.int c),("takes",.lst (aj t.reverse)),("gives",.lst (aj g.reverse))]
def JQ{j:AV}(e:t.length<=2)(R:BR b q p m W bk K H)(i:m+4<=x)(f:x<500000):RB b x K (((execs GG (ae GG PP (d+2)) 6 [si] (put "nodes" v (kK op j s q L aa b c t g)) H).bind (cL GG (ae GG PP (d+2)) 6 lr)).bind bM) (match P.given g W bk with | (aN,_)=>Q | (X,n,b)=>O (P.asks (t.reverse++(if c=4 then[-1] else[])) n b)):=by
 haveI st:execs GG (ae GG PP (d+2)) 6 [si] (put "nodes" v (kK op j s q L aa b c t g)) H=.ok (.next,put "takes" (.lst (aj (t.reverse++(if c=4 then[-1] else[])))) (put "nodes" v (kK op j s q L aa b c t g))) H:=by
  by_cases h:c=4
  ·rw[dE h];exact hW (.c (Hu (b:=4) h) (.d (.v (Ag (a:=t.reverse) (b:=[-1]) (by rw[a9,eb];delta aZ;exact WH ⟨e,e⟩)) .nil))) (by kernel_rfl)
  ·rw[dm h,hP];exact hW (.c (O7 (b:=4) h) (.d .nil)) (by kernel_rfl)
 exact .of (wn st) ((wU (d:=d+1) (g:=g) R (Nu i f) (by rw[a9,eb];split<;>simp<;>exact hD e (by decide)) (by kernel_rfl) (by kernel_rfl) (by kernel_rfl) (by kernel_rfl)).up i f)
def PK{c:S}{iv:J AV}(s:t.length<=2/\g.length<=2)(l:ae GG PP (d+2) "_law_arrow" [.int mk] H=.ok (.tup [.lst (aj t.reverse),.lst (aj g.reverse)]) H)(hc:c=2\/c=3\/c=4)(h4:two=X->c=4)(y:L.length<100)(hi:HS (d+2) aa ((if c=3 then t else g)::L) è iv)(à:HS (d+2) aa ((if c=3 then t else g)::L) é jF)(R:BR b q p m W bk K H)(o:m+(12+dw è+dw é)<500000):RB b (m+(12+dw è+dw é)) K (((aA GG (ae GG PP (d+2)) 6 a5 (aR (.tup [.int c,.int mk]) (.lst iv) (if two=X then .lst jF else .none) q L aa b++[("code",AV.int c)]) H).bind (cL GG (ae GG PP (d+2)) 6 lr)).bind bM) (P.bN aa L (.eO c t g è two é) W bk):=by
 have A:=cB (show(c:T)∈[2,3,4] by simp only[a8,eA,hK];exact yC hc);have ne:∀v,eo (t=g)=v->bf H .NotEq (.lst (aj t.reverse)) (.lst (aj g.reverse))=O (!v):=λv e=>PI.trans (cx (λz=>O (!z)) ((o2.mpr SY).trans e));have a:=λvo=>Cj (d:=d+2) (k:=5) (c:=c) (ρ:=put "nodes" (.lst iv) (kK (.tup [.int c,.int mk]) (.lst iv) vo q L aa b c t g)) hi s.2 R (WI o) y (by kernel_rfl) (by kernel_rfl) (by kernel_rfl) (by kernel_rfl) (by kernel_rfl) (by kernel_rfl) (by kernel_rfl);show RB b _ K _ (P.tJ c t g W (P.holds aa ((if c=3 then t else g)::L) t g è bk) λf=>if two=X then P.holds aa ((if c=3 then t else g)::L) t g é f else(!(eo (c=4/\t≠g)),f));generalize P.holds aa ((if c=3 then t else g)::L) t g è bk=e1 at a ⊢;delta P.tJ;have e0:∀vo,aA GG (ae GG PP (d+2)) 6 a5 (aR (.tup [.int c,.int mk]) (.lst iv) vo q L aa b++[("code",AV.int c)]) H=execs GG (ae GG PP (d+2)) 6 (yv++[lE,si]) (aR (.tup [.int c,.int mk]) (.lst iv) vo q L aa b++[("code",AV.int c)]) H:=λvo=>abR (tQ (.c A .nil) (by kernel_rfl));cases two with
 | false=>
  by_cases hB:c=4/\t≠g
  ·refine .of (cx (λx=>(V1.bind x _).bind bM) (nk (.c A (.d (.d (.r l (.d (.d (.c (Hu (b:=4) hB.1) (.d (.b (ne _ (a0 hB.2)) (.d (.d .nil))))))))))) (by kernel_rfl:_=O (V1.ok (.ret .none,kK (.tup [.int c,.int mk]) (.lst iv) .none q L aa b c t g) H,_)))) ?_;rw[cB hB,dm (by simp)];exact bq H Z
  ·have u:execs GG (ae GG PP (d+2)) 6 yv (aR (.tup [.int c,.int mk]) (.lst iv) .none q L aa b++[("code",AV.int c)]) H=.ok (.next,kK (.tup [.int c,.int mk]) (.lst iv) .none q L aa b c t g) H:=by
    by_cases h:c=4
    ·exact hW (.d (.r l (.d (.d (.c (Hu (b:=4) h) (.d (.b (ne _ (cB (r4.byContradiction λz=>hB ⟨h,z⟩))) (.d (.d .nil))))))))) (by kernel_rfl)
    ·exact hW (.d (.r l (.d (.d (.c (O7 (b:=4) h) (.d (.d .nil))))))) (by kernel_rfl)
   have j:=(e0 .none).trans (fG (b:=[lE,si]) u);haveI i:aA GG (ae GG PP (d+2)) 6 lE (kK (.tup [.int c,.int mk]) (.lst iv) .none q L aa b c t g) H=c0 GG (ae GG PP (d+2)) 5 lF (.one "nodes") [.lst iv] (kK (.tup [.int c,.int mk]) (.lst iv) .none q L aa b c t g) H:=by kernel_rfl
   replace a:=a .none;obtain⟨r1,f⟩:=e1;cases r1 with
   | false=>exact aH a λH' h=>bq H' (wr (j.trans (og (i.trans (wW h)))))
   | true=>
    refine ak a λH' h w=>.of (wn (j.trans (aU (i.trans (kC h wI))))) (ah (dE ?_) (JQ s.1 w WJ o));show(!decide (c=4/\t≠g))=X;rw[a0 hB];rfl
 | true=>
  have u:execs GG (ae GG PP (d+2)) 6 yv (aR (.tup [.int c,.int mk]) (.lst iv) (.lst jF) q L aa b++[("code",AV.int c)]) H=.ok (.next,kK (.tup [.int c,.int mk]) (.lst iv) (.lst jF) q L aa b c t g) H:=hW (.d (.r l (.d (.d (.d .nil))))) (by kernel_rfl);have j:=(e0 (.lst jF)).trans (fG (b:=[lE,si]) u);have i:aA GG (ae GG PP (d+2)) 6 lE (kK (.tup [.int c,.int mk]) (.lst iv) (.lst jF) q L aa b c t g) H=c0 GG (ae GG PP (d+2)) 5 lF (.one "nodes") [.lst iv,.lst jF] (kK (.tup [.int c,.int mk]) (.lst iv) (.lst jF) q L aa b c t g) H:=by kernel_rfl
  replace a:=a (.lst jF);obtain⟨r1,f⟩:=e1;cases r1 with
  | false=>exact aH a λH' h=>bq H' (wr (j.trans (og (i.trans (wW h)))))
  | true=>
   refine ak a λH1 h w=>?_;haveI s2:=Cj (d:=d+2) (k:=5) (c:=c) (ρ:=put "nodes" (.lst jF) (put "nodes" (.lst iv) (kK (.tup [.int c,.int mk]) (.lst iv) (.lst jF) q L aa b c t g))) à s.2 w (WK o) y (by kernel_rfl) (by kernel_rfl) (by kernel_rfl) (by kernel_rfl) (by kernel_rfl) (by kernel_rfl) (by kernel_rfl);show RB b _ K _ (if(P.holds aa ((if c=3 then t else g)::L) t g é f).1=X then(match P.given g W (P.holds aa ((if c=3 then t else g)::L) t g é f).2 with
    | (aN,_)=>Q
    | (X,n,b)=>O (P.asks (t.reverse++(if c=4 then[-1] else[])) n b)) else Q)
   dsimp only at s2;generalize P.holds aa ((if c=3 then t else g)::L) t g é f=e2 at s2 ⊢;obtain⟨r2,b2⟩:=e2;cases r2 with| false=>exact aH s2 λH' V=>bq H' (wr (j.trans (og (i.trans (kC h (wW V))))))| true=>exact ak s2 λH' V C=>.of (wn (j.trans (aU (i.trans (kC h (kC V wI)))))) (JQ (v:=.lst jF) s.1 C WS o)
def PL{c:S}{j:T}{two:aS}{h i:J P.N}{iv a:J AV}(s:j∈marks)(hc:c=2\/c=3\/c=4)(h4:two=X->c=4)(e:L.length<100)(hi:HS (d+2) aa ((if c=3 then P.tk j else P.gv j)::L) h iv)(f:HS (d+2) aa ((if c=3 then P.tk j else P.gv j)::L) i a)(R:BR b q p m W bk K H)(g:m+(12+dw h+dw i)<500000):RB b (m+(12+dw h+dw i)) K (ae GG PP (d+3) "_law_ahead" [.tup [.int c,.int j],.lst iv,if two=X then .lst a else .none,.obj q,.lst (cQ L),.lst (aj aa),.obj b] H) (P.bN aa L (.eO c (P.tk j) (P.gv j) h two i) W bk):=
 .of (jV.trans ((dm (by simp only[a8,eA,hK];exact WC hc)).trans ((dm (WD hc)).trans ((dm (WE hc)).trans (dm (WG hc))))))
  (PK (gM s) ((tX (d:=d+1) (H:=H) s).trans (by delta P.tk P.gv;rw[hC,hC])) hc h4 e hi f R g)
theorem LL.cons(h:LL L)(c:l.length<=2)(b:L.length+1<100):LL (l::L):=⟨yj _ _,b,λx a=>by
 rcases a8.mp a with rfl | a
 ·exact c
 ·exact h.s x a⟩
theorem AH.op(b:LL L)(hv:NV aa L.length (.op o) v):AH (d+3) aa L (.op o) v:=by
 intro a a a a a a a a R c;exact ed _ _ _ hv.2 (PE (d:=d) b hv.1 R c)
def pE (aa:J T)(D:S):Prop:=∀(e:J P.N) {L:P.Ls}{l:J AV}{d:S},jt e<=D->LL L->L.length+D<90->s6 aa L.length e l->HS (d+2*D+5) aa L e l
theorem AH.eO{D:S}(h:pE aa D){c:S}{t g:J T}{s x:J P.N}{two:aS}{v:AV}{d:S}(e:dN (.eO c t g s two x)<=D+1)(j:LL L)(b:L.length+(D+1)<90)(hv:NV aa L.length (.eO c t g s two x) v):AH (d+2*(D+1)+4) aa L (.eO c t g s two x) v:=by
 dsimp only[dN] at e;intro a a a a a a a a R n;refine J4 t hv λy iv o z hc l h4 hi k m=>?_;clear hv;subst l;subst m;haveI f:LL ((if c=3 then P.tk y else P.gv y)::L):=j.cons (by split<;>first | exact(gM z).1 | exact(gM z).2) (W0 b);haveI i:((if c=3 then P.tk y else P.gv y)::L).length+D<90:=by dsimp only[ff];exact W4 b
 exact ed _ _ _ Z (PL (d:=d+2*D+3) z hc h4 (Xa b) (h s (W6 e) f i hi) (h x (W7 e) f i k) R n)
def iG.of(h:∀x v,dN x<=D->NV aa n x v->z x v):∀(e:J P.N) {l:J AV},jt e<=D->s6 aa n e l->iG z e l:=by
 intro e
 induction e with
 | nil=>intro l a hv;subst hv;exact .nil
 | cons x i g=>
  intro l a hv;refine dc l hv λv r U V=>?_;clear hv;exact .cons (h x v (hD (S.le_max_left _ _) a) U) (g (hD (S.le_max_right _ _) a) V)
theorem pE.of(h:∀(x:P.N) {L:P.Ls}{v:AV}{d:S},dN x<=D->LL L->L.length+D<90->NV aa L.length x v->AH (d+2*D+4) aa L x v):pE aa D:=λj {L l d} i b f hv=>by
 intro a a a a a a a e hB s U g;exact holds_of (d:=d+2*D+3) (iG.of (z:=AH (d+2*D+4) aa L) (λx v c hv=>h x c b f hv) j i hv) e hB s U g
theorem pE.all:∀D,pE aa D
 | 0=>.of λx {L v d} b a c hv=>by
  cases x with| op o=>exact AH.op (d:=d+1) a hv| eO=>dsimp only[dN] at b;exact(Xg b).elim
 | D+1=>.of λx {L v d} b a c hv=>by
  cases x with| op o=>exact AH.op (d:=d+2*(D+1)+1) a hv| eO=>exact AH.eO (pE.all D) b a c hv
end
section
variable{d k n:S}{K:J (S×AO)}{H:Hp}{own:T}{b q p m:S}{G:a7->aI AV}{C:CS}{ρ:Loc}{L:P.Ls}{aa:J T}{ê:J P.I}
def gm(h:ê.drop a=i::e):b8 (ê.map iv) (a:T)=O (iv i)/\ê.drop (a+1)=e:=by
 haveI b:ê[a]?=O i:=by rw[<-J.head?_drop,h];rfl
 refine au ?_ ?_
 ·delta b8;rw[dE (jl _),mG,gX,b];rfl
 ·rw[<-TH,h];rfl
def JR:ME:=.cmp (.sub (.sub (.loc "body") (.loc "at")) (.n 0)) .NotIn (.tup [.n 5,.n 11])
def Ai:MS:=.iff (.cmp (.sub (.loc "op") (.n 0)) .In (.tup [.n 2,.n 3,.n 4])) [.cC ["inner","at"] (.call "_law_read" [.loc "body",.bin .Add (.loc "at") (.n 1)]),.iff (.cmp (.sub (.sub (.loc "body") (.loc "at")) (.n 0)) .Eq (.n 5)) [.cC ["other","at"] (.call "_law_read" [.loc "body",.bin .Add (.loc "at") (.n 1)])] []] []
noncomputable def ml:J MS:=[.expr (.aK (.loc "nodes") "append" [.tup [.loc "op",.loc "inner",.loc "other"]]),.aug "at" .Add (.n 1)]
def JS:J MS:=.cC ["op","inner","other"] (.tup [.sub (.loc "body") (.loc "at"),.lit .none,.lit .none])::Ai::ml
noncomputable def bz:P.I->T
 | .op o=>match ov o with | .int c::_=>c | _=>0
 | .bZ c _=>c
 | .cE=>5
 | .fin=>11
def lG(i:P.I):∃r,iv i=.tup (.int (bz i)::r):=by
 cases i with
 | op o=>cases o<;>exact bq _ Z
 | bZ c m=>exact bq _ Z
 | cE=>exact bq _ Z
 | fin=>exact bq _ Z
theorem jW(o:P.Op):bz (.op o)∉[5,11]/\bz (.op o)∉[2,3,4]:=by cases o<;>exact au (qe Z) (qe Z)
def PM{n b:T}:bf H .NotIn (.int n) (.tup [.int a,.int b])=O (!decide (n∈[a,b])):=Z
structure RL (ê:J P.I)(n a:S)(ρ:Loc):Prop where
 body:ρ.lookup "body"=O (.lst (ê.map iv))
 at_:ρ.lookup "at"=O (.int a)
 nodes:ρ.lookup "nodes"=O (.obj n)
def Fw(h:ê.drop a=i::g)(r:RL ê n a ρ):ev G C k JR ρ H=.ok (.bool (!decide (bz i∈[5,11]))) H:=by
 exact aq (gm h) λe f=>aH (lG i) λt c=>gU (.v r.body (.v r.at_ (.v (jq (H:=H) (c▸e)) (.d (.b (PM (H:=H) (n:=bz i) (a:=5) (b:=11)) .nil))))) (by kernel_rfl)
noncomputable abbrev rT (v:AV)(ρ:Loc):Loc:=put "other" .none (put "inner" .none (put "op" v ρ))
def lH(r:RL ê n k ρ):RL ê n k (rT v ρ)/\(rT v ρ).lookup "op"=O v/\(rT v ρ).lookup "inner"=O .none/\(rT v ρ).lookup "other"=O .none:=by
 refine pV ⟨?_,?_,?_⟩ ?_ ?_ ?_
 ·exact aE (by kernel_rfl) (aE (by kernel_rfl) (aE (by kernel_rfl) r.body))
 ·exact aE (by kernel_rfl) (aE (by kernel_rfl) (aE (by kernel_rfl) r.at_))
 ·exact aE (by kernel_rfl) (aE (by kernel_rfl) (aE (by kernel_rfl) r.nodes))
 ·exact aE (by kernel_rfl) (aE (by kernel_rfl) bQ)
 ·exact aE (by kernel_rfl) bQ
 ·exact bQ
def PN(h:ê.drop a=i::e)(r:RL ê n a ρ):execs G C k JS ρ H=execs G C k (Ai::ml) (rT (iv i) ρ) H:=by
 exact aq (gm h) λb c=>aU (lq (.v r.body (.v r.at_ (.v (jq (H:=H) b) .nil))) (by kernel_rfl))
def UD(f:h.length<1000)(r:RL ê n a ρ)(d:ρ.lookup "op"=O op)(g:ρ.lookup "inner"=O j)(c:ρ.lookup "other"=O s)(y:Own ((n,.list h)::K) H):∃i,execs G C k ml ρ H=.ok (.next,i) (H.set n (.list (h++[.tup [op,j,s]])))/\RL ê n (a+1) i/\Own ((n,.list (h++[.tup [op,j,s]]))::K) (H.set n (.list (h++[.tup [op,j,s]]))):=by
 haveI b:H[n]?=O (.list h):=y.at (.head _);haveI e:h.length<aZ:=by delta aZ;exact z2 f
 refine dQ (put "at" (.int ((a:T)+1)) ρ) (eL (.v r.nodes (.o b (.v d (.v g (.v c (.r (rq (x:=.tup [op,j,s]) b e) (.v r.at_ .nil))))))) (by kernel_rfl)) ⟨?_,?_,?_⟩ (y.set [] _)
 ·exact aE (by kernel_rfl) r.body
 ·rw[jr,dE Z];rfl
 ·exact aE (by kernel_rfl) r.nodes
def RS (d:S)(aa:J T)(st:J S)(h:J P.I)(i:J P.N)(r:J P.I):Prop:=∀{ê:J P.I}{a:S}{K:J (S×AO)}{H:Hp},ê.drop a=h->Own K H->ê.length<1000->
 ∃l e g,ae GG PP d "_law_read" [.lst (ê.map iv),.int a] H=.ok (.tup [.lst l,.int (e:S)]) g/\ê.drop e=r/\s6 aa (st.length+1) i l/\Own K g
def LS (d:S)(aa:J T)(st:J S)(g:J P.I)(j:J P.N)(r:J P.I):Prop:=∀{ê:J P.I}{a n:S}{K:J (S×AO)}{H:Hp}{ρ:Loc}{acc:J AV} (N:S),g.length<N->ê.drop a=g->RL ê n a ρ->Own ((n,.list acc)::K) H->acc.length+g.length<1000->ê.length<1000->
 ∃l h i e,pk GG (ae GG PP d) 5 JR JS N ρ H=.ok (.next,e) i/\RL ê n h e/\ê.drop h=r/\s6 aa (st.length+1) j l/\Own ((n,.list (acc++l))::K) i
def LD:PP "_law_read"=O yE:=Z
def RS.of(h:LS d aa st j s r):RS (d+1) aa st j s r:=by
 intro ê a K H hd y hB;haveI i:j.length<=ê.length:=by simp only[<-hd,O4];exact Xb
 refine Cv (h (n:=H.length) (ρ:=[("body",.lst (ê.map iv)),("at",.int a),("nodes",.obj H.length)]) (acc:=[]) WF (by delta WF;exact Xd hB i) hd ⟨Z,Z,Z⟩ (y.new (.list [])) (by simp;exact Xe hB i) hB) λl g H' x f e b hv c=>?_;refine vP l g _ ?_ b hv ((c.set [] .dead).tail);exact(aY LD (by decide) Z).trans (lp (.l f (.v e.nodes (.r (rt (c.at (.head _))) (.v e.at_ .nil)))) (by kernel_rfl))
def Ck(hi:bz i∈[5,11]):LS d aa st (i::g) [] (i::g):=by
 intro ê a n K H ρ h N b hd r j e hB;refine Cw [] a H ρ ?_ r hd (by delta s6;rfl) (by rw[hP];exact j);refine aH (JL (A3 (Nu (la _) b))) λN c=>?_;clear b;subst c;exact E0 ((Fw hd r).trans (by rw[cB hi];rfl))
def wX{st:J S}{is r1 r:J P.I}{i:P.I}{m:P.N}{ms:J P.N}(hi:bz i∉[5,11])(é:r1.length<(i::is).length)(à:∀{ê:J P.I}{a n:S}{K:J (S×AO)}{H:Hp}{ρ:Loc}{è:J AV},ê.drop a=i::is->RL ê n a ρ->Own ((n,.list è)::K) H->ê.length<1000->
   ∃e b c H' W,execs GG (ae GG PP d) 5 (Ai::ml) (rT (iv i) ρ) H=execs GG (ae GG PP d) 5 ml W H'/\RL ê n c W/\ê.drop (c+1)=r1/\W.lookup "op"=O (iv i)/\W.lookup "inner"=O e/\W.lookup "other"=O b/\NV aa (st.length+1) m (.tup [iv i,e,b])/\Own ((n,.list è)::K) H')(ù:LS d aa st r1 ms r):LS d aa st (i::is) (m::ms) r:=by
 intro ê a n K H ρ è N q hd g î h hB;refine aH (JL (A3 (Nu (la _) q))) λN v=>?_;subst v;refine Wr (à (ρ:=ρ) hd g î hB) λe b D H1 â U f o z A y hv t=>?_;refine cR (UD (G:=GG) (C:=ae GG PP d) (k:=5) (by dsimp only[ff] at h;exact Bg h) f z A y t) λw V r2 s=>?_;refine Cv (ù (ρ:=w) N (Xm é q) o r2 s (by simp only[a9];exact Xn é h) hB) λl c H' W h3 u j x p=>?_;refine Cw (.tup [iv i,e,b]::l) c H' W ?_ u j ?_ ?_
 ·exact(BU (H':=H) ((Fw hd g).trans (by rw[a0 hi];rfl)) ((PN hd g).trans (U.trans V))).trans h3
 ·dsimp only[s6];exact bx _ _ Z hv x
 ·rw[fJ] at p;exact p
def Reads.lw(h:P.Reads i x r):∀{st:J S},LW aa st i->LW aa st r:=by
 induction h with| qX r=>intro st h;exact h| pa r=>intro st h;exact h| op _ j=>intro st h;exact j h.2| one _ _ e g=>intro st h;exact g (e h.2.2.2)| two _ _ _ e g s=>intro st h;exact s (g (e h.2.2.2).2)
theorem Reads.len(h:P.Reads i x r):r.length<=i.length:=by
 induction h with| qX r=>exact gk _| pa r=>exact gk _| op _ j=>exact p3 j| one _ _ e g=>dsimp only[ff] at *;exact MC e g| two _ _ _ e g s=>dsimp only[ff] at *;exact MD e g s
def Reads.dep(h:P.Reads s j r):∀{st:J S},LW aa st s->jt j≠0->jt j+st.length<=4:=by
 induction h with
 | qX r=>intro st h hd;exact hQ Z hd
 | pa r=>intro st h hd;exact hQ Z hd
 | op _ ih=>
  intro st h hd;exact ih h.2 hd
 | @one c x s g r1 j r U V y W=>
  haveI e:jt (.eO c (P.tk x) (P.gv x) g aN []::j)=max (1+jt g) (jt j):=by show max (1+max (jt g) 0) _=_;rw[S.max_zero]
  intro st h hd;rw[e] at hd ⊢;have a:=λz=>y h.2.2.2 z;haveI b:jt j≠0->jt j+st.length<=4:=W (Reads.lw U h.2.2.2);exact aam a b h.2.2.1
 | @two x s g r1 i r2 j r U V h3 y W nU=>
  intro st h hd;haveI l1:=(Reads.lw U h.2.2.2).2;haveI a:jt g≠0->jt g+(st.length+1)<=4:=λz=>y h.2.2.2 z;haveI d:jt i≠0->jt i+(st.length+1)<=4:=λz=>W (st:=5::st) l1 z;exact aan a d (nU (Reads.lw V l1)) h.2.2.1
end
section
variable{d k n:S}{K:J (S×AO)}{H:Hp}{own:T}{b q p m:S}{G:a7->aI AV}{C:CS}{ρ:Loc}{L:P.Ls}{aa:J T}{ê:J P.I}
def LF{o:P.Op}{a:S}{acc:J AV}{g:J P.I}(hd:ê.drop a=.op o::g)(r:RL ê n a ρ):execs G C 5 (Ai::ml) (rT (iv (.op o)) ρ) H=execs G C 5 ml (rT (iv (.op o)) ρ) H:=by
 refine eW (lH (v:=iv (.op o)) r) λe c f d=>?_;refine aH (lG (.op o)) λt b=>?_;dsimp only[bc];delta Ai;refine ah de ?_;rw[cZ,cg,aM,c,b];simp only[aB,bB,fV,fU,cb,di,bD,e0,eD,dJ,jn,bu,b6,dB,dI,nh,zR,i5,sW,me,a0 (jW o).2,xO,fF,cL]
def aca{v:AV}{x:a7}{a:S}:eS (.many [x,"at"]) (.tup [v,.int a]) ρ=O (put "at" (.int a) (put x v ρ)):=Z
def vH(U:x≠"body")(V:x≠"nodes")(h3:x≠"at")(r:RL ê n k ρ):RL ê n e (put "at" (.int e) (put x v ρ)):=by
 refine⟨?_,?_,?_⟩
 ·rw[jr,dm (by decide),jr,dm U.symm];exact r.body
 ·exact bQ
 ·rw[jr,dm (by decide),jr,dm V.symm];exact r.nodes
def oh(U:y≠"at")(V:y≠x):(put "at" (.int (a:S)) (put x v ρ)).lookup y=ρ.lookup y:=aE (a0 U) (aE (a0 V) Z)
def Aj(U:x≠"at"):(put "at" (.int (a:S)) (put x v ρ)).lookup x=O v:=aE (a0 U) bQ
def Ir{c:S}{mk:T}{a b:S}{z:J P.I}{l:J AV}{s:Hp}(hc:c=2\/c=3\/c=4)(r:RL ê n a ρ)(h:C "_law_read" [.lst (ê.map iv),.int ((a:T)+1)] H=.ok (.tup [.lst l,.int (b:S)]) s)(f:ê.drop b=.fin::z):execs G C 5 (Ai::ml) (rT (iv (.bZ c mk)) ρ) H=execs G C 5 ml (put "at" (.int b) (put "inner" (.lst l) (rT (iv (.bZ c mk)) ρ))) s:=by
 refine eW (lH (v:=iv (.bZ c mk)) r) λe g j i=>?_;haveI y:RL ê n b (put "at" (.int b) (put "inner" (.lst l) (rT (iv (.bZ c mk)) ρ))):=vH (by decide) (by decide) (by decide) e;exact aU (lq (.v g (.d (.c (x:=eo ((c:T)∈[2,3,4])) (cB (by simp only[a8,eA,hK];exact yC hc)) (.d (.v e.body (.v e.at_ (.r h (.v y.body (.v y.at_ (.v (jq (H:=s) (gm f).1) (.d (.d (.d .nil))))))))))))) (by kernel_rfl))
def It{c:S}{mk:T}{a b f:S}{W:J P.I}{l l2:J AV}{y z:Hp}(hc:c=2\/c=3\/c=4)(r:RL ê n a ρ)(i:C "_law_read" [.lst (ê.map iv),.int ((a:T)+1)] H=.ok (.tup [.lst l,.int (b:S)]) y)(g:ê.drop b=.cE::W)(V:C "_law_read" [.lst (ê.map iv),.int ((b:T)+1)] y=.ok (.tup [.lst l2,.int (f:S)]) z):execs G C 5 (Ai::ml) (rT (iv (.bZ c mk)) ρ) H=execs G C 5 ml (put "at" (.int f) (put "other" (.lst l2) (put "at" (.int b) (put "inner" (.lst l) (rT (iv (.bZ c mk)) ρ))))) z:=by
 refine eW (lH (v:=iv (.bZ c mk)) r) λe h k j=>?_;haveI s:RL ê n b (put "at" (.int b) (put "inner" (.lst l) (rT (iv (.bZ c mk)) ρ))):=vH (by decide) (by decide) (by decide) e;exact aU (lq (.v h (.d (.c (x:=eo ((c:T)∈[2,3,4])) (cB (by simp only[a8,eA,hK];exact yC hc)) (.d (.v e.body (.v e.at_ (.r i (.v s.body (.v s.at_ (.v (jq (H:=y) (gm g).1) (.d (.d (.d (.v s.body (.v s.at_ (.r V .nil)))))))))))))))) (by kernel_rfl))
def Fx{is r:J P.I}{ms:J P.N}(h:P.Reads is ms r):∀{st:J S}{D:S},LW aa st is->4<=st.length+D->LS (d+D) aa st is ms r:=by
 induction h with
 | qX r=>intro st D q q;exact Ck (by decide)
 | pa r=>intro st D q q;exact Ck (by decide)
 | @op o is ms r h ih=>
  intro st D b e;refine wX (jW o).1 (r1:=is) (iB _) (λhd f î hB=>?_) (ih b.2 e);refine eW (lH (v:=iv (.op o)) f) λj k w p=>?_;exact FQ _ _ _ _ _ (LF hd f (acc:=[])) j ((gm hd).2) k w p (by dsimp only[NV];exact au b.1 Z) î
 | @one c W is é r1 ms r U V fB fD=>
  intro st D b e;obtain⟨D,rfl⟩:∃D',D=D'+1:=⟨D - 1,by have:=b.2.2.1;exact My e this⟩;have ù:=Reads.len U;haveI m:=Reads.lw U b.2.2.2;refine @wX (d+(D+1)) aa st is r1 r (.bZ c W) (.eO c (P.tk W) (P.gv W) é aN []) ms (by show(c:T)∉[5,11];simp only[a8,eA,hK];have:=b.1;exact WT this) (by show r1.length<is.length+1;exact WU ù) (λ{ê a n K H ρ à} hd f î hB=>?_) (fD m e);refine jH ((RS.of (fB (st:=c::st) (D:=D) b.2.2.2 (by dsimp only[ff];exact FU e))) (gm hd).2 î hB) λl g H' hc i hv s=>?_;haveI u:=Ir (G:=GG) (C:=ae GG PP (d+(D+1))) (mk:=W) (l:=l) b.1 f hc i;refine eW (lH (v:=iv (.bZ c W)) f) λj k w p=>?_;refine FQ (.lst l) .none g H' _ u (vH (by decide) (by decide) (by decide) j) ((gm i).2) ((oh (by decide) (by decide)).trans k) (Aj (by decide)) ((oh (by decide) (by decide)).trans p) ?_ s;exact L8 W l [] b.2.1 b.1 Z Z nofun hv (by delta s6;rfl) Z
 | @two W is é r1 è r2 ms r U V h3 fB fD nU=>
  intro st D b e;obtain⟨D,rfl⟩:∃D',D=D'+1:=⟨D - 1,by have:=b.2.2.1;exact My e this⟩;have m:=(Reads.lw U b.2.2.2).2;refine @wX (d+(D+1)) aa st is r2 r (.bZ 4 W) (.eO 4 (P.tk W) (P.gv W) é X è) ms (qe Z) (by show r2.length<is.length+1;exact WV (Reads.len U) (Reads.len V)) (λ{ê a n K H ρ à} hd f î hB=>?_) (nU (Reads.lw V m) e);refine jH ((RS.of (fB (st:=4::st) (D:=D) b.2.2.2 ((ff)▸FU e))) (gm hd).2 î hB) λl g H' hc i hv s=>?_;refine jH ((RS.of (fD (st:=5::st) (D:=D) m ((ff)▸FU e))) (gm i).2 s hB) λl2 z H2 A â y x=>?_;haveI u:=It (G:=GG) (C:=ae GG PP (d+(D+1))) (mk:=W) (l:=l) (l2:=l2) (.inr (.inr Z)) f hc i A;refine eW (lH (v:=iv (.bZ 4 W)) f) λj k w p=>?_;haveI t:RL ê n g (put "at" (.int g) (put "inner" (.lst l) (rT (iv (.bZ 4 W)) ρ))):=vH (by decide) (by decide) (by decide) j;have k1:(put "at" (.int g) (put "inner" (.lst l) (rT (iv (.bZ 4 W)) ρ))).lookup "op"=O (iv (.bZ 4 W)):=(oh (by decide) (by decide)).trans k;haveI k2:(put "at" (.int g) (put "inner" (.lst l) (rT (iv (.bZ 4 W)) ρ))).lookup "inner"=O (.lst l):=Aj (by decide);refine FQ (.lst l) (.lst l2) z H2 _ u (vH (by decide) (by decide) (by decide) t) ((gm â).2) ((oh (by decide) (by decide)).trans k1) ((oh (by decide) (by decide)).trans k2) (Aj (by decide)) ?_ x;exact L8 W l l2 b.2.1 (.inr (.inr Z)) Z Z (λq=>Z) hv y Z
def PO(h:P.Reads g e r)(a:LW aa [] g):jt e<=4:=by
 by_cases hd:jt e=0
 ·exact WX hd
 ·have:=Reads.dep h a hd;simpa using this
def PQ(h:P.Reads j i r):dw i+12*r.length<=12*j.length:=by
 induction h with
 | qX r=>show 0+_<=_;exact Mz
 | pa r=>show 0+_<=_;exact Mz
 | op _ y=>show 6+_+_<=_;exact WZ y
 | @one c z j e W i r U V s x=>show 12+dw e+0+dw i+_<=_;exact W2 s x
 | @two z j e W g r2 i r U V h3 s x nU=>show 12+dw e+dw g+dw i+_<=_;exact W5 s x nU
def Iu:PP "_law_is_right"=O qk:=Z
def Iv{z:J P.I}{W:J P.N}{s:J T}(h:P.Reads z W [.fin])(f:LW aa [] z)(g:z.length<900)(j:s.length<=2)(è:Own K H):if(P.holds aa [s] [] s W []).1=X then ∃y,ae GG PP (d+14) "_law_is_right" [.lst (z.map iv),.lst (aj s.reverse),.lst (aj aa)] H=.ok (.bool X) y/\Own K y
  else ∃y,ae GG PP (d+14) "_law_is_right" [.lst (z.map iv),.lst (aj s.reverse),.lst (aj aa)] H=.ok (.bool aN) y:=by
 refine jH (RS.of (Fx (d:=d+8) (D:=4) h f (by decide)) (ê:=z) (a:=0) Z è (by exact U6 g)) λl p H1 hc c hv i=>?_;have hc:ae GG PP (d+13) "_law_read" [.lst (z.map iv),.int 0] H=_:=hc;haveI k:LL [s]:=⟨yj _ _,by show 1<100;decide,λx o=>by rcases gg.mp o with rfl;exact j⟩;haveI hs:HS (d+13) aa [s] W l:=pE.all 4 W (d:=d) (PO h f) k (by show 1+4<90;decide) hv;have e:=hs (b:=H1.length) (m:=0) (bk:=[]) (starts:=[]) (ends:=s) j (λc h=>nomatch h) (i.new (.list [])) (la _) (by have:=PQ h;exact Xq g this);have st:∀{v y},_=V1.ok v y->ae GG PP (d+14) "_law_is_right" [.lst (z.map iv),.lst (aj s.reverse),.lst (aj aa)] H=.ok v y:=λ{v y} (h:ae GG PP (d+13) "_law_holds" [.lst l,.lst [],.lst (aj s.reverse),.lst [.lst (aj s.reverse)],.lst (aj aa),.obj H1.length] (H1++[AO.list []])=_)=>(aY Iu (by decide) Z).trans (aQ (.r hc (.r h .nil)) (by kernel_rfl));clear hc f hs hv i h;generalize P.holds aa [s] [] s W []=hp at e ⊢;obtain⟨r,bk⟩:=hp;cases r with| false=>exact aH e λy h=>bq y (st h)| true=>exact L5 e λy U n c c=>ay y (st U) n.tail
end
section
variable{d k n:S}{K:J (S×AO)}{H:Hp}{C:CS}{ρ:Loc}{aa:J T}
def rD(U:ρ.lookup x=O (.obj n))(V:ev G C k e ρ H=.ok v H)(h3:H[n]?=O (.list l))(a:l.length<aZ):aA G C k (.expr (.aK (.loc x) "append" [e])) ρ H=.ok (.next,ρ) (H.set n (.list (l++[v]))):=by
 simp only[gT,iE,aM,U,aB,bB,sU,h3,bu,b6,V,dB,dI,ph,eg,i5,a,cW,kX]
def gc(U:ρ.lookup x=O (.obj n))(h3:H[n]?=O (.list (l++[v]))):aA G C k (.expr (.aK (.loc x) "pop" [])) ρ H=.ok (.next,ρ) (H.set n (.list l)):=by
 exact lq (.v U (.o h3 (.r (lC h3 (J.getLast?_concat) (Q1)) .nil))) (by kernel_rfl)
def Cm(U:ρ.lookup x=O (.obj n))(h3:H[n]?=O (.list (l++[v]))):aA G C k (.gp (.loc x) (.n (-1)) (.lit w)) ρ H=.ok (.next,ρ) (H.set n (.list (l++[w]))):=by
 haveI e0:((l++[v]).length:T)=l.length+1:=by refine ah a9 ?_;rfl
 haveI e1:¬(0<=(-1:T)/\(-1:T)<((l++[v]).length:T)):=λz=>hQ z.1 (by decide);haveI b:(-1:T)<0/\0<=(-1:T)+((l++[v]).length:T):=⟨by decide,by refine ah e0 ?_;exact WL⟩;haveI c:((-1:T)+((l++[v]).length:T)).toNat=l.length:=ah e0 (WM);haveI a:(l++[v]).set l.length w=l++[w]:=by refine ah (QR _ _ (gk _)) ?_;rw[S.sub_self];rfl
 simp only[KY,cb,aM,bB,Hn,Hm,zC,U,aB,h3,dm e1,dE b,c,a]
theorem mod_is(h:0<b):cK .Mod (.int a) (.int b)=O (.int (a % b)):=dE h
def div_is(h:0<b):cK .FloorDiv (.int a) (.int b)=O (.int (a / b)):=dE h
def Made (aa:J T)(g:S)(e:T)(i:P.I):Prop:=match i with
 | .op o=>mR aa g o/\P.tK aa o/\ov o≠[]/\¬(18<=e/\e<21)
 | .bZ c m=>(c=2\/c=3\/c=4)/\m∈marks/\18<=e/\e<21
 | _=>Gl
def jX(h:0<n):∃r:S,a % (n:T)=r/\r<n:=by
 haveI U:=Qy a (b:=(n:T)) (WO h);exact ay ((a % (n:T)).toNat) (WQ U) (WR U (NJ a (b:=(n:T)) (Mx h)))
def UH:PP "_law_op"=O yF:=Z
def UI{r:S}(h:r<4):∃e,P.Kind e/\b8 [.int (-2),.int (-1),.int (-16),.int (-17)] (r:T)=O (.int e):=by
 rcases(show r=0\/r=1\/r=2\/r=3 by exact WY h) with rfl | rfl | rfl | rfl
 ·exact ay (-2) (.inr (.inl Z)) Z
 ·exact ay (-1) (.inl Z) Z
 ·exact ay (-16) (.inr (.inr (.inl Z))) Z
 ·exact ay (-17) (.inr (.inr (.inr Z))) Z
def oj{G:a7->aI AV}(hp:ρ.lookup "pick"=O (.int p))(h:p<c)(hA:execs G C k A ρ H=.ok (.ret v,ρ') H'):(execs G C k (.iff (.cmp (.loc "pick") .Lt (.lit (.int c))) A []::e) ρ H).bind bM=.ok v H':=by
 simp only[bc,de,cZ,aM,hp,aB,bB,eD,cb,dJ,d8,cB h,me,xO,hA,cL,bM]
def sj(hp:ρ.lookup "pick"=O (.int p))(h:¬p<c)(a:(execs G C k e ρ H).bind bM=r):(execs G C k (.iff (.cmp (.loc "pick") .Lt (.lit (.int c))) A []::e) ρ H).bind bM=r:=by
 simp only[bc,de,cZ,aM,hp,aB,bB,eD,cb,dJ,d8,a0 h];exact a
def Ak(h:ev G C k e ρ H=.ok v H):execs G C k [.ret e] ρ H=.ok (.ret v,ρ) H:=by
 simp only[bc,q9,h];rfl
def Cn(hp:ρ.lookup "pick"=O (.int p))(h:ct G C k e ρ H=.ok l H)(a:l.length<=aZ)(hv:b8 l (p - c)=O v):ev G C k (.sub (.tup e) (.bin .Sub (.loc "pick") (.lit (.int c)))) ρ H=.ok v H:=by
 haveI e1:cK .Sub (.int p) (.int c)=O (.int (p - c)):=Z;simp only[cg,jn,h,bB,nh,dE a,fV,d0,aM,hp,aB,gS,cb,gy,e1,fU,di,bD,hv]
abbrev Co (e h:T)(g:S)(aa:J T)(i:AV):Loc:=[("pick",.int e),("digits",.int h),("many",.int g),("places",.lst (aj aa)),("kind",i)]
def V5 (aa:J T)(e:S)(l:J P.I):T->Prop:=xq (λ_=>w1) (λi _ q a=>Made aa e a i/\q (a+1)) l
def PR:∀{a:T},V5 aa n l a->l.length>j->∃i,l[j]?=O i/\Made aa n (a+j) i:=by
 induction l generalizing j with
 | nil=>intro a b h;cases h
 | cons i l g=>
  intro a f h;cases j with
  | zero=>exact⟨i,Z,(p7 a).symm▸f.1⟩
  | succ j=>exact ak (g (a:=a+1) f.2 (F1 h)) λi e m=>⟨i,e,(show a+1+(j:T)=a+(j+1:S) by rw[TV,T.add_comm 1];rfl)▸m⟩
def LG{l:J P.I}{j:S}(h:l[j]?=O i):b8 (l.map iv) (j:T)=O (iv i):=by
 delta b8;simp[h]
def sk{a p:S}{q:P.I->Prop}(f:V5 aa n l a)(h:¬(p:T)<a)(g:p<a+l.length)(c:∀{i},b8 (l.map iv) ((p:T) - a)=O (iv i)->q i):∃i,q i/\Made aa n p i:=by
 have b:=Og.mp (uB.mp h);refine ak (PR (j:=p - a) f (S.sub_lt_left_of_lt_add b g)) λi e m=>⟨i,c ((T.ofNat_sub b).symm▸LG e),?_⟩
 rwa [<-T.natCast_add,Rr b] at m
def abS{p a:S}(b:a<aa.length)(c:P.Kind (aa.getD a 0))(h:p=15\/p=16\/p=17):∃i,iv i=.tup [.int (17+p),.int a]/\Made aa n p i:=by
 rcases h with rfl | rfl | rfl
 ·exact⟨.op (.lX a),Z,b,c,nofun,by decide⟩
 ·exact⟨.op (.lY a),Z,b,c,nofun,by decide⟩
 ·exact⟨.op (.lZ a),Z,b,c,nofun,by decide⟩
def abT{p:S}{e:T}(a:e∈marks)(h:p=18\/p=19\/p=20):∃i,iv i=.tup [.int (p - 16),.int e]/\Made aa n p i:=by
 rcases h with rfl | rfl | rfl
 ·exact⟨.bZ 2 e,Z,.inl Z,a,by decide⟩
 ·exact⟨.bZ 3 e,Z,.inr (.inl Z),a,by decide⟩
 ·exact⟨.bZ 4 e,Z,.inr (.inr Z),a,by decide⟩
def PS{W dg:T}{many:S}(k:0<many)(à:0<aa.length)(hk:P.KL aa)(C:0<=W)(U:W<24):∃i,ae GG PP (d+1) "_law_op" [.int W,.int dg,.int many,.lst (aj aa)] H=.ok (iv i) H/\Made aa many W i:=by
 refine ak (jX (a:=dg) (n:=4) (by decide)) λâ è I=>?_;refine ak (UI I) λkd E ù=>?_;refine aX W (uA C) λp=>?_;clear C U;have st:∀{v},(execs GG (ae GG PP d) cu (yF.body.drop 1) (Co p dg many aa (.int kd)) H).bind bM=.ok v H->ae GG PP (d+1) "_law_op" [.int p,.int dg,.int many,.lst (aj aa)] H=.ok v H:=
  λh=>(aY UH (by decide) Z).trans ((cx (·.bind bM) (aU (H1:=H) (ρ1:=Co p dg many aa (.int kd)) (nk (.v (mod_is (a:=dg) (b:=4) (by decide)) (.v (pn (H:=H) (show b8 _ (dg % 4)=_ from è.symm▸ù)) .nil)) (by kernel_rfl)))).trans h)
 by_cases t:p<5
 ·have A:∀{x r:T},x % (many:T)=r->cK .Mod (.int x) (.int many)=O (.int r):=λe=>e▸mod_is (Mx k);refine ak (jX (a:=dg) k) λa s f=>ak (jX (a:=dg / 5) k) λb L lb=>ak (jX (a:=dg / 25) k) λc N lc=>?_;exact sk (l:=[.op .cP,.op (.br a),.op (.gr a),.op (.f9 a b c),.op .ret]) (a:=0) ⟨⟨fo,fo,nofun,by decide⟩,⟨f,fo,nofun,by decide⟩,⟨f,fo,nofun,by decide⟩,⟨⟨f,lb,lc⟩,fo,nofun,by decide⟩,⟨fo,fo,nofun,by decide⟩,fo⟩ (uB.mpr (jl p)) t λ{i} hv=>
   st (oj (p:=p) (c:=5) Z (Xl t) (ρ':=Co p dg many aa (.int kd)++[("label",.int a)]) (H':=H) (hW (.v (A s) (.d (.v (A L) (.d (.v (A N) (.v (pn (H:=H) ((Vq (p:T))▸hv)) .nil)))))) (by kernel_rfl)))
 have o:¬(p:T)<5:=Xs t;replace st:=λ{v} h=>st (v:=v) (sj Z o h);by_cases q:p<8
 ·exact sk (l:=[.op .drop,.op .sel,.op (.mZ kd)]) (a:=5) ⟨⟨fo,fo,nofun,by decide⟩,⟨fo,fo,nofun,by decide⟩,⟨E,E,nofun,by decide⟩,fo⟩ o q λ{i} hv=>st (oj Z (Xu q) (Ak (Cn (l:=[.tup [.int 26],.tup [.int 27],.tup [.int 28,.int kd]]) Z (by kernel_rfl!) zR hv)))
 have y:¬(p:T)<8:=Xw q;replace st:=λ{v} h=>st (v:=v) (sj Z y h);clear o;by_cases w:p<12
 ·obtain⟨g,F,K⟩:∃g:T,(g=-16\/g=-17)/\b8 [.int (-16),.int (-17)] (dg % 2)=some (.int g):=by
   refine ak (jX (a:=dg) (n:=2) (by decide)) λr e l=>?_;refine ah (show dg % 2=(r:T) from e) ?_;clear e;rcases(show r=0\/r=1 from Xy l) with rfl | rfl
   ·exact ay (-16) (.inl Z) Z
   ·exact ay (-17) (.inr Z) Z
  exact sk (l:=[.op (.xx (dg % 90)),.op (.xA (-(dg % 90))),.op (.j7 g),.op .dK]) (a:=8) ⟨⟨fo,fo,nofun,by decide⟩,⟨fo,fo,nofun,by decide⟩,⟨F,.inr (.inr F),nofun,by decide⟩,⟨fo,fo,nofun,by decide⟩,fo⟩ y w λ{i} hv=>
   st (oj (ρ':=Co p dg many aa (.int kd)) (H':=H) Z (XA w) (hW (.d (.d (.d (.v (pn (H:=H) K) (.v (pn (H:=H) hv) .nil))))) (by kernel_rfl)))
 haveI u:¬(p:T)<12:=XF w;replace st:=λ{v} h=>st (v:=v) (sj Z u h);clear y;by_cases z:p<15
 ·exact sk (l:=[.op .mI,.op .mJ,.op .mK]) (a:=12) ⟨⟨fo,fo,nofun,by decide⟩,⟨fo,fo,nofun,by decide⟩,⟨fo,fo,nofun,by decide⟩,fo⟩ u z λ{i} hv=>st (oj Z (XJ z) (Ak (Cn (l:=[.tup [.int 106],.tup [.int 80],.tup [.int 124]]) Z (by kernel_rfl!) zR hv)))
 haveI D:¬(p:T)<15:=XN z;replace st:=λ{v} h=>st (v:=v) (sj Z D h);clear u;by_cases é:p<18
 ·refine ak (jX (a:=dg) à) λa s f=>?_;refine ak (abS (p:=p) f (hk _ (by rw[eI,ee f];exact PW f)) (XR D é)) λi hv m=>⟨i,?_,m⟩;refine ah hv ?_;exact st (oj (ρ':=Co p dg many aa (.int kd)) (H':=H) Z (XQ é) (hW (.d (.v (show cK .Mod (.int dg) (.int ((aj aa).length:S))=O (.int a) by rw[d3];exact s▸mod_is (XO f)) .nil)) (by kernel_rfl)))
 have G:¬(p:T)<18:=XS é;replace st:=λ{v} h=>st (v:=v) (sj Z G h);by_cases j:p<21
 ·refine ak (jX (a:=dg) (n:=9) (by decide)) λr e (l:r<marks.length)=>ak (abT (p:=p) (PW l) (XX G j)) λi hv m=>⟨i,?_,m⟩;rw[hv];exact st (oj (ρ':=Co p dg many aa (.int kd)) (H':=H) Z (XU j) (hW (.d (.v (pn (H:=H) (show b8 (aj marks) (dg % 9)=_ by refine ah (show dg % 9=(r:T) from e) ?_;exact jS (ee l))) .nil)) (by kernel_rfl)))
 ·exact⟨.op .sQ,st (sj Z (XY j) (by kernel_rfl!)),fo,fo,nofun,XZ j⟩
end
section
variable{d k n W no:S}{K:J (S×AO)}{H:Hp}{C:CS}{G:a7->aI AV}{ρ:Loc}{aa:J T}{ax:J P.I}{st:J S}{vs vz:AV}
structure BI (aa:J T)(ax:J P.I)(st:J S)(n:S):Prop where
 wf:∀{r},P.wf st r->P.wf [] (ax++r)
 lw:∀{r},LW aa st r->LW aa [] (ax++r)
 ok:∀i∈ax,P.pQ aa i
 len:ax.length<=n
 Am:st.length<=4
def BI.step(e:BI aa ax st n)(U:∀{r},P.wf st' r->P.wf st (i::r))(V:∀{r},LW aa st' r->LW aa st (i::r))(h3:P.pQ aa i)(h4:st'.length<=4):BI aa (ax++[i]) st' (n+1):=by
 refine⟨λ{r} h=>?_,λ{r} h=>?_,λj a=>?_,?_,h4⟩
 ·rw[fJ];exact e.wf (U h)
 ·simp only[fJ];exact e.lw (V h)
 ·refine eE (ka.mp a) (λz=>?_) λz=>?_
  ·exact e.ok j z
  ·clear a;cases gg.mp z;exact h3
 ·exact ah a9 (Rc e.len 1)
theorem BI.op(e:BI aa ax st n)(U:mR aa (st.length+1) o)(V:P.tK aa o):BI aa (ax++[.op o]) st (n+1):=e.step (i:=.op o) (λh=>h) (λh=>⟨U,h⟩) V e.Am
def tZ(h:e∈marks):P.KL (P.tk e)/\P.KL (P.gv e):=by
 delta P.KL P.Kind;simp only[marks,a8,eA,hK] at h;rcases h with rfl | rfl | rfl | rfl | rfl | rfl | rfl | rfl | rfl<;>exact au (by decide) (by decide)
noncomputable def ops (st:J S):J AV:=st.reverse.map λc:S=>.int c
def gN:ops (c::st)=ops st++[.int c]:=by delta ops;simp only[i7,l9];rfl
def om:(ops st).length=st.length:=by delta ops;rw[d3,eb]
abbrev BC (W no:S)(ax:J P.I)(st:J S)(K:J (S×AO)):J (S×AO):=(W,.list (ax.map iv))::(no,.list (ops st))::K
theorem BC.cons(h:Own ((W,.list (ax.map iv))::(no,.list (ops st++[.int c]))::K) H):Own (BC W no ax (c::st) K) H:=by delta BC;exact gN▸h
structure BL (W no:S)(vs vz:AV)(aa:J T)(ρ:Loc):Prop where
 s:ρ.lookup "script"=O vs
 z:ρ.lookup "is_sealed"=O vz
 p:ρ.lookup "places"=O (.lst (aj aa))
 b:ρ.lookup "body"=O (.obj W)
 o:ρ.lookup "opened"=O (.obj no)
theorem BL.put{x:a7}{v:AV}(h:BL W no vs vz aa ρ)(a:x∉["script","is_sealed","places","body","opened"]):BL W no vs vz aa (put x v ρ):=by
 simp only[a8,eA,hK,A0] at a;refine kF a λU V h3 h4 h5=>?_;clear a;exact⟨aE (a0 (j1 U)) h.s,aE (a0 (j1 V)) h.z,aE (a0 (j1 h3)) h.p,aE (a0 (j1 h4)) h.b,by rw[jr,dm (j1 h5)];exact h.o⟩
def rE(c:ax.length<1000)(L:BL W no vs vz aa ρ)(a:ev G C k e ρ H=.ok (iv i) H)(g:Own (BC W no ax st K) H):aA G C k (.expr (.aK (.loc "body") "append" [e])) ρ H=.ok (.next,ρ) (H.set W (.list ((ax++[i]).map iv)))/\Own (BC W no (ax++[i]) st K) (H.set W (.list ((ax++[i]).map iv))):=by
 refine au ?_ (g.set [] _);refine ah l9 ?_;exact rD L.b a (g.at (.head _)) (by rw[d3];exact z2 c)
theorem PY(L:BL W no vs vz aa ρ)(g:Own (BC W no ax st K) H):ev G C k (.cmp (.loc "opened") .NotEq (.list X [])) ρ H=.ok (.bool (eo (st≠[]))) H:=by
 haveI h:H[no]?=O (.list (ops st)):=g.at (.tail _ (.head _));haveI e:bf H .NotEq (.obj no) (.lst [])=O (eo (st≠[])):=by
  simp only[bf,fk,bD,h];clear h g;cases st with
  | nil=>rfl
  | cons c st=>rw[dE (by rw[om];exact S0 _)];rfl
 exact gU (.v L.o (.b e .nil)) (by kernel_rfl)
theorem JU(L:BL W no vs vz aa ρ)(e:Own (BC W no ax st K) H):ev G C k (.bi "len" [.loc "opened"]) ρ H=.ok (.int st.length) H:=by
 exact gU (.v L.o (.v ((dO (e.at (.tail _ (.head _)))).trans (cx (λn:S=>O (AV.int n)) om)) .nil)) (by kernel_rfl)
theorem PZ(h:ρ.lookup "pick"=O (.int p)):ev G C k (.cmp (.loc "pick") .Eq (.lit (.int c))) ρ H=.ok (.bool (eo (p=c))) H:=by
 exact gU (.v h (.d .nil)) (by kernel_rfl)
def P8{c:S}(L:BL W no vs vz aa ρ)(e:Own (BC W no ax (c::st) K) H):ev G C k (.cmp (.sub (.loc "opened") (.n (-1))) .Eq (.n 4)) ρ H=.ok (.bool (eo (c=4))) H:=by
 haveI h:H[no]?=O (.list (ops (c::st))):=e.at (.tail _ (.head _));exact gU (.v L.o (.v ((b7 (gN▸h)).trans ru) (.b ((d8 (H:=H) c 4).1.trans (cx O (show eo ((c:T)=4)=decide (c=4) from o2.mpr MB))) .nil))) (by kernel_rfl)
def b_1(L:BL W no vs vz aa ρ)(e:Own (BC W no ax st K) H)(h:ρ.lookup "pick"=O (.int p)):ev G C k (.and [.cmp (.loc "pick") .Eq (.n 21),.cmp (.loc "opened") .NotEq (.list X []),.cmp (.sub (.loc "opened") (.n (-1))) .Eq (.n 4)]) ρ H=.ok (.bool (eo (p=21/\st.head?=O 4))) H:=by
 simp only[zB,and_cons,PZ h];by_cases U:p=21
 ·refine ah (cB U) ?_;show cX G C k _ ρ H=_;simp only[and_cons,PY L e,bB];cases st with
  | nil=>refine ah (a0 (p:=p=21/\_) (λz=>nomatch z.2)) ?_;rfl
  | cons c st=>
   show cX G C k _ ρ H=_;refine ah and_cons ?_;rw[P8 L e,bB];by_cases hc:c=4
   ·simp only[cB hc,cB (p:=p=21/\(c::st).head?=O 4) ⟨U,cx O hc⟩];rfl
   ·simp only[a0 hc,a0 (p:=p=21/\(c::st).head?=O 4) (λz=>hc (gf z.2))];rfl
 ·refine ah (a0 U) ?_;refine ah (a0 (p:=p=21/\_) (λz=>U z.1)) ?_;rfl
def b_2(L:BL W no vs vz aa ρ)(e:Own (BC W no ax st K) H)(h:ρ.lookup "pick"=O (.int p)):ev G C k (.and [.cmp (.loc "pick") .Eq (.n 22),.cmp (.loc "opened") .NotEq (.list X [])]) ρ H=.ok (.bool (eo (p=22/\st≠[]))) H:=by
 simp only[zB,and_cons,PZ h,bB];by_cases U:p=22
 ·rw[cB U];show cX G C k _ ρ H=_;rw[and_cons,PY L e,bB,o2.mpr (show(p=22/\st≠[])↔st≠[] from⟨RX,λz=>⟨U,z⟩⟩)];cases eo (st≠[])<;>rfl
 ·rw[a0 U,a0 (p:=p=22/\_) (λz=>U z.1)];rfl
def b_3(L:BL W no vs vz aa ρ)(e:Own (BC W no ax st K) H)(h:ρ.lookup "pick"=O (.int p)):ev G C k (.and [.ef (.n 18) .LtE (.loc "pick") .Lt (.n 21),.cmp (.bi "len" [.loc "opened"]) .Gt (.n 3)]) ρ H=.ok (.bool (eo ((18<=p/\p<21)/\3<st.length))) H:=by
 haveI e1:ev G C k (.ef (.n 18) .LtE (.loc "pick") .Lt (.n 21)) ρ H=.ok (.bool (eo (18<=p/\p<21))) H:=by
  simp only[BP,cb,bB,Hh,aM,h,aB,Hg,He,dJ,me,d8,h9];by_cases U:18<=p
  ·rw[dE U,o2.mpr (show p<21↔18<=p/\p<21 from⟨λz=>⟨U,z⟩,RX⟩)]
  ·rw[dm U,a0 (p:=18<=p/\_) (λz=>U z.1)]
 simp only[zB,and_cons,e1];by_cases U:18<=p/\p<21
 ·refine ah (cB U) ?_;show cX G C k _ ρ H=_;simp only[and_cons,cZ,JU L e];simp only[eD,cb,bB,dJ,d8,aB,me];rw[o2.mpr (show(3:T)<st.length↔((18<=p/\p<21)/\3<st.length) from⟨λz=>⟨U,Xh z⟩,λz=>by have:=z.2;exact Xi this⟩)];cases eo ((18<=p/\p<21)/\3<st.length)<;>rfl
 ·refine ah (a0 U) ?_;rw[a0 (p:=(18<=p/\_)/\_) (λz=>U z.1)];rfl
noncomputable def abU:MS:=.expr (.aK (.loc "body") "append" [.tup [.n 1]])
def bLast:J MS:=[.asg "op" (.call "_law_op" [.loc "pick",.loc "digits",.bin .Add (.bi "len" [.loc "opened"]) (.n 1),.loc "places"]),.expr (.aK (.loc "body") "append" [.loc "op"]),.iff (.cmp (.sub (.loc "op") (.n 0)) .In (.tup [.n 2,.n 3,.n 4])) [.expr (.aK (.loc "opened") "append" [.sub (.loc "op") (.n 0)])] []]
def P9:MS:=.iff (.and [.ef (.n 18) .LtE (.loc "pick") .Lt (.n 21),.cmp (.bi "len" [.loc "opened"]) .Gt (.n 3)]) [abU] bLast
def abV:MS:=.iff (.and [.cmp (.loc "pick") .Eq (.n 22),.cmp (.loc "opened") .NotEq (.list X [])]) [.expr (.aK (.loc "opened") "pop" []),.expr (.aK (.loc "body") "append" [.tup [.n 11]])] [P9]
def Qa:MS:=.iff (.and [.cmp (.loc "pick") .Eq (.n 21),.cmp (.loc "opened") .NotEq (.list X []),.cmp (.sub (.loc "opened") (.n (-1))) .Eq (.n 4)]) [.gp (.loc "opened") (.n (-1)) (.n 5),.expr (.aK (.loc "body") "append" [.tup [.n 5]])] [abV]
def mq (C:CS)(G:a7->aI AV)(k W no:S)(vs vz:AV)(aa:J T)(n:S)(K:J (S×AO))(h:J MS)(ρ:Loc)(H:Hp):Prop:=
 ∃e g ax st,execs G C k h ρ H=.ok (.next,e) g/\BL W no vs vz aa e/\BI aa ax st n/\Own (BC W no ax st K) g
theorem mq.iff [r4 c](d:ev G C k t ρ H=.ok (.bool (eo c)) H)(U:c->mq C G k W no vs vz aa n K a ρ H)(V:¬c->mq C G k W no vs vz aa n K b ρ H):mq C G k W no vs vz aa n K [.iff t a b] ρ H:=by
 delta mq at *;simp only[bc,de,d,bB];by_cases hc:c
 ·refine yA (U hc) λe g ax st h r=>ah (cB hc) ?_;exact FP e g ax st (by show(execs G C k a ρ H).bind _=_;refine ah h ?_;rfl) r
 ·refine yA (V hc) λe g ax st h r=>ah (a0 hc) ?_;exact FP e g ax st (by show(execs G C k b ρ H).bind _=_;refine ah h ?_;rfl) r
def An{p dg:T}(E:0<aa.length)(hk:P.KL aa)(w:0<=p)(j:p<24)(g:ax.length<1000)(L:BL W no vs vz aa ρ)(è:Own (BC W no ax st K) H)(é:BI aa ax st n)(h:ρ.lookup "pick"=O (.int p))(hd:ρ.lookup "digits"=O (.int dg)):mq (ae GG PP (d+1)) GG k W no vs vz aa (n+1) K [Qa] ρ H:=by
 refine mq.iff (b_1 L è h) (λc=>?_) (λy=>mq.iff (b_2 L è h) (λc=>?_) (λy=>mq.iff (b_3 L è h) (λc=>?_) (λc=>?_)))
 ·cases st with
  | nil=>exact nomatch c.2
  | cons x st=>
   cases gf c.2;haveI b:H[no]?=O (.list (ops (4::st))):=è.at (.tail _ (.head _));rw[gN] at b;haveI z:=BC.cons (ax:=ax) (c:=5) (è.set [(W,.list (ax.map iv))] (.list (ops st++[AV.int ((5:S):T)])));exact aq (rE (G:=GG) (C:=ae GG PP (d+1)) (k:=k) (st:=5::st) (i:=.cE) (e:=.tup [.n 5]) g L Z z) λV a=>pX ρ _ _ _ ((aU (Cm L.o b)).trans ((aU V).trans fF)) L (é.step (i:=.cE) (st':=5::st) (λh=>⟨Z,h⟩) (λh=>⟨Z,h⟩) fo é.Am) a
 ·cases st with
  | nil=>exact hQ Z c.2
  | cons x st=>
   haveI b:=è.at (.tail _ (.head _));rw[gN] at b;exact aq (rE (G:=GG) (C:=ae GG PP (d+1)) (k:=k) (st:=st) (i:=.fin) (e:=.tup [.n 11]) g L Z (è.set [(W,.list (ax.map iv))] (.list (ops st)))) λV a=>pX ρ _ _ st ((aU (gc L.o b)).trans ((aU V).trans fF)) L (é.step (i:=.fin) (st':=st) (λh=>h) (λh=>h) fo (q7 é.Am)) a
 ·exact aq (rE (G:=GG) (C:=ae GG PP (d+1)) (k:=k) (i:=.op .sQ) (e:=.tup [.n 1]) g L Z è) λV a=>pX ρ _ _ st ((aU V).trans fF) L (é.op (o:=.sQ) fo fo) a
 ·refine ak (PS (d:=d) (H:=H) (dg:=dg) (many:=st.length+1) (Vp _) E hk w j) λi hi m=>?_;have s:aA GG (ae GG PP (d+1)) k (.asg "op" (.call "_law_op" [.loc "pick",.loc "digits",.bin .Add (.bi "len" [.loc "opened"]) (.n 1),.loc "places"])) ρ H=.ok (.next,put "op" (iv i) ρ) H:=
   lq (.v h (.v hd (.v L.o (.v ((dO (è.at (.tail _ (.head _)))).trans (cx (λn:S=>O (AV.int n)) om)) (.v L.p (.r hi .nil)))))) (by kernel_rfl)
  haveI f:=L.put (x:="op") (v:=iv i) (by decide);have q:ev GG (ae GG PP (d+1)) k (.loc "op") (put "op" (iv i) ρ) H=.ok (iv i) H:=gU (.v (bQ (x:="op") (v:=iv i) (ρ:=ρ)) .nil) (by kernel_rfl);refine aq (rE (G:=GG) (C:=ae GG PP (d+1)) (k:=k) g f q è) λV a=>?_;have u:∀{H1:Hp},ev GG (ae GG PP (d+1)) k (.cmp (.sub (.loc "op") (.n 0)) .In (.tup [.n 2,.n 3,.n 4])) (put "op" (iv i) ρ) H1=.ok (.bool (eo (bz i∈[2,3,4]))) H1:=by
   exact aH (lG i) λt hc=>gU (.v ((bQ (x:="op") (v:=iv i) (ρ:=ρ)).trans (cx O hc)) (.d (.d .nil))) (by kernel_rfl)
  clear q;cases i with
  | op o=>
   refine pX _ _ _ st ((aU s).trans ((aU V).trans ?_)) f (é.op m.1 m.2.1) a;simp only[bc,de,u,a0 (jW o).2];rfl
  | bZ c mk=>
   haveI hc:(c:T)∈[2,3,4]:=by simp only[a8,eA,hK];have:=m.1;exact yC this
   haveI h4:=by have:=m.2.2;exact Xr ‹_› ‹_›
   haveI D:=a.set [_] (.list (ops st++[.int c]));haveI A:aA GG (ae GG PP (d+1)) k (.expr (.aK (.loc "opened") "append" [.sub (.loc "op") (.n 0)])) (put "op" (iv (.bZ c mk)) ρ) (H.set W (.list ((ax++[P.I.bZ c mk]).map iv)))=_:=
    rD f.o (v:=.int c) (l:=ops st) (by simp only[cg,aM,bQ];rfl) (a.at (.tail _ (.head _))) (om▸Xv h4)
   refine pX _ _ _ (c::st) ((aU s).trans ((aU V).trans ?_)) f (é.step (i:=.bZ c mk) (st':=c::st) (λh=>⟨by have:=m.1;exact IU this,h⟩) (λh=>⟨m.1,m.2.1,h4,h⟩) ?_ h4) (BC.cons D)
   ·simp only[bc,de,u,cB (show bz (.bZ c mk)∈[2,3,4] from hc)];show((execs GG (ae GG PP (d+1)) k [_] _ _).bind _)=_;refine ah (aU A) ?_;rfl
   ·exact tZ m.2.1
  | cE=>exact m.elim
  | fin=>exact m.elim
end
section
variable{d k n W no:S}{K:J (S×AO)}{H:Hp}{C:CS}{G:a7->aI AV}{ρ:Loc}{aa:J T}{ax:J P.I}{st:J S}{vz:AV}{ns:J T}{sb:aS}
def DN:MS:=.asg "number" (.ite (.cmp (.bin .Add (.loc "turn") (.n 1)) .Lt (.bi "len" [.loc "script"])) (.sub (.loc "script") (.bin .Add (.loc "turn") (.n 1))) (.n 0))
noncomputable def DO:MS:=.cC ["pick","digits"] (.tup [.bin .Mod (.bin .Add (.bi "abs" [.loc "number"]) (.bin .Mult (.n 7) (.loc "turn"))) (.n 24),.bin .Mod (.bin .FloorDiv (.bi "abs" [.loc "number"]) (.n 24)) (.n 1000000000)])
noncomputable def Ao:MS:=.iff (.cmp (.loc "number") .Lt (.n 0)) [.expr (.aK (.loc "body") "append" [.tup [.n 0]])] []
def vI:J MS:=[DN,DO,Ao,Qa]
def LH(a:0<=u)(e:ρ.lookup "script"=O (.lst (aj ns)))(b:ρ.lookup "turn"=O (.int u)):∃z:T,aA G C k DN ρ H=.ok (.next,put "number" (.int z) ρ) H:=by
 haveI e1:cK .Add (.int u) (.int 1)=O (.int (u+1)):=Z;haveI c:ev G C k (.cmp (.bin .Add (.loc "turn") (.n 1)) .Lt (.bi "len" [.loc "script"])) ρ H=.ok (.bool (eo (u+1<ns.length))) H:=by
  simp only[cZ,d0,vk,aM,cb,bu,b6,e,b,aB,bB,gS,gy,e1,eD,dB,dI,zy,gC,i5,bD,uZ,d3,dJ,d8,me]
 by_cases h:u+1<ns.length
 ·haveI d:b8 (aj ns) (u+1)=O (.int (ns[(u+1).toNat]'(FV a h))):=by
   have:=jS (l:=ns) (j:=(u+1).toNat) (ee (FV a h))
   rwa [yo (WW a)] at this
  refine bq (ns[(u+1).toNat]'(FV a h)) ?_;simp only[DN,rd,gd,c,cB h];show((ev G C k (.sub (.loc "script") (.bin .Add (.loc "turn") (.n 1))) ρ H).bind _)=_;simp only[cg,d0,aM,cb,e,b,aB,bB,gS,gy,e1,fV,fU,di,bD,d,Dy]
 ·refine bq 0 ?_;simp only[DN,rd,gd,c,a0 h];rfl
def LI(e:ρ.lookup "number"=O (.int z))(c:ρ.lookup "turn"=O (.int u)):∃p g:T,aA G C k DO ρ H=.ok (.next,put "digits" (.int g) (put "pick" (.int p) ρ)) H/\0<=p/\p<24:=by
 refine bx (((z.natAbs:T)+7*u) % 24) (((z.natAbs:T) / 24) % 1000000000) ?_ (Qy _ (by decide)) (NJ _ (by decide));haveI e1:cK .Mult (.int 7) (.int u)=O (.int (7*u)):=Z;haveI d:cK .Add (.int z.natAbs) (.int (7*u))=O (.int (z.natAbs+7*u)):=Z;haveI f:∀{v:AV},gC H "abs" [.int z]=O (.int z.natAbs):=Z;simp only[DO,wG,jn,bu,b6,d0,vk,aM,cb,e,c,aB,bB,dB,dI,zy,f (v:=.none),gS,gy,e1,d,mod_is (a:=(z.natAbs:T)+7*u) (b:=24) (by decide)];rfl
def Iw(w:0<=u)(t:0<aa.length)(hk:P.KL aa)(b:n+2<1000)(L:BL W no (.lst (aj ns)) vz aa ρ)(l:ρ.lookup "turn"=O (.int u))(è:Own (BC W no ax st K) H)(é:BI aa ax st n):mq (ae GG PP (d+1)) GG k W no (.lst (aj ns)) vz aa (n+2) K vI ρ H:=by
 refine aH (LH (G:=GG) (C:=ae GG PP (d+1)) (k:=k) (H:=H) w L.s l) λz U=>?_;haveI m:(put "number" (.int z) ρ).lookup "number"=O (.int z):=bQ;refine bV (LI (G:=GG) (C:=ae GG PP (d+1)) (k:=k) (H:=H) (u:=u) m (aE (by kernel_rfl) l)) λp s V hp h=>?_;have a:=((L.put (x:="number") (v:=.int z) (by decide)).put (x:="pick") (v:=.int p) (by decide)).put (x:="digits") (v:=.int s) (by decide);haveI r:(put "digits" (.int s) (put "pick" (.int p) (put "number" (.int z) ρ))).lookup "number"=O (.int z):=aE (by kernel_rfl) (aE (by kernel_rfl) m);haveI c:(put "digits" (.int s) (put "pick" (.int p) (put "number" (.int z) ρ))).lookup "pick"=O (.int p):=aE (by kernel_rfl) bQ;haveI f:(put "digits" (.int s) (put "pick" (.int p) (put "number" (.int z) ρ))).lookup "digits"=O (.int s):=bQ;delta mq vI;rw[(λss=>(aU U).trans (aU V))];generalize put "digits" (.int s) (put "pick" (.int p) (put "number" (.int z) ρ))=cw at a r c f;haveI j:ev GG (ae GG PP (d+1)) k (.cmp (.loc "number") .Lt (.n 0)) cw H=.ok (.bool (eo (z<0))) H:=by
  exact gU (.v r (.d .nil)) (by kernel_rfl)
 by_cases q:z<0
 ·refine aq (rE (G:=GG) (C:=ae GG PP (d+1)) (k:=k) (e:=.tup [.n 0]) (i:=.op .cP) (by have:=é.len;exact MA b this) a Z è) λh3 y=>?_;haveI g:aA GG (ae GG PP (d+1)) k Ao cw H=.ok (.next,cw) (H.set W (.list ((ax++[P.I.op .cP]).map iv))):=by
   simp only[Ao,de,j,cB q];exact(aU h3).trans fF
  refine ah (aU g) ?_;exact An t hk hp h (by refine ah a9 ?_;have:=é.len;exact W3 b this) a y (é.op (o:=.cP) fo fo) c f
 ·haveI g:aA GG (ae GG PP (d+1)) k Ao cw H=.ok (.next,cw) H:=by
   simp only[Ao,de,j,a0 q];rfl
  refine ah (aU g) ?_;exact An t hk hp h (by have:=é.len;exact MA b this) a è (n:=n+1) ⟨é.wf,é.lw,é.ok,p3 é.len,é.Am⟩ c f
theorem turns(b:0<aa.length)(s:P.KL aa):∀(a:J T) {n:S}{ax:J P.I}{st:J S}{ρ:Loc}{H:Hp},(∀u∈a,0<=u)->n+2*a.length<1000->BL W no (.lst (aj ns)) vz aa ρ->Own (BC W no ax st K) H->BI aa ax st n->
  ∃q y ax st,c0 GG (ae GG PP (d+1)) k vI (.one "turn") (aj a) ρ H=.ok (.next,q) y/\BL W no (.lst (aj ns)) vz aa q/\BI aa ax st (n+2*a.length)/\Own (BC W no ax st K) y
 | [],n,ax,st,ρ,H,_,_,L,à,è=>⟨ρ,H,ax,st,Z,L,è,à⟩
 | u::a,n,ax,st,ρ,H,z,hn,L,à,è=>by
  refine pW (Iw (d:=d) (k:=k) (n:=n) (z u (.head _)) b s (W8 hn) (L.put (x:="turn") (v:=.int u) (by decide)) (bQ) à è) λé H1 g p U j e i=>pW (turns b s a (n:=n+2) (λv hv=>z v (.tail _ hv)) (W9 hn) j i e) λh H2 f o V m l c=>pX h H2 f o ?_ m ?_ c
  ·refine ah (show aj (u::a)=.int u::aj a from Z) ?_;refine ah (fW Z) ?_;refine ah U ?_;exact V
  ·simp only[show n+2*(u::a).length=n+2+2*a.length by dsimp only[ff];exact Xc];exact l
noncomputable def ext (sb:aS):J P.I:=if sb then[.op .cP,.fin] else[.fin]
noncomputable def exts (sb:aS):S->J P.I
 | 0=>[]
 | n+1=>ext sb++exts sb n
theorem wY:∀st:J S,P.wf st (exts sb (st.length+1))/\LW aa st (exts sb (st.length+1))
 | []=>by cases sb<;>exact au Z (by first | exact Z | exact au fo Z)
 | c::st=>by
  haveI h:=wY st;cases sb with| false=>exact h| true=>exact cG h.1 fo h.2
theorem Cp:∀n:S,(∀i∈exts sb n,P.pQ aa i)/\(exts sb n).length<=2*n
 | 0=>⟨Ln _,gk _⟩
 | n+1=>by
  refine aq (Cp n) λU V=>?_;cases sb with
  | false=>
   refine au (λi hi=>?_) (by show(exts aN n).length+1<=_;exact Xj V);rcases a8.mp hi with rfl | hi
   ·trivial
   ·exact U i hi
  | true=>
   refine au (λi hi=>?_) (by show(exts X n).length+1+1<=_;exact Xk V);rcases a8.mp hi with rfl | hi
   ·trivial
   ·rcases a8.mp hi with rfl | hi
    ·trivial
    ·exact U i hi
noncomputable def vJ:J MS:=[.expr (.aK (.loc "body") "extend" [.ite (.loc "is_sealed") (.list X [.tup [.n 0],.tup [.n 11]]) (.list X [.tup [.n 11]])])]
theorem ends:∀(a:J AV) {ax:J P.I}{ρ:Loc}{H:Hp},ax.length+2*a.length<1000->ρ.lookup "body"=O (.obj W)->ρ.lookup "is_sealed"=O (.bool sb)->Own ((W,.list (ax.map iv))::K) H->
  ∃g h,c0 G C k vJ (.one "k") a ρ H=.ok (.next,g) h/\g.lookup "body"=O (.obj W)/\Own ((W,.list ((ax++exts sb a.length).map iv))::K) h
 | [],ax,ρ,H,_,U,_,m=>⟨ρ,H,Z,U,by rw[show exts sb [].length=[] from Z,hP];exact m⟩
 | u::a,ax,ρ,H,i,U,V,m=>by
  haveI j:(put "k" u ρ).lookup "body"=O (.obj W):=aE (by kernel_rfl) U;have d:ev G C k (.ite (.loc "is_sealed") (.list X [.tup [.n 0],.tup [.n 11]]) (.list X [.tup [.n 11]])) (put "k" u ρ) H=.ok (.lst ((ext sb).map iv)) H:=by
   rw[gd,aM,(aE (by kernel_rfl) V)];clear V;cases sb<;>rfl
  haveI b:(ext sb).length<=2:=by cases sb<;>decide
  haveI e:(ax.map iv++(ext sb).map iv).length<=aZ:=by simp only[a9,d3];exact Xo i b
  haveI h3:execs G C k vJ (put "k" u ρ) H=.ok (.next,put "k" u ρ) (H.set W (.list (ax.map iv++(ext sb).map iv))):=by
   simp only[vJ,bc,fF,gT,iE,aM,j,aB,bB,sU,(m.at (.head _)),bu,b6,d,dB,dI,ph,eg,a7.reduceEq,kc,i5,e,cW,kX,cL]
  rw[<-l9] at h3;refine bV (ends a (ax:=ax++ext sb) ((a9)▸Xp i b) j (aE (by kernel_rfl) V) (m.set [] (.list ((ax++ext sb).map iv)))) λg h h4 h5 c=>bx g h ?_ h5 ?_
  ·refine ah (fW Z) ?_;refine ah h3 ?_;exact h4
  ·rw[fJ] at c;exact c
def range_one(L:BL W no vs vz aa ρ)(e:Own (BC W no ax st K) H):ct GG C k [.bin .Add (.bi "len" [.loc "opened"]) (.n 1)] ρ H=.ok [.int ((st.length:T)+1)] H:=by
 simp only[bu,d0,JU L e];rfl
def LJ:PP "_law_body"=O ou:=Z
def Ap(a:0<=b)(h:b<=1000):∃e:J T,mx [.int b]=O (aj e)/\e.length=b.toNat/\∀u∈e,0<=u:=by
 refine dQ ((pd b.toNat).map λi:S=>(0:T)+i) ?_ (by rw[d3,J.length_range]) (λu c=>?_)
 ·show(if gD b=X then O (fq 0 b) else Q)=_;refine ah (dE (show gD b=X from cB (XB a h))) ?_;delta fq aj;rw[Vq,p2];rfl
 ·exact dP u (hN.mp c) λi d=>XC
theorem LK(é:0<aa.length)(hk:P.KL aa):∃ax H',ae GG PP (d+2) "_law_body" [.lst (aj ns),.bool sb,.lst (aj aa)] H=.ok (.lst (ax.map iv)) H'/\P.wf [] ax/\LW aa [] ax/\(∀i∈ax,P.pQ aa i)/\ax.length<100:=by
 refine cps λF E=>?_;let c:Loc:=[("script",.lst (aj ns)),("is_sealed",.bool sb),("places",.lst (aj aa)),("body",.obj H.length),("opened",.obj (H++[AO.list []]).length)];let f:=(H++[AO.list []])++[AO.list []];haveI D:BL H.length (H++[AO.list []]).length (.lst (aj ns)) (.bool sb) aa c:=⟨Z,Z,Z,Z,Z⟩;haveI I:BI aa [] [] 0:=⟨λh=>h,λh=>h,Ln _,gk _,by decide⟩;refine cR (Ap (b:=max 5 (min 12 ((ns.length:T) - 1))) (XD) (XE)) λA x p m=>pW (turns (d:=d) (k:=5) (ns:=ns) (vz:=.bool sb) é hk A m (XG p) D ((((show Own [] H from⟨xd,Ln _⟩).new (.list [])).new (.list [])).perm (.swap _ _ _)) I) λL H1 ax st U l a o=>?_;refine cR (Ap (b:=(st.length:T)+1) (XH) (by have:=a.Am;exact XI this)) λq w g F=>?_;have l2:(aj q).length=st.length+1:=by simp only[d3,g];exact XK
 refine bV (ends (G:=GG) (C:=ae GG PP (d+1)) (k:=5) (sb:=sb) (aj q) (by refine ah l2 ?_;have:=a.len;have:=a.Am;exact XM p ‹_› this) l.b l.z o) λj H2 V hb t=>?_;refine E ?_;haveI s:H2[H.length]?=O (.list ((ax++exts sb (st.length+1)).map iv)):=(l2▸t).at (.head _);haveI e:=Cp (sb:=sb) (aa:=aa) (st.length+1);refine Wj (ax++exts sb (st.length+1)) (H2.set H.length .dead) ?_ (a.wf (wY (aa:=aa) st).1) (a.lw (wY st).2) (λi hi=>?_) ?_
 ·refine ah (aY LJ (by decide) Z) ?_;haveI è:aA GG (ae GG PP (d+1)) cu (.cC ["body","opened"] (.tup [.list aN [],.list aN []])) (ou.params.zip [.lst (aj ns),.bool sb,.lst (aj aa)]) H=.ok (.next,c) f:=by kernel_rfl!
  haveI s2:aA GG (ae GG PP (d+1)) cu (.cJ (.one "turn") (.range [.bi "max" [.n 5,.bi "min" [.n 12,.bin .Sub (.bi "len" [.loc "script"]) (.n 1)]]]) vI) c f=.ok (.next,L) H1:=by
   simp only[show cu=5+1 from Z,rg,rh];haveI e1:ct GG (ae GG PP (d+1)) (5+1) [.bi "max" [.n 5,.bi "min" [.n 12,.bin .Sub (.bi "len" [.loc "script"]) (.n 1)]]] c f=.ok [.int (max 5 (min 12 (((aj ns).length:T) - 1)))] f:=by kernel_rfl!
   simp only[e1,d3,zE,x,bB];exact U
  haveI u:aA GG (ae GG PP (d+1)) cu (.cJ (.one "k") (.range [.bin .Add (.bi "len" [.loc "opened"]) (.n 1)]) vJ) L H1=.ok (.next,j) H2:=by
   refine ah (show cu=5+1 from Z) ?_;rw[rg,rh,(range_one (C:=ae GG PP (d+1)) (k:=5+1) l o),bB,zE,w,aB,bB,kFor];exact V
  haveI y:execs GG (ae GG PP (d+1)) cu [.ret (.freeze (.loc "body"))] j H2=.ok (.ret (.lst ((ax++exts sb (st.length+1)).map iv)),j) (H2.set H.length .dead):=by
   exact eL (.v hb (.r (rt s) .nil)) (by kernel_rfl)
  simp only[show ou.body=[.cC ["body","opened"] (.tup [.list aN [],.list aN []]),.cJ (.one "turn") (.range [.bi "max" [.n 5,.bi "min" [.n 12,.bin .Sub (.bi "len" [.loc "script"]) (.n 1)]]]) vI,.cJ (.one "k") (.range [.bin .Add (.bi "len" [.loc "opened"]) (.n 1)]) vJ,.ret (.freeze (.loc "body"))] from Z,aU è,aU s2,aU u,y];rfl
 ·clear s;refine eE (ka.mp hi) (λz=>?_) λz=>?_
  ·exact a.ok i z
  ·exact e.1 i z
 ·refine ah a9 ?_;have:=a.len;have:=a.Am;omega
end
section
variable{d k n W nn:S}{K:J (S×AO)}{H:Hp}{C:CS}{G:a7->aI AV}{ρ:Loc}{aa:J T}{st:J S}{h:aI T}{hs:J P.HF}{acc:J AV}{c:T}
def pT (x:P.HF):AV:=.tup [hv x.1,.int x.2.1,.int x.2.2]
abbrev HC (W nn:S)(hs:J P.HF)(acc:J AV)(K:J (S×AO)):J (S×AO):=(W,.list (hs.reverse.map pT))::(nn,.list acc)::K
structure HL (W nn:S)(aa:J T)(h:aI T)(ρ:Loc):Prop where
 f:ρ.lookup "frames"=O (.obj W)
 n:ρ.lookup "found"=O (.obj nn)
 p:ρ.lookup "places"=O (.lst (aj aa))
 h:ρ.lookup "high"=O (hv h)
theorem HL.put{x:a7}{v:AV}(L:HL W nn aa h ρ)(a:x∉["frames","found","places","high"]):HL W nn aa h (put x v ρ):=by
 simp only[a8,eA,hK,A0] at a;refine eW a λU V h3 h4=>?_;clear a;exact⟨aE (a0 (j1 U)) L.f,aE (a0 (j1 V)) L.n,aE (a0 (j1 h3)) L.p,by rw[jr,dm (j1 h4)];exact L.h⟩
theorem HL.high(L:HL W nn aa h ρ)(a:v=hv e):HL W nn aa e (V6 "high" v ρ):=
 ⟨aE (by kernel_rfl) L.f,aE (by kernel_rfl) L.n,aE (by kernel_rfl) L.p,by rw[jr,dE Z,a]⟩
def t7(a:ρ.lookup x=O (hv h))(b:∀i,ρ.lookup x=O (.int i)->ev G C k e ρ H=.ok (.int (f i)) H):ev G C k (.ite (.cmp (.loc x) .Is (.lit .none)) (.lit .none) e) ρ H=.ok (hv (h.map f)) H:=by
 simp only[gd,cZ,aM,a];cases h with| none=>rfl| some i=>exact b i a
theorem abX{n:T}:bf H .In (.int n) (.tup [.int a,.int b])=O (eo (n∈[a,b])):=rfl
def mu(h:ev G C k e ρ H=.ok v g):aA G C k (.asg x e) ρ H=.ok (.next,put x v ρ) g:=by simp only[rd,h];rfl
def hA:J MS:=[.cC ["takes","gives"] (.call "_law_arrow" [.sub (.loc "op") (.n 1)]),.asg "base" (.ite (.cmp (.loc "high") .Is (.lit .none)) (.lit .none) (.bin .Sub (.bin .Sub (.loc "high") (.bi "len" [.loc "takes"])) (.ite (.cmp (.loc "code") .Eq (.n 4)) (.n 1) (.n 0)))),.expr (.aK (.loc "frames") "append" [.tup [.loc "base",.bi "len" [.loc "takes"],.bi "len" [.loc "gives"]]]),.asg "high" (.ite (.cmp (.loc "base") .Is (.lit .none)) (.lit .none) (.bin .Add (.loc "base") (.bi "len" [.loc "takes"])))]
def hB:J MS:=[.cC ["base","many","more"] (.sub (.loc "frames") (.n (-1))),.asg "high" (.ite (.cmp (.loc "base") .Is (.lit .none)) (.lit .none) (.bin .Add (.loc "base") (.ite (.cmp (.loc "code") .Eq (.n 5)) (.loc "many") (.loc "more")))),.iff (.cmp (.loc "code") .Eq (.n 11)) [.expr (.aK (.loc "frames") "pop" [])] []]
noncomputable def h5:MS:=.iff (.cmp (.loc "high") .IsNot (.lit .none)) [.cC ["takes","gives"] (.call "_law_fixed" [.loc "op",.loc "places"]),.aug "high" .Add (.bin .Sub (.bi "len" [.loc "gives"]) (.bi "len" [.loc "takes"]))] []
def h4:MS:=.iff (.and [.cmp (.loc "high") .IsNot (.lit .none),.cmp (.loc "code") .In (.tup [.n 13,.n 26,.n 27,.n 209])]) [.aug "high" .Add (.kG [13,26,27,209] [.n (-1),.n (-1),.n (-2),.n 0] (.loc "code"))] [h5]
def h3:MS:=.iff (.cmp (.loc "code") .In (.tup [.n 0,.n 12,.n 14,.n 15])) [.asg "high" (.lit .none)] [h4]
def V:MS:=.iff (.cmp (.loc "code") .In (.tup [.n 5,.n 11])) hB [h3]
def U:MS:=.iff (.cmp (.loc "code") .In (.tup [.n 2,.n 3,.n 4])) hA [V]
def so:J MS:=[.expr (.aK (.loc "found") "append" [.loc "high"]),.asg "code" (.sub (.loc "op") (.n 0)),U]
def JV{a b e:T}(hc:ρ.lookup "code"=O (.int c)):aA G C k (.iff (.cmp (.loc "code") .In (.tup [.lit (.int a),.lit (.int b),.lit (.int e)])) A g) ρ H=if c∈[a,b,e] then execs G C k A ρ H else execs G C k g ρ H:=by
 simp only[de,cZ,aM,hc,aB,bB,eD,jn,bu,b6,cb,dB,dI,nh,zR,i5,dJ,sW];by_cases z:c∈[a,b,e]
 ·refine ah (dE z) ?_;refine ah (cB z) ?_;rfl
 ·refine ah (dm z) ?_;rw[a0 z];rfl
def UK{a b:T}(hc:ρ.lookup "code"=O (.int c)):aA G C k (.iff (.cmp (.loc "code") .In (.tup [.lit (.int a),.lit (.int b)])) A e) ρ H=if c∈[a,b] then execs G C k A ρ H else execs G C k e ρ H:=by
 simp only[de,cZ,aM,hc,aB,bB,eD,jn,bu,b6,cb,dB,dI,nh,Pj,i5,dJ,abX];by_cases z:c∈[a,b]
 ·refine ah (dE z) ?_;rw[cB z];rfl
 ·refine ah (dm z) ?_;rw[a0 z];rfl
def afl{a b e f:T}(hc:ρ.lookup "code"=O (.int c)):aA G C k (.iff (.cmp (.loc "code") .In (.tup [.lit (.int a),.lit (.int b),.lit (.int e),.lit (.int f)])) A g) ρ H=if c∈[a,b,e,f] then execs G C k A ρ H else execs G C k g ρ H:=by
 simp only[de,cZ,aM,hc,aB,bB,eD,jn,bu,b6,cb,dB,dI,nh,abO,i5,dJ,in4];by_cases z:c∈[a,b,e,f]
 ·refine ah (dE z) ?_;refine ah (cB z) ?_;rfl
 ·refine ah (dm z) ?_;rw[a0 z];rfl
def wZ:execs G C k [s] ρ H=(aA G C k s ρ H).bind (cL G C k []):=bc
def kD(h:aA G C k s ρ H=.ok (.next,e) g):execs G C k [s] ρ H=.ok (.next,e) g:=by rw[wZ,h];rfl
def HO (C:CS)(G:a7->aI AV)(k W nn:S)(aa:J T)(s:J P.HF×aI T)(acc:J AV)(K:J (S×AO))(x:MS)(ρ:Loc)(H:Hp):Prop:=
 ∃e g,aA G C k x ρ H=.ok (.next,e) g/\HL W nn aa s.2 e/\Own (HC W nn s.1 acc K) g
theorem vK(a:ρ.lookup x=O (.lst (aj l))):ev G C k (.bi "len" [.loc x]) ρ H=.ok (.int l.length) H:=by
 simp only[vk,bu,b6,aM,a,aB,bB,dB,dI,zy,gC,i5,bD,uZ,d3]
def UL{mk:T}(u:mk∈marks)(hc:a=2\/a=3\/a=4)(w:hs.length<1000)(L:HL W nn aa h ρ)(t:ρ.lookup "op"=O (iv (.bZ a mk)))(p:ρ.lookup "code"=O (.int a))(ù:Own (HC W nn hs acc K) H):HO (ae GG PP (d+1)) GG k W nn aa (P.fT aa (.bZ a mk) (hs,h)) acc K U ρ H:=by
 let è:=put "gives" (.lst (aj (P.arrow mk).2)) (put "takes" (.lst (aj (P.arrow mk).1)) ρ);haveI s:aA GG (ae GG PP (d+1)) k (.cC ["takes","gives"] (.call "_law_arrow" [.sub (.loc "op") (.n 1)])) ρ H=.ok (.next,è) H:=by
  simp only[wG,fE,bu,cg,aM,t];rw[show iv (.bZ a mk)=.tup [.int a,.int mk] from Z];simp only[aB,bB,fV,fU,cb,di,bD,e1,dB,b6,dI,tX u];rfl
 have m:HL W nn aa h è:=(L.put (by decide)).put (by decide);have g:è.lookup "takes"=O (.lst (aj (P.arrow mk).1)):=by show(put _ _ _).lookup _=_;exact aE (by kernel_rfl) bQ
 haveI A:è.lookup "gives"=O (.lst (aj (P.arrow mk).2)):=by show(put _ _ _).lookup _=_;exact bQ
 haveI q:è.lookup "code"=O (.int a):=by show(put _ _ _).lookup _=_;exact aE (by kernel_rfl) (aE (by kernel_rfl) p)
 haveI D:(a:T)∈[2,3,4]:=by simp only[a8,eA,hK];exact yC hc
 delta HO U;rw[JV p,dE D,hA,aU s];haveI y:ev GG (ae GG PP (d+1)) k (.ite (.cmp (.loc "code") .Eq (.n 4)) (.n 1) (.n 0)) è H=.ok (.int (if a=4 then 1 else 0)) H:=by
  simp only[gd,cZ,aM,q,aB,bB,eD,cb,dJ,d8];by_cases z:a=4
  ·rw[dE z,cB (Mm z)];rfl
  ·rw[dm z,a0 (Mn z)];rfl
 let é:=h.map λh=>h - ((P.arrow mk).1.length:T) - (if a=4 then 1 else 0);haveI à:=mu (x:="base") (t7 (G:=GG) (C:=ae GG PP (d+1)) (k:=k) (H:=H) (f:=λh=>h - ((P.arrow mk).1.length:T) - (if a=4 then 1 else 0)) (e:=.bin .Sub (.bin .Sub (.loc "high") (.bi "len" [.loc "takes"])) (.ite (.cmp (.loc "code") .Eq (.n 4)) (.n 1) (.n 0))) m.h (λi hi=>by
  rw[d0,d0,aM,hi];show(((ev GG (ae GG PP (d+1)) k (.bi "len" [.loc "takes"]) è H).bind _).bind _)=_;refine ah (vK g) ?_;show((ev GG (ae GG PP (d+1)) k _ è H).bind _)=_;rw[y];rfl))
 haveI o:=m.put (x:="base") (v:=hv é) (by decide);haveI l:(put "base" (hv é) è).lookup "base"=O (hv é):=bQ;haveI j:(put "base" (hv é) è).lookup "takes"=O (.lst (aj (P.arrow mk).1)):=aE (by kernel_rfl) g;haveI c:(put "base" (hv é) è).lookup "gives"=O (.lst (aj (P.arrow mk).2)):=aE (by kernel_rfl) A;haveI E:=rD (e:=.tup [.loc "base",.bi "len" [.loc "takes"],.bi "len" [.loc "gives"]]) (C:=ae GG PP (d+1)) (G:=GG) (k:=k) (ρ:=put "base" (hv é) è) (v:=pT (é,(P.arrow mk).1.length,(P.arrow mk).2.length)) o.f (by
  simp only[jn,bu,aM,l,aB,bB,dB,vK j,vK c];rfl) (ù.at (.head _)) (by rw[d3,eb];exact z2 w)
 haveI r:=mu (x:="high") (t7 (G:=GG) (C:=ae GG PP (d+1)) (k:=k) (H:=H.set W (.list (hs.reverse.map pT++[pT (é,(P.arrow mk).1.length,(P.arrow mk).2.length)]))) (f:=λb=>b+((P.arrow mk).1.length:T)) (e:=.bin .Add (.loc "base") (.bi "len" [.loc "takes"])) l (λi hi=>by
  simp only[d0,aM,hi];show((ev GG (ae GG PP (d+1)) k (.bi "len" [.loc "takes"]) _ _).bind _)=_;refine ah (vK j) ?_;rfl))
 refine bx _ _ ((aU à).trans ((aU E).trans ((aU r).trans fF))) (o.high Z) ?_;show Own ((W,.list (J.map pT ((é,((P.arrow mk).1.length:T),((P.arrow mk).2.length:T))::hs).reverse))::_) _;simp only[i7,l9];exact(ù.set [] (.list (hs.reverse.map pT++[pT (é,(P.arrow mk).1.length,(P.arrow mk).2.length)])))
def JX(c:(bz j=5/\s=(x::hs,x.1.map (·+x.2.1)))\/(bz j=11/\s=(hs,x.1.map (·+x.2.2))))(L:HL W nn aa h ρ)(b:ρ.lookup "code"=O (.int (bz j)))(à:Own (HC W nn (x::hs) acc K) H):HO C G k W nn aa s acc K U ρ H:=by
 have o:H[W]?=O (.list (hs.reverse.map pT++[pT x])):=by
  have:H[W]?=O (.list ((x::hs).reverse.map pT)):=à.at (.head _)
  rwa [i7,l9] at this
 haveI y:aA G C k (.cC ["base","many","more"] (.sub (.loc "frames") (.n (-1)))) ρ H=.ok (.next,put "more" (.int x.2.2) (put "many" (.int x.2.1) (put "base" (hv x.1) ρ))) H:=by
  simp only[wG,cg,aM,L.f,aB,bB,fV,cb,fU,di,bD,o,ru];rfl
 haveI m:HL W nn aa h (put "more" (.int x.2.2) (put "many" (.int x.2.1) (put "base" (hv x.1) ρ))):=((L.put (by decide)).put (by decide)).put (by decide);haveI e:(put "more" (.int x.2.2) (put "many" (.int x.2.1) (put "base" (hv x.1) ρ))).lookup "base"=O (hv x.1):=aE (by kernel_rfl) (aE (by kernel_rfl) bQ);haveI l:(put "more" (.int x.2.2) (put "many" (.int x.2.1) (put "base" (hv x.1) ρ))).lookup "many"=O (.int x.2.1):=aE (by kernel_rfl) bQ;haveI g:(put "more" (.int x.2.2) (put "many" (.int x.2.1) (put "base" (hv x.1) ρ))).lookup "more"=O (.int x.2.2):=bQ;haveI d:(put "more" (.int x.2.2) (put "many" (.int x.2.1) (put "base" (hv x.1) ρ))).lookup "code"=O (.int (bz j)):=aE (by kernel_rfl) (aE (by kernel_rfl) (aE (by kernel_rfl) b));haveI r:bz j∉[2,3,4]:=by refine eE c (λz=>?_) λz=>?_<;>rw[z.1]<;>exact qe Z
 haveI u:bz j∈[5,11]:=by refine eE c (λz=>?_) λz=>?_<;>refine ah z.1 ?_<;>exact gb Z
 haveI st:aA G C k U ρ H=execs G C k hB ρ H:=by
  rw[U,JV b,dm r];exact(wZ.trans (by rw[V,UK b,dE u];cases execs G C k hB ρ H with | ok p H'=>obtain⟨f,è⟩:=p;cases f<;>rfl | bH=>rfl | bad=>rfl))
 delta HO;refine ah st ?_;rw[hB,aU y];generalize put "more" (.int x.2.2) (put "many" (.int x.2.1) (put "base" (hv x.1) ρ))=é at m e l g d;haveI q:∀{i:T},é.lookup "base"=O (.int i)->ev G C k (.bin .Add (.loc "base") (.ite (.cmp (.loc "code") .Eq (.n 5)) (.loc "many") (.loc "more"))) é H=.ok (.int (i+if bz j=5 then x.2.1 else x.2.2)) H:=by
  intro i hi;haveI t:ev G C k (.ite (.cmp (.loc "code") .Eq (.n 5)) (.loc "many") (.loc "more")) é H=.ok (.int (if bz j=5 then x.2.1 else x.2.2)) H:=by
   simp only[gd,cZ,aM,d,aB,bB,eD,cb,dJ,d8];by_cases z:bz j=5
   ·rw[dE z,cB z];show ev G C k (.loc "many") é H=_;simp only[aM,l];rfl
   ·rw[dm z,a0 z];show ev G C k (.loc "more") é H=_;simp only[aM,g];rfl
  simp only[d0,aM,hi];show((ev G C k _ é H).bind _)=_;refine ah t ?_;rfl
 haveI w:=mu (x:="high") (t7 (f:=λi=>i+if bz j=5 then x.2.1 else x.2.2) e λi hi=>q hi);rw[aU w,wZ,de,cZ,aM,(aE (by kernel_rfl) d)];haveI a:=m.high (v:=hv (x.1.map λi=>i+if bz j=5 then x.2.1 else x.2.2)) Z;rcases c with⟨z,rfl⟩ | ⟨z,rfl⟩
 ·rw[z] at a ⊢;exact bx _ _ Z a à
 ·rw[z] at a ⊢;refine bx _ _ ?_ a (à.set [] (.list (hs.reverse.map pT)));show((execs G C k [_] _ H).bind _)=_;refine ah (kD (gc a.f o)) ?_;rfl
inductive OpK (aa:J T)(o:P.Op):Prop where
 | dead (a:decide (bz (.op o)∈[0,12,14,15])=X) (e:∀hs h,P.fT aa (.op o) (hs,h)=(hs,Q))
 | small (δ:T) (a:decide (bz (.op o)∈[0,12,14,15])=aN) (b:decide (bz (.op o)∈[13,26,27,209])=X) (c:dictAt [13,26,27,209] [.int (-1),.int (-1),.int (-2),.int 0] (bz (.op o))=O (.int δ)) (e:∀hs h,P.fT aa (.op o) (hs,h)=(hs,h.map (·+δ)))
 | big (t g:J T) (a:decide (bz (.op o)∈[0,12,14,15])=aN) (b:decide (bz (.op o)∈[13,26,27,209])=aN) (c:P.fixed aa o=O (t,g)) (e:∀hs h,P.fT aa (.op o) (hs,h)=(hs,h.map λh=>h+((g.length:T) - (t.length:T))))
def LM(o:P.Op):OpK aa o:=by
 cases o with| cP=>exact .dead (.refl X) λd d=>Z| br l=>exact .dead (.refl X) λd d=>Z| f9 a b c=>exact .dead (.refl X) λd d=>Z| ret=>exact .dead (.refl X) λd d=>Z| gr l=>exact .small (-1) (.refl aN) (.refl X) (.refl (O (AV.int (-1)))) λd d=>Z| drop=>exact .small (-1) (.refl aN) (.refl X) (.refl (O (AV.int (-1)))) λd d=>Z| sel=>exact .small (-2) (.refl aN) (.refl X) (.refl (O (AV.int (-2)))) λd d=>Z| dK=>exact .small 0 (.refl aN) (.refl X) (.refl (O (AV.int 0))) λd d=>Z| _=>exact .big _ _ (.refl aN) (.refl aN) Z λd d=>Z
def abY(w:mR aa n o)(L:HL W nn aa h ρ)(A:ρ.lookup "op"=O (iv (.op o)))(j:ρ.lookup "code"=O (.int (bz (.op o))))(è:Own (HC W nn hs acc K) H):HO (ae GG PP (d+1)) GG k W nn aa (P.fT aa (.op o) (hs,h)) acc K U ρ H:=by
 have q:=λF (t:Facts F)=>Facts.v j (.c (a0 (jW o).2) (.d (.v j (.c (a0 (jW o).1) (.d (.v j t))))));have dead:decide (bz (.op o)∈[0,12,14,15])=X->HO (ae GG PP (d+1)) GG k W nn aa (hs,Q) acc K U ρ H:=λz=>
  ⟨_,H,lq (q _ (.c z (.d .nil))) (by kernel_rfl),L.high Z,è⟩
 have no:h=Q->decide (bz (.op o)∈[0,12,14,15])=aN->HO (ae GG PP (d+1)) GG k W nn aa (hs,h) acc K U ρ H:=λz f=>
  ⟨ρ,H,lq (q _ (.c f (.d (.v (L.h.trans (cx (λz=>O (hv z)) z)) (.d (.d (.d (.v (L.h.trans (cx (λz=>O (hv z)) z)) (.d (.d .nil)))))))))) (by kernel_rfl),L,è⟩
 have small:∀{p:T},eo (bz (.op o)∈[0,12,14,15])=aN->decide (bz (.op o)∈[13,26,27,209])=X->dictAt [13,26,27,209] [.int (-1),.int (-1),.int (-2),.int 0] (bz (.op o))=O (.int p)->HO (ae GG PP (d+1)) GG k W nn aa (hs,h.map (·+p)) acc K U ρ H:=by
  intro p f z4 u;cases z:h with
  | none=>have:=no z f;rw[z] at this;exact this
  | some i=>
   haveI m:=L.h.trans (cx (λz=>O (hv z)) z);exact bx (put "high" (.int (i+p)) ρ) H (lq (q _ (.c f (.d (.v m (.d (.d (.v j (.c z4 (.d (.d (.v m (.v j (.r (show JJ [13,26,27,209] [.int (-1),.int (-1),.int (-2),.int 0] (.int (bz (.op o))) H=.ok (.int p) H from cx (opt · H) u) .nil))))))))))))) (by kernel_rfl)) (L.high Z) è
 have big:∀{t g:J T},eo (bz (.op o)∈[0,12,14,15])=aN->decide (bz (.op o)∈[13,26,27,209])=aN->P.fixed aa o=O (t,g)->HO (ae GG PP (d+1)) GG k W nn aa (hs,h.map λh=>h+((g.length:T) - (t.length:T))) acc K U ρ H:=by
  intro t g f é x;cases z:h with
  | none=>have:=no z f;rw[z] at this;exact this
  | some i=>
   haveI m:=L.h.trans (cx (λz=>O (hv z)) z);haveI s:∀l:J T,gC H "len" [.lst (aj l.reverse)]=O (.int l.length):=λl=>cx (λn:S=>O (AV.int n)) (by rw[d3,eb]);haveI l1:(put "gives" (.lst (aj g.reverse)) (put "takes" (.lst (aj t.reverse)) ρ)).lookup "high"=_:=aE (by kernel_rfl) (aE (by kernel_rfl) m);haveI l2:(put "gives" (.lst (aj g.reverse)) (put "takes" (.lst (aj t.reverse)) ρ)).lookup "gives"=_:=bQ;haveI y:(put "gives" (.lst (aj g.reverse)) (put "takes" (.lst (aj t.reverse)) ρ)).lookup "takes"=_:=aE (by kernel_rfl) bQ;exact bx (put "high" (.int (i+((g.length:T) - (t.length:T)))) (put "gives" (.lst (aj g.reverse)) (put "takes" (.lst (aj t.reverse)) ρ))) H
    (lq (q _ (.c f (.d (.v m (.d (.d (.v j (.c é (.d (.d (.v m (.d (.d (.v A (.v L.p (.r (Aa (d:=d) (H:=H) x w) (.v l1 (.v l2 (.v (s g) (.v y (.v (s t) .nil))))))))))))))))))))) (by kernel_rfl)) (((L.put (by decide)).put (by decide)).high Z) è
 cases LM (aa:=aa) o with| dead a e=>rw[e];exact dead a| small p a b c e=>rw[e];exact small a b c| big t g a b c e=>rw[e];exact big a b c
end
section
variable{d k n y W:S}{K:J (S×AO)}{H:Hp}{C:CS}{G:a7->aI AV}{ρ:Loc}{aa:J T}{st:J S}{h:aI T}{hs:J P.HF}{acc:J AV}{c:T}
def Qb(d:acc.length<1000)(L:HL y W aa h ρ)(p:Own (HC y W hs acc K) H)(step:∀{ρ:Loc}{H:Hp},HL y W aa h ρ->ρ.lookup "op"=O (iv j)->ρ.lookup "code"=O (.int (bz j))->Own (HC y W hs (acc++[hv h]) K) H->HO C G k y W aa s (acc++[hv h]) K U ρ H):∃i m,execs G C k so (put "op" (iv j) ρ) H=.ok (.next,i) m/\HL y W aa s.2 i/\Own (HC y W s.1 (acc++[hv h]) K) m:=by
 haveI a:=L.put (x:="op") (v:=iv j) (by decide);refine aH (lG j) λt f=>?_;haveI c:aA G C k (.asg "code" (.sub (.loc "op") (.n 0))) (put "op" (iv j) ρ) (H.set W (.list (acc++[hv h])))=.ok (.next,put "code" (.int (bz j)) (put "op" (iv j) ρ)) (H.set W (.list (acc++[hv h]))):=
  mu (by simp only[cg,aM,bQ,f];rfl)
 exact bV (step (a.put (x:="code") (v:=.int (bz j)) (by decide)) (aE (by kernel_rfl) bQ) (bQ) (p.set [(y,.list (hs.reverse.map pT))] (.list (acc++[hv h])))) λi m e g b=>bx i m ((aU (rD (C:=C) (G:=G) (k:=k) (e:=.loc "high") (v:=hv h) a.n (by simp only[aM,a.h];rfl) (p.at (.tail _ (.head _))) (by delta aZ;exact z2 d))).trans ((aU c).trans (kD e))) g b
theorem Aq:∀(is:J P.I) {st:J S}{hs:J P.HF}{h:aI T}{acc:J AV}{ρ:Loc}{H:Hp},LW aa st is->(is≠[]->hs.length=st.length+1)->hs.length+is.length<1000->acc.length+is.length<1000->HL y W aa h ρ->Own (HC y W hs acc K) H->
  ∃è H' dY,c0 GG (ae GG PP (d+1)) k so (.one "op") (is.map iv) ρ H=.ok (.next,è) H'/\è.lookup "found"=O (.obj W)/\Own (HC y W dY (acc++(P.ng aa is (hs,h)).map hv) K) H'
 | [],st,hs,h,acc,ρ,H,_,_,_,_,L,ù=>⟨ρ,H,hs,Z,L.n,by rw[show P.ng aa [] (hs,h)=[] from Z,RV,hP];exact ù⟩
 | j::is,st,hs,h,acc,ρ,H,w,Wd,uH,Bq,L,ù=>by
  haveI a:=Wd (yj _ _);clear Wd;simp only[ff] at uH Bq;have step:∀{ρ:Loc}{H:Hp},HL y W aa h ρ->ρ.lookup "op"=O (iv j)->ρ.lookup "code"=O (.int (bz j))->Own (HC y W hs (acc++[hv h]) K) H->HO (ae GG PP (d+1)) GG k y W aa (P.fT aa j (hs,h)) (acc++[hv h]) K U ρ H:=by
   intro ρ H L l hc ù;cases j with
   | op o=>exact abY w.1 L l hc ù
   | bZ i mk=>exact UL w.2.1 w.1 (Bg uH) L l hc ù
   | cE=>
    cases hs with
    | nil=>exact nomatch a
    | cons x hs=>exact JX (j:=.cE) (.inl ⟨Z,Z⟩) L hc ù
   | fin=>
    cases hs with
    | nil=>exact nomatch a
    | cons x hs=>exact JX (j:=.fin) (.inr ⟨Z,Z⟩) L hc ù
  refine bV (Qb (by exact Bg Bq) L ù step) λà H1 e1 p m=>?_;have r:∃f,LW aa f is/\(is≠[]->(P.fT aa j (hs,h)).1.length=f.length+1)/\(P.fT aa j (hs,h)).1.length<=hs.length+1:=by
   clear step m p e1;cases j with
   | op o=>exact dQ st w.2 (λe=>a) (o7 _)
   | bZ i mk=>exact dQ (i::st) w.2.2.2 (λe=>cx (·+1) a) (gk _)
   | cE=>
    cases st with| nil=>exact w.elim| cons c st=>exact dQ (5::st) w.2 (λe=>a) (o7 _)
   | fin=>
    haveI é:(P.fT aa .fin (hs,h)).1.length<=hs.length+1:=by show hs.tail.length<=_;exact(S1)▸X0
    cases st with
    | nil=>exact dQ [] (by rw[show is=[] from w];trivial) (λz=>hQ w z) é
    | cons c st=>exact dQ st w (λe=>by show hs.tail.length=_;rw[S1,a];rfl) é
  refine cR r λf q t é=>?_;refine gA (Aq is q t (MG uH é) (by refine ah a9 ?_;exact Bf Bq) p m) λs H2 b u v g=>?_;refine vO s H2 b ?_ v ?_
  ·rw[show(j::is).map iv=iv j::is.map iv from Z,fW Z,e1];exact u
  ·rw[fJ] at g;exact g
def DP:PP "_law_heights"=O hY:=Z
def Qc{m:J P.I}(w:LW aa [] m)(b:m.length<900):∃x,ae GG PP (d+2) "_law_heights" [.lst (m.map iv),.lst (aj Ks),.lst (aj aa)] H=.ok (.lst ((P.ng aa m ([(O 0,0,(Ks.length:T))],O 0)).map hv)) x:=by
 let a:Loc:=[("body",.lst (m.map iv)),("results",.lst (aj Ks)),("places",.lst (aj aa)),("frames",.obj H.length),("high",.int 0),("found",.obj (H++[AO.list [.tup [.int 0,.int 0,.int Ks.length]]]).length)];refine gA (Aq (d:=d) (k:=5) m (h:=O 0) (ρ:=a) w (λj=>Z) (by show 1+_<1000;exact X4 b) (by show 0+_<1000;exact X5 b) ⟨Z,Z,Z,Z⟩ ((((show Own [] H from⟨xd,nofun⟩).new _).new (.list [])).perm (.swap _ _ _):Own (HC H.length (H++[AO.list [.tup [.int 0,.int 0,.int Ks.length]]]).length [(O 0,0,(Ks.length:T))] [] []) ((H++[AO.list [.tup [.int 0,.int 0,.int Ks.length]]])++[AO.list []]))) λp s c e1 f e=>?_;refine bq (s.set (H++[AO.list [.tup [.int 0,.int 0,.int Ks.length]]]).length .dead) ?_;refine ah (aY DP (by decide) Z) ?_;haveI i:aA GG (ae GG PP (d+1)) cu (.cC ["frames","high","found"] (.tup [.list aN [.tup [.n 0,.n 0,.bi "len" [.loc "results"]]],.n 0,.list aN []])) (hY.params.zip [.lst (m.map iv),.lst (aj Ks),.lst (aj aa)]) H=.ok (.next,a) ((H++[AO.list [.tup [.int 0,.int 0,.int Ks.length]]])++[AO.list []]):=by
  haveI q:(QD (aj Ks):T)=Ks.length:=by rw[d3]
  haveI e0:aA GG (ae GG PP (d+1)) cu (.cC ["frames","high","found"] (.tup [.list aN [.tup [.n 0,.n 0,.bi "len" [.loc "results"]]],.n 0,.list aN []])) (hY.params.zip [.lst (m.map iv),.lst (aj Ks),.lst (aj aa)]) H=.ok (.next,[("body",.lst (m.map iv)),("results",.lst (aj Ks)),("places",.lst (aj aa)),("frames",.obj H.length),("high",.int 0),("found",.obj (H++[AO.list [.tup [.int 0,.int 0,.int (aj Ks).length]]]).length)]) ((H++[AO.list [.tup [.int 0,.int 0,.int (aj Ks).length]]])++[AO.list []]):=by kernel_rfl!
  rw[e0,q]
 haveI z:aA GG (ae GG PP (d+1)) cu (.cJ (.one "op") (.seq (.loc "body")) so) a ((H++[AO.list [.tup [.int 0,.int 0,.int Ks.length]]])++[AO.list []])=.ok (.next,p) s:=by
  exact e1
 haveI g:execs GG (ae GG PP (d+1)) cu [.ret (.freeze (.loc "found"))] p s=.ok (.ret (.lst ((P.ng aa m ([(O 0,0,(Ks.length:T))],O 0)).map hv)),p) (s.set (H++[AO.list [.tup [.int 0,.int 0,.int Ks.length]]]).length .dead):=by
  exact eL (.v f (.r (rt (e.at (.tail _ (.head _)))) .nil)) (by kernel_rfl)
 rw[show hY.body=[.cC ["frames","high","found"] (.tup [.list aN [.tup [.n 0,.n 0,.bi "len" [.loc "results"]]],.n 0,.list aN []]),.cJ (.one "op") (.seq (.loc "body")) so,.ret (.freeze (.loc "found"))] from Z,aU i,aU z,g];rfl
end
section
variable{d k n no:S}{K:J (S×AO)}{H:Hp}{C:CS}{G:a7->aI AV}{ρ:Loc}{aa:J T}{st:J S}
theorem Ar:∀{is:J P.I}{st:J S},LW aa st is->∀c m,P.I.bZ c m∈is->c=2\/c=3\/c=4
 | .op o::is,st,w,c,m,h=>by refine eE (a8.mp h) (λz=>?_) λz=>?_;cases z;exact Ar w.2 c m z
 | .bZ g i::is,st,w,c,m,h=>by
  refine eE (a8.mp h) (λz=>?_) λz=>?_
  ·try clear h
   injection z with z e;subst z e;exact w.1
  ·exact Ar w.2.2.2 c m z
 | .cE::is,[],w,c,m,h=>w.elim
 | .cE::is,_::st,w,c,m,h=>by refine eE (a8.mp h) (λz=>?_) λz=>?_;cases z;exact Ar w.2 c m z
 | .fin::is,[],w,c,m,h=>by
  refine eE (a8.mp h) (λz=>?_) λz=>?_
  ·clear h;injection z
  ·rw[show is=[] from w] at z;cases z
 | .fin::is,_::st,w,c,m,h=>by refine eE (a8.mp h) (λz=>?_) λz=>?_;cases z;exact Ar (is:=is) w c m z
def yw:J MS:=[.iff (.cmp (.sub (.loc "op") (.n 0)) .In (.tup [.n 2,.n 3,.n 4])) [.expr (.aK (.loc "opened") "append" [.sub (.loc "op") (.n 0)])] [.iff (.cmp (.sub (.loc "op") (.n 0)) .Eq (.n 5)) [.gp (.loc "opened") (.n (-1)) (.n 5)] [.iff (.cmp (.sub (.loc "op") (.n 0)) .Eq (.n 11)) [.expr (.aK (.loc "opened") "pop" [])] []]]]
def DQ(a:ρ.lookup "op"=O (iv i)):ev G C k (.cmp (.sub (.loc "op") (.n 0)) .In (.tup [.n 2,.n 3,.n 4])) ρ H=.ok (.bool (eo (bz i∈[2,3,4]))) H:=by
 refine aH (lG i) λt hc=>?_;simp only[cZ,cg,aM,a,hc];simp only[aB,bB,fV,fU,cb,di,bD,e0,eD,dJ,jn,bu,b6,dB,dI,nh,zR,i5,sW,me]
def As{c:T}(a:ρ.lookup "op"=O (iv i)):ev G C k (.cmp (.sub (.loc "op") (.n 0)) .Eq (.lit (.int c))) ρ H=.ok (.bool (eo (bz i=c))) H:=by
 refine aH (lG i) λt hc=>?_;simp only[cZ,cg,aM,a,hc];simp only[aB,bB,fV,fU,cb,di,bD,e0,eD,dJ,d8,me]
def w0(a:ev G C k t ρ H=.ok (.bool X) H)(hA:execs G C k A ρ H=.ok (.next,e) g):execs G C k [.iff t A h] ρ H=.ok (.next,e) g:=kD (by simp only[de,a];exact hA)
def oq(a:ev G C k t ρ H=.ok (.bool aN) H)(hB:execs G C k h ρ H=.ok (.next,e) g):execs G C k [.iff t A h] ρ H=.ok (.next,e) g:=kD (by simp only[de,a];exact hB)
def Qd{p:J S}(hi:∀c m,i=.bZ c m->c=2\/c=3\/c=4)(q:P.dM [i] st=O p)(h:st.length<1000)(b:ρ.lookup "op"=O (iv i))(g:ρ.lookup "opened"=O (.obj no))(x:Own ((no,.list (ops st))::K) H):∃s,execs G C k yw ρ H=.ok (.next,ρ) s/\Own ((no,.list (ops p))::K) s:=by
 have d:H[no]?=O (.list (ops st)):=x.at (.head _);cases i with
 | op o=>
  injection q with q;subst q
  haveI f:=(jW o).1;simp only[a8,eA,hK,A0] at f;exact ay H (oq ((DQ b).trans (ah (a0 ((jW o).2)) Z)) (oq ((As b).trans (by rw[a0 f.1])) (oq ((As b).trans (ah (a0 f.2) Z)) fF))) x
 | bZ c m=>
  haveI hc:=hi c m Z;haveI e:p=c::st:=by
   have:(if c=5 then Q else O (c::st))=O p:=q;rw[dm (IU hc)] at this;exact(gf this).symm
  clear q;subst e;haveI j:bz (.bZ c m)∈[2,3,4]:=by show(c:T)∈_;simp only[a8,eA,hK];exact yC hc
  haveI a:=rD (C:=C) (G:=G) (k:=k) (e:=.sub (.loc "op") (.n 0)) (v:=.int c) g (by simp only[cg,aM,b];rfl) d (ah om (z2 h));rw[<-gN] at a;exact ay _ (w0 ((DQ b).trans (by rw[cB j])) (kD a)) (x.set [] _)
 | cE=>
  cases st with
  | nil=>injection q
  | cons c st=>
   haveI hc:(if c=4 then O (5::st) else Q)=O p:=q;have e:p=5::st:=by
    by_cases z:c=4
    ·rw[dE z] at hc;exact(gf hc).symm
    ·cases(hc.symm.trans (dm z))
   clear hc q;subst e;rw[gN] at d;haveI a:=Cm (C:=C) (G:=G) (k:=k) (w:=.int ((5:S):T)) g d;exact ay _ (oq ((DQ b).trans Z) (w0 ((As b).trans Z) (kD ((gN).symm▸a)))) (x.set [] _)
 | fin=>
  cases st with
  | nil=>injection q
  | cons c st=>
   injection q with q;subst q
   rw[gN] at d;exact ay _ (oq ((DQ b).trans Z) (oq ((As b).trans Z) (w0 ((As b).trans Z) (kD (gc g d))))) (x.set [] _)
def Au(h:P.dM (i::g) st=O e):∃j,P.dM [i] st=O j/\P.dM g j=O e/\j.length<=st.length+1:=by
 cases i with
 | op o=>exact dQ st Z h (o7 _)
 | bZ c m=>
  haveI h:(if c=5 then Q else P.dM g (c::st))=O e:=h;by_cases z:c=5
  ·rw[dE z] at h;injection h
  ·rw[dm z] at h;exact dQ (c::st) (dm z) h (gk _)
 | cE=>
  cases st with
  | nil=>injection h
  | cons c st=>
   haveI h:(if c=4 then P.dM g (5::st) else Q)=O e:=h;by_cases z:c=4
   ·rw[dE z] at h;exact dQ (5::st) (dE z) h (o7 _)
   ·rw[dm z] at h;injection h
 | fin=>
  cases st with| nil=>injection h| cons c st=>exact dQ st Z h (p3 (o7 _))
structure SL (no:S)(vb vm:AV)(ρ:Loc):Prop where
 b:ρ.lookup "body"=O vb
 m:ρ.lookup "many"=O vm
 o:ρ.lookup "opened"=O (.obj no)
theorem Fy{vb vm:AV}:∀(s:J P.I) {st p:J S}{ρ:Loc}{H:Hp},(∀c m,P.I.bZ c m∈s->c=2\/c=3\/c=4)->P.dM s st=O p->st.length+s.length<1000->SL no vb vm ρ->Own ((no,.list (ops st))::K) H->
  ∃x W,c0 G C k yw (.one "op") (s.map iv) ρ H=.ok (.next,x) W/\SL no vb vm x/\Own ((no,.list (ops p))::K) W/\p.length<=st.length+s.length
 | [],st,p,ρ,H,_,y,_,L,é=>by injection y with y;subst y;exact hG ρ H Z L é (gk _)
 | i::s,st,p,ρ,H,hc,y,hl,L,é=>by
  refine cR (Au y) λj e1 g l1=>?_;haveI q:(put "op" (iv i) ρ).lookup "op"=O (iv i):=bQ;have a:SL no vb vm (put "op" (iv i) ρ):=⟨aE (by kernel_rfl) L.b,aE (by kernel_rfl) L.m,jr▸L.o⟩;refine ak (Qd (G:=G) (C:=C) (k:=k) (λc m z=>hc c m (z▸.head _)) e1 (Bg hl) q a.o é) λH1 U f=>eP (Fy s (λc m z=>hc c m (.tail _ z)) g (MG hl l1) a f) λe H2 V h d l2=>?_;exact hG e H2 (by refine ah (show(i::s).map iv=iv i::s.map iv from Z) ?_;refine ah (fW Z) ?_;refine ah U ?_;exact V) h d (ah ff (MH l1 l2))
noncomputable def yx:J MS:=[.asg "found" (.bin .Add (.bin .Add (.loc "found") (.ite (.cmp (.loc "code") .Eq (.n 4)) (.list X [.tup [.n 5],.tup [.n 0]]) (.list X []))) (.list X [.tup [.n 11],.tup [.n 0]]))]
theorem sq{b:J P.I}(h:a.length+b.length<10000):cK .Add (.lst (a.map iv)) (.lst (b.map iv))=O (.lst ((a++b).map iv)):=by
 refine ah l9 ?_;exact add_l (by simp only[a9,d3];exact X1 h)
theorem Fz:∀(st:J S) {f:J P.I}{ρ:Loc}{H:Hp},f.length+4*st.length<5000->ρ.lookup "found"=O (.lst (f.map iv))->
  ∃i,c0 G C k yx (.one "code") (st.map λc:S=>.int c) ρ H=.ok (.next,i) H/\i.lookup "found"=O (.lst ((f++P.hU st).map iv))
 | [],f,ρ,H,_,h=>⟨ρ,Z,by simp only[show P.hU []=[] from Z,hP];exact h⟩
 | c::st,f,ρ,H,j,h=>by
  haveI g:ev G C k (.ite (.cmp (.loc "code") .Eq (.n 4)) (.list X [.tup [.n 5],.tup [.n 0]]) (.list X [])) (put "code" (.int c) ρ) H=.ok (.lst ((if c=4 then[P.I.cE,.op .cP] else[]).map iv)) H:=by
   simp only[gd,cZ,aM,bQ];show(((opt (bf H .Eq (.int c) (.int 4)) H).bind me).bind _)=_;refine ah ((d8 _ _).1) ?_;by_cases z:c=4
   ·refine ah (dE z) ?_;refine ah (cB (Mm z)) ?_;rfl
   ·refine ah (dm z) ?_;rw[a0 (Mn z)];rfl
  haveI m:(if c=4 then[P.I.cE,.op .cP] else[]).length<=2:=by by_cases z:c=4<;>simp only[z]<;>decide
  haveI d:ev G C k (.list X [.tup [.n 11],.tup [.n 0]]) (put "code" (.int c) ρ) H=.ok (.lst ([P.I.fin,.op .cP].map iv)) H:=Z;have e:execs G C k yx (put "code" (.int c) ρ) H=.ok (.next,put "found" (.lst (((f++if c=4 then[P.I.cE,.op .cP] else[])++[P.I.fin,.op .cP]).map iv)) (put "code" (.int c) ρ)) H:=by
   refine kD (mu ?_);refine ah d0 ?_;rw[d0,aM,(aE (by kernel_rfl) h)];simp only[aB,bB,gS,g,gy,(sq (a:=f) (b:=if c=4 then[P.I.cE,.op .cP] else[]) (X2 j m)),d,(sq (a:=f++if c=4 then[P.I.cE,.op .cP] else[]) (b:=[P.I.fin,.op .cP]) (by refine ah a9 ?_;exact X3 j m))]
  refine ak (Fz st (f:=(f++if c=4 then[P.I.cE,.op .cP] else[])++[P.I.fin,.op .cP]) (ρ:=put "found" (.lst (((f++if c=4 then[P.I.cE,.op .cP] else[])++[P.I.fin,.op .cP]).map iv)) (put "code" (.int c) ρ)) (H:=H) (by refine ah a9 ?_;refine ah a9 ?_;exact X6 j m) (bQ)) λi h4 h5=>?_;refine ay i ?_ ?_
  ·refine ah (show(c::st).map (λc:S=>AV.int c)=.int c::st.map (λc:S=>AV.int c) from Z) ?_;rw[fW Z,e];exact h4
  ·simp only[h5,show P.hU (c::st)=(if c=4 then[.cE,.op .cP] else[])++[.fin,.op .cP]++P.hU st from Z];simp only[fJ]
theorem t8:∀st:J S,(P.hU st).length<=4*st.length
 | []=>gk _
 | c::st=>by
  refine ah a9 (ah a9 ?_);have:(if c=4 then[P.I.cE,.op .cP] else[]).length<=2:=by by_cases z:c=4<;>simp only[z]<;>decide
  exact X7 (t8 st) this
def FA:PP "_law_sealed"=O ey:=Z
def xX(è:P.wf [] L)(w:LW aa [] L)(g:L.length<100)(x:n<=L.length):∃H',ae GG PP (d+1) "_law_sealed" [.lst (L.map iv),.int n] H=.ok (.lst ((P.sealed L n).map iv)) H':=by
 haveI é:ev GG (ae GG PP d) cu (.cmp (.loc "many") .Eq (.bi "len" [.loc "body"])) (ey.params.zip [.lst (L.map iv),.int n]) H=.ok (.bool (eo (n=L.length))) H:=by
  haveI e0:ev GG (ae GG PP d) cu (.cmp (.loc "many") .Eq (.bi "len" [.loc "body"])) (ey.params.zip [.lst (L.map iv),.int n]) H=.ok (.bool (eo ((n:T)=((L.map iv).length:T)))) H:=Z;rw[e0,d3,o2.mpr (show(n:T)=(L.length:T)↔n=L.length by exact X9)]
 haveI hb:ey.body=.iff (.cmp (.loc "many") .Eq (.bi "len" [.loc "body"])) [.ret (.loc "body")] []::ey.body.drop 1:=Z;refine ah (aY FA (by decide) Z) ?_;rw[hb,bc,de,é,bB];by_cases f:n=L.length
 ·rw[cB f,show P.sealed L n=L from dE f];exact bq H Z
 ·rw[a0 f];refine ak (P.iT è (A6 x f)) λst hs F=>?_;haveI es:P.sealed L n=L.take n++[.op .cP]++P.hU st++[.fin]:=by delta P.sealed;rw[dm f,hs];rfl
  let i:Loc:=[("body",.lst (L.map iv)),("many",.int n),("opened",.obj H.length)];haveI lt:(L.take n).length<=L.length:=by refine ah x2 ?_;exact Yc
  refine eP (Fy (G:=GG) (C:=ae GG PP d) (k:=5) (no:=H.length) (vb:=.lst (L.map iv)) (vm:=.int n) (L.take n) (ρ:=i) (λc m z=>Ar w c m (Jz z)) hs (by show 0+_<1000;exact Yd g lt) ⟨Z,Z,Z⟩ ((show Own [] H from⟨xd,nofun⟩).new (.list []))) λW H1 U j r l1=>?_;have up:∀{k:S}{ρ:Loc}{H:Hp},ρ.lookup "body"=O (.lst (L.map iv))->ρ.lookup "many"=O (.int n)->ev GG (ae GG PP d) k (.hR (.loc "body") (.loc "many")) ρ H=.ok (.lst ((L.take n).map iv)) H:=by
   intro k ρ H hb y;haveI hc:(0:T)<=n/\(L.map iv).length<=aZ:=⟨Ye,by rw[d3];exact MJ g⟩;simp only[KV,aM,hb,y,aB,bB,Hj,Ds,dE hc,mG,J.map_take]
  haveI E:aA GG (ae GG PP d) cu (.asg "opened" (.list aN [])) (ey.params.zip [.lst (L.map iv),.int n]) H=.ok (.next,i) (H++[AO.list []]):=Z;haveI s2:aA GG (ae GG PP d) cu (.cJ (.one "op") (.seq (.hR (.loc "body") (.loc "many"))) yw) i (H++[AO.list []])=.ok (.next,W) H1:=by
   refine ah (show cu=5+1 from Z) ?_;rw[rg,BQ,up Z Z,bB,Dz,frozen,aB,bB,kFor];exact U
  let e:=L.take n++[P.I.op .cP];haveI p:e.length<=L.length+1:=by show(L.take n++[_]).length<=_;exact ah a9 (Rc lt 1)
  haveI s:aA GG (ae GG PP d) cu (.asg "found" (.bin .Add (.hR (.loc "body") (.loc "many")) (.list X [.tup [.n 0]]))) W H1=.ok (.next,put "found" (.lst (e.map iv)) W) H1:=by
   refine mu ?_;haveI u:=sq (a:=L.take n) (b:=[.op .cP]) (by show _+1<_;exact Yg g lt);haveI l:ev GG (ae GG PP d) cu (.list X [.tup [.n 0]]) W H1=.ok (.lst ([P.I.op .cP].map iv)) H1:=Z;simp only[d0,up j.b j.m];simp only[bB,gS,l,gy,u];rfl
  haveI q:(put "found" (.lst (e.map iv)) W).lookup "found"=O (.lst (e.map iv)):=bQ;refine ak (Fz (G:=GG) (C:=ae GG PP d) (k:=5) st (H:=H1.set H.length .dead) (Yi g lt l1 p) q) λh V D=>?_;haveI v:aA GG (ae GG PP d) cu (.cJ (.one "code") (.rev (.freeze (.loc "opened"))) yx) (put "found" (.lst (e.map iv)) W) H1=.ok (.next,h) (H1.set H.length .dead):=by
   refine ah (show cu=5+1 from Z) ?_;refine ah rg ?_;rw[wH,xN,aM,(aE (by kernel_rfl) j.o),aB,bB];haveI A:(ops st).reverse=st.map λc:S=>AV.int c:=by delta ops;rw[<-s7,hC]
   simp only[wB,nA,(r.at (.head _)),cW,bB,zF,dR,uZ,A];exact V
  haveI ls:=t8 st;haveI t:execs GG (ae GG PP d) cu [.ret (.bin .Add (.loc "found") (.list X [.tup [.n 11]]))] h (H1.set H.length .dead)=.ok (.ret (.lst ((P.sealed L n).map iv)),h) (H1.set H.length .dead):=by
   haveI l:ev GG (ae GG PP d) cu (.list X [.tup [.n 11]]) h (H1.set H.length .dead)=.ok (.lst ([P.I.fin].map iv)) (H1.set H.length .dead):=Z;refine Ak ?_;simp only[d0,aM,D,es];simp only[aB,bB,gS,l,gy,(sq (a:=e++P.hU st) (b:=[.fin]) (by refine ah a9 ?_;exact Yj g lt l1 p ls))];rfl
  refine bq (H1.set H.length .dead) ?_;show(execs GG (ae GG PP d) cu (ey.body.drop 1) _ H).bind _=_;rw[show ey.body.drop 1=[.asg "opened" (.list aN []),.cJ (.one "op") (.seq (.hR (.loc "body") (.loc "many"))) yw,.asg "found" (.bin .Add (.hR (.loc "body") (.loc "many")) (.list X [.tup [.n 0]])),.cJ (.one "code") (.rev (.freeze (.loc "opened"))) yx,.ret (.bin .Add (.loc "found") (.list X [.tup [.n 11]]))] from Z,aU E,aU s2,aU s,aU v,t];rfl
theorem kE:∀{a b i:J P.I}{st e:J S},LW aa st (a++b)->b≠[]->P.dM a st=O e->LW aa e i->LW aa st (a++i)
 | [],b,i,st,e,_,_,g,h=>by injection g with g;subst g;exact h
 | .op o::a,b,i,st,e,w,hb,g,h=>⟨w.1,kE (a:=a) w.2 hb g h⟩
 | .bZ c m::a,b,i,st,e,w,hb,g,h=>by
  haveI g:(if c=5 then Q else P.dM a (c::st))=O e:=g;have g:=(dm (by have:=w.1;exact IU this))▸g;exact pV w.1 w.2.1 w.2.2.1 (kE (a:=a) w.2.2.2 hb g h)
 | .cE::a,b,i,[],e,w,hb,g,h=>w.elim
 | .cE::a,b,i,c::st,e,w,hb,g,h=>by
  change (if c=4 then P.dM a (5::st) else Q)=O e at g;haveI g:=(dE w.1)▸g;exact au w.1 (kE (a:=a) w.2 hb g h)
 | .fin::a,b,i,[],e,w,hb,g,h=>by injection g
 | .fin::a,b,i,c::st,e,w,hb,g,h=>kE (a:=a) (st:=st) w hb g h
theorem w3:∀st:J S,LW aa st (P.hU st++[.fin])
 | []=>rfl
 | c::st=>by
  dsimp only[P.qZ,P.q8];by_cases z:c=4
  ·exact ah (dE z) (pV z fo fo (w3 st))
  ·exact ah (dm z) (au fo (w3 st))
def xY(d:P.wf [] g)(w:LW aa [] g)(c:n<=g.length):LW aa [] (P.sealed g n):=by
 delta P.sealed;by_cases a:n=g.length
 ·rw[dE a];exact w
 ·rw[dm a];refine ak (P.iT d (A6 c a)) λst h e=>?_;refine ah h ?_;rw[fJ,fJ];refine kE (b:=g.drop n) ?_ (λz=>?_) h ⟨fo,w3 st⟩
  ·rw[wh];exact w
  ·have:(g.drop n).length=0:=by refine ah z ?_;rfl
   rw[O4] at this;exact Yk c a this
theorem Cq:∀{g:J P.I}{st e:J S},P.dM g st=O e->e.length<=st.length+g.length
 | [],st,e,h=>by injection h with h;cases h;exact gk _
 | i::g,st,e,h=>by
  refine cR (Au h) λc b a l1=>?_;have:=Cq a;exact ah ff (MH l1 this)
def vL(c:P.wf [] g)(b:g.length<100)(d:n<=g.length):(P.sealed g n).length<900:=by
 delta P.sealed;by_cases a:n=g.length
 ·rw[dE a];exact MK b
 ·rw[dm a];refine ak (P.iT c (A6 d a)) λst h e=>ah h (ah a9 (ah a9 (ah a9 ?_)));haveI l1:=Cq h;rw[x2] at *;exact Yn b (t8 st) l1
end
section
variable{d k n:S}{K:J (S×AO)}{H:Hp}{C:CS}{G:a7->aI AV}{ρ:Loc}{aa:J T}{is:J P.I}{own:T}
def Iy:PP "Scope.__init__"=O qa:=Z
def LO:PP "Func.__init__"=O sx:=Z
def Iz:ae GG PP (d+1) "Scope.__init__" [.obj H.length,kJ,.lst [.int own],.lst [],.lst [],.lst [],.lst [],.int 0,.ny] (H++[.inst "Scope" []])=.ok .none (H++[.inst "Scope" (pR own)]):=
 (aY Iy (by decide) Z).trans (mf (r8 (l:=[("kinds","kinds",Q),("funcs","funcs",Q),("tables","tables",Q),("memories","memories",Q),("globals","cells",Q),("elems","elems",Q),("datas","datas",Q),("declared","declared",Q)]) Z (by kernel_rfl)))
def LP:ae GG PP (d+1) "Func.__init__" [.obj H.length,kd,l,b] (H++[.inst "Func" []])=.ok .none (H++[.inst "Func" [("kind",kd),("locals",l),("body",b)]]):=
 (aY LO (by decide) Z).trans (mf (r8 (l:=[("kind","kind",Q),("locals","locals_now",Q),("body","body",Q)]) Z (by kernel_rfl)))
noncomputable def front (e:J T):T:=e.headD 0
def first_is(g:ρ.lookup "script"=O (.lst (aj ns))):ev G C k (.ite (.cmp (.loc "script") .NotEq (.list X [])) (.sub (.loc "script") (.n 0)) (.n 0)) ρ H=.ok (.int (front ns)) H:=by
 simp only[gd,cZ,aM,g,aB,bB];cases ns with
 | nil=>rfl
 | cons a r=>
  haveI e:bf H .NotEq (.lst (aj (a::r))) (.lst [])=O X:=by
   delta bf fk bD;simp only[i1,ff,qg];rw[dE (S0 _)];rfl
  show ev G C k (.sub (.loc "script") (.n 0)) ρ H=_;simp only[cg,aM,g];rfl
def vM(c:P.wf [] is)(ok:∀i∈is,P.pQ aa i)(f:P.KL p)(a:p.length<=2)(g:LW aa [] is)(e:is.length<900)(s:Own K H):∃m,ae GG PP (d+14) "_law_is_right" [.lst (is.map iv),.lst (aj p.reverse),.lst (aj aa)] H=.ok (.bool (P.run aa is (P.start p)).isSome) m/\((P.run aa is (P.start p)).isSome=X->Own K m):=by
 refine aH (P.KS c) λq b=>?_;haveI h:=Iv (d:=d) b g e a s;rw[P.Hd b ok f] at h;refine gz ((P.run aa is (P.start p)).isSome) ?_ ?_;rotate_left
 ·intro hb;haveI h:=hb▸h;exact ak h λm U V=>ay m U (λj=>V)
 ·intro hb;refine aH (hb▸h) λm U=>?_;exact ay m U (λz=>nomatch z)
def IA(h:0<=own/\own<5):own∈marks/\P.KL (P.arrow own).1/\P.KL (P.gv own)/\(P.gv own).length<=2/\(P.arrow own).1.length<=2:=by
 have a:own∈marks:=by
  delta marks;simp only[a8,eA,hK];exact Ym h
 refine LZ a (λx b=>(tZ a).1 x ?_) (tZ a).2 (gM a).2 ?_
 ·show x∈(P.arrow own).1.reverse;exact hO.mpr b
 ·have:(P.arrow own).1.reverse.length<=2:=(gM a).1
  rwa [eb] at this
theorem Av:∀l:J (aI T),atoms (l.map hv)=O l
 | []=>rfl
 | a::l=>by
  show(match atom (hv a),atoms (l.map hv) with | some a,O l=>O (a::l) | _,_=>Q)=_;refine ah (Av l) ?_;cases a<;>rfl
def Qe{l:J (aI T)}:bf H .Eq (.lst (l.map hv)) (.lst (l.map hv))=O X:=by
 delta bf fk bD;simp only[ne_eq,not_true,kc,Av,Sr]
def LQ(h:P.run aa is (P.start e)=O Y)(a:Y=[]):P.ng aa is ([(O 0,0,(e.length:T))],O 0)=P.sT aa is (P.start e):=by
 subst a;have hi:P.HI [(O 0,0,(e.length:T))] (P.start e):=by
  exact LZ Z Z Z fo fo
 exact(P.EZ hi Z (yj _ _) h).symm
noncomputable def IB:J MS:=[.iff (.or [.call "_law_is_right" [.loc "body",.loc "results",.loc "places"],.cmp (.attr (.loc "fault") "why") .NotEq (.lit (.str "type mismatch")),.cmp (.attr (.loc "fault") "function") .NotEq (.n 0)]) [.ret (.lit (.bool aN))] [],.iff (.or [.not (.ef (.n 0) .LtE (.attr (.loc "fault") "at") .Lt (.bi "len" [.loc "body"])),.not (.call "_law_is_right" [.call "_law_sealed" [.loc "body",.attr (.loc "fault") "at"],.loc "results",.loc "places"])]) [.ret (.lit (.bool aN))] [],.ret (.not (.call "_law_is_right" [.call "_law_sealed" [.loc "body",.bin .Add (.attr (.loc "fault") "at") (.n 1)],.loc "results",.loc "places"]))]
noncomputable def IC:MS:=.iff (.not (.call "_law_is_right" [.loc "body",.loc "results",.loc "places"])) [.ret (.lit (.bool aN))] []
noncomputable def ID:MS:=.ret (.cmp (.call "heights_of" [.loc "scope",.n 0,.loc "func"]) .Eq (.call "_law_heights" [.loc "body",.loc "results",.loc "places"]))
noncomputable def Qf (H:Hp)(r:R (Fl×Loc)):R (Fl×Loc):=match r with
 | .ok (.ret (.bool b),_) _=>.ok (.ret (.bool b),[]) H
 | _=>.bad
def Qg (C:CS)(k:S)(ρ:Loc)(H:Hp)(r:R AV):R (Fl×Loc):=match r with
 | .ok _ e=>.ok (.next,ρ) e
 | .bH w f p=>Qf (H.map λ_=>.dead) (execs GG C k IB (put "fault" (.exc w f p) ρ) (H.map λ_=>.dead))
 | .bad=>.bad
def DR:MS:=.w6 (.call "check_function" [.loc "scope",.n 0,.loc "func"]) "fault" IB
def Aw (e g:J T)(own:T)(is:J P.I)(s f:S):Loc:=[("script",.lst (aj e)),("first",.int (front e)),("own",.int own),("starts",.lst (aj (P.arrow own).1)),("results",.lst (aj (P.gv own).reverse)),("places",.lst (aj g)),("body",.lst (is.map iv)),("scope",.obj s),("func",.obj f)]
def UM(e:a<is.length)(g:C "_law_is_right" [.lst (is.map iv),.lst (aj (P.gv own).reverse),.lst (aj i)] H=.ok (.bool aN) j)(hb:C "_law_sealed" [.lst (is.map iv),.int a] j=.ok (.lst ((P.sealed is a).map iv)) m)(hc:C "_law_is_right" [.lst ((P.sealed is a).map iv),.lst (aj (P.gv own).reverse),.lst (aj i)] m=.ok (.bool X) p)(h:C "_law_sealed" [.lst (is.map iv),.int (a+1:S)] p=.ok (.lst ((P.sealed is (a+1)).map iv)) q)(b:C "_law_is_right" [.lst ((P.sealed is (a+1)).map iv),.lst (aj (P.gv own).reverse),.lst (aj i)] q=.ok (.bool aN) x):execs GG C k IB (put "fault" (.exc "type mismatch" 0 a) (Aw y i own is s f)) H=.ok (.ret (.bool X),put "fault" (.exc "type mismatch" 0 a) (Aw y i own is s f)) x:=by
 exact hW (.r g (.d (.d (.d (.d (.d (.d (.c (cB (jl a)) (.v (show gC j "len" [.lst (is.map iv)]=O (.int (is.map iv).length) from Z) (.c (cB (show(a:T)<(is.map iv).length by rw[d3];exact D3 e)) (.d (.r hb (.r hc (.d (.d (.r h (.r b .nil))))))))))))))))) (by kernel_rfl)
def LR(h:(P.arrow own).1++[-1,-2,-17]=m)(e:front i % 5=own)(g:own∈marks)(c:(P.arrow own).1.length<=2)(f:is.length<100)(hb:ae GG PP (d+14) "_law_body" [.lst (aj i),.bool (eo (front i / 5 % 2=1)),.lst (aj m)] H=.ok (.lst (is.map iv)) j):execs GG (ae GG PP (d+14)) k rM.body [("script",.lst (aj i))] H=execs GG (ae GG PP (d+14)) k [DR,IC,ID] (Aw i m own is j.length (j++[AO.inst "Scope" (pR own)]).length) (j++[AO.inst "Scope" (pR own)]++[AO.inst "Func" (zX own is)]):=by
 subst e;subst h;refine(aU (mu (x:="first") (first_is (ns:=i) Z))).trans (fG (a:=(rM.body.drop 1).take 6) (b:=[DR,IC,ID]) ?_);haveI h3:ae GG PP (d+14) "_law_arrow" [.int (front i % 5)] H=.ok (.tup [.lst (aj (P.arrow (front i % 5)).1),.lst (aj (P.gv (front i % 5)).reverse)]) H:=(tX (d:=d+13) g).trans (by delta P.gv;rw[hC]);exact hW (.d (.r h3 (.v (Ag (a:=(P.arrow (front i % 5)).1) (b:=[-1,-2,-17]) (by rw[a9];exact Ys c)) (.d (.d (.d (.r hb (.d (.r (Iz (d:=d+13) (H:=j) (own:=front i % 5)) (.v ((λH=>show gC H "list" [.lst (is.map iv)]=O (.lst (is.map iv)) from dE (by rw[d3];exact MJ f)) (j++[AO.inst "Scope" (pR (front i % 5))])) (.r (LP (d:=d+13) (H:=j++[AO.inst "Scope" (pR (front i % 5))]) (kd:=.int (front i % 5)) (l:=.tup (aj [-1,-2,-17])) (b:=.lst (is.map iv))) .nil))))))))))) (by kernel_rfl)
def LU{s f:S}(î:pl=(P.arrow own).1++[-1,-2,-17])(ä:0<=own/\own<5)(u:P.KL (P.gv own))(C:(P.gv own).length<=2)(e:P.wf [] is)(m:LW pl [] is)(q:∀i∈is,P.pQ pl i)(o:is.length<100)(â:Own [(f,AO.inst "Func" (zX own is)),(s,AO.inst "Scope" (pR own))] H):∃é H',execs GG (ae GG PP (d+14)) k [DR,IC,ID] (Aw ns pl own is s f) H=.ok (.ret (.bool X),é) H':=by
 have p:is.length<900:=MK o;haveI G:=λH â=>Pr (d:=d+4) (H:=H) (K:=[(f,_),(s,_)]) î ä e m p â (.tail _ (.head _)) (.head _);haveI n:=G H â;have w:aA GG (ae GG PP (d+14)) k DR (Aw ns pl own is s f) H=Qg (ae GG PP (d+14)) k (Aw ns pl own is s f) H (ae GG PP (d+14) "check_function" [.obj s,.int 0,.obj f] H):=by kernel_rfl
 cases hp:P.run pl is (P.start (P.gv own)) with
 | none=>
  have n:=hp▸n;refine cF (P.refusal e hp) λj x y=>?_;generalize P.et pl is (P.start (P.gv own))=a at n j x y;haveI rb:=λ{l} H (e:P.wf [] l) a b c=>vM (d:=d) (H:=H) (K:=[]) (aa:=pl) e a u C b c ⟨xd,nofun⟩;refine ak (rb (H.map λg=>.dead) e q m p) λö D g=>?_;rw[hp] at D;refine aH (xX (d:=d+13) (H:=ö) e m o (pS j)) λê hb=>ak (P.iT e j) λg g L=>ak (rb ê L (P.xM q) (xY e m (pS j)) (vL e o (pS j))) λW hc g=>?_;rw[x] at hc;refine aH (xX (d:=d+13) (H:=W) e m o j) λR N=>?_;refine ak (rb R ?_ (P.xM q) (xY e m j) (vL e o j)) λç v g=>?_
  ·by_cases z:a+1=is.length
   ·refine ah (show P.sealed is (a+1)=is from dE z) ?_;exact e
   ·exact ak (P.iT e (A6 j z)) λg g h=>h
  rw[y] at v;exact yy [] _ (og (w.trans ((cx (Qg _ k _ H) n).trans (cx (Qf _) (UM j D hb hc N v)))))
 | some Y=>
  rw[hp] at n;refine aq n λI z=>cR z λü hc g à=>ak (vM (d:=d) e q u C m p à) λù A è=>?_;rw[hp] at A è;have t:=G ù (è Z);have t:=hp▸t;refine aq t λg z=>cR z λô g û g=>aH (Qc (d:=d+12) (H:=ô) (Ks:=(P.gv own).reverse) m p) λF E=>?_;rw[eb,LQ hp I] at E;exact yy (Aw ns pl own is s f) F ((aU (w.trans (cx (Qg _ k _ H) hc))).trans (hW (.r A (.d (.r û (.r E (.b (Qe (H:=F) (l:=P.sT pl is (P.start (P.gv own)))) .nil))))) (by kernel_rfl)))
def IE{ns:J T}:∃p q,execs GG (ae GG PP (d+14)) k rM.body [("script",.lst (aj ns))] H=.ok (.ret (.bool X),p) q:=by
 haveI b:0<=front ns % 5/\front ns % 5<5:=⟨Qy _ (by decide),NJ _ (by decide)⟩;refine kF (IA b) λi g c m h=>vN (LK (d:=d+12) (H:=H) (ns:=ns) (sb:=eo (front ns / 5 % 2=1)) (aa:=(P.arrow (front ns % 5)).1++[-1,-2,-17]) ?_ λx f=>?_) λis s hb e l j a=>?_
 ·simp only[a9];exact k6 (by decide) (S.le_add_left 3 _)
 ·refine eE (ka.mp f) (λz=>g x z) λz=>?_;simp only[a8,eA,hK] at z;delta P.Kind;exact Yo z
 ·exact(LR Z Z i h a hb)▸LU Z b c m e l j a (((show Own [] s from⟨xd,nofun⟩).new _).new _)
end
end Internal
end
noncomputable section
namespace Internal
open PySem PySem.W PySem.Calls PyProof.Rows SeqAt MeetsSeq
set_option tactic.hygienic true in
def Cr{K:mj}{p:pK->aS}{a:eu}(h:qq K p a=X):∃g i j sl,K.lookup a=O ⟨i,j,.func g,sl⟩/\p g=X/\RA K g.code g.qualname=X/\g.globals=fw/\g.builtins=rV:=by
 unfold qq at h
 split at h
 ·rename_i i j g sl e;simp only[e3,p1] at h;exact⟨g,i,j,sl,e,h.1.1.1,h.1.1.2,h.1.2,h.2⟩
 ·try clear e
  cases h
set_option tactic.hygienic true in
def sr{K:mj}{c:a7}{C:eu}(h:i9 K c=O C):r0 K fw (aD c)=O (O (.ref C)):=by
 unfold i9 at h
 split at h
 ·rename_i e;cases h;exact e
 ·cases h
def Ax{e g:Type}[BEq e][LawfulBEq e]{l:J (e×g)}{x:e}{v:g}(h:l.lookup x=O v):(x,v)∈l:=by
 induction l with
 | nil=>cases h
 | cons p l i=>
  obtain⟨y,w⟩:=p;simp only[eC] at h;by_cases z:(x==y)=X
  ·rw[z] at h;cases h;cases e5 z;exact .head _
  ·simp only[PU] at z;rw[z] at h;exact .tail _ (i h)
set_option tactic.hygienic true in
def IF{K:mj}{a:eu}{l:J cc}(h:uo K a=O l):∃g k,l=g.toList/\K.lookup a=O {cls:=.type "tuple",dict:=Q,data:=.seq g k,slots:=#[]}/\g.size<=aZ:=by
 unfold uo at h
 split at h
 ·rename_i c d g k sl q;by_cases z:(eo (c=.type "tuple")&&d.isNone&&sl.size==0&&decide (g.size<=aZ))=X
  ·rw[dE z] at h;cases h;simp only[e3,h9,p1] at z;obtain⟨⟨⟨rfl,e⟩,f⟩,b⟩:=z;cases d with
   | some=>cases e
   | none=>
    cases hF.eq_empty_of_size_eq_zero f;exact⟨g,k,Z,q,b⟩
  ·rw[dm z] at h;cases h
 ·cases h
def IG{w:cc}{i:T}(h:intOf w=O i):∃t,w=.int i t:=by cases w<;>cases h;exact⟨_,Z⟩
def IH{w:cc}{a:eu}(h:refOf w=O a):w=.ref a:=by cases w<;>cases h;rfl
theorem JZ{K:mj}{j:d1}(é:K.In j){N:cz}{h:d1}{m:Fi}(y:∀b o,j.get? b=O o->h.get? b=O o)(f:∀a,cm m a->j.get? a=Q):∀(n:S) (v:AV) (w:cc),vB n K v w=X->VR N h m v w
 | 0,v,w,e=>nomatch e
 | n+1,v,w,e=>by
  cases v with
  | int i=>
   haveI e:decide (intOf w=O i)=X:=e;delta VR;exact IG (gb e)
  | tup l=>
   change (match (refOf w).bind (uo K) with | some s=>s.length==l.length&&(l.zip s).all λp=>vB n K p.1 p.2 | none=>aN)=X at e;cases q:(refOf w).bind (uo K) with
   | none=>have e:=q▸e;cases e
   | some s=>
    have e:=q▸e;haveI e:=(e3 _ _).mp e;obtain⟨a,c,hb⟩:=Dm.mp q;clear q;obtain⟨L,k,rfl,hc,W⟩:=IF hb;have d:=é _ _ hc;refine⟨a,L,IH c,λz=>(by have:=f a z;have this:=d▸this;cases this),⟨k,y _ _ d,W⟩,?_⟩;haveI all:∀(l:J AV) (vs:J cc),vs.length=l.length->((l.zip vs).all λp=>vB n K p.1 p.2)=X->aL N h m l vs:=by
     intro l
     induction l with
     | nil=>intro vs z g;exact Df.mp z
     | cons x l ih=>
      intro vs z c;cases vs with
      | nil=>cases z
      | cons v vs=>
       simp only[uW,J.all_cons,e3] at c;exact⟨v,vs,Z,JZ é y f n x v c.1,ih vs (sL z) c.2⟩
    exact all l L.toList (e5 e.1) e.2
  | none=>cases e
  | bool=>cases e
  | str=>cases e
  | lst=>cases e
  | obj=>cases e
  | ny=>cases e
  | exc=>cases e
def some_of{e:Type}{o:aI e}{p:e->aS}(h:o.any p=X):∃a,o=O a/\p a=X:=by
 cases o with
 | none=>cases h
 | some a=>exact⟨a,Z,h⟩
def Ay{e g:Type}{o:aI e}{q:aI g}{p:e->g->aS}(h:(o.any λa=>q.any (p a))=X):∃a b,o=O a/\q=O b/\p a b=X:=by
 refine cps λd c=>?_;obtain⟨a,U,h⟩:=some_of h;obtain⟨b,V,h⟩:=some_of h;exact c (⟨a,b,U,V,h⟩)
def FD{o:aI (aI cc)}{p:eu->aS}(h:(match o with | some (O (.ref a))=>p a | _=>aN)=X):∃a,o=O (O (.ref a))/\p a=X:=by
 split at h
 ·exact⟨_,Z,h⟩
 ·try clear _;try clear a;try clear p
  cases h
def FE{o:aI CFound}{p:eu->aS}(h:(match o with | some (.val (.ref a))=>p a | _=>aN)=X):∃a,o=O (.val (.ref a))/\p a=X:=by
 split at h
 ·exact⟨_,Z,h⟩
 ·try clear _;try clear a;try clear p
  cases h
set_option tactic.hygienic true in
def UN{K:mj}{L:d1}(é:K.In L)(h:Ve K=X):∃d f,r0 K fw (aD "KIND_NAMES")=O (O (.ref d))/\L.IntMap d f/\∀i,(f i).isSome=decide (i=-1\/i=-2\/i=-16\/i=-17):=by
 obtain⟨d,hd,h⟩:=FD h
 split at h
 ·rename_i c W x j sl q;simp only[e3,h9,h8] at h;try clear sl;try clear W;try clear c;try clear f
  obtain⟨⟨rfl,V⟩,h3⟩:=h;refine⟨d,findBy Sx x,hd,⟨_,x,j,é _ _ q,Z,Z,λe a=>?_,λ_=>Z⟩,λi=>?_⟩
  ·have:=V e (x3.mpr a)
   split at this
   ·rename_i k p;unfold yK at p
    split at p
    ·rename_i g t b;cases p;exact⟨_,t,b,e5 this⟩
    ·cases p
   ·cases this
  ·haveI y:∀(l:J qc) (s:J T),l.map (λe=>yK e.key)=s.map O->((l.find? λe=>Sx i e.key).map (·.val)).isSome=decide (i∈s):=by
    intro l
    induction l with
    | nil=>intro s p;cases s with
     | nil=>rfl
     | cons=>cases p
    | cons e l ih=>
     intro s p;cases s with
     | nil=>cases p
     | cons k s=>
      simp only[i1,u0] at p;have a:∃t,e.key=.int k t:=by
       have:=p.1;unfold yK at this
       split at this
       ·rename_i g t b;cases this;exact⟨t,b⟩
       ·cases this
      obtain⟨t,a⟩:=a;haveI hb:Sx i e.key=decide (i=k):=by
       rw[a];show(k==i)=_;by_cases z:i=k
       ·rw[cB z,z];exact G4 _
       ·rw[a0 z];exact gn.mpr (j1 z)
      refine ah (qm) ?_;rw[hb];by_cases z:i=k
      ·rw[cB z,cB (a8.mpr (.inl z))];rfl
      ·rw[a0 z];show((l.find? _).map _).isSome=_;exact(ih s p.2).trans (o2.mpr ⟨λw=>.tail _ w,λw=>(a8.mp w).resolve_left z⟩)
   haveI m:=y x.toList [-1,-2,-16,-17] h3;unfold findBy;rw[<-hF.find?_toList,m];exact o2.mpr (by simp only[a8,eA,hK])
 ·cases h
@[elab_as_elim] def ot{e:Type}{l:J e}{n:S}{g:J e->Prop}(h:l.length=n+1)(k:∀a m,m.length=n->g (a::m)):g l:=by
 cases l with
 | nil=>cases h
 | cons a m=>exact k a m (sL h)
@[elab_as_elim] def UO{e:Type}{l:J e}{g:J e->Prop}(h:l.length=0)(k:g []):g l:=by
 cases l with
 | nil=>exact k
 | cons a m=>cases h
def sl6{p:Type}{l:J p}{b:p}(h:l.length=6):l[4]?=O b->∃e i j k m,l=[e,i,j,k,b,m]:=by
 refine ot (l:=l) h ?_;intro e l h;refine ot (l:=l) h ?_;intro i l h;refine ot (l:=l) h ?_;intro j l h;refine ot (l:=l) h ?_;intro k l h;refine ot (l:=l) h ?_;intro a l h;refine ot (l:=l) h ?_;intro m l h;refine UO (l:=l) h ?_;intro g;exact⟨e,i,j,k,m,cx (λz=>[e,i,j,k,z,m]) (gf g)⟩
def Qi{K:mj}{C:eu}(h:yL K C=X):∃c g i l,K.lookup C=O ⟨c,g,.cls i,⟨l⟩⟩/\yL K C=X:=by
 delta yL at h ⊢
 revert h
 cases K.lookup C with
 | none=>exact λh=>nomatch h
 | some o=>
  obtain⟨c,g,e,⟨l⟩⟩:=o;try clear yL
  cases e with
  | cls i=>exact λh=>⟨_,_,_,_,Z,h⟩
  | _=>exact λh=>nomatch h
def DU{K:mj}{p:pK->aS}{a:eu}(h:qq K p a=X):FnAt K p a:=by
 obtain⟨e,g,i,sl,U,V,h3,h4,h5⟩:=Cr h;exact⟨e,g,i,sl,U,V,h3,h4,h5⟩
def UP{K:mj}{C:eu}(h:yL K C=X):∃(c:Ei) (W p:eu),K.lookup C=O (c.obj C W)/\r0 K fw (aD "WasmFault")=O (O (.ref W))/\Ql K (.ref W) "__getattribute__"=O (O (.builtin "type.__getattribute__"))/\Ts K W (.type "type")=X/\
  Of K (.ref W) (.type "type") (aD "__init__")=O (.val (.ref p))/\q6 K (.ref p)=X/\FnAt K nK p:=by
 obtain⟨c,x,m,l,e,h⟩:=Qi h;delta yL at h;obtain⟨y,z,L,ns,q,oQ,sn,sub,ab,s,a⟩:=m;rw[e] at h;haveI h:=(e3 _ _).mp h;obtain⟨W,k,h4⟩:=some_of h.2;simp only[e3,h9] at h h4;obtain⟨⟨⟨rfl,rfl⟩,h3⟩,-⟩:=h;obtain⟨⟨⟨⟨⟨rfl,h5⟩,b⟩,i⟩,j⟩,d⟩:=h4;obtain⟨k0,k1,k2,k3,k5,rfl⟩:=sl6 h5 b;obtain⟨p,g,f⟩:=FE d;clear b h d;cases a with
 | true=>cases h3
 | false=>exact⟨.mk y q ns z sn sub ab s x k0 k1 k2 k3 k5,W,p,e,sr k,i,j,g,((e3 _ _).mp f).1,DU ((e3 _ _).mp f).2⟩
set_option tactic.hygienic true in
def UQ{K:mj}{C:eu}(g:i9 K "Invalid"=O C)(U:Vf K=X)(V:q6 K (.ref C)=X)(h3:∀f∈["why","function","at"],LN K C (aD f)=O Q)(h4:l4 K (.ref C) "__setattr__"=O (O (.builtin "object.__setattr__")))(h5:r0 K fw (aD "Exception")=O Q):XT K C sz:=by
 obtain⟨j,e,x⟩:=some_of U;cases(e.symm.trans g);simp only[e3] at x;obtain⟨⟨⟨h,d⟩,i⟩,b⟩:=x;obtain⟨k,c,a⟩:=FD i;haveI a:=(e3 _ _).mp a;refine⟨⟨210,Z,DU d⟩,UP h,V,⟨k,c,gb a.1,DU a.2⟩,h3,h4,h5,?_⟩
 split at b
 ·rename_i n e;exact ah e (ah (e5 b) Z)
 ·cases b
set_option tactic.hygienic true in
def tab_of{g:Gr}(ê:g.K.In g.hT)(hi:i9 g.K "Invalid"=O g.N.inv)(hc:∀c,g.N.cls c=if c∈ug then i9 g.K c else Q)(h:mU g.K=X):g.Tab sz:=by
 refine cps λ_ H=>?_;unfold mU at h;simp only[e3] at h;obtain⟨⟨⟨⟨⟨⟨⟨⟨⟨⟨k1,k2⟩,k3⟩,G⟩,k5⟩,o⟩,p⟩,E⟩,é⟩,k⟩,j⟩:=h;haveI y:∀f,M8 g.K f=X->∃a,sz f=O a/\r0 g.K fw (aD f)=O (O (.ref a))/\q6 g.K (.ref a)=X:=λf h=>by
  obtain⟨a,U,V⟩:=some_of h;have V:=(e3 _ _).mp V;exact⟨a,U,gb V.1,V.2⟩
 have W:=λf m=>gb ((h8.mp p) f m);obtain⟨C,d,x⟩:=some_of E;cases(d.symm.trans hi);refine H ?_;simp only[e3,h9,h8] at x;obtain⟨⟨⟨⟨⟨⟨⟨u,s⟩,z⟩,n⟩,ù⟩,è⟩,F⟩,à⟩:=x;have l:∀c,c∈ug->g.N.cls c=i9 g.K c:=λc m=>by rw[hc,dE m]
 refine⟨λf D P r=>?_,λf m=>y f (h8.mp k2 f m),λc m f i=>?_,λc m f i=>?_,λc f i=>?_,λc C d=>?_,λx v q=>?_,λf m=>W f (Ra _ m),λf m=>W f (QS _ ?_),UN ê k,u,s,z,λf m=>(n f m).1,ù,sr hi,è,?_,?_⟩
 ·have h:=h8.mp k1 (f,D) (Ax P);haveI h:(f=="law"||(sz f).any λa=>qq g.K (yg D) a)=X:=h;rw[show(f=="law")=aN from gn.mpr r,N3] at h;obtain⟨a,U,V⟩:=some_of h;obtain⟨fd,oc,od,sl,h3⟩:=Cr V;exact⟨a,fd,oc,od,sl,U,h3⟩
 ·obtain⟨C,a,U,V,h3⟩:=Ay (h8.mp k3 (c,m,f) i);simp only[e3,h9] at h3;have:c∈ug:=by
   have:∀x∈IX,x.1∈ug:=by decide
   exact this _ i
  exact⟨C,a,(l c this).trans U,V,h3.1.1,h3.1.2,h3.2⟩
 ·obtain⟨C,a,U,V,h3⟩:=Ay (h8.mp G (c,m,f) i);simp only[e3,h9] at h3;obtain⟨⟨⟨h3,h4⟩,h5⟩,L⟩:=h3;obtain⟨b,I,t⟩:=FE h5;cases e5 t;exact⟨C,a,V,sr U,h3,h4,I,L⟩
 ·obtain⟨C,a,U,V,h3⟩:=Ay (h8.mp k5 (c,f) i);simp only[e3,h9] at h3;have:c∈ug:=by
   have:∀x∈NT,x.1∈ug:=by decide
   exact this _ i
  exact⟨C,a,(l c this).trans U,V,sr U,h3.1.1.1,h3.1.1.2,h3.1.2,h3.2⟩
 ·rw[hc] at d;by_cases m:c∈ug
  ·have d:=(dE m)▸d;obtain⟨â,U,V⟩:=some_of (h8.mp o c m);have U:=d▸U;cases U;simp only[e3,h9,h8] at V;exact⟨V.1.1.1.1.1,V.1.1.1.1.2,V.1.1.1.2,V.1.1.2,V.1.2,V.2⟩
  ·rw[dm m] at d;cases d
 ·have h:=h8.mp é (x,v) (Ax q)
  split at h
  ·rename_i w e;exact⟨w,e,λN R φ hk A=>JZ ê hk A 5 v w h⟩
  ·cases h
 ·simp only[a8,eA,hK] at m ⊢;rcases m with rfl | rfl | rfl<;>simp
 ·rfl
 ·exact UQ hi j F (λf m=>(n f m).2) à (W _ (QS _ (by decide)))
end Internal
end
noncomputable section
open PySem PySem.W PyProof.Rows
set_option maxHeartbeats 8000000
namespace Internal
theorem LV{q:nz}{i:J cD}{j:d2->aS}{m:Type}{x:d2->m}{y:oM->m}{N:S}(a:S.ble 5000 N=X)(h:∀(w:oM) (os:Bp),(jL RZ pw w 11 (O (i4 6)) 5000 (i8 w.params os) (QE pw)).map (λs=>
   ((Qm (zP pw.main.body) (ma w.params) s.abs.heap&&N5 pw s.abs.heap&&QX s.abs&&QY (ma w.params) s.abs.heap),
    openSeen q i (zP pw.main.body) j X s.abs,x s.abs))=O (X,SD q i,y w)):LeftO pw q i j x y N:=λw=>by
 have hb:S.ble 600 N=X:=S.ble_eq_true_of_le (hD (by decide) (QT a));obtain⟨⟨g,f,d,k,os⟩,e,b⟩:=h7.mp (boot_open (p:=pw) (N:=N) (by rfl) hb (λs=>by rfl) w);obtain⟨rfl,rfl,rfl,rfl⟩:g=ma w.params/\f=#[]/\d=QW/\k=Rx:=by simpa using b
 obtain⟨s,r,l⟩:=h7.mp (h w os);obtain⟨l1,z,c⟩:_/\_/\_:=by simpa only[i3] using l
 have r:=topRun_mono (N - 5000) _ _ _ _ (um r);rw[show 5000+(N - 5000)=N from Rr (QT a),M7] at r;have z1:((ma w.params).isNs fw&&(#[]:hF Vk).size==0)=X:=by kernel_rfl!
 have z2:(ma w.params).objs.size=11:=by rfl
 have z3:(ma w.params).nsMap fw "__annotations__"=O (i4 6):=by kernel_rfl!
 have t:VC RZ pw w N ⟨ma w.params,#[],QW,Rx,os⟩=O s.abs:=by
  unfold VC;dsimp only;rw[z1,z2,z3,r];show(match Qm (zP pw.main.body) (ma w.params) s.abs.heap&&N5 pw s.abs.heap&&QX s.abs&&QY (ma w.params) s.abs.heap with | true=>_ | false=>_)=_;rw[l1]
 unfold openEnds;rw[e];show(VC RZ pw w N _).map _=_;rw[t];exact cx O (u1.ext z c)
end Internal
end
noncomputable section
open PySem PySem.W PyProof.Rows
set_option maxHeartbeats 8000000
namespace Internal
def Qj(w:oM)(b:aS)(os:Bp):i8 (w.withFollow "special-get-raises" b).params os=i8 w.params os:=by kernel_rfl
def Qk(w:oM)(b:aS):ma (w.withFollow "special-get-raises" b).params=ma w.params:=by kernel_rfl
def comb{e i j k:Type}{x:aI e}{f:e->i}{g:e->j}{h:e->k}{a:i}{b:j}{c:k}(e1:x.map (λs=>(f s,g s))=O (a,b))(d:x.map h=O c):x.map (λs=>(f s,g s,h s))=O (a,b,c):=by
 cases x with
 | none=>cases d
 | some y=>cases d;cases e1;rfl
def UR:LeftO pw qQ km (λs=>xlAt qQ [] s&&recOk [] s) (λs=>mU (lP s.heap)) (λa=>X) 10000:=
 LV Z (byRow2 "special-get-raises" (P:=λw=>∀os,(jL RZ pw w 11 (O (i4 6)) 5000 (i8 w.params os) (QE pw)).map (λs=>
   ((Qm (zP pw.main.body) (ma w.params) s.abs.heap&&N5 pw s.abs.heap&&QX s.abs&&QY (ma w.params) s.abs.heap),
    openSeen qQ km (zP pw.main.body) (λs=>xlAt qQ [] s&&recOk [] s) X s.abs,mU (lP s.abs.heap)))=O (X,SD qQ km,X))
  (λw os=>by
   rw[Qj,Qk,oy,CU,EA,EM];exact comb (Qr w os) (g4 w os))
  (λw os=>by
   rw[Qj,Qk,oy,CU,EA,EM];exact comb (Qs w os) (g4t w os)))
end Internal
end
noncomputable section
namespace Internal
open PySem PySem.W PyProof.Rows
def ab0 (g p:nz)(w:oM)(K:mj)(h:d1)(e:J cD)(i:Tt->aI cc)(j k:cD->aI cc)(I L:eu):Gr:=
 ⟨⟨I,λc=>if c∈ug then i9 K c else Q,Q,λa=>a=L⟩,g,w,K,h,p,e,i,j,k⟩
def II{N:cz}{h b:d1}{P:S3}{e:J T}:∀{vs:J cc},VD P b vs (e.map VE)->aL N h [] (aj e) vs:=by
 induction e with
 | nil=>intro vs w;cases w;exact .nil
 | cons n e g=>intro vs w;cases w with
  | cons a w=>cases a with| int _ t=>exact .cons (VR.fO n t) (g w)
set_option tactic.hygienic true in
def LX{s p:nz}{w:oM}{K:mj}{é:J cD}{qs:Tt->aI cc}{mg mb:cD->aI cc}{ag:d2}{c:d1}{m:cD->aI cc}{name:cD}{W:JE}{a:eu}{f:cc}(ö:Top p é qs mg mb ag.heap)(è:ag.heap.NoSeer)(à:s.given.tree=Q)(ü:K.In ag.heap)(l:mU K=X)(F:Fr ag.heap ag.heap.objs.size c m){r:J ea}{ns:J T}{vs:J cc}{sc:eu}{tk:S}{ä:Flow->d2->Prop}{E:cc->d2->Prop}(î:ag.heap.get? sc=O {cls:=.type "list",data:=.seq vs.toArray})(A:VD w.params ag.heap vs (ns.map VE))(D:ns.length<=63)(û:m "script"=O (.ref sc))(k1:W.kind=.function)(k2:W.isGenerator=aN)(k3:W.isCoroutine=aN)(ê:W.names.all (λx=>x.2 != .cell)=X)(hb:lO W.names rM.body r=X)(y:∀s',(∀b o,ag.heap.get? b=O o->s'.heap.get? b=O o)->(∃h t,s'={ag with heap:=h,toks:=t})->ä (.ret (.bool X)) s'):er (ej s w) (callerA.deeper (envOf name W ag.heap.objs.size a f)) (Vt r (envOf name W ag.heap.objs.size a f)) ä E {ag with heap:=c,toks:=tk}:=by
 obtain⟨C,I,-⟩:=some_of (by unfold mU at l;simp only[e3] at l;exact l.1.1.1.2);let g:=ab0 s p w K ag.heap é qs mg mb C ag.heap.objs.size;haveI Tab:g.Tab sz:=tab_of (g:=g) ü I (λ_=>Z) l;have nl:∀b,¬cm [] b:=λb ⟨i,p,h,_⟩=>by cases h
 obtain⟨o,es,ô,u,hd,R⟩:=id F.ns;have P:∀x,(envOf name W ag.heap.objs.size a f).kindOf x≠O .cell:=λx h=>by
  have:=h8.mp ê _ (mem_of_lookup (show W.names.lookup x=O .cell from h));cases this
 haveI L:Lv g (callerA.deeper (envOf name W ag.heap.objs.size a f)) {ag with heap:=c,toks:=tk} [] []:=
  ⟨F.keep,⟨Z,λi p h=>(by cases h),λi h=>(by cases h),λb h=>(nl b h).elim,λi j p q h=>(by cases h)⟩,Z,λb z=>⟨o,by refine ah (show b=_ from z) ?_;exact u⟩,
   _,[],Z,k2,k3,Z,Z,k1,λe G=>by
    cases gg.mp G;exact⟨k1,_,o,es,ô,Z,u,hd,(aF _),nl _,Z⟩⟩
 haveI n:En g (envOf name W ag.heap.objs.size a f) {ag with heap:=c,toks:=tk} [] [("script",.lst (aj ns))]:=by
  refine⟨k1,Z,Z,⟨m,F.ns,λx v q _ _=>?_⟩,⟨nl _,(aF _)⟩,λx h=>(P x h).elim⟩;obtain⟨rfl,rfl⟩:x="script"/\v=.lst (aj ns):=by
   simp only[eC] at q
   split at q
   ·rename_i e;cases q;exact⟨e5 e,Z⟩
   ·cases q
  refine⟨_,û,?_⟩;have hv:=II (N:=g.N) (h:=c) A;exact⟨sc,vs.toArray,Z,nl _,⟨0,F.keep _ _ î,by rw[mE,hv.len,d3];exact hD D (by decide)⟩,hv⟩
 refine we (tH 14) rM.body g cu _ _ _ _ _ _ r _ _ hb (λ_=>Z) (⟨⟨(⟨ü,ö,è,à⟩),Tab,⟨by show 1+claimMargin+1+4*14+2+120<Bx;decide,by show 4+3+200*14+20*2+60<Ug;decide⟩,L,n⟩,⟨Z,λ_ _ h=>(by cases h),λ_ _ _ h=>(by cases h),λ_ _ h=>(by cases h),λ_ h=>(by cases h)⟩,⟨[],Z⟩⟩) ?_;obtain⟨ù,H',e⟩:=IE (d:=0) (k:=cu) (H:=[]) (ns:=ns);refine ah e ?_;rintro fl s' â x ⟨_,v,rfl,hv⟩;subst hv;obtain⟨h,t,rfl⟩:=x.eq;exact y _ x.st ⟨h,t,Z⟩
end Internal
end
noncomputable section
open PySem PySem.W PyProof.Rows
set_option maxHeartbeats 8000000
namespace Internal
def FG(h:d1):(lP h).In h:=λa o e=>by
 unfold lP at e;obtain⟨b,_,q⟩:=Nl.mp (Ax e);obtain⟨g,r,q⟩:=h7.mp q;cases q;exact r
def FH{j:cD->aI eu}{k:Tt->aI cc}{args:J WData}{g i:d2}(a:g.gens=#[])(st:∀b o,g.heap.get? b=O o->i.heap.get? b=O o)(e:∃h t,i={g with heap:=h,toks:=t}):GoodW yM.claim j k args g (.ok (.ret (.bool X))) i:=by
 obtain⟨h,t,rfl⟩:=e;exact⟨.inl ⟨_,.bool X,[],Z,λc=>Z,.bool X,by kernel_rfl,unshared_nil⟩,st,Z,a⟩
def FJ{P:S3}{h:d1}{a:eu}{e:J WData}(w:Well P h (.ref a) (.list e)):∃vs:J cc,h.get? a=O {cls:=.type "list",data:=.seq vs.toArray}/\VD P h vs e:=by
 cases w with | list U V=>exact⟨_,U,V⟩
set_option tactic.hygienic true in
theorem holds_all:PySem.Challenge.rw_nm0154_01.Holds:=by
 w_on
 refine holds_law well λf=>?_;refine holds_open (q:=qQ) (loose:=km) (Xt:=λs=>xlAt qQ [] s&&recOk [] s) (XP:=XL qQ []) (Yf:=λs=>mU (lP s.heap)) (Ya:=λ_=>true) (YP:=λ_ h=>∃K,K.In h/\mU K=true) (N:=10000) UR
  (λw s e=>⟨_,FG _,e⟩) (λw h h' y k=>let ⟨K,a,b⟩:=y;⟨K,λx o e=>k _ _ (a x o e),b⟩) (λs e=>xl_of s (Bool.and_eq_true_iff.mp e).1) XL.keeps (by rfl) (by rfl) (by rfl) (λs e=>recFacts_of (Bool.and_eq_true_iff.mp e).2) (by rfl) f Kj ⟨rfl,rfl,rfl,rfl,rfl,by decide +kernel⟩ x9 ?_
 intro w lU ag mg mb G ç fa o ô L è ä kV n hd u I r v args vals as c d j l i;obtain⟨K,H,t⟩:=ç;have ü:=(Ground.X G).1;have ö:=(Ground.X G).2;have î:=glob_more (Ground.glob G (by decide +kernel) (by decide +kernel)) ö;refine Ground.open G ?_;intro û é D ê TW;try (refine guard_noD D (by decide +kernel) ?_;clear D)
 obtain⟨_,_,â⟩:=bmod_of_top û;have A:=at_of_top û;try (obtain⟨_,_,p,B0⟩:=based_of_top û rfl r n hd;have ù:L=_:=p;subst ù;clear p)
 clear r
 wrow_args c d j l i
 all_goals (
  first | refine callC_kw (enter_call ?_) | refine enter_call ?_ | refine callC_kw (enter_callW ?_) | refine enter_callW ?_ | w_how
  w_top on
  try refine codeAny_mono ?_ (λ_ _ g=>GoodW.toG g)
  have K0:=below_caller (Top.heap û)
  w_call à n hd u I û F
  clear hd A
  k_drop
  skip)
 rename_i _ _ _ _ ns _ _ _ _ _ _ _ sc vs E W ra m P hI R Ff V4 bj ñ;rw[show ofPy (PyData.list (ns.map PyData.int))=.list (ns.map WData.int) by rw[ofPy,ofPys_ints]] at m;exact ak (FJ m) λ_ z C=>LX û (Top.seer û (by kernel_rfl)) (by rfl) H t F z C (by omega) (by rfl) (by rfl) (by rfl) (by rfl) (by kernel_rfl) (by kernel_rfl) λs' st e=>FH v st e
end Internal
end
theorem PySem.Challenge.cw_nm0154_01_holds : PySem.Challenge.rw_nm0154_01.Holds :=
  Internal.holds_all
