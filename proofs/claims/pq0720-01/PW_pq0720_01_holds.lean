import PyProof.Rows.All
import PyProof.CollectWalk
import PyProof.CompFree
import PyProof.Conv_int
import PyProof.DictTruth
import PyProof.DictTable
import PyProof.Draws
import PyProof.EnumMake
import PyProof.ExcArgs
import PyProof.ExcBaseAll.Exception
import PyProof.ExcClass3
import PyProof.StationsW
import PyProof.WalksMore
import PyProof.RangeFor
import PyProof.InstStoreFacts
import PyProof.IsiH_list
import PyProof.IsiHeapPairs
import PyProof.IsiPairs
import PyProof.ListCopy
import PyProof.RulesAs
import PyProof.ZipIter
import PyProof.TupleCall
import PyProof.TupleOfSeq
import PyProof.Rows.SortWalk
import KE.KListMore
import KE.KDictSum
import KE.KDictOf
import KE.KTypeName
import OpenK.AllK
import Wide.All
import Lean
import PySem.Challenge.RW_pq0720_01
set_option Elab.async false
set_option linter.all false
set_option maxRecDepth 1000000
set_option maxHeartbeats 0
set_option genCtorIdx false
set_option tactic.hygienic false
set_option genInjectivity false
set_option genSizeOf false
set_option bootstrap.genMatcherCode false
set_option backward.eqns.nonrecursive false
noncomputable section
namespace Mine.Internal
open Option renaming some->Y,casesOn->aB,none->G,isSome_iff_exists->lZ,map_eq_some_iff->DH,isSome_none->JN,isNone_some->Li,bind_some->FE,map->Ov
open Option.some renaming inj->an
open PySem renaming wpAny_bind->ab,Value->J,Shared->ai,wpAny_pure->aH,wpAny->ao,Addr->af,Expr->ah,model->aA,holding->bO,standAt->bT,Heap->av,wpAny_holding->ck,wpAny_mono->bQ,Around->aY,wpAny_field->b9,sizeLine_eq->cT,Str->am,wpAny_standAt->dQ,mainGlobals->da,assignEach->c0,Stmt->aP,execs->bb,Comprehension->fe,wpAny_setField_rec->hU,eval->aX,codeAny->cu,NameKind->db,wpAny_callSpecial?_slot->k7,wpAny_newObj_type->ib,Env->aF,wpAny_seqItems->hm,DictEntry->eb,rawInt->cB,starEach->eg,assign->cU,wpAny_call_entry->jU,assignInOrder->iq,sysModules->f3,codeAny_mono->hW,wpAny_loadPart_at->lj,Pos->aN,builtinsNs->gE,IsPair->de,World->cf,Scope->cn,wpAny_rule->hG,Program->e9,call->bV,swappedStores->lg,Sem->aZ,sizeLine->gF,Arguments->hN,wpAny_setField->mn,wpAny_mkText->kJ,backTo->eF,exec->b0,codeAny_builtin->og,Result->eX,sliceBounds->kM,codeAny_call_builtin->sy,excClassObj->li,checkBuiltinCall->p2,swapsWith->ja,field->d2,wpAny_isSubtype_exc->s5,letOwnedTupleGo->qg,recursionLimit->ph,getMethod_builtin->sE,wpAny_storeName_local->vG,builtinLookup_eq_fast->xb,isTrue->gH,BoolOp->gI,wpAny_call->mf,wpAny_onRaise->qa,plainId_quiet->qx,CmpOp->fa,subscripted->nA,unpackItems->n4,Obj->bA,pyNext->hn,codeAny_of_tree->sY,operate->jF,spliced->iJ,wpAny_loadPart->r4,typeLookup->nP,slot_listiter_next->wA,setAttr->jI,wpAny_point->pC,IsRangeIter->p6,interactive->qi,OsState->j2,behindInMarks->rX,Model->gD,Operator->l3,getMethod->nR,noteFrame->n5,call_meets->p4,pyIter->i9,assignStores->s0,wpAny_typeOf->te,typeLookup_type->xa,wpAny_updateSeq->xe,wpAny_loadName_local->zx,newTuple->rR,binaryOp->nq,bindName->nE,setField->nX,IsEnum->jW,unsupported->s2,compareOp->ps,assignAll->qj,treeTable->rA,foldedForSure->vW,ExceptHandler->v0,wpAny_attempt->wg,attributeBase->wj,IsZip->io,wpAny_Name->rQ,wpAny_load->sU,cLine->iH,wpAny_truthy_bool->zl,valueAt->nu,release->nw,getItem->nB,slot_list_getitem->zQ,Flow->f6,notedBy->n6,setItem->n8,foldedSetIterable->BW,compEnvC->qt,wpAny_askSetting->zW,updateSeq->sJ,wpAny_isInstance->Bm,wpAny_pyIter_zip->Bs,arm_assign_Tuple->By,cellsFrom->ti,ClassData->tu,opaqueClassAbove->CY,valueOrNone->wl,evalThenUse->wY,unsetMember->xu,newList->rS,wpAny_specialOf->Bv,theTreesLotGoes->BE,wpAny_dropValue->BO,getAttr->pA,evalEach->rY,letTemporaryGo->zS,constantsAlone->Aq,wpAny_newTuple->Bh,execs_cons->wW,compTurn->s6,wpAny_newFunctionEnv_cells->Mf,Tok->d1,wpAt_of_wpAny->MS,markedBehindIn_of_false->Hu,list_append->Iw,IsEnumOut->wC,concat_meets->zD,aRefKeyMayBeTheName_at->GO,callType_new->Bt,stored->qk,callerA->u2,codeAny_call_function->Me,wpAt_bind->MR,wpAny_letTemporaryGo->GH,callWith->wq,wpAny_of_eq->A4,wpAny_throw->A5,wpAny_updateSeq_pair->Jk,wpAny_letGo->Bg,wpAny_noted->BF,unbindBehindTheSuite->K5,loadIfAlive->Ce,GenState->xt,attributeErrorLeaves->MD,entry_listiter_next->I4,truthy->rW,wpAny_getItem_list->Gx,sliceRange->z9,args_listiter_next->I5,wpAny_pyIter_tuple->Jt,excMatches->Ca,allTrue->vp,slot_dict_getitem->Gz,evalOpt->wm,wpAny_pyIter_enum->Jy,wpAny_Return_some->J1,slot_list_setitem->J7,classAt->za,noFill_tuple_add->F9,wpAny_getItem_of->GA,wpAny_updatePart->GP,wpAny_lookBehind->GR,pastItsLine_dict->GS,storeName->z0,onTheHeap->AR,exec_Expr->BN,wpAny_madeBy_exc->MP,wpAny_ite_false->LW,importedModules->Tn,boolOp->vq,boundAndCalled->HC,eval_Subscript->H1,methodCallForm->H7,firstArgMember->I3,again->s7,cellOf->w3,FuncData->Cs,wpAny_runValue->Ml,Thread->yW
open Bool renaming casesOn->ap,true->M,false->E,and_eq_true_iff->ht,false_ne_true->i3,false_eq_true->ms,eq_iff_iff->nk,or_true->s4,and_false->vD,and_true->zq,not_eq_true->Kf
open List renaming casesOn->aS,mem_cons->aW,mem_singleton->cy,map_cons->cp,length_append->fL,mem_cons_of_mem->gO,mem_cons_self->gf,nodup_cons->gn,mem_map->fg,getElem?_eq_getElem->kI,length_cons->h9,lookup_cons->ia,append_nil->iK,length_map->i4,nodup_nil->jb,mem_append->lz,contains_cons->n9,mem_append_right->rG,forIn_cons->mm,length_eq_zero_iff->tq,length->lh,not_mem_nil->p3,zip_cons_cons->s3,eq_nil_of_length_eq_zero->zC,filterMap_cons->wo,toList_toArray->yY,size_toArray->ve,lookup->qs,map_nil->s1,length_nil->xL,forIn_nil->wB,mem_append_left->E4,append_assoc->Cm,mem_reverse->BV,getElem_mem->Cp,length_drop->Cq,mem_flatMap->E5,replicate->BB,getElem?_eq_none_iff->Fn,getElem?_eq_none->LP,getElem_of_mem->FR,zip_eq_zipWith->Kj,findIdx?_cons->JO,any_eq_false->H8,getElem_drop->LO,map_reverse->Ks,find?_cons->Gd,head?_drop->Jh,map_append->J8,drop_zero->JM,any_cons->GC,range'->IL,drop->Jw
open PySem.Heap renaming get?_push_of_some->cZ,get?_push_size->ct,lt_size->bJ,SameBut->cL,get?_update_ne->f5,get?_update_self->hk,size_push->lb,ExtBut->i5,get?_update_other->wS,get?_none_of_le->Kw,update->GL
open PySem.Expr renaming casesOn->bE
open Array renaming length_toList->eQ,getElem?_toList->hf,getElem?_eq_some_iff->iI,getElem?_eq_getElem->vb,size_push->pm,any_toList->vC,toList_append->zE,toList_push->A0,isEmpty_iff_size_eq_zero->F8,mem_toList_iff->FS,toArray_toList->Ir,ext'->zf,forIn_toList->Lk
open PySem.Value renaming ref->bZ,none->cA,isStrOf->eH,casesOn->hV,builtin->jR,str->pB,type->sQ,bool->FI
open PySem.NameKind renaming casesOn->eU,cell->qr
open List.cons renaming inj->dP,injEq->my
open PySem.Str renaming ofString->dt,utf8Of->IT
open Prod.mk renaming inj->du,injEq->DX
open PySem.Heap.SameBut renaming update->i6
open PySem.Obj renaming data_mapFields->i7,mapSeq->eV,mapFields->hq,isFreed_of_fields->sI,cls_mapFields->I6,putName->GQ
open PySem.W renaming dictOf->cX,findIn->c2,boot_heap->gA,look_both->lV,looks_findIn->p0,boot_drawn->o6,instObj->kC,boot_toks->rB,topStub->m8,clsIn->ic,findCls->oi,stepT->ET,keepIn->mi,typeIn->ml,emptyDict->tl,looks_clsIn->vB,callWith_of->wr,any_some->r2,plainOver->vv,findObj->r3,SharedT->uL,through->uM,layAllW->u1,putL->jH,openGood->y9,Looks->p1,makesIn->xo,set_plain->zV,specialIn->CX,lookIn->vw,CFound->y2
open PySem.Around renaming under_plainId->oh
open PySem.Flow renaming next->gm
open PySem.PyData renaming keyHash->kK
open PySem.F renaming excBase_Exception->tr,slot_list_getattribute->xv,slot_list_extend->ww,plainAttrs_list->wv,plain_list_iadd->xq,slot_list_append->AV,entry_proto_collect->Mm,plain_proto_collect->Mn,args_list_append_2->Iv,args_list_extend_2->IA,args_object_init_2->JC,entry_list_append->Iu,entry_list_extend->Iz,slot_list_index->Ic,slot_str_encode->Ig,entry_list_iadd->Mo,slot_list_pop->Ib,slot_dict_get->Ij
open Except renaming casesOn->mx
open PySem.Calls renaming Name_function_global->pk,loadGlobal_builtin->zz,loadGlobal_global->zy
open Int renaming ofNat->hI,casesOn->kE,natCast_nonneg->r0,toNat_natCast->sH,ofNat_lt->vu,lt_trans->zP,negSucc->zF,fmod->yi,not_lt->Gu
open Std.Legacy renaming Range->p5
open Classical renaming byContradiction->va,em->u8
open PyProof.Rows renaming subscriptTail->l6,tail_any->pu,mul_int->TB,floordiv_int->TC
open ForInStep renaming yield->qm
open PySem.Challenge renaming rw_pq0720_01->Fa,pw_pq0720_01->TA
open False renaming elim->mg
open Ne renaming symm->h8
open PySem.BoolOp renaming casesOn->rZ
open PySem.Code renaming builtin->qC,quiet_builtin->MU
open PySem.UnaryOp renaming casesOn->vo
open PySem.Sem renaming wp_release->vm
open PySem.Const renaming casesOn->wb
open PySem.MeetsSeq renaming EqGives->AZ,list_pop_last->TD
open PySem.Stmt renaming casesOn->xj
open PySem.Data renaming casesOn->yZ
open PySem.W.WShape renaming hasItems->E9
open PySem.SeqAt renaming EqAt->fF,RcNeAt->rP
open PySem.W.Fast renaming tw10156331382660048174->RZ,tw11892475500146522536->R0,tw14364793385576792824->R1,tw6613529449190102663->RY,tw9807087744658564304->Tr,tw3471404346716756564->Tu
open PySem.W.Looks renaming of_pure->AU
open PySem.Shared renaming heap->Br
open And renaming intro->w2
open PySem.Operator renaming casesOn->Gc
open Prod renaming ext->xg
open PySem.IsL renaming update->AY
open PySem.ExcName renaming means->Tm
open PySem.CmpOp renaming casesOn->Gf
open Std.Legacy.Range renaming forIn_eq_forIn_range'->TF,size->TG
open PySem.W.WData renaming casesOn->Tj
open PySem.AutoSeq1 renaming list_extend_list_list_0->TE
open Eq renaming mpr->x6
open List.Pairwise renaming of_map->TK
open PySem.Heap.ExtBut renaming refl->TH
open PySem.Heap.DictOf renaming new->TL,dictAt->TM
open PySem PySem.W PySem.Calls PyProof.Rows PySem.SeqAt
theorem ak{e h H:Prop}(j:e/\h)(A:(e)->(h)->H):H:=A j.1 j.2
theorem aD{c:Sort _}{e:c->Prop}{H:Prop}(j:∃a,e a)(A:∀a:c,(e a)->H):H:=j.elim λa d=>A a d
theorem au{c:Sort _}{e h:c->Prop}{H:Prop}(j:∃a,e a/\h a)(A:∀a:c,(e a)->(h a)->H):H:=j.elim λa d=>A a d.1 d.2
theorem br{e h m H:Prop}(j:e/\h/\m)(A:(e)->(h)->(m)->H):H:=A j.1 j.2.1 j.2.2
theorem dZ{c g:Sort _}{e h:c->g->Prop}{H:Prop}(j:∃a,∃S,e a S/\h a S)(A:∀a:c,∀S:g,(e a S)->(h a S)->H):H:=j.elim λa d=>d.elim λS b=>A a S b.1 b.2
theorem bX{c:Sort _}{e h m:c->Prop}{H:Prop}(j:∃a,e a/\h a/\m a)(A:∀a:c,(e a)->(h a)->(m a)->H):H:=j.elim λa d=>A a d.1 d.2.1 d.2.2
theorem cR{c g:Sort _}{e:c->g->Prop}{H:Prop}(j:∃a,∃S,e a S)(A:∀a:c,∀S:g,(e a S)->H):H:=j.elim λa d=>d.elim λS b=>A a S b
theorem kz{c g:Sort _}{e h m:Prop}{P3 l:c->g->Prop}{H:Prop}(j:e/\h/\m/\∃a,∃S,P3 a S/\l a S)(A:(e)->(h)->(m)->∀a:c,∀S:g,(P3 a S)->(l a S)->H):H:=j.2.2.2.elim λT x=>x.elim λo q=>A j.1 j.2.1 j.2.2.1 T o q.1 q.2
theorem hD{c g:Sort _}{e h m:c->g->Prop}{H:Prop}(j:∃a,∃S,e a S/\h a S/\m a S)(A:∀a:c,∀S:g,(e a S)->(h a S)->(m a S)->H):H:=j.elim λa d=>d.elim λS b=>A a S b.1 b.2.1 b.2.2
theorem lW{c g:Sort _}{e h:c->Prop}{m:c->g->Prop}{H:Prop}(j:∃a,e a/\h a/\∃S,m a S)(A:∀a:c,(e a)->(h a)->∀S:g,(m a S)->H):H:=j.elim λa d=>d.2.2.elim λT x=>A a d.1 d.2.1 T x
theorem fV{c:Sort _}{e h m P3:c->Prop}{H:Prop}(j:∃a,e a/\h a/\m a/\P3 a)(A:∀a:c,(e a)->(h a)->(m a)->(P3 a)->H):H:=j.elim λa d=>A a d.1 d.2.1 d.2.2.1 d.2.2.2
theorem jy{c g k f:Sort _}{e h m:c->g->k->f->Prop}{H:Prop}(j:∃a,∃S,∃i,∃T,e a S i T/\h a S i T/\m a S i T)(A:∀a:c,∀S:g,∀i:k,∀T:f,(e a S i T)->(h a S i T)->(m a S i T)->H):H:=j.elim λa d=>d.elim λS b=>b.elim λi p=>p.elim λT x=>A a S i T x.1 x.2.1 x.2.2
theorem lX{c g k:Sort _}{e h m P3:c->g->k->Prop}{H:Prop}(j:∃a,∃S,∃i,e a S i/\h a S i/\m a S i/\P3 a S i)(A:∀a:c,∀S:g,∀i:k,(e a S i)->(h a S i)->(m a S i)->(P3 a S i)->H):H:=j.elim λa d=>d.elim λS b=>b.elim λi p=>A a S i p.1 p.2.1 p.2.2.1 p.2.2.2
theorem u4{c g:Sort _}{e h m P3 l:c->Prop}{r:c->g->Prop}{H:Prop}(j:∃a,e a/\h a/\m a/\P3 a/\l a/\∃S,r a S)(A:∀a:c,(e a)->(h a)->(m a)->(P3 a)->(l a)->∀S:g,(r a S)->H):H:=j.elim λa d=>d.2.2.2.2.2.elim λb C=>A a d.1 d.2.1 d.2.2.1 d.2.2.2.1 d.2.2.2.2.1 b C
theorem e7{e h m P3 H:Prop}(j:e/\h/\m/\P3)(A:(e)->(h)->(m)->(P3)->H):H:=A j.1 j.2.1 j.2.2.1 j.2.2.2
theorem fW{e h m P3 l H:Prop}(j:e/\h/\m/\P3/\l)(A:(e)->(h)->(m)->(P3)->(l)->H):H:=A j.1 j.2.1 j.2.2.1 j.2.2.2.1 j.2.2.2.2
theorem m9{c g k f:Sort _}{e h m P3:c->g->k->f->Prop}{H:Prop}(j:∃a,∃S,∃i,∃T,e a S i T/\h a S i T/\m a S i T/\P3 a S i T)(A:∀a:c,∀S:g,∀i:k,∀T:f,(e a S i T)->(h a S i T)->(m a S i T)->(P3 a S i T)->H):H:=j.elim λa d=>d.elim λS b=>b.elim λi p=>p.elim λT x=>A a S i T x.1 x.2.1 x.2.2.1 x.2.2.2
theorem g7{c g k:Sort _}{e h:c->g->k->Prop}{H:Prop}(j:∃a,∃S,∃i,e a S i/\h a S i)(A:∀a:c,∀S:g,∀i:k,(e a S i)->(h a S i)->H):H:=j.elim λa d=>d.elim λS b=>b.elim λi p=>A a S i p.1 p.2
theorem pd{c g k:Sort _}{e h m P3 l r:c->g->k->Prop}{H:Prop}(j:∃a,∃S,∃i,e a S i/\h a S i/\m a S i/\P3 a S i/\l a S i/\r a S i)(A:∀a:c,∀S:g,∀i:k,(e a S i)->(h a S i)->(m a S i)->(P3 a S i)->(l a S i)->(r a S i)->H):H:=j.elim λa d=>d.elim λS b=>b.elim λi p=>A a S i p.1 p.2.1 p.2.2.1 p.2.2.2.1 p.2.2.2.2.1 p.2.2.2.2.2
theorem pe{c g:Sort _}{e h m P3 l:c->g->Prop}{H:Prop}(j:∃a,∃S,e a S/\h a S/\m a S/\P3 a S/\l a S)(A:∀a:c,∀S:g,(e a S)->(h a S)->(m a S)->(P3 a S)->(l a S)->H):H:=j.elim λa d=>d.elim λS b=>A a S b.1 b.2.1 b.2.2.1 b.2.2.2.1 b.2.2.2.2
theorem nc{c:Sort _}{e:Prop}{h:c->Prop}{H:Prop}(j:e/\∃a,h a)(A:(e)->∀a:c,(h a)->H):H:=j.2.elim λS b=>A j.1 S b
theorem rH{c g k f:Sort _}{e h m P3 l r:c->g->k->f->Prop}{H:Prop}(j:∃a,∃S,∃i,∃T,e a S i T/\h a S i T/\m a S i T/\P3 a S i T/\l a S i T/\r a S i T)(A:∀a:c,∀S:g,∀i:k,∀T:f,(e a S i T)->(h a S i T)->(m a S i T)->(P3 a S i T)->(l a S i T)->(r a S i T)->H):H:=j.elim λa d=>d.elim λS b=>b.elim λi p=>p.elim λT x=>A a S i T x.1 x.2.1 x.2.2.1 x.2.2.2.1 x.2.2.2.2.1 x.2.2.2.2.2
theorem nd{c g k:Sort _}{e h m:c->g->k->Prop}{H:Prop}(j:∃a,∃S,∃i,e a S i/\h a S i/\m a S i)(A:∀a:c,∀S:g,∀i:k,(e a S i)->(h a S i)->(m a S i)->H):H:=j.elim λa d=>d.elim λS b=>b.elim λi p=>A a S i p.1 p.2.1 p.2.2
theorem rI{c g:Sort _}{e h m P3:c->g->Prop}{H:Prop}(j:∃a,∃S,e a S/\h a S/\m a S/\P3 a S)(A:∀a:c,∀S:g,(e a S)->(h a S)->(m a S)->(P3 a S)->H):H:=j.elim λa d=>d.elim λS b=>A a S b.1 b.2.1 b.2.2.1 b.2.2.2
theorem Fd{c g:Sort _}{e:c->Prop}{h m P3:c->g->Prop}{H:Prop}(j:∃a,e a/\∃S,h a S/\m a S/\P3 a S)(A:∀a:c,(e a)->∀S:g,(h a S)->(m a S)->(P3 a S)->H):H:=j.elim λa d=>d.2.elim λi p=>A a d.1 i p.1 p.2.1 p.2.2
theorem rJ{c:Sort _}{e:Prop}{h m:c->Prop}{H:Prop}(j:e/\∃a,h a/\m a)(A:(e)->∀a:c,(h a)->(m a)->H):H:=j.2.elim λS b=>A j.1 S b.1 b.2
theorem aQ{e h m:Prop}(o:e)(f:h)(L:m):e/\h/\m:=⟨o,f,L⟩
theorem aC{c:Sort _}{e h:c->Prop}(s:c)(o:e s)(f:h s):∃a,e a/\h a:=⟨s,o,f⟩
theorem bP{e h m P3:Prop}(o:e)(f:h)(L:m)(v:P3):e/\h/\m/\P3:=⟨o,f,L,v⟩
theorem cW{c:Sort _}{e h m:c->Prop}(s:c)(o:e s)(f:h s)(L:m s):∃a,e a/\h a/\m a:=⟨s,o,f,L⟩
theorem g8{e h m P3 l:Prop}(o:e)(f:h)(L:m)(v:P3)(X:l):e/\h/\m/\P3/\l:=⟨o,f,L,v,X⟩
theorem d9{c g:Sort _}{e h:c->g->Prop}(s:c)(d:g)(o:e s d)(f:h s d):∃a,∃S,e a S/\h a S:=⟨s,d,o,f⟩
theorem ea{c g:Sort _}{e:c->g->Prop}(s:c)(d:g)(o:e s d):∃a,∃S,e a S:=⟨s,d,o⟩
theorem max{c:Sort _}{e:Prop}{h:c->Prop}(o:e)(s:c)(f:h s):e/\∃a,h a:=⟨o,s,f⟩
theorem fp{c:Sort _}{e h m P3:c->Prop}(s:c)(o:e s)(f:h s)(L:m s)(v:P3 s):∃a,e a/\h a/\m a/\P3 a:=⟨s,o,f,L,v⟩
theorem u5{c:Sort _}{e h:Prop}{m:c->Prop}(o:e)(f:h)(s:c)(L:m s):e/\h/\∃a,m a:=⟨o,f,s,L⟩
theorem hE{c g:Sort _}{e h m:c->g->Prop}(s:c)(d:g)(o:e s d)(f:h s d)(L:m s d):∃a,∃S,e a S/\h a S/\m a S:=⟨s,d,o,f,L⟩
theorem fX{c:Sort _}{e:Prop}{h m:c->Prop}(o:e)(s:c)(f:h s)(L:m s):e/\∃a,h a/\m a:=⟨o,s,f,L⟩
theorem gC{c g k:Sort _}{e h:c->g->k->Prop}(s:c)(d:g)(r:k)(o:e s d r)(f:h s d r):∃a,∃S,∃i,e a S i/\h a S i:=⟨s,d,r,o,f⟩
theorem kA{c:Sort _}{e h m P3 l:c->Prop}(s:c)(o:e s)(f:h s)(L:m s)(v:P3 s)(X:l s):∃a,e a/\h a/\m a/\P3 a/\l a:=⟨s,o,f,L,v,X⟩
theorem pf{c g:Sort _}{e h m P3:c->g->Prop}(s:c)(d:g)(o:e s d)(f:h s d)(L:m s d)(v:P3 s d):∃a,∃S,e a S/\h a S/\m a S/\P3 a S:=⟨s,d,o,f,L,v⟩
theorem g9{c g:Sort _}{e h:c->Prop}{m:c->g->Prop}(s:c)(o:e s)(f:h s)(d:g)(L:m s d):∃a,e a/\h a/\∃S,m a S:=⟨s,o,f,d,L⟩
theorem nf{e h m P3 l r:Prop}(o:e)(f:h)(L:m)(v:P3)(X:l)(a:r):e/\h/\m/\P3/\l/\r:=⟨o,f,L,v,X,a⟩
theorem fY{c g k:Sort _}{e h m P3:c->g->k->Prop}(s:c)(d:g)(r:k)(o:e s d r)(f:h s d r)(L:m s d r)(v:P3 s d r):∃a,∃S,∃i,e a S i/\h a S i/\m a S i/\P3 a S i:=⟨s,d,r,o,f,L,v⟩
theorem zb{c g:Sort _}{e h m P3 l:c->g->Prop}(s:c)(d:g)(o:e s d)(f:h s d)(L:m s d)(v:P3 s d)(X:l s d):∃a,∃S,e a S/\h a S/\m a S/\P3 a S/\l a S:=⟨s,d,o,f,L,v,X⟩
theorem zc{c g k:Sort _}{e h m:c->g->k->Prop}(s:c)(d:g)(r:k)(o:e s d r)(f:h s d r)(L:m s d r):∃a,∃S,∃i,e a S i/\h a S i/\m a S i:=⟨s,d,r,o,f,L⟩
theorem c9{c g k:Sort _}{e:c->g->k->Prop}(s:c)(d:g)(r:k)(o:e s d r):∃a,∃S,∃i,e a S i:=⟨s,d,r,o⟩
theorem hd{x:Prop}(A:∀H:Prop,(x->H)->H):x:=A x id
@[elab_as_elim] theorem U{N:Sort u}{v m:N}{motive:N->Prop}(j:v=m)(z:motive m):motive v:=j▸z
@[elab_as_elim] theorem fE{N:Type u}{motive:N->Prop}{y:N}{g:List N}(j:y∈g)(A:∀X,X∈g->motive X):motive y:=A y j
theorem es{N:Type u}{P:N->Prop}{v:N}{g:List N}(j:P v)(A:∀y,y∈g->P y):∀y,y∈v::g->P y:=List.forall_mem_cons.mpr ⟨j,A⟩
theorem et{N:Type u}{P:N->Prop}:∀y,y∈([]:List N)->P y:=λI j=>nomatch j
theorem ha{N:Type u}{v:N}{H:Prop}(j:Y v=G):H:=by cases j
theorem ag{N:Type u}{v:N}{H:Prop}(j:G=Y v):H:=by cases j
theorem cS{H:Prop}(j:M=E):H:=by cases j
theorem aG{H:Prop}(j:E=M):H:=by cases j
theorem zd{z:Nat}(j:z<3):z=0\/z=1\/z=2:=(Nat.lt_succ_iff_lt_or_eq.mp j).elim (λj=>(Nat.lt_succ_iff_lt_or_eq.mp j).elim (λj=>.inl (Nat.lt_one_iff.mp j)) λj=>.inr (.inl j)) λj=>.inr (.inr j)
theorem ze{z:Nat}(j:z<4):z=0\/z=1\/z=2\/z=3:=(Nat.lt_succ_iff_lt_or_eq.mp j).elim (λj=>(zd j).imp id (Or.imp id .inl)) λj=>.inr (.inr (.inr j))
theorem kB{C z:Nat}(j:C<z):∃k,z=k+1:=Nat.exists_eq_succ_of_ne_zero (Nat.ne_of_gt (Nat.lt_of_le_of_lt (Nat.zero_le C) j))
theorem Tz{z:Nat}(j:z<2)(d:¬z=0):z=1:=Nat.le_antisymm (Nat.le_of_lt_succ j) (Nat.pos_of_ne_zero d)
abbrev Key :=List Nat
noncomputable def ay(x:am):Key:=x.cps.toList
theorem jz{y X:am}(j:ay y=ay X):y=X:=by cases y;cases X;dsimp only[ay] at j;congr;exact zf j
noncomputable def a0 :Key->Key->Bool
 | [],[]=>M|v::g,m::T=>match Nat.beq v m with
  |true=>a0 g T|false=>E
 |_,_=>E
theorem dL :∀{v m:Key},a0 v m=M<->v=m:=by
 intro s;induction s with
 |nil=>
  intro D;induction D using aS with|nil=>exact⟨λI=>rfl,λI=>rfl⟩|cons B d=>exact⟨λj=>aG j,nofun⟩
 |cons r z F=>
  intro D;induction D using aS with|nil=>exact⟨λj=>aG j,nofun⟩|cons B d=>
   show(match Nat.beq r B with|true=>a0 z d|false=>E)=M<->_
   generalize j:Nat.beq r B=aw;induction aw using ap with|true=>have:=Nat.eq_of_beq_eq_true j;clear j;subst this;exact⟨λu=>congrArg _ (F.mp u),λu=>F.mpr (dP u).2⟩|false=>exact⟨λu=>aG u,λu=>absurd (dP u).1 (Nat.ne_of_beq_eq_false j)⟩
theorem ng{v m:Key}(j:a0 v m=E):v≠m:=λo=>by rw[dL.mpr o] at j;exact cS j
set_option genCtorIdx true in
inductive d0 where
 |len|list|tuple|dict|range|zip|enumerate|sorted|int|isinstance|exception
set_option genCtorIdx true in
inductive e8 where
 |ref (a:Nat)
 |bi (b:d0)
noncomputable def jA :d0->J
 |.len=>.builtin "len"|.list=>.type "list"|.tuple=>.type "tuple"|.dict=>.type "dict"|.range=>.type "range"|.zip=>.type "zip"|.enumerate=>.type "enumerate"|.sorted=>.builtin "sorted"|.int=>.type "int"|.isinstance=>.builtin "isinstance"|.exception=>.type "Exception"
def h7 :e8->J
 |.ref v=>.ref v|.bi m=>jA m
set_option genCtorIdx true in
set_option genInjectivity true in
inductive V where
 |none
 |bool (b:Bool)
 |int (i:Int)
 |str (s:Key)
 |bytes (b:List Nat)
 |tup (xs:List V)
 |ref (k n:Nat)
 |glob (g:e8)
set_option genCtorIdx true in
inductive aj where
 |list (l:List V)
 |dict (l:List (Key×V))
 |inst (c:af) (l:List (Key×V))
 |exc (l:List (Key×V)) (raised:Bool)
 |ce
inductive bl where
 |nil
 |node (v:Option aj) (l r:bl)
namespace bl
noncomputable def get :bl->Nat->Option aj
 |.nil,_=>G|.node N g T,i=>match Nat.beq i 0 with
  |true=>N|false=>match Nat.beq (i%2) 1 with
   |true=>g.get (i/2)|false=>T.get (i/2-1)
noncomputable def put :Nat->bl->Nat->Option aj->bl
 |0,.nil,_,r=>.node r .nil .nil|0,.node _ g T,_,r=>.node r g T|S+1,.nil,f,r=>match Nat.beq f 0 with
   |true=>.node r .nil .nil|false=>match Nat.beq (f%2) 1 with
    |true=>.node G (put S .nil (f/2) r) .nil|false=>.node G .nil (put S .nil (f/2-1) r)
 |S+1,.node N g T,f,r=>match Nat.beq f 0 with
   |true=>.node r g T|false=>match Nat.beq (f%2) 1 with
    |true=>.node N (put S g (f/2) r) T|false=>.node N g (put S T (f/2-1) r)
theorem cH(v m:Nat):Nat.beq v m=decide (v=m):=by
 generalize j:Nat.beq v m=K;induction K using ap with|true=>have:=Nat.eq_of_beq_eq_true j;simp[this]|false=>have:=Nat.ne_of_beq_eq_false j;simp[this]
theorem get_nil(f:Nat):bl.nil.get f=none:=rfl
theorem get_node(v l r)(f:Nat):(bl.node v l r).get f=if f=0 then v else if f%2=1 then l.get (f/2) else r.get (f/2-1):=by
 show(match Nat.beq f 0 with|true=>v|false=>match Nat.beq (f%2) 1 with|true=>l.get (f/2)|false=>r.get (f/2-1))=_
 rw[cH,cH];by_cases j:f=0
 ·simp[j]
 ·by_cases u:f%2=1 <;>simp[j,u]
theorem Fe(S:Nat)(f:Nat)(aw):put (S+1) .nil f aw=if f=0 then .node aw .nil .nil else if f%2=1 then .node G (put S .nil (f/2) aw) .nil else .node G .nil (put S .nil (f/2-1) aw):=by
 show(match Nat.beq f 0 with|true=>bl.node aw .nil .nil|false=>match Nat.beq (f%2) 1 with|true=>.node G (put S .nil (f/2) aw) .nil|false=>.node G .nil (put S .nil (f/2-1) aw))=_
 rw[cH,cH];by_cases j:f=0
 ·simp[j]
 ·by_cases u:f%2=1 <;>simp[j,u]
theorem Ff(S:Nat)(v l r)(f:Nat)(aw):put (S+1) (.node v l r) f aw=if f=0 then .node aw l r else if f%2=1 then .node v (put S l (f/2) aw) r else .node v l (put S r (f/2-1) aw):=by
 show(match Nat.beq f 0 with|true=>bl.node aw l r|false=>match Nat.beq (f%2) 1 with|true=>.node v (put S l (f/2) aw) r|false=>.node v l (put S r (f/2-1) aw))=_
 rw[cH,cH];by_cases j:f=0
 ·simp[j]
 ·by_cases u:f%2=1 <;>simp[j,u]
noncomputable def val :bl->Option aj
 |.nil=>G|.node N _ _=>N
noncomputable def left :bl->bl
 |.nil=>.nil|.node _ g _=>g
noncomputable def right :bl->bl
 |.nil=>.nil|.node _ _ T=>T
theorem get_eq(d:bl)(f:Nat):d.get f=if f=0 then d.val else if f%2=1 then d.left.get (f/2) else d.right.get (f/2-1):=by
 cases d with|nil=>simp[get_nil,val,left,right]|node N g T=>rw[get_node];rfl
theorem Fg(S:Nat)(d:bl)(f:Nat)(aw):put (S+1) d f aw=if f=0 then .node aw d.left d.right else if f%2=1 then .node d.val (put S d.left (f/2) aw) d.right else .node d.val d.left (put S d.right (f/2-1) aw):=by
 cases d with|nil=>rw[Fe];rfl|node N g T=>rw[Ff];rfl
theorem Fh{f k:Nat}(Z:f%2=1)(o:k%2=1)(j:k/2=f/2):k=f:=by rw[<-Nat.div_add_mod k 2,<-Nat.div_add_mod f 2,j,Z,o]
theorem zg{f:Nat}(Z:¬f%2=1)(i:¬f=0):0<f/2:=Nat.pos_of_ne_zero λu=>i (by have:=Nat.div_add_mod f 2;rw[u,Nat.mod_two_ne_one.mp Z] at this;exact this.symm)
theorem Fi{f k:Nat}(Z:¬f%2=1)(o:¬k%2=1)(i:¬f=0)(X:¬k=0)(j:k/2-1=f/2-1):k=f:=by rw[<-Nat.div_add_mod k 2,<-Nat.div_add_mod f 2,Nat.sub_one_cancel (zg o X) (zg Z i) j,Nat.mod_two_ne_one.mp Z,Nat.mod_two_ne_one.mp o]
theorem u6 :∀(S:Nat) (d:bl) (f k:Nat) (r:Option aj),f<2^S->(put S d f r).get k=if k=f then r else d.get k
 |0,d,f,k,r,j=>by
  have:f=0:=by simpa using j
  clear j;subst this;have o:put 0 d 0 r=.node r d.left d.right:=by cases d <;>rfl
  rw[o,get_node,get_eq d k];by_cases u:k=0 <;>simp[u]
 |S+1,d,f,k,r,j=>by
  have z:f/2<2^S:=Nat.div_lt_of_lt_mul (by rw[Nat.mul_comm];exact j)
  rw[Fg];by_cases i:f=0
  ·clear z j;subst i;rw[if_pos rfl,get_node,get_eq d k];by_cases u:k=0 <;>simp[u]
  ·rw[if_neg i];by_cases Z:f%2=1
   ·rw[if_pos Z,get_node,get_eq d k];by_cases u:k=0
    ·simp[u,h8 i]
    ·rw[if_neg u,if_neg u,u6 S _ _ _ _ z];by_cases o:k%2=1
     ·rw[if_pos o,if_pos o];by_cases X:k=f
      ·clear Z i z j;subst X;simp
      ·have:k/2≠f/2:=λy=>X (Fh Z o y);simp[X,this]
     ·have:k≠f:=λX=>o (X▸Z);simp[o,this]
   ·rw[if_neg Z,get_node,get_eq d k];by_cases u:k=0
    ·simp[u,h8 i]
    ·rw[if_neg u,if_neg u,u6 S _ _ _ _ (Nat.lt_of_le_of_lt (Nat.sub_le ..) z)];by_cases o:k%2=1
     ·have:k≠f:=λX=>Z (X▸o);simp[o,this]
     ·rw[if_neg o,if_neg o];by_cases X:k=f
      ·clear Z i z j;subst X;simp
      ·have:k/2-1≠f/2-1:=λy=>X (Fi Z o i u y);simp[X,this]
end bl
structure O where
 t:bl
 n:Nat
 bf:Nat
 aw:Nat->Nat->Option aj
namespace O
noncomputable def get(L:O):Nat->Nat->Option aj
 |0,i=>L.t.get i|A+1,i=>L.aw (A+1) i
def set(L:O)(A f:Nat)(z:Option aj):O:=match A with
 |0=>{L with t:=bl.put 24 L.t f z}
 |A+1=>{L with aw:=λw I=>match Nat.beq w (A+1) with
   |true=>match Nat.beq I f with
    |true=>z|false=>L.aw w I
   |false=>L.aw w I}
theorem get_set(L:O)(A f:Nat)(z:Option aj)(j:A=0->f<2^24)(w I:Nat):(L.set A f z).get w I=if w=A/\I=f then z else L.get w I:=by
 induction A using Nat.casesOn with
 |zero=>
  induction w using Nat.casesOn with|zero=>show(bl.put 24 L.t f z).get I=_;rw[bl.u6 _ _ _ _ _ (j rfl)];by_cases u:I=f <;>simp[u,O.get]|succ w=>rfl
 |succ A=>
  induction w using Nat.casesOn with|zero=>rfl|succ w=>
   show(match Nat.beq (w+1) (A+1) with|true=>(match Nat.beq I f with|true=>z|false=>L.aw (w+1) I)|false=>L.aw (w+1) I)=_
   rw[bl.cH,bl.cH];by_cases Z:w=A
   ·by_cases u:I=f <;>simp[Z,u,O.get]
   ·simp[Z,O.get]
end O
theorem cI{v m:Nat}(j:v≠m):Nat.beq v m=false:=by rw[bl.cH];exact decide_eq_false j
theorem u7{v m:Nat}(j:m<v):Nat.ble v m=false:=Bool.eq_false_iff.mpr λu=>Nat.not_le_of_lt j (Nat.le_of_ble_eq_true u)
theorem b3{N:Type}{i:gD}{s:aY}{d:aZ N}{a b:N->ai->Prop}{n:J->ai->Prop}{l:ai}(j:ao i s d a n l)(u:∀v l,a v l->b v l):ao i s d b n l:=bQ j u λI I y=>y
abbrev ax :=Nat->Nat->Option (af×af)
inductive foot(γ:ax)(a:af):Prop
 |mk (k n:Nat) (p:af×af) (e:γ k n=Y p) (x:a=p.1\/a=p.2)
inductive aO(γ:ax)(h:av)(a:af)(items:Array J):Prop
 |mk (n:Nat) (e:h.get? a=Y {cls:=.type "tuple",dict:=G,data:=.seq items n,slots:= #[]}) (bu:¬foot γ a)
theorem aO.tup{H:ax}{j:av}{v:af}{e:Array J}:aO H j v e->j.IsTuple v e|⟨C,o,_⟩=>g9 _ o rfl C rfl
theorem aO.bu{H:ax}{j:av}{v:af}{e:Array J}:aO H j v e->¬foot H v|⟨_,_,S⟩=>S
def nh(j:av)(v:af)(e:Array J):Prop:=∃C,j.get? v=Y {cls:=.type "list",dict:=G,data:=.seq e C,slots:= #[]}
theorem nh.isList{j:av}{v:af}{e:Array J}(y:nh j v e):j.IsList v e:=aD y λC o=>(g9 _ o rfl C rfl)
theorem aO.eP{H:ax}{j:av}{v:af}{e:Array J}:aO H j v e->∃C,j.get? v=Y {cls:=.type "tuple",dict:=G,data:=.seq e C,slots:= #[]}|⟨C,o,_⟩=>⟨C,o⟩
theorem aO.of{H:ax}{j:av}{v:af}{e:Array J}{n:Nat}(o:j.get? v=Y {cls:=.type "tuple",dict:=G,data:=.seq e n,slots:= #[]})(b:¬foot H v):aO H j v e:=⟨n,o,b⟩
theorem aO.keep{H K:ax}{j q:av}{v:af}{e:Array J}(y:aO H j v e)(b:¬foot K v)(A:∀r,j.get? v=Y r->q.get? v=Y r):aO K q v e:=by exact aD y.eP λC o=>.of (A _ o) b
inductive zh(s:Key)(v:J):Prop
 |mk (x:am) (t:d1) (e:v=.str x t) (k:ay x=s)
inductive Fj(b:List Nat)(v:J):Prop
 |mk (a:Array UInt8) (t:d1) (e:v=.bytes a t) (k:a.toList.map (·.toNat)=b)
inductive TupAt(P:af->Array J->Prop)(Q:List J->Prop)(v:J):Prop
 |mk (a:af) (items:Array J) (e:v=.ref a) (t:P a items) (r:Q items.toList)
inductive Fk(aw:Option (af×af))(v:J):Prop
 |mk (p:af×af) (e:aw=Y p) (q:v=.ref p.1)
inductive Fl{α:Type}(P:α->Prop)(Q:List α->Prop)(vs:List α):Prop
 |mk (v:α) (r:List α) (e:vs=v::r) (a:P v) (b:Q r)
inductive Fm(k:Key)(P:J->Prop)(Q:List eb->Prop)(bw:List eb):Prop
 |mk (hs:Int) (n:am) (t:d1) (v:J) (es':List eb) (e:bw=⟨hs,.str n t,v⟩::es') (q:ay n=k) (a:P v) (b:Q es')
mutual
def aq(H:ax)(j:av):V->J->Prop
 |.none,N=>N=.none|.bool m,N=>N=.bool m|.int f,N=>∃d,N=.int f d|.str l,N=>zh l N|.bytes m,N=>Fj m N|.tup xs,N=>TupAt (λv e=>aO H j v e) (λg=>aE H j xs g) N|.ref A C,N=>Fk (H A C) N|.glob c,N=>N=h7 c
def aE(H:ax)(j:av):List V->List J->Prop
 | [],vs=>vs= []|x::xs,vs=>Fl (λN=>aq H j x N) (λT=>aE H j xs T) vs
end
theorem aE.nil{H h}:aE H h [] []:=rfl
theorem aE.cons{H h y N xs e}(v:aq H h y N)(m:aE H h xs e):aE H h (y::xs) (N::e):=⟨N,e,rfl,v,m⟩
theorem aE.length{H h}:∀{x e},aE H h x e->e.length=x.length
 | [],_,o=>by subst o;rfl|_::_,_,⟨_,_,o,_,T⟩=>by subst o;simp[T.length]
theorem aE.append{H h}:∀{x e n C},aE H h x e->aE H h n C->aE H h (x++n) (e++C)
 | [],_,_,_,o,T=>by subst o;exact T|_::_,_,_,_,⟨_,_,o,v,m⟩,T=>by subst o;exact .cons v (m.append T)
theorem aE.get{H h}:∀{n:List V} {e:List J},aE H h n e->∀{i:Nat} {x:V},n[i]? =Y x->∃N,e[i]? =Y N/\aq H h x N
 | [],_,_,i,x,u=>by cases u|_::_,_,⟨N,T,o,v,m⟩,0,x,u=>by subst o;simp at u;subst u;exact aC N rfl v|_::_,_,⟨N,T,o,v,m⟩,i+1,x,u=>by subst o;simp at u;exact m.get u
theorem aE.none{H h}{x:List V}{e:List J}(T:aE H h x e){f:Nat}(u:x[f]? =G):e[f]? =none:=by rw[Fn] at u⊢;exact U T.length u
theorem aE.drop{H h}:∀{x e},aE H h x e->∀C,aE H h (x.drop C) (e.drop C)
 |_,_,T,0=>T| [],_,o,_+1=>by subst o;rfl|_::_,_,⟨_,_,o,_,m⟩,C+1=>by subst o;exact m.drop C
theorem aE.reverse{H h}:∀{x e},aE H h x e->aE H h x.reverse e.reverse
 | [],_,o=>by subst o;rfl|_::_,_,⟨_,_,o,v,m⟩=>by subst o;simpa using m.reverse.append (.cons v .nil)
def ec(H:ax)(j:av):List (Key×V)->List eb->Prop
 | [],n=>n= []|(A,x)::T,n=>Fm A (aq H j x) (λb=>ec H j T b) n
inductive Fo(γ:ax)(h:av)(p:af×af)(C:af)(l:List (Key×V))(raised:Bool):Prop
 |mk (bw:List eb) (n:Nat) (vs:Array J) (a:h.get? p.1=Y ⟨.ref C,Y p.2,.fields vs,#[]⟩) (b:h.get? p.2=Y (cX bw n)) (d:ec γ h l bw) (z:1<vs.size/\(raised=E->vs[1]? =Y .none))
inductive Fp(P:Array J->Prop)(Q:List J->Prop)(p:af×af):Prop
 |mk (e:p.1=p.2) (items:Array J) (t:P items) (r:Q items.toList)
inductive Fq(P:List (am×J)->Prop)(Q:List J->Prop)(ks:List Key)(p:af×af):Prop
 |mk (e:p.1=p.2) (kvs:List (am×J)) (d:P kvs) (k:kvs.map (λx=>ay x.1)=ks/\Q (kvs.map (·.2)))
inductive Ft(h:av)(C:af)(P:List eb->Prop)(p:af×af):Prop
 |mk (bw:List eb) (n:Nat) (a:h.get? p.1=Y (kC C p.2)) (b:h.get? p.2=Y (cX bw n)) (d:P bw)
inductive Fu(h:av)(p:af×af):Prop
 |mk (e:p.1=p.2) (u v:J) (a:h.get? p.1=Y {cls:=.type "tuple",data:=.seq #[u,v]})
structure aa where
 prog:e9
 w:cf
 base:av
 K:Frag
 hF:am->Option J
 lY:am->Option J
 X:af
def c4(B:aa)(H:ax)(j:av)(p:af×af):aj->Prop
 |.list g=>Fp (nh j p.1) (aE H j g) p|.dict g=>Fq (j.DictOf (strKind B.prog B.w) p.1) (aE H j (g.map (·.2))) (g.map (·.1)) p|.inst x g=>Ft j x (ec H j g) p|.exc g T=>Fo H j p B.X g T|.ce=>Fu j p
structure Rep(c:aa)(γ:ax)(σ:O)(h:av):Prop where
 stays:c.base.StaysIn h
 ed:∀k n,(γ k n).isSome=(σ.get k n).isSome
 obj:∀k n p aw,γ k n=Y p->σ.get k n=Y aw->c4 c γ h p aw
 new:∀k n p,γ k n=Y p->c.base.get? p.1=G/\c.base.get? p.2=G
 sep:∀k n p k' n' p',γ k n=Y p->γ k' n'=Y p'->(k≠k'\/n≠n')->p.1≠p'.1/\p.1≠p'.2/\p.2≠p'.1/\p.2≠p'.2
inductive Fv(aw:bA)(r:Option bA):Prop
 |mk (d:∃bw ep,aw.data=.dict bw ep) (sl:Array (Option J)) (e:r=Y {aw with slots:=sl})
def Kept(r:bA)(T:Option bA):Prop:=T=Y r\/Fv r T
theorem Kept.of{r:bA}{T:Option bA}(A:Kept r T):∃f,T=Y {r with slots:=f}:=by
 rcases A with o|⟨_,f,o⟩
 ·exact⟨r.slots,o⟩
 ·exact⟨f,o⟩
theorem Kept.trans{r:bA}{T n:Option bA}(A:Kept r T)(w:∀P,T=Y P->Kept P n):Kept r n:=by
 rcases A with o|⟨W,f,o⟩
 ·exact w r o
 ·rcases w _ o with k|⟨a,b,k⟩
  ·exact .inr ⟨W,f,k⟩
  ·exact .inr ⟨W,b,k⟩
theorem Kept.exact{r:bA}{T:Option bA}(A:Kept r T)(C:∀n i,r.data≠.dict n i):T=Y r:=by
 rcases A with o|⟨⟨n,i,W⟩,_⟩
 ·exact o
 ·exact absurd W (C n i)
def rK(H:ax)(j q:av):Prop:=∀v r,j.get? v=Y r->¬foot H v->Kept r (q.get? v)
structure jB(γ γ':ax)(h:av):Prop where
 a:∀k n p,γ k n=Y p->γ' k n=Y p
 b:∀k n p,γ' k n=Y p->γ k n=Y p\/(h.objs.size<=p.1/\h.objs.size<=p.2)
theorem jB.refl{H:ax}{j:av}:jB H H j:=⟨λI I I o=>o,λI I I o=>.inl o⟩
theorem rK.refl{H:ax}{j:av}:rK H j j:=λI I o I=>.inl o
theorem jB.kD{H K:ax}{j:av}(c:jB H K j){v:af}(S:foot H v):foot K v:=let ⟨A,C,Z,o,y⟩:=S;⟨A,C,Z,c.1 _ _ _ o,y⟩
theorem jB.eD{H K:ax}{j:av}(c:jB H K j){v:af}{r:bA}(o:j.get? v=Y r)(S:¬foot H v):¬foot K v:=λ⟨A,C,Z,k,y⟩=>by
 rcases c.2 _ _ _ k with u|⟨Q,l⟩
 ·exact S ⟨A,C,Z,u,y⟩
 ·rcases y with rfl|rfl
  ·exact absurd (Nat.lt_of_lt_of_le (bJ o) Q) (Nat.lt_irrefl _)
  ·exact absurd (Nat.lt_of_lt_of_le (bJ o) l) (Nat.lt_irrefl _)
structure aR(c:aa)(γ:ax)(h:av)(γ':ax)(σ':O)(h':av):Prop where
 rep:Rep c γ' σ' h'
 grow:jB γ γ' h
 keep:rK γ h h'
 size:h.objs.size<=h'.objs.size
theorem aR.refl{c H σ h}(T:Rep c H σ h):aR c H h H σ h:=⟨T,.refl,.refl,Nat.le_refl _⟩
theorem aR.trans{c H h q a T x N p}(v:aR c H h q a T)(m:aR c q T x N p):aR c H h x N p:=by
 refine⟨m.rep,⟨λA C Z o=>m.grow.1 _ _ _ (v.grow.1 _ _ _ o),λA C Z o=>?_⟩,λy r o S=>?_,Nat.le_trans v.size m.size⟩
 ·rcases m.grow.2 _ _ _ o with u|⟨Q,l⟩
  ·exact v.grow.2 _ _ _ u
  ·exact .inr ⟨Nat.le_trans v.size Q,Nat.le_trans v.size l⟩
 ·refine(v.keep y r o S).trans λP k=>m.keep y P k (v.grow.eD o S)
mutual
theorem aq.post{B:aa}{H h K σ n q}(R:Rep B H σ h)(P:aR B H h K n q):∀(y:V) {N:J},aq H h y N->aq K q y N
 |.none,_,o=>o|.bool _,_,o=>o|.int _,_,o=>o|.str _,_,o=>o|.bytes _,_,o=>o|.glob _,_,o=>o|.ref A C,_,⟨Z,o,u⟩=>⟨Z,P.grow.1 _ _ _ o,u⟩|.tup x,_,⟨v,e,o,d,T⟩=>by
  have b:=d.bu;refine aD d.eP λC F=>?_;have A:=(P.keep v _ F b).exact (λm i u=>by cases u)
  exact⟨v,e,o,.of A (P.grow.eD F b),aE.post R P x T⟩
theorem aE.post{B:aa}{H h K σ n q}(R:Rep B H σ h)(P:aR B H h K n q):∀(x:List V) {e:List J},aE H h x e->aE K q x e
 | [],_,o=>o|y::x,_,⟨N,T,o,v,m⟩=>⟨N,T,o,aq.post R P y v,aE.post R P x m⟩
end
mutual
theorem aq.ba{H K:ax}{j q:av}(c:∀A C Z,H A C=Y Z->K A C=Y Z)(d:∀v e,aO H j v e->aO K q v e):∀(y:V) {N:J},aq H j y N->aq K q y N
 |.none,_,o=>o|.bool _,_,o=>o|.int _,_,o=>o|.str _,_,o=>o|.bytes _,_,o=>o|.glob _,_,o=>o|.ref _ _,_,⟨Z,o,u⟩=>⟨Z,c _ _ _ o,u⟩|.tup x,_,⟨v,e,o,X,T⟩=>⟨v,e,o,d _ _ X,aE.ba c d x T⟩
theorem aE.ba{H K:ax}{j q:av}(c:∀A C Z,H A C=Y Z->K A C=Y Z)(d:∀v e,aO H j v e->aO K q v e):∀(x:List V) {t:List J},aE H j x t->aE K q x t
 | [],_,o=>o|y::x,_,⟨N,T,o,v,m⟩=>⟨N,T,o,aq.ba c d y v,aE.ba c d x m⟩
end
theorem ec.ba{H K:ax}{j q:av}(c:∀A C Z,H A C=Y Z->K A C=Y Z)(d:∀v e,aO H j v e->aO K q v e):∀(x:List (Key×V)) {n:List eb},ec H j x n->ec K q x n:=by
 intro s;induction s with|nil=>intro I o;exact o|cons r T F=>obtain ⟨_,y⟩:=r;intro I h;obtain ⟨R,C,i,N,b,o,v,m,W⟩:=h;exact⟨R,C,i,N,b,o,v,aq.ba c d y m,F W⟩
theorem c4.ba{B:aa}{H K:ax}{j q:av}{Z:af×af}(c:∀A C Z,H A C=Y Z->K A C=Y Z)(d:∀v e,aO H j v e->aO K q v e)
  (b:∀r,j.get? Z.1=Y r->q.get? Z.1=Y r)(p:∀r,j.get? Z.2=Y r->q.get? Z.2=Y r):∀(r:aj),c4 B H j Z r->c4 B K q Z r
 |.list g,⟨o,e,⟨C,F⟩,R⟩=>⟨o,e,⟨C,b _ F⟩,aE.ba c d g R⟩|.dict g,⟨o,S,⟨r,n,i,F,T⟩,v,R⟩=>⟨o,S,gC r n i (b _ F) T,v,aE.ba c d _ R⟩|.inst _ g,⟨n,C,v,m,W⟩=>⟨n,C,b _ v,p _ m,ec.ba c d g W⟩|.exc _ _,⟨n,C,t,v,m,W,o⟩=>⟨n,C,t,b _ v,p _ m,ec.ba c d _ W,o⟩|.ce,⟨o,Q,N,F⟩=>⟨o,Q,N,b _ F⟩
theorem iG{H:ax}{j q:av}(A:∀v r,j.get? v=Y r->q.get? v=Y r):∀v e,aO H j v e->aO H q v e:=
 λI I d=>d.keep d.bu (A _)
theorem Rep.more{B:aa}{H σ h q}(R:Rep B H σ h)(A:∀v r,h.get? v=Y r->q.get? v=Y r):Rep B H σ q:=
 ⟨λv r o=>A v r (R.stays v r o),R.ed,λw C Z r o u=>c4.ba (λI I I o=>o) (iG A) (λr=>A Z.1 r) (λr=>A Z.2 r) r (R.obj w C Z r o u),R.new,R.sep⟩
theorem aR.more{B:aa}{H σ h q}(R:Rep B H σ h)(A:∀v r,h.get? v=Y r->q.get? v=Y r)(i:h.objs.size<=q.objs.size):aR B H h H σ q:=
 ⟨R.more A,.refl,λv r o I=>.inl (A v r o),i⟩
theorem Rep.at{B:aa}{H σ h}(R:Rep B H σ h){k n p}(o:H k n=Y p):∃r,σ.get k n=Y r/\c4 B H h p r:=by have W:=R.ed k n;rw[o] at W;exact aD (lZ.mp W.symm) λa t=>aC a t (R.obj k n p a o t)
theorem c4.there{B:aa}{H h p}:∀{r:aj},c4 B H h p r->(∃u,h.get? p.1=Y u)/\∃u,h.get? p.2=Y u
 |.list _,⟨o,_,⟨C,F⟩,_⟩=>⟨⟨_,F⟩,⟨_,o▸F⟩⟩|.dict _,⟨o,_,⟨r,_,_,F,q,_⟩,_⟩=>⟨⟨r,F⟩,⟨r,o▸F⟩⟩|.inst _ _,⟨_,_,v,m,_⟩=>⟨⟨_,v⟩,⟨_,m⟩⟩|.exc _ _,⟨_,_,_,v,m,_,_⟩=>⟨⟨_,v⟩,⟨_,m⟩⟩|.ce,⟨o,_,_,F⟩=>⟨⟨_,F⟩,⟨_,o▸F⟩⟩
theorem Rep.lt{B:aa}{H σ h}(R:Rep B H σ h){k n p}(o:H k n=Y p):p.1<h.objs.size/\p.2<h.objs.size:=by refine au (R.at o) λr I T=>ak T.there λe b=>?_;obtain ⟨u,x⟩:=e;obtain ⟨X,a⟩:=b;exact⟨bJ x,bJ a⟩
theorem Rep.eD{B:aa}{H σ h}(R:Rep B H σ h):¬foot H h.objs.size:=λ⟨_,_,_,o,y⟩=>by
 have g:=R.lt o;rcases y with y|y
 ·rw[<-y] at g;exact absurd g.1 (Nat.lt_irrefl _)
 ·rw[<-y] at g;exact absurd g.2 (Nat.lt_irrefl _)
noncomputable def bD(H:ax)(A C:Nat)(p:af×af):ax:=λw a=>if w=A/\a=C then Y p else H w a
theorem aR.alloc{B:aa}{H σ h q}(R:Rep B H σ h){A C:Nat}{Z:af×af}{r:aj}(c:∀v r,h.get? v=Y r->q.get? v=Y r)(i:h.objs.size<=q.objs.size)
  (N:σ.get A C=G)(m:A=0->C<2^24)(X:h.objs.size<=Z.1)(S:h.objs.size<=Z.2)(T:∀p:ax,(∀A C Z,H A C=Y Z->p A C=Y Z)->(∀v e,aO H h v e->aO p q v e)->c4 B p q Z r):
  aR B H h (bD H A C Z) (σ.set A C (Y r)) q:=by
 have TV:H A C=none:=by
  have:=R.ed A C;rw[N] at this;generalize u:H A C=K;induction K using aB with|none=>rfl|some _=>rw[u] at this;exact cS this
 have z:∀w a l,H w a=Y l->bD H A C Z w a=Y l:=λw a l o=>by
  unfold bD;by_cases u:w=A/\a=C
  ·refine ak u λQ Ue=>?_;clear u;subst Q;clear m N;subst Ue;rw[TV] at o;exact ag o
  ·exact U (if_neg u) o
 have b:∀w a l,bD H A C Z w a=Y l->(w=A/\a=C/\l=Z)\/(¬(w=A/\a=C)/\H w a=Y l):=λw a l o=>by
  unfold bD at o;by_cases u:w=A/\a=C
  ·rw[if_pos u] at o;exact .inl (aQ u.1 u.2 ((an o).symm))
  ·rw[if_neg u] at o;exact .inr ⟨u,o⟩
 have fresh:∀v,h.objs.size<=v->B.base.get? v=none:=λv f=>by
  generalize u:B.base.get? v=K;induction K using aB with|none=>rfl|some P=>exact absurd (Nat.lt_of_lt_of_le (bJ (R.stays _ _ u)) f) (Nat.lt_irrefl _)
 have n:∀v e,aO H h v e->aO (bD H A C Z) q v e:=λv e d=>by
  refine d.keep (λx=>?_) (c v);obtain ⟨w,a,l,o,y⟩:=x;rcases b _ _ _ o with⟨_,_,rfl⟩|⟨_,o⟩
  ·refine aD d.eP λTY F=>?_;have g:=bJ F;rcases y with rfl|rfl
   ·exact absurd (Nat.lt_of_lt_of_le g X) (Nat.lt_irrefl _)
   ·exact absurd (Nat.lt_of_lt_of_le g S) (Nat.lt_irrefl _)
  ·exact d.bu ⟨w,a,l,o,y⟩
 refine⟨⟨λv r o=>c v r (R.stays v r o),λw a=>?_,λw a l P o u=>?_,λw a l o=>?_,λTR UC TX T2 TS TU t k D=>?_⟩,⟨z,λw a l o=>?_⟩,λv r o T8=>.inl (c v r o),i⟩
 ·rw[O.get_set _ _ _ _ m];unfold bD;by_cases u:w=A/\a=C
  ·refine U (if_pos u) (U (if_pos u) ?_);rfl
  ·exact U (if_neg u) (U (if_neg u) (R.ed w a))
 ·rw[O.get_set _ _ _ _ m] at u;rcases b _ _ _ o with⟨rfl,rfl,rfl⟩|⟨D,o⟩
  ·rw[if_pos ⟨rfl,rfl⟩] at u;obtain rfl:=an u;exact T _ z n
  ·rw[if_neg D] at u;exact c4.ba z n (λr=>c _ r) (λr=>c _ r) P (R.obj w a l P o u)
 ·rcases b _ _ _ o with⟨rfl,rfl,rfl⟩|⟨D,o⟩
  ·exact⟨fresh _ X,fresh _ S⟩
  ·exact R.new _ _ _ o
 ·rcases b _ _ _ t with⟨UI,L,UB⟩|⟨_,I⟩
  ·rcases b _ _ _ k with⟨j,W,s⟩|⟨_,f2⟩
   ·rcases D with D|D
    ·exact absurd (UI.trans j.symm) D
    ·exact absurd (L.trans W.symm) D
   ·have g:=R.lt f2;clear k t n b z T;subst UB;exact bP (λi=>by rw[<-i] at g;exact absurd (Nat.lt_of_lt_of_le g.1 X) (Nat.lt_irrefl _)) (λi=>by rw[<-i] at g;exact absurd (Nat.lt_of_lt_of_le g.2 X) (Nat.lt_irrefl _)) (λi=>by rw[<-i] at g;exact absurd (Nat.lt_of_lt_of_le g.1 S) (Nat.lt_irrefl _)) (λi=>by rw[<-i] at g;exact absurd (Nat.lt_of_lt_of_le g.2 S) (Nat.lt_irrefl _))
  ·rcases b _ _ _ k with⟨j,W,s⟩|⟨_,f2⟩
   ·have g:=R.lt I;clear k t n b z T;subst s;exact bP (λi=>by rw[i] at g;exact absurd (Nat.lt_of_lt_of_le g.1 X) (Nat.lt_irrefl _)) (λi=>by rw[i] at g;exact absurd (Nat.lt_of_lt_of_le g.1 S) (Nat.lt_irrefl _)) (λi=>by rw[i] at g;exact absurd (Nat.lt_of_lt_of_le g.2 X) (Nat.lt_irrefl _)) (λi=>by rw[i] at g;exact absurd (Nat.lt_of_lt_of_le g.2 S) (Nat.lt_irrefl _))
   ·exact R.sep _ _ _ _ _ _ I f2 D
 ·rcases b _ _ _ o with⟨rfl,rfl,rfl⟩|⟨_,o⟩
  ·exact .inr ⟨X,S⟩
  ·exact .inl o
theorem aR.update{B:aa}{H σ h q}(R:Rep B H σ h){A C:Nat}{Z:af×af}{r:aj}(o:H A C=Y Z)(g:∀v r,h.get? v=Y r->v≠Z.1->v≠Z.2->q.get? v=Y r)(i:h.objs.size<=q.objs.size)
  (x:A=0->C<2^24)(T:(∀v e,aO H h v e->aO H q v e)->c4 B H q Z r):aR B H h H (σ.set A C (Y r)) q:=by
 have n:∀v e,aO H h v e->aO H q v e:=λv e d=>by have b:=d.bu;exact d.keep b λu p=>g v u p (λi=>b ⟨A,C,Z,o,.inl i⟩) (λi=>b ⟨A,C,Z,o,.inr i⟩)
 refine⟨⟨λv P u=>g v P (R.stays v P u) (λi=>?_) (λi=>?_),λw a=>?_,λw a y P k u=>?_,R.new,R.sep⟩,.refl,λv P u b=>.inl (g v P u (λi=>b ⟨A,C,Z,o,.inl i⟩) (λi=>b ⟨A,C,Z,o,.inr i⟩)),i⟩
 ·have:=(R.new _ _ _ o).1;rw[<-i,u] at this;exact ha this
 ·have:=(R.new _ _ _ o).2;rw[<-i,u] at this;exact ha this
 ·rw[O.get_set _ _ _ _ x];by_cases u:w=A/\a=C
  ·refine ak u λQ D=>?_;clear u;subst Q;clear x;subst D;refine U (if_pos ⟨rfl,rfl⟩) (U o ?_);rfl
  ·exact U (if_neg u) (R.ed w a)
 ·rw[O.get_set _ _ _ _ x] at u;by_cases X:w=A/\a=C
  ·refine ak X λQ D=>?_;clear X;subst Q;clear x;subst D;rw[if_pos ⟨rfl,rfl⟩] at u;obtain rfl:=an u;rw[o] at k;obtain rfl:=an k;exact T n
  ·rw[if_neg X] at u;have l:=R.sep w a y A C Z k o (by rcases u8 (w=A) with v|v;exact .inr λm=>X ⟨v,m⟩;exact .inl v)
   exact c4.ba (λI I I o=>o) n (λr p=>g _ r p l.1 l.2.1) (λr p=>g _ r p l.2.2.1 l.2.2.2) P (R.obj w a y P k u)
theorem Rep.other{B:aa}{H σ h q}(R:Rep B H σ h){c:af}(b:¬foot H c)(s:B.base.get? c=G)(z:∀e,¬h.IsTuple c e)(g:∀v r,h.get? v=Y r->v≠c->q.get? v=Y r):Rep B H σ q:=by
 have n:∀v e,aO H h v e->aO H q v e:=λv e d=>by
  by_cases o:v=c
  ·clear g s b;subst o;exact absurd d.tup (z e)
  ·exact d.keep d.bu λu p=>g v u p o
 exact⟨λv P u=>g v P (R.stays v P u) (λi=>by rw[i,s] at u;exact ag u),R.ed,
  λw a l P k u=>c4.ba (λI I I o=>o) n (λr p=>g _ r p λi=>b ⟨w,a,l,k,.inl i.symm⟩) (λr p=>g _ r p λi=>b ⟨w,a,l,k,.inr i.symm⟩) P (R.obj w a l P k u),R.new,R.sep⟩
theorem Rep.adopt{B:aa}{H σ h}(R:Rep B H σ h){A C:Nat}{Z:af×af}{r:aj}(X:σ.get A C=G)(m:A=0->C<2^24)(z:B.base.get? Z.1=G)(s:B.base.get? Z.2=G)(S:¬foot H Z.1)(f2:¬foot H Z.2)
  (q:∀e,¬h.IsTuple Z.1 e)(x:∀e,¬h.IsTuple Z.2 e)(T:∀p:ax,(∀A C Z,H A C=Y Z->p A C=Y Z)->(∀v e,aO H h v e->aO p h v e)->c4 B p h Z r):
  Rep B (bD H A C Z) (σ.set A C (Y r)) h/\(∀w a l,H w a=Y l->bD H A C Z w a=Y l)/\(∀w a l,bD H A C Z w a=Y l->(w=A/\a=C/\l=Z)\/(¬(w=A/\a=C)/\H w a=Y l))/\∀v e,aO H h v e->aO (bD H A C Z) h v e:=by
 have I:H A C=none:=by
  have:=R.ed A C;rw[X] at this;generalize u:H A C=K;induction K using aB with|none=>rfl|some _=>rw[u] at this;exact cS this
 have N:∀w a l,H w a=Y l->bD H A C Z w a=Y l:=λw a l o=>by
  unfold bD;by_cases u:w=A/\a=C
  ·refine ak u λQ c=>?_;clear u;subst Q;clear m X;subst c;rw[I] at o;exact ag o
  ·exact U (if_neg u) o
 have b:∀w a l,bD H A C Z w a=Y l->(w=A/\a=C/\l=Z)\/(¬(w=A/\a=C)/\H w a=Y l):=λw a l o=>by
  unfold bD at o;by_cases u:w=A/\a=C
  ·rw[if_pos u] at o;exact .inl (aQ u.1 u.2 ((an o).symm))
  ·rw[if_neg u] at o;exact .inr ⟨u,o⟩
 have n:∀v e,aO H h v e->aO (bD H A C Z) h v e:=λv e d=>by
  refine d.keep (λF=>?_) (λTV o=>o);obtain ⟨w,a,l,o,y⟩:=F;rcases b _ _ _ o with⟨_,_,rfl⟩|⟨_,o⟩
  ·rcases y with rfl|rfl
   ·exact q _ d.tup
   ·exact x _ d.tup
  ·exact d.bu ⟨w,a,l,o,y⟩
 have j:∀w a l,H w a=Y l->Z.1≠l.1/\Z.1≠l.2/\Z.2≠l.1/\Z.2≠l.2:=λw a l o=>
  (bP (λi=>S ⟨w,a,l,o,.inl i⟩) (λi=>S ⟨w,a,l,o,.inr i⟩) (λi=>f2 ⟨w,a,l,o,.inl i⟩) (λi=>f2 ⟨w,a,l,o,.inr i⟩))
 refine bP ⟨R.stays,λw a=>?_,λw a l P o u=>?_,λw a l o=>?_,λTR TY TX T8 TS TU t g D=>?_⟩ N b n
 ·rw[O.get_set _ _ _ _ m];unfold bD;by_cases u:w=A/\a=C
  ·refine U (if_pos u) (U (if_pos u) ?_);rfl
  ·exact U (if_neg u) (U (if_neg u) (R.ed w a))
 ·rw[O.get_set _ _ _ _ m] at u;rcases b _ _ _ o with⟨rfl,rfl,rfl⟩|⟨D,o⟩
  ·rw[if_pos ⟨rfl,rfl⟩] at u;obtain rfl:=an u;exact T _ N n
  ·rw[if_neg D] at u;exact c4.ba N n (λr o=>o) (λr o=>o) P (R.obj w a l P o u)
 ·rcases b _ _ _ o with⟨rfl,rfl,rfl⟩|⟨_,o⟩
  ·exact⟨z,s⟩
  ·exact R.new _ _ _ o
 ·rcases b _ _ _ t with⟨f,L,W⟩|⟨_,S⟩
  ·rcases b _ _ _ g with⟨z,s,k⟩|⟨_,f2⟩
   ·rcases D with D|D
    ·exact absurd (f.trans z.symm) D
    ·exact absurd (L.trans s.symm) D
   ·exact U W (j _ _ _ f2)
  ·rcases b _ _ _ g with⟨z,s,k⟩|⟨_,f2⟩
   ·have i:=j _ _ _ S;exact U k (bP i.1.symm i.2.2.1.symm i.2.1.symm i.2.2.2.symm)
   ·exact R.sep _ _ _ _ _ _ S f2 D
theorem aR.adopt{B:aa}{F h₀ H σ h}(P:aR B F h₀ H σ h){A C:Nat}{Z:af×af}{r:aj}(g:σ.get A C=G)(m:A=0->C<2^24)(st:B.base.StaysIn h₀)(X:h₀.objs.size<=Z.1)(t:h₀.objs.size<=Z.2)(S:¬foot H Z.1)(f2:¬foot H Z.2)
  (q:∀e,¬h.IsTuple Z.1 e)(W:∀e,¬h.IsTuple Z.2 e)(T:∀p:ax,(∀A C Z,H A C=Y Z->p A C=Y Z)->(∀v e,aO H h v e->aO p h v e)->c4 B p h Z r):
  aR B F h₀ (bD H A C Z) (σ.set A C (Y r)) h:=by
 have s:∀v,h₀.objs.size<=v->B.base.get? v=none:=λv f=>by
  generalize u:B.base.get? v=K;induction K using aB with|none=>rfl|some N=>exact absurd (Nat.lt_of_lt_of_le (bJ (st _ _ u)) f) (Nat.lt_irrefl _)
 refine e7 (P.rep.adopt g m (s _ X) (s _ t) S f2 q W T) λc x b I=>⟨c,⟨λw a l o=>x _ _ _ (P.grow.1 _ _ _ o),λw a l o=>?_⟩,P.keep,P.size⟩;rcases b _ _ _ o with⟨_,_,rfl⟩|⟨_,o⟩
 ·exact .inr ⟨X,t⟩
 ·exact P.grow.2 _ _ _ o
theorem aR.fresh{B:aa}{F h₀ H σ h q}(P:aR B F h₀ H σ h){d:af}(st:B.base.StaysIn h₀)(c:h₀.objs.size<=d)(b:¬foot H d)(z:∀e,¬h.IsTuple d e)(g:∀v r,h.get? v=Y r->v≠d->q.get? v=Y r)(i:h.objs.size<=q.objs.size):aR B F h₀ H σ q:=by
 have s:B.base.get? d=none:=by
  generalize u:B.base.get? d=K;induction K using aB with|none=>rfl|some m=>exact absurd (Nat.lt_of_lt_of_le (bJ (st _ _ u)) c) (Nat.lt_irrefl _)
 refine⟨P.rep.other b s z g,P.grow,λv r o S=>?_,Nat.le_trans P.size i⟩;have a:v≠d:=λu=>absurd (Nat.lt_of_lt_of_le (bJ o) (u▸c)) (Nat.lt_irrefl _);rcases P.keep v r o S with u|⟨W,f,u⟩
 ·exact .inl (g _ _ u a)
 ·exact .inr ⟨W,f,g _ _ u a⟩
noncomputable def enc :List Nat->Nat
 | []=>0|B::g=>enc g*257+(B+1)
noncomputable def low :List Nat->Bool
 | []=>M|B::g=>match Nat.ble B 255 with
  |true=>low g|false=>E
def bt(x:am):Option Nat:=match low (ay x) with
 |true=>Y (enc (ay x))|false=>G
theorem Fw{v m B W:Nat}(k:B<257)(hd:W<257)(o:v*257+B=m*257+W):v=m/\B=W:=by
 have b:(v*257+B)/257=(m*257+W)/257:=by rw[o]
 have p:(v*257+B)%257=(m*257+W)%257:=by rw[o]
 rw[Nat.mul_comm v,Nat.mul_comm m,Nat.mul_add_div (by decide),Nat.mul_add_div (by decide),Nat.div_eq_of_lt k,Nat.div_eq_of_lt hd] at b
 rw[Nat.mul_comm v,Nat.mul_comm m,Nat.mul_add_mod,Nat.mul_add_mod,Nat.mod_eq_of_lt k,Nat.mod_eq_of_lt hd] at p;exact⟨b,p⟩
theorem zi :∀{v m:List Nat},low v=M->low m=M->enc v=enc m->v=m:=by
 intro s;induction s with
 |nil=>
  intro D;induction D using aS with|nil=>intro I I I;exact rfl|cons B d=>intro I I o;exact absurd o (Nat.ne_of_lt (Nat.succ_pos _))
 |cons r z F=>
  intro D;induction D using aS with|nil=>intro I I o;exact absurd o (Nat.succ_ne_zero _)|cons B d=>
   intro j c o;unfold low at j c;generalize k:Nat.ble r 255=K;induction K using ap with|false=>rw[k] at j;exact aG j|true=>
    generalize hd:Nat.ble B 255=K;induction K using ap with|false=>replace c:=hd▸c;exact aG c|true=>
     rw[k] at j;replace c:=hd▸c;replace k:=Nat.le_of_ble_eq_true k;replace hd:=Nat.le_of_ble_eq_true hd;replace o:enc z*257+(r+1)=enc d*257+(B+1):=o;have u:=Fw (Nat.lt_of_le_of_lt (Nat.succ_le_succ k) (by decide)) (Nat.lt_of_le_of_lt (Nat.succ_le_succ hd) (by decide)) o
     exact U (Nat.succ.inj u.2) (U (F j c u.1) rfl)
theorem ni{y X:am}{f:Nat}(j:bt y=Y f)(c:bt X=Y f):y=X:=by
 unfold bt at j c;generalize v:low (ay y)=K;induction K using ap with|false=>rw[v] at j;exact ag j|true=>
  generalize m:low (ay X)=K;induction K using ap with|false=>rw[m] at c;exact ag c|true=>rw[v] at j;rw[m] at c;exact jz (zi v m ((an j).trans (an c).symm))
abbrev al :=List (Nat×V)
noncomputable def aL{e:Type}(A:Nat):List (Nat×e)->Option e
 | []=>G|p::T=>match Nat.beq p.1 A with
  |true=>Y p.2|false=>aL A T
noncomputable def eu{e:Type}(A:Nat)(N:e):List (Nat×e)->List (Nat×e)
 | []=> [(A,N)]|p::T=>match Nat.beq p.1 A with
  |true=>(A,N)::T|false=>p::eu A N T
section
variable{e:Type}{A:Nat}{Z:Nat×e}{T:List (Nat×e)}
theorem rL(j:Z.1=A):aL A (Z::T)=Y Z.2:=by
 show(match Nat.beq Z.1 A with|true=>Y Z.2|false=>aL A T)=_
 exact U (j▸Nat.beq_refl _:Nat.beq Z.1 A=M) rfl
theorem pg(j:Z.1≠A):aL A (Z::T)=aL A T:=by
 show(match Nat.beq Z.1 A with|true=>Y Z.2|false=>aL A T)=_
 exact U (cI j) rfl
theorem Fx{N:e}(j:Z.1=A):eu A N (Z::T)=(A,N)::T:=by
 show(match Nat.beq Z.1 A with|true=>(A,N)::T|false=>Z::eu A N T)=_
 exact U (j▸Nat.beq_refl _:Nat.beq Z.1 A=M) rfl
theorem Fy{N:e}(j:Z.1≠A):eu A N (Z::T)=Z::eu A N T:=by
 show(match Nat.beq Z.1 A with|true=>(A,N)::T|false=>Z::eu A N T)=_
 exact U (cI j) rfl
end
theorem rM{e:Type}(A:Nat)(N:e):∀(g:List (Nat×e)) (w:Nat),aL w (eu A N g)=if w=A then Y N else aL w g:=by
 intro s;induction s with
 |nil=>
  intro w;by_cases j:w=A
  ·exact(rL j.symm).trans (if_pos j).symm
  ·exact(pg λi=>j i.symm).trans (if_neg j).symm
 |cons Z T F=>
  intro w;by_cases j:Z.1=A
  ·refine U (Fx j) ?_;by_cases p:w=A
   ·exact(rL p.symm).trans (if_pos p).symm
   ·exact(pg λi=>p i.symm).trans (.trans (pg λi=>p (i.symm.trans j)).symm (if_neg p).symm)
  ·refine U (Fy j) ?_;by_cases p:Z.1=w
   ·exact(rL p).trans (.trans (rL p).symm (if_neg λi=>j (p.trans i)).symm)
   ·exact(pg p).trans (U (pg p) (F w))
noncomputable def bL{e:Type}(A:Key):List (Key×e)->Option e
 | []=>G|p::T=>match a0 p.1 A with
  |true=>Y p.2|false=>bL A T
noncomputable def putK{e:Type}(A:Key)(N:e):List (Key×e)->List (Key×e)
 | []=> [(A,N)]|p::T=>match a0 p.1 A with
  |true=>(A,N)::T|false=>p::putK A N T
structure Ready(A:aY)(f:Nat)(Fs:List aF):Prop where
 handled:A.handled=G
 frames:A.frames=Y Fs
 depth:A.depth+f<ph
 units:A.units+10*f+100<iH
theorem Ready.le{A f k b}(T:Ready A f b)(j:k<=f):Ready A k b:=⟨T.handled,T.frames,Nat.lt_of_le_of_lt (Nat.add_le_add_left j _) T.depth,Nat.lt_of_le_of_lt (Nat.add_le_add_right (Nat.add_le_add_left (Nat.mul_le_mul_left 10 j) _) _) T.units⟩
theorem Ready.room{A f b}(T:Ready A f b):A.depth<recursionLimit:=Nat.lt_of_le_of_lt (Nat.le_add_right ..) T.depth
theorem Ready.deeper{A f b}(T:Ready A (f+1) b)(k:aF):Ready (A.deeper k) f (k::b):=
 ⟨T.handled,by show A.frames.map _=_;refine U T.frames ?_;rfl,by have:=T.depth;show A.depth+1+f<_;lia,by have:=T.units;show A.units+3+10*f+100<_;lia⟩
inductive Fz(c:aa)(γ:ax)(env:aF)(h:av):Prop
 |mk (k:env.scope.kind≠.module) (L:af) (aw:bA) (bw:Array eb) (ep:Nat) (f:env.frame=Y L) (ho:h.get? L=Y aw) (hd:aw.data=.dict bw ep) (hb:c.base.get? L=G) (bu:¬foot γ L)
def Frames(B:aa)(H:ax)(b:List aF)(j:av):Prop:=∀k∈b,Fz B H k j
theorem Frames.post{c H σ h K n q b}(a:Rep c H σ h)(F:Frames c H b h)(P:aR c H h K n q):Frames c K b q:=λk g=>by obtain ⟨A,d,r,C,i,t,Q,hd,T,W⟩:=F k g;refine aD ((P.keep d r Q W).of) λf o=>?_;exact⟨A,d,_,C,i,t,o,hd,T,P.grow.eD Q W⟩
structure Inv(c:aa)where
 p:ax->av->Prop
 st:∀{γ σ h γ' σ' h'},Rep c γ σ h->p γ h->aR c γ h γ' σ' h'->p γ' h'
noncomputable def Inv.and{B:aa}(I z:Inv B):Inv B:=⟨λH j=>I.p H j/\z.p H j,λR x P=>⟨I.st R x.1 P,z.st R x.2 P⟩⟩
noncomputable def Inv.none{B:aa}:Inv B:=⟨λI I=>True,λI I I=>trivial⟩
noncomputable def ee{B:aa}(x:V)(N:J):Inv B:=⟨λH j=>aq H j x N,λR x P=>aq.post R P _ x⟩
noncomputable def l0{B:aa}(x:List V)(N:List J):Inv B:=⟨λH j=>aE H j x N,λR x P=>aE.post R P _ x⟩
structure Rel(c:aa)(β α:Type)where
 r:β->α->Inv c
def bh{B:aa}:Rel B V Value:=⟨ee⟩
def rN{B:aa}:Rel B (List V) (List J):=⟨l0⟩
noncomputable def eE{B:aa}{N:Type}:Rel B N N:=⟨λv m=>⟨λI I=>v=m,λI o I=>o⟩⟩
structure he(s s':ai):Prop where
 a:s'.gens=s.gens
 b:s'.os=s.os
theorem he.refl{l:ai}:he l l:=⟨rfl,rfl⟩
theorem he.trans{v m W:ai}(y:he v m)(X:he m W):he v W:=⟨X.1.trans y.1,X.2.trans y.2⟩
inductive FA(γ:ax)(h₀ h:av)(a:af)(vs:Array J)(P:Option J->Prop):Prop
 |mk (T:af) (oT:bA) (ts:Array J) (e:vs[1]? =Y (.ref T)) (z:h₀.objs.size<=T) (n:T≠a) (aw:h.get? T=Y oT) (d:oT.data=.fields ts) (p:P ts[3]?) (bu:¬foot γ T)
inductive zj(γ:ax)(h₀ h:av)(a:af)(P:Option J->Prop):Prop
 |mk (oe:bA) (vs:Array J) (aw:h.get? a=Y oe) (d:oe.data=.fields vs) (n:h₀.get? a=G) (x:vs[1]? =Y .none\/FA γ h₀ h a vs P)
def u9(H:ax)(d j:av)(v:af):Prop:=zj H d j v λx=>x=Y .none
structure Ends(c:aa)(γ:ax)(s:ai)(γ':ax)(σ':O)(s':ai):Prop where
 post:aR c γ s.heap γ' σ' s'.heap
 same:he s s'
theorem Ends.trans{c H s q a Z x N n}(v:Ends c H s q a Z)(m:Ends c q Z x N n):Ends c H s x N n:=⟨v.post.trans m.post,v.same.trans m.same⟩
inductive ef{c:aa}{α β:Type}(R:Rel c β α)(Φ:β->O->Prop)(γ:ax)(s:ai)(a:α)(s':ai):Prop
 |mk (b:β) (σ':O) (γ':ax) (x:Φ b σ') (y:(R.r b a).p γ' s'.heap/\Ends c γ s γ' σ' s')
inductive dq(c:aa)(Ψ:Nat->Nat->O->Prop)(γ:ax)(s:ai)(e:J)(s':ai):Prop
 |mk (k n:Nat) (v:List (Key×V)) (σ':O) (γ':ax) (p:af×af) (x:Ψ k n σ') (aw:σ'.get k n=Y (.exc v M)) (g:γ' k n=Y p) (q:e=.ref p.1) (w:γ k n=G) (f:u9 γ' s.heap s'.heap p.1) (dB:Ends c γ s γ' σ' s')
def ae{N e:Type}(B:aa)(S:Nat)(I:Inv B)(L:O)(d:aZ N)(R:Rel B e N)(Φ:e->O->Prop)(D:Nat->Nat->O->Prop):Prop:=
 ∀(s:aY) (b:List aF) (H:ax) (l:ai),Ready s S b->Frames B H b l.heap->Rep B H L l.heap->I.p H l.heap->l.gens= #[]->
  ao (aA B.prog B.w) s d (ef R Φ H l) (dq B D H l) l
section
variable{B:aa}{S:Nat}{W:Inv B}{L:O}{u e Q b:Type}{R:Rel B e u}{C:Rel B b Q}{h:e->O->Prop}{D:Nat->Nat->O->Prop}{d:b->O->Prop}
theorem ae.mono{d:aZ u}{i:e->O->Prop}{k:Nat->Nat->O->Prop}(j:ae B S W L d R h D)(Q:∀m L,h m L->i m L)(a:∀A C L,D A C L->k A C L):ae B S W L d R i k:=
 λs b H l T F P f c=>bQ (j s b H l T F P f c) (λI I p=>(by obtain ⟨m,n,K,y,X⟩:=p;exact⟨m,n,K,Q _ _ y,X⟩)) λI I p=>(by obtain ⟨A,C,N,n,K,Z,y,g,q,o,r,t,v⟩:=p;exact⟨A,C,N,n,K,Z,a _ _ _ y,g,q,o,r,t,v⟩)
theorem ae.q{d:aZ u}{i:e->O->Prop}(j:ae B S W L d R h D)(Z:∀m L,h m L->i m L):ae B S W L d R i D:=ae.mono j Z λI I I y=>y
theorem ae.le{d:aZ u}{k:Nat}(j:ae B S W L d R h D)(K:S<=k):ae B k W L d R h D:=λs b H l T F P f c=>j s b H l (T.le K) F P f c
theorem ae.weak{d:aZ u}{z:Inv B}(j:ae B S W L d R h D)(K:∀H j,z.p H j->W.p H j):ae B S z L d R h D:=λs b H l T F P f c=>j s b H l T F P (K _ _ f) c
theorem dq.trans{H j:ax}{l A n:ai}{a:O}{ev:J}(o:Ends B H l j a A)(y:dq B D j A ev n):dq B D H l ev n:=by
 obtain ⟨w,C,N,d,P,Z,h,F,S,g,X,⟨I,e,b,p,x,q⟩,k⟩:=y;refine⟨w,C,N,d,P,Z,h,F,S,g,?_,⟨I,e,b,p,?_,?_⟩,o.trans k⟩
 ·generalize u:H w C=K;induction K using aB with|none=>rfl|some UM=>rw[o.post.grow.1 _ _ _ u] at X;exact ha X
 ·generalize u:l.heap.get? Z.1=K;induction K using aB with|none=>rfl|some T2=>
   have W:¬foot H Z.1:=λTS=>by
    obtain ⟨TV,Uc,T1,s,T⟩:=o.post.grow.kD TS;refine au (o.post.rep.at s) λTR UG z=>?_;refine ak z.there λc Q=>?_;obtain ⟨T5,r⟩:=c;obtain ⟨T4,m⟩:=Q;rcases T with T|T
    ·rw[<-T,x] at r;exact ag r
    ·rw[<-T,x] at m;exact ag m
   refine aD ((o.post.keep _ _ u W).of) λTW i=>?_;rw[x] at i;exact ag i
 ·rcases q with q|⟨R,UT,t,f,L,v,TU,T0,T9,T7⟩
  ·exact .inl q
  ·exact .inr ⟨R,UT,t,f,Nat.le_trans o.post.size L,v,TU,T0,T9,T7⟩
theorem ef.trans{H q:ax}{l Z n:ai}{a:O}{v:Q}(o:Ends B H l q a Z)(y:ef C d q Z v n):ef C d H l v n:=let ⟨K,N,x,p,F,k⟩:=y;⟨K,N,x,p,F,o.trans k⟩
theorem ae.pair{z:aZ u}{A:u->aZ Q}(j:ae B S W L z R (λm a=>∀v,ae B S (W.and (R.r m v)) a (A v) C d D) D)
  (s:aY)(b:List aF)(H:ax)(l:ai)(T:Ready s S b)(F:Frames B H b l.heap)(P:Rep B H L l.heap)(f:W.p H l.heap)(c:l.gens= #[]):
  ao (aA B.prog B.w) s z (λv Z=>B.base.StaysIn Z.heap/\ao (aA B.prog B.w) s (A v) (ef C d H l) (dq B D H l) Z) (dq B D H l) l:=
 b3 (j s b H l T F P f c) (λv Z ⟨_,a,q,y,X,o⟩=>⟨o.post.rep.stays,
  bQ (y v s b q Z T (F.post P o.post) o.post.rep ⟨W.st P f o.post,X⟩ (o.same.1.trans c)) (λI I i=>ef.trans o i) λI I i=>dq.trans o i⟩)
theorem ae.bind{z:aZ u}{A:u->aZ Q}(j:ae B S W L z R (λm a=>∀v,ae B S (W.and (R.r m v)) a (A v) C d D) D):ae B S W L (z>>=A) C d D:=λs b H l T F P f c=>
 ab (bQ (ae.pair j s b H l T F P f c) (λI I y=>y.2) λI I y=>y)
theorem ae.pure{v:u}{m:e}(j:h m L)(C:∀H j,Rep B H L j->W.p H j->(R.r m v).p H j):ae B S W L (pure v:aZ u) R h D:=
 λI I H l I I P f I=>aH ⟨m,L,H,j,C _ _ P f,.refl P,.refl⟩
theorem ae.standAt{Z:aN}{d:aZ u}(j:ae B S W L d R h D):ae B S W L (bT Z>>=λI=>d) R h D:=λs b H l T F P f c=>ab (dQ (j s b H l T F P f c))
theorem ae.holding{e:List J}{d:aZ u}(j:ae B S W L d R h D):ae B S W L (bO e d) R h D:=λs b H l T F P f c=>ck (j s b H l T F P f c)
end
noncomputable def allM(S:V->V->Option Bool):List V->List V->Option Bool
 | [],[]=>Y M|x::xs,X::n=>match S x X with
  |some v=>match allM S xs n with
   |some m=>Y (match v with|true=>m|false=>E)|none=>G
  |none=>G
 |_,_=>Y E
theorem nj{S:V->V->Option Bool}{y X:V}{x n:List V}{m:Bool}(o:allM S (y::x) (X::n)=Y m):∃v K,S y X=Y v/\allM S x n=Y K/\(match v with|true=>K|false=>E)=m:=by
 replace o:(match S y X with|some v=>(match allM S x n with|some m=>Y (match v with|true=>m|false=>E)|none=>G)|none=>G)=Y m:=o
 generalize Q:S y X=aw at o;induction aw using aB with|none=>exact ag o|some v=>
  generalize l:allM S x n=aw at o;induction aw using aB with|none=>exact ag o|some K=>exact⟨v,K,rfl,rfl,an o⟩
noncomputable def pi(m:Bool):Int:=match m with|true=>1|false=>0
noncomputable def fq :Int->Int->Bool
 |.ofNat z,.ofNat C=>Nat.beq z C|.negSucc z,.negSucc C=>Nat.beq z C|_,_=>E
theorem jC(v m:Int):fq v m=(v==m):=by induction v using kE <;>induction m using kE <;>dsimp only[fq,bl.cH] <;>rw[nk] <;>simp;exact⟨λj=>U j rfl,λj=>Int.ofNat.inj j⟩
noncomputable def knd :V->Nat
 |.none=>0|.bool _=>1|.int _=>2|.str _=>3|.bytes _=>4|.tup _=>5|.ref _ _=>6|.glob _=>7
noncomputable def jD :V->Bool
 |.bytes _=>E|.ref _ _=>E|.glob _=>E|_=>M
def kF :V->Option Int
 |.bool m=>Y (pi m)|.int f=>Y f|_=>G
def kG(x X:V):Bool:=match kF x with
 |some v=>match kF X with
  |some m=>fq v m|none=>E
 |none=>E
def fZ(x X:V):Option Bool:=match jD x with
 |true=>match jD X with
  |true=>Y (kG x X)|false=>G
 |false=>G
def lists(L:O)(A C w a:Nat)(S:List V->List V->Option Bool):Option Bool:=match L.get A C with
 |some (.list xs)=>match L.get w a with
  |some (.list n)=>S xs n|_=>G
 |_=>G
noncomputable def cJ(L:O):Nat->V->V->Option Bool
 |0,_,_=>G|W+1,x,X=>match x with
  |.none=>match X with
   |.none=>Y M|_=>fZ x X
  |.str v=>match X with
   |.str m=>Y (a0 v m)|_=>fZ x X
  |.bytes v=>match X with
   |.bytes m=>Y (a0 v m)|_=>G
  |.tup xs=>match X with
   |.tup n=>allM (cJ L W) xs n|_=>fZ x X
  |.ref A C=>match X with
   |.ref w a=>match Nat.beq A w,Nat.beq C a with
    |true,M=>Y M|_,_=>lists L A C w a (allM (cJ L W))
   |_=>G
  |.glob _=>G|.bool _=>fZ x X|.int _=>fZ x X
section
variable{B:aa}{H:ax}{L:O}
theorem FC{f}:∀{x n:List V} {m},allM f x n=Y m->x.length≠n.length->m=false:=by
 intro s;induction s with
 |nil=>
  intro D;induction D using aS with|nil=>intro m I C;exact absurd rfl C|cons B d=>intro m o I;refine U (an o) ?_;rfl
 |cons r z F=>
  intro D;induction D using aS with|nil=>intro m o I;refine U (an o) ?_;rfl|cons B d=>
   intro m o C;obtain ⟨v,K,b,p,o⟩:=nj o;have:=F p (λu=>C (by simp[u]))
   clear p;subst this;clear b;induction v using ap <;>exact o.symm
theorem FD{f}:∀{x n:List V} {m},allM f x n=Y m->∀k (b:k<x.length) (p:k<n.length),∃i,f x[k] n[k]=Y i:=by
 intro s;induction s with
 |nil=>
  intro D;induction D using aS with|nil=>intro I I k b I;exact absurd b (Nat.not_lt_zero _)|cons B d=>intro I I k b I;exact absurd b (Nat.not_lt_zero _)
 |cons r z F=>
  intro D;induction D using aS with|nil=>intro I I k I p;exact absurd p (Nat.not_lt_zero _)|cons B d=>
   intro m o k b p;obtain ⟨v,K,Q,l,o⟩:=nj o;induction k using Nat.casesOn with|zero=>exact⟨v,Q⟩|succ k=>exact F l k (Nat.lt_of_succ_lt_succ b) (Nat.lt_of_succ_lt_succ p)
theorem zk{f}:∀{x n:List V} {m},allM f x n=Y m->((List.range (min x.length n.length)).all (λk=>((x[k]?.bind λy=>n[k]?.bind λX=>f y X).getD E))&&x.length==n.length)=m:=by
 intro s;induction s with
 |nil=>
  intro D;induction D using aS with|nil=>intro m o;refine U (an o).symm ?_;rfl|cons B d=>intro m o;obtain rfl:=an o;rfl
 |cons r z F=>
  intro D;induction D using aS with
  |nil=>intro m o;obtain rfl:=an o;rfl
  |cons B d=>
   intro m o;obtain ⟨v,K,Q,l,o⟩:=nj o;have F:=F l;have h:min (r::z).length (B::d).length=min z.length d.length+1:=by refine U h9 ?_;refine U h9 ?_;rw[Nat.succ_min_succ]
   refine U h (U List.range_succ_eq_map (U List.all_cons (U List.all_map ?_)));simp only[List.getElem?_cons_zero,FE,Q,Option.getD_some];have:((λk=>(((r::z)[k]?.bind λr=>(B::d)[k]?.bind λB=>f r B).getD E))∘Nat.succ)=λk=>((z[k]?.bind λr=>d[k]?.bind λB=>f r B).getD E):=by funext k;rfl
   refine U this ?_;have u:((r::z).length==(B::d).length)=(z.length==d.length):=by simp
   refine U u ?_;rw[Bool.and_assoc];refine U F ?_;clear Q;induction v using ap <;>(subst o;rfl)
theorem FF{s:aY}{l:ai}(v:Array UInt8)(d:d1)(m:Array UInt8)(c:d1):fF s l (.bytes v d) (.bytes m c) (v.toList==m.toList):=λH t n a j=>by
 refine ck (wpAny_ite_split (λb=>?_) (λI=>?_))
 ·have:=eq_of_beq b;cases this;rw[show(v.toList==v.toList)=M from by simp] at j
  exact ab (hG (aH j))
 ·exact ab (eq_bytes (zl j))
theorem FG{H:ax}{j:av}{S:V->V->Option Bool}(g:∀(y X:V) {N:J} {m:Bool},S y X=Y m->aq H j y N->aq H j X N->m=M):∀(x n:List V) {e:List J} {m:Bool},allM S x n=Y m->aE H j x e->aE H j n e->m=true:=by
 intro s;induction s with
 |nil=>
  intro D;induction D using aS with
  |nil=>intro I I o I I;obtain rfl:=an o;rfl
  |cons B d=>intro I I o R Z;subst R;obtain ⟨_,_,u,_⟩:=Z;cases u
 |cons r c F=>
  intro D;induction D using aS with
  |nil=>intro I I o R Z;subst Z;obtain ⟨_,_,u,_⟩:=R;cases u
  |cons B d=>intro I m o h k;obtain ⟨N,T,t,f,z⟩:=h;obtain ⟨C,a,q,L,W⟩:=k;subst t;cases q;obtain ⟨i,w,Q,l,o⟩:=nj o;have b:=g r B Q f L;have p:=F d l z W;clear Q;subst b p;subst o;rfl
theorem pj{y X:V}{m:Bool}(o:fZ y X=Y m):jD y=M/\jD X=M/\kG y X=m:=by
 unfold fZ at o;revert o;generalize (jD y)=K;induction K using ap with|false=>intro o;exact ag o|true=>
  generalize (jD X)=K;induction K using ap with|false=>intro o;exact ag o|true=>intro o;exact aQ rfl rfl (an o)
noncomputable def zm :J->Nat
 |.none=>0|.bool _=>1|.int _ _=>2|.str _ _=>3|.bytes _ _=>4|.ref _=>5|_=>9
theorem zn{H:ax}{j:av}{y:V}{N:J}(r:jD y=M)(T:aq H j y N):zm N=knd y:=by
 induction y using V.casesOn with
 |none=>refine U (show N=.none from T) ?_;rfl|bool m=>refine U (show N=.bool m from T) ?_;rfl|int f=>refine aD T λd Q=>?_;clear T;subst Q;rfl|str l=>obtain ⟨y,d,rfl,_⟩:=T;rfl
 |tup x=>obtain ⟨v,e,rfl,_,_⟩:=T;rfl
 |_=>exact aG r
theorem zo{H:ax}{j:av}{y X:V}{N:J}(r:jD y=M)(P:jD X=M)(T:aq H j y N)(n:aq H j X N):knd y=knd X:=(zn r T).symm.trans (zn P n)
theorem aO.uniq{H:ax}{j:av}{v:af}{b e:Array J}(d:aO H j v b)(i:aO H j v e):b=e:=by
 refine aD d.eP λC o=>aD i.eP λa k=>?_;have:=an (o.symm.trans k);injection this with _ _ q
 injection q
theorem FH{H:ax}{j:av}{y X:V}{N:J}{v:Int}(o:kF y=Y v)(A:knd y=knd X)(T:aq H j y N)(n:aq H j X N):kG y X=true:=by
 have p:∀{m},kF y=Y m->kF X=Y m->kG y X=true:=λ{m} t g=>by unfold kG;refine U t (U g ?_);show fq m m=M;rw[jC,beq_self_eq_true]
 induction y using V.casesOn with
 |bool m=>
  induction X using V.casesOn with
  |bool K=>
   have:FI m=.bool K:=(show N=.bool m from T).symm.trans n;injection this with u
   exact p rfl (by refine U u ?_;rfl)
  |_=>exact absurd A (by simp[knd])
 |int f=>
  induction X using V.casesOn with
  |int k=>
   refine aD T λd Q=>?_;clear T;subst Q;refine aD n λi u=>?_;clear n;injection u with u
   exact p rfl (by refine U u ?_;rfl)
  |_=>exact absurd A (by simp[knd])
 |_=>exact ag o
theorem FJ{H:ax}{j:av}(i:∀A C Z w a l,H A C=Y Z->H w a=Y l->Z.1=l.1->A=w/\C=a){L:O}:∀(W:Nat) (y X:V) {N:J} {m:Bool},cJ L W y X=Y m->aq H j y N->aq H j X N->m=true:=by
 intro s;induction s with|zero=>intro I I I I o I I;exact ag o|succ W F=>
  intro y X N m o g z;have k:∀{v},kF y=Y v->fZ y X=Y m->m=true:=λu o=>by exact br (pj o) λr P o=>U o.symm (FH u (zo r P g z) g z)
  have p:(knd y=knd X->False)->fZ y X=Y m->m=true:=λC o=>by exact br (pj o) λr P I=>(C (zo r P g z)).elim
  induction y using V.casesOn with
  |bool v=>exact k rfl o|int v=>exact k rfl o|none=>clear k z;induction X using V.casesOn with|none=>exact(an o).symm|_=>exact p (by simp[knd]) o
  |str v=>induction X using V.casesOn with
   |str K=>obtain ⟨y,d,rfl,rfl⟩:=g;obtain ⟨y,d,u,rfl⟩:=z;injection u with u;exact U (an o).symm (U u (dL.mpr rfl))
   |_=>exact p (by simp[knd]) o
  |bytes v=>induction X using V.casesOn with
   |bytes K=>obtain ⟨y,d,rfl,rfl⟩:=g;obtain ⟨y,d,u,rfl⟩:=z;injection u with u;exact U (an o).symm (U u (dL.mpr rfl))
   |_=>exact ag o
  |tup x=>clear k;induction X using V.casesOn with
   |tup n=>obtain ⟨v,e,rfl,T,R⟩:=g;obtain ⟨q,b,u,h,f⟩:=z;injection u with u;subst u;have:=T.uniq h;clear h;subst this;exact FG (λy X {N m}=>F y X) x n o R f
   |_=>exact p (by simp[knd]) o
  |ref A C=>induction X using V.casesOn with
   |ref w a=>
    obtain ⟨Z,S,rfl⟩:=g;obtain ⟨l,t,u⟩:=z;injection u with u;refine ak (i _ _ _ _ _ _ S t u) λQ D=>?_;subst Q;clear t p k;subst D;replace o:(match Nat.beq A A,Nat.beq C C with|true,M=>Y M|_,_=>lists L A C A C (allM (cJ L W)))=Y m:=o
    rw[Nat.beq_refl A,Nat.beq_refl C] at o;exact(an o).symm
   |_=>exact ag o
  |glob c=>exact ag o
theorem FK{s:aY}{l:ai}{y X:V}{N t:J}{m:Bool}(o:fZ y X=Y m)(g:aq H l.heap y N)(z:aq H l.heap X t)(D:knd y=knd X->∃v,kF y=Y v)(A:s.units<iH):fF s l N t m:=by
 refine br (pj o) λr P o=>?_;induction y using V.casesOn with
 |none=>
  refine U (show N=.none from g) ?_;induction X using V.casesOn with
  |none=>exact aD (D rfl) λI u=>ag u|bool=>exact U (show t=_ from z) (U o.symm (EqAt.none_bool _))|int=>refine aD z λd Q=>?_;clear z;subst Q;exact U o.symm (EqAt.none_int _ _)|str=>obtain ⟨y,d,rfl,_⟩:=z;exact U o.symm (EqAt.none_str _ _)
  |tup=>obtain ⟨v,e,rfl,d,_⟩:=z;exact U o.symm (EqAt.none_tuple d.tup A)
  |_=>exact aG P
 |bool v=>
  refine U (show N=.bool v from g) ?_;induction X using V.casesOn with
  |none=>exact U (show t=_ from z) (U o.symm (EqAt.bool_none _))|bool K=>refine U (show t=_ from z) (U o.symm ?_);have:=EqAt.bool_bool (A:=s) (s:=l) v K;induction v using ap <;>induction K using ap <;>exact this|int K=>refine aD z λd Q=>?_;clear z;subst Q;have:=EqAt.bool_int (A:=s) (s:=l) v K d;refine U o.symm (U (show kG (.bool v) (.int K)=fq (pi v) K from rfl) ?_);rw[jC];induction v using ap <;>exact this|str=>obtain ⟨y,d,rfl,_⟩:=z;exact U o.symm (EqAt.bool_str _ _ _)
  |tup=>obtain ⟨v,e,rfl,d,_⟩:=z;exact U o.symm (EqAt.bool_tuple _ d.tup A)
  |_=>exact aG P
 |int v=>
  refine aD g λd Q=>?_;clear g;subst Q;induction X using V.casesOn with
  |none=>exact U (show t=_ from z) (U o.symm (EqAt.int_none _ _))|bool K=>refine U (show t=_ from z) ?_;have:=EqAt.int_bool (A:=s) (s:=l) v d K;refine U o.symm (U (show kG (.int v) (.bool K)=fq v (pi K) from rfl) ?_);rw[jC];induction K using ap <;>exact this|int K=>refine aD z λc Q=>?_;clear z;subst Q;refine U o.symm (U (show kG (.int v) (.int K)=fq v K from rfl) ?_);rw[jC];exact EqAt.int_int _ _ _ _|str=>obtain ⟨y,d,rfl,_⟩:=z;exact U o.symm (EqAt.int_str _ _ _ _)
  |tup=>obtain ⟨v,e,rfl,d,_⟩:=z;exact U o.symm (EqAt.int_tuple _ _ d.tup A)
  |_=>exact aG P
 |str v=>
  obtain ⟨y,d,rfl,a⟩:=g;induction X using V.casesOn with
  |none=>exact U (show t=_ from z) (U o.symm (EqAt.str_none _ _))|bool K=>exact U (show t=_ from z) (U o.symm (EqAt.str_bool _ _ _))|int K=>refine aD z λc Q=>?_;clear z;subst Q;exact U o.symm (EqAt.str_int _ _ _ _)|str=>exact aD (D rfl) λI u=>ag u|tup=>obtain ⟨v,e,rfl,d,_⟩:=z;exact U o.symm (EqAt.str_tuple _ _ d.tup A)
  |_=>exact aG P
 |tup x=>
  obtain ⟨v,e,rfl,d,_⟩:=g;induction X using V.casesOn with
  |none=>exact U (show t=_ from z) (U o.symm (EqAt.tuple_none d.tup A))|bool=>exact U (show t=_ from z) (U o.symm (EqAt.tuple_bool _ d.tup A))|int=>refine aD z λc Q=>?_;clear z;subst Q;exact U o.symm (EqAt.tuple_int _ _ d.tup A)|str=>obtain ⟨y,c,rfl,_⟩:=z;exact U o.symm (EqAt.tuple_str _ _ d.tup A)
  |tup=>exact aD (D rfl) λI u=>ag u|_=>exact aG P
 |_=>exact aG r
theorem FL{A C w a:Nat}{F:List V->List V->Option Bool}{m:Bool}(o:lists L A C w a F=Y m):∃x n,L.get A C=Y (.list x)/\L.get w a=Y (.list n)/\F x n=Y m:=by
 unfold lists at o;revert o;generalize (L.get A C)=K;induction K using aB with|none=>intro o;exact ag o|some r=>
  induction r using aj.casesOn with
  |list x=>
   generalize (L.get w a)=K;induction K using aB with|none=>intro o;exact ag o|some P=>
    induction P using aj.casesOn with|list n=>exact λo=>hE x n rfl rfl o|_=>intro o;exact ag o
  |_=>intro o;exact ag o
theorem Rep.inj{B:aa}{H L h}(R:Rep B H L h):∀A C Z w a l,H A C=Y Z->H w a=Y l->Z.1=l.1->A=w/\C=a:=λA C Z w a l b p x=>by
 apply va;intro u;refine(R.sep _ _ _ _ _ _ b p ?_).1 x;rcases u8 (A=w) with i|i
 ·exact .inr λX=>u ⟨i,X⟩
 ·exact .inl i
theorem kH{H:ax}{j:av}{x:List V}{e:Array J}(T:aE H j x e.toList):e.size=x.length:=by have:=T.length;refine U this.symm ?_;exact U eQ rfl
theorem rO{l:ai}{s:aY}{S:V->V->Option Bool}(F:∀{y X:V} {N t:J} {m:Bool},S y X=Y m->aq H l.heap y N->aq H l.heap X t->fF s.in1 l N t m){x n:List V}{e D:Array J}(R:aE H l.heap x e.toList)(Z:aE H l.heap n D.toList){m:Bool}(o:allM S x n=Y m):
  ∀k (b:k<e.size) (p:k<D.size),fF s.in1 l e[k] D[k] ((x[k]?.bind λy=>n[k]?.bind λX=>S y X).getD E):=λk b p=>by
 have q:k<x.length:=kH R▸b;have C:k<n.length:=kH Z▸p;refine hd λT W=>aD (FD o k q C) λi P=>?_;have r:x[k]? =Y x[k]:=kI q;have d:n[k]? =Y n[k]:=kI C;refine au (R.get r) λa z c=>au (Z.get d) λL g f=>?_;rw[hf,vb b] at z;rw[hf,vb p] at g;refine W (U r (U d (U (an z) (U (an g) ?_))));show fF s.in1 l a L ((S x[k] n[k]).getD E);exact U P (F P c f)
theorem zp{l:ai}{s:aY}{S:V->V->Option Bool}(F:∀{y X:V} {N t:J} {m:Bool},S y X=Y m->aq H l.heap y N->aq H l.heap X t->fF s.in1 l N t m)(A:s.units<iH){x n:List V}{v L:af}{e D:Array J}(d:aO H l.heap v e)(h:aO H l.heap L D)(R:aE H l.heap x e.toList)(Z:aE H l.heap n D.toList){m:Bool}(o:allM S x n=Y m):RcAt s l (.ref v) (.ref L) m/\rP s l (.ref v) (.ref L) (!m):=by have j:=RcAt.tuples d.tup h.tup A (rO F R Z o);have q:=RcNeAt.tuples d.tup h.tup A (rO F R Z o);rw[kH R,kH Z,zk o] at j q;exact⟨j,q⟩
theorem FN{l:ai}{s:aY}{S:V->V->Option Bool}(F:∀{y X:V} {N t:J} {m:Bool},S y X=Y m->aq H l.heap y N->aq H l.heap X t->fF s.in1 l N t m)(A:s.units<iH){x n:List V}{v L:af}{e D:Array J}(d:nh l.heap v e)(h:nh l.heap L D)(R:aE H l.heap x e.toList)(Z:aE H l.heap n D.toList){m:Bool}(o:allM S x n=Y m):RcAt s l (.ref v) (.ref L) m/\rP s l (.ref v) (.ref L) (!m):=by
 by_cases I:e.size=D.size
 ·have j:=RcAt.lists d.isList h.isList I A (rO F R Z o);have q:=RcNeAt.lists d.isList h.isList I A (rO F R Z o);have i:=zk o;rw[<-kH R,<-kH Z,<-I,Nat.min_self,beq_self_eq_true,zq] at i;rw[i] at j q;exact⟨j,q⟩
 ·have:=FC o (by refine U (kH R).symm ?_;refine U (kH Z).symm ?_;exact I)
  clear o;subst this;have u:(e.size !=D.size)=true:=bne_iff_ne.mpr I;exact⟨RcAt.lists_lengths d.isList h.isList u A,RcNeAt.lists_lengths d.isList h.isList u A⟩
theorem zr{l:ai}(P:Rep B H L l.heap){s:aY}{S:V->V->Option Bool}(F:∀{y X:V} {N t:J} {m:Bool},S y X=Y m->aq H l.heap y N->aq H l.heap X t->fF s.in1 l N t m)(d:s.units<iH){A C w a:Nat}{N t:J}{m:Bool}(o:lists L A C w a (allM S)=Y m)(g:aq H l.heap (.ref A C) N)(z:aq H l.heap (.ref w a) t):RcAt s l N t m/\rP s l N t (!m):=by refine hD (FL o) λx n b p o=>?_;obtain ⟨Z,T,rfl⟩:=g;obtain ⟨h,c,rfl⟩:=z;obtain ⟨_,e,q,R⟩:=P.obj _ _ _ _ T b;obtain ⟨_,D,W,f⟩:=P.obj _ _ _ _ c p;exact FN F d q W R f o
theorem zs{s:aY}{l:ai}{v m:Key}{N t:J}(g:aq H l.heap (.str v) N)(z:aq H l.heap (.str m) t):fF s l N t (a0 v m)/\RcAt s l N t (a0 v m)/\rP s l N t (!(a0 v m)):=by
 obtain ⟨y,d,rfl,rfl⟩:=g;obtain ⟨X,c,rfl,rfl⟩:=z;have:a0 (ay y) (ay X)=(y==X):=by rw[nk,dL,beq_iff_eq];exact⟨jz,λo=>U o rfl⟩
 exact U this (aQ (EqAt.str_str _ _ _ _) (RcAt.str_str _ _ _ _) (RcNeAt.str_str _ _ _ _))
theorem zt{l:ai}(P:Rep B H L l.heap):∀(W:Nat) (s:aY) {y X:V} {N t:J} {m:Bool},cJ L W y X=Y m->aq H l.heap y N->aq H l.heap X t->s.units+W<iH->fF s l N t m:=by
 intro W;induction W with|zero=>intro s y X N t m o;exact ag o|succ W F=>
  intro s y X N t m o g z r;have Z:s.units<cLine:=Nat.lt_of_le_of_lt (Nat.le_add_right _ _) r;have T1:s.in1.units+W<cLine:=by rw[Nat.add_comm W 1,<-Nat.add_assoc] at r;exact r
  have n:∀{y X:V} {N t:J} {m:Bool},cJ L W y X=Y m->aq H l.heap y N->aq H l.heap X t->fF s.in1 l N t m:=λo R e=>F s.in1 o R e T1;have same:N=t->fF s l N t m:=λu=>by subst u;have:=FJ P.inj (W+1) y X o g z;clear o;subst this;exact .same _
  have c:fZ y X=Y m->(knd y=knd X->∃v,kF y=Y v)->fF s l N t m:=λo D=>FK o g z D Z;have h:∀{v q},N=.ref v->t=.ref q->RcAt s l (.ref v) (.ref q) m->fF s l N t m:=λ{v q} u k T=>by
   by_cases i:v=q
   ·exact same (by refine U u ?_;refine U k ?_;exact U i rfl)
   ·exact U u (U k (.of_refs i T))
  induction y using V.casesOn with
  |bool v=>exact c o λI=>⟨_,rfl⟩|int v=>exact c o λI=>⟨_,rfl⟩|none=>induction X using V.casesOn with|none=>exact same ((show N=.none from g).trans (show t=.none from z).symm)|_=>exact c o (by simp[knd])
  |str v=>induction X using V.casesOn with|str TX=>exact U (an o).symm ((zs g z).1)|_=>exact c o (by simp[knd])
  |bytes v=>induction X using V.casesOn with
   |bytes TX=>
    obtain ⟨y,d,rfl,rfl⟩:=g;obtain ⟨X,Q,rfl,rfl⟩:=z;have:a0 (y.toList.map (·.toNat)) (X.toList.map (·.toNat))=(y.toList==X.toList):=by rw[nk,dL,beq_iff_eq];exact⟨λo=>(List.map_inj_right (λv m j=>UInt8.toNat_inj.mp j)).mp o,λo=>U o rfl⟩
    exact U (an o).symm (U this (FF y d X Q))
   |_=>exact ag o
  |tup T0=>induction X using V.casesOn with
   |tup TY=>obtain ⟨v,TV,u,d,R⟩:=id g;obtain ⟨TR,TS,k,T9,e⟩:=id z;exact h u k (zp n Z d T9 R e o).1
   |_=>exact c o (by simp[knd])
  |ref A C=>clear c;induction X using V.casesOn with
   |ref w a=>
    obtain ⟨TU,S,u⟩:=id g;obtain ⟨TZ,f,k⟩:=id z;replace o:(match Nat.beq A w,Nat.beq C a with|true,M=>Y M|_,_=>lists L A C w a (allM (cJ L W)))=Y m:=o
    have x:lists L A C w a (allM (cJ L W))=Y m->fF s l N t m:=λo=>h u k (u▸k▸(zr P n Z o g z).1);revert o;generalize b:Nat.beq A w=K;induction K using ap with|false=>exact x|true=>
     generalize p:Nat.beq C a=K;induction K using ap with|false=>exact x|true=>intro _;refine same ?_;rw[<-Nat.eq_of_beq_eq_true b,<-Nat.eq_of_beq_eq_true p,S] at f;exact U u (U k (U (an f) rfl))
   |_=>exact ag o
  |glob TW=>exact ag o
end
theorem zu{H:ax}{j:av}{S:V->V->Option Bool}(g:∀(y X i:V) {N:J} {m K:Bool},S y i=Y m->S X i=Y K->aq H j y N->aq H j X N->m=K):
  ∀(x n B:List V) {e:List J} {m K:Bool},allM S x B=Y m->allM S n B=Y K->aE H j x e->aE H j n e->m=K
 | [],[],_,_,_,_,o,k,_,_=>by rw[o] at k;obtain rfl:=an k;rfl
 | [],_::_,_,_,_,_,_,_,R,Z=>by subst R;obtain ⟨_,_,u,_⟩:=Z;cases u
 |_::_,[],_,_,_,_,_,_,R,Z=>by subst Z;obtain ⟨_,_,u,_⟩:=R;cases u
 |_::_,_::_,[],_,_,_,o,k,_,_=>by obtain rfl:=an o;obtain rfl:=an k;rfl
 |y::x,X::n,i::B,_,m,K,o,k,⟨N,T,t,f,z⟩,⟨C,a,q,L,s⟩=>by subst t;cases q;obtain ⟨F,c,Q,d,o⟩:=nj o;obtain ⟨I,h,l,r,k⟩:=nj k;have b:=g y X i Q l f L;have p:=zu g x n B d r z s;clear l;subst b p;exact o.symm.trans k
theorem FO{H:ax}{j:av}{y X:V}{N:J}(A:knd y=knd X)(g:knd y<5)(h:aq H j y N)(z:aq H j X N):y=X:=by
 induction y using V.casesOn with
 |none=>clear z;induction X using V.casesOn with|none=>rfl|_=>exact absurd A (by trivial)
 |bool v=>induction X using V.casesOn with
  |bool m=>have:=(show N=.bool v from h).symm.trans z;injection this with u;exact U u rfl
  |_=>exact absurd A (by simp[knd])
 |int v=>induction X using V.casesOn with
  |int m=>refine aD h λd Q=>?_;clear h;subst Q;refine aD z λi u=>?_;clear z;injection u with u;exact U u rfl
  |_=>exact absurd A (by simp[knd])
 |str v=>induction X using V.casesOn with
  |str m=>obtain ⟨_,d,rfl,rfl⟩:=h;obtain ⟨_,i,u,rfl⟩:=z;injection u with u;exact U u rfl
  |_=>exact absurd A (by simp[knd])
 |bytes v=>induction X using V.casesOn with
  |bytes m=>obtain ⟨_,d,rfl,rfl⟩:=h;obtain ⟨_,i,u,rfl⟩:=z;injection u with u;exact U u rfl
  |_=>exact absurd A (by simp[knd])
 |_=>exact absurd g (by simp[knd])
def dC(x:V):Nat:=match x with
 |.ref _ _=>5|x=>knd x
theorem zv{H:ax}{j:av}{y:V}{N:J}(r:knd y<7)(T:aq H j y N):zm N=dC y:=by
 induction y using V.casesOn with
 |none=>refine U (show N=.none from T) ?_;rfl|bool m=>refine U (show N=.bool m from T) ?_;rfl|int f=>refine aD T λd Q=>?_;clear T;subst Q;rfl|str l=>obtain ⟨y,d,rfl,_⟩:=T;rfl
 |bytes l=>obtain ⟨y,d,rfl,_⟩:=T;rfl
 |tup x=>obtain ⟨v,e,rfl,_,_⟩:=T;rfl
 |ref A C=>obtain ⟨Z,_,rfl⟩:=T;rfl
 |_=>exact absurd r (by simp[knd])
theorem vc{L:O}{W:Nat}{y X:V}{m:Bool}(o:cJ L W y X=Y m):knd y<7:=by
 induction W using Nat.casesOn with|zero=>exact ag o|succ W=>induction y using V.casesOn with|glob c=>exact ag o|_=>simp[knd]
theorem FP{H:ax}{j:av}(r:∀A C Z w a l,H A C=Y Z->H w a=Y l->Z.1=l.1->A=w/\C=a){L:O}:∀(W:Nat) (y X i:V) {N:J} {m K:Bool},cJ L W y i=Y m->cJ L W X i=Y K->aq H j y N->aq H j X N->m=K:=by
 intro s;induction s with|zero=>intro I I I I I I o I I I;exact ag o|succ W F=>
  intro y X i N m K o k g z;have done:y=X->m=K:=λu=>by clear z;subst u;exact an (o.symm.trans k)
  have A:dC y=dC X:=(zv (vc o) g).symm.trans (zv (vc k) z);have P:=vc k;induction y using V.casesOn with
  |glob c=>exact ag o|tup x=>
   clear done;induction X using V.casesOn with
   |tup n=>
    obtain ⟨v,e,rfl,T,R⟩:=g;obtain ⟨TR,d,u,h,f⟩:=z;injection u with u;subst u;have:=T.uniq h;clear h;subst this;have q:fZ (.tup x) i=Y m->fZ (.tup n) i=Y K->m=K:=λo k=>(pj o).2.2.symm.trans (pj k).2.2;induction i using V.casesOn with|ref=>exact ag o|tup B=>exact zu (λy X i {N m K}=>F y X i) x n B o k R f|_=>exact q o k
   |ref A C=>obtain ⟨v,e,rfl,T,R⟩:=g;obtain ⟨Z,S,u⟩:=z;injection u with u;exact(T.bu ⟨_,_,_,S,.inl u⟩).elim
   |glob c=>exact absurd P (by simp[knd])|_=>exact absurd A (by simp[dC,knd])
  |ref p b=>
   induction X using V.casesOn with
   |tup n=>obtain ⟨v,e,rfl,T,R⟩:=z;obtain ⟨Z,S,u⟩:=g;injection u with u;exact(T.bu ⟨_,_,_,S,.inl u⟩).elim
   |ref w a=>obtain ⟨Z,S,rfl⟩:=g;obtain ⟨l,t,u⟩:=z;injection u with u;refine ak (r _ _ _ _ _ _ S t u) λQ D=>?_;subst Q;clear t A P k;subst D;exact done rfl
   |glob c=>exact absurd P (by simp[knd])|_=>exact absurd A (by simp[dC,knd])
  |_=>
   clear P k;induction X using V.casesOn with|ref A C=>exact absurd A (by simp[dC,knd])|_=>exact done (FO A (by simp[knd]) g z)
noncomputable def l1(L:O)(W:Nat)(x:V):List V->Option Bool
 | []=>Y E|X::n=>match cJ L W X x with
  |some v=>match l1 L W x n with
   |some m=>Y (match v with|true=>M|false=>m)|none=>G
  |none=>G
theorem FQ{σ d x}:∀{n:List V} {m},l1 σ d x n=Y m->(∀X∈n,∃T,cJ σ d X x=Y T)/\(m=M<->∃X∈n,cJ σ d X x=Y M):=by
 intro s;induction s with
 |nil=>intro m o;obtain rfl:=an o;simp
 |cons X n F=>
  intro m o;unfold l1 at o;generalize Q:cJ σ d X x=K;induction K using aB with|none=>replace o:=Q▸o;exact ag o|some v=>
   replace o:=Q▸o;generalize l:l1 σ d x n=K;induction K using aB with|none=>replace o:=l▸o;exact ag o|some f=>
    rw[l] at o;refine ak (F l) λb p=>⟨λi P=>?_,?_⟩
    ·rcases aW.mp P with rfl|P
     ·exact⟨v,Q⟩
     ·exact b i P
    ·induction v using ap with
     |true=>obtain rfl:=an o;simp[Q]
     |false=>
      obtain rfl:=an o;rw[p];constructor
      ·rintro ⟨i,P,t⟩;exact aC i (.tail _ P) t
      ·rintro ⟨i,P,t⟩
       rcases aW.mp P with rfl|P
       ·replace t:=Q▸t;cases t
       ·exact aC i P t
open Classical in
theorem zw{B:aa}{H:ax}{L:O}{l:ai}(P:Rep B H L l.heap){s:aY}{W:Nat}{y:V}{N:J}{r:List V}{e:Array J}{m:Bool}(o:l1 L W y r=Y m)(g:aq H l.heap y N)(z:aE H l.heap r e.toList)(A:s.units+1+W<iH):
  ∃S:J->Bool,(∀X,X∈e->fF s.in1 l X N (S X))/\e.any S=m:=by
 refine ak (FQ o) λb p=>?_
 let S:J->Bool:=λw=>decide (∃X∈r,aq H l.heap X w/\cJ L W X y=Y M)
 have Z:∀{i:Nat} {w:J},e.toList[i]? =Y w->∃X,r[i]? =Y X/\aq H l.heap X w:=λ{i w} q=>by
  generalize u:r[i]? =K;induction K using aB with|none=>rw[z.none u] at q;exact ag q|some X=>refine au (z.get u) λQ f T=>?_;rw[q] at f;obtain rfl:=an f;exact aC X rfl T
 refine aC S (λw q=>?_) ?_
 ·obtain ⟨i,n,k⟩:=FR (FS.mpr q);refine au (Z (i:=i) (w:=w) (by refine U (kI n) ?_;exact U k rfl)) λX C T=>?_
  have c:=List.mem_of_getElem? C;refine aD (b X c) λd j=>?_;have:S w=d:=by
   induction d using ap with|true=>exact decide_eq_true (cW X c T j)|false=>
    refine decide_eq_false ?_
    rintro ⟨F,R,a,v⟩
    have:=FP P.inj W X F y j v T a;exact aG this
  exact U this (zt P W s.in1 j T g A)
 ·rw[nk,p,Array.any_eq_true];constructor
  ·rintro ⟨i,n,D⟩
   exact bX (of_decide_eq_true D) λX c I v=>aC X c v
  ·rintro ⟨X,c,v⟩
   obtain ⟨i,n,h⟩:=FR c;refine au (z.get (i:=i) (x:=X) (by refine U (kI n) ?_;exact U h rfl)) λw q T=>?_
   have t:i<e.size:=by rw[hf] at q;exact(iI.mp q).1
   refine⟨i,t,decide_eq_true (cW X c ?_ v)⟩;rw[hf,vb t] at q;obtain rfl:=an q;exact T
noncomputable def O.bump(L:O):O:={L with n:=L.n+1}
theorem Rep.congr{B:aa}{H σ n h}(R:Rep B H σ h)(o:∀A f,n.get A f=σ.get A f):Rep B H n h:=
 ⟨R.stays,λA C=>by rw[o];exact R.ed A C,λA C Z r b p=>R.obj A C Z r b (by rw[<-o];exact p),R.new,R.sep⟩
theorem aR.congr{B:aa}{H h K σ n q}(P:aR B H h K σ q)(o:∀A f,n.get A f=σ.get A f):aR B H h K n q:=⟨P.rep.congr o,P.grow,P.keep,P.size⟩
structure aa.Ok(c:aa):Prop where
 dR:c.K.In c.base
 g:c.base.Ns da c.hF
 b:c.base.Ns gE c.lY
 nolimit:c.base.NoLimit
def l2(A:Option db):Prop:=A=Y .local\/A=Y .cell\/A=Y .free
structure bp(c:aa)(env:aF)(lm:al)(γ:ax)(h:av):Prop where
 kind:env.scope.kind=.function
 gl:env.globals=da
 fG:env.builtins=gE
 plain:∀x k,env.kindOf x=Y k->(x==("__debug__":am))=E/\(x==("__classdict__":am))=E
 ns:∃m,h.Ns env.locals m/\∀x i mv,bt x=Y i->aL i lm=Y mv->l2 (env.kindOf x)->∃v,aq γ h mv v/\
  ((env.kindOf x=Y .local/\m x=Y v)\/((env.kindOf x=Y .cell\/env.kindOf x=Y .free)/\∃a,env.cells.lookup x=Y a/\h.IsCell a (Y v)))
 own:¬foot γ env.locals/\c.base.get? env.locals=G
 cell:∀p∈env.cells,¬foot γ p.2/\c.base.get? p.2=G/\p.2≠env.locals/\∃v,h.IsCell p.2 v
theorem mem_of_lookup{e:Type}{y:am}{v:e}:∀{g:List (am×e)},g.lookup y=Y v->(y,v)∈g:=by
 intro s;induction s with|nil=>intro o;exact ag o|cons r T F=>
  obtain ⟨X,m⟩:=r;intro o;rw[ia] at o;generalize j:(y==X)=K;induction K using ap with
  |true=>rw[j] at o;obtain rfl:=an o;have:=eq_of_beq j;clear j;subst this;exact .head _
  |false=>rw[j] at o;exact .tail _ (F o)
noncomputable def loc(B:aa)(k:aF)(Q:al):Inv B:=⟨bp B k Q,by
 intro TU L j K n q R c P
 refine au c.ns λz d h=>?_
 refine lX d λr C Z F hd y a=>?_;clear d
 refine aD ((P.keep _ r F c.own.1).of) λTW o=>?_
 have H:∀p∈k.cells,∀N,j.IsCell p.2 N->q.IsCell p.2 N:=λp S N ⟨m,l,u⟩=>by
  refine aD ((P.keep _ m l (c.cell p S).1).of) λTR T=>?_
  exact aC _ T u
 refine⟨c.kind,c.gl,c.fG,c.plain,aC z (fY _ C Z o hd y a) (λx f e b X F=>?_),⟨P.grow.eD F c.own.1,c.own.2⟩,λp S=>?_⟩
 ·refine au (h x f e b X F) λN i t=>?_
  refine aC N (aq.post R P _ i) ?_
  rcases t with t|⟨A,v,w,g⟩
  ·exact .inl t
  ·exact .inr (fX A v w (H _ (mem_of_lookup w) _ g))
 ·refine e7 (c.cell p S) λW I D s=>?_;refine aD s λN i=>?_
  refine au i λm l u=>?_;clear i
  exact bP (P.grow.eD l W) I D ⟨N,H p S N (aC m l u)⟩⟩
abbrev bq(B:aa)(S:Nat)(k:aF)(Q:al)(L:O)(o:ah)(Φ:V->O->Prop)(D:Nat->Nat->O->Prop):Prop:=ae B S (loc B k Q) L (aX o k) bh Φ D
section
variable{B:aa}{S:Nat}{w:Inv B}{L:O}{k:aF}{Q:al}{h:V->O->Prop}{D:Nat->Nat->O->Prop}
theorem cY{H:ax}{l:ai}{C:Nat}(R:Rep B H L l.heap):Ends B H l H L {l with toks:=C}:=⟨.refl R,rfl,rfl⟩
theorem FT{f:Int}{A:Nat}{z:aN}(j:h (.int f) L):bq B S k Q L (.Constant (.int f) A z) h D:=λI I H l I I P I I=>by show ao _ _ (mkInt f) _ _ _;exact wpAny_mkInt ⟨_,_,H,j,⟨_,rfl⟩,cY P⟩
theorem FU{y:am}{A:Nat}{z:aN}(j:h (.str (ay y)) L):bq B S k Q L (.Constant (.str y) A z) h D:=λI I H l I I P I I=>by show ao _ _ (mkText y) _ _ _;exact kJ ⟨_,_,H,j,⟨_,_,rfl,rfl⟩,cY P⟩
theorem FV{y:List UInt8}{A:Nat}{z:aN}(j:h (.bytes (y.map (·.toNat))) L):bq B S k Q L (.Constant (.bytes y) A z) h D:=λI I H l I I P I I=>
 Constant_bytes ⟨_,_,H,j,⟨_,_,rfl,by rfl⟩,cY P⟩
theorem FW{m:Bool}{A:Nat}{z:aN}(j:h (.bool m) L):bq B S k Q L (.Constant (.bool m) A z) h D:=λI I H l I I P I I=>
 aH (a:=FI m) ⟨_,_,H,j,rfl,.refl P,.refl⟩
theorem FX{A:Nat}{z:aN}(j:h .none L):bq B S k Q L (.Constant .none A z) h D:=λI I H l I I P I I=>
 aH (a:=cA) ⟨_,_,H,j,rfl,.refl P,.refl⟩
theorem FY{y:am}{Z:aN}{e:V}{f:Nat}(b:bt y=Y f)(F:l2 (k.kindOf y))(q:aL f Q=Y e)(j:h e L):bq B S k Q L (.Name y Z) h D:=λs a H l I I P c I=>by
 refine hd λT W=>au c.ns λz X d=>au (d y f e b q F) λN i t=>?_;have p:ef bh h H l N l:=⟨e,L,H,j,i,.refl P,.refl⟩;rcases t with⟨A,o⟩|⟨A,v,w,g⟩
 ·exact W (rQ (zx c.kind A X o p) (c.plain y _ A).1)
 ·rcases A with A|A
  ·exact W (rQ (wpAny_loadName_cell c.kind A w g p) (c.plain y _ A).1)
  ·exact W (rQ (wpAny_loadName_free c.kind A w g p (c.plain y _ A).2) (c.plain y _ A).1)
theorem vd{H:ax}{L:O}{j:av}(P:Rep B H L j){y:V}{N:J}(T:aq (λI I=>G) B.base y N):aq H j y N:=
 aq.ba (λI I I o=>ag o) (λv e d=>d.keep (λ⟨A,C,Z,o,X⟩=>by
  refine aD d.eP λz F=>?_;rcases X with rfl|rfl
  ·rw[(P.new _ _ _ o).1] at F;exact ag F
  ·rw[(P.new _ _ _ o).2] at F;exact ag F) (P.stays v)) y T
theorem FZ(ok:B.Ok){y:am}{z:aN}{e:V}{N:J}(m:k.kindOf y=Y .globalImplicit)(C:aq (λI I=>G) B.base e N)(i:B.hF y=Y N\/(B.hF y=.none/\B.lY y=Y N))(j:h e L):bq B S k Q L (.Name y z) h D:=λs a H l I I P c I=>by
 have p:ef bh h H l N l:=⟨e,L,H,j,vd P C,.refl P,.refl⟩;have r:l.heap.Ns k.globals B.hF:=by refine U c.gl ?_;exact ok.g.keeps P.stays
 have T:l.heap.Ns k.builtins B.lY:=by refine U c.fG ?_;exact ok.b.keeps P.stays
 rcases i with i|⟨X,i⟩
 ·exact pk c.kind m (zy r i p) (c.plain y _ m).1
 ·exact pk c.kind m (zz r X T i p) (c.plain y _ m).1
end
section
variable{B:aa}{S:Nat}{W:Inv B}{L:O}{k:aF}{Q:al}{D:Nat->Nat->O->Prop}
set_option backward.match.sparseCases false in
noncomputable def notStar :ah->Bool
 |.Starred _ _=>E|_=>M
theorem nl{o:ah}{n:List ah}{k:aF}(j:notStar o=M):eg (o::n) k=(E,aX o k)::eg n k:=by induction o using bE <;>first|rfl|exact aG j
theorem and_left{W z:Inv B}:∀H j,(W.and z).p H j->W.p H j:=λI I y=>y.1
abbrev jE(B:aa)(S:Nat)(k:aF)(Q:al)(L:O)(z:aN)(n:List ah)(Φ:List V->O->Prop)(D:Nat->Nat->O->Prop):Prop:=ae B S (loc B k Q) L (iJ (eF z (eg n k))) rN Φ D
theorem pl{pos}{a:List V->O->Prop}(j:a [] L):jE B S k Q L pos [] a D:=ae.pure (v:=([]:List J)) j λH j I I=>(aE.nil (H:=H) (h:=j))
theorem nn{pos}{o:ah}{n:List ah}{h:List V->O->Prop}(R:notStar o=M)(j:bq B S k Q L o (λy a=>jE B S k Q a pos n (λx b=>h (y::x) b) D) D):jE B S k Q L pos (o::n) h D:=by show ae B S _ L (iJ (eF pos (eg (o::n) k))) _ _ _;refine U (nl R) ?_;have t:iJ (eF pos ((E,aX o k)::eg n k))=(aX o k>>=λN=>bO [N] (iJ (eF pos (eg n k)))>>=λe=>pure (N::e)):=rfl;refine U t (ae.bind (ae.q j (λy a A=>?_)));intro N;refine ae.bind (ae.holding (ae.weak (ae.q A (λx b p=>?_)) and_left));intro e;exact ae.pure p λH j I f=>aE.cons f.1.2 f.2
theorem b6{j:av}(r:bA):∀v y,j.get? v=Y y->(j.push r).get? v=Y y:=λI I o=>cZ r o
theorem push_size{j:av}(r:bA):j.objs.size<=(j.push r).objs.size:=by obtain ⟨a,g⟩:=j;show a.size<=(a.push r).size;rw[pm];lia
theorem F0{x:List V}{t:List J}{h:V->O->Prop}(C:∀H j,W.p H j->aE H j x t)(u:x.length<=1000)(j:h (.tup x) L):ae B S W L (rR t) bh h D:=λs b H l I I P f I=>by
 have T:=C _ _ f;refine ib ⟨.tup x,L,H,j,?_,.more P (b6 _) (push_size _),rfl,rfl⟩ ?_
 ·refine⟨_,t.toArray,rfl,.of (n:=0) (ct _ rfl) P.eD,?_⟩;exact aE.ba (λI I I o=>o) (λv e d=>d.keep d.bu (b6 _ v)) x (T)
 ·show t.toArray.size<=gF;have:=T.length;refine U ve (U this (U cT ?_));lia
theorem F1{x:List V}{e:List J}{h:V->O->Prop}{A C:Nat}(F:∀H j,W.p H j->aE H j x e)(u:x.length<=1000)(X:L.get A C=.none)(m:A=0->C<2^24)(j:h (.ref A C) (L.set A C (Y (.list x)))):ae B S W L (rS e) bh h D:=λs b H l I I q f I=>by
 have T:=F _ _ f;have P:aR B H l.heap (bD H A C (l.heap.objs.size,l.heap.objs.size)) (L.set A C (Y (.list x))) (l.heap.push {cls:=.type "list",data:=.seq e.toArray}):=
  aR.alloc q (b6 _) (push_size _) X m (Nat.le_refl _) (Nat.le_refl _) λK c n=>
   ⟨rfl,e.toArray,⟨0,ct _ rfl⟩,aE.ba c n x (T)⟩
 refine ib ⟨.ref A C,_,_,j,⟨_,by unfold bD;exact U (if_pos ⟨rfl,rfl⟩) rfl,rfl⟩,P,rfl,rfl⟩ ?_
 show e.toArray.size<=gF;have:=T.length;refine U ve (U this (U cT ?_));lia
theorem F2{n:List ah}{A:Nat}{z:aN}{h:V->O->Prop}(j:jE B S k Q L z n (λx a=>x.length<=1000/\h (.tup x) a) D):bq B S k Q L (.Tuple n A z) h D:=by show ae B S _ L (bT z>>=λI=>iJ (eF z (eg n k))>>=λe=>rR e) _ _ _;refine ae.standAt (ae.bind (ae.q j (λx a T=>?_)));intro e;exact F0 (λH j f=>f.2) T.1 T.2
theorem F3{n:List ah}{z:aN}{h:V->O->Prop}(j:jE B S k Q L z n (λx a=>x.length<=1000/\∃A C,a.get A C=G/\(A=0->C<2^24)/\h (.ref A C) (a.set A C (Y (.list x)))) D):bq B S k Q L (.List n z) h D:=by show ae B S _ L (bT z>>=λI=>iJ (eF z (eg n k))>>=λe=>rS e) _ _ _;refine ae.standAt (ae.bind (ae.q j (λx a T=>?_)));intro e;refine nc T λu A P=>?_;clear T;refine bX P λC X m T=>?_;exact F1 (λH j f=>f.2) u X m T
theorem rT{e:List J}{z:aZ J}{h:V->O->Prop}(j:ae B S W L z bh h D):ae B S W L (jF e z) bh h D:=λs b H l T F P f c=>wpAny_operateT (j s b H l T F P f c)
theorem F4{g T:ah}{w:l3}{z:aN}{h:V->O->Prop}
  (j:bq B S k Q L g (λy a=>bq B S k Q a T (λX N=>∀v m,ae B S (((loc B k Q).and (ee y v)).and (ee X m)) N (nq w v m) bh h D) D) D):bq B S k Q L (.BinOp g w T z) h D:=by
 show ae B S _ L (aX g k>>=λv=>bO [v] (aX T k)>>=λm=>bT z>>=λI=>jF [v,m] (nq w v m)) _ _ _;refine ae.bind (ae.q j (λy a A=>?_));intro v;refine ae.bind (ae.holding (ae.weak (ae.q A (λX N p=>?_)) and_left));intro m;exact ae.standAt (rT (p v m))
noncomputable def cK :Bool->Bool
 |true=>E|false=>M
noncomputable def nr :V->Option Int
 |.int f=>Y f|_=>G
noncomputable def eR{N e:Type}(r:Option N)(S:N->Option e):Option e:=match r with
 |some v=>S v|none=>G
theorem eG{N e:Type}{r:Option N}{S:N->Option e}{i:e}(j:eR r S=Y i):∃v,r=Y v/\S v=Y i:=by
 induction r using aB with|none=>exact ag j|some v=>exact aC v rfl j
theorem l4{y:V}{f:Int}(j:nr y=Y f):y=.int f:=by
 induction y using V.casesOn with|int=>exact U (an j) rfl|_=>exact ag j
noncomputable def refOf :V->Option (Nat×Nat)
 |.ref A C=>Y (A,C)|_=>G
theorem pn{N:V}{Z:Nat×Nat}(j:refOf N=Y Z):N=.ref Z.1 Z.2:=by
 induction N using V.casesOn with|ref=>exact U (an j).symm rfl|_=>exact ag j
noncomputable def nt :V->Option Key
 |.str l=>Y l|_=>G
theorem po{y:V}{l:Key}(j:nt y=Y l):y=.str l:=by
 induction y using V.casesOn with|str=>exact U (an j) rfl|_=>exact ag j
def zA(x X:V)(S:Int->Int->Option V):Option V:=eR (nr x) λv=>eR (nr X) λm=>S v m
noncomputable def zB :V->Option (List V)
 |.tup xs=>Y xs|_=>G
theorem F5{y:V}{g:List V}(j:zB y=Y g):y=.tup g:=by
 induction y using V.casesOn with|tup=>exact U (an j) rfl|_=>exact ag j
noncomputable def gG{e:Type}(m:Bool)(r:Option e):Option e:=match m with
 |true=>r|false=>G
theorem hh{e:Type}{m:Bool}{r:Option e}{i:e}(j:gG m r=Y i):m=M/\r=Y i:=by
 induction m using ap with|false=>exact ag j|true=>exact⟨rfl,j⟩
def F6(x X:V):Option V:=match x with
 |.int v=>eR (nr X) λm=>Y (.int (v+m))|.tup xs=>eR (zB X) λn=>gG (Nat.ble (xs.length+n.length) 1000) (Y (.tup (xs++n)))|_=>G
def vf(w:l3)(x X:V):Option V:=match w with
 |.Add=>F6 x X|.Sub=>zA x X λv m=>Y (.int (v-m))|.Mod=>zA x X λv m=>gG (cK (fq m 0)) (Y (.int (v.fmod m)))|_=>G
theorem F7{s:aY}{H:ax}{l:ai}{x r:List V}{f k:af}{a Q:Array J}{h:V->O->Prop}(q:Rep B H L l.heap)(p:aO H l.heap f a)(R:aE H l.heap x a.toList)(u:aO H l.heap k Q)(Z:aE H l.heap r Q.toList)(T:x.length+r.length<=1000)(j:h (.tup (x++r)) L):
  ao (aA B.prog B.w) s (nq .Add (.ref f) (.ref k)) (ef (c:=B) bh h H l) (dq B D H l) l:=by
 refine hd λi W=>?_;refine aD p.eP λN t=>?_;refine aD u.eP λm g=>?_;by_cases b:a.isEmpty=M
 ·obtain rfl:x= []:=zC (by refine U R.length.symm ?_;refine U eQ ?_;exact F8.mp b)
  refine W ?_;exact zD (aC _ t rfl) (aC _ g rfl) F9 seq_tuple_add F.slot_tuple_add F.entry_tuple_add (F.args_tuple_add_2 _ _) (AutoSeq1.tuple___add___tuple_tuple_0 f a N k Q m b)
   (aQ t g ⟨_,L,H,j,⟨_,_,rfl,u,Z⟩,.refl q,.refl⟩)
 ·by_cases K:Q.isEmpty=M
  ·obtain rfl:r= []:=zC (by refine U Z.length.symm ?_;refine U eQ ?_;exact F8.mp K)
   rw[iK] at j;refine W ?_;exact zD (aC _ t rfl) (aC _ g rfl) F9 seq_tuple_add F.slot_tuple_add F.entry_tuple_add (F.args_tuple_add_2 _ _) (AutoSeq1.tuple___add___tuple_tuple_1 f a N k Q m b K)
    (aQ t g ⟨_,L,H,j,⟨_,_,rfl,p,R⟩,.refl q,.refl⟩)
  ·refine W (P.add_tuple t g b K ⟨_,L,H,j,⟨_,_,rfl,.of (n:=0) (ct _ rfl) q.eD,?_⟩,.more q (b6 _) (push_size _),rfl,rfl⟩ (by refine U cT ?_;refine U eQ.symm ?_;refine U eQ.symm ?_;refine U R.length ?_;refine U Z.length ?_;exact Nat.le_trans T (by decide)))
   exact aE.ba (λI I I o=>o) (λv e d=>d.keep d.bu (b6 _ v)) _ (by refine U zE ?_;exact R.append Z)
theorem Ga{m:Int}(j:cK (fq m 0)=M):m≠0:=λu=>by subst u;exact aG j
theorem Gb{y X i:V}{v m:J}{w:l3}{h:V->O->Prop}(o:vf w y X=Y i)(q:∀H j,W.p H j->aq H j y v)(C:∀H j,W.p H j->aq H j X m)(j:h i L):ae B S W L (nq w v m) bh h D:=λT9 b H l I I P f I=>by
 have g:=q _ _ f;have z:=C _ _ f;clear q C f;refine hd λN n=>?_;induction w using Gc with
 |Add=>induction y using V.casesOn with
  |int v=>refine au (eG o) λm u o=>?_;rw[l4 u] at z;refine aD g λd Q=>?_;clear g;subst Q;refine aD z λc Q=>?_;clear z;subst Q;obtain rfl:=an o;exact n (add_int ⟨_,_,H,j,⟨_,rfl⟩,cY P⟩)
  |tup x=>refine au (eG o) λr u o=>?_;rw[F5 u] at z;refine ak (hh o) λT o=>?_;obtain ⟨R,F,rfl,t,K⟩:=g;obtain ⟨k,a,rfl,s,e⟩:=z;obtain rfl:=an o;exact n (F7 P t K s e (Nat.le_of_ble_eq_true T) j)
  |_=>exact ag o
 |Sub=>refine au (eG o) λv Z o=>au (eG o) λm u o=>?_;rw[l4 Z] at g;rw[l4 u] at z;refine aD g λd Q=>?_;clear g;subst Q;refine aD z λc Q=>?_;clear z;subst Q;obtain rfl:=an o;exact n (sub_int ⟨_,_,H,j,⟨_,rfl⟩,cY P⟩)
 |Mod=>refine au (eG o) λv Z o=>au (eG o) λm u o=>ak (hh o) λA o=>?_;rw[l4 Z] at g;rw[l4 u] at z;refine aD g λd Q=>?_;clear g;subst Q;refine aD z λc Q=>?_;clear z;subst Q;obtain rfl:=an o;exact n (mod_int (Ga A) ⟨_,_,H,j,⟨_,rfl⟩,cY P⟩)
 |_=>exact ag o
end
section
variable{B:aa}{S:Nat}{W:Inv B}{L:O}{k:aF}{Q:al}{D:Nat->Nat->O->Prop}
theorem pq{H:ax}{j:av}{A:am}:∀{g:List (Key×V)} {S:List (am×J)},S.map (λy=>ay y.1)=g.map (·.1)->aE H j (g.map (·.2)) (S.map (·.2))->
  (∀e,bL (ay A) g=Y e->∃N,nu S A=Y N/\aq H j e N)/\(bL (ay A) g=G->nu S A=G):=by
 intro s;induction s with
 |nil=>
  intro D;induction D using aS with|nil=>intro I I;exact⟨λI o=>(ag o),λI=>rfl⟩|cons B d=>intro o I;cases o
 |cons r z F=>
  intro D;induction D using aS with|nil=>intro o I;cases o|cons B d=>
   intro o T;obtain ⟨v,y⟩:=r;obtain ⟨m,N⟩:=B;obtain ⟨C,n,t,Z,R⟩:=T;cases t;have a:ay m=v:=(dP o).1;have b:=(dP o).2;have F:=F b R;clear o;subst a;have val:nu ((m,N)::d) A=if m=A then Y N else nu d A:=by
    unfold nu;refine U (Gd) ?_;by_cases u:m=A
    ·simp[u]
    ·simp[u]
   have c:bL (ay A) ((ay m,y)::z)=if m=A then Y y else bL (ay A) z:=by
    show(match a0 (ay m) (ay A) with|true=>Y y|false=>bL (ay A) z)=_
    generalize u:a0 (ay m) (ay A)=K;induction K using ap with|true=>have:=jz (dL.mp u);simp[this]|false=>have:m≠A:=λi=>ng u (U i rfl);simp[this]
   refine U val (U c ?_);by_cases u:m=A
   ·simp only[if_pos u];exact⟨λe i=>by obtain rfl:=an i;exact aC N rfl Z,λi=>ha i⟩
   ·simp only[if_neg u];exact F
noncomputable def ltI :Int->Int->Bool
 |.ofNat z,.ofNat C=>Nat.blt z C|.ofNat _,.negSucc _=>E|.negSucc _,.ofNat _=>M|.negSucc z,.negSucc C=>Nat.blt C z
theorem rU(v m:Int):ltI v m=decide (v<m):=by
 induction v using kE with
 |ofNat z=>induction m using kE with|ofNat C=>show Nat.blt z C=_;rw[nk,decide_eq_true_iff];show Nat.ble (z+1) C=M<->_;refine U Nat.ble_eq ?_;show _<->(z:Int)<(C:Int);lia|negSucc C=>show E=_;symm;exact decide_eq_false (by show¬((z:Int)<zF C);lia)
 |negSucc z=>induction m using kE with|ofNat C=>show M=_;symm;exact decide_eq_true (by show zF z<(C:Int);lia)|negSucc C=>show Nat.blt C z=_;rw[nk,decide_eq_true_iff];show Nat.ble (C+1) z=M<->_;refine U Nat.ble_eq ?_;lia
theorem nv(m:Bool):cK m= !m:=by induction m using ap <;>rfl
noncomputable def isNone :V->Option Bool
 |.none=>Y M|.glob _=>G|_=>Y E
noncomputable def vg{N:Type}:Option N->Bool
 |some _=>M|none=>E
def zG(L:O)(x:V):Option aj->Option Bool
 |some (.list n)=>l1 L 60 x n|some (.dict g)=>match x with
  |.str l=>Y (vg (bL l g))|_=>G
 |_=>G
def vh(L:O)(x X:V):Option Bool:=match X with
 |.tup n=>l1 L 60 x n|.ref A C=>zG L x (L.get A C)|_=>G
def vi(L:O)(x X:V):Option Bool:=match x with
 |.str v=>match X with
  |.str m=>Y (a0 v m)|_=>G
 |.int v=>match X with
  |.int m=>Y (fq v m)|_=>G
 |.bool v=>match X with
  |.bool m=>Y (fq (pi v) (pi m))|_=>G
 |.tup xs=>match X with
  |.tup n=>allM (cJ L 59) xs n|_=>G
 |.ref A C=>match X with
  |.ref w a=>lists L A C w a (allM (cJ L 59))|_=>G
 |_=>G
def l5 :Option Bool->Option Bool
 |some m=>Y (cK m)|none=>G
noncomputable def pr(S:Int->Int->Bool)(x X:V):Option Bool:=match x with
 |.int v=>match X with
  |.int m=>Y (S v m)|_=>G
 |_=>G
def vj(x X:V):Option Bool:=match X with
 |.none=>isNone x|_=>G
def iL(L:O)(w:fa)(x X:V):Option Bool:=match w with
 |.Eq=>vi L x X|.NotEq=>l5 (vi L x X)|.Is=>vj x X|.IsNot=>l5 (vj x X)|.In=>vh L x X|.NotIn=>l5 (vh L x X)|.Lt=>pr ltI x X|.LtE=>pr (λv m=>cK (ltI m v)) x X|.Gt=>pr (λv m=>ltI m v) x X|.GtE=>pr (λv m=>cK (ltI v m)) x X
theorem vk{r:Option Bool}{i:Bool}(o:l5 r=Y i):∃m,r=Y m/\i= !m:=by
 induction r using aB with|none=>exact ag o|some m=>exact aC m rfl ((an o).symm.trans (nv m))
theorem rV{H:ax}{j:av}{S:Int->Int->Bool}{y X:V}{N t:J}{i:Bool}(o:pr S y X=Y i)(g:aq H j y N)(z:aq H j X t):∃v m d c,N=.int v d/\t=.int m c/\S v m=i:=by
 refine hd λT W=>?_;induction y using V.casesOn with
 |int v=>induction X using V.casesOn with|int m=>refine aD g λd Q=>?_;clear g;subst Q;refine aD z λc Q=>?_;clear z;subst Q;exact W (c9 v m d ⟨c,rfl,rfl,an o⟩)|_=>exact ag o
 |_=>exact ag o
theorem zH{l:ai}{H:ax}(P:Rep B H L l.heap){s:aY}{y X:V}{N t:J}{m:Bool}(o:vi L y X=Y m)(g:aq H l.heap y N)(z:aq H l.heap X t)(r:s.units+60<iH):RcAt s l N t m/\rP s l N t (!m):=by
 have f:s.units<cLine:=Nat.lt_of_le_of_lt (Nat.le_add_right _ _) r;have F:∀{y X:V} {N t:J} {m:Bool},cJ L 59 y X=Y m->aq H l.heap y N->aq H l.heap X t->fF s.in1 l N t m:=λo R Z=>zt P 59 s.in1 o R Z (by show s.units+1+59<iH;lia)
 induction y using V.casesOn with
 |str v=>induction X using V.casesOn with|str K=>exact U (an o).symm ((zs g z).2)|_=>exact ag o
 |int v=>induction X using V.casesOn with|int K=>refine aD g λd Q=>?_;clear g;subst Q;refine aD z λc Q=>?_;clear z;subst Q;refine U (an o).symm ?_;rw[jC];exact⟨RcAt.int_int _ _ _ _,RcNeAt.int_int _ _ _ _⟩|_=>exact ag o
 |bool v=>induction X using V.casesOn with|bool K=>refine U (show N=.bool v from g) (U (show t=.bool K from z) (U (an o).symm ?_));have b:=RcAt.bool_bool (A:=s) (s:=l) v K;have p:=RcNeAt.bool_bool (A:=s) (s:=l) v K;induction v using ap <;>induction K using ap <;>exact⟨b,p⟩|_=>exact ag o
 |tup x=>induction X using V.casesOn with
  |tup n=>obtain ⟨v,e,rfl,d,R⟩:=g;obtain ⟨k,D,rfl,h,Z⟩:=z;exact zp F f d h R Z o
  |_=>exact ag o
 |ref A C=>induction X using V.casesOn with|ref w a=>exact zr P F f o g z|_=>exact ag o
 |_=>exact ag o
theorem zI(v m:Int):decide (v<=m)=cK (ltI m v):=by rw[nv,rU,nk];simp
theorem Ge{H:ax}{j:av}{y:V}{N:J}{m:Bool}(o:isNone y=Y m)(T:aq H j y N):plainIs N .none=M/\(N==.none)=m:=by
 induction y using V.casesOn with
 |none=>subst T;obtain rfl:=an o;exact⟨rfl,rfl⟩
 |bool=>subst T;obtain rfl:=an o;exact⟨rfl,rfl⟩
 |int=>refine aD T λd Q=>?_;clear T;subst Q;obtain rfl:=an o;exact⟨rfl,rfl⟩
 |str=>obtain ⟨y,d,rfl,_⟩:=T;obtain rfl:=an o;exact⟨rfl,rfl⟩
 |bytes=>obtain ⟨y,d,rfl,_⟩:=T;obtain rfl:=an o;exact⟨rfl,rfl⟩
 |tup=>obtain ⟨y,d,rfl,_⟩:=T;obtain rfl:=an o;exact⟨rfl,rfl⟩
 |ref=>obtain ⟨Z,_,rfl⟩:=T;obtain rfl:=an o;exact⟨rfl,rfl⟩
 |glob=>exact ag o
theorem zJ{d:aZ J}{m:Bool}{h:V->O->Prop}(j:h (.bool m) L)(t:∀(s:aY) (H:ax) (l:ai) (b:List aF) (n:J->ai->Prop) (a:J->ai->Prop),Ready s S b->Rep B H L l.heap->W.p H l.heap->(∀A,a (.bool m) {l with toks:=A})->ao (aA B.prog B.w) s d a n l):ae B S W L d bh h D:=
 λs b H l T I P f I=>t s H l b _ _ T P f λI=>⟨_,_,H,j,rfl,cY P⟩
theorem zK(I:(B.base.get? f3).isSome=M){s:aY}{H:ax}{l:ai}{y X:V}{v m:J}{i:Bool}{n:J->ai->Prop}(P:Rep B H L l.heap)(e:s.units+1+60<iH)(h:aq H l.heap y v)(R:aq H l.heap X m)(o:vh L y X=Y i):
  (∀a:J->ai->Prop,(∀D,a (.bool i) {l with toks:=D})->ao (aA B.prog B.w) s (ps .In v m) a n l)/\(∀a:J->ai->Prop,(∀D,a (.bool (!i)) {l with toks:=D})->ao (aA B.prog B.w) s (ps .NotIn v m) a n l):=by
 refine hd λUD W=>?_;induction X using V.casesOn with
 |tup j=>obtain ⟨TU,TW,rfl,d,T⟩:=R;refine au (zw P o h T (s:=s) e) λc b p=>?_;clear o;subst p;exact W ⟨λa u=>in_tupleAt c d.tup b (u l.toks),λa u=>notIn_tupleAt c d.tup b (u l.toks)⟩
 |ref A C=>
  obtain ⟨Z,S,rfl⟩:=R;refine au (P.at S) λr Q N=>?_;replace o:zG L y (L.get A C)=Y i:=o;rw[Q] at o;clear Q;induction r using aj.casesOn with
  |list j=>obtain ⟨_,TW,d,T⟩:=N;refine au (zw P o h T (s:=s) e) λc b p=>?_;clear o;subst p;exact W ⟨λa u=>in_listAt c d.isList b (u l.toks),λa u=>notIn_listAt c d.isList b (u l.toks)⟩
  |dict g=>
   induction y using V.casesOn with
   |str TR=>
    obtain ⟨_,TS,hd,TV,z⟩:=N;obtain ⟨x,d,rfl,rfl⟩:=h;have q:(Z.1==f3)=false:=by rw[beq_eq_false_iff_ne];intro i;have:=(P.new _ _ _ S).1;rw[i] at this;rw[this] at I;exact aG I
    refine ak (pq (A:=x) TV z) λTZ TX=>?_;have F:(strKind B.prog B.w).is x (.str x d)=true:=by show eH x (.str x d)=M;simp[eH]
    have k:(nu TS x).isSome=i:=by
     refine U (an o).symm ?_;generalize t:bL (ay x) g=K;induction K using aB with|none=>refine U (TX t) ?_;rfl|some f=>refine au (TZ f t) λT3 z UH=>U z ?_;rfl
    clear o;subst k;exact W ⟨λa u=>wpAny_in_of (k:=x) (knd:=strKind B.prog B.w) F q hd.mapOf (u _),λa u=>wpAny_notIn_of (k:=x) (knd:=strKind B.prog B.w) F q hd.mapOf (u _)⟩
   |_=>exact ag o
  |_=>exact ag o
 |_=>exact ag o
theorem zL{H:ax}{j:av}{y X:V}{N t:J}{m:Bool}(o:vj y X=Y m)(T:aq H j y N)(z:aq H j X t):t=.none/\plainIs N .none=M/\(N==.none)=m:=by
 induction X using V.casesOn with|none=>exact⟨z,Ge o T⟩|_=>exact ag o
theorem vl(r:(B.base.get? f3).isSome=M){y X:V}{v m:J}{w:fa}{i:Bool}{h:V->O->Prop}(o:iL L w y X=Y i)(q:∀H j,W.p H j->aq H j y v)(C:∀H j,W.p H j->aq H j X m)(j:h (.bool i) L):ae B S W L (ps w v m) bh h D:=by
 refine zJ j λs H l b n a T P f u=>?_;have g:=q _ _ f;have z:=C _ _ f;have A:s.units+1+60<cLine:=by have:=T.units;lia
 have F:s.units+60<cLine:=by have:=T.units;lia
 have x:a (.bool i) l:=u l.toks;induction w using Gf with|Eq=>exact(zH P o g z F).1 _ _ _ _ x|NotEq=>refine au (vk o) λK t Q=>?_;clear o u j;subst Q;exact(zH P t g z F).2 _ _ _ _ x|Is=>refine br (zL o g z) λQ I R=>?_;clear z C;subst Q;clear o u j;subst R;exact wpAny_is_plain I x|IsNot=>refine au (vk o) λK t Q=>?_;subst Q;refine br (zL t g z) λQ I R=>?_;clear z C;subst Q;clear o u j t;subst R;exact wpAny_isNot_plain I x|In=>exact(zK r P A g z o).1 _ u|NotIn=>refine au (vk o) λK t Q=>?_;clear o x j;subst Q;exact(zK r P A g z t).2 _ u|Lt=>refine jy (rV o g z) λf k d c Q e o=>?_;clear g q;subst Q;clear z C;subst e;exact lt_int (by rw[<-rU];refine U o ?_;exact x)|LtE=>refine jy (rV o g z) λf k d c Q e o=>?_;clear g q;subst Q;clear z C;subst e;exact le_int (by rw[zI];refine U o ?_;exact x)|Gt=>refine jy (rV o g z) λf k d c Q e o=>?_;clear g q;subst Q;clear z C;subst e;exact gt_int (by rw[<-rU];refine U o ?_;exact x)|GtE=>refine jy (rV o g z) λf k d c Q e o=>?_;clear g q;subst Q;clear z C;subst e;exact ge_int (by rw[zI];refine U o ?_;exact x)
end
section
variable{B:aa}{S:Nat}{w:Inv B}{L:O}{k:aF}{Q:al}{D:Nat->Nat->O->Prop}
abbrev hH(B:aa)(S:Nat)(k:aF)(Q:al)(L:O)(o:ah)(Φ:Bool->O->Prop)(D:Nat->Nat->O->Prop):Prop:=ae B S (loc B k Q) L (gH o k (aX o k)) eE Φ D
theorem ae.iM{N e Q b:Type}{R:Rel B e N}{C:Rel B b Q}{d:b->O->Prop}{z:aZ N}{A:N->aZ Q}(y:e)(n:O)(j:ae B S w L z R (λm a=>m=y/\a=n) D)(x:∀v,ae B S (w.and (R.r y v)) n (A v) C d D):ae B S w L (z>>=A) C d D:=
 ae.bind (ae.q j (λm a o=>ak o λt g=>by subst t g;exact x))
theorem pt{y:V}{m:Bool}{N:J}{h:Bool->O->Prop}(o:y=.bool m)(q:∀H j,w.p H j->aq H j y N)(j:h m L):ae B S w L (rW N) eE h D:=λI I H l I I P f I=>by have T:=q _ _ f;subst o;clear q;subst T;exact zl ⟨m,L,H,j,rfl,.refl P,.refl⟩
theorem Gg{N g:Type}{e a:List J}{d:aZ N}{R:Rel B g N}{h:g->O->Prop}(j:ae B S w L d R h D):ae B S w L (nw e a>>=λI=>d) R h D:=λs b H l T F P f c=>
 ab (λn Z p=>by rw[vm];exact j s b H l T F P f c)
theorem Gh(u:(B.base.get? f3).isSome=M){g T n:ah}{w s:fa}{z:aN}{h:Bool->O->Prop}(t:rX s n=E)
  (TW:bq B S k Q L g (λy a=>bq B S k Q a T (λX N=>∃i,iL N w y X=Y i/\(i=E->h E N)/\(i=M->bq B S k Q N n (λj b=>∃o,iL b s X j=Y o/\h o b) D)) D) D):hH B S k Q L (.Compare g [w,s] [T,n] z) h D:=by
 have TR:gH (.Compare g [w,s] [T,n] z) k (aX (.Compare g [w,s] [T,n] z) k)=(aX g k>>=λv=>bO [v] (aX T k)>>=λm=>bT z>>=λI=>bO [v,m] (ps w v m)>>=λW=>
   nw [v,m] [W]>>=λI=>bO [W,m] (rW W)>>=λd=>if d=M then(bO [m] (aX n k)>>=λK=>bT z>>=λI=>jF [m,K] (ps s m K)>>=λc=>bO [c] (rW c)) else pure E):=by
  show(do testChain z (<-aX g k) [w,s] (markedEach [w,s] [T,n] (rY [T,n] k)))=_
  refine U (markedEach_of_false _ _ _ (by show rX s n=E;exact t)) ?_
  rfl
 show ae B S _ L (gH (.Compare g [w,s] [T,n] z) k _) _ _ _
 try refine U TR ?_
 refine ae.bind (ae.q TW (λy a A=>?_));intro v;refine ae.bind (ae.holding (ae.weak (ae.q A (λX N p=>?_)) and_left));intro m;refine bX p λi x UH e=>?_;clear p;refine ae.standAt (ae.iM (R:=bh) (.bool i) N ?_ λW=>?_)
 ·exact ae.holding (vl u x (λI I f=>f.1.2) (λI I f=>f.2) ⟨rfl,rfl⟩)
 refine Gg (ae.iM (R:=eE) i N ?_ ?_)
 ·exact ae.holding (pt rfl (λI I f=>f.2) ⟨rfl,rfl⟩)
 intro d TS TV H l Z F P f TU;have:i=d:=f.2;subst this;clear x;induction i using ap with|false=>exact aH ⟨E,_,H,UH rfl,rfl,.refl P,.refl⟩|true=>
  refine(?_:ae B S (((((loc B k Q).and (ee y v)).and (ee X m)).and (ee (.bool M) W)).and (eE.r M M)) N _ eE h D) TS TV H l Z F P f TU;refine U (if_pos rfl) (ae.bind (ae.holding (ae.weak (ae.q (e rfl) (λj b C=>?_)) (λI I f=>f.1.1.1.1))));intro K;refine au C λo Uh C=>ae.standAt (ae.iM (R:=bh) (.bool o) b ?_ λc=>?_)
  ·exact rT (vl u Uh (λI I f=>f.1.1.1.2) (λI I f=>f.2) ⟨rfl,rfl⟩)
  exact ae.holding (pt rfl (λI I f=>f.2) C)
theorem Gi{y:ah}{z:aN}{h:Bool->O->Prop}(j:hH B S k Q L y (λm a=>h (cK m) a) D):hH B S k Q L (.UnaryOp .Not y z) h D:=by show ae B S _ L (gH y k (aX y k)>>=λm=>pure (!m)) _ _ _;refine ae.bind (ae.q j (λm a A=>?_));intro K;exact ae.pure A λH j I f=>by have:m=K:=f.2;show cK m= !K;refine U this ?_;rw[nv]
set_option backward.match.sparseCases false in
noncomputable def vn :ah->Bool
 |.UnaryOp .Not _ _=>E|.BoolOp _ _ _=>E|.IfExp _ _ _ _=>E|.Compare _ _ _ _=>E|_=>M
theorem Gj{o:ah}{h:Bool->O->Prop}(g:vn o=M)(j:bq B S k Q L o (λy a=>∃m,y=.bool m/\h m a) D):hH B S k Q L o h D:=by
 have:gH o k (aX o k)=(aX o k>>=λN=>bT o.pos>>=λI=>bO [N] (rW N)):=by
  induction o using bE with
  |UnaryOp w y z=>clear j;induction w using vo <;>first|rfl|exact aG g
  |BoolOp=>exact aG g|IfExp=>exact aG g|Compare=>exact aG g|_=>rfl
 show ae B S _ L (gH o k _) _ _ _;refine U this (ae.bind (ae.q j (λy a A=>?_)));intro N;exact au A λm T A=>ae.standAt (ae.holding (pt T (λI I f=>f.2) A))
abbrev nx(B:aa)(S:Nat)(k:aF)(Q:al)(L:O)(w:gI)(n:List ah)(Φ:Bool->O->Prop)(D:Nat->Nat->O->Prop):Prop:=ae B S (loc B k Q) L (vp w n k) eE Φ D
theorem Gk{w:gI}{h:Bool->O->Prop}(j:h (w==.And) L):nx B S k Q L w [] h D:=by show ae B S _ L (pure (w==.And)) _ _ _;exact ae.pure j λI I I I=>rfl
theorem Gl{w:gI}{y:ah}{n:List ah}{h:Bool->O->Prop}(j:hH B S k Q L y (λm a=>match w,m with
  |.And,E=>h E a|.Or,M=>h M a|_,_=>nx B S k Q a w n h D) D):nx B S k Q L w (y::n) h D:=by
 have o:vp w (y::n) k=(gH y k (aX y k)>>=λm=>match w,m with|.And,E=>pure E|.Or,M=>pure M|_,_=>vp w n k):=rfl
 show ae B S _ L (vp w (y::n) k) _ _ _
 try refine U o ?_
 refine ae.bind (ae.q j (λm a A=>?_));intro K s b H l Z F P f c;have:m=K:=f.2;subst this;clear o j;induction w using rZ <;>induction m using ap
 ·exact aH ⟨E,_,H,A,rfl,.refl P,.refl⟩
 ·exact A s b H l Z F P f.1 c
 ·exact A s b H l Z F P f.1 c
 ·exact aH ⟨M,_,H,A,rfl,.refl P,.refl⟩
theorem Gm{w:gI}{n:List ah}{z:aN}{h:Bool->O->Prop}(j:nx B S k Q L w n h D):hH B S k Q L (.BoolOp w n z) h D:=j
theorem zM{d y X:ah}{z:aN}{h:V->O->Prop}(j:hH B S k Q L d (λm a=>match m with|true=>bq B S k Q a y h D|false=>bq B S k Q a X h D) D):bq B S k Q L (.IfExp d y X z) h D:=by
 show ae B S _ L (gH d k (aX d k)>>=λm=>if m=M then aX y k else aX X k) _ _ _
 refine ae.bind (ae.q j (λm a A=>?_));intro K s b H l Z F P f c;have:m=K:=f.2;subst this;induction m using ap
 ·exact A s b H l Z F P f.1 c
 ·exact A s b H l Z F P f.1 c
abbrev ny(B:aa)(S:Nat)(k:aF)(Q:al)(L:O)(z:aN)(w:gI)(n:List ah)(Φ:V->O->Prop)(D:Nat->Nat->O->Prop):Prop:=ae B S (loc B k Q) L (vq z w (rY n k)) bh Φ D
theorem Gn{pos}{w:gI}{y:ah}{h:V->O->Prop}(j:bq B S k Q L y h D):ny B S k Q L pos w [y] h D:=j
theorem Go{pos}{w:gI}{y X:ah}{n:List ah}{h:V->O->Prop}(j:bq B S k Q L y (λN a=>∃m,N=.bool m/\match w,m with
  |.And,E=>h N a|.Or,M=>h N a|_,_=>ny B S k Q a pos w (X::n) h D) D):ny B S k Q L pos w (y::X::n) h D:=by
 have o:vq pos w (rY (y::X::n) k)=(aX y k>>=λN=>bT pos>>=λI=>bO [N] (rW N)>>=λd=>match w,d with|.And,E|.Or,M=>pure N|_,_=>vq pos w (rY (X::n) k)):=rfl
 show ae B S _ L (vq pos w (rY (y::X::n) k)) _ _ _
 try refine U o ?_
 refine ae.bind (ae.q j (λN a A=>?_));intro C;refine au A λm r A=>?_;subst r;refine ae.standAt (ae.iM (R:=eE) m a ?_ ?_)
 ·exact ae.holding (pt rfl (λI I f=>f.2) ⟨rfl,rfl⟩)
 intro d s b H l Z F P f c;have:m=d:=f.2;subst this;clear o j;induction w using rZ <;>induction m using ap
 ·exact aH ⟨_,_,H,A,f.1.2,.refl P,.refl⟩
 ·exact A s b H l Z F P f.1.1 c
 ·exact A s b H l Z F P f.1.1 c
 ·exact aH ⟨_,_,H,A,f.1.2,.refl P,.refl⟩
theorem Gp{w:gI}{n:List ah}{z:aN}{h:V->O->Prop}(j:ny B S k Q L z w n h D):bq B S k Q L (.BoolOp w n z) h D:=j
theorem Gq{y:ah}{z:aN}{h:V->O->Prop}(j:bq B S k Q L y (λN a=>∃m,N=.bool m/\h (.bool (cK m)) a) D):bq B S k Q L (.UnaryOp .Not y z) h D:=by show ae B S _ L (aX y k>>=λN=>bT z>>=λI=>bO [N] (unaryOp .Not N)) _ _ _;refine ae.bind (ae.q j (λN a A=>?_));intro C;obtain ⟨m,rfl,A⟩:=A;refine ae.standAt (ae.holding (λs b H l Z F P f c=>?_));have:C=.bool m:=f.2;clear f;subst this;exact not_of (zl ⟨_,_,H,A,(nv m).symm▸rfl,.refl P,.refl⟩)
theorem Gr{y:ah}{z:aN}{h:V->O->Prop}(j:bq B S k Q L y (λN a=>∃m,N=.int m/\h (.int (-m)) a) D):bq B S k Q L (.UnaryOp .USub y z) h D:=by show ae B S _ L (aX y k>>=λN=>bT z>>=λI=>bO [N] (unaryOp .USub N)) _ _ _;refine ae.bind (ae.q j (λN a A=>?_));intro C;obtain ⟨m,rfl,A⟩:=A;refine ae.standAt (ae.holding (λs b H l Z F P f c=>?_));obtain ⟨d,rfl⟩:∃d,C=.int m d:=f.2;exact neg_int ⟨_,_,H,A,⟨_,rfl⟩,cY P⟩
end
section
variable{B:aa}{S:Nat}{W:Inv B}{L:O}{k:aF}{Q:al}{D:Nat->Nat->O->Prop}
noncomputable def nz(f:Int)(C:Nat):Option Nat:=match f with
 |.ofNat k=>match Nat.blt k C,Nat.blt k 4611686018427387904 with
  |true,M=>Y k|_,_=>G
 |.negSucc k=>match Nat.blt k C,Nat.blt k 4611686018427387904 with
  |true,M=>Y (C-(k+1))|_,_=>G
def vr(n:List V)(X:V):Option V:=eR (nr X) λf=>eR (nz f n.length) λk=>n[k]?
def Gs(r:aj)(X:V):Option V:=match r with
 |.list n=>vr n X|.dict g=>eR (nt X) λl=>bL l g|_=>G
def vt(L:O)(x X:V):Option V:=match x with
 |.tup n=>vr n X|.ref A C=>eR (L.get A C) λr=>Gs r X|_=>G
theorem zN{n:List V}{X i:V}(o:vr n X=Y i):∃f k,X=.int f/\nz f n.length=Y k/\n[k]? =Y i:=by exact au (eG o) λf b o=>au (eG o) λk p o=>hE f k (l4 b) p o
theorem fb{v m:Nat}:Nat.blt v m=M<->v<m:=by show Nat.ble (v+1) m=M<->_;refine U Nat.ble_eq ?_;lia
theorem zO{f:Int}{C k:Nat}(o:nz f C=Y k):k<C/\seqIndex? f C=Y k/\-(2^63)<=f/\f<2^63/\(0<=f->f.toNat=k)/\(f<0->-(C:Int)<=f/\(f+C).toNat=k):=by
 unfold nz at o;induction f using kE with
 |ofNat A=>
  dsimp only at o;generalize H:Nat.blt A C=b at o;generalize p:Nat.blt A 4611686018427387904=d at o;induction b using ap <;>induction d using ap <;>first|exact ag o|skip
  ·replace o:=an o;subst o;replace H:=fb.mp H;replace p:=fb.mp p;have c:hI A=(A:Int):=rfl;refine nf H ?_ (Int.le_trans (by decide) (r0 A)) (zP (vu.mpr p) (by decide)) (λI=>rfl) (λj=>absurd j (Gu.mpr (r0 A)))
   unfold seqIndex?;refine U c ?_;have v:¬((A:Int)<0):=Gu.mpr (r0 A);simp only[v,if_false];refine U (if_pos (by simp;lia)) ?_
   rfl
 |negSucc A=>
  dsimp only at o;generalize H:Nat.blt A C=b at o;generalize p:Nat.blt A 4611686018427387904=d at o;induction b using ap <;>induction d using ap <;>first|exact ag o|skip
  ·obtain rfl:=an o;replace H:=fb.mp H;replace p:=fb.mp p;have c:zF A= -((A:Int)+1):=by lia
   refine nf (by lia) ?_ (by refine U c ?_;lia) (by refine U c ?_;lia) (λj=>by rw[c] at j;lia) (λI=>⟨by refine U c ?_;lia,by refine U c ?_;lia⟩)
   unfold seqIndex?;refine U c ?_;have v:(-((A:Int)+1)<0):=by lia
   simp only[v,if_true];refine U (if_pos (by simp;lia)) ?_
   congr 1;lia
section
variable{s:aY}{H:ax}{l:ai}{i:V}{n:List V}{f:Int}{k:Nat}{Q:d1}{e:Array J}{ad:af}{a h:J->ai->Prop}{TW TV:ah}
theorem Gv(R:∀v m,nA TV E v m=jF [v,m] (nB v m))(c:nz f n.length=Y k)(o:n[k]? =Y i)(d:aO H l.heap ad e)(K:aE H l.heap n e.toList)(r:∀{N tk},aq H l.heap i N->a N {l with toks:=tk}):
  ao (aA B.prog B.w) s (l6 TW TV (.ref ad) (.int f Q)) a h l:=by
 refine hd λT W=>fW (zO c) λb p x q I=>au (K.get o) λN z Z=>aD d.eP λC X=>?_;have y:e.size=n.length:=by refine U K.length.symm ?_;exact U eQ rfl
 replace z:=(hf)▸z;exact W (pu (aC _ X rfl) F.slot_tuple_getitem.lookup (P.getItem_tuple X x q (by refine U y ?_;exact p) z (r (tk:=l.toks) Z)) (R _ _))
theorem Gw(R:∀v m,nA TV E v m=jF [v,m] (nB v m))(c:nz f n.length=Y k)(o:n[k]? =Y i)(d:nh l.heap ad e)(K:aE H l.heap n e.toList)(r:∀{N tk},aq H l.heap i N->a N {l with toks:=tk}):
  ao (aA B.prog B.w) s (l6 TW TV (.ref ad) (.int f Q)) a h l:=by
 refine hd λT W=>fW (zO c) λb p x q P=>ak P λg C=>au (K.get o) λN z Z=>?_;have I:e.size=n.length:=by refine U K.length.symm ?_;exact U eQ rfl
 replace z:=(hf)▸z;refine W (pu d.isList.typeIs zQ.lookup ?_ (R _ _));by_cases i:0<=f
 ·exact Gx d.isList i q (by refine U (g i) ?_;exact z) (r (tk:=l.toks) Z)
 ·have y:f<0:=Int.not_le.mp i;exact ak (C y) λX t=>wpAny_getItem_list_neg d.isList y (by refine U I ?_;exact X) x (by refine U I ?_;refine U t ?_;exact z) (r (tk:=l.toks) Z)
end
theorem Gy{y X i:V}{v m:J}{h:V->O->Prop}(o:vt L y X=Y i)(q:∀H j,W.p H j->aq H j y v)(z:∀H j,W.p H j->aq H j X m)(j:h i L)
  {TW TV:ah}(R:∀v m,nA TV E v m=jF [v,m] (nB v m)):ae B S W L (l6 TW TV v m) bh h D:=λs TR H l I I P f I=>by
 have Z:=q _ _ f;have b:=z _ _ f;have C:∀{N t},aq H l.heap i N->ef (c:=B) bh h H l N {l with toks:=t}:=λT=>⟨i,L,H,j,T,cY P⟩
 clear q z f j;refine hd λUD u=>?_;induction y using V.casesOn with
 |tup n=>obtain ⟨v,e,rfl,d,A⟩:=Z;obtain ⟨f,k,rfl,g,o⟩:=zN o;obtain ⟨Q,rfl⟩:=b;exact u (Gv R g o d A C)
 |ref TU Us=>
  obtain ⟨TX,Un,rfl⟩:=Z;refine au (eG o) λr F o=>?_;have x:=P.obj _ _ _ _ Un F;clear F;induction r using aj.casesOn with
  |list n=>obtain ⟨_,e,d,A⟩:=x;obtain ⟨f,k,rfl,g,o⟩:=zN o;obtain ⟨Q,rfl⟩:=b;exact u (Gw R g o d A C)
  |dict UA=>
   refine au (eG o) λTY T7 o=>?_;rw[po T7] at b;obtain ⟨_,TS,hd,T3,K⟩:=x;obtain ⟨n,d,rfl,rfl⟩:=b;refine ak (pq (A:=n) T3 K) λTZ I=>au (TZ i o) λN K Uf=>?_;have a:(strKind B.prog B.w).is n (.str n d)=true:=by show eH n (.str n d)=M;simp[eH]
   exact u (pu hd.mapOf.typeIs Gz.lookup (GA (k:=n) (knd:=strKind B.prog B.w) a hd.mapOf K (C Uf)) (R _ _))
  |_=>exact ag o
 |_=>exact ag o
set_option backward.match.sparseCases false in
noncomputable def pv :ah->Bool
 |.Slice _ _ _ _=>E|_=>M
end
section
variable{B:aa}{S:Nat}{w:Inv B}{L:O}{k:aF}{Q:al}{D:Nat->Nat->O->Prop}
structure pw(B:aa)(C:af):Prop where
 ga:c2 B.K (.ref C) "__getattribute__"=Y (Y (.builtin "object.__getattribute__"))
 GB:c2 B.K (.ref C) "__getattr__"=Y G
 jG:c2 B.K (.ref C) "__setattr__"=Y (Y (.builtin "object.__setattr__"))
 over:vv B.K C=M
 hd:(ic B.K C).any (·.hasDict)=M
theorem zR{H:ax}{j:av}{Q:am}:∀{g:List (Key×V)} {n:List eb},ec H j g n->
  (∀e,bL (ay Q) g=Y e->∃o,n.find? (·.key.isStr Q)=Y o/\aq H j e o.val)/\(bL (ay Q) g=G->n.find? (·.key.isStr Q)=G)/\n.any (·.refKey)=false:=by
 intro s;induction s with|nil=>intro I o;subst o;exact aQ (λI o=>(ag o)) (λI=>rfl) rfl|cons r g F=>
  obtain ⟨A,y⟩:=r;intro I h;obtain ⟨R,C,d,N,b,o,v,m,W⟩:=h;subst o;obtain ⟨f,q,k⟩:=F W;have c:bL (ay Q) ((A,y)::g)=if C=Q then Y y else bL (ay Q) g:=by
   show(match a0 A (ay Q) with|true=>Y y|false=>bL (ay Q) g)=_
   generalize u:a0 A (ay Q)=K;induction K using ap with|true=>have:=jz (v.trans (dL.mp u));simp[this]|false=>have:C≠Q:=λi=>ng u (by refine U v.symm ?_;exact U i rfl);simp[this]
  have a:(⟨R,.str C d,N⟩:eb).key.isStr Q=decide (C=Q):=by show(C==Q)=_;by_cases u:C=Q <;>rfl
  refine U c (U (Gd) ?_);refine U a ?_;refine aQ ?_ ?_ ?_
  ·by_cases u:C=Q
   ·simp only[u,decide_true,if_true];exact λe o=>by obtain rfl:=an o;exact aC _ rfl m
   ·simp only[u,decide_false,if_false];exact f
  ·by_cases u:C=Q
   ·simp only[u,decide_true,if_true];exact λo=>ha o
   ·simp only[u,decide_false,if_false];exact q
  ·refine U GC (U k ?_);rfl
theorem px{H:ax}{j:av}{Q:am}{g:List (Key×V)}{n:List eb}{C:Nat}(T:ec H j g n):
  (∀e,bL (ay Q) g=Y e->∃N,vw Q (cX n C)=Y (Y N)/\aq H j e N)/\(bL (ay Q) g=G->vw Q (cX n C)=Y G):=by
 refine br (zR (Q:=Q) T) λf q k=>?_;have o:vw Q (cX n C)=(match n.find? (·.key.isStr Q) with|some o=>Y (Y o.val)|none=>if n.any (·.refKey) then G else Y G):=rfl
 refine U o (⟨λe u=>?_,λu=>?_⟩)
 ·exact au (f e u) λI b p=>U b (aC _ rfl p)
 ·refine U (q u) (U k ?_);rfl
noncomputable def py :V->Bool
 |.glob _=>E|_=>M
theorem r1{H h y v}(o:py y=M)(T:aq H h y v):handedIn v=true:=by
 induction y using V.casesOn with
 |none=>subst T;rfl|bool=>subst T;rfl|int=>refine aD T λd Q=>?_;clear T;subst Q;rfl|str=>obtain ⟨y,d,rfl,_⟩:=T;rfl
 |bytes=>obtain ⟨y,d,rfl,_⟩:=T;rfl
 |tup=>obtain ⟨y,d,rfl,_⟩:=T;rfl
 |ref=>obtain ⟨Z,_,rfl⟩:=T;rfl
 |glob=>exact aG o
def vz(L:O)(x:V)(Q:Key):Option V:=match x with
 |.ref A C=>match L.get A C with
  |some (.inst _ g)=>bL Q g|_=>G
 |_=>G
def pz(L:O)(x:V):Option Addr:=match x with
 |.ref A C=>match L.get A C with
  |some (.inst d _)=>Y d|_=>G
 |_=>G
theorem vA{H:ax}{j:av}{A C:Nat}{Z:af×af}{x:af}{g:List (Key×V)}(_:H A C=Y Z)(T:c4 B H j Z (.inst x g)):
  ∃n z,InstAt j Z.1 (kC x Z.2) x (Y (cX n z))/\ec H j g n:=by
 obtain ⟨n,z,b,p,r⟩:=T;exact d9 n z ⟨b,rfl,rfl,p⟩ r
theorem GD{H:ax}{j:av}(P:Rep B H L j){y X:V}{N:J}{Q:Key}(o:vz L y Q=Y X)(T:aq H j y N):
  ∃A C x g Z,y=.ref A C/\L.get A C=Y (.inst x g)/\pz L y=Y x/\bL Q g=Y X/\H A C=Y Z/\N=.ref Z.1/\c4 B H j Z (.inst x g):=by
 induction y using V.casesOn with
 |ref A C=>
  unfold vz at o;dsimp only at o;generalize F:L.get A C=r at o;induction r using aB with|none=>exact ag o|some r=>induction r using aj.casesOn with
   |inst x g=>
    dsimp only at o;obtain ⟨Z,S,rfl⟩:=T;refine c9 A C x ⟨g,Z,rfl,F,?_,o,S,rfl,P.obj _ _ _ _ S F⟩;show(match L.get A C with|some (.inst x _)=>Y x|_=>G)=_
    exact U F rfl
   |_=>exact ag o
 |_=>exact ag o
theorem GF(ok:B.Ok){y X:V}{N:J}{a:am}{x:af}{h:V->O->Prop}(k:pz L y=Y x)(b:pw B x)(d:c2 B.K (.ref x) a=Y G)(o:vz L y (ay a)=Y X)(t:py X=M)
  (q:∀H j,w.p H j->aq H j y N)(j:h X L):ae B S w L (pA N a M) bh h D:=λT1 UG H l I I P f I=>by
 refine hd λT3 v=>cR (GD P o (q _ _ f)) λT0 TS r=>pd r λT6 TW TY Q TX s u T r=>ak r λe c=>?_;clear o;subst Q;clear r q;subst e;rw[k] at s;obtain rfl:=an s;refine dZ (vA T c) λn z TV F=>au ((px (Q:=a) (C:=z) F).1 _ u) λN i m=>?_;have Z:B.K.In l.heap:=ok.dR.keeps P.stays;refine au (r2 b.hd) λR C g=>v (get_value (v:=N) Z TV b.ga ?_ (r1 t m) ⟨X,L,H,j,m,cY P⟩);unfold r3;refine U C (U d ?_);have A:W.ownOf R (Y (cX n z)) a=Y (Y N):=by unfold W.ownOf;exact U g (U (if_pos rfl) i)
 show((W.ownOf R (Y (cX n z)) a).bind λown=>_)=_;refine U A ?_;rfl
theorem GG{x:ah}{r T:J}{d:aZ J}{h:V->O->Prop}(j:ae B S w L d bh h D):ae B S w L (zS x r T>>=λI=>d) bh h D:=λs b H l Z F P f c=>
 ab (GH (j s b H l Z F P f c))
end
section
variable{B:aa}{S:Nat}{W:Inv B}{L:O}{k:aF}{Q:al}{D:Nat->Nat->O->Prop}
theorem GI{H:ax}{j:av}{Q:am}{B:Int}{D:d1}{e:V}{N:J}(Z:aq H j e N):∀{g:List (Key×V)} {n:List eb},ec H j g n->
  ec H j (putK (ay Q) e g) (jH Q B (.str Q D) N n):=by
 intro s;induction s with|nil=>intro I o;subst o;exact⟨B,Q,D,N,[],rfl,rfl,Z,rfl⟩|cons r g F=>
  obtain ⟨A,y⟩:=r;intro I h;obtain ⟨R,C,d,t,b,o,v,m,W⟩:=h;subst o;have a:(pB C d).isStr Q=decide (C=Q):=by show(C==Q)=_;by_cases u:C=Q <;>rfl
  unfold putK jH;generalize u:a0 A (ay Q)=K;induction K using ap with
  |true=>
   have:C=Q:=jz (v.trans (dL.mp u));refine U (if_pos (by show(pB C d).isStr Q=M;rw[a,this];simp)) ?_
   clear u a;subst this;exact⟨R,C,d,N,b,rfl,rfl,Z,W⟩
  |false=>
   have:C≠Q:=λi=>ng u (by rw[<-v,i])
   rw[if_neg (by show¬(pB C d).isStr Q=M;rw[a];simp[this])]
   exact⟨R,C,d,t,_,rfl,v,m,F W⟩
theorem GJ{H:ax}{j:av}:∀{g:List (Key×V)} {n:List eb},ec H j g n->n.length=g.length:=by
 intro s;induction s with|nil=>intro I o;subst o;rfl|cons r g F=>obtain ⟨A,y⟩:=r;intro I h;obtain ⟨R,C,d,t,b,o,v,m,W⟩:=h;subst o;simp[F W]
noncomputable def zT :Option aj->Option (af×List (Key×V))
 |some r=>match r with
  |.inst x g=>Y (x,g)|_=>G
 |none=>G
theorem GK{r:Option aj}{u:af×List (Key×V)}(j:zT r=Y u):r=Y (.inst u.1 u.2):=by
 induction r using aB with|none=>exact ag j|some r=>induction r using aj.casesOn with|inst=>exact U (an j).symm rfl|_=>exact ag j
def zU(L:O)(x:V)(Q:Key)(X:V):Option O:=eR (refOf x) λp=>eR (zT (L.get p.1 p.2)) λq=>gG (Nat.ble (putK Q X q.2).length 1000) (gG (Nat.blt p.2 (2^24)) (Y (L.set p.1 p.2 (Y (.inst q.1 (putK Q X q.2))))))
theorem size_update(j:av)(v:af)(S:bA->bA):(j.update v S).objs.size=j.objs.size:=by cases j;simp[GL]
theorem GN{TR:aY}{H:ax}{l:ai}{h:J->ai->Prop}{a:Unit->ai->Prop}{A C z:Nat}{Z:af×af}{x:af}{g:List (Key×V)}{n:List eb}{X:V}{t:J}{Q:am}(ok:B.Ok)(P:Rep B H L l.heap)(S:H A C=Y Z)(y:pw B x)(d:c2 B.K (.ref x) Q=Y G)
  (b:l.heap.get? Z.1=Y (kC x Z.2))(p:l.heap.get? Z.2=Y (cX n z))(f:ec H l.heap g n)(R:aq H l.heap X t)(j:(putK (ay Q) X g).length<=1000)(e:C<2^24)
  (N:∀q D,aR B H l.heap H (L.set A C (Y (.inst x (putK (ay Q) X g)))) q->a () {l with heap:=q,toks:=D}):ao (aA B.prog B.w) TR (jI (.ref Z.1) Q t) a h l:=by
 have W:InstAt l.heap Z.1 (kC x Z.2) x (Y (cX n z)):=⟨b,rfl,rfl,p⟩;have v:B.K.In l.heap:=ok.dR.keeps P.stays;refine au (r2 y.hd) λUl TS TW=>zV v W y.jG (osa_open (s:={l with toks:=l.toks+1}) (R:=λT TV=>match T with|.ok (.ret _)=>_|.ok _=>False|.error o=>_) v W y.over (r:=G) (by unfold takerIn;refine U d ?_;rfl) λTZ=>?_)
 refine ab (aH (ab (ab (r4 b ?_))));dsimp only;refine ab ((vB v TS) _ _ _ _ (λI I o=>o) (U TW (aH (a:=Y Z.2) (ab (aH (ab (ab (ab (zW (aH (ab (kJ (ab (r4 p ?_))))))))))))));dsimp only;have TU:(!(n.toArray).any (·.key.isStr Q)&&(n.toArray).any (·.refKey))=false:=by refine U vC.symm (U vC.symm (U ((zR (Q:=Q) f).2.2) ?_));rw[vD]
 rw[GO];refine U TU ?_;refine GP p ?_;have r:=putName_dict Q (kK B.w.params Q) (.str Q (l.toks+1)) t n z;have s:(l.heap.update Z.2 (GQ Q (kK B.w.params Q) (.str Q (l.toks+1)) t)).get? Z.2=Y (cX (jH Q (kK B.w.params Q) (.str Q (l.toks+1)) t n) (putN Q n z)):=by exact U r.symm (hk _ p (by refine U r ?_;rfl))
 have k:=GI (Q:=Q) (B:=kK B.w.params Q) (D:=l.toks+1) R f;refine ab (GR s (GS (by refine U ve ?_;refine U cT ?_;refine U (GJ k) ?_;exact Nat.le_trans j (by decide))) ?_)
 have c:Z.1≠Z.2:=λi=>by replace b:=i▸b;replace b:=p▸b;cases b
 refine aH (N _ _ (aR.update P S (λTY TX u I m=>(f5 _ _ _ _ m).trans u) (by rw[size_update];exact Nat.le_refl _) (λI=>e) λF=>?_))
 exact⟨_,_,(f5 _ _ _ _ c).trans b,s,ec.ba (λI I I o=>o) F _ k⟩
theorem GU(ok:B.Ok){y X:V}{N t:J}{Q:am}{x:af}{n:O}{h:Unit->O->Prop}(g:pz L y=Y x)(s:pw B x)(d:c2 B.K (.ref x) Q=Y G)(o:zU L y (ay Q) X=Y n)
  (k:∀H j,W.p H j->aq H j y N)(e:∀H j,W.p H j->aq H j X t)(j:h () n):ae B S W L (jI N Q t) eE h D:=λUG Uz H l I I w f I=>by
 have c:=k _ _ f;refine hd λUD v=>au (eG o) λu m o=>au (eG o) λi F o=>ak (hh o) λC o=>ak (hh o) λa o=>?_;replace F:=GK F;rw[pn m] at c g;replace g:(match L.get u.1 u.2 with|some (.inst x _)=>Y x|_=>G)=Y x:=g
 rw[F] at g;obtain rfl:=an g;obtain ⟨Z,T,rfl⟩:=c;obtain ⟨Ux,z,b,R,r⟩:=w.obj _ _ _ _ T F;refine v (GN ok w T s d b R r (e _ _ f) (Nat.le_of_ble_eq_true C) (fb.mp a) λq A P=>⟨(),_,H,j,rfl,?_,rfl,rfl⟩);exact U (an o).symm P
end
def own(k:aF)(v:af):Prop:=v=k.locals\/∃p∈k.cells,v=p.2
structure fc(c:aa)(env:aF)(γ:ax)(h:av)(γ':ax)(σ':O)(h':av):Prop where
 rep:Rep c γ' σ' h'
 grow:jB γ γ' h
 keep:∀a aw,h.get? a=Y aw->¬foot γ a->¬own env a->Kept aw (h'.get? a)
 size:h.objs.size<=h'.objs.size
theorem aR.x{c env H h K n q}(P:aR c H h K n q):fc c env H h K n q:=⟨P.rep,P.grow,λv r o C I=>P.keep v r o C,P.size⟩
theorem fc.trans{c env H h q a T x N p}(v:fc c env H h q a T)(m:fc c env q T x N p):fc c env H h x N p:=by
 refine⟨m.rep,⟨λA C Z o=>m.grow.1 _ _ _ (v.grow.1 _ _ _ o),λA C Z o=>?_⟩,λy r o S t=>?_,Nat.le_trans v.size m.size⟩
 ·rcases m.grow.2 _ _ _ o with u|⟨Q,l⟩
  ·exact v.grow.2 _ _ _ u
  ·exact .inr ⟨Nat.le_trans v.size Q,Nat.le_trans v.size l⟩
 ·refine(v.keep y r o S t).trans λP k=>m.keep y P k (v.grow.eD o S) t
theorem bp.notTuple{c env lm H h}(d:bp c env lm H h){v:af}(t:Internal.own env v)(e:Array J):¬h.IsTuple v e:=by
 rintro ⟨r,F,k,C,hd⟩
 rcases t with rfl|⟨Z,S,rfl⟩
 ·refine au d.ns λz s I=>?_;obtain ⟨P,n,i,b,p,_⟩:=s;rw[F] at b;obtain rfl:=an b;replace p:=hd▸p;cases p
 ·refine kz (d.cell Z S) λI I I N P b p=>?_;replace b:=F▸b;obtain rfl:=an b;replace p:=hd▸p;cases p
mutual
theorem aq.ie{B:aa}{env lm H h K σ n q}(R:Rep B H σ h)(c:bp B env lm H h)(P:fc B env H h K n q):∀(y:V) {N:J},aq H h y N->aq K q y N
 |.none,_,o=>o|.bool _,_,o=>o|.int _,_,o=>o|.str _,_,o=>o|.bytes _,_,o=>o|.glob _,_,o=>o|.ref A C,_,⟨Z,o,u⟩=>⟨Z,P.grow.1 _ _ _ o,u⟩|.tup x,_,⟨v,e,o,d,T⟩=>by
  have b:=d.bu;refine aD d.eP λC F=>?_;have A:=(P.keep v _ F b λt=>c.notTuple t e d.tup).exact (λm i u=>by cases u)
  exact⟨v,e,o,.of A (P.grow.eD F b),aE.ie R c P x T⟩
theorem aE.ie{B:aa}{env lm H h K σ n q}(R:Rep B H σ h)(c:bp B env lm H h)(P:fc B env H h K n q):∀(x:List V) {e:List J},aE H h x e->aE K q x e
 | [],_,o=>o|y::x,_,⟨N,T,o,v,m⟩=>⟨N,T,o,aq.ie R c P y v,aE.ie R c P x m⟩
end
structure fs(c:aa)(env:aF)(γ:ax)(s:ai)(γ':ax)(σ':O)(s':ai):Prop where
 post:fc c env γ s.heap γ' σ' s'.heap
 same:he s s'
theorem Ends.x{c env H s K n W}(v:Ends c H s K n W):fs c env H s K n W:=⟨v.post.x,v.same⟩
theorem fs.trans{c env H s q a Z x N n}(v:fs c env H s q a Z)(m:fs c env q Z x N n):fs c env H s x N n:=⟨v.post.trans m.post,v.same.trans m.same⟩
theorem Frames.ie{c H σ h K n q a k lm v}(R:Rep c H σ h)(F:Frames c H (k::a) h)(t:k.frame=Y k.locals)(_:bp c k lm H h)(f:bp c k v K q)(D:∀o∈a,∀d,o.frame=Y d->¬own k d)(P:fc c k H h K n q):Frames c K (k::a) q:=λo g=>by
 refine hd λN W=>?_;rcases aW.mp g with rfl|l
 ·refine au f.ns λz e I=>?_;obtain ⟨r,C,i,b,p,_⟩:=e;refine W ⟨(F _ (.head _)).1,_,r,C,i,t,b,p,f.own.2,f.own.1⟩
 ·obtain ⟨A,d,r,C,i,m,Q,hd,T,s⟩:=F o g;exact aD ((P.keep d r Q s (D o l d m)).of) λj u=>W ⟨A,d,_,C,i,m,u,hd,T,P.grow.eD Q s⟩
structure bF(c:aa)(env:aF)where
 p:ax->av->Prop
 st:∀{lm γ σ h γ' σ' h'},Rep c γ σ h->bp c env lm γ h->p γ h->fc c env γ h γ' σ' h'->p γ' h'
noncomputable def bF.none{B:aa}{k:aF}:bF B k:=⟨λI I=>True,λI I I I=>trivial⟩
noncomputable def bF.and{B:aa}{k:aF}(I z:bF B k):bF B k:=⟨λH j=>I.p H j/\z.p H j,λR c x P=>⟨I.st R c x.1 P,z.st R c x.2 P⟩⟩
noncomputable def l7{B:aa}{k:aF}(x:V)(N:J):bF B k:=⟨λH j=>aq H j x N,λR c x P=>aq.ie R c P _ x⟩
noncomputable def zX{B:aa}{k:aF}(x:List V)(N:List J):bF B k:=⟨λH j=>aE H j x N,λR c x P=>aE.ie R c P _ x⟩
structure iN(c:aa)(env:aF)(β α:Type)where
 r:β->α->bF c env
def GV{B:aa}{k:aF}:iN B k V Value:=⟨l7⟩
def vE{B:aa}{k:aF}:iN B k (List V) (List J):=⟨zX⟩
noncomputable def fH{B:aa}{k:aF}{N:Type}:iN B k N N:=⟨λv m=>⟨λI I=>v=m,λI I o I=>o⟩⟩
set_option genCtorIdx true in
inductive FM where
 |next|brk|cont
 |ret (v:V)
noncomputable def GW{B:aa}{k:aF}:FM->f6->bF B k
 |.next,u=>⟨λI I=>u=.next,λI I o I=>o⟩|.brk,u=>⟨λI I=>u=.brk,λI I o I=>o⟩|.cont,u=>⟨λI I=>u=.cont,λI I o I=>o⟩|.ret x,u=>⟨λH j=>∃N,u=.ret N/\aq H j x N,λR c ⟨N,o,q⟩ P=>aC N o (aq.ie R c P _ q)⟩
def bU{B:aa}{k:aF}:iN B k FM Flow:=⟨GW⟩
inductive nC{c:aa}{env:aF}{α β:Type}(R:iN c env β α)(Φ:β->al->O->Prop)(γ:ax)(s:ai)(a:α)(s':ai):Prop
 |mk (b:β) (lm':al) (σ':O) (γ':ax) (x:Φ b lm' σ') (y:(R.r b a).p γ' s'.heap/\bp c env lm' γ' s'.heap/\fs c env γ s γ' σ' s')
def zY(k:aF)(H:ax)(d j:av)(v:af):Prop:=zj H d j v λx=>x=Y .none\/x=Y (cB k.locals)
theorem u9.x{env H h₀ h a}(S:u9 H h₀ h a):zY env H h₀ h a:=by
 obtain ⟨w,e,f,L,v,X⟩:=S;refine⟨w,e,f,L,v,X.imp (λy=>y) ?_⟩
 rintro ⟨R,b,t,z,s,D,c,d,j,g⟩
 exact⟨R,b,t,z,s,D,c,d,.inl j,g⟩
inductive b7(c:aa)(env:aF)(Ψ:Nat->Nat->O->Prop)(γ:ax)(s:ai)(e:J)(s':ai):Prop
 |mk (k n:Nat) (v:List (Key×V)) (σ':O) (γ':ax) (p:af×af) (x:Ψ k n σ') (aw:σ'.get k n=Y (.exc v M)) (g:γ' k n=Y p) (q:e=.ref p.1) (w:γ k n=G) (f:zY env γ' s.heap s'.heap p.1) (l:∃lm',bp c env lm' γ' s'.heap) (dB:fs c env γ s γ' σ' s')
structure Here(c:aa)(f:Nat)(env:aF)(lm:al)(σ:O)(A:aY)(Fs:List aF)(γ:ax)(s:ai):Prop where
 dS:Ready A f (env::Fs)
 f7:Frames c γ (env::Fs) s.heap
 rep:Rep c γ σ s.heap
 loc:bp c env lm γ s.heap
 gens:s.gens= #[]
 l8:env.frame=Y env.locals
 up:∀e∈Fs,∀L,e.frame=Y L->¬own env L
 inj:∀p∈env.cells,∀q∈env.cells,p.2=q.2->p.1=q.1
theorem Here.next{B S k Q P L n s b H K l W}(g:Here B S k Q L s b H l)(f:bp B k P K W.heap)(o:fs B k H l K n W):Here B S k P n s b K W:=
 ⟨g.dS,g.f7.ie g.rep g.l8 g.loc f g.up o.post,o.post.rep,f,o.same.1.trans g.gens,g.l8,g.up,g.inj⟩
def aI{N e:Type}(B:aa)(S:Nat)(k:aF)(I:bF B k)(Q:al)(L:O)(d:aZ N)(R:iN B k e N)(Φ:e->al->O->Prop)(D:Nat->Nat->O->Prop):Prop:=
 ∀(s:aY) (b:List aF) (H:ax) (l:ai),Here B S k Q L s b H l->I.p H l.heap->ao (aA B.prog B.w) s d (nC R Φ H l) (b7 B k D H l) l
theorem b7.trans{c env D H Q σ s n a A ev r}(TX:Rep c H σ s.heap)(T2:bp c env Q H s.heap)(T:∃Q,bp c env Q n A.heap)(o:fs c env H s n a A)(y:b7 c env D n A ev r):b7 c env D H s ev r:=by
 obtain ⟨w,C,N,h,q,Z,l,F,S,g,X,⟨UG,e,b,p,x,j⟩,US,k⟩:=y;refine⟨w,C,N,h,q,Z,l,F,S,g,?_,⟨UG,e,b,p,?_,?_⟩,US,o.trans k⟩
 ·generalize u:H w C=K;induction K using aB with|none=>rfl|some TZ=>rw[o.post.grow.1 _ _ _ u] at X;exact ha X
 ·generalize u:s.heap.get? Z.1=K;induction K using aB with|none=>rfl|some Uz=>
   have W:¬foot H Z.1:=λTS=>by
    obtain ⟨Up,Uc,T1,T6,B⟩:=o.post.grow.kD TS;refine au (o.post.rep.at T6) λm I TY=>ak TY.there λz T5=>?_;obtain ⟨TR,d⟩:=z;obtain ⟨UM,P⟩:=T5;rcases B with B|B
    ·rw[<-B,x] at d;exact ag d
    ·rw[<-B,x] at P;exact ag P
   by_cases t:own env Z.1
   ·refine aD T λUt T=>?_;rcases t with t|⟨Ua,Ub,t⟩
    ·refine au T.ns λT4 z I=>?_;obtain ⟨m,TV,T8,d,P,_⟩:=z;rw[<-t,x] at d;exact ag d
    ·refine kz (T.cell Ua Ub) λI I I T3 m d P=>?_;rw[<-t,x] at d;exact ag d
   ·refine aD ((o.post.keep _ _ u W t).of) λTW i=>?_;rw[x] at i;exact ag i
 ·rcases j with j|⟨R,UT,v,f,L,UB,TU,T0,T9,T7⟩
  ·exact .inl j
  ·exact .inr ⟨R,UT,v,f,Nat.le_trans o.post.size L,UB,TU,T0,T9,T7⟩
section
variable{B:aa}{S:Nat}{k:aF}{w:bF B k}{Q:al}{L:O}{N e c b:Type}{R:iN B k e N}{C:iN B k b c}{h:e->al->O->Prop}{D:Nat->Nat->O->Prop}{d:b->al->O->Prop}
theorem aI.mono{d:aZ N}{i:e->al->O->Prop}(j:aI B S k w Q L d R h D)(Z:∀m Q L,h m Q L->i m Q L):aI B S k w Q L d R i D:=
 λs b H l g f=>b3 (j s b H l g f) (λI I p=>(by obtain ⟨m,P,n,K,y,X⟩:=p;exact⟨m,P,n,K,Z _ _ _ y,X⟩))
theorem aI.weak{d:aZ N}{z:bF B k}(j:aI B S k w Q L d R h D)(K:∀H j,z.p H j->w.p H j):aI B S k z Q L d R h D:=λs b H l g f=>j s b H l g (K _ _ f)
theorem aI.bind{z:aZ N}{A:N->aZ c}(j:aI B S k w Q L z R (λm W a=>∀v,aI B S k (w.and (R.r m v)) W a (A v) C d D) D):aI B S k w Q L (z>>=A) C d D:=λs b H l g f=>by refine ab (b3 (j s b H l g f) (λv e p=>?_));obtain ⟨m,W,a,q,y,X,I,o⟩:=p;exact bQ (y v s b q e (g.next I o) ⟨w.st g.rep g.loc f o.post,X⟩) (λZ n p=>(by obtain ⟨K,P,t,x,h,F,u,T⟩:=p;exact⟨K,P,t,x,h,F,u,o.trans T⟩)) (λev n i=>i.trans g.rep g.loc ⟨_,I⟩ o)
theorem aI.pure{v:N}{m:e}(j:h m Q L)(C:∀H j,Rep B H L j->bp B k Q H j->w.p H j->(R.r m v).p H j):aI B S k w Q L (pure v:aZ N) R h D:=
 λI I H l g f=>aH ⟨m,Q,L,H,j,C _ _ g.rep g.loc f,g.loc,(Ends.x ⟨.refl g.rep,.refl⟩)⟩
theorem aI.standAt{Z:aN}{d:aZ N}(j:aI B S k w Q L d R h D):aI B S k w Q L (bT Z>>=λI=>d) R h D:=λs b H l g f=>ab (dQ (j s b H l g f))
theorem aI.holding{e:List J}{d:aZ N}(j:aI B S k w Q L d R h D):aI B S k w Q L (bO e d) R h D:=λs b H l g f=>ck (j s b H l g f)
theorem dq.x{B:aa}{env:aF}{Q:al}{L H s ev W}(P:Rep B H L s.heap)(c:bp B env Q H s.heap)(y:dq B D H s ev W):b7 B env D H s ev W:=
 let ⟨A,C,N,n,K,Z,S,i,T,o,e,b,w⟩:=y
 ⟨A,C,N,n,K,Z,S,i,T,o,e,b.x,⟨Q,(Internal.loc B env Q).st P c w.post⟩,w.x⟩
theorem aI.of{d:aZ J}{h:V->O->Prop}(j:ae B S (loc B k Q) L d bh h D):aI B S k w Q L d GV (λy P n=>P=Q/\h y n) D:=λs b H l g I=>
 bQ (j s (k::b) H l g.dS g.f7 g.rep g.loc g.gens) (λI I p=>(by obtain ⟨m,n,K,y,X,o⟩:=p;exact⟨m,Q,n,K,⟨rfl,y⟩,X,(loc B k Q).st g.rep g.loc o.post,o.x⟩)) λI I y=>y.x g.rep g.loc
theorem aI.ofEq{d:aZ N}{h:N->O->Prop}(j:ae B S (loc B k Q) L d eE h D):aI B S k w Q L d fH (λy P n=>P=Q/\h y n) D:=λs b H l g I=>
 bQ (j s (k::b) H l g.dS g.f7 g.rep g.loc g.gens) (λI I p=>(by obtain ⟨m,n,K,y,X,o⟩:=p;exact⟨m,Q,n,K,⟨rfl,y⟩,X,(loc B k Q).st g.rep g.loc o.post,o.x⟩)) λI I y=>y.x g.rep g.loc
end
section
variable{B:aa}{S:Nat}{k:aF}{Q:al}{L:O}{D:Nat->Nat->O->Prop}{W:bF B k}
theorem nD{H:ax}{j q:av}{y:af}(w:Rep B H L j)(c:bp B k Q H j)(t:own k y)(R:cL y j q):Rep B H L q/\fc B k H j H L q/\(∀(e:V) (N:J),aq H j e N->aq H q e N):=by
 have b:¬foot H y/\B.base.get? y=none:=by
  rcases t with rfl|⟨Z,S,rfl⟩
  ·exact c.own
  ·exact br (c.cell Z S) λv m I=>⟨v,m⟩
 have z:=c.notTuple t;have C:Rep B H L q:=w.other b.1 b.2 z (λv r u D=>(R.2 v D).trans u);have P:fc B k H j H L q:=⟨C,.refl,λv r u I a=>.inl ((R.2 v λi=>a (i▸t)).trans u),by refine U R.1 ?_;exact Nat.le_refl _⟩
 exact aQ C P (λe N T=>aq.ie w c P e T)
theorem vF{H:ax}{j q:av}{y:am}{f:Nat}{e:V}{N:J}{z:am->Option J}(P:Rep B H L j)(c:bp B k Q H j)(b:bt y=Y f)(x:k.kindOf y=Y .local)
  (h:∀X D l,bt X=Y D->aL D Q=Y l->l2 (k.kindOf X)->∃N,aq H j l N/\((k.kindOf X=Y .local/\z X=Y N)\/((k.kindOf X=Y .cell\/k.kindOf X=Y .free)/\∃v,k.cells.lookup X=Y v/\j.IsCell v (Y N))))
  (n:aq H j e N)(d:q.Ns k.locals (λX=>if X=y then Y N else z X))(R:cL k.locals j q):bp B k (eu f e Q) H q:=by
 refine br (nD P c (.inl rfl) R) λI I s=>?_;have g:∀Z∈k.cells,∀t,j.IsCell Z.2 t->q.IsCell Z.2 t:=λZ S t p=>(by refine au p λr o W=>?_;clear p;exact aC r ((R.2 _ (c.cell Z S).2.2.1).trans o) W)
 refine⟨c.kind,c.gl,c.fG,c.plain,aC _ d (λX D l A o F=>?_),c.own,λZ S=>?_⟩
 ·rw[rM] at o;by_cases u:D=f
  ·rw[if_pos u] at o;obtain rfl:=an o;have:=ni (u▸A) b;clear d b;subst this;exact aC N (s _ _ n) (.inl ⟨x,by simp⟩)
  ·replace o:=(if_neg u)▸o;refine au (h X D l A o F) λt C i=>aC t (s _ _ C) ?_;rcases i with⟨a,K⟩|⟨a,v,K,w⟩
   ·exact .inl ⟨a,by refine U (if_neg (λo=>u (by rw[o,b] at A;obtain rfl:=an A;rfl))) ?_;exact K⟩
   ·exact .inr (fX a v K (g _ (mem_of_lookup K) _ w))
 ·exact e7 (c.cell Z S) λv m W s=>aD s λt o=>bP v m W ⟨t,g Z S _ o⟩
theorem GX{H:ax}{j q:av}{y:am}{f:Nat}{e:V}{N:J}{v:af}(TS:Rep B H L j)(c:bp B k Q H j)(TU:∀Z∈k.cells,∀u∈k.cells,Z.2=u.2->Z.1=u.1)(b:bt y=Y f)(x:k.kindOf y=Y .cell)(w:k.cells.lookup y=Y v)
  (p:aq H j e N)(l:q.IsCell v (Y N))(R:cL v j q):bp B k (eu f e Q) H q:=by
 have P:=mem_of_lookup w;refine br (nD TS c (.inr (aC _ P rfl)) R) λI I W=>e7 (c.cell _ P) λI I m I=>au c.ns λz d h=>⟨c.kind,c.gl,c.fG,c.plain,aC z (d.sameBut R (h8 m)) (λX D TR A o F=>?_),c.own,λZ S=>?_⟩
 ·rw[rM] at o;by_cases u:D=f
  ·rw[if_pos u] at o;obtain rfl:=an o;have:=ni (u▸A) b;clear I m P b;clear I;subst this;exact aC N (W _ _ p) (.inr (fX (.inl x) v w l))
  ·replace o:=(if_neg u)▸o;refine au (h X D TR A o F) λt UU i=>aC t (W _ _ UU) ?_;rcases i with i|⟨n,TV,K,r,T4,Up⟩
   ·exact .inl i
   ·refine .inr (fX n TV K ⟨r,(R.2 _ λo=>?_).trans T4,Up⟩);have i:X=y:=TU _ (mem_of_lookup K) _ P o;exact u (by rw[i,b] at A;obtain rfl:=an A;rfl)
 ·refine kz (c.cell Z S) λs a T t r C g=>?_;by_cases u:Z.2=v
  ·exact bP s a T ⟨Y N,u▸l⟩
  ·exact bP s a T ⟨t,r,(R.2 _ u).trans C,g⟩
abbrev hJ(Φ:al->O->Prop):Unit->al->O->Prop:=λI P n=>Φ P n
theorem zZ{y:am}{f:Nat}{K:V}{N:J}{h:al->O->Prop}(b:bt y=Y f)(m:k.kindOf y=Y .local\/(k.kindOf y=Y .cell/\(k.cells.lookup y).isSome=M))(i:∀H j,W.p H j->aq H j K N)(j:h (eu f K Q) L):aI B S k W Q L (nE k y N) fH (hJ h) D:=λs a H l g f=>by
 have Z:=i _ _ f;have st:ao (aA B.prog B.w) s (z0 k y N) (nC (c:=B) (env:=k) fH (hJ h) H l) (b7 B k D H l) l:=by
  refine hd λT n=>au g.loc.ns λz X d=>?_;rcases m with m|⟨m,C⟩
  ·refine n (vG m X (λq F R=>?_) (by refine U g.loc.kind ?_;rfl))
   exact br (nD g.rep g.loc (.inl rfl) R) λI P I=>⟨(),_,L,H,j,rfl,vF g.rep g.loc b m d Z F R,P,rfl,rfl⟩
  ·refine aD (lZ.mp C) λv e=>?_;have A:=mem_of_lookup e;exact e7 (g.loc.cell _ A) λI I I r=>aD r λt o=>n (wpAny_storeName_cell g.loc.kind m e o λq x R=>br (nD g.rep g.loc (.inr (aC _ A rfl)) R) λI P I=>⟨(),_,L,H,j,rfl,GX g.rep g.loc g.inj b m e Z x R,P,rfl,rfl⟩)
 exact ab (ck (pC (ab (bQ st (λI I u=>pC u) λI I u=>u))))
theorem bp.congr{H:ax}{j:av}{P:al}(c:bp B k Q H j)(o:∀y,aL y P=aL y Q):bp B k P H j:=by exact au c.ns λz X h=>⟨c.kind,c.gl,c.fG,c.plain,aC z X (λy f e b u F=>h y f e b (by rw[<-o];exact u) F),c.own,c.cell⟩
end
inductive cm where
 |name (x:Nat)
 |tup (xs:List Nat)
inductive aK where
 |bad
 |lit (v:V)
 |var (x:Nat)
 |tup (bw:List aK)
 |list (bw:List aK)
 |dict (ks:List Key) (bw:List aK)
 |bin (op:l3) (a b:aK)
 |not (a:aK)
 |neg (a:aK)
 |r5 (op:gI) (bw:List aK)
 |pD (t a b:aK)
 |cmp (a:aK) (op:fa) (b:aK)
 |r6 (a:aK) (op:fa) (b:aK) (op':fa) (c:aK)
 |attr (a:aK) (x:Key)
 |idx (a b:aK)
 |slice (a lo hi st:aK)
 |call (f:aK) (bw:List aK)
 |vH (aw:aK) (x:Key) (bw:List aK)
 |vI (aw:aK) (x:Key) (it:aK)
 |kL (a:aK)
 |r7 (f a w:aK)
 |r8 (f a b w:aK)
 |comp (own:List Nat) (elt:aK) (tg:cm) (it:aK) (ifs:List aK)
 |z1 (own:List Nat) (elt:aK) (tg:cm) (it:aK) (tg':cm) (it':aK)
inductive hl where
 |name (x:Nat)
 |attr (aw:aK) (x:Key)
 |idx (aw i:aK)
 |bad
inductive eh where
 |bad
 |assign (t:hl) (e:aK)
 |z2 (ts:List hl) (e:aK)
 |expr (e:aK)
 |ifs (t:aK) (a b:List eh)
 |z3 (t:aK) (b:List eh)
 |z4 (tg:cm) (it:aK) (b:List eh)
 |ret (e:aK)
 |raise (e:aK)
 |z5 (e:aK) (x:Nat) (w a:Key)
 |pass
structure Ask where
 g:V
 xs:List V
 σ:O
inductive Res(α:Type)where
 |ok (a:α) (σ:O)
 |err (k n:Nat) (σ:O)
 |no
 |ask (Q:Ask) (P:(V->O->Prop)->Prop) (K:V->O->Res α)
inductive be where
 |ok (pE:FM) (lm:al) (σ:O)
 |err (k n:Nat) (lm:al) (σ:O)
 |no
 |ask (Q:Ask) (P:(V->O->Prop)->Prop) (K:V->O->be)
def Res.bind{N e:Type}(T:Res N)(S:N->O->Res e):Res e:=Res.rec S .err .no (λa P I F=>.ask a P F) T
def Res.nF{N:Type}(T:Res N):Res N:=Res.rec .ok (λI I I=>.no) .no (λa P I F=>.ask a P F) T
def Res.toS{N:Type}(T:Res N)(Q:al)(S:N->O->be):be:=Res.rec S (λA C L=>.err A C Q L) .no (λa P I F=>.ask a P F) T
noncomputable def GY(S:al->O->be):FM->al->O->be
 |.next,Q,L=>S Q L|.ret N,Q,L=>.ok (.ret N) Q L|_,_,_=>.no
def be.bind(T:be)(S:al->O->be):be:=be.rec (GY S) .err .no (λa P I F=>.ask a P F) T
noncomputable def cM{N:Type}(m:Bool)(T:Res N):Res N:=match m with
 |true=>T|false=>.no
noncomputable def b4{N e:Type}(r:Option N)(S:N->Res e):Res e:=match r with
 |some v=>S v|none=>.no
noncomputable def pF :Option aj->Option (List V)
 |some r=>match r with
  |.list xs=>Y xs|_=>G
 |none=>G
noncomputable def ig :V->Option Int
 |.int f=>Y f|_=>G
noncomputable def iO{N:Type}(L:O):Option N->Res N
 |some v=>.ok v L|none=>.no
abbrev cN :=V->List V->O->Res V
def O.alloc(L:O)(r:aj):Res V:=match L.get L.bf L.n with
 |some _=>.no|none=>match Nat.blt L.n 16777216 with
  |true=>.ok (.ref L.bf L.n) {L.set L.bf L.n (Y r) with n:=L.n+1}
  |false=>.no
noncomputable def short(xs:List V):Bool:=Nat.ble xs.length 1000
set_option genCtorIdx true in
inductive Src where
 |lst (k n i:Nat)
 |tup (xs:List V)
 |cg (a b:Int)
 |zip (k n:Nat) (a b:Src)
 |enum (i:Nat) (a:Src)
noncomputable def nextM(L:O):Src->Option (Option (V×Src))
 |.lst A C f=>match L.get A C with
  |some (.list xs)=>match xs[f]? with
   |some x=>Y (Y (x,.lst A C (f+1)))|none=>Y G
  |_=>G
 |.tup xs=>match xs with
  | []=>Y G|x::T=>Y (Y (x,.tup T))
 |.cg v m=>match ltI v m with
  |true=>Y (Y (.int v,.cg (v+1) m))|false=>Y G
 |.zip A C v m=>match L.get A C with
  |some .ce=>match nextM L v with
   |none=>G|some G=>Y G|some (Y (x,Z))=>match nextM L m with
    |none=>G|some G=>Y G|some (Y (X,K))=>Y (Y (.tup [x,X],.zip A C Z K))
  |_=>G
 |.enum f v=>match nextM L v with
  |none=>G|some G=>Y G|some (Y (x,Z))=>Y (Y (.tup [.int f,x],.enum (f+1) Z))
def hK(L:O):V->Option Src
 |.tup xs=>Y (.tup xs)|.ref A C=>match L.get A C with
  |some (.list _)=>Y (.lst A C 0)|_=>G
 |_=>G
noncomputable def bindAll(Q:al):List Nat->List V->Option al
 | [],[]=>Y Q|x::xs,N::vs=>bindAll (eu x N Q) xs vs|_,_=>G
def r9(Q:al)(d:cm)(N:V):Option al:=match d with
 |.name x=>Y (eu x N Q)|.tup xs=>match N with
  |.tup vs=>bindAll Q xs vs|_=>G
noncomputable def nG :Src->Bool
 |.zip _ _ _ _=>M|.enum _ _=>M|_=>E
def walk(Q:al)(l:Src)(d:cm)(N:V):Option al:=match nG l,d with
 |true,.name _=>G|_,_=>r9 Q d N
def jJ(Q:al)(own:List Nat):al:=Q.filter λp=>cK (own.any λx=>Nat.beq x p.1)
noncomputable def nH(A:Key):List Key->Bool
 | []=>E|x::T=>match a0 x A with
  |true=>M|false=>nH A T
noncomputable def noTwice :List Key->Bool
 | []=>M|A::T=>match nH A T with
  |true=>E|false=>noTwice T
noncomputable def pG :List Key->List V->Option (List (Key×V))
 | [],[]=>Y []|A::a,N::vs=>match pG a vs with
  |some T=>Y ((A,N)::T)|none=>G
 |_,_=>G
noncomputable def l9 :Int->Bool
 |.ofNat C=>Nat.blt C 9223372036854775808|.negSucc C=>Nat.blt C 9223372036854775807
def z6(L:O)(r P:Option aj):Res V:=b4 (pF r) λxs=>b4 (pF P) λn=>cM (short (xs++n)) (L.alloc (.list (xs++n)))
def GZ(L:O)(x X:V):Res V:=match x with
 |.ref A C=>match X with
  |.ref w a=>z6 L (L.get A C) (L.get w a)|_=>.no
 |.str v=>match X with
  |.str m=>cM (Nat.ble (v++m).length 1000) (.ok (.str (v++m)) L)|_=>.no
 |_=>.no
noncomputable def vJ :Int->Option Nat
 |.ofNat C=>Y C|_=>G
def z7(L:O)(w:l3)(x X:V):Res V:=match w with
 |.Add=>GZ L x X|.Mult=>b4 (ig x) λv=>b4 (ig X) λm=>cM (l9 m) (.ok (.int (v*m)) L)|.FloorDiv=>b4 (ig x) λv=>b4 (ig X) λm=>cM (cK (fq m 0)) (cM (l9 m) (.ok (.int (v.fdiv m)) L))|.Pow=>b4 (ig x) λv=>b4 (ig X) λm=>b4 (vJ m) λm=>cM (l9 v) (cM (Nat.ble m 100) (.ok (.int (v^m)) L))|_=>.no
def sa(L:O)(w:l3)(x X:V):Res V:=match vf w x X with
 |some i=>.ok i L|none=>z7 L w x X
noncomputable def iP :V->Option (Option Int)
 |.none=>Y G|.int f=>Y (Y f)|_=>G
noncomputable def z8(xs:List V)(lo b st:Option Int):List V:=(z9 (kM lo b st xs.length).1 (kM lo b st xs.length).2.1 (kM lo b st xs.length).2.2).filterMap (xs[·]?)
def sb :Option Int->Bool
 |some f=>fq f 0|none=>E
def nI(L:O)(x lo b st:V):Res V:=match x with
 |.ref A C=>match L.get A C with
  |some (.list xs)=>match iP lo,iP b,iP st with
   |some g,Y j,Y l=>match sb l,short xs with
    |false,M=>L.alloc (.list (z8 xs g j l))|_,_=>.no
   |_,_,_=>.no
  |_=>.no
 |_=>.no
noncomputable def setAt :List V->Nat->V->List V
 | [],_,_=> []|_::xs,0,N=>N::xs|x::xs,f+1,N=>x::setAt xs f N
noncomputable def jK(A:Key)(N:V):List (Key×V)->List (Key×V)
 | []=> []|p::T=>match a0 p.1 A with
  |true=>(p.1,N)::jK A N T|false=>p::jK A N T
def ih(A:Key)(N:V)(g:List (Key×V)):List (Key×V):=match bL A g with
 |some _=>jK A N g|none=>g++ [(A,N)]
def G0(L:O)(A C:Nat)(r:aj)(f N:V):Option O:=match r with
 |.list xs=>eR (nr f) λi=>eR (vJ i) λk=>gG (Nat.blt k xs.length) (gG (short xs) (gG (Nat.blt C 16777216) (Y (L.set A C (Y (.list (setAt xs k N)))))))|.dict g=>eR (nt f) λl=>gG (Nat.ble g.length 1000) (gG (Nat.blt C 16777216) (Y (L.set A C (Y (.dict (ih l N g))))))|_=>G
def sd(L:O)(x f N:V):Option O:=eR (refOf x) λp=>eR (L.get p.1 p.2) λr=>G0 L p.1 p.2 r f N
noncomputable def pH :List V->Bool
 | []=>M|.str _::T=>pH T|_=>E
noncomputable def iQ :Key:= [97,112,112,101,110,100]
noncomputable def iR :Key:= [112,111,112]
noncomputable def fI :Key:= [101,120,116,101,110,100]
noncomputable def jL :Key:= [105,110,100,101,120]
noncomputable def se :Key:= [103,101,116]
noncomputable def pI :Key:= [101,110,99,111,100,101]
noncomputable def jM :Key:= [95,95,105,110,105,116,95,95]
noncomputable def ascii :Key->Bool
 | []=>M|B::g=>match Nat.ble B 127 with
  |true=>ascii g|false=>E
noncomputable def indexOf(x:Key):List V->Option Nat
 |.str X::n=>match a0 X x,pH n with
  |true,M=>Y 0|true,E=>G|false,_=>match indexOf x n with
   |some f=>Y (f+1)|none=>G
 |_=>G
def pJ(L:O)(A C:Nat)(g:List V)(x:Key)(t:List V):Res V:=
 match t with
 | []=>match a0 x iR with
  |true=>match g.getLast?,short g with
   |some X,M=>.ok X (L.set A C (Y (.list g.dropLast)))|_,_=>.no
  |false=>.no
 | [v]=>match a0 x iQ with
  |true=>match Nat.blt g.length 1000 with
   |true=>.ok .none (L.set A C (Y (.list (g++ [v]))))|false=>.no
  |false=>match a0 x jL with
   |true=>match v,short g with
    |.str l,M=>match indexOf l g with
     |some f=>.ok (.int f) L|none=>.no
    |_,_=>.no
   |false=>match a0 x fI with
    |true=>match v with
     |.ref w a=>match Nat.beq A w,Nat.beq C a with
      |true,M=>.no|_,_=>match L.get w a with
       |some (.list n)=>match short (g++n) with
        |true=>.ok .none (L.set A C (Y (.list (g++n))))|false=>.no
       |_=>.no
     |_=>.no
    |false=>.no
 |_=>.no
noncomputable def vK(v m:Bool):Bool:=match v with
 |true=>M|false=>m
noncomputable def Aa :List V->Option (V×V)
 | []=>G|v::T=>match T with
  | []=>G|m::T=>match T with
   | []=>Y (v,m)|_::_=>G
noncomputable def strArg :List V->Option V
 | []=>G|v::T=>match T with
  | []=>Y v|_::_=>G
def Ab(L:O)(g:List (Key×V))(x:Key)(t:List V):Res V:=cM (a0 x se) (b4 (Aa t) λp=>b4 (nt p.1) λl=>.ok (match bL l g with|some N=>N|none=>p.2) L)
def Ac(L:O)(l:Key)(x:Key)(t:List V):Res V:=cM (a0 x pI) (b4 (strArg t) λv=>b4 (nt v) λo=>cM (vK (a0 o [117,116,102,45,56]) (a0 o [97,115,99,105,105])) (cM (ascii l) (cM (Nat.ble l.length 1000) (.ok (.bytes l) L))))
abbrev eS :=af->Key->Option Nat
noncomputable def pK :List (Nat×List Key):= [(323,[[114,111,119,115],[109,97,110,121]]),(461,[[107,105,110,100,115],[102,117,101,108]]),(517,[[107,105,110,100],[102,105,101,108,100,115],[115,105,122,101,115]]),(573,[[116,104,105,110,103,115],[107,105,110,100,115],[104,101,97,112]]),(743,[[110,97,109,101],[112,97,114,97,109,115],[115,117,112,101,114],[105,115,95,97,98,115,116,114,97,99,116],[105,115,95,109,117,116,97,98,108,101],[102,105,101,108,100,115]]),(830,[[100,101,99,108,115]]),(83,[[109,101,115,115,97,103,101],[115,112,111,116],[118,97,108,117,101]])]
noncomputable def kN(x:Key):List Key->Bool
 | []=>E|A::T=>match a0 A x with
  |true=>M|false=>kN x T
def attrOk(d:Nat)(x:Key):Bool:=match aL d pK with
 |some g=>kN x g|none=>E
def kO(x:Key)(g:List (Key×V)):Option V:=match bL x g with
 |some N=>match py N with
  |true=>Y N|false=>G
 |none=>G
def gJ(L:O)(x:V)(Q:Key):Option V:=match x with
 |.ref A C=>match L.get A C with
  |some (.inst d g)=>match attrOk d Q with
   |true=>kO Q g|false=>G
  |some (.exc g _)=>match attrOk 83 Q with
   |true=>kO Q g|false=>G
  |_=>G
 |_=>G
def pL(L:O)(x:V)(Q:Key)(N:V):Option O:=match pz L x with
 |some d=>match attrOk d Q,Nat.beq d 83 with
  |true,E=>zU L x Q N|_,_=>G
 |none=>G
noncomputable def jN :List Nat:= [83,95,102,109,116,123,130,137,149,157,171,178,183,188,207,271,292,299,323,351,356,361,368,386,393,400,407,429,441,446,453,461,491,499,514,517,535,542,549,570,573,596,603,610,617,624,631,638,645,652,657,664,683,690,697,704,725,730,740,743,761,766,780,787,794,827,830,842,849,856,863,870,877,884,891,896,903,910,917,924,931,938,945,952,959,966,971]
noncomputable def c5(v:Nat):List Nat->Bool
 | []=>E|m::T=>match Nat.beq m v with
  |true=>M|false=>c5 v T
def vL :V->Bool
 |.glob (.bi _)=>M|.glob (.ref v)=>c5 v jN|_=>E
set_option genCtorIdx true in
inductive hL where
 |lst|ma|str
 |own (a:Nat)
def iS(I:eS)(L:O)(r:V)(x:Key):Option hL:=match r with
 |.ref A C=>match L.get A C with
  |some (.list _)=>match kN x [iQ,iR,fI,jL],Nat.blt C 16777216 with
   |true,M=>Y .lst|_,_=>G
  |some (.dict _)=>match a0 x se with
   |true=>Y .ma|false=>G
  |some (.inst d g)=>match I d x,bL x g with
   |some v,G=>match c5 v jN with
    |true=>Y (.own v)|false=>G
   |_,_=>G
  |_=>G
 |.str _=>match a0 x pI with
  |true=>Y .str|false=>G
 |_=>G
noncomputable def Ad :Option aj->Option (List (Key×V))
 |some r=>match r with
  |.dict g=>Y g|_=>G
 |none=>G
def vM(d:cN)(L:O)(r:V)(x:Key)(z:hL)(t:List V):Res V:=match z with
 |.own v=>d (.glob (.ref v)) (r::t) L|.lst=>b4 (refOf r) λp=>b4 (pF (L.get p.1 p.2)) λg=>pJ L p.1 p.2 g x t|.ma=>b4 (refOf r) λp=>b4 (Ad (L.get p.1 p.2)) λg=>Ab L g x t|.str=>b4 (nt r) λl=>Ac L l x t
noncomputable def nJ :List (Key×V):= [([98,111,111,108],.str [66,111,111,108]),([99,104,97,114],.str [67,104,97,114]),([116,101,120,116],.str [83,116,114,105,110,103]),([115,121,109],.str [83,121,109,98,111,108]),([110,111,116,104,105,110,103],.str [78,111,116,104,105,110,103]),([116,114,101,101],.str [69,120,112,114])]
def kP(v:Nat):Option (List (Key×V)):=match Nat.beq v 500 with
 |true=>Y nJ|false=>G
def f8(L:O)(w:fa)(x X:V):Option Bool:=match X with
 |.glob (.ref v)=>match w,x,kP v with
  |.In,.str l,Y g=>Y (match bL l g with|some _=>M|none=>E)|_,_,_=>G
 |_=>iL L w x X
noncomputable def G1(v m:Bool):Bool:=match v with
 |true=>m|false=>E
noncomputable def G2(X:V):Bool:=match X with
 |.int (.ofNat C)=>Nat.beq C 1000000000000000000|_=>E
def G3(x:V):Bool:=match x with
 |.tup (.str A::_)=>nH A [[118,97,108,117,101],[116,104,114,111,119,110],[116,121,112,101]]|_=>E
def G4(X:V):Bool:=match X with
 |.ref A C=>G1 (Nat.beq A 2) (Nat.beq C 2)|_=>E
def Ae(w:fa)(x X:V):Bool:=match w with
 |.GtE=>G2 X|.NotEq=>match G3 x with
  |true=>M|false=>G4 X
 |_=>E
def nK{N:Type}(L:O)(w:fa)(x X:V)(A:Bool->Res N):Res N:=match Ae w x X with
 |false=>b4 (f8 L w x X) A|true=>.ask ⟨.none,[x,X],L⟩ (λΦ=>∃i,f8 L w x X=Y i/\Φ (.bool i) L) λv I=>match v with
  |.bool i=>A i|_=>.no
def pM(L:O)(x X:V):Option V:=match x with
 |.glob (.ref v)=>match X,kP v with
  |.str l,Y g=>bL l g|_,_=>G
 |_=>vt L x X
structure Rec where
 e:aK->al->O->Res V
 bw:List aK->al->O->Res (List V)
 t:aK->al->O->Res Bool
 a:gI->List aK->al->O->Res Bool
 b:gI->List aK->al->O->Res V
 i:aK->al->O->Res Src
 c:aK->cm->List aK->Option (cm×aK)->al->Src->List V->O->Res (al×List V)
 s:eh->al->O->be
 ss:List eh->al->O->be
 w:aK->List eh->al->O->be
 f:cm->List eh->Src->al->O->be
noncomputable def Rec.none :Rec:=⟨λI I I=>.no,λI I I=>.no,λI I I=>.no,λI I I I=>.no,λI I I I=>.no,λI I I=>.no,λI I I I I I I I=>.no,λI I I=>.no,λI I I=>.no,λI I I I=>.no,λI I I I I=>.no⟩
section
variable(H:cN)(I:eS)(R:Rec)
def Af(n:List aK)(Q:al)(L:O):Res (List V):=match n with
 | []=>.ok [] L|o::T=>(R.e o Q L).bind λx L=>(R.bw T Q L).bind λxs L=>.ok (x::xs) L
noncomputable def kQ(L:O):V->Res Bool
 |.bool m=>.ok m L|_=>.no
def stepT(o:aK)(Q:al)(L:O):Res Bool:=match o with
 |.not v=>(R.t v Q L).bind λm L=>.ok (cK m) L|.r5 w n=>R.a w n Q L|.cmp v w m=>(R.e v Q L).bind λx L=>(R.e m Q L).bind λX L=>nK L w x X λi=>.ok i L|.r6 v w m b W=>(R.e v Q L).bind λx L=>(R.e m Q L).bind λX L=>match iL L w x X with
  |some M=>(R.e W Q L).bind λi L=>iO L (iL L b X i)|some E=>.ok E L|G=>.no
 |.pD _ _ _=>.no|o=>(R.e o Q L).bind λx L=>kQ L x
def Ag(w:gI)(n:List aK)(Q:al)(L:O):Res Bool:=match n with
 | []=>.ok (match w with|.And=>M|.Or=>E) L|x::T=>(R.t x Q L).bind λm L=>match w,m with
  |.And,E=>.ok E L|.Or,M=>.ok M L|_,_=>R.a w T Q L
def Ah(w:gI)(n:List aK)(Q:al)(L:O):Res V:=match n with
 | []=>.no| [x]=>R.e x Q L|x::T=>(R.e x Q L).bind λN L=>(kQ L N).bind λm L=>match w,m with
  |.And,E=>.ok N L|.Or,M=>.ok N L|_,_=>R.b w T Q L
def iT(o:aK)(Q:al)(L:O):Res Src:=(R.e o Q L).bind λx L=>iO L (hK L x)
noncomputable def G5 :e8->Option d0
 |.bi m=>Y m|_=>G
def G6 :V->Option d0
 |.glob c=>G5 c|_=>G
def iU :aK->Option d0
 |.lit N=>G6 N|_=>G
def G7(x:V)(L:O):Res Src:=b4 (ig x) λC=>cM (l9 C) (.ok (.cg 0 C) L)
def G8(x:V)(L:O):Res Src:=b4 (hK L x) λl=>.ok (.enum 0 l) L
def G9(x X:V)(L:O):Res Src:=b4 (hK L x) λl=>b4 (hK L X) λd=>(L.alloc .ce).bind λI b=>.ok (.zip L.bf L.n l d) b
def vN(m:d0)(S v t:aK)(Q:al)(L:O):Res Src:=match m with
 |.range=>(R.e S Q L).bind λI L=>(R.e v Q L).bind G7|.enumerate=>(R.e S Q L).bind λI L=>(R.e v Q L).bind G8|_=>iT R t Q L
def vO(m:d0)(S v Z t:aK)(Q:al)(L:O):Res Src:=match m with
 |.zip=>(R.e S Q L).bind λI L=>(R.e v Q L).bind λx L=>(R.e Z Q L).bind λX L=>G9 x X L|_=>iT R t Q L
def stepI(o:aK)(Q:al)(L:O):Res Src:=match o with
 |.r7 S v t=>match iU S with
  |some m=>vN R m S v t Q L|none=>iT R t Q L
 |.r8 S v m t=>match iU S with
  |some q=>vO R q S v m t Q L|none=>iT R t Q L
 |.kL v=>iT R v Q L|_=>.no
def pN(F:aK)(n:Option (cm×aK))(Q:al)(f:List V)(L:O):Res (al×List V):=match n with
 |G=>(R.e F Q L).bind λx L=>match Nat.blt f.length 1000 with
  |true=>.ok (Q,f++ [x]) L|false=>.no
 |some (H,h)=>(R.i h Q L).bind λl L=>R.c F H [] G Q l f L
def vP(F:aK)(H:cm)(o:List aK)(n:Option (cm×aK))(Q:al)(l:Src)(f:List V)(L:O):Res (al×List V):=match nextM L l with
 |G=>.no|some G=>.ok (Q,f) L|some (Y (N,W))=>match walk Q W H N with
  |G=>.no|some P=>match o with
   | []=>(pN R F n P f L).bind λp L=>R.c F H o n p.1 W p.2 L| [d]=>(R.t d P L).bind λm L=>match m with
    |true=>(pN R F n P f L).bind λp L=>R.c F H o n p.1 W p.2 L|false=>R.c F H o n P W f L
   |_=>.no
def pO :List aK->al->O->Res (List V)
 | [],_,L=>.ok [] L|o::T,Q,L=>(R.e o Q L).bind λx L=>(pO T Q L).bind λxs L=>.ok (x::xs) L
noncomputable def hM(t f:List V):List V:=(t.zip f).map λp=>.tup [p.1,p.2]
noncomputable def Ai :Option aj->Bool
 |some r=>match r with
  |.ce=>M|_=>E
 |none=>E
def Ha(A C w a:Nat)(t f:List V)(L:O):Res V:=b4 (pF (L.get A C)) λg=>cM (Ai (L.get w a)) (cM (Nat.ble (g.length+t.length+1) 1000) (cM (Nat.blt C 16777216) (.ok .none (L.set A C (Y (.list (g++hM t f)))))))
def vQ(N:V)(l:Src)(L:O):Res V:=match N with
 |.ref A C=>match l with
  |.zip w a v m=>match v with
   |.tup t=>match m with
    |.tup f=>Ha A C w a t f L|_=>.no
   |_=>.no
  |_=>.no
 |_=>.no
noncomputable def Aj :Option aj->Bool
 |some r=>match r with
  |.dict g=>match g with
   | []=>M|_::_=>E
  |_=>E
 |none=>E
def Ak(a:List Key)(xs:List V)(T:V)(L:O):Res V:=match T with
 |.ref A C=>cM (Aj (L.get A C)) (b4 (pG a xs) λg=>cM (Nat.blt C 16777216) (.ok T (L.set A C (Y (.dict g)))))|_=>.no
noncomputable def Al :Option hL->Bool
 |some z=>match z with
  |.lst=>M|_=>E
 |none=>E
def dc(o:aK)(Q:al)(L:O):Res V:=match o with
 |.bad=>.no|.lit N=>.ok N L|.var x=>iO L (aL x Q)|.tup C=>(R.bw C Q L).bind λxs L=>cM (short xs) (.ok (.tup xs) L)|.list C=>(R.bw C Q L).bind λxs L=>cM (short xs) (L.alloc (.list xs))|.dict a C=>cM (noTwice a) (cM (Nat.ble a.length 15) ((L.alloc (.dict [])).bind λT L=>(pO R C Q L).bind λxs L=>Ak a xs T L))|.bin w v m=>(R.e v Q L).bind λx L=>(R.e m Q L).bind λX L=>sa L w x X|.not v=>(R.e v Q L).bind λx L=>(kQ L x).bind λm L=>.ok (.bool (cK m)) L|.neg v=>(R.e v Q L).bind λx L=>b4 (ig x) λf=>.ok (.int (-f)) L|.r5 w C=>R.b w C Q L|.pD n v m=>(R.t n Q L).bind λB L=>match B with
  |true=>R.e v Q L|false=>R.e m Q L
 |.cmp v w m=>(R.e v Q L).bind λx L=>(R.e m Q L).bind λX L=>nK L w x X λd=>.ok (.bool d) L|.r6 _ _ _ _ _=>.no|.attr v x=>(R.e v Q L).bind λN L=>iO L (gJ L N x)|.idx v m=>(R.e v Q L).bind λx L=>(R.e m Q L).bind λX L=>iO L (pM L x X)|.slice v lo s st=>(R.e v Q L).bind λx L=>(R.e lo Q L).bind λg L=>(R.e s Q L).bind λj L=>(R.e st Q L).bind λl L=>nI L x g j l|.call S C=>(R.e S Q L).bind λP L=>cM (vL P) ((R.bw C Q L).bind λxs L=>H P xs L)|.vH r x C=>(R.e r Q L).bind λN L=>b4 (iS I L N x) λz=>(R.bw C Q L).bind λxs L=>vM H L N x z xs|.vI r x h=>(R.e r Q L).bind λN L=>cM (Al (iS I L N x)) (cM (a0 x fI) ((R.i h Q L).bind λl L=>vQ N l L))|.kL _=>.no|.r7 _ _ _=>.no|.r8 _ _ _ _=>.no|.comp own F W h k=>(R.i h Q L).bind λl L=>(R.c F W k G (jJ Q own) l [] L).nF.bind λp L=>L.alloc (.list p.2)|.z1 own F W h q K=>(R.i h Q L).bind λl L=>(R.c F W [] (Y (q,K)) (jJ Q own) l [] L).nF.bind λp L=>L.alloc (.list p.2)
def kR(d:hl)(N:V)(Q:al)(L:O):Res al:=match d with
 |.bad=>.no|.name x=>.ok (eu x N Q) L|.attr r x=>(R.e r Q L).bind λu L=>b4 (pL L u x N) λn=>.ok Q n|.idx r f=>(R.e r Q L).bind λu L=>(R.e f Q L).bind λm L=>b4 (sd L u m N) λn=>.ok Q n
def storeAll :List hl->List V->al->O->Res al
 | [],[],Q,L=>.ok Q L|d::t,N::vs,Q,L=>(kR R d N Q L).bind λQ L=>storeAll t vs Q L|_,_,_,_=>.no
def Am(t:List hl)(N:V)(Q:al)(L:O):Res al:=match N with
 |.tup vs=>cM (Nat.beq t.length vs.length) (storeAll R t vs Q L)|_=>.no
noncomputable def sf{N:Type}:Option N->Bool
 |none=>M|some _=>E
noncomputable def sg :Option aj->Option (List (Key×V))
 |some r=>match r with
  |.exc g T=>match T with
   |false=>Y g|true=>G
  |_=>G
 |none=>G
def vR(L:O)(Q:al)(N:V)(n:O):be:=match N with
 |.ref A C=>match sf (L.get A C) with
  |true=>match sg (n.get A C) with
   |some g=>match Nat.blt C 16777216 with
    |true=>.err A C Q (n.set A C (Y (.exc g M)))|false=>.no
   |none=>.no
  |false=>.no
 |_=>.no
def Hb(t v:Key)(A C:Nat)(L:O):be:=match gJ L (.ref A C) v with
 |some N=>.ok (.ret (.tup [.str t,N])) [] L|none=>.no
def sh(t v:Key)(Q:al)(T:Res V):be:=Res.rec (λN L=>.ok (.ret N) Q L) (Hb t v) .no (λa P I F=>.ask a P F) T
def kS(l:eh)(Q:al)(L:O):be:=match l with
 |.bad=>.no|.pass=>.ok .next Q L|.assign d o=>(R.e o Q L).toS Q λN L=>(kR R d N Q L).toS Q λQ L=>.ok .next Q L|.z2 y o=>(R.e o Q L).toS Q λN L=>(Am R y N Q L).toS Q λQ L=>.ok .next Q L|.expr o=>(R.e o Q L).toS Q λI L=>.ok .next Q L|.ifs d v m=>(R.t d Q L).toS Q λq L=>match q with
  |true=>R.ss v Q L|false=>R.ss m Q L
 |.z3 d m=>R.w d m Q L|.z4 H h m=>(R.i h Q L).toS Q λl L=>R.f H m l Q L|.ret o=>(R.e o Q L).toS Q λN L=>.ok (.ret N) Q L|.raise o=>(R.e o Q L).toS Q (vR L Q)|.z5 o _ a v=>sh a v Q (R.e o Q L)
def An(a:List eh)(Q:al)(L:O):be:=match a with
 | []=>.ok .next Q L|l::T=>(R.s l Q L).bind λQ L=>R.ss T Q L
def Hc(d:aK)(m:List eh)(Q:al)(L:O):be:=(R.t d Q L).toS Q λq L=>match q with
 |true=>(R.ss m Q L).bind λQ L=>R.w d m Q L|false=>.ok .next Q L
def Hd(H:cm)(m:List eh)(l:Src)(Q:al)(L:O):be:=match nextM L l with
 |G=>.no|some G=>.ok .next Q L|some (Y (N,W))=>match walk Q W H N with
  |G=>.no|some P=>(R.ss m P L).bind λQ L=>R.f H m W Q L
def Rec.step :Rec:=⟨dc H I R,Af R,stepT R,Ag R,Ah R,stepI R,vP R,kS R,An R,Hc R,Hd R⟩
end
def ev(d:cN)(I:eS):Nat->Rec
 |0=>Rec.none|C+1=>Rec.step d I (ev d I C)
set_option backward.match.sparseCases false
noncomputable abbrev aU :Program:=TA
noncomputable def fJ :List (Nat×V):= [
 (124973598354568,.glob (.ref 83)),
 (1193923140,.tup [.str [98,111,111,108],.bool M]),
 (306803896688,.tup [.str [98,111,111,108],.bool E]),
 (1949946650090001873616,.glob (.ref 95)),
 (501136289073130345790258,.glob (.ref 102)),
 (501136289073130482178891,.glob (.ref 109)),
 (496111846703421511289913,.glob (.ref 116)),
 (128792026291794525043121073,.glob (.ref 123)),
 (124973598354600,.glob (.ref 130)),
 (147661391902612740548011217,.glob (.ref 137)),
 (5964779,.tup [.str [110,97,109,101],.str [65,110,121],.tup []]),
 (87800527765723,.tup [.str [98,111,116,116,111,109]]),
 (442348209674,.glob (.ref 149)),
 (7659648831887936358,.glob (.ref 157)),
 (8421296680268083226379481661040,.glob (.ref 171)),
 (32767691362914860270126334216,.glob (.ref 178)),
 (127456935646636646374746827,.glob (.ref 183)),
 (2216157422544956840134,.glob (.ref 188)),
 (2483580291641276028222117570084049,.glob (.ref 207)),
 (1738106761,.glob (.ref 252)),
 (507784673277,.glob (.ref 323)),
 (569306379544516401743651,.glob (.ref 351)),
 (146311739542940649913638819,.glob (.ref 356)),
 (9068080641437428338,.glob (.ref 361)),
 (29804081176549861,.glob (.ref 368)),
 (1193594694,.tup [.str [110,97,109,101],.str [84,121,112,101],.tup []]),
 (5873175885023056238,.tup [.str [110,97,109,101],.str [70,117,110,99,116,105,111,110],.tup []]),
 (118159469388380,.glob (.ref 461)),
 (569685675918188041829719,.glob (.ref 491)),
 (501042101450478587120977,.glob (.ref 499)),
 (105926005024915935248304471,.glob (.ref 500)),
 (455588129791,.glob (.ref 517)),
 (1924628098,.glob (.ref 573)),
 (29804081041085409,.glob (.ref 596)),
 (29513710902355176,.glob (.ref 603)),
 (495940716780997860412951,.glob (.ref 610)),
 (1929728669843473056416,.glob (.ref 617)),
 (127456648914492681850785939,.glob (.ref 624)),
 (7508671867094963254,.glob (.ref 631)),
 (127456648914508391106896526,.glob (.ref 638)),
 (1968529765456399425716,.glob (.ref 645)),
 (2186192227948510413600075967378920,.glob (.ref 652)),
 (127456764212716454301350263,.glob (.ref 657)),
 (8418384204153178176802215110722,.glob (.ref 664)),
 (8418384204153178176802215110734,.glob (.ref 683)),
 (574443460901156685741598,.glob (.ref 690)),
 (556025858300191560729023804980727085,.glob (.ref 697)),
 (7508671867096412739,.glob (.ref 704)),
 (77666406316480,.tup [.str [73,110,116,56],.str [73,110,116,49,54],.str [73,110,116,51,50],.str [73,110,116,54,52],.str [66,105,103,73,110,116]]),
 (5129788470797207909,.tup [.str [85,73,110,116,56],.str [85,73,110,116,49,54],.str [85,73,110,116,51,50],.str [85,73,110,116,54,52]]),
 (27240586190318808037508184508,.tup [.str [68,105,118,105,100,101,69,114,114,111,114],.str [73,110,101,120,97,99,116,69,114,114,111,114],.str [84,121,112,101,69,114,114,111,114],.str [83,116,97,99,107,79,118,101,114,102,108,111,119,69,114,114,111,114]]),
 (105994498795014817369408140,.tup [.str [65,114,103,117,109,101,110,116,69,114,114,111,114],.str [79,118,101,114,102,108,111,119,69,114,114,111,114],.str [68,105,109,101,110,115,105,111,110,77,105,115,109,97,116,99,104],.str [69,114,114,111,114,69,120,99,101,112,116,105,111,110]]),
 (105994498795014817232817763,.tup [.str [77,101,116,104,111,100,69,114,114,111,114],.str [65,109,98,105,103,117,111,117,115,69,114,114,111,114]]),
 (1856861820,.glob (.ref 743)),
 (507768359166,.glob (.ref 830)),
 (31517271239540981,.glob (.ref 842)),
 (146306753976879190675441073,.glob (.ref 849)),
 (37618438670982542443301688886,.glob (.ref 856)),
 (569648648897803781267554,.glob (.ref 863)),
 (2082497382443015619776,.glob (.ref 870)),
 (2120339234724835167924,.glob (.ref 877)),
 (500869041881447946012431,.glob (.ref 884)),
 (501136289073130531585321,.glob (.ref 891)),
 (1930396290674875819441,.glob (.ref 896)),
 (505912149727844019775004,.glob (.ref 903)),
 (564605616838023486471478,.glob (.ref 910)),
 (633010349965415685073923881233182303,.glob (.ref 917)),
 (164032533108464720102358406417357647502,.glob (.ref 924)),
 (569305935249891967031840,.glob (.ref 931)),
 (2234970735754916708049,.glob (.ref 938)),
 (1948684624227011363234,.glob (.ref 945)),
 (8698112919818422371,.glob (.ref 952)),
 (1930249927267051907262,.glob (.ref 959)),
 (165463596626171454721077517749615131799,.glob (.ref 966)),
 (412182842766449363307035,.int 64),
 (7357762,.glob (.bi .len)),
 (1993716416,.glob (.bi .list)),
 (446829705519,.glob (.bi .tuple)),
 (1992659624,.glob (.bi .dict)),
 (446744695314,.glob (.bi .range)),
 (7490902,.glob (.bi .zip)),
 (1949869448411296575183,.glob (.bi .enumerate)),
 (113683609831575,.glob (.bi .sorted)),
 (7756366,.glob (.bi .int)),
 (500793876509301562195259,.glob (.bi .isinstance))
 ]
abbrev a4 :=List (Nat×db)
noncomputable def bx :List (am×db)->a4
 | []=> []|(x,A)::T=>match bt x with
  |some f=>(f,A)::bx T|none=>bx T
noncomputable def ownOf :a4->List Nat
 | []=> []|(f,.local)::T=>f::ownOf T|_::T=>ownOf T
def cStr :Option ah->Option Key
 |some (.Constant (.str x) _ _)=>Y (ay x)|_=>G
noncomputable def iV :List (Option ah)->Option (List Key)
 | []=>Y []|o::T=>match cStr o,iV T with
  |some A,Y g=>Y (A::g)|_,_=>G
def dM(a:a4)(x:am):Option Nat:=match bt x with
 |some f=>match aL f a with
  |some .local=>Y f|some .cell=>Y f|_=>G
 |none=>G
noncomputable def f9{N e:Type}(r:Option N)(S:N->Option e):Option e:=match r with
 |some v=>S v|none=>G
theorem ii{N e:Type}{r:Option N}{c:N->Option e}{m:e}(j:f9 r c=Y m):∃v,r=Y v/\c v=Y m:=by
 induction r using aB with|none=>exact ag j|some v=>exact aC v rfl j
noncomputable def gb(a:a4):List ah->Option (List Nat)
 | []=>Y []|o::T=>match o with
  |.Name x _=>f9 (dM a x) λf=>f9 (gb a T) λg=>Y (f::g)|_=>G
def eT(a:a4):ah->Option cm
 |.Name x _=>match dM a x with
  |some f=>Y (.name f)|none=>G
 |.Tuple n _ _=>match gb a n with
  |some g=>Y (.tup g)|none=>G
 |_=>G
def Ao :Const->aK
 |.none=>.lit .none|.bool m=>.lit (.bool m)|.int f=>.lit (.int f)|.str x=>.lit (.str (ay x))|.bytes m=>.lit (.bytes (m.map (·.toNat)))|_=>.bad
def pP(a:a4)(x:am):aK:=match bt x with
 |some f=>match aL f a with
  |some .local=>.var f|some .cell=>.var f|some .free=>.var f|some .globalImplicit=>match aL f fJ with
   |some N=>.lit N|none=>.bad
  |_=>.bad
 |none=>.bad
def pQ(bM:List (Option ah))(vs:List aK):aK:=match iV bM with
 |some g=>match Nat.beq g.length vs.length with
  |true=>.dict g vs|false=>.bad
 |none=>.bad
noncomputable def He(g:aK)(w:fa)(s:List fa)(T:aK)(R:List aK):aK:=match s with
 | []=>match R with
  | []=>.cmp g w T|_::_=>.bad
 |b::s=>match R with
  | []=>.bad|n::R=>match s with
   | []=>match R with
    | []=>.r6 g w T b n|_::_=>.bad
   |_::_=>.bad
def vS(g:aK)(s:List fa)(R:List aK):aK:=match s with
 | []=>.bad|w::s=>match R with
  | []=>.bad|T::R=>He g w s T R
noncomputable def gK :ah->Bool
 |.Call (.Name _ _) [] [] _=>M|_=>E
noncomputable def isSet :ah->Bool
 |.Set _ _ _=>M|_=>E
noncomputable def jO :List ah->Bool
 | []=>M|o::T=>match isSet o with
  |true=>E|false=>jO T
noncomputable def iW(c:ah->aK):Option ah->aK
 |some o=>c o|none=>.lit .none
def vT(c:ah->aK)(N:aK):ah->aK
 |.Slice lo b st _=>.slice N (iW c lo) (iW c b) (iW c st)|f=>.idx N (c f)
noncomputable def dN :List ah->Bool
 | []=>M|.Starred _ _::_=>E|_::T=>dN T
noncomputable def pR :ah->Bool
 |.Attribute _ _ _=>M|_=>E
noncomputable def bg(v m:Bool):Bool:=match v with
 |true=>m|false=>E
def byName(S:ah)(n:List ah):Bool:=bg (cK (pR S)) (dN n)
noncomputable def twoArgs :List ah->Bool
 | []=>E|_::T=>match T with
  | []=>E|_::T=>match T with
   | []=>M|_::_=>E
def vU :ah->Bool
 |.Call S n b _=>match b with
  | []=>bg (twoArgs n) (byName S n)|_::_=>E
 |_=>E
def si :List ah->Option ah
 | []=>G|o::T=>match T with
  | []=>match vU o with
   |true=>Y o|false=>G
  |_::_=>G
noncomputable def Ap(c:ah->aK)(S:ah)(n:List ah)(o:ah):aK:=match n with
 | []=>.kL (c o)|v::T=>match T with
  | []=>.r7 (c S) (c v) (c o)|m::T=>match T with
   | []=>.r8 (c S) (c v) (c m) (c o)|_::_=>.kL (c o)
def ft(c:ah->aK)(o:ah):aK:=match o with
 |.Call S n b _=>match b with
  | []=>match byName S n with
   |true=>Ap c S n o|false=>.kL (c o)
  |_::_=>.kL (c o)
 |o=>.kL (c o)
def pS(c:ah->aK)(r:ah)(v:Key)(n:List ah):aK:=match a0 v fI,si n with
 |true,Y o=>.vI (c r) v (ft c o)|_,_=>.vH (c r) v (n.map c)
def kT(c:ah->aK)(S:ah)(n:List ah)(z:aN):aK:=match S with
 |.Attribute r v f=>match gK r,Nat.beq f.endLine z.line,Nat.blt n.length 30,dN n with
  |false,M,M,M=>pS c r (ay v) n|_,_,_,_=>.bad
 |S=>match dN n with
  |true=>.call (c S) (n.map c)|false=>.bad
noncomputable def plainNames :List (am×db)->Bool
 | []=>M|(x,_)::T=>match bt x with
  |none=>E|some f=>match Nat.beq f (enc [95,95,100,101,98,117,103,95,95]),Nat.beq f (enc [95,95,99,108,97,115,115,100,105,99,116,95,95]) with
   |false,E=>plainNames T|_,_=>E
noncomputable def kU(a:a4)(b:a4):a4->Bool
 | []=>M|(f,A)::T=>match A with
  |.local=>match aL f b with
   |some .local=>kU a b T|_=>E
  |.free=>match aL f a with
   |some .cell=>kU a b T|_=>E
  |.cell=>E|_=>kU a b T
noncomputable def isFun :ScopeKind->Bool
 |.function=>M|_=>E
def jP(a:a4)(D:cn):Bool:=match isFun D.kind,plainNames D.names with
 |true,M=>kU a (bx D.names) (bx D.names)|_,_=>E
noncomputable def mb :ah->Bool
 |.ListComp _ _ _ _=>M|.SetComp _ _ _ _=>M|.DictComp _ _ _ _ _=>M|_=>E
noncomputable def vV(x:ah):Bool:=match x with
 |.Tuple vs _ _=>match vs.all (vW 8) with
  |true=>E|false=>vs.all (Aq 8)
 |_=>E
noncomputable def sj{N:Type}(r:Option N)(S:N->aK):aK:=match r with
 |some v=>S v|none=>.bad
noncomputable def sk(m:Bool)(z:aK):aK:=match m with
 |true=>z|false=>.bad
def vX(y:fe):Bool:=bg (fq y.is_async 0) (cK (isSet y.iter))
noncomputable def kV{N:Type}:List N->Bool
 | []=>M|_::_=>E
def Hf(c:a4->ah->aK)(a b:a4)(F:ah)(y:fe)(H:cm):List fe->aK
 | []=>.comp (ownOf b) (c b F) H (ft (c a) y.iter) (y.ifs.map (c b))|h::T=>sk (bg (bg (kV T) (vX h)) (bg (kV y.ifs) (kV h.ifs))) (sj (eT b h.target) λv=>.z1 (ownOf b) (c b F) H (ft (c a) y.iter) v (ft (c b) h.iter))
def vY(c:a4->ah->aK)(a:a4)(b:a4)(F:ah):List fe->aK
 | []=>.bad|y::T=>sk (vX y) (sj (eT b y.target) λH=>Hf c a b F y H T)
noncomputable def Ar(w:UnaryOp)(x:aK):aK:=match w with
 |.Not=>.not x|.USub=>.neg x|_=>.bad
noncomputable def az :Nat->a4->ah->aK
 |0,_,_=>.bad|W+1,a,o=>match o with
  |.Constant B _ _=>Ao B|.Name x _=>pP a x|.Tuple n _ _=>.tup (n.map (az W a))|.List n _=>.list (n.map (az W a))|.Dict bM vs _=>pQ bM (vs.map (az W a))|.BinOp g w T _=>.bin w (az W a g) (az W a T)|.UnaryOp w x _=>Ar w (az W a x)|.BoolOp w n _=>.r5 w (n.map (az W a))|.IfExp d v m _=>.pD (az W a d) (az W a v) (az W a m)|.Compare g s R _=>match jO R with
   |true=>vS (az W a g) s (R.map (az W a))|false=>.bad
  |.Attribute N v _=>match gK N with
   |true=>.bad|false=>.attr (az W a N) (ay v)
  |.Subscript N f _=>vT (az W a) (az W a N) f|.Call S n b z=>match b with
   | []=>kT (az W a) S n z|_=>.bad
  |.ListComp F u D _=>match jP a D with
   |true=>vY (az W) a (bx D.names) F u|false=>.bad
  |_=>.bad
def fK(W:Nat)(a:a4):ah->hl
 |.Name x _=>match dM a x with
  |some f=>.name f|none=>.bad
 |.Attribute r v _=>.attr (az W a r) (ay v)|.Subscript r f _=>.idx (az W a r) (az W a f)|_=>.bad
noncomputable def sm :hl->Bool
 |.bad=>E|_=>M
def pT(a:a4)(f:Nat):Bool:=match aL f a with
 |some A=>match A with
  |.globalImplicit=>match aL f fJ with
   |some N=>match N with
    |.glob c=>match c with
     |.ref v=>Nat.beq v 83|_=>E
    |_=>E
   |none=>E
  |_=>E
 |none=>E
noncomputable def so :ah->Option am
 |.Name x _=>Y x|_=>G
noncomputable def vZ :List aP->Option ah
 | []=>G|l::T=>match T with
  | []=>match l with
   |.Return o _=>o|_=>G
  |_::_=>G
structure As where
 t:am
 x:am
 b:List aP
def At :List v0->Option As
 | []=>G|j::T=>match T with
  | []=>match j with
   |.ExceptHandler d x m _=>f9 d λd=>f9 x λx=>f9 (so d) λd=>Y ⟨d,x,m⟩
  |_::_=>G
noncomputable def v1 :ah->Option am
 |.Constant B _ _=>match B with
  |.str t=>Y t|_=>G
 |_=>G
def Au :ah->Option (am×am)
 |.Attribute r v _=>f9 (so r) λX=>Y (X,v)|_=>G
def Av :ah->Option (am×am×am)
 |.Tuple n _ _=>match n with
  | []=>G|v::T=>match T with
   | []=>G|m::T=>match T with
    | []=>f9 (v1 v) λt=>f9 (Au m) λq=>Y (t,q.1,q.2)|_::_=>G
 |_=>G
noncomputable def Aw :Option db->Bool
 |some A=>match A with
  |.local=>M|_=>E
 |none=>E
noncomputable def ij{N:Type}(r:Option N)(S:N->eh):eh:=match r with
 |some v=>S v|none=>.bad
noncomputable def jQ(m:Bool)(z:eh):eh:=match m with
 |true=>z|false=>.bad
def Ax(c:ah->aK)(a:a4)(K:List aP)(R:List v0)(w p:List aP):eh:=
 jQ (bg (kV w) (kV p)) (ij (vZ K) λo=>ij (At R) λq=>ij (vZ q.b) λT=>ij (Av T) λi=>ij (bt q.x) λf=>ij (bt i.2.1) λk=>ij (bt q.t) λg=>
  jQ (bg (bg (Nat.beq f k) (Aw (aL f a))) (pT a g)) (.z5 (c o) f (ay i.1) (ay i.2.2)))
def Hg(a:ah->hl)(d:ah)(z:aK)(o:ah):eh:=match d with
 |.Tuple t _ _=>jQ (bg (bg (cK (mb o)) (cK (vV o))) (dN t)) (.z2 (t.map a) z)|d=>jQ (sm (a d)) (.assign (a d) z)
noncomputable def bY :Nat->a4->aP->eh
 |0,_,_=>.bad|W+1,a,l=>match l with
  |.Pass _=>.pass|.Return o _=>ij o λo=>.ret (az W a o)|.Expr o _=>jQ (cK (mb o)) (.expr (az W a o))|.Assign t o _=>match t with
   | []=>.bad|d::T=>match T with
    | []=>Hg (fK W a) d (az W a o) o|_::_=>.bad
  |.If d v m _=>.ifs (az W a d) (v.map (bY W a)) (m.map (bY W a))|.While d m w _=>jQ (kV w) (.z3 (az W a d) (m.map (bY W a)))|.For d h m w _=>jQ (bg (kV w) (cK (isSet h))) (ij (eT a d) λH=>.z4 H (ft (az W a) h) (m.map (bY W a)))|.Raise o b _=>match b with
   |none=>ij o λo=>.raise (az W a o)|some _=>.bad
  |.Try K R w p _=>Ax (az W a) a K R w p|_=>.bad
structure pU where
 gc:List Nat
 ds:List V
 body:List eh
noncomputable def gd :List Arg->Option (List Nat)
 | []=>Y []|v::T=>match bt v.arg,gd T with
  |some f,Y g=>Y (f::g)|_,_=>G
noncomputable def argsOk(v:hN):Bool:=match v.posonlyargs,v.vararg,v.kwonlyargs,v.kwarg with
 | [],G,[],G=>M|_,_,_,_=>E
noncomputable def distinct :List Nat->Bool
 | []=>M|f::T=>match c5 f T with
  |true=>E|false=>distinct T
noncomputable def mc(a:a4):List Nat->Bool
 | []=>M|f::T=>match aL f a with
  |some .local=>mc a T|some .cell=>mc a T|_=>E
noncomputable def pV :a4->List Nat
 | []=> []|p::T=>p.1::pV T
def iX(v:hN)(P:List Nat)(Z:List V)(D:cn):Bool:=match argsOk v,isFun D.kind,D.isGenerator,D.isCoroutine with
 |true,M,E,E=>match plainNames D.names,distinct P,mc (bx D.names) P,Nat.ble Z.length P.length,distinct (pV (bx D.names)) with
  |true,M,M,M,M=>M|_,_,_,_,_=>E
 |_,_,_,_=>E
structure Ay where
 a:hN
 b:List aP
 s:cn
noncomputable def Hh :aP->Option Ay
 |.FunctionDef _ v m _ _ _ r _ _ _=>Y ⟨v,m,r⟩|_=>G
def sq :Option aP->Option Ay
 |some l=>Hh l|none=>G
def Az(st:Option aP)(Z:List V):Option pU:=f9 (sq st) λW=>f9 (gd W.a.args) λP=>gG (iX W.a P Z W.s) (Y ⟨P,Z,W.b.map (bY 40 (bx W.s.names))⟩)
def c6(f k:Nat):Option Stmt:=match aU.main.body[f]? with
 |some (.ClassDef _ _ _ K _ _ _ _ _ _ _)=>K[k]?|_=>G
def AA :List (Nat×Option aP×List V):= [
 (95,aU.main.body[9]?,[.str [73,110,116,54,52]]),(102,aU.main.body[10]?,[]),(109,aU.main.body[11]?,[]),(116,aU.main.body[12]?,[]),(123,aU.main.body[13]?,[]),(130,aU.main.body[14]?,[]),(137,aU.main.body[15]?,[]),(149,aU.main.body[19]?,[.tup []]),(157,aU.main.body[20]?,[.none]),(171,aU.main.body[22]?,[]),(178,aU.main.body[23]?,[]),(183,aU.main.body[24]?,[]),(188,aU.main.body[25]?,[]),(207,aU.main.body[28]?,[]),(351,aU.main.body[36]?,[]),(356,aU.main.body[37]?,[]),(361,aU.main.body[38]?,[]),(368,aU.main.body[39]?,[]),(491,aU.main.body[47]?,[]),(499,aU.main.body[48]?,[.int 4000]),(596,aU.main.body[55]?,[]),(603,aU.main.body[56]?,[]),(610,aU.main.body[59]?,[]),(617,aU.main.body[60]?,[]),(624,aU.main.body[61]?,[]),(631,aU.main.body[62]?,[]),(638,aU.main.body[63]?,[]),(645,aU.main.body[64]?,[]),(652,aU.main.body[65]?,[]),(657,aU.main.body[66]?,[]),(664,aU.main.body[67]?,[]),(683,aU.main.body[70]?,[]),(690,aU.main.body[71]?,[]),(697,aU.main.body[72]?,[]),(704,aU.main.body[73]?,[]),(842,aU.main.body[82]?,[.bool E]),(849,aU.main.body[83]?,[]),(856,aU.main.body[84]?,[]),(863,aU.main.body[85]?,[]),(870,aU.main.body[87]?,[]),(877,aU.main.body[88]?,[]),(884,aU.main.body[89]?,[]),(891,aU.main.body[90]?,[]),(896,aU.main.body[91]?,[]),(903,aU.main.body[92]?,[]),(910,aU.main.body[93]?,[]),(917,aU.main.body[94]?,[]),(924,aU.main.body[95]?,[]),(931,aU.main.body[96]?,[]),(938,aU.main.body[97]?,[]),(945,aU.main.body[98]?,[]),(952,aU.main.body[99]?,[]),(959,aU.main.body[100]?,[]),(966,aU.main.body[101]?,[]),(971,aU.main.body[102]?,[]),(271,c6 32 0,[.none,.int 0]),(292,c6 32 3,[]),(299,c6 32 4,[]),(386,c6 43 0,[]),(393,c6 43 1,[]),(400,c6 43 2,[]),(407,c6 43 3,[]),(429,c6 43 7,[]),(441,c6 43 9,[]),(446,c6 43 10,[]),(453,c6 43 11,[]),(514,c6 51 0,[]),(535,c6 52 0,[]),(542,c6 52 1,[]),(549,c6 52 2,[]),(570,c6 52 5,[]),(725,c6 80 0,[.bool E,.tup []]),(730,c6 80 1,[]),(740,c6 80 3,[]),(761,c6 81 0,[]),(766,c6 81 1,[]),(780,c6 81 3,[]),(787,c6 81 4,[]),(794,c6 81 5,[]),(827,c6 81 10,[])]
def kW :List (Nat×Option pU):=AA.map λp=>(p.1,Az p.2.1 p.2.2)
noncomputable def ik :List (Nat×List (Key×Nat)):= [
 (323,[([95,95,105,110,105,116,95,95],271),([115,105,100,101],292),([105,115,95,97,115,107,101,100],299)]),
 (461,[([95,95,105,110,105,116,95,95],386),([114,117,110],393),([115,101,116,116,108,101,100],400),([115,116,101,112],407),([98,121,95,102,111,114,109],429),([112,108,97,105,110],441),([110,111,109,105,110,97,108],446),([97,114,101,95,99,111,110,99,114,101,116,101],453)]),
 (517,[([95,95,105,110,105,116,95,95],514)]),
 (573,[([95,95,105,110,105,116,95,95],535),([112,117,116],542),([110,101,119,95,111,98,106,101,99,116],549),([111,98,106,101,99,116],570)]),
 (743,[([95,95,105,110,105,116,95,95],725),([116,97,98,108,101,95,102,111,114],730),([102,105,101,108,100,95,107,105,110,100,115],740)]),
 (830,[([95,95,105,110,105,116,95,95],761),([100,101,99,108,97,114,101],766),([100,101,99,108],780),([115,117,112,101,114,95,111,102],787),([115,117,112,101,114,115],794),([105,115,95,99,111,110,99,114,101,116,101],827)])]
def meths :eS:=λd x=>match aL d ik with
 |some g=>bL x g|none=>G
noncomputable def ff :List (Nat×Nat):= [(323,271),(461,386),(517,514),(573,535),(743,725),(830,761)]
noncomputable def kX :Nat:=83
noncomputable def gL :Key:= [109,101,115,115,97,103,101]
noncomputable def iY :Key:= [115,112,111,116]
noncomputable def iZ :Key:= [118,97,108,117,101]
noncomputable def i0 :Key:= [97,32,118,97,108,117,101,32,105,115,32,116,104,114,111,119,110]
def kY(P:List Nat)(Z t:List V):Option al:=match Nat.ble t.length P.length,Nat.ble (P.length-t.length) Z.length with
 |true,M=>bindAll [] P (t++Z.drop (Z.length-(P.length-t.length)))|_,_=>G
noncomputable def md :List (Key×V)->List V->Option (List (Key×V))
 |g,[]=>Y g|g,.tup [.str A,N]::T=>md (ih A N g) T|_,_=>G
noncomputable def isInt :V->Option Bool
 |.int _=>Y M|.bool _=>Y M|.str _=>Y E|.tup _=>Y E|_=>G
def kZ(L:O):V->Option (List V)
 |.tup xs=>match short xs with
  |true=>Y xs|false=>G
 |.ref A C=>match L.get A C with
  |some (.list xs)=>match short xs with
   |true=>Y xs|false=>G
  |_=>G
 |_=>G
def v2(L:O)(x:V):Option Nat:=match kZ L x with
 |some xs=>Y xs.length|none=>match x with
  |.ref A C=>match L.get A C with
   |some (.dict g)=>match Nat.ble g.length 1000 with
    |true=>Y g.length|false=>G
   |_=>G
  |_=>G
def v3(x:V)(L:O):Res V:=match x with
 |.ref A C=>match L.get A C with
  |some r=>match r with
   |.list xs=>match short xs with
    |true=>match md [] xs with
     |some g=>L.alloc (.dict g)|none=>.no
    |false=>.no
   |_=>.no
  |none=>.no
 |_=>.no
def v4(x:V)(L:O):Res V:=match x with
 |.ref A C=>match L.get A C with
  |some r=>match r with
   |.dict g=>match g with
    | []=>L.alloc (.list [])|_::_=>.no
   |_=>.no
  |none=>.no
 |_=>.no
def AB(m:d0)(x:V)(L:O):Res V:=match m with
 |.len=>b4 (v2 L x) λC=>.ok (.int C) L|.list=>b4 (kZ L x) λxs=>L.alloc (.list xs)|.tuple=>b4 (kZ L x) λxs=>.ok (.tup xs) L|.dict=>v3 x L|.sorted=>v4 x L|.int=>b4 (ig x) λf=>.ok (.int f) L|_=>.no
noncomputable def AC :V->Bool
 |.glob c=>match c with
  |.bi W=>match W with
   |.int=>M|_=>E
  |_=>E
 |_=>E
def AD(m:d0)(x X:V)(L:O):Res V:=match m with
 |.isinstance=>cM (AC X) (b4 (isInt x) λi=>.ok (.bool i) L)|_=>.no
def AE(m:d0)(t:List V)(L:O):Res V:=match t with
 | []=>.no|x::T=>match T with
  | []=>AB m x L|X::T=>match T with
   | []=>AD m x X L|_::_=>.no
noncomputable def Hi :FM->al->O->Res V
 |.next,_,L=>.ok .none L|.ret N,_,L=>.ok N L|_,_,_=>.no
def AF(T:be):Res V:=be.rec Hi (λA C I L=>.err A C L) .no (λa P I F=>.ask a P F) T
def sr(d:cN)(C:Nat)(f:pU)(t:List V)(L:O):Res V:=match kY f.gc f.ds t with
 |none=>.no|some Q=>AF ((ev d meths C).ss f.body Q L)
def v5(L:O):List V->Res V
 | []=>.no|N::T=>match T with
  | []=>L.alloc (.exc [(gL,.str i0),(iY,.none),(iZ,N)] E)|_::_=>.no
noncomputable def AG(T i:V)(L:O):Res V:=match i with
 |.none=>.ok T L|_=>.no
def nL(d:cN)(v n:Nat)(t:List V)(L:O):Res V:=(L.alloc (.inst v [])).bind λT L=>(d (.glob (.ref n)) (T::t) L).bind (AG T)
def nM(d:cN)(C:Nat)(t:List V)(L:O):Option (Option pU)->Res V
 |none=>.no|some r=>match r with
  |none=>.no|some f=>sr d C f t L
def Hj(d g:cN)(C v:Nat)(t:List V)(L:O):Res V:=match Nat.beq v kX with
 |true=>v5 L t|false=>match aL v ff with
  |some n=>nL g v n t L|none=>nM d C t L (aL v kW)
def v6(d g:cN)(C:Nat)(x:V)(t:List V)(L:O):Res V:=match x with
 |.glob c=>match c with
  |.bi m=>AE m t L|.ref v=>Hj d g C v t L
 |_=>.no
noncomputable def v7(q:V->List V->O->(V->O->Prop)->Prop)(F:Nat->Bool)(d:cN):cN:=λc xs L=>match c with
 |.glob f=>match f with
  |.ref v=>match F v with
   |true=>.ask ⟨c,xs,L⟩ (q c xs L) .ok|false=>d c xs L
  |.bi _=>d c xs L
 |_=>d c xs L
def c7(q:Nat->V->List V->O->(V->O->Prop)->Prop)(F:Nat->Bool)(C:Nat):Nat->cN
 |0=>λI I I=>.no|z+1=>v6 (v7 (q z) F (c7 q F C z)) (c7 q F C z) C
set_option backward.match.sparseCases true
inductive ge(P:(V->O->Prop)->Prop)(Q:V->O->Prop):Prop
 |mk (Φ:V->O->Prop) (p:P Φ) (q:∀a σ,Φ a σ->Q a σ)
def Res.to{N:Type}(T:Res N)(Φ:N->O->Prop)(D:Nat->Nat->O->Prop):Prop:=Res.rec Φ D False (λI P I F=>ge P F) T
theorem ge.mono{P:(V->O->Prop)->Prop}{a b:V->O->Prop}(j:ge P a)(A:∀v L,a v L->b v L):ge P b:=let ⟨h,Z,u⟩:=j;⟨h,Z,λv L y=>A v L (u v L y)⟩
theorem Res.bc{N e:Type}{T:Res N}{S:N->O->Res e}{h:e->O->Prop}{D:Nat->Nat->O->Prop}:(T.bind S).to h D=T.to (λv L=>(S v L).to h D) D:=by
 induction T with|ask a P K F=>exact congrArg (ge P) (funext λv=>funext λL=>F v L)|_=>rfl
theorem Res.hO{N:Type}{T:Res N}{h d:N->O->Prop}{D:Nat->Nat->O->Prop}(j:T.to h D)(A:∀v L,h v L->d v L):T.to d D:=by
 induction T with|ok v L=>exact A _ _ j|err=>exact j|no=>exact j|ask a P K F=>exact ge.mono j F
theorem dr{N:Type}{m:Bool}{T:Res N}{h:N->O->Prop}{D:Nat->Nat->O->Prop}(j:(cM m T).to h D):m=M/\T.to h D:=by
 induction m using ap with|true=>exact⟨rfl,j⟩|false=>exact j.elim
theorem cO{N e:Type}{r:Option N}{S:N->Res e}{h:e->O->Prop}{D:Nat->Nat->O->Prop}(j:(b4 r S).to h D):∃v,r=Y v/\(S v).to h D:=by
 induction r using aB with|none=>exact j.elim|some v=>exact aC v rfl j
theorem AH{N:Type}{L:O}{w:fa}{y X:V}{A:Bool->Res N}{h:N->O->Prop}{D:Nat->Nat->O->Prop}(j:(nK L w y X A).to h D):∃i,f8 L w y X=Y i/\(A i).to h D:=by
 unfold nK at j;generalize u:Ae w y X=K;induction K using ap with|false=>rw[u] at j;exact cO j|true=>rw[u] at j;obtain ⟨g,⟨i,o,b⟩,p⟩:=j;exact aC i o (p _ _ b)
theorem su{r:Option aj}{x:List V}(j:pF r=Y x):r=Y (.list x):=by
 induction r using aB with|none=>exact ag j|some r=>
  induction r using aj.casesOn with|list g=>exact U (an j) rfl|_=>exact ag j
theorem k4{y:V}{f:Int}(j:ig y=Y f):y=.int f:=by
 induction y using V.casesOn with|int k=>exact U (an j) rfl|_=>exact ag j
theorem b8{v m:Bool}(j:bg v m=M):v=M/\m=true:=by
 induction v using ap with|true=>exact⟨rfl,j⟩|false=>exact aG j
theorem k6{v:Bool}(j:cK v=M):v=false:=by
 induction v using ap with|true=>exact aG j|false=>rfl
theorem me{N:Type}{g:List N}(j:kV g=M):g= []:=by
 induction g using aS with|nil=>rfl|cons=>exact aG j
theorem pW{N:Type}{L:O}{r:Option N}{h:N->O->Prop}{D:Nat->Nat->O->Prop}(j:(iO L r).to h D):∃v,r=Y v/\h v L:=by
 induction r using aB with|none=>exact j.elim|some v=>exact aC v rfl j
def a8(a:a4)(k:aF):Prop:=∀x f A,bt x=Y f->aL f a=Y A->match A with
 |.local=>k.kindOf x=Y .local|.cell=>k.kindOf x=Y .cell/\(k.cells.lookup x).isSome=M|.free=>l2 (k.kindOf x)|.globalImplicit=>k.kindOf x=Y .globalImplicit|.globalExplicit=>True
def AI(B:aa):Prop:=∀x f e,bt x=Y f->aL f fJ=Y e->∃N,aq (λI I=>G) B.base e N/\(B.hF x=Y N\/(B.hF x=.none/\B.lY x=Y N))
def AJ(B:aa):Prop:=∀v g,kP v=Y g->∃S:List (am×J),B.base.DictOf (strKind B.prog B.w) v S/\S.map (λx=>ay x.1)=g.map (·.1)/\aE (λI I=>G) B.base (g.map (·.2)) (S.map (·.2))/\(v==f3)=E
def AK(B:aa):Prop:=∀(d:Nat) (x:am),attrOk d (ay x)=M->(d≠83->pw B d)/\(d=83->B.X=83/\c2 B.K (.ref 83) "__getattribute__"=Y (Y (.builtin "BaseException.__getattribute__"))/\c2 B.K (.ref 83) "__getattr__"=Y G/\mroIn B.K 83 (.type "BaseException")=Y M/\(ic B.K 83).any (·.hasDict)=M)/\c2 B.K (.ref d) x=Y G
structure aa.Fine(c:aa):Prop extends c.Ok where
 cl:AK c
 fJ:AI c
 gM:(c.base.get? f3).isSome=M
 pX:AJ c
structure ROk(c:aa)(f:Nat)(R:Rec):Prop where
 bad:∀lm σ,R.e .bad lm σ=.no
 e:∀{d ks e env lm σ Φ Ψ},a8 ks env->(R.e (az d ks e) lm σ).to Φ Ψ->bq c f env lm σ e Φ Ψ
 bw:∀{d ks bw env lm σ pos Φ Ψ},a8 ks env->(R.bw (bw.map (az d ks)) lm σ).to Φ Ψ->jE c f env lm σ pos bw Φ Ψ
 t:∀{d ks e env lm σ Φ Ψ},a8 ks env->(R.t (az d ks e) lm σ).to Φ Ψ->hH c f env lm σ e Φ Ψ
 a:∀{d ks op bw env lm σ Φ Ψ},a8 ks env->(R.a op (bw.map (az d ks)) lm σ).to Φ Ψ->nx c f env lm σ op bw Φ Ψ
 b:∀{d ks op bw env lm σ pos Φ Ψ},a8 ks env->(R.b op (bw.map (az d ks)) lm σ).to Φ Ψ->ny c f env lm σ pos op bw Φ Ψ
section
variable{B:aa}{S:Nat}{R:Rec}{F:a4}{k:aF}{Q:al}{L:O}{D:Nat->Nat->O->Prop}
theorem AL(K:ROk B S R){N:Type}{h:N->O->Prop}{c:V->O->Res N}(j:((R.e .bad Q L).bind c).to h D):False:=by rw[K.bad] at j;exact j
theorem Hk(W:Nat)(F:a4)(o:ah)(j:notStar o=E):az W F o=.bad:=by
 induction W using Nat.casesOn with|zero=>rfl|succ W=>induction o using bE <;>first|rfl|exact cS j
theorem Hl(K:ROk B S R){W:Nat}{n:List ah}{z:aN}{h:List V->O->Prop}(g:a8 F k)(j:(Af R (n.map (az W F)) Q L).to h D):jE B S k Q L z n h D:=by
 induction n using aS with|nil=>exact pl j|cons o n=>
  replace j:((R.e (az W F o) Q L).bind λy L=>(R.bw (n.map (az W F)) Q L).bind λx L=>.ok (y::x) L).to h D:=j;generalize P:notStar o=p;induction p using ap with|false=>rw[Hk _ _ _ P] at j;exact(AL K j).elim|true=>rw[Res.bc] at j;refine nn P (ae.q (K.e g j) (λy a A=>?_));rw[Res.bc] at A;exact K.bw g A
theorem v8{L:O}{y:V}{h:Bool->O->Prop}(j:(kQ L y).to h D):∃m,y=.bool m/\h m L:=by induction y using V.casesOn <;>first|exact(aC _ rfl j)|exact j.elim
noncomputable def testM :aK->Bool
 |.not _=>M|.r5 _ _=>M|.cmp _ _ _=>M|.r6 _ _ _ _ _=>M|.pD _ _ _=>M|_=>E
theorem AM{m:Bool}{z:aK}(j:testM z=E):testM (sk m z)=false:=by
 induction m using ap with|true=>exact j|false=>rfl
theorem AN{N:Type}{r:Option N}{S:N->aK}(j:∀v,testM (S v)=E):testM (sj r S)=false:=by
 induction r using aB with|none=>rfl|some v=>exact j v
theorem test_name{y:am}:testM (pP F y)=false:=by
 unfold pP;generalize bt y=aw;induction aw using aB with|none=>rfl|some f=>
  dsimp only;generalize aL f F=A;induction A using aB with|none=>rfl|some A=>induction A using eU with|globalImplicit=>dsimp only;generalize aL f fJ=v;induction v using aB <;>rfl|_=>rfl
theorem Hm{bM:List (Option ah)}{e:List aK}:testM (pQ bM e)=false:=by
 unfold pQ;generalize iV bM=aw;induction aw using aB with|none=>rfl|some g=>dsimp only;generalize Nat.beq g.length e.length=b;induction b using ap <;>rfl
theorem Hn{m:Bool}{z:aK}(j:testM z=E):testM (match m with|true=>z|false=>.bad)=false:=by
 induction m using ap with|true=>exact j|false=>rfl
theorem Ho{c:ah->aK}{r:ah}{v:Key}{n:List ah}:testM (pS c r v n)=false:=by unfold pS;generalize a0 v fI=b;generalize si n=z;induction b using ap <;>induction z using aB <;>rfl
theorem Hp{c:ah->aK}{d:ah}{n:List ah}{z:aN}:testM (kT c d n z)=false:=by
 induction d using bE with
 |Attribute r v f=>unfold kT;dsimp only;generalize gK r=pY;generalize Nat.beq f.endLine z.line=pZ;generalize Nat.blt n.length 30=v9;generalize dN n=wa;induction pY using ap <;>induction pZ using ap <;>induction v9 using ap <;>induction wa using ap <;>first|rfl|exact Ho
 |_=>exact Hn rfl
theorem Hq{W:Nat}{o:ah}(j:vn o=M):testM (az W F o)=false:=by
 induction W using Nat.casesOn with|zero=>rfl|succ W=>
  induction o using bE with
  |UnaryOp w y z=>induction w using vo <;>first|rfl|exact aG j
  |BoolOp=>exact aG j|IfExp=>exact aG j|Compare=>exact aG j|Constant X A z=>clear j;induction X using wb <;>rfl|Name y z=>exact test_name|Dict bM e z=>exact Hm|Subscript N f z=>clear j;induction f using bE <;>rfl|Call d t g z=>
   clear j;induction g using aS with|cons=>rfl|nil=>exact Hp
  |Attribute N v z=>show testM (match gK N with|true=>.bad|false=>.attr (az W F N) (ay v))=E;generalize (gK N)=K;induction K using ap <;>rfl|ListComp c u r z=>
   show testM (match jP F r with|true=>vY _ _ _ _ u|false=>.bad)=E
   generalize (jP F r)=K;induction K using ap with|false=>rfl|true=>
    induction u using aS with|nil=>rfl|cons a T=>exact AM (AN λH=>by
     clear j;induction T using aS with|nil=>rfl|cons h T=>exact AM (AN λI=>rfl))
  |_=>rfl
theorem Hr(R:Rec){z:aK}(j:testM z=E)(Q:al)(L:O):stepT R z Q L=(R.e z Q L).bind λy L=>kQ L y:=by induction z using aK.casesOn <;>first|rfl|exact cS j
theorem Hs{L:O}{w:fa}{y X:V}{i:Bool}(o:f8 L w y X=Y i):iL L w y X=Y i\/∃v l g,w=.In/\X=.glob (.ref v)/\y=.str l/\kP v=Y g/\i=(match bL l g with|some _=>M|none=>E):=by
 induction X using V.casesOn with
 |glob c=>induction c using e8.casesOn with
  |ref v=>induction w using Gf with
   |In=>induction y using V.casesOn with
    |str l=>
     unfold f8 at o;dsimp only at o;generalize j:kP v=aw at o;induction aw using aB with|none=>exact ag o|some g=>exact .inr (fY v l g rfl rfl rfl ⟨j,(an o).symm⟩)
    |_=>exact ag o
   |_=>exact ag o
  |_=>exact .inl o
 |_=>exact .inl o
theorem AO{W:Inv B}(ok:B.Fine){y X:V}{v m:J}{C:fa}{i:Bool}{h:V->O->Prop}(o:f8 L C y X=Y i)(q:∀H j,W.p H j->aq H j y v)(c:∀H j,W.p H j->aq H j X m)(j:h (.bool i) L):ae B S W L (ps C v m) bh h D:=by
 rcases Hs o with o|⟨ad,TX,g,rfl,rfl,rfl,R,rfl⟩
 ·exact vl ok.gM o q c j
 ·refine zJ j λTS H bG TV Un UO Uq P f u=>?_;obtain ⟨x,d,rfl,rfl⟩:=q _ _ f;cases c _ _ f;refine fV (ok.pX _ _ R) λs hd e z b=>ak (pq (A:=x) e z) λI l=>?_;have F:(strKind B.prog B.w).is x (.str x d)=true:=by show eH x (.str x d)=M;simp[eH]
  have k:(nu s x).isSome=(match bL (ay x) g with|some _=>M|none=>E):=by
   generalize t:bL (ay x) g=K;induction K using aB with|none=>refine U (l t) ?_;rfl|some Z=>refine au (I Z t) λN z TZ=>U z ?_;rfl
  refine g7 hd λr n T Q A=>?_;clear hd;have a:bG.heap.DictOf (strKind B.prog B.w) ad s:=gC r n T (P.stays _ _ Q) A;exact wpAny_in_of (k:=x) (knd:=strKind B.prog B.w) F b a.mapOf (by refine U k ?_;exact u _)
theorem wc{w:fa}{T:ah}(j:isSet T=E):rX w T=false:=by induction T using bE <;>first|rfl|exact cS j
theorem sv{T:ah}{R:List ah}(j:jO (T::R)=M):isSet T=E/\jO R=true:=by
 unfold jO at j;generalize u:isSet T=K at j;induction K using ap with|true=>exact aG j|false=>exact⟨rfl,j⟩
theorem Ht(ok:B.Fine){g T:ah}{w:fa}{z:aN}{h:V->O->Prop}(t:rX w T=E)
  (j:bq B S k Q L g (λy a=>bq B S k Q a T (λX N=>∃i,f8 N w y X=Y i/\h (.bool i) N) D) D):bq B S k Q L (.Compare g [w] [T] z) h D:=by
 show ae B S _ L (aX (.Compare g [w] [T] z) k) _ _ _;rw[eval_Compare1];refine U (Hu t) ?_;refine ae.bind (ae.q j (λy a A=>?_));intro v;refine ae.bind (ae.holding (ae.weak (ae.q A (λX N p=>?_)) and_left));intro m;exact au p λi P p=>ae.standAt (rT (AO ok P (λI I f=>f.1.2) (λI I f=>f.2) p))
theorem Hv(ok:B.Fine){g T:ah}{w:fa}{z:aN}{h:Bool->O->Prop}(t:rX w T=E)
  (j:bq B S k Q L g (λy a=>bq B S k Q a T (λX N=>∃i,f8 N w y X=Y i/\h i N) D) D):hH B S k Q L (.Compare g [w] [T] z) h D:=by
 show ae B S _ L (gH (.Compare g [w] [T] z) k (aX (.Compare g [w] [T] z) k)) _ _ _;rw[isTrue_Compare1];refine U (Hu t) ?_;refine ae.bind (ae.q j (λy a A=>?_));intro v;refine ae.bind (ae.holding (ae.weak (ae.q A (λX N p=>?_)) and_left));intro m;refine au p λi P p=>ae.standAt (ae.iM (R:=bh) (.bool i) N ?_ λW=>?_)
 ·exact rT (AO ok P (λI I f=>f.1.2) (λI I f=>f.2) ⟨rfl,rfl⟩)
 ·exact ae.holding (pt rfl (λI I f=>f.2) p)
theorem wd(K:ROk B S R){h:Bool->O->Prop}(j:(stepT R .bad Q L).to h D):False:=AL K (c:=λy L=>kQ L y) j
theorem Hw(ok:B.Fine)(K:ROk B S R){W:Nat}{o:ah}{h:Bool->O->Prop}(x:a8 F k)(j:(stepT R (az W F o) Q L).to h D):hH B S k Q L o h D:=by
 generalize z:vn o=p;induction p using ap with|true=>rw[Hr _ (Hq z),Res.bc] at j;exact Gj z (ae.q (K.e x j) (λy l A=>v8 A))|false=>
  induction W using Nat.casesOn with|zero=>exact(wd K j).elim|succ W=>
   induction o using bE with
   |UnaryOp w y Z=>
    induction w using vo with|Not=>replace j:((R.t (az W F y) Q L).bind λm L=>.ok (cK m) L).to h D:=j;rw[Res.bc] at j;exact Gi (K.t x j)|_=>exact cS z
   |BoolOp w n Z=>exact Gm (K.a x j)|IfExp d v m Z=>exact j.elim|Compare g H c Z=>
    replace j:(stepT R (match jO c with|true=>vS (az W F g) H (c.map (az W F))|false=>.bad) Q L).to h D:=j
    generalize P:jO c=p;induction p using ap with|false=>rw[P] at j;exact(wd K j).elim|true=>
     rw[P] at j;rcases H with _|⟨r,_|⟨N,_|⟨Ud,os⟩⟩⟩ <;>rcases c with _|⟨T,_|⟨f,_|⟨T1,c⟩⟩⟩ <;>first|exact(wd K j).elim|skip
     ·replace j:((R.e (az W F g) Q L).bind λy L=>(R.e (az W F T) Q L).bind λX L=>nK L r y X λi=>.ok i L).to h D:=j;rw[Res.bc] at j;refine Hv ok (wc (sv P).1) (ae.q (K.e x j) (λy l A=>?_));rw[Res.bc] at A;exact ae.q (K.e x A) (λX b C=>AH C)
     ·have j:((R.e (az W F g) Q L).bind λy L=>(R.e (az W F T) Q L).bind λX L=>match iL L r y X with
       |some M=>(R.e (az W F f) Q L).bind λi L=>iO L (iL L N X i)|some E=>.ok E L|G=>.no).to h D:=j
      rw[Res.bc] at j;refine Gh ok.gM (wc (sv (sv P).2).1) (ae.q (K.e x j) (λy l A=>?_));rw[Res.bc] at A;refine ae.q (K.e x A) (λX b C=>?_);generalize s:iL b r y X=p at C;induction p using aB with|none=>exact C.elim|some i=>
       clear s;induction i using ap with|false=>exact cW E rfl (λI=>C) (λu=>(aG u))|true=>refine cW M rfl (λu=>(cS u)) (λI=>?_);rw[Res.bc] at C;exact ae.q (K.e x C) (λX b C=>pW C)
   |_=>exact cS z
end
section
variable{B:aa}{S:Nat}{w:Inv B}{L:O}{D:Nat->Nat->O->Prop}{N e:Type}{R:Rel B e N}
theorem ae.eqv{d:aZ N}{h:e->O->Prop}(j:ae B S w L d R (λm n=>∃a,h m a/\∀A f,a.get A f=n.get A f) D):ae B S w L d R h D:=λs b H l T F P f c=>
 b3 (j s b H l T F P f c) (λI I p=>(by obtain ⟨m,n,K,⟨a,y,o⟩,X,i⟩:=p;exact⟨m,a,K,y,X,i.post.congr o,i.same⟩))
theorem nN{r:aj}{h:V->O->Prop}(j:(L.alloc r).to h D):L.get L.bf L.n=G/\(L.bf=0->L.n<2^24)/\h (.ref L.bf L.n) {L.set L.bf L.n (Y r) with n:=L.n+1}:=by
 unfold O.alloc at j;generalize u:L.get L.bf L.n=K;induction K using aB with|some _=>rw[u] at j;exact j.elim|none=>
  rw[u] at j;dsimp only at j;generalize m:Nat.blt L.n 16777216=K;induction K using ap with|false=>rw[m] at j;exact j.elim|true=>rw[m] at j;exact aQ rfl (λI=>fb.mp m) j
theorem we(L:O)(z:Nat)(A f:Nat):({L with n:=z}:O).get A f=L.get A f:=by induction A using Nat.casesOn <;>rfl
theorem nO{d:aZ J}{r:aj}{h:V->O->Prop}(j:(L.alloc r).to h D)(t:L.get L.bf L.n=G->(L.bf=0->L.n<2^24)->ae B S w L d bh (λy X=>y=.ref L.bf L.n/\X=L.set L.bf L.n (Y r)) D):ae B S w L d bh h D:=by refine br (nN j) λb p x=>ae.eqv (ae.q (t b p) (λy X F=>ak F λz g=>?_));clear F;subst z g;exact aC _ x (λA f=>we _ _ _ _)
theorem il{x:List V}(j:short x=M):x.length<=1000:=Nat.le_of_ble_eq_true j
theorem AP{H:ax}{l:ai}{A C:Nat}{x:List V}{e:List J}(P:Rep B H L l.heap)(T:aE H l.heap x e)(X:L.get A C=G)(m:A=0->C<2^24):
  aR B H l.heap (bD H A C (l.heap.objs.size,l.heap.objs.size)) (L.set A C (Y (.list x))) (l.heap.push {cls:=.type "list",data:=.seq e.toArray}):=
 aR.alloc P (b6 _) (push_size _) X m (Nat.le_refl _) (Nat.le_refl _) λK c n=>
  ⟨rfl,e.toArray,⟨0,ct _ rfl⟩,aE.ba c n x (T)⟩
theorem sw{H:ax}{A C:Nat}{Z:af×af}:bD H A C Z A C=Y Z:=by unfold bD;exact U (if_pos ⟨rfl,rfl⟩) rfl
theorem sx{v:Int}(j:l9 v=M):v.natAbs<2^63:=by
 induction v using kE with|ofNat C=>exact fb.mp j|negSucc C=>have:=fb.mp j;show C+1<_;lia
theorem AQ(y X:am):ay (y++X)=ay y++ay X:=by show(y.cps++X.cps).toList=_;refine U zE ?_;rfl
theorem Hx{y X:V}{v m:J}{A C d K:Nat}{h:V->O->Prop}(o:(z6 L (L.get A C) (L.get d K)).to h D)(k:∀H j,w.p H j->aq H j (.ref A C) v)(Un:∀H j,w.p H j->aq H j (.ref d K) m):ae B S w L (nq .Add v m) bh h D:=by
 refine au (cO o) λTS b o=>au (cO o) λUD R o=>ak (dr o) λr o=>?_;replace b:=su b;replace R:=su R;refine nO o λUC e=>λTV TU H l Uo F q f Uu=>?_;obtain ⟨Z,T,rfl⟩:=k _ _ f;obtain ⟨z,TX,rfl⟩:=Un _ _ f;obtain ⟨_,I,⟨N,t⟩,a⟩:=q.obj _ _ _ _ T b;obtain ⟨_,Q,⟨x,g⟩,s⟩:=q.obj _ _ _ _ TX R;have c:=il r;have i:=a.length;have W:=s.length;rw[eQ] at i W;rw[fL] at c;have u:=a.append s;have P:=AP (B:=B) q u UC e;refine zD (aC _ t rfl) (aC _ g rfl) noFill_list_add seq_list_add PySem.F.slot_list_add PySem.F.entry_list_add (PySem.F.args_list_add_2 _ _) (list_addW Z.1 z.1 I Q N x G G #[] #[] (by refine U cT ?_;lia)) (aQ t g ?_)
 rw[show(I.toList++Q.toList).toArray=I++Q by simp] at P
 exact⟨.ref L.bf L.n,_,bD H L.bf L.n (l.heap.objs.size,l.heap.objs.size),⟨rfl,rfl⟩,⟨_,sw,rfl⟩,P,rfl,rfl⟩
theorem Hy{y X:Key}{v m:J}{h:V->O->Prop}(g:Nat.ble (y++X).length 1000=M)(o:h (.str (y++X)) L)(k:∀H j,w.p H j->aq H j (.str y) v)(C:∀H j,w.p H j->aq H j (.str X) m):ae B S w L (nq .Add v m) bh h D:=λs b H l Z F q f e=>by
 replace g:=Nat.le_of_ble_eq_true g;obtain ⟨y,d,rfl,rfl⟩:=k _ _ f;obtain ⟨X,Q,rfl,rfl⟩:=C _ _ f;refine PySem.P.add_str ?_;have r:∀(N:J) (A:Nat),zh (ay y++ay X) N->ef (c:=B) bh h H l N {l with toks:=A}:=λN A z=>⟨_,L,H,o,z,cY q⟩
 have nil:∀{i:am},(i.length==0)=M->ay i= []:=λ{i} j=>zC (by refine U (show(ay i).length=i.length from eQ) ?_;exact beq_iff_eq.mp j)
 by_cases a:(y.length==0)=M
 ·exact U (if_pos a) (r _ _ ⟨_,_,rfl,by refine U (nil a) ?_;rfl⟩)
 ·refine U (if_neg a) ?_;by_cases K:(X.length==0)=M
  ·exact U (if_pos K) (r _ _ ⟨_,_,rfl,by refine U (nil K) ?_;rw[iK]⟩)
  ·refine U (if_neg K) (⟨?_,r _ _ ⟨_,_,rfl,AQ _ _⟩⟩);refine U (show(y++X).length=(ay (y++X)).length from eQ.symm) ?_;rw[AQ];refine U cT ?_;lia
theorem Hz{y X:V}{v m:J}{N:l3}{h:V->O->Prop}(o:(sa L N y X).to h D)(q:∀H j,w.p H j->aq H j y v)(W:∀H j,w.p H j->aq H j X m):ae B S w L (nq N v m) bh h D:=by
 unfold sa at o;generalize u:vf N y X=K;induction K using aB with|some TR=>rw[u] at o;exact Gb u q W o|none=>
  rw[u] at o;replace o:(z7 L N y X).to h D:=o;induction N using Gc with
  |Add=>
   induction y using V.casesOn with
   |ref A UJ=>
    clear u;induction X using V.casesOn with|ref e Uo=>exact Hx (y:=.none) (X:=.none) o q W|_=>exact o.elim
   |str A=>
    clear u;induction X using V.casesOn with|str e=>exact ak (dr o) λZ o=>Hy Z o q W|_=>exact o.elim
   |_=>exact o.elim
  |Mult=>refine au (cO o) λf b t=>au (cO t) λk R g=>ak (dr g) λT z=>?_;replace b:=k4 b;replace R:=k4 R;subst b R;refine λs a H l I F P f c=>aD (q _ _ f) λd Q=>?_;clear q;subst Q;refine aD (W _ _ f) λn Q=>?_;clear W;subst Q;replace T:=sx T;exact TB ⟨_,L,H,z,⟨_,rfl⟩,cY P⟩ (.of_right (intBits_le_64 (by lia) (by lia)))|FloorDiv=>
   refine au (cO o) λf b t=>au (cO t) λk R g=>ak (dr g) λT z=>ak (dr z) λr C=>?_;replace b:=k4 b;replace R:=k4 R;subst b R;refine λs a H l I F P f c=>aD (q _ _ f) λd Q=>?_;clear q;subst Q;refine aD (W _ _ f) λn Q=>?_;clear W;subst Q;have i:k≠0:=by have T:=k6 T;rw[jC] at T;exact beq_eq_false_iff_ne.mp T
   refine TC i ⟨_,L,H,C,⟨_,rfl⟩,cY P⟩ (.inl (PyProof.noPylong_of_log2 ?_));have b:=sx r;have:=(Nat.log2_lt (n:=k.natAbs) (k:=63) (by lia)).mpr b
   lia
  |Pow=>
   refine au (cO o) λf b t=>au (cO t) λk R g=>au (cO g) λT6 x z=>ak (dr z) λT C=>ak (dr C) λr TY=>?_;replace b:=k4 b;replace R:=k4 R;subst b R;clear o u t g;induction k using kE with|negSucc=>exact ag x|ofNat k=>replace x:=an x;clear C z;subst x;refine λs a H l I F P f c=>aD (q _ _ f) λd Q=>?_;clear q;subst Q;refine aD (W _ _ f) λn Q=>?_;clear W;subst Q;have R:=Nat.le_of_ble_eq_true r;exact pow_int_small (r0 _) (by show(k:Int)<=_;lia) (by have:=sx T;lia) ⟨_,L,H,TY,⟨_,rfl⟩,cY P⟩
  |_=>exact o.elim
end
theorem HA(r:J):bindSpecial (.builtin "BaseException.__getattribute__") r=pure (.builtin "BaseException.__getattribute__",[r]):=by kernel_rfl
theorem HB :plainId "BaseException.__getattribute__"=true:=by decide+kernel
section
variable{H:e9}{t:cf}{s:aY}{n:J->ai->Prop}{l:ai}{K:Frag}{y x:af}{v:bA}{q:Option bA}{Q:am}{o:Bool}{a:J->ai->Prop}
theorem wf{N:J}(X:K.In l.heap)(w:InstAt l.heap y v x q)(r:c2 K (.ref x) "__getattribute__"=Y (Y (.builtin "BaseException.__getattribute__")))(A:c2 K (.ref x) "__getattr__"=Y G)
  (T:mroIn K x (.type "BaseException")=Y M)(e:r3 K x q Q=Y (.value N))(z:handedIn N=M)(j:a N {l with toks:=l.toks+1}):ao (aA H t) s (pA (.ref y) Q o) a n l:=by
 obtain ⟨S,c,W,d,os⟩:=l;have k:=w.type (M:=aA H t);have I:=p0 (M:=aA H t) X r;have u:=p0 (M:=aA H t) X A;have h:=looks_find (M:=aA H t) X w e;have bj:p1 (aA H t) S (isSubtype (.ref x) (.type "BaseException")) true:=looks_mroIn X T;refine ab (kJ (ck (ab (k.at (ab (I.at ?_))))));have C:(AR (bZ x)&&jR "BaseException.__getattribute__"==jR "object.__getattribute__")=false:=by refine U (show(jR "BaseException.__getattribute__"==jR "object.__getattribute__")=E from by decide+kernel) ?_;rw[vD]
 show ao _ _ (if(AR (bZ x)&&jR "BaseException.__getattribute__"==jR "object.__getattribute__")=M then _ else getAttrByItsOwn (.ref y) (.str Q d) (.ref x) (.builtin "BaseException.__getattribute__") M o) _ _ _
 refine U C (ab (show ao _ _ (nP (.ref x) "__getattr__") _ _ _ from u.at (ab (wg (ck ?_)))));have B:(o&&AR (jR "BaseException.__getattribute__"))=false:=by induction o using ap <;>rfl
 unfold callGetattribute;refine U B ?_;show ao _ _ (HC _ _ _) _ _ _;unfold HC;rw[HA];refine ab (aH (mf (sy HB PySem.F.entry_bexc_ga ?_)));have m:builtinKind "BaseException.__getattribute__"=Y .slot:=by decide+kernel
 have D:splitId "BaseException.__getattribute__"=Y ("BaseException","__getattribute__"):=by decide+kernel
 have f:=PySem.F.args_bexc_ga (.ref y) (.str Q d);have L:∀{g:aY} {i:J->ai->Prop} {b:Unit->ai->Prop},b () ⟨S,c,W,d+1,os⟩->ao (aA H t) g (p2 "BaseException.__getattribute__" ⟨[.ref y,.str Q d],[]⟩) b i ⟨S,c,W,d+1,os⟩:=λ{g i b} p=>by
  dsimp only[p2,m,D];refine ab (ab (k.at (bj.at ?_)))
  repeat (any_goals(first|assumption|wp_step))
 refine L (ab (aH (ab (aH (ab (k.at (ab (h.at (aH ?_)))))))));show ao _ _ (handedOut N) _ _ _;exact U (handedOut_of z) (aH j)
end
section
variable{B:aa}{S:Nat}{H:cN}{c:eS}{R:Rec}{a:a4}{k:aF}{Q:al}{L:O}{h:V->O->Prop}{D:Nat->Nat->O->Prop}
theorem HD{X:Const}{A:Nat}{z:aN}(j:(dc H c R (Ao X) Q L).to h D):bq B S k Q L (.Constant X A z) h D:=by
 induction X using wb with|none=>exact FX j|bool m=>exact FW j|int f=>exact FT j|str y=>exact FU j|bytes m=>exact FV j|_=>exact j.elim
theorem HE(ok:B.Fine)(g:a8 a k){y:am}{z:aN}(j:(dc H c R (pP a y) Q L).to h D):bq B S k Q L (.Name y z) h D:=by
 unfold pP at j;refine hd λT W=>?_;generalize b:bt y=K;induction K using aB with|none=>rw[b] at j;exact j.elim|some f=>
  replace j:=b▸j;dsimp only at j;generalize m:aL f a=K;induction K using aB with|none=>rw[m] at j;exact j.elim|some A=>
   rw[m] at j;have d:=g y f A b m;have loc:l2 (k.kindOf y)->(dc H c R (.var f) Q L).to h D->bq B S k Q L (.Name y z) h D:=λr j=>by exact au (pW j) λe t j=>FY b r t j
   induction A using eU with|«local»=>exact W (loc (.inl d) j)|cell=>exact W (loc (.inr (.inl d.1)) j)|free=>exact W (loc d j)|globalExplicit=>exact j.elim|globalImplicit=>
    dsimp only at j;generalize p:aL f fJ=K at j;induction K using aB with|none=>exact j.elim|some e=>exact au (ok.fJ y f e b p) λN C i=>W (FZ ok.toOk d C i j)
theorem HF(K:ROk B S R)(g:a8 a k){W A:Nat}{n:List ah}{z:aN}(j:(dc H c R (.tup (n.map (az W a))) Q L).to h D):bq B S k Q L (.Tuple n A z) h D:=by replace j:((R.bw (n.map (az W a)) Q L).bind λx L=>cM (short x) (.ok (.tup x) L)).to h D:=j;rw[Res.bc] at j;exact F2 (ae.q (K.bw g j) (λx l T=>ak (dr T) λu j=>⟨il u,j⟩))
theorem HG(K:ROk B S R)(g:a8 a k){W:Nat}{n:List ah}{z:aN}(j:(dc H c R (.list (n.map (az W a))) Q L).to h D):bq B S k Q L (.List n z) h D:=by replace j:((R.bw (n.map (az W a)) Q L).bind λx L=>cM (short x) (L.alloc (.list x))).to h D:=j;rw[Res.bc] at j;exact ae.eqv (F3 (ae.q (K.bw g j) (λx l T=>ak (dr T) λu p=>br (nN p) λs e v=>max (il u) _ ⟨_,s,e,_,v,λA f=>we _ _ _ _⟩)))
theorem HH(K:ROk B S R)(x:a8 a k){W:Nat}{g T:ah}{w:l3}{z:aN}(j:(dc H c R (.bin w (az W a g) (az W a T)) Q L).to h D):bq B S k Q L (.BinOp g w T z) h D:=by replace j:((R.e (az W a g) Q L).bind λy L=>(R.e (az W a T) Q L).bind λX L=>sa L w y X).to h D:=j;rw[Res.bc] at j;refine F4 (ae.q (K.e x j) (λy l A=>?_));rw[Res.bc] at A;refine ae.q (K.e x A) (λX N p=>?_);intro v m;exact Hz p (λI I f=>f.1.2) (λI I f=>f.2)
theorem HI(K:ROk B S R)(g:a8 a k){W:Nat}{y:ah}{w:UnaryOp}{z:aN}(j:(dc H c R (Ar w (az W a y)) Q L).to h D):bq B S k Q L (.UnaryOp w y z) h D:=by
 induction w using vo with|Not=>replace j:((R.e (az W a y) Q L).bind λy L=>(kQ L y).bind λm L=>.ok (.bool (cK m)) L).to h D:=j;rw[Res.bc] at j;refine Gq (ae.q (K.e g j) (λy l A=>?_));rw[Res.bc] at A;exact v8 A|USub=>replace j:((R.e (az W a y) Q L).bind λy L=>b4 (ig y) λf=>.ok (.int (-f)) L).to h D:=j;rw[Res.bc] at j;exact Gr (ae.q (K.e g j) (λy l A=>au (cO A) λf u j=>(aC f (k4 u) j)))|_=>exact j.elim
theorem HJ(K:ROk B S R)(g:a8 a k){W:Nat}{d v m:ah}{z:aN}(j:(dc H c R (.pD (az W a d) (az W a v) (az W a m)) Q L).to h D):bq B S k Q L (.IfExp d v m z) h D:=by
 replace j:((R.t (az W a d) Q L).bind λX L=>match X with|true=>R.e (az W a v) Q L|false=>R.e (az W a m) Q L).to h D:=j
 rw[Res.bc] at j;refine zM (ae.q (K.t g j) (λu l A=>?_));induction u using ap with|true=>exact K.e g A|false=>exact K.e g A
theorem HK(ok:B.Fine)(K:ROk B S R)(x:a8 a k){W:Nat}{g:ah}{s:List fa}{t:List ah}{z:aN}
  (j:(dc H c R (match jO t with|true=>vS (az W a g) s (t.map (az W a))|false=>.bad) Q L).to h D):bq B S k Q L (.Compare g s t z) h D:=by
 generalize d:jO t=p at j;induction p using ap with|false=>exact j.elim|true=>rcases s with _|⟨r,_|⟨P,_|⟨b,os⟩⟩⟩ <;>rcases t with _|⟨T,_|⟨n,_|⟨m,t⟩⟩⟩ <;>first|exact j.elim|skip;replace j:((R.e (az W a g) Q L).bind λy L=>(R.e (az W a T) Q L).bind λX L=>nK L r y X λi=>.ok (.bool i) L).to h D:=j;rw[Res.bc] at j;refine Ht ok (wc (sv d).1) (ae.q (K.e x j) (λy l A=>?_));rw[Res.bc] at A;exact ae.q (K.e x A) (λX N C=>AH C)
theorem wh{y:Key}{g:List (Key×V)}{X:V}(o:kO y g=Y X):bL y g=Y X/\py X=true:=by
 unfold kO at o;generalize u:bL y g=K;induction K using aB with|none=>rw[u] at o;exact ag o|some N=>
  rw[u] at o;dsimp only at o;generalize t:py N=K at o;induction K using ap with|false=>exact ag o|true=>obtain rfl:=an o;exact⟨rfl,t⟩
theorem HL{TW:Inv B}(ok:B.Fine){y X:V}{N:J}{Q:am}(o:gJ L y (ay Q)=Y X)(q:∀H j,TW.p H j->aq H j y N)(j:h X L):ae B S TW L (pA N Q M) bh h D:=by
 refine hd λUD v=>?_;induction y using V.casesOn with
 |ref A C=>
  unfold gJ at o;dsimp only at o;generalize a:L.get A C=r at o;induction r using aB with|none=>exact ag o|some r=>induction r using aj.casesOn with
   |inst x g=>
    dsimp only at o;generalize u:attrOk x (ay Q)=K;induction K using ap with|false=>rw[u] at o;exact ag o|true=>
     rw[u] at o;refine ak (wh o) λt k=>br (ok.cl x Q u) λUG T1 d=>?_;by_cases c:x=83
     ·subst c;refine fW ((ok.cl 83 Q u).2.1 rfl) λT1 TY I l hd=>v (λTR T6 H T2 Uo F P f TU=>?_);obtain ⟨Z,T,rfl⟩:=q _ _ f;have T3:=P.obj _ _ _ _ T a;refine dZ (vA T T3) λn z TV R=>au ((px (Q:=Q) (C:=z) R).1 _ t) λN i m=>au (r2 hd) λs b w=>wf (N:=N) (ok.dR.keeps P.stays) TV TY I l ?_ (r1 k m) ⟨X,L,H,j,m,cY P⟩;unfold r3;refine U b (U d ?_);have e:W.ownOf s (Y (cX n z)) Q=Y (Y N):=by unfold W.ownOf;exact U w (U (if_pos rfl) i)
      show((W.ownOf s (Y (cX n z)) Q).bind λown=>_)=_;refine U e ?_;rfl
     ·refine v (GF ok.toOk (y:=.ref A C) (X:=X) (x:=x) ?_ (UG c) d ?_ k q j)
      ·show(match L.get A C with|some (.inst x _)=>Y x|_=>G)=_
       exact U a rfl
      ·show(match L.get A C with|some (.inst _ g)=>bL (ay Q) g|_=>G)=_
       exact U a t
   |exc g TZ=>
    dsimp only at o;generalize u:attrOk 83 (ay Q)=K;induction K using ap with|false=>rw[u] at o;exact ag o|true=>
     rw[u] at o;refine ak (wh o) λt k=>br (ok.cl 83 Q u) λT1 c d=>fW (c rfl) λT4 TY I l hd=>v (λTR T6 H T2 Uo F P f TU=>?_);obtain ⟨Z,T,rfl⟩:=q _ _ f;obtain ⟨n,z,T0,TS,TX,R,_⟩:=P.obj _ _ _ _ T a;rw[T4] at TS;have TV:InstAt T2.heap Z.1 ⟨.ref 83,Y Z.2,.fields T0,#[]⟩ 83 (Y (cX n z)):=⟨TS,rfl,rfl,TX⟩;refine au ((px (Q:=Q) (C:=z) R).1 _ t) λN i m=>au (r2 hd) λs b w=>wf (N:=N) (ok.dR.keeps P.stays) TV TY I l ?_ (r1 k m) ⟨X,L,H,j,m,cY P⟩;unfold r3;refine U b (U d ?_);have e:W.ownOf s (Y (cX n z)) Q=Y (Y N):=by unfold W.ownOf;exact U w (U (if_pos rfl) i)
     show((W.ownOf s (Y (cX n z)) Q).bind λown=>_)=_;refine U e ?_;rfl
   |_=>exact ag o
 |_=>exact ag o
theorem wi{r:ah}{Q:am}{t:aZ J}(j:gK r=E):wj r Q k t=t:=by
 induction r using bE with
 |Call S n g z=>
  induction S using bE with
  |Name id Z=>rcases n with _|⟨v,n⟩ <;>rcases g with _|⟨m,g⟩ <;>first|exact cS j|rfl
  |_=>rfl
 |_=>rfl
theorem HM(ok:B.Fine)(K:ROk B S R)(g:a8 a k){W:Nat}{N:ah}{v:am}{z:aN}
  (j:(dc H c R (match gK N with|true=>.bad|false=>.attr (az W a N) (ay v)) Q L).to h D):bq B S k Q L (.Attribute N v z) h D:=by
 generalize P:gK N=p at j;induction p using ap with|true=>exact j.elim|false=>replace j:((R.e (az W a N) Q L).bind λN L=>iO L (gJ L N (ay v))).to h D:=j;rw[Res.bc] at j;show ae B S _ L (wj N v k (aX N k)>>=λr=>bT z.atName>>=λI=>bO [r] (pA r v M)>>=λT=>zS N r T>>=λI=>pure T) _ _ _;refine U (wi P) (ae.bind (ae.q (K.e g j) (λy l A=>?_)));intro r;exact au (pW A) λX C A=>ae.standAt (ae.iM (R:=bh) X l (ae.holding (HL ok C (λI I f=>f.2) ⟨rfl,rfl⟩)) λT=>(GG (ae.pure A λI I I f=>f.2)))
end
section
variable{B:aa}{S:Nat}{H:cN}{Un:eS}{R:Rec}{z:a4}{c:aF}{Q:al}{L:O}{h:V->O->Prop}{D:Nat->Nat->O->Prop}
theorem HN(K:ROk B S R){W:Nat}{w:gI}{n:List ah}{h:Bool->O->Prop}(g:a8 z c)(j:(Ag R w (n.map (az W z)) Q L).to h D):nx B S c Q L w n h D:=by
 induction n using aS with|nil=>exact Gk (by induction w using rZ <;>exact j)|cons o n=>
  have j:((R.t (az W z o) Q L).bind λm L=>match w,m with
   |.And,E=>.ok E L|.Or,M=>.ok M L|_,_=>R.a w (n.map (az W z)) Q L).to h D:=j
  rw[Res.bc] at j;refine Gl (ae.q (K.t g j) (λm l A=>?_));clear j;clear j;induction w using rZ <;>induction m using ap <;>first|exact A|exact K.a g A
theorem HO(K:ROk B S R){W:Nat}{w:gI}{n:List ah}{Z:aN}(g:a8 z c)(j:(Ah R w (n.map (az W z)) Q L).to h D):ny B S c Q L Z w n h D:=by
 rcases n with _|⟨y,_|⟨X,n⟩⟩
 ·exact j.elim
 ·exact Gn (K.e g j)
 ·have j:((R.e (az W z y) Q L).bind λN L=>(kQ L N).bind λm L=>match w,m with
   |.And,E=>.ok N L|.Or,M=>.ok N L|_,_=>R.b w ((X::n).map (az W z)) Q L).to h D:=j
  rw[Res.bc] at j;refine Go (ae.q (K.e g j) (λN a A=>?_));rw[Res.bc] at A;refine au (v8 A) λm d A=>?_;subst d;refine aC m rfl ?_;clear j;clear j;induction w using rZ <;>induction m using ap <;>first|exact A|exact K.b g A
theorem HP{y X i:V}(o:pM L y X=Y i):vt L y X=Y i\/∃v l g,y=.glob (.ref v)/\X=.str l/\kP v=Y g/\bL l g=Y i:=by
 induction y using V.casesOn with
 |glob c=>induction c using e8.casesOn with
  |ref v=>induction X using V.casesOn with
   |str l=>
    unfold pM at o;dsimp only at o;generalize j:kP v=aw at o;induction aw using aB with|none=>exact ag o|some g=>exact .inr (fY v l g rfl rfl j o)
   |_=>exact ag o
  |bi=>exact .inl o
 |_=>exact .inl o
theorem HQ{W:Inv B}(ok:B.Fine){y X i:V}{v m:J}(o:pM L y X=Y i)(q:∀H j,W.p H j->aq H j y v)(t:∀H j,W.p H j->aq H j X m)(j:h i L)
  {u s:ah}(R:∀v m,nA s E v m=jF [v,m] (nB v m)):ae B S W L (l6 u s v m) bh h D:=by
 rcases HP o with o|⟨ad,l,TZ,rfl,rfl,hd,o⟩
 ·exact Gy o q t j R
 ·refine λTV TR H bG A F P f UO=>?_;cases q _ _ f;obtain ⟨x,d,rfl,rfl⟩:=t _ _ f;refine fV (ok.pX _ _ hd) λa b e K k=>ak (pq (A:=x) e K) λg I=>au (g i o) λN K Z=>?_;have z:(strKind B.prog B.w).is x (.str x d)=true:=by show eH x (.str x d)=M;simp[eH]
  refine g7 b λr n T Q C=>?_;clear b;have c:bG.heap.DictOf (strKind B.prog B.w) ad a:=gC r n T (P.stays _ _ Q) C;exact pu c.mapOf.typeIs Gz.lookup (GA (k:=x) (knd:=strKind B.prog B.w) z c.mapOf K ⟨i,L,H,j,vd P Z,cY P⟩) (R _ _)
noncomputable def AS{B:aa}(g c l:V)(f:J):Inv B:=⟨λH j=>∃v r X vs,f=.ref v/\¬foot H v/\j.get? v=Y {cls:=.type "slice",dict:=G,data:=.fields #[r,X,vs],slots:= #[]}/\aq H j g r/\aq H j c X/\aq H j l vs,
 λR x P=>by
  refine rH x λv r X vs o b F K Z m=>?_;clear x
  exact c9 v r X ⟨vs,o,P.grow.eD F b,(P.keep v _ F b).exact (λI I q=>nomatch q),aq.post R P _ K,aq.post R P _ Z,aq.post R P _ m⟩⟩
def HR{B:aa}:Rel B (V×V×V) Value:=⟨λm f=>AS m.1 m.2.1 m.2.2 f⟩
theorem wk(K:ROk B S R)(g:a8 z c){W:Nat}{r:Option ah}(j:(R.e (iW (az W z) r) Q L).to h D)(Z:∀N Q L,R.e (.lit N) Q L=.ok N L\/R.e (.lit N) Q L=.no):ae B S (loc B c Q) L (wl (wm r c)) bh h D:=by
 induction r using aB with|some o=>exact K.e g j|none=>
  replace j:(R.e (.lit .none) Q L).to h D:=j;rcases Z .none Q L with u|u
  ·rw[u] at j;exact ae.pure (v:=cA) j λI I I I=>rfl
  ·rw[u] at j;exact j.elim
theorem HS(j:av)(v:af){H:ax}{L:O}{B:aa}(R:Rep B H L j)(o:v=j.objs.size):¬foot H v:=by
 rintro ⟨A,C,Z,S,y⟩
 have:=R.lt S;rcases y with y|y
 ·rw[<-y,o] at this;exact absurd this.1 (Nat.lt_irrefl _)
 ·rw[<-y,o] at this;exact absurd this.2 (Nat.lt_irrefl _)
theorem wn{H:ax}{j:av}{y:V}{N:J}{r:Option Int}(o:iP y=Y r)(T:aq H j y N):IsPart N r:=by
 induction y using V.casesOn with|none=>refine U (an o).symm ?_;subst T;exact .none|int f=>refine U (an o).symm (aD T λd Q=>?_);clear T;subst Q;exact .int f d|_=>exact ag o
theorem aE.pick{H:ax}{j:av}{x:List V}{e:List J}(T:aE H j x e):∀(g:List Nat),aE H j (g.filterMap (x[·]?)) (g.filterMap (e[·]?))
 | []=>rfl|f::g=>by
  refine U wo (U wo ?_);generalize u:x[f]? =K;induction K using aB with|none=>exact U (T.none u) (T.pick g)|some y=>exact au (T.get u) λN i Z=>U i (.cons Z (T.pick g))
theorem HT{y g c l:V}(j:(nI L y g c l).to h D):∃A C x S d W,y=.ref A C/\L.get A C=Y (.list x)/\iP g=Y S/\iP c=Y d/\iP l=Y W/\sb W=E/\short x=M/\(L.alloc (.list (z8 x S d W))).to h D:=by
 unfold nI at j;induction y using V.casesOn with
 |ref A C=>
  dsimp only at j;generalize a:L.get A C=r at j;induction r using aB with|none=>exact mg j|some r=>induction r using aj.casesOn with
   |list x=>
    dsimp only at j;generalize t:iP g=a1 at j;clear t;induction a1 using aB with|none=>exact mg j|some S=>generalize q:iP c=a2 at j;clear q;induction a2 using aB with|none=>exact mg j|some d=>generalize s:iP l=AT at j;clear s;induction AT using aB with|none=>exact mg j|some W=>
       dsimp only at j;generalize b:sb W=pY at j;induction pY using ap with|true=>exact mg j|false=>generalize K:short x=pZ at j;induction pZ using ap with|false=>exact mg j|true=>exact c9 A C x ⟨S,d,W,rfl,a,rfl,rfl,rfl,b,K,j⟩
   |_=>exact mg j
 |_=>exact mg j
theorem HU(lo b st:Option ah)(Z:aN)(c:aF):aX (.Slice lo b st Z) c=(wl (wm lo c)>>=λg=>bO [g] (wl (wm b c))>>=λQ=>bO [g,Q] (wl (wm st c))>>=λl=>newFields "slice" [g,Q,l]):=rfl
theorem HV(K:ROk B S R)(x:a8 z c)(T:∀N Q L,R.e (.lit N) Q L=.ok N L\/R.e (.lit N) Q L=.no){W:Nat}{lo b st:Option ah}{Z:aN}{h:V×V×V->O->Prop}
  (j:((R.e (iW (az W z) lo) Q L).bind λg L=>(R.e (iW (az W z) b) Q L).bind λu L=>(R.e (iW (az W z) st) Q L).bind λl L=>.ok (g,u,l) L).to h D):ae B S (loc B c Q) L (aX (.Slice lo b st Z) c) HR h D:=by
 rw[HU];rw[Res.bc] at j;refine ae.bind (ae.q (wk K x j T) (λg y A=>?_));intro r;rw[Res.bc] at A;refine ae.bind (ae.holding (ae.weak (ae.q (wk K x A T) (λu k p=>?_)) and_left));intro X;rw[Res.bc] at p;refine ae.bind (ae.holding (ae.weak (ae.q (wk K x p T) (λl n C=>?_)) (λH j f=>f.1.1)));intro t s a H bG i F w f P;refine ib ⟨(g,u,l),n,H,C,c9 _ r X ⟨t,rfl,HS _ _ w rfl,ct _ rfl,?_,?_,?_⟩,.more w (b6 _) (push_size _),rfl,rfl⟩
 ·exact aq.ba (λI I I o=>o) (λv m d=>d.keep d.bu (b6 _ v)) _ f.1.1.2
 ·exact aq.ba (λI I I o=>o) (λv m d=>d.keep d.bu (b6 _ v)) _ f.1.2
 ·exact aq.ba (λI I I o=>o) (λv m d=>d.keep d.bu (b6 _ v)) _ f.2
theorem HW{c:ah->aK}{N:aK}{f:ah}(R:pv f=M):vT c N f=.idx N (c f):=by induction f using bE <;>first|rfl|exact aG R
theorem HX{f:ah}{v m:J}(R:pv f=M):nA f E v m=jF [v,m] (nB v m):=by induction f using bE <;>first|rfl|exact aG R
theorem HY{f:ah}(R:pv f=E):∃lo b st Z,f=.Slice lo b st Z:=by induction f using bE <;>first|exact cS R|exact c9 _ _ _ ⟨_,rfl⟩
theorem HZ{lo b st:Option ah}{Z:aN}{v m:J}:∃s,nA (.Slice lo b st Z) E v m=jF s (nB v m):=by induction st using aB <;>exact⟨_,rfl⟩
theorem H0(N f:ah)(z:aN)(c:aF):aX (.Subscript N f z) c=(aX N c>>=λr=>bO [r] (aX f c)>>=λk=>bT z>>=λI=>l6 N f r k):=by rw[H1];rfl
theorem H2{e:Array J}{C:Nat}(I:e.size=C)(g c l:Option Int):slicePick e g c l=((z9 (kM g c l C).1 (kM g c l C).2.1 (kM g c l C).2.2).filterMap (e.toList[·]?)).toArray:=by subst I;unfold slicePick;congr 2;funext k;exact U (hf) rfl
theorem H3{l:Option Int}(i:sb l=E):l≠Y 0:=λu=>by subst u;exact cS i
theorem H4{N:ah}{v k:J}{y g u l:V}{lo b st:Option ah}{Z:aN}{TS:Inv B}(j:(nI L y g u l).to h D):ae B S ((TS.and (ee y v)).and (AS g u l k)) L (l6 N (.Slice lo b st Z) v k) bh h D:=by
 obtain ⟨T2,T4,x,a,s,W,rfl,K,z,w,T6,A,c,j⟩:=HT j;refine nO j λUC m=>λTZ TR H bG T1 F q f TX=>?_;clear j;refine hd λUD i=>nc f λC r o=>?_;clear f;refine pd o λTW T0 TV Q T7 T3 TU t I=>?_;obtain ⟨_,p,T,rfl⟩:=C;clear o;subst Q;obtain ⟨_,e,d,R⟩:=q.obj _ _ _ _ T K;have X:e.size=x.length:=by refine U R.length.symm ?_;exact U eQ rfl
 have P:=AP (B:=B) q (R.pick (z9 (kM a s W x.length).1 (kM a s W x.length).2.1 (kM a s W x.length).2.2)) UC m;rw[<-H2 X] at P;refine aD (HZ (lo:=lo) (b:=b) (st:=st) (Z:=Z) (v:=.ref p.1) (m:=.ref r)) λTY T5=>i (pu d.isList.typeIs zQ.lookup (wpAny_getItem_list_slice (lo:=a) (hi:=s) (st:=W) d.isList (cW _ T3 rfl rfl) (wn z TU) (wn w t) (wn T6 I) (H3 A) ?_ (by refine U cT ?_;refine U X ?_;exact Nat.le_trans (il c) (by decide))) T5)
 exact⟨.ref L.bf L.n,_,bD H L.bf L.n (bG.heap.objs.size,bG.heap.objs.size),⟨rfl,rfl⟩,⟨_,sw,rfl⟩,P,rfl,rfl⟩
theorem H5(ok:B.Fine)(K:ROk B S R)(x:a8 z c)(T:∀N Q L,R.e (.lit N) Q L=.ok N L\/R.e (.lit N) Q L=.no){W:Nat}{N f:ah}{P:aN}(j:(dc H Un R (vT (az W z) (az W z N) f) Q L).to h D):bq B S c Q L (.Subscript N f P) h D:=by
 show ae B S _ L (aX (.Subscript N f P) c) _ _ _;rw[H0];generalize r:pv f=u;induction u using ap with|true=>rw[HW r] at j;replace j:((R.e (az W z N) Q L).bind λy L=>(R.e (az W z f) Q L).bind λX L=>iO L (pM L y X)).to h D:=j;rw[Res.bc] at j;refine ae.bind (ae.q (K.e x j) (λy a A=>?_));intro v;rw[Res.bc] at A;refine ae.bind (ae.holding (ae.weak (ae.q (K.e x A) (λX t p=>?_)) and_left));intro m;exact au (pW p) λi o p=>ae.standAt (HQ (W:=((loc B c Q).and (ee y v)).and (ee X m)) ok o (λI I f=>f.1.2) (λI I f=>f.2) p λv m=>HX r)|false=>
  refine cR (HY r) λlo b s=>cR s λst Z d=>?_;clear s r;subst d;replace j:((R.e (az W z N) Q L).bind λy L=>(R.e (iW (az W z) lo) Q L).bind λg L=>(R.e (iW (az W z) b) Q L).bind λn L=>(R.e (iW (az W z) st) Q L).bind λl L=>nI L y g n l).to h D:=j;rw[Res.bc] at j;refine ae.bind (ae.q (K.e x j) (λy a A=>?_));intro v;refine ae.bind (ae.holding (ae.weak (ae.q (HV (W:=W) K x T (h:=λu L=>(nI L y u.1 u.2.1 u.2.2).to h D) ?_) (λu t C=>?_)) and_left))
  ·rw[Res.bc] at A⊢;refine Res.hO A λg L j=>?_;rw[Res.bc] at j⊢;refine Res.hO j λn L j=>?_;rw[Res.bc] at j⊢;exact Res.hO j λl L j=>j
  ·intro k;exact ae.standAt (H4 C)
end
def mh(B:aa)(N:J):Prop:=∀j,B.K.In j->∃A,(A=Keeper.frame\/A=Keeper.machine\/A=Keeper.boundFrame)/\p1 (aA B.prog B.w) j (keeperOf N) A
theorem nQ{B:aa}{N:J}(j:keeperOf N=pure .machine):mh B N:=λI I=>aC .machine (.inr (.inl rfl)) (AU j)
theorem wp{B:aa}(m:d0):mh B (jA m):=nQ (by induction m using d0.casesOn <;>rfl)
def jS(B:aa):Prop:=∀v,c5 v jN=M->mi B.K (.ref v)=M
theorem H6{B:aa}(a:jS B){c:V}(j:vL c=M):∃f,c=.glob f/\mh B (h7 f):=by
 induction c using V.casesOn with
 |glob f=>
  induction f using e8.casesOn with|ref v=>exact aC _ rfl (λq X=>keeps_K (a v j) q X)|bi m=>exact aC _ rfl (wp m)
 |_=>exact aG j
theorem mj{o:ah}{n:List ah}(j:dN (o::n)=M):notStar o=M/\dN n=true:=by induction o using bE <;>first|exact⟨rfl,j⟩|exact aG j
theorem sz :∀{n:List ah} {z:aN} {k:aF},dN n=M->(eF z (eg n k)).any (·.1)=false:=by
 intro s;induction s with|nil=>intro I I I;exact rfl|cons o n F=>
  intro z k j;refine ak (mj j) λb p=>U (nl b) ?_;show(E||(eF z (eg n k)).any (·.1))=E
  refine U (F p) ?_;rfl
section
variable{B:aa}{S:Nat}{w:Inv B}{i:cN}{N:eS}{R:Rec}{a:a4}{k:aF}{Q:al}{L:O}{h:V->O->Prop}{D:Nat->Nat->O->Prop}
theorem sA{i:gD}{s:aY}{h:J->ai->Prop}{l:ai}{x:J}{n:List ah}{z:aN}{a:Args->ai->Prop}(X:dN n=M)(j:ao i s (iJ (eF z (eg n k))) (λe Z=>a ⟨e,[]⟩ Z) h l):ao i s (evalArgs x M (eF z (eg n k)) []) a h l:=by
 induction n using aS with|nil=>have c:eF z (eg [] k)= []:=rfl;rw[c] at j⊢;show ao i s (iJ []>>=_) a h l;exact ab (b3 j (λe Z u=>ab (aH (ck (ab (aH (ab (aH (aH u)))))))))|cons o n=>refine ak (mj X) λb I=>?_;rw[nl b] at j⊢;exact evalArgs_plain j
theorem sB{g:Type}{C:Rel B g J}{h:g->O->Prop}(o:B.K.In B.base){z:aN}{A:J}{first:List J}{n:List ah}(X:dN n=M)(m:mh B A)(d:∀H j,w.p H j->(loc B k Q).p H j)
  (j:jE B S k Q L z n (λx a=>∀e,ae B S (w.and (l0 x e)) a (bV A (first++e)) C h D) D):ae B S w L (wq z A first (eF z (eg n k)) []) C h D:=λs b H l T F P f c=>by
 have q:ae B S w L (iJ (eF z (eg n k))) rN (λx a=>∀e,ae B S (w.and (rN.r x e)) a (bV A (first++e)) C h D) D:=ae.weak j d
 have i:=ae.pair q s b H l T F P f c;refine wr (P:=λj=>B.K.In j) (by refine U (sz X) ?_;rfl) m (sA X ?_)
 exact b3 i (λe Z y=>⟨o.keeps y.1,y.2⟩)
def gN(B:aa)(S:Nat)(i:cN):Prop:=∀{w:Inv B} {L:O} {c:V} {xs:List V} {x:J} {vs:List J} {h:V->O->Prop} {D:Nat->Nat->O->Prop},
 (i c xs L).to h D->(∀H j,w.p H j->aq H j c x)->(∀H j,w.p H j->aE H j xs vs)->ae B S w L (bV x vs) bh h D
theorem wt(d:ah)(t:∀r v Z,d≠.Attribute r v Z)(n:List ah)(z:aN)(k:aF):aX (.Call d n [] z) k=(aX d k>>=λN=>wq z N [] (eF z (eg n k)) []):=by induction d using bE <;>first|rfl|exact absurd rfl (t _ _ _)
theorem sC(r:ah)(v:am)(f z:aN)(n:List ah)(k:aF)(b:gK r=E)(p:Nat.beq f.endLine z.line=M)(x:Nat.blt n.length 30=M)(H:dN n=M):
  aX (.Call (.Attribute r v f) n [] z) k=(aX r k>>=λu=>bT f.atName>>=λI=>bO [u] (nR u v (do return(<-importBound r k).getD M))>>=λa=>wq z a.1 a.2 (eF z (eg n k)) []):=by
 have t:aX (.Call (.Attribute r v f) n [] z) k=(wj r v k (aX r k)>>=λu=>bT f.atName>>=λI=>methodCall r v f z k u (n.length+0) (eF z (eg n k)) []):=rfl;have c:H7 (n.length+0) (eF z (eg n k)) []=true:=by
  have w:(eF z (eg n k)).all (!·.1)=true:=by have:=sz (z:=z) (k:=k) H;rw[List.all_eq_true];intro y q;rw[H8] at this;have:=this y q;simpa using this
  unfold H7;refine U w ?_;have:=fb.mp x;simp;lia
 refine U t (U (wi b) ?_);congr 1;funext u;congr 1;funext _;unfold methodCall methodCallPos;refine U c ?_;replace p:(f.endLine==z.line)=true:=by rw[beq_iff_eq];exact Nat.eq_of_beq_eq_true p
 refine U p ?_;rfl
theorem H9(ok:B.Fine)(Us:jS B)(K:ROk B S R)(TW:gN B S i)(g:a8 a k){W:Nat}{t:ah}{n:List ah}{z:aN}(s:∀r v Z,t≠.Attribute r v Z)
  (j:(dc i N R (kT (az W a) t n z) Q L).to h D):bq B S k Q L (.Call t n [] z) h D:=by
 have C:kT (az W a) t n z=(match dN n with|true=>.call (az W a t) (n.map (az W a))|false=>.bad):=by clear j;induction t using bE <;>first|rfl|exact absurd rfl (s _ _ _)
 rw[C] at j;generalize X:dN n=p;induction p using ap with|false=>rw[X] at j;exact j.elim|true=>rw[X] at j;replace j:((R.e (az W a t) Q L).bind λc L=>cM (vL c) ((R.bw (n.map (az W a)) Q L).bind λx L=>i c x L)).to h D:=j;rw[Res.bc] at j;show ae B S _ L (aX (.Call t n [] z) k) _ _ _;rw[wt t s];refine ae.bind (ae.q (K.e g j) (λc TR A=>?_));intro u;refine ak (dr A) λb A=>?_;rw[Res.bc] at A;refine au (H6 Us b) λy d m=>?_;clear b;subst d;refine λUC TU H l T F P f c=>?_;have:u=h7 y:=f.2;subst this;refine sB ok.dR (w:=(loc B k Q).and (ee (.glob y) (h7 y))) (k:=k) (Q:=Q) X m (λI I f=>f.1) (ae.q (K.bw g A) (λx TZ o=>?_)) UC TU H l T F P f c;intro TS;exact TW o (λI I f=>f.1.2) (λI I f=>f.2)
end
structure jT(c:aa)(Mt:eS):Prop where
 m:∀(C:Nat) (x:am) (a:Nat),Mt C (ay x)=Y a->c2 c.K (.ref C) "__getattribute__"=Y (Y (.builtin "object.__getattribute__"))/\c2 c.K (.ref C) "__getattr__"=Y G/\
  c2 c.K (.ref C) x=Y (Y (.ref a))/\ml c.K (.ref a)=Y (.type "function")
theorem wu{y:Key}:∀{g:List Key},kN y g=M->y∈g:=by
 intro s;induction s with|nil=>intro o;cases o|cons A T F=>
  intro o;unfold kN at o;generalize u:(a0 A y)=K;induction K using ap with|true=>exact U (dL.mp u) (.head _)|false=>rw[u] at o;exact .tail _ (F o)
def sD(x:Key):String:=if x=iQ then "list.append" else if x=iR then "list.pop" else if x=fI then "list.extend" else "list.index"
def im :hL->Key->J
 |.own v,_=>.ref v|.lst,x=>.builtin (sD x)|.ma,_=>.builtin "dict.get"|.str,_=>.builtin "str.encode"
theorem fu{y X:am}(j:ay y=ay X):y=X:=jz j
section
variable{B:aa}{S:Nat}{W:Inv B}{d:cN}{I:eS}{R:Rec}{a:a4}{k:aF}{Q:al}{L:O}{h:V->O->Prop}{D:Nat->Nat->O->Prop}
theorem Ia{Q:am}{s:aY}{l:ai}{v:af}{e:Array J}{x:aZ Bool}{a:J×List J->ai->Prop}{n:J->ai->Prop}(j:kN (ay Q) [iQ,iR,fI,jL]=M)(d:∃W,IsL l.heap v e W)(u:a (im .lst (ay Q),[.ref v]) l):
  ao (aA B.prog B.w) s (nR (.ref v) Q x) a n l:=by
 have A:=wu j;refine aD d λW k=>?_;clear d;have ei:l.TypeIs (.ref v) "list":=aC _ k rfl;have K:∀m,bZ v=.ref m->∃r,l.heap.get? m=Y r/\r.dict=none:=λm o=>aC _ (Value.ref.inj o▸k) rfl;simp only[aW,p3,or_false] at A;rcases A with i|i|i|i
 ·obtain rfl:Q=dt "append":=fu (i.trans rfl);exact sE ei wv AV PySem.F.type_list_append K u
 ·obtain rfl:Q=dt "pop":=fu (i.trans rfl);exact sE ei wv Ib PySem.F.type_list_pop K u
 ·obtain rfl:Q=dt "extend":=fu (i.trans rfl);exact sE ei wv ww PySem.F.type_list_extend K u
 ·obtain rfl:Q=dt "index":=fu (i.trans rfl);exact sE ei wv Ic PySem.F.type_list_index K u
theorem Ie{Q:am}{s:aY}{l:ai}{X:am}{d:d1}{x:aZ Bool}{a:J×List J->ai->Prop}{n:J->ai->Prop}(j:a0 (ay Q) pI=M)(i:a (.builtin "str.encode",[.str X d]) l):
  ao (aA B.prog B.w) s (nR (.str X d) Q x) a n l:=by
 obtain rfl:Q=dt "encode":=fu ((dL.mp j).trans rfl)
 with_reducible exact PySem.GM.of (.str X d) (typeIs_str _ _ _) Ig PySem.F.type_str_encode PySem.GM.noRef i
theorem wx{N:Type}{m:Bool}{y X:N}(o:(match m with|true=>Y y|false=>G)=Y X):m=M/\y=X:=by
 induction m using ap with|false=>exact ag o|true=>exact⟨rfl,an o⟩
theorem Ih{N:Type}{m W:Bool}{y X:N}(o:(match m,W with|true,M=>Y y|_,_=>G)=Y X):m=M/\W=M/\y=X:=by induction m using ap <;>induction W using ap <;>first|exact ag o|exact aQ rfl rfl (an o)
theorem AW{y:Key}{r:V}(o:iS I L r y=Y m):(∃l,r=.str l/\a0 y pI=M/\m=.str)\/∃A C,r=.ref A C/\
  ((∃g,L.get A C=Y (.list g)/\kN y [iQ,iR,fI,jL]=M/\Nat.blt C 16777216=M/\m=.lst)\/(∃g,L.get A C=Y (.dict g)/\a0 y se=M/\m=.ma)\/
   ∃x g v,L.get A C=Y (.inst x g)/\I x y=Y v/\bL y g=G/\c5 v jN=M/\m=.own v):=by
 induction r using V.casesOn with
 |str l=>exact ak (wx o) λj u=>.inl (cW l rfl j u.symm)|ref A C=>
  refine .inr (d9 A C rfl ?_);unfold iS at o;dsimp only at o;generalize L.get A C=r at o⊢;induction r using aB with|none=>exact ag o|some r=>induction r using aj.casesOn with
   |list g=>exact br (Ih o) λj b u=>.inl (fp g rfl j b u.symm)|dict g=>exact ak (wx o) λj u=>.inr (.inl (cW g rfl j u.symm))|inst x g=>
    dsimp only at o;generalize h:I x y=v at o;induction v using aB with|none=>exact ag o|some v=>
     generalize Z:bL y g=b at o;induction b using aB with|some b=>exact ag o|none=>exact ak (wx o) λj u=>.inr (.inr (fY x g v rfl h Z ⟨j,u.symm⟩))
   |_=>exact ag o
 |_=>exact ag o
theorem Ii{H:ax}{l:ai}{s:aY}{h:J->ai->Prop}{a:J×List J->ai->Prop}(ok:B.Fine)(mt:jT B I){y:V}{N:J}{Q:am}{q:aZ Bool}{z:hL}(P:Rep B H L l.heap)(T:aq H l.heap y N)
  (o:(∃l,y=.str l/\a0 (ay Q) pI=M/\z=.str)\/∃A C,y=.ref A C/\
  ((∃g,L.get A C=Y (.list g)/\kN (ay Q) [iQ,iR,fI,jL]=M/\Nat.blt C 16777216=M/\z=.lst)\/(∃g,L.get A C=Y (.dict g)/\a0 (ay Q) se=M/\z=.ma)\/
   ∃x g v,L.get A C=Y (.inst x g)/\I x (ay Q)=Y v/\bL (ay Q) g=G/\c5 v jN=M/\z=.own v))(p:a (im z (ay Q),[N]) l):
  ao (aA B.prog B.w) s (nR N Q q) a h l:=by
 refine hd λTX W=>?_;rcases o with⟨_,rfl,b,rfl⟩|⟨A,C,rfl,j⟩
 ·obtain ⟨X,d,rfl,rfl⟩:=T;have i:a (jR "str.encode",[.str X d]) l:=p;refine W ?_;with_reducible exact Ie b i
 ·obtain ⟨Z,S,rfl⟩:=T;rcases j with⟨g,K,b,_,rfl⟩|⟨g,K,b,rfl⟩|⟨x,g,v,K,t,u,_,rfl⟩
  ·obtain ⟨_,TY,d,_⟩:=P.obj _ _ _ _ S K;exact W (Ia b d p)
  ·obtain ⟨_,TV,hd,_⟩:=P.obj _ _ _ _ S K;obtain rfl:Q=dt "get":=fu ((dL.mp b).trans rfl);exact W (sE hd.typeIs PySem.F.plainAttrs_dict Ij PySem.F.type_dict_get hd.mapOf.noDict p)
  ·refine e7 (mt.m x Q v t) λe r f D=>dZ (vA S (P.obj _ _ _ _ S K)) λn R c k=>W (method_fn (ok.dR.keeps P.stays) c e r f D ?_ p);show(vw Q (cX n R)).map _=_;refine U ((px (Q:=Q) (C:=R) k).2 u) ?_;rfl
theorem AX(ok:B.Fine)(mt:jT B I){y:V}{N:J}{Q:am}{x:aZ Bool}{z:hL}(o:iS I L y (ay Q)=Y z)(q:∀H j,W.p H j->aq H j y N):
  ae B S W L (nR N Q x) eE (λa n=>a=(im z (ay Q),[N])/\n=L) D:=λs b H l Z F P f c=>
 Ii ok mt P (q _ _ f) (AW o) ⟨_,L,H,⟨rfl,rfl⟩,rfl,.refl P,.refl⟩
end
section
variable{B:aa}{S:Nat}{W:Inv B}{H:cN}{I:eS}{R:Rec}{z:a4}{k:aF}{Q:al}{L:O}{h:V->O->Prop}{D:Nat->Nat->O->Prop}
theorem nS{H:ax}{l:ai}{A C z:Nat}{Z:af×af}{g b:List V}{m:Array J}{c:Array J->Array J}(P:Rep B H L l.heap)(S:H A C=Y Z)(a:L.get A C=Y (.list g))(X:C<2^24)
  (o:l.heap.get? Z.1=Y {cls:=.type "list",dict:=G,data:=.seq m z,slots:= #[]})(T:aE H l.heap b (c m).toList):aR B H l.heap H (L.set A C (Y (.list b))) (l.heap.update Z.1 (eV c)):=by
 obtain ⟨t,_⟩:=P.obj _ _ _ _ S a;refine aR.update P S (λv r u N I=>(f5 _ _ _ _ N).trans u) (by rw[size_update];exact Nat.le_refl _) (λI=>X) λn=>?_
 exact⟨t,c m,⟨_,AY (n:=z) o c⟩,aE.ba (λI I I o=>o) n b T⟩
theorem Ik{x:List V}{X:V}(j:x.getLast? =Y X):x=x.dropLast++ [X]:=by refine aD (List.getLast?_eq_some_iff.mp j) λg Q=>?_;clear j;subst Q;simp
theorem Il{H:ax}{j:av}{X:V}:∀{x:List V} {e:List J},aE H j (x++ [X]) e->∃n N,e=n++ [N]/\aE H j x n/\aq H j X N:=by
 intro s;induction s with
 |nil=>intro I h;obtain ⟨N,T,o,v,m⟩:=h;subst m;exact hE ([]) N o rfl v
 |cons y x F=>intro I h;obtain ⟨N,T,o,v,m⟩:=h;refine hD (F m) λn i k b p=>?_;clear m;subst k;exact hE (N::n) i o (.cons v b) p
theorem wy(A y:am)(d c:d1):AZ (.str y c) (.str A d) (eH A (.str y c)):=eqGives_str y A c d
theorem all_strs{H:ax}{j:av}{A:am}{d:d1}:∀{g:List V} {e:List J},pH g=M->aE H j g e->∀X∈e,AZ X (.str A d) (eH A X)
 | [],_,_,T=>by subst T;intro X C;cases C|.str _::g,_,w,⟨N,T,o,v,m⟩=>by
  subst o;obtain ⟨y,c,rfl,_⟩:=v;intro X C;rcases aW.mp C with rfl|C
  ·exact wy A y d c
  ·exact all_strs (g:=g) w m X C
 |.none::_,_,w,_=>aG w|.bool _::_,_,w,_=>aG w|.int _::_,_,w,_=>aG w|.bytes _::_,_,w,_=>aG w|.tup _::_,_,w,_=>aG w|.ref _ _::_,_,w,_=>aG w|.glob _::_,_,w,_=>aG w
theorem Im{H:ax}{j:av}{A:am}{d:d1}:∀{g:List V} {e:List J} {f:Nat},aE H j g e->indexOf (ay A) g=Y f->
  (∀X∈e,AZ X (.str A d) (eH A X))/\∃n:f<e.length,eH A e[f]=M/\∀z (h:z<e.length),z<f->eH A e[z]=false:=by
 intro g;induction g with|nil=>intro e f T o;exact ag o|cons y g F=>
  intro e f ⟨N,T,P,v,m⟩ o;subst P;induction y using V.casesOn with
  |str X=>
   obtain ⟨y,c,rfl,rfl⟩:=v;have a:eH A (.str y c)=a0 (ay y) (ay A):=by
    show(y==A)=_;generalize u:(a0 (ay y) (ay A))=K;induction K using ap with|true=>have:=jz (dL.mp u);simp[this]|false=>have:y≠A:=λi=>ng u (U i rfl);simp[this]
   replace o:(match a0 (ay y) (ay A),pH g with|true,M=>Y 0|true,E=>G|false,_=>match indexOf (ay A) g with|some f=>Y (f+1)|none=>G)=Y f:=o
   generalize u:(a0 (ay y) (ay A))=K;induction K using ap with
   |true=>
    generalize l:(pH g)=K;induction K using ap with|false=>rw[u,l] at o;exact ag o|true=>
     rw[u,l] at o;obtain rfl:=an o;refine fX (λX C=>?_) (Nat.zero_lt_succ _) (a.trans u) (λz I h=>absurd h (Nat.not_lt_zero _));rcases aW.mp C with rfl|C
     ·exact wy A y d c
     ·exact all_strs l m X C
   |false=>
    rw[u] at o;generalize l:(indexOf (ay A) g)=K;induction K using aB with|none=>rw[l] at o;exact ag o|some k=>
     rw[l] at o;obtain rfl:=an o;refine rJ (F m l) λb p x q=>fX (λX C=>?_) (Nat.succ_lt_succ p) x (λz h t=>?_)
     ·rcases aW.mp C with rfl|C
      ·exact wy A y d c
      ·exact b X C
     ·induction z using Nat.casesOn with|zero=>exact a.trans u|succ z=>exact q z (Nat.lt_of_succ_lt_succ h) (Nat.lt_of_succ_lt_succ t)
  |_=>exact ag o
inductive nT(L:O)(A C:Nat)(g:List V)(key:Key)(h:V->O->Prop):List V->Prop
 |pop (y:V) (q:a0 key iR=M) (hP:g.getLast? =Y y) (hs:short g=M) (e:h y (L.set A C (Y (.list g.dropLast)))):nT L A C g key h []
 |app (a:V) (q:a0 key iQ=M) (hs:Nat.blt g.length 1000=M) (e:h .none (L.set A C (Y (.list (g++ [a]))))):nT L A C g key h [a]
 |idx (l:Key) (j:Nat) (q:a0 key jL=M) (hs:short g=M) (hj:indexOf l g=Y j) (e:h (.int j) L):nT L A C g key h [.str l]
 |ext (k' n':Nat) (ys:List V) (q:a0 key fI=M) (hσ:L.get k' n'=Y (.list ys)) (hs:short (g++ys)=M) (e:h .none (L.set A C (Y (.list (g++ys))))):nT L A C g key h [.ref k' n']
theorem Io{A C w a:Nat}{g:List V}(o:(match Nat.beq A w,Nat.beq C a with
      |true,M=>Res.no|_,_=>match L.get w a with
       |some (.list n)=>match short (g++n) with
        |true=>.ok V.none (L.set A C (Y (.list (g++n))))|false=>.no
       |_=>.no).to h D):∃n,L.get w a=Y (.list n)/\short (g++n)=M/\h V.none (L.set A C (Y (.list (g++n)))):=by
 have o:(match L.get w a with|some (.list n)=>(match short (g++n) with|true=>Res.ok V.none (L.set A C (Y (.list (g++n))))|false=>.no)|_=>.no).to h D:=by generalize Nat.beq A w=b at o;generalize Nat.beq C a=d at o;induction b using ap <;>induction d using ap <;>first|exact o|exact o.elim
 generalize L.get w a=r at o;induction r using aB with|none=>exact o.elim|some r=>induction r using aj.casesOn with
  |list n=>
   dsimp only at o;generalize R:short (g++n)=b at o;induction b using ap with|false=>exact o.elim|true=>exact cW n rfl R o
  |_=>exact o.elim
theorem Ip{A C:Nat}{g t:List V}{d:Key}(o:(pJ L A C g d t).to h D):nT L A C g d h t:=by
 rcases t with _|⟨v,_|⟨m,T⟩⟩
 ·unfold pJ at o;dsimp only at o;generalize u:a0 d iR=m at o;induction m using ap with|false=>exact o.elim|true=>
   dsimp only at o;generalize Z:g.getLast? =aw at o;induction aw using aB with|none=>exact o.elim|some X=>
    generalize R:short g=m at o;induction m using ap with|false=>exact o.elim|true=>exact .pop X u Z R o
 ·unfold pJ at o;dsimp only at o;generalize u:a0 d iQ=m at o;induction m using ap with
  |true=>
   dsimp only at o;generalize R:Nat.blt g.length 1000=m at o;induction m using ap with|false=>exact o.elim|true=>exact .app v u R o
  |false=>
   dsimp only at o;generalize u:a0 d jL=m at o;induction m using ap with
   |true=>
    dsimp only at o;generalize R:short g=m at o;induction v using V.casesOn with
    |str l=>
     induction m using ap with|false=>exact o.elim|true=>
      dsimp only at o;generalize c:indexOf l g=aw at o;induction aw using aB with|none=>exact o.elim|some k=>exact .idx l k u R c o
    |_=>exact o.elim
   |false=>
    dsimp only at o;generalize u:a0 d fI=m at o;induction m using ap with|false=>exact o.elim|true=>induction v using V.casesOn with|ref w a=>exact bX (Io o) λn b p x=>.ext w a n u b p x|_=>exact o.elim
 ·exact o.elim
section
variable{s:aY}{H:ax}{l:ai}{A C z:Nat}{g:List V}{Z:af×af}{m:Array J}
theorem Iq{X:V}(P:Rep B H L l.heap)(S:H A C=Y Z)(a:L.get A C=Y (.list g))(Q:C<2^24)(b:IsL l.heap Z.1 m z)(f:aE H l.heap g m.toList)(T:g.getLast? =Y X)(R:short g=M)(o:h X (L.set A C (Y (.list g.dropLast)))):
  ao (aA B.prog B.w) s (bV (.builtin "list.pop") [.ref Z.1]) (ef (c:=B) bh h H l) (dq B D H l) l:=by
 have ei:l.TypeIs (.ref Z.1) "list":=aC _ b rfl;have y:m.size=g.length:=by refine U f.length.symm ?_;exact U eQ rfl
 replace f:=(Ik T)▸f;refine hD (Il f) λn t e k j=>?_;obtain rfl:m=(n++ [t]).toArray:=by refine U e.symm ?_;exact U Ir rfl
 refine p4 (T:="list") Ib ei PySem.F.entry_list_pop (PySem.F.args_list_pop_1 _) (TD Z.1 (n++ [t]).toArray z t (by simp) (by refine U y ?_;refine U cT ?_;exact Nat.le_trans (il R) (by decide))) ⟨b,X,_,H,o,aq.ba (λI I I o=>o) (λv m d=>?_) X j,?_,rfl,rfl⟩
 ·have W:=d.bu;exact d.keep W λu p=>(f5 _ _ _ _ (λi=>W ⟨A,C,Z,S,.inl i⟩)).trans p
 ·refine nS P S a Q b ?_;have x:(n++ [t]).toArray.size-1=n.length:=by simp
  refine U x ?_;rw[kl_erase,iK];exact k
theorem It{v:V}{t:J}(P:Rep B H L l.heap)(S:H A C=Y Z)(a:L.get A C=Y (.list g))(X:C<2^24)(b:IsL l.heap Z.1 m z)(Q:aE H l.heap g m.toList)(u:aq H l.heap v t)(R:Nat.blt g.length 1000=M)(o:h .none (L.set A C (Y (.list (g++ [v]))))):
  ao (aA B.prog B.w) s (bV (.builtin "list.append") [.ref Z.1,t]) (ef (c:=B) bh h H l) (dq B D H l) l:=by
 have ei:l.TypeIs (.ref Z.1) "list":=aC _ b rfl;have I:m.size=g.length:=by refine U Q.length.symm ?_;exact U eQ rfl
 refine p4 (T:="list") AV ei Iu (Iv _ _) (Iw Z.1 m z t (by refine U I ?_;refine U cT ?_;exact Nat.le_trans (Nat.le_of_lt (fb.mp R)) (by decide))) ⟨b,.none,_,H,o,rfl,?_,rfl,rfl⟩
 exact nS P S a X b (U A0 (Q.append (.cons u .nil)))
theorem Ix{y:am}{d:d1}{k:Nat}(P:Rep B H L l.heap)(n:IsL l.heap Z.1 m z)(Q:aE H l.heap g m.toList)(R:short g=M)(A:indexOf (ay y) g=Y k)(o:h (.int k) L):
  ao (aA B.prog B.w) s (bV (.builtin "list.index") [.ref Z.1,.str y d]) (ef (c:=B) bh h H l) (dq B D H l) l:=by
 have ei:l.TypeIs (.ref Z.1) "list":=aC _ n rfl;have I:m.size=g.length:=by refine U Q.length.symm ?_;exact U eQ rfl
 refine rJ (Im (d:=d) Q A) λb p x q=>?_;have t:k<m.size:=by refine U eQ.symm ?_;exact p
 have a:k<1000:=Nat.lt_of_lt_of_le t (by refine U I ?_;exact il R)
 exact p4 (T:="list") Ic ei PySem.F.entry_list_index (PySem.F.args_list_index_2 _ _)
  (MeetsSeq.list_index Z.1 m z (.str y d) (eH y) (λX C=>b X (by simpa using C)) k t (zP (vu.mpr a) (by decide)) (by simpa using x) (λf n t=>(by have i:=q f (n) t;rwa [Array.getElem_toList] at i))) ⟨n,.int k,L,H,o,⟨_,rfl⟩,cY P⟩
theorem Iy{W:Nat}{n:List V}{y:af×af}{d:Array J}(P:Rep B H L l.heap)(S:H A C=Y Z)(a:L.get A C=Y (.list g))(X:C<2^24)(b:IsL l.heap Z.1 m z)(Q:aE H l.heap g m.toList)(j:IsL l.heap y.1 d W)(e:aE H l.heap n d.toList)(R:short (g++n)=M)
  (o:h .none (L.set A C (Y (.list (g++n))))):ao (aA B.prog B.w) s (bV (.builtin "list.extend") [.ref Z.1,.ref y.1]) (ef (c:=B) bh h H l) (dq B D H l) l:=by
 have ei:l.TypeIs (.ref Z.1) "list":=aC _ b rfl;have I:m.size+d.size<=1000:=by have i:=il R;rw[fL,<-Q.length,<-e.length,eQ,eQ] at i;exact i
 refine p4 (T:="list") ww ei Iz (IA _ _) (TE Z.1 m z y.1 d W ?_ (by refine U cT ?_;exact Nat.le_trans (Nat.le_trans (Nat.le_add_right ..) I) (by decide)) (by refine U cT ?_;exact Nat.le_trans I (by decide))) (aQ b j ⟨.none,_,H,o,rfl,?_,rfl,rfl⟩)
 ·have:Builtin.List.listTooLong (m.size+d.size)=false:=decide_eq_false (Nat.not_lt.mpr (by refine U cT ?_;exact Nat.le_trans I (by decide)))
  refine U this ?_;rw[vD];exact i3
 ·exact nS P S a X b (U zE (Q.append e))
end
theorem sF{d y:Key}(u:a0 d y=M):sD d=sD y:=U (dL.mp u) rfl
theorem IB{A C:Nat}{g d:List V}{i:Key}{N:J}{e:List J}(o:(pJ L A C g i d).to h D)(w:L.get A C=Y (.list g))(Q:C<2^24)(q:∀H j,W.p H j->aq H j (.ref A C) N)(K:∀H j,W.p H j->aE H j d e):
  ae B S W L (bV (.builtin (sD i)) (N::e)) bh h D:=λs U9 H l X F P f c=>by
 refine hd λUD n=>?_;obtain ⟨Z,T,rfl⟩:=q _ _ f;have k:=K _ _ f;clear q K f c F X;obtain ⟨TW,m,⟨z,b⟩,r⟩:=P.obj _ _ _ _ T w;replace o:=Ip o;induction o using nT.casesOn with
 |pop Uo u I R o=>exact n (U (sF u) (U (show e= [] from k) (Iq P T w Q b r I R o)))|app TV u R o=>obtain ⟨t,a,rfl,x,v⟩:=k;exact n (U (sF u) (U (show a= [] from v) (It P T w Q b r x R o)))
 |idx l TS u R UA o=>obtain ⟨t,a,rfl,⟨TY,Uc,rfl,rfl⟩,v⟩:=k;exact n (U (sF u) (U (show a= [] from v) (Ix P b r R UA o)))
 |ext T6 T0 TU u T2 R o=>obtain ⟨t,a,rfl,⟨TR,TX,rfl⟩,v⟩:=k;obtain ⟨_,T8,⟨TZ,T1⟩,y⟩:=P.obj _ _ _ _ TX T2;exact n (U (sF u) (U (show a= [] from v) (Iy P T w Q b r T1 y R o)))
theorem IC{g:List V}{Z:V×V}(j:Aa g=Y Z):g= [Z.1,Z.2]:=by
 rcases g with _|⟨v,_|⟨m,_|⟨y,T⟩⟩⟩
 ·exact ag j
 ·exact ag j
 ·exact U (an j).symm rfl
 ·exact ag j
theorem ID{g:List V}{Z:V}(j:strArg g=Y Z):g= [Z]:=by
 rcases g with _|⟨v,_|⟨m,T⟩⟩
 ·exact ag j
 ·exact U (an j).symm rfl
 ·exact ag j
theorem IE(ok:B.Fine){H:ax}{j:av}{A C:Nat}{Z:af×af}(P:Rep B H L j)(S:H A C=Y Z):(Z.1==f3)=false:=by
 generalize i:(Z.1==f3)=b;induction b using ap with|false=>rfl|true=>have u:=(P.new _ _ _ S).1;rw[eq_of_beq i] at u;have r:=ok.gM;rw[u] at r;exact aG r
theorem IF{A C:Nat}{g:List (Key×V)}{t:List V}{k:Key}{N:J}{e:List J}(ok:B.Fine)(o:(Ab L g k t).to h D)(a:L.get A C=Y (.dict g))(q:∀H j,W.p H j->aq H j (.ref A C) N)(r:∀H j,W.p H j->aE H j t e):
  ae B S W L (bV (.builtin "dict.get") (N::e)) bh h D:=λs T0 H l Q F P f c=>by
 obtain ⟨Z,T,rfl⟩:=q _ _ f;have X:=r _ _ f;clear q r f c F Q;refine ak (dr o) λTS o=>au (cO o) λu x o=>au (cO o) λTY R o=>?_;rw[IC x,po R] at X;obtain ⟨TU,TV,rfl,⟨y,d,rfl,rfl⟩,b,TW,rfl,v,rfl⟩:=X;obtain ⟨_,TR,hd,m,z⟩:=P.obj _ _ _ _ T a;refine ak (pq (A:=y) m z) λTZ TX=>call_meetsIn Ij hd.typeIs PySem.F.entry_dict_get (PySem.F.args_dict_get_3 _ _ _) (meets_dict_get_default (strKind B.prog B.w) Z.1 (strKind_is B.prog B.w y d) (IE ok P T) b) (aC _ hd.mapOf ?_);generalize i:bL (ay y) g=aw at o;induction aw using aB with|none=>exact⟨u.2,L,H,o,by rw[TX i];exact v,cY P⟩|some K=>exact au (TZ K i) λT3 I n=>⟨K,L,H,o,by rw[I];exact n,cY P⟩
end
section
open Builtin Builtin._codecs
theorem IG{N e:Type}{K:N->e->aZ (ForInStep e)}{a A:e}:∀{g:List N} (_:∀c,K c a=pure (.yield A)) (_:∀c,K c A=pure (.done A)),(forIn g a K:aZ e)=pure (if g.isEmpty then a else A)
 | [],_,_=>rfl|v::g,d,b=>by
  rw[mm,d];show(forIn g A K:aZ e)=_;induction g using aS with|nil=>rfl|cons m g=>rw[mm,b];rfl
noncomputable def bytesOf(B:TextCodec)(l:am):Array UInt8:=l.cps.foldl (λf X=>f++(B.bytesOf X).toArray) #[]
theorem IH(l:am):l.cps.extract 0 l.cps.size=l.cps:=by simp
theorem II{B:TextCodec}{l:am}(T:∀y∈l.cps,B.bad y=E):l.cps.findIdx? B.bad=none:=by rw[Array.findIdx?_eq_none_iff];exact T
abbrev sG :=Nat×Array UInt8×Faults
theorem IJ(id:String)(B:TextCodec)(a:J)(l:am):∃K:Nat->sG->aZ (ForInStep sG),encodeNarrow id B G a l=(forIn (m:=aZ) ([:l.length]:p5) ((0,#[],{}):sG) K>>=λT=>pure T.2.1)/\
  (∀c T,¬T.2.1.size>gF->l.cps[T.1]? =G->K c T=pure (.done T))/\
  ∀c T y,¬T.2.1.size>gF->l.cps[T.1]? =Y y->B.bad y=E->K c T=pure (.yield (T.1+((l.cps.extract T.1 l.cps.size).findIdx? B.bad).getD (l.cps.extract T.1 l.cps.size).size,((l.cps.extract T.1 l.cps.size).extract 0 (((l.cps.extract T.1 l.cps.size).findIdx? B.bad).getD (l.cps.extract T.1 l.cps.size).size)).foldl (λf X=>f++(B.bytesOf X).toArray) T.2.1,T.2.2)):=by
 refine cW _ rfl (λc T b p=>?_) (λc T y b p x=>?_)
 ·exact(if_neg b).trans (U p rfl)
 ·exact(if_neg b).trans (U p (if_pos (congrArg not x)))
theorem IK(id:String)(B:TextCodec)(a:J)(l:am)(T:∀y∈l.cps,B.bad y=E)(P:(bytesOf B l).size<=gF):encodeNarrow id B G a l=pure (bytesOf B l):=by
 refine bX (IJ id B a l) λK o z s=>U o ?_;rw[TF];clear o;by_cases i:l.cps.size=0
 ·have o:l.length=0:=i;have g:bytesOf B l= #[]:=by unfold bytesOf;refine U (Array.eq_empty_of_size_eq_zero i) ?_;rfl
  refine U o (U g ?_);rfl
 ·have q:l.cps[0]? =Y l.cps[0]:=by simp
  have p:=λc=>s c ((0,#[],{}):sG) l.cps[0] (Nat.not_lt_zero _) q (T _ (Array.getElem_mem _));simp only[IH,II T,Option.getD_none,Nat.zero_add] at p;refine U (IG (A:=(l.cps.size,bytesOf B l,{})) p λc=>z c _ (Nat.not_lt.mpr P) (by simp)) ?_
  have o:([:l.length]:p5).size=l.cps.size:=by simp[TG,Str.length]
  have D:(IL (0) ([:l.length]:p5).size 1).isEmpty=false:=by refine U o (aD (Nat.exists_eq_succ_of_ne_zero i) λC u=>U u ?_);rfl
  have b:(IL ([:l.length]:p5).start ([:l.length]:p5).size ([:l.length]:p5).step).isEmpty=false:=D;refine U b ?_;rfl
theorem A1 :∀{g:List Nat},ascii g=M->∀y∈g,y<=127:=by
 intro s;induction s with|nil=>intro I I q;cases q|cons v g F=>
  intro j y q;unfold ascii at j;generalize u:Nat.ble v 127=K;induction K using ap with|false=>replace j:=u▸j;exact aG j|true=>
   replace j:=u▸j;rcases aW.mp q with rfl|q
   ·exact Nat.le_of_ble_eq_true u
   ·exact F j y q
theorem toU(v:Nat)(j:v<=127):v.toUInt8.toNat=v:=by exact Nat.mod_eq_of_lt (Nat.lt_of_le_of_lt j (by decide))
theorem IM{m:Nat->List UInt8}(T:∀y,y<=127->m y= [y.toUInt8]):∀(g:List Nat) (f:Array UInt8),(∀y∈g,y<=127)->(g.foldl (λf X=>f++(m X).toArray) f).toList.map (·.toNat)=f.toList.map (·.toNat)++g:=by
 intro s;induction s with|nil=>intro f I;simp|cons v g F=>intro f j;refine U List.foldl_cons (U (F _ λy q=>j y (gO _ q)) (U (T v (j v (gf ..))) ?_));simp[toU v (j v (gf ..))]
theorem IN{B:TextCodec}(T:∀y,y<=127->B.bytesOf y= [y.toUInt8])(l:am)(j:ascii (ay l)=M):(bytesOf B l).toList.map (·.toNat)=ay l:=by unfold bytesOf;rw[<-Array.foldl_toList];exact IM T _ _ (A1 j)
section
variable{B:aa}{S:Nat}{W:Inv B}{L:O}{h:V->O->Prop}{D:Nat->Nat->O->Prop}
theorem A2{l:ai}{s:aY}{y o:am}{d c:d1}{a n:J->ai->Prop}{Z:TextCodec}
  (C:«str.encode» ⟨[.str y d,.str o c],[]⟩=(do ret (<-(do mkBytes (<-encodeNarrow "str.encode" Z G (.str y d) y)))))(T:∀y,y<=127->Z.bytesOf y= [y.toUInt8])(b:∀y,y<=127->Z.bad y=E)
  (j:ascii (ay y)=M)(P:(ay y).length<=1000)(p:∀m,m.toList.map (·.toNat)=ay y->a (.bytes m l.toks) {l with toks:=l.toks+1}):ao (aA B.prog B.w) s (bV (.builtin "str.encode") [.str y d,.str o c]) a n l:=by
 have u:=IN T y j;have I:(bytesOf Z y).size=(ay y).length:=by refine U u.symm ?_;rw[i4];exact U eQ rfl
 refine jU Ig (typeIs_str _ _ _) PySem.F.entry_str_encode ?_ (PySem.F.args_str_encode_2 _ _);refine U C (U (IK _ _ _ _ (λX W=>b X (A1 j X (by simpa[ay] using W))) (by rw[I,cT];exact Nat.le_trans P (by decide))) (ab (ab (aH ?_))))
 unfold mkBytes;rw[if_neg (by rw[I,cT];exact Nat.not_lt.mpr (Nat.le_trans P (by decide)))]
 exact ab (wpAny_fresh (aH (aH (aC _ rfl (p _ u)))))
end
theorem IP(y:am)(d c:d1):«str.encode» ⟨[.str y d,.str (dt "utf-8") c],[]⟩=(do ret (<-encodeRoad "str.encode" (.str y d) y (dt "utf-8") G)):=by with_unfolding_all rfl
theorem IQ(y:am)(d c:d1):«str.encode» ⟨[.str y d,.str (dt "ascii") c],[]⟩=(do ret (<-encodeRoad "str.encode" (.str y d) y (dt "ascii") G)):=by with_unfolding_all rfl
theorem IR(id:String)(a:J)(y:am)(b:Option am):encodeRoad id a y (dt "ascii") b=(do mkBytes (<-encodeNarrow id asciiCodec b a y)):=by first|rfl|(unfold encodeRoad;rfl)|(unfold encodeRoad;simp only[];rfl)|decide
end
section
open Builtin Builtin._codecs
section
variable{B:aa}{S:Nat}{n:Inv B}{m:cN}{Un:eS}{R:Rec}{a:a4}{k:aF}{Q:al}{L:O}{h:V->O->Prop}{D:Nat->Nat->O->Prop}
theorem IS{y:Nat}(q:y<=127):utf8Codec.bytesOf y= [y.toUInt8]:=by show IT y=_;unfold IT;exact U (if_pos (Nat.lt_succ_of_le q)) rfl
theorem IU{y:Nat}(q:y<=127):utf8Codec.bad y=false:=by show(decide (0xD800<=y)&&_)=E;refine U (decide_eq_false (λu=>absurd (Nat.le_trans u q) (by decide))) ?_;rfl
theorem IV{v m:Bool}(j:vK v m=M):v=M\/m=true:=by
 induction v using ap with|true=>exact .inl rfl|false=>exact .inr j
theorem IW{s:aY}{H:ax}{l:ai}{y X:am}{d Q:d1}(P:Rep B H L l.heap)(b:ascii (ay y)=M)(p:Nat.ble (ay y).length 1000=M)(o:h (.bytes (ay y)) L)(j:vK (a0 (ay X) [117,116,102,45,56]) (a0 (ay X) [97,115,99,105,105])=M):
  ao (aA B.prog B.w) s (bV (.builtin "str.encode") [.str y d,.str X Q]) (ef (c:=B) bh h H l) (dq B D H l) l:=by
 have done:∀m:Array UInt8,m.toList.map (·.toNat)=ay y->ef (c:=B) bh h H l (.bytes m l.toks) {l with toks:=l.toks+1}:=λm T=>⟨_,L,H,o,⟨m,_,rfl,T⟩,cY P⟩
 rcases IV j with a|a
 ·obtain rfl:X=dt "utf-8":=fu ((dL.mp a).trans rfl);exact A2 (Z:=utf8Codec) (by rw[IP,PySem.encodeRoad_utf8]) (λy q=>IS q) (λy q=>IU q) b (Nat.le_of_ble_eq_true p) done
 ·obtain rfl:X=dt "ascii":=fu ((dL.mp a).trans rfl);exact A2 (Z:=asciiCodec) (by rw[IQ,IR]) (λy q=>rfl) (λy q=>decide_eq_false (Nat.not_le.mpr (Nat.lt_succ_of_le q))) b (Nat.le_of_ble_eq_true p) done
theorem IX{s:Key}{m:List V}{k:Key}{N:J}{e:List J}(o:(Ac L s k m).to h D)(q:∀H j,n.p H j->aq H j (.str s) N)(w:∀H j,n.p H j->aE H j m e):
  ae B S n L (bV (.builtin "str.encode") (N::e)) bh h D:=λTY TR H l Z F P f c=>by
 refine hd λTS W=>?_;obtain ⟨y,d,rfl,rfl⟩:=q _ _ f;have u:=w _ _ f;refine ak (dr o) λI t=>au (cO t) λv i g=>au (cO g) λC r z=>ak (dr z) λa A=>ak (dr A) λb K=>ak (dr K) λR T=>?_;clear o t g z A K;rw[ID i,po r] at u;obtain ⟨x,TV,rfl,⟨X,Q,rfl,rfl⟩,rfl⟩:=u;exact W (IW P b R T a)
theorem IY{B:aa}{z:hL}{d:Key}(a:jS B)(j:∀v,z=.own v->c5 v jN=M)(m:z=.lst->d∈[iQ,iR,fI,jL]):mh B (im z d):=by
 induction z using hL.casesOn with
 |own v=>exact λq X=>keeps_K (a v (j v rfl)) q X|lst=>have:=m rfl;simp only[aW,p3,or_false] at this;rcases this with rfl|rfl|rfl|rfl <;>exact nQ rfl
 |ma=>exact nQ rfl|str=>exact nQ rfl
theorem A3{Un:eS}{N:V}{y:Key}{z:hL}(o:iS Un L N y=Y z):(∀v,z=.own v->c5 v jN=M)/\(z=.lst->y∈[iQ,iR,fI,jL])/\(z=.lst->∃A C,N=.ref A C/\C<2^24):=by
 rcases AW o with⟨l,rfl,_,rfl⟩|⟨A,C,rfl,j⟩
 ·exact aQ (λv o=>(nomatch o)) (λo=>(nomatch o)) (λo=>(nomatch o))
 ·rcases j with⟨g,a,b,p,rfl⟩|⟨g,a,b,rfl⟩|⟨x,g,v,a,h,u,f,rfl⟩
  ·exact aQ (λv o=>(nomatch o)) (λI=>wu b) (λI=>d9 _ _ rfl (fb.mp p))
  ·exact aQ (λv o=>(nomatch o)) (λo=>(nomatch o)) (λo=>(nomatch o))
  ·exact aQ (λm o=>(by injection o with o;refine U o.symm ?_;exact f)) (λo=>(nomatch o)) (λo=>(nomatch o))
theorem IZ{r:Option aj}{g:List (Key×V)}(j:Ad r=Y g):r=Y (.dict g):=by
 induction r using aB with|none=>exact ag j|some r=>induction r using aj.casesOn with|dict=>exact U (an j) rfl|_=>exact ag j
theorem I0(ok:B.Fine)(a:gN B S m){N:V}{d:Key}{z:hL}{t:List V}{r:J}{e:List J}(o:(vM m L N d z t).to h D)(X:z=.lst->∃A C,N=.ref A C/\C<2^24)
  (q:∀H j,n.p H j->aq H j N r)(w:∀H j,n.p H j->aE H j t e):ae B S n L (bV (im z d) (r::e)) bh h D:=by
 induction z using hL.casesOn with
 |own v=>exact a o (λI I I=>rfl) (λI I f=>.cons (q _ _ f) (w _ _ f))|lst=>
  refine au (cO o) λZ T o=>au (cO o) λg u o=>dZ (X rfl) λI I c X=>?_;replace c:=(pn T)▸c;replace q:=(pn T)▸q;injection c with _ c
  exact IB o (su u) (c▸X) q w
 |ma=>refine au (cO o) λZ T o=>au (cO o) λg u o=>?_;replace q:=(pn T)▸q;exact IF ok o (IZ u) q w|str=>refine au (cO o) λl R o=>?_;replace q:=(po R)▸q;exact IX o q w
theorem I1{c:ah->aK}{r:ah}{v:am}{f z:aN}{n:List ah}{P:aK->Prop}(j:P (kT c (.Attribute r v f) n z))(T:P .bad->False):gK r=E/\Nat.beq f.endLine z.line=M/\Nat.blt n.length 30=M/\dN n=M/\P (pS c r (ay v) n):=by unfold kT at j;generalize b:(gK r)=K;induction K using ap <;>cases p:Nat.beq f.endLine z.line <;>cases x:Nat.blt n.length 30 <;>cases q:dN n <;>dsimp only at j <;>rw[b,p,x,q] at j <;>first|exact(g8 rfl rfl rfl rfl j)|exact(T j).elim
theorem I2(ok:B.Fine)(mt:jT B Un)(Us:jS B)(K:ROk B S R)(TW:gN B S m)(g:a8 a k){W:Nat}{r:ah}{v:am}{t:aN}{C:List ah}{Z:aN}
  (b:gK r=E)(p:Nat.beq t.endLine Z.line=M)(w:Nat.blt C.length 30=M)(u:dN C=M)
  (j:(dc m Un R (.vH (az W a r) (ay v) (C.map (az W a))) Q L).to h D):bq B S k Q L (.Call (.Attribute r v t) C [] Z) h D:=by
 replace j:((R.e (az W a r) Q L).bind λN L=>b4 (iS Un L N (ay v)) λz=>(R.bw (C.map (az W a)) Q L).bind λx L=>vM m L N (ay v) z x).to h D:=j;rw[Res.bc] at j;show ae B S _ L (aX (.Call (.Attribute r v t) C [] Z) k) _ _ _;refine U (sC r v t Z C k b p w u) (ae.bind (ae.q (K.e g j) (λN y A=>?_)));intro s;refine au (cO A) λz d o=>?_;rw[Res.bc] at o;refine br (A3 d) λUr X Up=>ae.standAt (ae.iM (R:=eE) (im z (ay v),[s]) y (ae.holding (AX ok mt d (λI I f=>f.2))) λUt=>λUi i H l T F P f c=>?_);have Uk:(im z (ay v),[s])=Ut:=f.2;subst Uk;refine sB ok.dR (w:=(loc B k Q).and (ee N s)) (k:=k) (Q:=Q) u (IY Us Ur X) (λI I f=>f.1) (ae.q (K.bw g o) (λx TZ TR=>?_)) Ui i H l T F P f.1 c;intro Uj;exact I0 ok TW TR Up (λI I f=>f.1.2) (λI I f=>f.2)
end
end
section
variable{H:e9}{t:cf}{s:aY}{l:ai}{a:Option J->ai->Prop}{n:J->ai->Prop}
theorem wz{N:Type}{h:af}{j:av}{a:N->ai->Prop}(z:s.handled=G)(X:i5 h j l.heap)(P:j.objs.size<=l.heap.objs.size)(K:∀q o,i5 h j q->j.objs.size<=q.objs.size->(∃r,q.get? o=Y r/\r.cls=.type "StopIteration")->n (.ref o) {l with heap:=q}):
  ao (aA H t) s.in1 (newExc (.type "StopIteration") []>>=λo=>raiseNew o) a n l:=by
 refine ab (ab (ib ?_ (by size_fits)))
 refine ab (m:=I3 _ _) (A4 (a:=cA) (by first|rfl|(simp only[I3];rfl)) (ib ?_ (by size_fits)))
 exact ab (wpAny_handled (U (show s.in1.handled=G from z) (ab (aH (A5 (K _ _ ((X.push _).push _) (Nat.le_trans P (Nat.le_trans (push_size _) (push_size _))) (aC _ (ct _ rfl) rfl)))))))
theorem A6{h g:af}{f:Nat}{e:Array J}{y:J}(N:l.heap.IsListIter h g f)(u:l.heap.IsList g e)(X:e[f]? =Y y)
  (T:∀q,q.IsListIter h g (f+1)->cL h l.heap q->a (Y y) {l with heap:=q}):ao (aA H t) s (callSpecial? (.ref h) "__next__") a n l:=by
 refine bX (id N) λr F k hd=>lW u λd b I L c=>?_;clear u;refine k7 (name:=dt "__next__") N.typeIs wA (jU wA N.typeIs I4 ?_ (I5 _));show ao _ _ (d2 (.ref h) 0>>=_) _ _ l;refine ab (b9 F hd (x:=.ref g) rfl ?_);show ao _ _ (if(bZ g==cA)=M then _ else _) _ _ l
 rw[if_neg (show¬((bZ g==cA)=M) from i3)];show ao _ _ (d2 (.ref h) 1>>=_) _ _ l;refine ab (b9 F hd (x:=.int f 0) rfl ?_);show ao _ _ (seqItems? (.ref g)>>=_) _ _ l;refine ab (hm b c ?_);simp only[sH,X];refine ab (mn F hd (by simp) (aH (aC y rfl (T _ ?_ (i6 ..)))))
 exact cW _ (hk _ F (sI (i7 hd _))) ((I6 ..).trans k) (by rw[i7 hd];simp[cB])
theorem A7{h g:af}{f:Nat}{e:Array J}(z:s.handled=G)(N:l.heap.IsListIter h g f)(u:l.heap.IsList g e)(X:e[f]? =G)
  (K:∀q o,i5 h l.heap q->l.heap.objs.size<=q.objs.size->(∃r,q.get? o=Y r/\r.cls=.type "StopIteration")->n (.ref o) {l with heap:=q}):ao (aA H t) s (callSpecial? (.ref h) "__next__") a n l:=by
 refine bX (id N) λr F k hd=>lW u λd b I L c=>?_;clear u;refine k7 (name:=dt "__next__") N.typeIs wA (jU wA N.typeIs I4 ?_ (I5 _));show ao _ _ (d2 (.ref h) 0>>=_) _ _ l;refine ab (b9 F hd (x:=.ref g) rfl ?_);show ao _ _ (if(bZ g==cA)=M then _ else _) _ _ l
 refine U (if_neg (show¬((bZ g==cA)=M) from i3)) ?_;show ao _ _ (d2 (.ref h) 1>>=_) _ _ l;refine ab (b9 F hd (x:=.int f 0) rfl ?_);show ao _ _ (seqItems? (.ref g)>>=_) _ _ l;refine ab (hm b c ?_);simp only[sH,X];exact ab (hG (ab (mn F hd (by simp) (wz z (i6 ..).extBut (Nat.le_of_eq (i6 ..).1.symm) K))))
theorem I7{h g:af}{f:Nat}{e:Array J}{y:J}(N:l.heap.IsTupleIter h g f)(u:l.heap.IsTuple g e)(X:e[f]? =Y y)
  (T:∀q,q.IsTupleIter h g (f+1)->cL h l.heap q->a (Y y) {l with heap:=q}):ao (aA H t) s (callSpecial? (.ref h) "__next__") a n l:=by
 refine bX (id N) λr Q k hd=>lW u λd b I L c=>?_;clear u;refine k7 (name:=dt "__next__") N.typeIs F.slot_tuple_iterator_next (jU F.slot_tuple_iterator_next N.typeIs F.entry_tuple_iterator_next ?_ (F.args_tuple_iterator_next_1 _));show ao _ _ (d2 (.ref h) 0>>=_) _ _ l;refine ab (b9 Q hd (x:=.ref g) rfl ?_);show ao _ _ (if(bZ g==cA)=M then _ else _) _ _ l
 rw[if_neg (show¬((bZ g==cA)=M) from i3)];show ao _ _ (d2 (.ref h) 1>>=_) _ _ l;refine ab (b9 Q hd (x:=.int f 0) rfl ?_);show ao _ _ (seqItems? (.ref g)>>=_) _ _ l;refine ab (hm b c ?_);simp only[sH,X];refine ab (mn Q hd (by simp) (aH (aC y rfl (T _ ?_ (i6 ..)))))
 exact cW _ (hk _ Q (sI (i7 hd _))) ((I6 ..).trans k) (by rw[i7 hd];simp[cB])
theorem A8{h g:af}{f:Nat}{e:Array J}(z:s.handled=G)(N:l.heap.IsTupleIter h g f)(u:l.heap.IsTuple g e)(X:e[f]? =G)
  (K:∀q o,i5 h l.heap q->l.heap.objs.size<=q.objs.size->(∃r,q.get? o=Y r/\r.cls=.type "StopIteration")->n (.ref o) {l with heap:=q}):ao (aA H t) s (callSpecial? (.ref h) "__next__") a n l:=by
 refine bX (id N) λr Q k hd=>lW u λd b I L c=>?_;clear u;refine k7 (name:=dt "__next__") N.typeIs F.slot_tuple_iterator_next (jU F.slot_tuple_iterator_next N.typeIs F.entry_tuple_iterator_next ?_ (F.args_tuple_iterator_next_1 _));show ao _ _ (d2 (.ref h) 0>>=_) _ _ l;refine ab (b9 Q hd (x:=.ref g) rfl ?_);show ao _ _ (if(bZ g==cA)=M then _ else _) _ _ l
 refine U (if_neg (show¬((bZ g==cA)=M) from i3)) ?_;show ao _ _ (d2 (.ref h) 1>>=_) _ _ l;refine ab (b9 Q hd (x:=.int f 0) rfl ?_);show ao _ _ (seqItems? (.ref g)>>=_) _ _ l;refine ab (hm b c ?_);simp only[sH,X];exact ab (hG (ab (mn Q hd (by simp) (wz z (i6 ..).extBut (Nat.le_of_eq (i6 ..).1.symm) K))))
theorem I8{h:af}{x left:Int}(N:p6 l.heap h x left 1)(b:0<left)
  (T:∀q,p6 q h (x+1) (left-1) 1->cL h l.heap q->a (Y (.int x l.toks)) {l with heap:=q,toks:=l.toks+1}):ao (aA H t) s (callSpecial? (.ref h) "__next__") a n l:=by
 have L:l.TypeIs (.ref h) "range_iterator":=aC _ N rfl;refine k7 (name:=dt "__next__") L F.slot_range_iterator_next
  (p4 F.slot_range_iterator_next L F.entry_range_iterator_next (F.args_range_iterator_next_1 _) (AutoRange.range_iterator___next___range_iterator_1 h x left 1 (by lia)) ⟨N,?_⟩)
 exact T _ (hk _ (hk _ N rfl) rfl) ((i6 ..).trans (i6 ..))
theorem I9{h:af}{x left:Int}(z:s.handled=G)(N:p6 l.heap h x left 1)(b:left<=0)
  (K:∀q o,i5 h l.heap q->l.heap.objs.size<=q.objs.size->(∃r,q.get? o=Y r/\r.cls=.type "StopIteration")->n (.ref o) {l with heap:=q}):ao (aA H t) s (callSpecial? (.ref h) "__next__") a n l:=by
 have L:l.TypeIs (.ref h) "range_iterator":=aC _ N rfl;refine k7 (name:=dt "__next__") L F.slot_range_iterator_next
  (jU F.slot_range_iterator_next L F.entry_range_iterator_next ?_ (F.args_range_iterator_next_1 _))
 show ao _ _ (d2 (.ref h) 0>>=_) _ _ l;refine ab (b9 N rfl (x:=cB x) rfl ?_);show ao _ _ (d2 (.ref h) 1>>=_) _ _ l;refine ab (b9 N rfl (x:=cB left) rfl ?_);show ao _ _ (d2 (.ref h) 2>>=_) _ _ l;refine ab (b9 N rfl (x:=cB 1) rfl ?_);show ao _ _ (if left<=0 then _ else _) _ _ l
 exact U (if_pos b) (ab (hG (ab (wz z (TH h l.heap) (Nat.le_refl _) K))))
end
inductive Ja(γ:ax)(h:av)(xs:List V)(it:af):Prop
 |mk (t:af) (items:Array J) (j:Nat) (tp:aO γ h t items) (i:h.IsTupleIter it t j) (r:aE γ h xs (items.toList.drop j))
def ca(H:ax)(j:av):Src->af->Prop
 |.lst A C f,h=>∃p,H A C=Y p/\j.IsListIter h p.1 f|.tup xs,h=>Ja H j xs h|.cg v m,h=>∃left,p6 j h v left 1/\(left=m-v\/(left=0/\m<=v))|_,_=>False
theorem ca.at{H h it}:∀{X},ca H h X it->∃r,h.get? it=Y r/\r.cls≠.type "tuple"/\r.cls≠.type "list"/\r.cls≠.type "zip"/\r.cls≠.type "enumerate"/\∃e,r.data=.fields e
 |.lst _ _ _,⟨_,_,r,F,k,hd⟩=>aC r F (by refine U k ?_;refine U hd ?_;simp)|.tup _,⟨_,_,_,_,⟨r,F,k,hd⟩,_⟩=>aC r F (by refine U k ?_;refine U hd ?_;simp)|.cg _ _,⟨_,o,_⟩=>aC _ o (by simp)|.zip _ _ _ _,o=>o.elim|.enum _ _,o=>o.elim
theorem A9{v m:Int}:ltI v m=M<->v<m:=by rw[rU];simp
section
variable{L:O}{A C f:Nat}{y:V}{W v m:Src}{Z u:Int}
theorem Ba(o:nextM L (.lst A C f)=Y (Y (y,W))):∃x,L.get A C=Y (.list x)/\x[f]? =Y y/\W=.lst A C (f+1):=by
 unfold nextM at o;generalize L.get A C=r at o;induction r using aB with|none=>exact ag o|some r=>induction r using aj.casesOn with
  |list x=>
   dsimp only at o;generalize j:x[f]? =X at o;induction X using aB with|none=>exact ag (an o)|some X=>replace o:=du (an (an o));exact cW x rfl (o.1▸j) o.2.symm
  |_=>exact ag o
theorem Jb(o:nextM L (.lst A C f)=Y G):∃x,L.get A C=Y (.list x)/\x[f]? =none:=by
 unfold nextM at o;generalize L.get A C=r at o;induction r using aB with|none=>exact ag o|some r=>induction r using aj.casesOn with
  |list x=>
   dsimp only at o;generalize j:x[f]? =X at o;induction X using aB with|none=>exact aC x rfl j|some X=>exact ha (an o)
  |_=>exact ag o
theorem Bb(o:nextM L (.cg Z u)=Y (Y (y,W))):ltI Z u=M/\y=.int Z/\W=.cg (Z+1) u:=by
 unfold nextM at o;generalize ltI Z u=m at o;induction m using ap with|false=>exact ag (an o)|true=>replace o:=du (an (an o));exact aQ rfl o.1.symm o.2.symm
theorem Jc(o:nextM L (.cg Z u)=Y G):ltI Z u=false:=by
 unfold nextM at o;generalize ltI Z u=m at o;induction m using ap with|false=>rfl|true=>exact ha (an o)
theorem Jd(o:nextM L (.enum f v)=Y (Y (y,W))):∃X Z,nextM L v=Y (Y (X,Z))/\y=.tup [.int f,X]/\W=.enum (f+1) Z:=by
 unfold nextM at o;generalize nextM L v=r at o;induction r using aB with|none=>exact ag o|some r=>induction r using aB with|none=>exact ag (an o)|some i=>obtain ⟨X,Z⟩:=i;replace o:=du (an (an o));exact hE X Z rfl o.1.symm o.2.symm
theorem Je(o:nextM L (.enum f v)=Y G):nextM L v=Y none:=by
 unfold nextM at o;generalize nextM L v=r at o;induction r using aB with|none=>exact ag o|some r=>induction r using aB with|none=>rfl|some i=>exact ha (an o)
theorem Jf(o:nextM L (.zip A C v m)=Y (Y (y,W))):L.get A C=Y .ce/\∃X Z i K,nextM L v=Y (Y (X,Z))/\nextM L m=Y (Y (i,K))/\y=.tup [X,i]/\W=.zip A C Z K:=by
 unfold nextM at o;generalize L.get A C=r at o;induction r using aB with|none=>exact ag o|some r=>induction r using aj.casesOn with
  |ce=>
   refine⟨rfl,?_⟩;dsimp only at o;generalize nextM L v=r at o;induction r using aB with|none=>exact ag o|some r=>induction r using aB with|none=>exact ag (an o)|some i=>
     obtain ⟨X,Z⟩:=i;dsimp only at o;generalize nextM L m=r at o;induction r using aB with|none=>exact ag o|some r=>induction r using aB with|none=>exact ag (an o)|some i=>obtain ⟨i,K⟩:=i;replace o:=du (an (an o));exact c9 X Z i ⟨K,rfl,rfl,o.1.symm,o.2.symm⟩
  |_=>exact ag o
theorem Jg(o:nextM L (.zip A C v m)=Y G):L.get A C=Y .ce/\(nextM L v=Y G\/∃y Z,nextM L v=Y (Y (y,Z))/\nextM L m=Y G):=by
 unfold nextM at o;generalize L.get A C=r at o;induction r using aB with|none=>exact ag o|some r=>induction r using aj.casesOn with
  |ce=>
   refine⟨rfl,?_⟩;dsimp only at o;generalize nextM L v=r at o⊢;induction r using aB with|none=>exact ag o|some r=>induction r using aB with|none=>exact .inl rfl|some i=>
     obtain ⟨X,Z⟩:=i;dsimp only at o;generalize nextM L m=r at o⊢;induction r using aB with|none=>exact ag o|some r=>induction r using aB with|none=>exact .inr (d9 X Z rfl rfl)|some i=>exact ha (an o)
  |_=>exact ag o
end
section
variable{B:aa}{H:ax}{L:O}{s:aY}{l:ai}{a:Option J->ai->Prop}{n:J->ai->Prop}
theorem Bc{p b:Src}{y:V}{h:af}(Ui:Rep B H L l.heap)(t:ca H l.heap p h)(o:nextM L p=Y (Y (y,b)))
  (j:∀N q TX,aq H l.heap y N->ca H q b h->cL h l.heap q->a (Y N) {l with heap:=q,toks:=TX}):ao (aA B.prog B.w) s (callSpecial? (.ref h) "__next__") a n l:=by
 refine hd λUD W=>?_;induction p using Src.casesOn with
 |lst T5 UB TR=>refine au t λTS S f=>?_;clear t;refine bX (Ba o) λx T6 Un Q=>?_;clear o;subst Q;obtain ⟨_,e,⟨Uc,Ub⟩,R⟩:=Ui.obj _ _ _ _ S T6;exact au (R.get Un) λN i c=>W (A6 f (g9 _ Ub rfl _ rfl) (by refine U (hf).symm ?_;exact i) λq v m=>j N q l.toks c (aC TS S v) m)
 |tup x=>
  obtain ⟨d,e,k,A,f,R⟩:=t;induction x using aS with|nil=>cases o|cons T1 Ut=>
   cases o;obtain ⟨N,TY,D,c,T4⟩:=R;have i:e[k]? =Y N:=by refine U (hf).symm ?_;refine U (Jh).symm ?_;refine U D ?_;rfl
   have T0:e.toList.drop (k+1)=TY:=by refine U List.tail_drop.symm ?_;refine U D ?_;rfl
   have Uk:d≠h:=λu=>by refine bX A.tup λr F g I=>bX f λUm C X I=>?_;clear f;rw[u,C] at F;obtain rfl:=an F;rw[X] at g;simp at g
   refine W (I7 f A.tup i λq v m=>j N q l.toks c ⟨d,e,k+1,A.keep A.bu λr F=>?_,v,?_⟩ m)
   ·exact(m.2 d Uk).trans F
   ·refine U T0 (aE.ba (λI I I o=>o) (λP Uh z=>?_) _ T4);refine z.keep z.bu λr F=>(m.2 P λu=>?_).trans F;refine bX z.tup λTU K T I=>bX f λUm C X I=>?_;clear f;rw[u,C] at K;obtain rfl:=an K;rw[X] at T;simp at T
 |cg v m=>
  refine br (Bb o) λZ Q Ue=>?_;subst Q;clear o;subst Ue
  ·replace Z:=A9.mp Z;exact au t λleft t TW=>W (I8 t (by lia) λq P TV=>j (.int v l.toks) q (l.toks+1) ⟨_,rfl⟩ (aC (left-1) P (by lia)) TV)
 |zip=>exact t.elim|enum=>exact t.elim
theorem Bd{X:Src}{h:af}(j:s.handled=G)(P:Rep B H L l.heap)(Q:ca H l.heap X h)(o:nextM L X=Y G)
  (y:∀q o,i5 h l.heap q->l.heap.objs.size<=q.objs.size->(∃r,q.get? o=Y r/\r.cls=.type "StopIteration")->n (.ref o) {l with heap:=q}):ao (aA B.prog B.w) s (callSpecial? (.ref h) "__next__") a n l:=by
 refine hd λi W=>?_;induction X using Src.casesOn with
 |lst A C f=>refine au Q λZ S N=>?_;clear Q;refine au (Jb o) λx K t=>?_;obtain ⟨_,e,⟨z,b⟩,R⟩:=P.obj _ _ _ _ S K;exact W (A7 j N (g9 _ b rfl _ rfl) (by refine U (hf).symm ?_;exact R.none t) y)
 |tup x=>
  obtain ⟨d,e,k,c,N,R⟩:=Q;induction x using aS with|cons=>cases o|nil=>replace R:e.toList.drop k= []:=R;refine W (A8 j N c.tup ?_ y);refine U (hf).symm ?_;refine U (Jh).symm ?_;refine U R ?_;rfl
 |cg v m=>
  have g:=Jc o
  ·have:¬v<m:=λu=>by rw[A9.mpr u] at g;exact cS g
   exact au Q λleft Q T=>W (I9 j Q (by lia) y)
 |zip=>exact Q.elim|enum=>exact Q.elim
end
structure a5(D:af->Prop)(h h':av):Prop where
 k:∀a aw,h.get? a=Y aw->¬D a->h'.get? a=Y aw
 z:h.objs.size<=h'.objs.size
theorem a5.refl{D h}:a5 D h h:=⟨λI I o I=>o,Nat.le_refl _⟩
theorem a5.same{D:af->Prop}{j q w:av}{v:af}(y:a5 D j q)(X:cL v q w)(W:D v):a5 D j w:=
 ⟨λm r o K=>(X.2 m λu=>K (u▸W)).trans (y.k m r o K),by refine U X.1 ?_;exact y.z⟩
theorem a5.ext{D:af->Prop}{j q w:av}{v:af}(y:a5 D j q)(X:i5 v q w)(W:D v)(i:q.objs.size<=w.objs.size):a5 D j w:=
 ⟨λm r o K=>X m r (λu=>K (u▸W)) (y.k m r o K),Nat.le_trans y.z i⟩
theorem a5.push{D:af->Prop}{j q:av}(y:a5 D j q)(r:bA):a5 D j (q.push r):=
 ⟨λm P o K=>b6 _ _ _ (y.k m P o K),Nat.le_trans y.z (push_size _)⟩
inductive k8(γ:ax)(σ:O)(a:af):Prop
 |mk (k n:Nat) (p:af×af) (e:γ k n=Y p) (j:σ.get k n=Y .ce) (x:a=p.1) (y:a=p.2)
structure jV(c:aa)(γ:ax)(h:av)(a:af):Prop where
 bu:¬foot γ a
 nb:c.base.get? a=G
 Ji:∀items,¬h.IsTuple a items
section
variable{B:aa}{H F:ax}{L:O}{j d q:av}{D:af->Prop}
theorem Rep.change(R:Rep B H L j)(T:∀v,D v->jV B H j v\/(k8 H L v/\∃c N,de q v c N))(x:a5 D j q):Rep B H L q/\∀v e,aO H j v e->aO H q v e:=by
 have n:∀v e,aO H j v e->aO H q v e:=λv e d=>by
  refine d.keep d.bu λr o=>x.k v r o λW=>?_;rcases T v W with S|⟨⟨A,C,Z,z,_,s,_⟩,_⟩
  ·exact S.Ji _ d.tup
  ·exact d.bu ⟨A,C,Z,z,.inl s⟩
 refine⟨⟨λv r o=>x.k v r (R.stays v r o) λW=>?_,R.ed,λA C Z r o u=>?_,R.new,R.sep⟩,n⟩
 ·rcases T v W with S|⟨⟨A,C,Z,z,_,s,_⟩,_⟩
  ·rw[S.nb] at o;exact ag o
  ·rw[s,(R.new _ _ _ z).1] at o;exact ag o
 ·by_cases h:r=.ce
  ·subst h;obtain ⟨z,c,N,F⟩:=R.obj _ _ _ _ o u;by_cases W:D Z.1
   ·rcases T _ W with S|⟨_,c,N,F⟩
    ·exact absurd ⟨A,C,Z,o,.inl rfl⟩ S.bu
    ·exact⟨z,c,N,F⟩
   ·exact⟨z,c,N,x.k _ _ F W⟩
  ·have K:∀v,(v=Z.1\/v=Z.2)->¬D v:=λv f W=>by
    rcases T v W with S|⟨⟨w,a,l,z,g,s,p⟩,_⟩
    ·exact S.bu ⟨A,C,Z,o,f⟩
    ·have m:A=w/\C=a:=by
      apply va;intro t;have y:=R.sep A C Z w a l o z (by rcases u8 (A=w) with i|i;exact .inr λX=>t ⟨i,X⟩;exact .inl i)
      rcases f with f|f
      ·exact y.1 (f.symm.trans s)
      ·exact y.2.2.1 (f.symm.trans s)
     refine ak m λQ b=>?_;clear m;subst Q;clear z;subst b;rw[u] at g;obtain rfl:=an g;exact h rfl
   exact c4.ba (λI I I o=>o) n (λr F=>x.k _ _ F (K _ (.inl rfl))) (λr F=>x.k _ _ F (K _ (.inr rfl))) r (R.obj _ _ _ _ o u)
theorem aR.change(P:aR B F d H L j)(T:∀v,D v->(d.objs.size<=v/\jV B H j v)\/(k8 H L v/\d.objs.size<=v/\∃Q N,de q v Q N))(x:a5 D j q):aR B F d H L q:=by
 refine⟨(P.rep.change (λv W=>(T v W).imp (λy=>y.2) λy=>⟨y.1,y.2.2⟩) x).1,P.grow,λv r o S=>?_,Nat.le_trans P.size x.z⟩;have K:¬D v:=λW=>by
  have g:=bJ o;rcases T v W with⟨c,_⟩|⟨_,c,_⟩
  ·exact absurd (Nat.lt_of_lt_of_le g c) (Nat.lt_irrefl _)
  ·exact absurd (Nat.lt_of_lt_of_le g c) (Nat.lt_irrefl _)
 rcases P.keep v r o S with u|⟨W,f,u⟩
 ·exact .inl (x.k _ _ u K)
 ·exact .inr ⟨W,f,x.k _ _ u K⟩
theorem ca.keep{h:af}(n:∀v e,aO H j v e->aO H q v e)(A:∀r,j.get? h=Y r->q.get? h=Y r):∀{X},ca H j X h->ca H q X h
 |.lst _ _ _,⟨Z,S,r,F,T⟩=>aC Z S ⟨r,A _ F,T⟩|.tup _,⟨d,e,k,z,⟨r,F,T⟩,R⟩=>⟨d,e,k,n _ _ z,aC r (A _ F) T,aE.ba (λI I I o=>o) n _ R⟩|.cg _ _,⟨left,o,t⟩=>aC left (A _ o) t|.zip _ _ _ _,o=>o.elim|.enum _ _,o=>o.elim
theorem ca.free{h:af}{X:Src}(T:ca H j X h)(b:¬foot H h)(s:B.base.get? h=G):jV B H j h:=by refine⟨b,s,λe d=>?_⟩;refine bX T.at λr F k I=>bX d λP S x I=>?_;clear d;rw[F] at S;obtain rfl:=an S;exact k x
structure k9(B:aa)(H:ax)(j:av)(f0:J)(k n:Nat)(a b:Src)(z TI TO i1 i2:af):Prop where
 mo:H k n=Y (TO,TO)
 bS:io j z TI TO f0
 eI:de j TI (.ref i1) (.ref i2)
 dv:ca H j a i1
 dw:ca H j b i2
 ne:i1≠i2
 p7:TI≠TO
 hQ:¬foot H TI
 gg:¬foot H z
 fM:¬foot H i1
 fN:¬foot H i2
 hR:B.base.get? z=G
 hS:B.base.get? i1=G
 hT:B.base.get? i2=G
structure ip(B:aa)(H:ax)(L:O)(j:av)(f0:J)(k n:Nat)(a b:Src)(z TI TO i1 i2:af):Prop extends k9 B H j f0 k n a b z TI TO i1 i2 where
 Be:L.get k n=Y .ce
 p8:∃u v,de j TO u v
theorem k9.ok{B H L j f0 k n a b z TI h f Q}(Z:k9 B H j f0 k n a b z TI h f Q)(R:Rep B H L j)(e:L.get k n=Y .ce):ip B H L j f0 k n a b z TI h f Q:=let ⟨_,c,N,y⟩:=R.obj _ _ _ _ Z.mo e;⟨Z,e,c,N,y⟩
def eW(i h f Q:af)(v:af):Prop:=v=i\/v=h\/v=f\/v=Q
theorem ip.ce{f0 k n a b z TI h f Q}(Z:ip B H L j f0 k n a b z TI h f Q):k8 H L h:=⟨k,n,_,Z.mo,Z.Be,rfl,rfl⟩
theorem ip.free{f0 k n a b z TI h f Q}(Z:ip B H σ j f0 k n a b z TI h f Q)(c:∃c N,de h' h c N):∀y,eW z h f Q y->jV B H j y\/(k8 H σ y/\∃c N,de h' y c N):=λy W=>by
 rcases W with rfl|rfl|rfl|rfl
 ·refine .inl ⟨Z.gg,Z.hR,λe o=>bX o λr F g I=>?_⟩;rw[Z.bS] at F;obtain rfl:=an F;simp at g
 ·exact .inr ⟨Z.ce,c⟩
 ·exact .inl (Z.dv.free Z.fM Z.hS)
 ·exact .inl (Z.dw.free Z.fN Z.hT)
end
def nU(v m x:af):Prop:=x=v\/x=m
theorem a5.mono{D D':af->Prop}{j q:av}(y:a5 D j q)(c:∀v,D v->D' v):a5 D' j q:=⟨λv r o C=>y.k v r o λW=>C (c v W),y.z⟩
theorem a5.trans{D:af->Prop}{j q w:av}(y:a5 D j q)(X:a5 D q w):a5 D j w:=⟨λv r o C=>X.k v r (y.k v r o C) C,Nat.le_trans y.z X.z⟩
theorem a5.of{j q:av}{v m:af}{r:bA}(y:a5 (·=v) j q)(n:m≠v)(o:j.get? m=Y r):q.get? m=Y r:=y.k m r o n
theorem a5.two{j q:av}{v Z m:af}{r:bA}(y:a5 (nU v Z) j q)(C:m≠v)(a:m≠Z)(o:j.get? m=Y r):q.get? m=Y r:=y.k m r o λW=>W.elim C a
section
variable{B:aa}{H F:ax}{L:O}{s:aY}{l:ai}{n:J->ai->Prop}
theorem gh{N e:Type}{i:gD}{code:aZ e}{z:aZ N}{K:N->aZ e}{a:e->ai->Prop}(j:code=z>>=K)(t:ao i s z (λv W=>ao i s (K v) a n W) n l):ao i s code a n l:=j▸ab t
theorem nV{X b:Src}{y:V}{h:af}{a:J->ai->Prop}(P:Rep B H L l.heap)(Q:ca H l.heap X h)(o:nextM L X=Y (Y (y,b)))
  (T:∀N q D,aq H l.heap y N->ca H q b h->cL h l.heap q->a N {l with heap:=q,toks:=D}):ao (aA B.prog B.w) s (Builtin.SmallTypes.nextOf (.ref h)) a n l:=by
 exact ab (Bc P Q o λN q D v m W=>aH (T N q D v m W))
theorem nW{X:Src}{h:af}{a:J->ai->Prop}(z:s.handled=G)(P:Rep B H L l.heap)(Q:ca H l.heap X h)(o:nextM L X=Y G)
  (K:∀q o,i5 h l.heap q->l.heap.objs.size<=q.objs.size->(∃r,q.get? o=Y r/\r.cls=.type "StopIteration")->n (.ref o) {l with heap:=q}):ao (aA B.prog B.w) s (Builtin.SmallTypes.nextOf (.ref h)) a n l:=by
 exact ab (Bd z P Q o K)
theorem ca.ne{h m:af}{j:av}{X:Src}{r:bA}(T:ca H j X h)(F:j.get? m=Y r)(k:r.cls=.type "tuple"\/r.cls=.type "zip"\/r.cls=.type "enumerate"):h≠m:=λu=>by
 refine fV T.at λN S b p P=>br P λx q I=>?_;rw[u,F] at S;obtain rfl:=an S;rcases k with k|k|k
 ·exact b k
 ·exact x k
 ·exact q k
theorem Jj{i TI h f Q:af}{code:aZ Fin}{a:Fin->ai->Prop}{d j:J->aZ Fin}{k:Option (Array J)->aZ Fin}{g:Bool->aZ Fin}{o:Unit->aZ Fin}{p:J->aZ Fin}{r:Unit->aZ Fin}
  (P:io l.heap i TI h .none)(u:de l.heap TI (.ref f) (.ref Q))
  (b:code=d2 (.ref i) 2>>=d)(S:d (.bool E)=d2 (.ref i) 3>>=j)(z:j (.ref TI)=seqItems? (.ref TI)>>=k)(c:k (Y #[.ref f,.ref Q])=Builtin.SmallTypes.ownedTupleIsFree (.ref i)>>=g)
  (C:g M=rule "zip.__next__.owned-tuple-again">>=o)(e:o ()=d2 (.ref i) 4>>=p)(v:p (.ref h)=nX (.ref i) 0 .ellipsis>>=r)
  (t:∀q,io q i TI h .ellipsis->a5 (·=i) l.heap q->ao (aA B.prog B.w) s (r ()) a n {l with heap:=q}):ao (aA B.prog B.w) s code a n l:=by
 exact gh b (b9 P rfl (x:=.bool E) rfl (gh S (b9 P rfl (x:=.ref TI) rfl (gh z (hm u rfl (gh c (ab (b9 P rfl (x:=.none) rfl (aH (gh C (hG (gh e (b9 P rfl (x:=.ref h) rfl (gh v (hU P (by simp) λq m R=>t q m (a5.refl.same R rfl))))))))))))))))
theorem Bf{g K:Type}{code:aZ g}{h b TX:af}{A:Nat}{c N:J}{y:V}{p r:Src}{a:g->ai->Prop}{Ua:Option J->aZ K}{j:K->aZ g}{p9:J->Option (Array J)->aZ K}{TR:J->Array J->Unit->aZ K}{TS:J->Array J->List J}{i:Unit->aZ K}{X:K}
  (P:Rep B H L l.heap)(Z:ca H l.heap p h)(o:nextM L p=Y (Y (y,r)))(T:de l.heap b c N)(UC:jV B H l.heap h)(gi:k8 H L b)
  (TZ:code=(((Builtin.SmallTypes.nextOf (.ref h)>>=λN=>pure (Y N)).onRaise λI=>nX (.ref TX) 0 .none)>>=Ua)>>=j)
  (TU:∀N,Ua (Y N)=seqItems? (.ref b)>>=p9 N)(Up:∀N v,p9 N (Y v)=sJ b (·.setIfInBounds A N)>>=TR N v)(T6:∀N v,TR N v ()=letGo (TS N v)>>=i)(UF:i ()=pure X)
  (T3:∀W,∃Q S,(#[c,N]:Array J).setIfInBounds A W= #[Q,S])
  (Ur:∀W q D,a5 (nU h b) l.heap q->Rep B H L q->(∀v e,aO H l.heap v e->aO H q v e)->aq H q y W->ca H q r h->q.get? b=Y {cls:=.type "tuple",data:=.seq ((#[c,N]:Array J).setIfInBounds A W)}->ao (aA B.prog B.w) s (j X) a n {l with heap:=q,toks:=D}):
  ao (aA B.prog B.w) s code a n l:=by
 refine gh TZ (ab (qa (ab (nV P Z o λW z D Ui TV f=>aH ?_))));have C:b≠h:=(Z.ne T (.inl rfl)).symm;have t:de z b c N:=(f.2 _ C).trans T;refine gh (TU W) (hm (s:={l with heap:=z,toks:=D}) t rfl (gh (Up W _) (Jk (s:={l with heap:=z,toks:=D}) t λq k m=>(gh (T6 _ _) (Bg (U UF (aH ?_)))))))
 have x:a5 (nU h b) l.heap q:=(a5.refl.same f (.inl rfl)).same m (.inr rfl);exact ak (P.change (λv T5=>T5.elim (λu=>.inl (u▸UC)) λu=>.inr (u▸⟨gi,cR (T3 W) λQ S o=>(ea Q S (k.trans (U o rfl)))⟩)) x) λR d=>(Ur W q D x R d (Ui.ba (λI I I o=>o) d) (TV.keep (λv e d=>d.keep d.bu λUb F=>(m.2 v λu=>by obtain ⟨A,C,TW,o,_,y,_⟩:=gi;exact d.bu ⟨A,C,TW,o,.inl (u.trans y)⟩).trans F) λUb F=>(m.2 _ C.symm).trans F) k)
theorem TJ{e K:Type}{code:aZ e}{h i TI b:af}{X:Src}{p:J}{a:e->ai->Prop}{f:Option J->aZ K}{j:K->aZ e}
  (z:s.handled=G)(P:Rep B H L l.heap)(Q:ca H l.heap X h)(o:nextM L X=Y G)(x:io l.heap i TI b p)
  (v:code=((((Builtin.SmallTypes.nextOf (.ref h)>>=λN=>pure (Y N)).onRaise λI=>nX (.ref i) 0 .none)>>=f)>>=j))
  (t:∀q o,a5 (nU h i) l.heap q->(∃r,q.get? o=Y r/\r.cls=.type "StopIteration")->n (.ref o) {l with heap:=q}):ao (aA B.prog B.w) s code a n l:=by
 refine gh v (ab (qa (ab (nW z P Q o λq o R y g=>au g λr F k=>?_))));clear g;have m:io q i TI b p:=R _ _ (Q.ne x (.inr (.inl rfl))).symm x;have C:o≠i:=λu=>by rw[u,m] at F;obtain rfl:=an F;simp at k
 exact hU m (by simp) λc I d=>t c o ((a5.refl.ext R (.inl rfl) y).same d (.inr rfl)) (aC r ((d.2 _ C).trans F) k)
theorem Jl{i TI h:af}{code:aZ Fin}{v m:J}{a:J->ai->Prop}{g:Option (Array J)->aZ Fin}{j:J->aZ Fin}(P:io l.heap i TI h .ellipsis)(d:de l.heap h v m)
  (b:code=seqItems? (.ref h)>>=g)(S:∀v,g (Y v)=rR v.toList>>=j)(z:∀y,j y=Builtin.SmallTypes.ownedTupleHandOut (.ref i) y>>=λI=>ret y)
  (t:∀q,a5 (·=i) l.heap q->io q i TI h (cB l.heap.objs.size)->de q l.heap.objs.size v m->a (.ref l.heap.objs.size) {l with heap:=q}):
  ao (aA B.prog B.w) s code (λr W=>∃N,r=.done (.ret N)/\a N W) n l:=by
 refine gh b (hm d rfl (gh (S _) (Bh (gh (z _) ?_))));have C:l.heap.objs.size≠i:=λu=>absurd (bJ P) (u▸Nat.lt_irrefl _);refine ab (hU (cZ _ P) (by simp) λA e X=>?_)
 exact hU e (by simp) λp f c=>aH (aC _ rfl (t p ((((a5.refl (D:=(·=i))).push _).same X rfl).same c rfl) f ((c.2 _ C).trans ((X.2 _ C).trans (ct _ rfl)))))
theorem IsZip.free{j:av}{i TI h:af}{p:J}(P:io j i TI h p)(b:¬foot H i)(s:B.base.get? i=G):jV B H j i:=⟨b,s,λe o=>bX o λr F k I=>by rw[P] at F;obtain rfl:=an F;simp at k⟩
theorem Jm{j A p x c:av}{i h f Q:af}(C:a5 (·=i) j A)(N:a5 (nU f h) A p)(a:a5 (nU Q h) p x)(b:a5 (·=i) x c):a5 (eW i h f Q) j c/\j.get? x.objs.size=none:=by
 have y:=((C.mono (D':=eW i h f Q) λI=>.inl).trans (N.mono λI W=>W.elim (λu=>.inr (.inr (.inl u))) λu=>.inr (.inl u))).trans (a.mono λI W=>W.elim (λu=>.inr (.inr (.inr u))) λu=>.inr (.inl u));refine⟨y.trans (b.mono λI=>.inl),?_⟩;generalize u:j.get? x.objs.size=K;induction K using aB with|none=>rfl|some r=>exact absurd (Nat.lt_of_lt_of_le (bJ u) y.z) (Nat.lt_irrefl _)
theorem Bi{i TI h f Q:af}{A C:Nat}{v e m K:Src}{y X:V}{a:J->ai->Prop}(Uc:Rep B H L l.heap)(Z:ip B H L l.heap .none A C v m i TI h f Q)
  (TV:nextM L v=Y (Y (y,e)))(T0:nextM L m=Y (Y (X,K)))
  (T8:∀R c P q T1,a5 (eW i h f Q) l.heap q->l.heap.get? R=G->ip B H L q (cB R) A C e K i TI h f Q->de q R c P->aq H q y c->aq H q X P->a (.ref R) {l with heap:=q,toks:=T1}):
  ao (aA B.prog B.w) s (Builtin.«zip.__next__» ⟨[.ref i],[]⟩) (λTS T2=>∃N,TS=.done (.ret N)/\a N T2) n l:=by
 refine Jj Z.bS Z.eI rfl rfl rfl rfl rfl rfl rfl λT4 T3 g=>cR Z.p8 λT5 N r=>?_;have z:h≠i:=λu=>by have t:=r.symm.trans ((congrArg l.heap.get? u).trans Z.bS);simp at t
 have T7:=g.mono (D':=eW i h f Q) λI=>.inl;refine ak (Uc.change (Z.free (ea _ _ (g.of z r))) T7) λT9 TX=>?_;have Ub:=Z.dv.keep TX λI=>g.of (Z.dv.ne Z.bS (.inr (.inl rfl)));have Ud:=Z.dw.keep TX λI=>g.of (Z.dw.ne Z.bS (.inr (.inl rfl)));refine ab (Bf (A:=0) T9 Ub TV (g.of z r) (Ub.free Z.fM Z.hS) Z.ce rfl (λI=>rfl) (λI I=>rfl) (λI I=>rfl) rfl (λc=>ea c N rfl) λc p Ua (F:a5 _ T4 p) Ue TY Uf Uj Ul=>?_);have TZ:=Ud.keep TY λI=>F.two Z.ne.symm (Z.dw.ne r (.inl rfl));refine Bf (l:={l with heap:=p,toks:=Ua}) (A:=1) Ue TZ T0 Ul (TZ.free Z.fN Z.hT) Z.ce rfl (λI=>rfl) (λI I=>rfl) (λI I=>rfl) rfl (λP=>ea c P rfl) λP j Ug (T:a5 _ p j) Uh d Uk Um TR=>aH (Jl (l:={l with heap:=j,toks:=Ug}) (T.two (Z.dw.ne Z.bS (.inr (.inl rfl))).symm z.symm (F.two (Z.dv.ne Z.bS (.inr (.inl rfl))).symm z.symm T3)) TR rfl (λI=>rfl) (λI=>rfl) λTU (b:a5 _ j TU) Ui TW=>ak (Jm g F T b) λx UC=>?_)
 have T6:=Z.dw.ne Z.bS (.inr (.inl rfl));refine ak (Uh.change (D:=(·=i)) (λv W=>.inl (W.symm▸IsZip.free (T.two T6.symm z.symm (F.two (Z.dv.ne Z.bS (.inr (.inl rfl))).symm z.symm T3)) Z.gg Z.hR)) b) λI S=>T8 _ c P TU Ug x UC ⟨⟨Z.mo,Ui,x.k _ _ Z.eI λW=>?_,(Uj.keep d λI=>T.two Z.ne (Z.dv.ne r (.inl rfl))).keep S λI=>b.of (Z.dv.ne Z.bS (.inr (.inl rfl))),Um.keep S λI=>b.of T6,Z.ne,Z.p7,Z.hQ,Z.gg,Z.fM,Z.fN,Z.hR,Z.hS,Z.hT⟩,Z.Be,c,P,b.of z TR⟩ TW ((Uf.ba (λI I I o=>o) d).ba (λI I I o=>o) S) (Uk.ba (λI I I o=>o) S)
 rcases W with u|u|u|u
 ·replace t:=Z.eI.symm.trans ((congrArg l.heap.get? u).trans Z.bS);simp at t
 ·exact Z.p7 u
 ·exact Z.dv.ne Z.eI (.inl rfl) u.symm
 ·exact Z.dw.ne Z.eI (.inl rfl) u.symm
end
structure la(c:aa)(γ:ax)(h:av)(i:Nat)(a:Src)(e it:af):Prop where
 r:ca γ h a it
 sL:¬foot γ e
 sM:¬foot γ it
 sN:c.base.get? e=G
 sO:c.base.get? it=G
def i8(o h:af)(v:af):Prop:=v=o\/v=h
section
variable{B:aa}{H F:ax}{L:O}{s:aY}{l:ai}{n:J->ai->Prop}
theorem Bj{i TI h f Q:af}{T3 T7:Nat}{v TS:Src}{TW:Fin->ai->Prop}(T2:s.handled=G)(Uj:Rep B H L l.heap)(Z:ip B H L l.heap .none T3 T7 v TS i TI h f Q)
  (S:nextM L v=Y G\/∃y e,nextM L v=Y (Y (y,e))/\nextM L TS=Y G)
  (K:∀q o Uc,a5 (eW i h f Q) l.heap q->(∃c N,de q h c N)->(∃r,q.get? o=Y r/\r.cls=.type "StopIteration")->n (.ref o) {l with heap:=q,toks:=Uc}):
  ao (aA B.prog B.w) s (Builtin.«zip.__next__» ⟨[.ref i],[]⟩) TW n l:=by
 refine cR Z.p8 λc N m=>?_;have C:f≠i:=Z.dv.ne Z.bS (.inr (.inl rfl));have t:Q≠i:=Z.dw.ne Z.bS (.inr (.inl rfl));have Uo:f≠h:=Z.dv.ne m (.inl rfl);have Up:Q≠h:=Z.dw.ne m (.inl rfl);have g:h≠i:=λUe=>by have T6:=m.symm.trans ((congrArg l.heap.get? Ue).trans Z.bS);simp at T6
 have I:eW i h f Q i:=.inl rfl;have Uk:eW i h f Q h:=.inr (.inl rfl);have R:eW i h f Q f:=.inr (.inr (.inl rfl));have TX:eW i h f Q Q:=.inr (.inr (.inr rfl));show ao _ _ (d2 (.ref i) 2>>=_) _ _ _;refine ab (b9 Z.bS rfl (x:=.bool E) rfl ?_);show ao _ _ (d2 (.ref i) 3>>=_) _ _ _;refine ab (b9 Z.bS rfl (x:=.ref TI) rfl (ab (hm Z.eI rfl ?_)));show ao _ _ (Builtin.SmallTypes.ownedTupleIsFree (.ref i)>>=_) _ _ _;refine ab (ab (b9 Z.bS rfl (x:=.none) rfl (aH (U (if_pos rfl) (ab (hG (ab (b9 Z.bS rfl (x:=.ref h) rfl (ab (hU Z.bS (by simp) λT A X=>?_))))))))))
 replace A:io T i TI h .ellipsis:=A;replace X:cL i l.heap T:=X;have b:a5 (eW i h f Q) l.heap T:=a5.refl.same X I;have Ul:de T h c N:=(X.2 _ g).trans m;refine ak (Uj.change (Z.free (ea _ _ Ul)) b) λT9 Ud=>ab ?_;dsimp only[List.zipIdx_cons,List.zipIdx_nil,mm,wB];refine ab (ab (qa ?_));show ao _ _ (Builtin.SmallTypes.nextOf (.ref f)>>=_) _ _ _;have TY:=Z.dv.keep Ud λr F=>(X.2 _ C).trans F;rcases S with S|⟨y,e,TR,TV⟩
 ·refine ab (nW T2 T9 TY S λp o W T5 d=>au d λk z D=>?_);clear d;replace W:i5 f T p:=W;have Ug:io p i TI h .ellipsis:=W _ _ C.symm A;have Um:o≠i:=λy=>by clear b X A TX R Uk I g t C K Z;subst y;rw[Ug] at z;obtain rfl:=an z;simp at D
  have j:a5 (eW i h f Q) l.heap p:=b.ext W R T5;exact hU Ug (by simp) λx Ub a=>K x o _ (j.same a I) (ea _ _ (a.extBut _ _ g (W _ _ Uo.symm Ul))) (aC k (a.extBut _ _ Um z) D)
 ·refine ab (nV (b:=e) T9 TY TR λT0 p Ua Uf Un W=>aH ?_);replace W:cL f T p:=W;have j:a5 (eW i h f Q) l.heap p:=b.same W R;have Uq:de p h c N:=(W.2 _ Uo.symm).trans Ul;refine ab (hm (s:={l with heap:=p,toks:=Ua}) Uq rfl (ab (Jk (s:={l with heap:=p,toks:=Ua}) Uq λx P a=>?_)))
  replace P:de x h T0 N:=P;replace a:cL h p x:=a;have T4:a5 (eW i h f Q) l.heap x:=j.same a Uk;refine ak (Uj.change (Z.free (ea _ _ P)) T4) λUh Ur=>ab (Bg (aH (ab (ab (qa ?_)))));show ao _ _ (Builtin.SmallTypes.nextOf (.ref Q)>>=_) _ _ _;refine ab (nW T2 (l:={l with heap:=x,toks:=Ua}) Uh (Z.dw.keep Ur λr F=>(a.2 _ Up).trans ((W.2 _ Z.ne.symm).trans ((X.2 _ t).trans F))) TV λTU o u Us d=>au d λk z D=>?_);clear d
  replace u:i5 Q x TU:=u;have Ui:io TU i TI h .ellipsis:=u _ _ t.symm ((a.2 _ g.symm).trans ((W.2 _ C.symm).trans A));have Um:o≠i:=λy=>by clear T4 j b X A TX R Uk I g t C K Z;subst y;rw[Ui] at z;obtain rfl:=an z;simp at D
  have T8:a5 (eW i h f Q) l.heap TU:=T4.ext u TX Us;exact hU Ui (by simp) λT1 Ub TZ=>K T1 o _ (T8.same TZ I) (ea _ _ (TZ.extBut _ _ g (u _ _ Up.symm P))) (aC k (TZ.extBut _ _ Um z) D)
theorem la.free{j h':av}{i a e it}{b:bA}(Z:la B H j i a e it)(g:j.get? e=Y b)(k:b.cls=.type "enumerate"):∀y,i8 e it y->jV B H j y\/(k8 H σ y/\∃c N,de h' y c N):=λy W=>by
 rcases W with rfl|rfl
 ·refine .inl ⟨Z.sL,Z.sN,λm p=>?_⟩;refine bX p λP F x I=>?_;clear p;rw[g] at F;obtain rfl:=an F;rw[k] at x;simp at x
 ·exact .inl (Z.r.free Z.sM Z.sO)
theorem Jn{o h:af}{f:Nat}{v j:Src}{T5:V}{m:J}{TU:J->ai->Prop}(TS:Rep B H L l.heap)(g:jW l.heap o h f m)(Z:la B H l.heap f v o h)
  (TR:nextM L v=Y (Y (T5,j)))
  (Ua:∀R Q q D TV,a5 (i8 o h) l.heap q->l.heap.get? R=G->wC q o h ((f:Int)+1) Q R->la B H q (f+1) j o h->de q R (.int f TV) Q->aq H q T5 Q->TU (.ref R) {l with heap:=q,toks:=D}):
  ao (aA B.prog B.w) s (Builtin.«enumerate.__next__» ⟨[.ref o],[]⟩) (λT3 T1=>∃Ud,T3=.done (.ret Ud)/\TU Ud T1) n l:=by
 have T6:h≠o:=Z.r.ne g (.inr (.inr rfl));have i:i8 o h o:=.inl rfl;have Ui:i8 o h h:=.inr rfl;show ao _ _ (d2 (.ref o) 2>>=_) _ _ _;refine ab (b9 g rfl (x:=.ref h) rfl (ab (nV (b:=j) TS Z.r TR λQ A D Uj Ub a=>?_)));replace a:cL h l.heap A:=a;have P:jW A o h f m:=(a.2 o T6.symm).trans g;have T0:a5 (i8 o h) l.heap A:=a5.refl.same a Ui;show ao _ _ (d2 (.ref o) 3>>=_) _ _ {l with heap:=A,toks:=D}
 refine ab (b9 P rfl (x:=cB f) rfl ?_);show ao _ _ (d2 (.ref o) 4>>=_) _ _ {l with heap:=A,toks:=D}
 refine ab (b9 P rfl (x:=.none) rfl ?_);show ao _ _ (mkInt f>>=_) _ _ {l with heap:=A,toks:=D}
 refine ab (wpAny_mkInt ?_);show ao _ _ (nX (.ref o) 3 (cB ((f:Int)+1))>>=_) _ _ {l with heap:=A,toks:=D+1}
 refine ab (hU P (by simp) λp TX c=>?_)
 replace c:cL o A p:=c;replace TX:jW p o h ((f:Int)+1) m:=TX;show ao _ _ (nX (.ref o) 4 .none>>=_) _ _ {l with heap:=p,toks:=D+1}
 refine ab (hU TX (by simp) λx T8 S=>?_)
 replace S:cL o p x:=S;replace T8:jW x o h ((f:Int)+1) m:=T8;show ao _ _ (rR [.int f D,Q]>>=_) _ _ {l with heap:=x,toks:=D+1}
 refine ab (Bh ?_);have Uc:jW (x.push {cls:=.type "tuple",data:=.seq #[.int f D,Q]}) o h ((f:Int)+1) m:=cZ _ T8;have T4:a5 (i8 o h) l.heap x:=(T0.same c i).same S i;have X:l.heap.get? x.objs.size=none:=by
  generalize u:l.heap.get? x.objs.size=UN;induction UN using aB with|none=>rfl|some b=>exact absurd (Nat.lt_of_lt_of_le (bJ u) T4.z) (Nat.lt_irrefl _)
 have N:x.objs.size≠o:=λu=>by rw[u] at X;have:=g;rw[jW,X] at this;exact ag this
 show ao _ _ (Builtin.SmallTypes.ownedTupleIsFree (.ref o)>>=_) _ _ {l with heap:=x.push {cls:=.type "tuple",data:=.seq #[.int f D,Q]},toks:=D+1}
 refine ab (ab (b9 Uc rfl (x:=.none) rfl (aH ?_)));dsimp only[if_true];refine ab (hG (ab (b9 Uc rfl (x:=m) rfl (ab (hU Uc (by simp) λW Ue k=>?_)))))
 replace k:cL o (x.push {cls:=.type "tuple",data:=.seq #[.int f D,Q]}) W:=k;replace Ue:jW W o h ((f:Int)+1) Q:=Ue;show ao _ _ (Builtin.SmallTypes.ownedTupleHandOut (.ref o) (.ref x.objs.size)>>=_) _ _ {l with heap:=W,toks:=D+1}
 refine ab (ab (hU Ue (by simp) λy Uf C=>?_))
 replace C:cL o W y:=C;replace Uf:wC y o h ((f:Int)+1) Q x.objs.size:=Uf;refine hU Uf (by simp) λt Ug T=>?_
 replace T:cL o y t:=T;replace Ug:wC t o h ((f:Int)+1) Q x.objs.size:=Ug;have TY:∀B b,B≠o->A.get? B=Y b->t.get? B=Y b:=λB b K u=>
  (T.2 B K).trans ((C.2 B K).trans ((k.2 B K).trans (cZ _ ((S.2 B K).trans ((c.2 B K).trans u)))))
 have Uh:a5 (i8 o h) l.heap t:=(((T4.push _).same k i).same C i).same T i;have TW:∀v e,aO H A v e->aO H t v e:=λv e d=>by
  have T7:v≠o:=λu=>by refine bX d.tup λb F TZ I=>?_;rw[u,P] at F;obtain rfl:=an F;simp at TZ
  exact d.keep d.bu λb F=>TY v b T7 F
 have T2:∀v e,aO H l.heap v e->aO H t v e:=(TS.change (Z.free (h':=t) g rfl) Uh).2;have T9:de t x.objs.size (.int f D) Q:=(T.2 _ N).trans ((C.2 _ N).trans ((k.2 _ N).trans (ct _ rfl)));exact ab (Bg (aH (aC _ rfl (Ua x.objs.size Q t (D+1) D Uh X Ug ⟨Ub.keep TW λb F=>TY _ b T6 F,Z.sL,Z.sM,Z.sN,Z.sO⟩ T9 (aq.ba (λI I I o=>o) T2 _ Uj)))))
theorem Jo{o h:af}{f:Nat}{v:Src}{y:J}{a:Fin->ai->Prop}(z:s.handled=G)(P:Rep B H L l.heap)(g:jW l.heap o h f y)(Z:la B H l.heap f v o h)
  (t:nextM L v=Y G)
  (K:∀q k,a5 (i8 o h) l.heap q->(∃b,q.get? k=Y b/\b.cls=.type "StopIteration")->n (.ref k) {l with heap:=q}):
  ao (aA B.prog B.w) s (Builtin.«enumerate.__next__» ⟨[.ref o],[]⟩) a n l:=by
 show ao _ _ (d2 (.ref o) 2>>=_) _ _ _;exact ab (b9 g rfl (x:=.ref h) rfl (ab (nW z P Z.r t λp k W c j=>K p k (a5.refl.ext W (.inr rfl) c) j)))
end
inductive Jp(n0:Nat)(P:af->af->af->af->af->Prop)(it:J):Prop
 |mk (z TI TO i1 i2:af) (e:it=.ref z) (p:P z TI TO i1 i2) (g1:n0<=z) (g2:n0<=TI) (g3:n0<=TO) (g4:n0<=i1) (g5:n0<=i2)
inductive Jq(c:aa)(n0:Nat)(γ:ax)(h:av)(i:Nat)(a:Src)(it:J):Prop
 |mk (e i':af) (old:J) (q:it=.ref e) (x:jW h e i' i old) (y:la c γ h i a e i') (g1:n0<=e) (g2:n0<=i')
inductive wD(c:aa)(n0:Nat)(γ:ax)(h:av)(src:Src)(it:J):Prop
 |mk (a:af) (q:it=.ref a) (r:ca γ h src a) (g:n0<=a) (bu:¬foot γ a) (nb:c.base.get? a=G)
inductive Jr(n0:Nat)(P:af->af->af->af->af->af->Prop)(it v:J):Prop
 |mk (z TI TO i1 i2 T:af) (e:it=.ref z) (q:v=.ref T) (p:P z TI TO i1 i2 T) (g1:n0<=z) (g2:n0<=TI) (g3:n0<=TO) (g4:n0<=i1) (g5:n0<=i2)
inductive Js(c:aa)(n0:Nat)(γ:ax)(h:av)(i:Nat)(a:Src)(it v:J):Prop
 |mk (e i':af) (vx:J) (T:af) (q:it=.ref e) (q':v=.ref T) (x:wC h e i' i vx T) (y:la c γ h i a e i') (g1:n0<=e) (g2:n0<=i')
def cP(B:aa)(l:Nat)(H:ax)(j:av):Src->J->Prop
 |.zip A C v m,h=>Jp l (k9 B H j .none A C v m) h|.enum f v,h=>Jq B l H j f v h|src,h=>wD B l H j src h
def Bk(B:aa)(l:Nat)(H:ax)(L:O)(j:av):Src->J->J->Prop
 |.zip A C v m,h,N=>Jr l (λi TI b a Q R=>ip B H L j (cB R) A C v m i TI b a Q) h N|.enum f v,h,N=>Js B l H j f v h N|src,h,_=>wD B l H j src h
structure Moved(n0:Nat)(γ:ax)(h h':av):Prop where
 tt:∀a items,aO γ h a items->aO γ h' a items
 k:∀a aw,h.get? a=Y aw->(a<n0\/(¬foot γ a/\(aw.cls=.type "list"\/∃bw ep,aw.data=.dict bw ep)))->h'.get? a=Y aw
 z:h.objs.size<=h'.objs.size
theorem Moved.trans{l H h q w}(v:Moved l H h q)(m:Moved l H q w):Moved l H h w:=⟨λy f d=>m.tt _ _ (v.tt _ _ d),λy r o t=>m.k y r (v.k y r o t) t,Nat.le_trans v.z m.z⟩
theorem Moved.refl{l H h}:Moved l H h h:=⟨λI I d=>d,λI I o I=>o,Nat.le_refl _⟩
section
variable{B:aa}{H F:ax}{L:O}{j d q:av}{D:af->Prop}
theorem wE(P:aR B F d H L j)(T:∀v,D v->jV B H j v\/(k8 H L v/\∃c N,de q v c N))(R:∀v,D v->d.objs.size<=v)(x:a5 D j q)(h:∀v r,D v->j.get? v=Y r->¬foot H v->r.cls≠.type "list"/\∀n i,r.data≠.dict n i):
  aR B F d H L q/\Moved d.objs.size H j q:=by
 refine⟨P.change (λv W=>(T v W).imp (λy=>⟨R v W,y⟩) λy=>aQ y.1 (R v W) y.2) x,(P.rep.change T x).2,λv r o t=>x.k v r o λW=>?_,x.z⟩;rcases t with t|⟨b,t⟩
 ·exact absurd (Nat.lt_of_lt_of_le t (R v W)) (Nat.lt_irrefl _)
 ·refine ak (h v r W o b) λQ l=>?_;rcases t with t|⟨n,i,t⟩
  ·exact Q t
  ·exact l n i t
theorem ca.cls{h:af}{X:Src}(T:ca H j X h):∀r,j.get? h=Y r->r.cls≠.type "list"/\∀n i,r.data≠.dict n i:=λr F=>by refine u4 T.at λP S I p I I e hd=>?_;replace S:=F▸S;obtain rfl:=an S;exact⟨p,λn i u=>by replace u:=hd▸u;cases u⟩
theorem Bl{X:Src}{h:af}(P:aR B F d H L j)(T:ca H j X h)(b:¬foot H h)(s:B.base.get? h=G)(R:d.objs.size<=h)(x:a5 (·=h) j q):aR B F d H L q/\Moved d.objs.size H j q:=
 wE P (λv (W:v=h)=>.inl (by refine U W ?_;exact T.free b s)) (λv (W:v=h)=>by refine U W ?_;exact R) x λv r (W:v=h) e _=>T.cls r (by refine U W.symm ?_;exact e)
theorem qb{f0 k n a b z TI h f Q}(P:aR B F d H L j)(Z:ip B H L j f0 k n a b z TI h f Q)(c:∃c N,de q h c N)(X:d.objs.size<=z)(t:d.objs.size<=h)(p:d.objs.size<=f)(e:d.objs.size<=Q)
  (x:a5 (eW z h f Q) j q):aR B F d H L q/\Moved d.objs.size H j q:=by
 refine wE P (Z.free c) (λy W=>?_) x λy r W o s=>?_
 ·rcases W with rfl|rfl|rfl|rfl <;>assumption
 ·rcases W with rfl|rfl|rfl|rfl
  ·rw[Z.bS] at o;obtain rfl:=an o;exact⟨by simp,λI I u=>by cases u⟩
  ·exact absurd ⟨k,n,_,Z.mo,.inl rfl⟩ s
  ·exact Z.dv.cls r o
  ·exact Z.dw.cls r o
theorem wF{i a e it}{b:bA}(P:aR B F d H L j)(Z:la B H j i a e it)(g:j.get? e=Y b)(k:b.cls=.type "enumerate")(hd:∃t,b.data=.fields t)(X:d.objs.size<=e)(c:d.objs.size<=it)
  (x:a5 (i8 e it) j q):aR B F d H L q/\Moved d.objs.size H j q:=by
 refine wE P (Z.free g k) (λy W=>?_) x λy m W T s=>?_
 ·rcases W with rfl|rfl <;>assumption
 ·rcases W with rfl|rfl
  ·replace T:=g▸T;obtain rfl:=an T;exact aD hd λt hd=>⟨by refine U k ?_;trivial,λI I u=>by replace u:=hd▸u;cases u⟩
  ·exact Z.r.cls m T
end
section
variable{B:aa}{H TW:ax}{L:O}{s:aY}{l:ai}{T0:av}{K:J->ai->Prop}
theorem nY{h:J}{P:J->ai->Prop}{a:Option J->ai->Prop}(d:∀N W,P N W->a (Y N) W)(j:∀b:Option J->ai->Prop,(∀N W,P N W->b (Y N) W)->ao (aA B.prog B.w) s (callSpecial? h "__next__") b (λI I=>False) l):ao (aA B.prog B.w) s (hn h) a K l:=by refine ab (wg (bQ (j (λT W=>∃N,T=Y N/\P N W) (λN W Z=>aC N rfl Z)) (λT W t=>au t λN o u=>?_) λI I y=>y.elim));subst o;exact aH (d _ _ u)
theorem mq{h:J}{P:ai->Prop}{a:Option J->ai->Prop}(d:∀W,P W->a G W)
  (j:∀i:J->ai->Prop,(∀o W,P W->(∃r,W.heap.get? o=Y r/\r.cls=.type "StopIteration")->i (.ref o) W)->ao (aA B.prog B.w) s (callSpecial? h "__next__") (λI I=>False) i l):ao (aA B.prog B.w) s (hn h) a K l:=by
 refine ab (wg (bQ (j (λT W=>P W/\∃o r,T=.ref o/\W.heap.get? o=Y r/\r.cls=.type "StopIteration") (λo W Z p=>(by refine au p λr v m=>?_;clear p;exact max Z o ⟨r,rfl,v,m⟩))) (λI I y=>y.elim) λT W ⟨Z,o,r,b,v,m⟩=>?_))
 subst b;exact ab (Bm (T:="StopIteration") (b:=M) (aC r v m) isSubtype_stop (aH (d _ Z)))
theorem nZ{i:af}{a:Option J->ai->Prop}{r:bA}(Q:l.heap.get? i=Y r)(k:r.cls=.type "zip")
  (j:ao (aA B.prog B.w) s.in1 (Builtin.«zip.__next__» ⟨[.ref i],[]⟩) (λp W=>∃N,p=.done (.ret N)/\a (Y N) W) K l):ao (aA B.prog B.w) s (callSpecial? (.ref i) "__next__") a K l:=
 k7 (name:=dt "__next__") (aC r Q k) F.slot_zip_next (jU F.slot_zip_next (aC r Q k) F.entry_zip_next j (F.args_zip_next_1 _))
theorem Bn{i:af}{a:Option J->ai->Prop}{r:bA}(Q:l.heap.get? i=Y r)(k:r.cls=.type "enumerate")
  (j:ao (aA B.prog B.w) s.in1 (Builtin.«enumerate.__next__» ⟨[.ref i],[]⟩) (λp W=>∃N,p=.done (.ret N)/\a (Y N) W) K l):ao (aA B.prog B.w) s (callSpecial? (.ref i) "__next__") a K l:=
 k7 (name:=dt "__next__") (aC r Q k) F.slot_enumerate_next (jU F.slot_enumerate_next (aC r Q k) F.entry_enumerate_next j (F.args_enumerate_next_1 _))
theorem sP{H:ax}{j:av}{R:af}{c N:J}{y X:V}(L:de j R c N)(b:¬foot H R)(g:aq H j y c)(z:aq H j X N):aq H j (.tup [y,X]) (.ref R):=⟨R,#[c,N],rfl,.of (n:=0) L b,.cons g (.cons z .nil)⟩
theorem Rep.fresh{v:af}{j:av}(R:Rep B H L j)(o:j.get? v=G):¬foot H v:=λ⟨A,C,Z,c,y⟩=>by
 refine au (R.at c) λr I T=>ak T.there λe b=>?_;obtain ⟨Q,a⟩:=e;obtain ⟨l,K⟩:=b;rcases y with y|y
 ·rw[<-y,o] at a;exact ag a
 ·rw[<-y,o] at K;exact ag K
theorem Bo{X j:Src}{y:V}{h:J}{a:Option J->ai->Prop}(P:aR B TW T0 H L l.heap)(A:cP B T0.objs.size H l.heap X h)(o:nextM L X=Y (Y (y,j)))
  (r:∀N q D,aR B TW T0 H L q->Moved T0.objs.size H l.heap q->aq H q y N->Bk B T0.objs.size H L q j h N->a (Y N) {l with heap:=q,toks:=D}):ao (aA B.prog B.w) s (hn h) a K l:=by
 have x:∀{X j:Src} {y:V} {v:af} {a:Option J->ai->Prop},ca H l.heap X v->¬foot H v->B.base.get? v=G->T0.objs.size<=v->nextM L X=Y (Y (y,j))->
   (∀N q D,aR B TW T0 H L q->Moved T0.objs.size H l.heap q->aq H q y N->ca H q j v->a (Y N) {l with heap:=q,toks:=D})->ao (aA B.prog B.w) s (hn (.ref v)) a K l:=λ{X j y v a} T b g Up o r=>by
  refine nY (P:=λN W=>a (Y N) W) (λI I u=>u) λUg C=>Bc P.rep T o λN q D p F Ut=>C _ _ ?_;have d:a5 (·=v) l.heap q:=a5.refl.same Ut rfl
  exact ak (Bl P T b g Up d) λk m=>r N q D k m (aq.ba (λI I I o=>o) m.tt _ p) F
 induction X using Src.casesOn with
 |zip TZ Uk v TR=>
  obtain ⟨TX,TI,TU,TY,Ub,rfl,Z,z,n,T9,Uf,Uj⟩:=A;refine nc (Jf o) λUh T7 T4=>lX T4 λUi Ua TV t TS Q f=>?_;subst Q;clear T4 o;subst f
  ·replace Z:=Z.ok P.rep Uh
   ··exact nY (P:=λN W=>a (Y N) W) (λI I u=>u) λUg C=>nZ Z.bS rfl (Bi P.rep Z t TS λR T5 Uc q D d UC S Ur i T1=>C _ _ (ak (qb P Z S.p8 z T9 Uf Uj d) λk m=>r (.ref R) q D k m (sP Ur (P.rep.fresh UC) i T1) ⟨TX,TI,TU,TY,Ub,R,rfl,rfl,S,z,n,T9,Uf,Uj⟩))
 |enum Ue v=>
  obtain ⟨Uw,T8,T3,rfl,e,Z,z,n⟩:=A;refine hD (Jd o) λT7 Ui t Q f=>?_;subst Q;clear o;subst f
  ·exact nY (P:=λN W=>a (Y N) W) (λI I u=>u) λUg C=>Bn e rfl (Jn P.rep e Z t λR T5 q D T2 d UC UW S Ur i=>C _ _ (ak (wF P Z e rfl ⟨_,rfl⟩ z n d) λk m=>r (.ref R) q D k m (sP Ur (P.rep.fresh UC) ⟨T2,rfl⟩ i) ⟨Uw,T8,T5,R,rfl,rfl,UW,S,z,n⟩))
 |lst TZ Uk Ue=>obtain ⟨v,rfl,T,c,b,g⟩:=A;refine x T b g c o λN q D k m p F=>r N q D k m p ?_;refine bX (Ba o) λT6 I I Q=>?_;clear r o;subst Q;exact⟨v,rfl,F,c,b,g⟩
 |tup T6=>
  obtain ⟨v,rfl,T,c,b,g⟩:=A;refine x T b g c o λN q D k m p F=>r N q D k m p ?_;induction T6 using aS with|nil=>cases o|cons=>cases o;exact⟨v,rfl,F,c,b,g⟩
 |cg Ue Ud=>obtain ⟨v,rfl,T,c,b,g⟩:=A;refine x T b g c o λN q D k m p F=>r N q D k m p ?_;refine br (Bb o) λI I Q=>?_;clear r o;subst Q;exact⟨v,rfl,F,c,b,g⟩
theorem Bp{p:Src}{h:J}{a:Option J->ai->Prop}(z:s.handled=G)(P:aR B TW T0 H L l.heap)(R:cP B T0.objs.size H l.heap p h)(o:nextM L p=Y G)
  (N:∀q D,aR B TW T0 H L q->Moved T0.objs.size H l.heap q->a G {l with heap:=q,toks:=D}):ao (aA B.prog B.w) s (hn h) a K l:=by
 have j:∀{p:Src} {v:af},ca H l.heap p v->¬foot H v->B.base.get? v=G->T0.objs.size<=v->nextM L p=Y G->ao (aA B.prog B.w) s (hn (.ref v)) a K l:=λ{p v} T b e Up o=>by refine mq (P:=λW=>a G W) (λI u=>u) λi m=>Bd z P.rep T o λq n X Uu F=>m _ _ ?_ F;exact ak (Bl P T b e Up (a5.refl.ext X rfl Uu)) λr y=>N q l.toks r y
 induction p using Src.casesOn with
 |zip A C v Uq=>
  obtain ⟨Ua,TI,TS,Ud,T6,rfl,Z,k,x,T9,Uf,Uj⟩:=R;refine ak (Jg o) λUh S=>?_
  ·replace Z:=Z.ok P.rep Uh;refine mq (P:=λW=>a G W) (λI u=>u) λi m=>nZ Z.bS rfl (Bj (s:=s.in1) z P.rep Z S λq n D d Q F=>m _ _ ?_ F);exact ak (qb P Z Q k T9 Uf Uj d) λr y=>N q D r y
 |enum f v=>
  obtain ⟨S,T8,T3,rfl,g,Z,k,x⟩:=R;have t:=Je o
  ·refine mq (P:=λW=>a G W) (λI u=>u) λi m=>Bn g rfl (Jo (s:=s.in1) z P.rep g Z t λq n d F=>m _ _ ?_ F);exact ak (wF P Z g rfl ⟨_,rfl⟩ k x d) λr y=>N q l.toks r y
 |lst A C f=>obtain ⟨v,rfl,T,c,b,e⟩:=R;exact j T b e c o
 |tup T2=>obtain ⟨v,rfl,T,c,b,e⟩:=R;exact j T b e c o
 |cg f T1=>obtain ⟨v,rfl,T,c,b,e⟩:=R;exact j T b e c o
end
section
open AutoSeq1 (wpAny_loadPart')
def gP(j:av)(g:af)(R:String):Prop:=(R="list_iterator"/\∃e,j.IsList g e)\/(R="tuple_iterator"/\∃e,j.IsTuple g e)
theorem gP.keep{j q:av}{g:af}{R:String}(y:gP j g R)(A:∀r,j.get? g=Y r->q.get? g=Y r):gP q g R:=by
 rcases y with⟨o,e,r,F,T⟩|⟨o,e,r,F,T⟩
 ·exact .inl (max o e ⟨r,A _ F,T⟩)
 ·exact .inr (max o e ⟨r,A _ F,T⟩)
noncomputable abbrev fO(R:String)(g:af):Obj:={cls:=.type R,data:=.fields #[.ref g,.int 0 0]}
theorem qc{H:e9}{t:cf}{s:aY}{n:J->ai->Prop}{l:ai}{g:af}{R:String}{a:J->ai->Prop}(w:gP l.heap g R)
  (T:a (.ref l.heap.objs.size) {l with heap:=l.heap.push (fO R g)}):ao (aA H t) s (i9 (.ref g)) a n l:=by
 rcases w with⟨rfl,e,j⟩|⟨rfl,e,j⟩
 ·exact wpAny_pyIter_list j T
 ·exact Jt j T
abbrev wG(j:av)(a:String)(x:af):Heap:=j.push (fO a x)
abbrev wH(j:av)(a b:String)(x u:af):Heap:=(wG j a x).push (fO b u)
abbrev wI(j:av)(a b:String)(x u:af):Heap:=(wH j a b x u).push {cls:=.type "tuple",data:=.seq #[.ref j.objs.size,.ref (wG j a x).objs.size]}
abbrev wJ(j:av)(a b:String)(x u:af):Heap:=(wI j a b x u).push {cls:=.type "tuple",data:=.seq #[.none,.none]}
abbrev Bq(j:av)(a b:String)(x u:af):Heap:=(wJ j a b x u).push {cls:=.type "zip",data:=.fields #[.none,.bool E,.bool E,.ref (wH j a b x u).objs.size,.ref (wI j a b x u).objs.size]}
theorem Ju(a b:String)(x u:af):
  Meets (Builtin.«zip.__new__» ⟨[.type "zip",.ref x,.ref u],[]⟩) (λI R l=>gP l.heap x a/\gP l.heap u b/\
   R (.ok (.ret (.ref (wJ l.heap a b x u).objs.size))) {l with heap:=Bq l.heap a b x u}):=
 .of_wp λH t s R l j=>by
  obtain ⟨S,c,W,D,os⟩:=l;refine br j λg e j=>?_;have f:=sub_zip;have d:gP (Br ⟨S,c,W,D,os⟩) x a:=g;have h:gP (Br ⟨S.push (fO a x),c,W,D,os⟩) u b:=gP.keep e λr o=>cZ _ o
  wp_walk using qc d,qc h
  exact aC _ rfl j
set_option tactic.hygienic true in
theorem Jv(h:String)(g:af):
  Meets (Builtin.«enumerate.__new__» ⟨[.type "enumerate",.ref g],[]⟩) (λI R l=>gP l.heap g h/\
   R (.ok (.ret (.ref (l.heap.push (fO h g)).objs.size)))
    {l with heap:=(l.heap.push (fO h g)).push {cls:=.type "enumerate",data:=.fields #[.none,.bool E,.ref l.heap.objs.size,cB 0,.none,.none]}}):=
 .of_wp λH t s R l j=>by
  obtain ⟨S,c,W,D,os⟩:=l;refine ak j λu j=>?_;have f:=sub_enumerate;have x:gP (Br ⟨S,c,W,D,os⟩) g h:=u
  wp_walk
  refine wpAny_stack_any λst=>aH ?_;generalize Builtin.SmallTypes.calledThroughType.match_1 (λI=>Bool) (Jw 1 st) (λB I I I I=>B==sQ "enumerate") (λI=>E)=b;induction b using ap <;>
   ·wp_walk using qc x
    exact aC _ rfl j
end
structure dg(n0:Nat)(γ γ':ax)(h h':av):Prop where
 g:∀k n p,γ k n=Y p->γ' k n=Y p
 k:∀a aw,h.get? a=Y aw->n0<=a->¬foot γ a->(∀bw ep,aw.data≠.dict bw ep)->aw.cls≠.type "list"->h'.get? a=Y aw/\¬foot γ' a
 tt:∀a items,aO γ h a items->aO γ' h' a items
section
variable{B:aa}{l:Nat}{H Q:ax}{L X:O}{j p:av}
theorem dg.of(P:aR B H j Q X p):dg l H Q j p:=⟨P.grow.1,λv r o I b K I=>⟨(P.keep v r o b).exact K,P.grow.eD o b⟩,λv e d=>by exact aD d.eP λn F=>.of ((P.keep v _ F d.bu).exact λC i u=>by cases u) (P.grow.eD F d.bu)⟩
set_option tactic.hygienic true in
theorem ca.dD(K:dg l H Q j p){h:af}(c:l<=h)(W:¬foot H h):∀{X},ca H j X h->ca Q p X h/\¬foot Q h:=λ{X} T=>by
 refine u4 T.at λr F I L I I q hd=>ak (K.k h r F c W (λn i u=>by replace u:=hd▸u;cases u) L) λa s=>⟨?_,s⟩
 induction X using Src.casesOn with
 |lst A C f=>refine au T λZ S P=>?_;clear T;refine au P λy b T=>?_;rw[F] at b;obtain rfl:=an b;exact aC Z (K.g _ _ _ S) ⟨r,a,T⟩
 |tup x=>obtain ⟨d,e,D,z,⟨y,b,T⟩,R⟩:=T;rw[F] at b;obtain rfl:=an b;exact⟨d,e,D,K.tt _ _ z,aC r a T,aE.ba K.g K.tt _ R⟩
 |cg v m=>refine au T λleft o t=>?_;clear T;rw[p6,F] at o;obtain rfl:=an o;exact aC left a t
 |zip=>exact T.elim|enum=>exact T.elim
theorem cP.dD(K:dg l H Q j p){X:Src}{h:J}(T:cP B l H j X h):cP B l Q p X h:=by
 induction X using Src.casesOn with
 |zip A C v U5=>obtain ⟨i,TI,W,a,q,rfl,Z,y,t,S,x,D⟩:=T;exact ak (K.k _ _ Z.bS y Z.gg (λn L u=>by cases u) (by simp)) λP TR=>ak (K.k _ _ Z.eI t Z.hQ (λn L u=>by cases u) (by simp)) λF TS=>ak (Z.dv.dD K x Z.fM) λR N=>ak (Z.dw.dD K D Z.fN) λe w=>⟨i,TI,W,a,q,rfl,⟨K.g _ _ _ Z.mo,P,F,R,e,Z.ne,Z.p7,TS,TR,N,w,Z.hR,Z.hS,Z.hT⟩,y,t,S,x,D⟩
 |enum f v=>obtain ⟨o,I,T3,rfl,d,Z,y,t⟩:=T;exact ak (K.k _ _ d y Z.sL (λn L u=>by cases u) (by simp)) λUW TU=>ak (Z.r.dD K t Z.sM) λR N=>⟨o,I,T3,rfl,UW,⟨R,TU,N,Z.sN,Z.sO⟩,y,t⟩
 |lst A C f=>obtain ⟨v,rfl,T,c,b,s⟩:=T;exact ak (T.dD K c b) λz m=>⟨v,rfl,z,c,m,s⟩
 |tup Uf=>obtain ⟨v,rfl,T,c,b,s⟩:=T;exact ak (T.dD K c b) λz m=>⟨v,rfl,z,c,m,s⟩
 |cg f Uj=>obtain ⟨v,rfl,T,c,b,s⟩:=T;exact ak (T.dD K c b) λz m=>⟨v,rfl,z,c,m,s⟩
inductive Jx(l:Nat)(H:ax)(j:av)(a b:Int)(v:J):Prop
 |mk (r t u w:af) (e:v=.ref r) (g:l<=r) (bu:¬foot H r) (x:IsRange j r a b 1 t u w) (z:Builtin.Range.small a b 1=M) (q:a=0)
def n1(B:aa)(l:Nat)(H:ax)(j:av):Src->J->Prop
 |.lst A C f,N=>f=0/\aq H j (.ref A C) N|.tup xs,N=>aq H j (.tup xs) N|.cg v m,N=>Jx l H j v m N|src,N=>cP B l H j src N
def n2(L:O):Src->Prop
 |.lst A C _=>∃xs,L.get A C=Y (.list xs)|_=>True
theorem n1.st(R:Rep B H L j)(P:aR B H j Q X p){Z:Src}{N:J}(T:n1 B l H j Z N):n1 B l Q p Z N:=by
 induction Z using Src.casesOn with
 |lst A C f=>exact⟨T.1,aq.post R P _ T.2⟩|tup x=>exact aq.post R P _ T|cg v m=>obtain ⟨T,d,a,t,rfl,c,b,K,r,u⟩:=T;exact ak ((dg.of P:dg l H Q j p).k _ _ K c b (λn i u=>by cases u) (by simp)) λe s=>⟨T,d,a,t,rfl,c,s,e,r,u⟩
 |zip A C v m=>replace T:cP B l H j (.zip A C v m) N:=T;exact T.dD (dg.of P)|enum f v=>replace T:cP B l H j (.enum f v) N:=T;exact T.dD (dg.of P)
end
noncomputable def mr(B:aa)(l:Nat):Inv B:=⟨λI j=>l<=j.objs.size,λI x P=>Nat.le_trans x P.size⟩
noncomputable def qd{B:aa}(l:Nat):Rel B Src Value:=⟨λX N=>⟨λH j=>n1 B l H j X N,λR x P=>x.st R P⟩⟩
noncomputable def n3{B:aa}(l:Nat):Rel B Src Value:=⟨λX N=>⟨λH j=>cP B l H j X N,λI x P=>x.dD (dg.of P)⟩⟩
section
variable{B:aa}{S:Nat}{W:Inv B}{TX:Nat}{L:O}{D:Nat->Nat->O->Prop}
theorem Rep.nb{H:ax}{j:av}(R:Rep B H L j){v:af}(c:j.objs.size<=v):B.base.get? v=none:=by
 generalize u:B.base.get? v=K;induction K using aB with|none=>rfl|some r=>exact absurd (Nat.lt_of_lt_of_le (bJ (R.stays _ _ u)) c) (Nat.lt_irrefl _)
theorem Rep.gQ{H:ax}{j:av}(R:Rep B H L j){v:af}(c:j.objs.size<=v):¬foot H v:=λ⟨_,_,_,o,y⟩=>by
 have g:=R.lt o;rcases y with rfl|rfl
 ·exact absurd (Nat.lt_of_lt_of_le g.1 c) (Nat.lt_irrefl _)
 ·exact absurd (Nat.lt_of_lt_of_le g.2 c) (Nat.lt_irrefl _)
theorem qe{H:ax}{j:av}(R:Rep B H L j){y:V}{N:J}{X:Src}(o:hK L y=Y X)(T:aq H j y N):
  ∃g l,N=.ref g/\gP j g l/\n2 L X/\(∀A C Z f v m,X≠.zip A C v m/\X≠.enum f v/\(X≠.cg Z f))/\∀(K:ax) (q:av) (h:af),(∀A C Z,H A C=Y Z->K A C=Y Z)->(∀v e,aO H j v e->aO K q v e)->q.get? h=Y (fO l g)->ca K q X h:=by
 refine hd λi W=>?_;induction y using V.casesOn with
 |tup x=>obtain rfl:=an o;obtain ⟨v,e,rfl,d,t⟩:=T;exact W (zb v _ rfl (.inr (max rfl e d.tup)) trivial (λI I I I I I=>aQ nofun nofun nofun) (λK q h c n F=>⟨v,e,0,n _ _ d,cW _ F rfl rfl,aE.ba c n _ (t)⟩))
 |ref A C=>
  unfold hK at o;dsimp only at o;generalize a:L.get A C=r at o;induction r using aB with|none=>exact ag o|some r=>induction r using aj.casesOn with
   |list x=>obtain rfl:=an o;obtain ⟨Z,S,rfl⟩:=T;obtain ⟨_,e,⟨z,b⟩,_⟩:=R.obj _ _ _ _ S a;exact W (zb Z.1 _ rfl (.inl (max rfl e (g9 _ b rfl _ rfl))) ⟨_,a⟩ (λI I I I I I=>aQ nofun nofun nofun) (λK q h c n F=>aC Z (c _ _ _ S) ⟨_,F,rfl,rfl⟩))
   |_=>exact ag o
 |_=>exact ag o
theorem sR{X:Src}{N:J}{h:Src->O->Prop}(z:∀H j,W.p H j->n1 B TX H j X N/\TX<=j.objs.size)(d:n2 L X)(j:h X L):ae B S W L (i9 N) (n3 TX) h D:=λT9 TR H l Uo F P f TV=>by
 refine ak (z _ _ f) λb a=>?_;have c:∀{R g},gP l.heap g R->ca H (l.heap.push (fO R g)) X l.heap.objs.size->(∀A C v m,X≠.zip A C v m)->(∀f v,X≠.enum f v)->ao (aA B.prog B.w) T9 (i9 (.ref g)) (ef (n3 TX) h H l) (dq B D H l) l:=λ{R g} r T TW k=>by
  refine qc r ⟨X,L,H,j,?_,.more P (b6 _) (push_size _),rfl,rfl⟩;have i:wD B TX H (l.heap.push (fO R g)) X (.ref l.heap.objs.size):=⟨_,rfl,T,a,P.gQ (Nat.le_refl _),P.nb (Nat.le_refl _)⟩;clear T b j d z;induction X using Src.casesOn with|zip=>exact absurd rfl (TW _ _ _ _)|enum=>exact absurd rfl (k _ _)|_=>exact i
 induction X using Src.casesOn with
 |lst A C K=>
  refine ak b λQ n=>?_;clear b;clear j;subst Q;refine aD d λx T6=>?_;clear d;refine pe (qe P (y:=.ref A C) (X:=.lst A C 0) (by show(match L.get A C with|some (.list _)=>Y (Src.lst A C 0)|_=>G)=_;exact U T6 rfl) n) λg R Q r I I mk=>?_;clear z n;subst Q
  exact c r (mk H _ _ (λI I I o=>o) (iG (b6 _)) (ct _ rfl)) nofun nofun
 |tup x=>refine pe (qe P (y:=.tup x) (X:=.tup x) rfl b) λg R Q r I I mk=>?_;clear b z;subst Q;exact c r (mk H _ _ (λI I I o=>o) (iG (b6 _)) (ct _ rfl)) nofun nofun|cg v m=>obtain ⟨T,UQ,Uu,Ul,rfl,TV,TS,T8,UH,rfl⟩:=b;refine wpAny_pyIter_range T8 UH ⟨.cg 0 m,L,H,j,⟨_,rfl,aC _ (ct _ rfl) ?_,a,P.gQ (Nat.le_refl _),P.nb (Nat.le_refl _)⟩,.more P (b6 _) (push_size _),rfl,rfl⟩;rw[rangeSize_one];split <;>lia
 |zip A C v m=>obtain ⟨i,TI,TU,Up,q,rfl,Z,s,t,u,Uv,Ub⟩:=(b:cP B TX H l.heap (.zip A C v m) N);exact Bs Z.bS ⟨_,L,H,j,⟨i,TI,TU,Up,q,rfl,Z,s,t,u,Uv,Ub⟩,.refl P,.refl⟩
 |enum K v=>obtain ⟨o,y,T3,rfl,e,s,t,u⟩:=(b:cP B TX H l.heap (.enum K v) N);exact Jy e ⟨_,L,H,j,⟨o,y,T3,rfl,e,s,t,u⟩,.refl P,.refl⟩
end
section
variable{B:aa}{S:Nat}{w:Inv B}{T:Nat}{L:O}{D:Nat->Nat->O->Prop}{h:Src->O->Prop}
theorem Jz{C:Int}(j:l9 C=M):Builtin.Range.small 0 C 1=true:=by
 have t:=sx j;have S:∀y:Int,-(2^63)<y->y<2^63->Builtin.Range.rangeFitsLong y=true:=λy v m=>by show(decide (-(2^63:Int)<=y)&&decide (y<2^63))=M;refine U (decide_eq_true (Int.le_of_lt v)) (U (decide_eq_true m) ?_);rfl
 have X:=S C (by lia) (by lia)
 have d:=S 0 (by decide) (by decide)
 have b:=S 1 (by decide) (by decide)
 have n:Builtin.Range.rangeFitsLong (if 0<C then C-0 else 0)=true:=by
  split
  ·rw[Int.sub_zero];exact X
  ·exact d
 unfold Builtin.Range.small;rw[rangeSize_one];refine U d (U X (U b (U n ?_)));simp only[Bool.true_and,zq,show(1:Int)>0 by decide,if_true]
 refine U (show C+(1-1)=C from Int.add_zero C) (U X ?_);simp
theorem JA{C:Int}{N:J}(X:l9 C=M)(i:∀H j,w.p H j->aq H j (.int C) N/\T<=j.objs.size)(j:h (.cg 0 C) L):ae B S w L (bV (.type "range") [N]) (qd T) h D:=λs b H l Z Fr P f c=>by refine ak (i _ _ f) λe R=>?_;obtain ⟨d,rfl⟩:=e;exact call_range_1 ⟨.cg 0 C,L,H,j,⟨_,_,_,_,rfl,R,P.gQ (Nat.le_refl _),ct _ rfl,Jz X,rfl⟩,.more P (b6 _) (push_size _),rfl,rfl⟩
theorem JB{y:V}{N:J}{X:Src}(o:hK L y=Y X)(i:∀H j,w.p H j->aq H j y N/\T<=j.objs.size)(j:h (.enum 0 X) L):ae B S w L (bV (.type "enumerate") [N]) (qd T) h D:=λs a H l A Fr P f c=>by
 refine ak (i _ _ f) λZ e=>pe (qe P o Z) λg R Q m I I mk=>?_;clear Z i;subst Q;refine Bt PySem.F.called_enumerate (by decide) (PySem.F.typeCall_enumerate_1 _) (PySem.F.newCall_enumerate_1 _) (λK=>JC K _) PySem.F.entry_enumerate_new (Jv R g) ⟨m,?_⟩
 have x:(l.heap.push (fO R g)).objs.size=l.heap.objs.size+1:=lb ..;have q:∀v r,l.heap.get? v=Y r->((l.heap.push (fO R g)).push {cls:=.type "enumerate",data:=.fields #[.none,.bool E,.ref l.heap.objs.size,cB 0,.none,.none]}).get? v=Y r:=λv r o=>b6 _ _ _ (b6 _ _ _ o);have d:jW ((l.heap.push (fO R g)).push {cls:=.type "enumerate",data:=.fields #[.none,.bool E,.ref l.heap.objs.size,cB 0,.none,.none]}) (l.heap.push (fO R g)).objs.size l.heap.objs.size 0 .none:=ct _ rfl;have b:((l.heap.push (fO R g)).push {cls:=.type "enumerate",data:=.fields #[.none,.bool E,.ref l.heap.objs.size,cB 0,.none,.none]}).get? l.heap.objs.size=Y (fO R g):=b6 _ _ _ (ct _ rfl);refine⟨aC _ d rfl,.enum 0 X,L,H,j,⟨_,_,_,rfl,d,⟨mk H _ _ (λI I I o=>o) (iG q) b,P.gQ (by lia),P.gQ (Nat.le_refl _),P.nb (by lia),P.nb (Nat.le_refl _)⟩,by lia,e⟩,.more P q (Nat.le_trans (push_size _) (push_size _)),rfl,rfl⟩
theorem qf{j:av}{r:bA}:j.objs.size<(j.push r).objs.size:=by rw[lb];exact Nat.lt_succ_self _
theorem JD{H:ax}{j h:av}{z s D c:af}{v m:Src}{TR TZ:J}(q:Rep B H L j)(R:T<=j.objs.size)(I:j.objs.size<z)(X:z<s)(S:s<D)(p:D<c)(Ub:c<h.objs.size)(TU:∀v r,j.get? v=Y r->h.get? v=Y r)
  (f:L.get L.bf L.n=G)(Uv:L.bf=0->L.n<2^24)(Uj:io h c s D .none)(TS:de h s (.ref j.objs.size) (.ref z))(Uf:de h D TR TZ)
  (TW:∀K:ax,(∀A C Z,H A C=Y Z->K A C=Y Z)->(∀v e,aO H j v e->aO K h v e)->ca K h v j.objs.size)
  (T0:∀K:ax,(∀A C Z,H A C=Y Z->K A C=Y Z)->(∀v e,aO H j v e->aO K h v e)->ca K h m z):
  ∃K,aR B H j K (L.set L.bf L.n (Y .ce)) h/\cP B T K h (.zip L.bf L.n v m) (.ref c):=by
 have Q:=Nat.le_of_lt I;have d:=Nat.lt_trans I X;have l:=Nat.le_of_lt d;have g:=Nat.lt_trans X S;have N:=Nat.le_of_lt (Nat.lt_trans d S);have k:=Nat.le_trans N (Nat.le_of_lt p);have x:∀w a y,H w a=Y y->bD H L.bf L.n (D,D) w a=Y y:=λw a y o=>by
  unfold bD;by_cases u:w=L.bf/\a=L.n
  ·have W:=q.ed w a;rw[o,u.1,u.2,f] at W;exact cS W
  ·exact U (if_neg u) o
 have b:∀v,j.objs.size<=v->v≠D->¬foot (bD H L.bf L.n (D,D)) v:=λv TY i ⟨A,C,Z,o,t⟩=>by
  unfold bD at o;by_cases u:A=L.bf/\C=L.n
  ·rw[if_pos u] at o;rw[<-an o] at t;exact t.elim i i
  ·rw[if_neg u] at o;exact q.gQ TY ⟨A,C,Z,o,t⟩
 have P:aR B H j (bD H L.bf L.n (D,D)) (L.set L.bf L.n (Y .ce)) h:=aR.alloc q TU (Nat.le_trans k (Nat.le_of_lt Ub)) f Uv N N λK UX F=>⟨rfl,_,_,Uf⟩;have F:∀v e,aO H j v e->aO (bD H L.bf L.n (D,D)) h v e:=(dg.of P:dg 0 _ _ _ _).tt;exact aC _ P ⟨c,s,D,j.objs.size,z,rfl,⟨sw,Uj,TS,TW _ x F,T0 _ x F,Nat.ne_of_lt I,Nat.ne_of_lt S,b _ l (Nat.ne_of_lt S),b _ k (Nat.ne_of_gt p),b _ (Nat.le_refl _) (Nat.ne_of_lt (Nat.lt_trans I g)),b _ Q (Nat.ne_of_lt g),q.nb k,q.nb (Nat.le_refl _),q.nb Q⟩,Nat.le_trans R k,Nat.le_trans R l,Nat.le_trans R N,R,Nat.le_trans R Q⟩
theorem JE{y X:V}{N t:J}{v m:Src}(z:hK L y=Y v)(g:hK L X=Y m)(i:∀H j,w.p H j->aq H j y N/\aq H j X t/\T<=j.objs.size)
  (j:((L.alloc .ce).bind λI b=>Res.ok (Src.zip L.bf L.n v m) b).to h D):ae B S w L (bV (.type "zip") [N,t]) (qd T) h D:=by
 rw[Res.bc] at j;refine br (nN j) λR e W=>?_;replace W:h (Src.zip L.bf L.n v m) {L.set L.bf L.n (Y .ce) with n:=L.n+1}:=W
 refine ae.eqv (λTR TS H l T0 Fr q f c=>?_);refine br (i _ _ f) λZ A Up=>?_;refine pe (qe q z Z) λx s Q TU I I TW=>?_;clear Z;subst Q;refine pe (qe q g A) λu a Q TX I I d=>?_;clear i A;subst Q;refine Bt PySem.F.called_zip (by decide) (PySem.F.typeCall_zip_2 _ _) (PySem.F.newCall_zip_2 _ _) (λr=>PySem.F.args_object_init_3 r _ _) PySem.F.entry_zip_new (Ju s a x u) (aQ TU TX ?_)
 refine au (JD (j:=l.heap) (h:=Bq l.heap s a x u) (z:=(wG l.heap s x).objs.size) (s:=(wH l.heap s a x u).objs.size) (D:=(wI l.heap s a x u).objs.size) (c:=(wJ l.heap s a x u).objs.size) q Up qf qf qf qf qf
  (λv TV o=>b6 _ _ _ (b6 _ _ _ (b6 _ _ _ (b6 _ _ _ (b6 _ _ _ o))))) R e (ct _ rfl) (b6 _ _ _ (b6 _ _ _ (ct _ rfl))) (b6 _ _ _ (ct _ rfl))
  (λK c C=>TW _ _ _ c C (b6 _ _ _ (b6 _ _ _ (b6 _ _ _ (b6 _ _ _ (ct _ rfl))))))
  λK c C=>d _ _ _ c C (b6 _ _ _ (b6 _ _ _ (b6 _ _ _ (ct _ rfl))))) λK P k=>?_
 exact⟨aC _ (ct _ rfl) rfl,.zip L.bf L.n v m,_,K,aC _ W (λUU f=>we _ _ _ _),k,P,rfl,rfl⟩
end
section
variable{B:aa}{S TX:Nat}{R:Rec}{a:a4}{k:aF}{Q:al}{L:O}{D:Nat->Nat->O->Prop}{h:Src->O->Prop}
theorem JF{H:ax}{j:av}{y:V}{N:J}{X:Src}(o:hK L y=Y X)(T:aq H j y N):n1 B TX H j X N/\n2 L X:=by
 refine hd λi W=>?_;induction y using V.casesOn with
 |tup x=>obtain rfl:=an o;exact W ⟨T,trivial⟩
 |ref A C=>
  unfold hK at o;dsimp only at o;generalize a:L.get A C=r at o;induction r using aB with|none=>exact ag o|some r=>induction r using aj.casesOn with
   |list x=>obtain rfl:=an o;exact W (max ⟨rfl,T⟩ _ a)
   |_=>exact ag o
 |_=>exact ag o
abbrev jX(B:aa)(S:Nat)(TX:Nat)(k:aF)(Q:al)(L:O)(o:ah)(h:Src->O->Prop)(D:Nat->Nat->O->Prop):Prop:=
 ae B S ((loc B k Q).and (mr B TX)) L (aX o k) (qd TX) (λX n=>n2 n X/\h X n) D
theorem jY(K:ROk B S R)(g:a8 a k){W:Nat}{o:ah}(j:(iT R (az W a o) Q L).to h D):jX B S TX k Q L o h D:=by replace j:((R.e (az W a o) Q L).bind λy L=>iO L (hK L y)).to h D:=j;rw[Res.bc] at j;exact λs b H l i F P f c=>b3 (K.e g j s b H l i F P f.1 c) (λN A ⟨y,n,p,q,Z,I⟩=>au (pW q) λX r q=>ak (JF (B:=B) (TX:=TX) r Z) λm d=>⟨X,n,p,⟨d,q⟩,m,I⟩)
theorem JG{d:ah}(j:pR d=E):∀r v Z,d≠.Attribute r v Z:=λr v Z o=>by subst o;exact cS j
theorem JH{N:Type}{T:Res N}{v:N}{n:O}(o:T=.ok v n):T.to (λm a=>m=v/\a=n) D:=by refine U o ?_;exact⟨rfl,rfl⟩
theorem sS{o:ah}{n:List ah}(j:dN (o::n)=M):notStar o=true:=(mj j).1
theorem wK(ok:B.Fine)(K:ROk B S R)(g:a8 a k){W:Nat}{d:ah}{C:List ah}{z:aN}{m:d0}{y:O}(u:pR d=E)(X:dN C=M)(i:R.e (az W a d) Q L=.ok (.glob (.bi m)) y)
  (j:jE B S k Q y z C (λx N=>∀t,ae B S (((loc B k Q).and (mr B TX)).and (l0 x t)) N (bV (jA m) t) (qd TX) (λp n=>n2 n p/\h p n) D) D):jX B S TX k Q L (.Call d C [] z) h D:=by
 show ae B S _ L (aX (.Call d C [] z) k) _ _ _;rw[wt d (JG u)];refine ae.bind (ae.weak (ae.q (K.e (Ψ:=D) g (JH i)) (λc n o=>ak o λr w=>?_)) and_left);subst r w;intro A;refine λs b H l T F P f c=>?_;have:A=jA m:=f.2;subst this;exact sB ok.dR (w:=(loc B k Q).and (mr B TX)) (k:=k) (Q:=Q) X (wp m) (λI I f=>f.1) j s b H l T F P f.1 c
theorem JI{z:aK}{m:d0}(j:iU z=Y m):z=.lit (.glob (.bi m)):=by
 induction z using aK.casesOn with
 |lit N=>
  induction N using V.casesOn with
  |glob c=>
   induction c using e8.casesOn with|bi K=>exact U (an j) rfl|_=>exact ag j
  |_=>exact ag j
 |_=>exact ag j
abbrev sT(R:Rec):Prop:=∀N Q L,R.e (.lit N) Q L=.ok N L\/R.e (.lit N) Q L=.no
theorem wL(Z:sT R){N:Type}{z:aK}{m:d0}{A:V->O->Res N}{h:N->O->Prop}(T:iU z=Y m)(j:((R.e z Q L).bind A).to h D):R.e z Q L=.ok (.glob (.bi m)) L/\(A (.glob (.bi m)) L).to h D:=by
 rw[JI T] at j⊢;rcases Z (.glob (.bi m)) Q L with u|u
 ·rw[u] at j;exact⟨u,j⟩
 ·rw[u] at j;exact j.elim
theorem JJ(ok:B.Fine)(K:ROk B S R)(u:sT R)(g:a8 a k){W:Nat}{Z v:ah}{z:aN}(w:pR Z=E)(d:dN [v]=M)(j:(stepI R (.r7 (az W a Z) (az W a v) (az W a (.Call Z [v] [] z))) Q L).to h D):jX B S TX k Q L (.Call Z [v] [] z) h D:=by
 refine hd λUD n=>?_;generalize x:iU (az W a Z)=UC;induction UC using aB with
 |none=>
  replace j:(match iU (az W a Z) with|some m=>vN R m (az W a Z) (az W a v) (az W a (.Call Z [v] [] z)) Q L|none=>iT R (az W a (.Call Z [v] [] z)) Q L).to h D:=j
  rw[x] at j;exact n (jY K g j)
 |some m=>
  replace j:(match iU (az W a Z) with|some m=>vN R m (az W a Z) (az W a v) (az W a (.Call Z [v] [] z)) Q L|none=>iT R (az W a (.Call Z [v] [] z)) Q L).to h D:=j
  replace j:=x▸j;induction m using d0.casesOn with
  |range=>refine ak (wL u x j) λp j=>?_;rw[Res.bc] at j;refine n (wK ok K g w d p (nn (sS d) (ae.q (K.e g j) (λy TZ o=>pl λt=>au (cO o) λTR X C=>ak (dr C) λr TU=>?_))));replace X:=k4 X;clear o;subst X;refine λs b H l A F P f c=>?_;obtain ⟨N,T,rfl,i,rfl⟩:=f.2;exact JA (w:=((loc B k Q).and (mr B TX)).and (ee (.int TR) N)) r (λI I f=>⟨f.2,f.1.2⟩) ⟨trivial,TU⟩ s b H l A F P ⟨f.1,i⟩ c
  |enumerate=>refine ak (wL u x j) λp j=>?_;rw[Res.bc] at j;refine n (wK ok K g w d p (nn (sS d) (ae.q (K.e g j) (λy TZ o=>pl λt=>au (cO o) λTS r C=>λs b H l A F P f c=>?_))));obtain ⟨N,T,rfl,i,rfl⟩:=f.2;exact JB (w:=((loc B k Q).and (mr B TX)).and (ee y N)) r (λI I f=>⟨f.2,f.1.2⟩) ⟨trivial,C⟩ s b H l A F P ⟨f.1,i⟩ c
  |_=>exact n (jY K g j)
theorem JK(ok:B.Fine)(K:ROk B S R)(o:sT R)(g:a8 a k){W:Nat}{T v m:ah}{z:aN}(r:pR T=E)(d:dN [v,m]=M)(j:(stepI R (.r8 (az W a T) (az W a v) (az W a m) (az W a (.Call T [v,m] [] z))) Q L).to h D):jX B S TX k Q L (.Call T [v,m] [] z) h D:=by
 refine hd λUD x=>?_;generalize s:iU (az W a T)=p;induction p using aB with
 |none=>
  replace j:(match iU (az W a T) with|some u=>vO R u (az W a T) (az W a v) (az W a m) (az W a (.Call T [v,m] [] z)) Q L|none=>iT R (az W a (.Call T [v,m] [] z)) Q L).to h D:=j
  rw[s] at j;exact x (jY K g j)
 |some u=>
  replace j:(match iU (az W a T) with|some u=>vO R u (az W a T) (az W a v) (az W a m) (az W a (.Call T [v,m] [] z)) Q L|none=>iT R (az W a (.Call T [v,m] [] z)) Q L).to h D:=j
  rw[s] at j;induction u using d0.casesOn with
  |zip=>
   refine ak (wL o s j) λUC j=>?_;rw[Res.bc] at j;refine x (wK ok K g r d UC (nn (sS d) (ae.q (K.e g j) (λy TZ A=>?_))));rw[Res.bc] at A;refine nn (sS (mj d).2) (ae.q (K.e g A) (λX t TR=>pl λTV=>au (cO TR) λT7 C TU=>au (cO TU) λTW w i=>λUe T1 H l Uo F P f c=>?_));obtain ⟨N,TS,rfl,Uf,T3,TY,rfl,T0,rfl⟩:=f.2;have T5:((t.alloc .ce).bind λI b=>Res.ok (Src.zip t.bf t.n T7 TW) b).to (λZ b=>n2 b Z/\h Z b) D:=by rw[Res.bc] at i⊢;exact Res.hO i λI I j=>⟨trivial,j⟩
   exact JE (w:=((loc B k Q).and (mr B TX)).and ((ee y N).and (ee X T3))) C w (λI I f=>aQ f.2.1 f.2.2 f.1.2) T5 Ue T1 H l Uo F P (aQ f.1 Uf T0) c
  |_=>exact x (jY K g j)
theorem JL(ok:B.Fine)(K:ROk B S R)(u:sT R)(g:a8 a k){W:Nat}{o:ah}(j:(stepI R (ft (az W a) o) Q L).to h D):jX B S TX k Q L o h D:=by
 induction o using bE with
 |Call d n b z=>
  induction b using aS with|cons=>exact jY K g j|nil=>
   replace j:(stepI R (match byName d n with|true=>Ap (az W a) d n (.Call d n [] z)|false=>.kL (az W a (.Call d n [] z))) Q L).to h D:=j
   generalize F:byName d n=p;induction p using ap with|false=>replace j:=F▸j;exact jY K g j|true=>
    replace j:=F▸j;refine ak (b8 F) λw X=>?_;replace w:=k6 w;rcases n with _|⟨v,_|⟨m,_|⟨y,T⟩⟩⟩
    ·exact jY K g j
    ·exact JJ ok K u g w X j
    ·exact JK ok K u g w X j
    ·exact jY K g j
 |_=>exact jY K g j
end
set_option backward.match.sparseCases false
noncomputable def isTup :ah->Bool
 |.Tuple _ _ _=>M|_=>E
section
variable{B:aa}{H S:ax}{L:O}{s:aY}{l:ai}{T0:av}{K:J->ai->Prop}
theorem wM{t:ah}{h N:J}{v:af}{X:Src}{a:Unit->ai->Prop}(D:isTup t=M\/∃y Z,t=.Name y Z)(c:h=.ref v)(T:ca H l.heap X v)(j:a () l):ao (aA B.prog B.w) s (qg t h N) a K l:=by
 rcases D with D|⟨y,Z,rfl⟩
 ·induction t using bE with
  |Tuple n A z=>
   subst c;induction N using hV with
   |ref m=>
    refine u4 T.at λr F b p g q e hd=>ab (sU F ?_);have k:(r.cls=.type "list_iterator"\/r.cls=.type "tuple_iterator"\/r.cls=.type "range_iterator"):=by
     induction X using Src.casesOn with
     |lst A C f=>refine Fd T λI I P S k I=>?_;clear T;rw[F] at S;obtain rfl:=an S;exact .inl k
     |tup x=>obtain ⟨_,_,_,_,⟨P,S,k,_⟩,_⟩:=T;rw[F] at S;obtain rfl:=an S;exact .inr (.inl k)
     |cg v m=>refine au T λI o I=>?_;clear T;rw[p6,F] at o;obtain rfl:=an o;exact .inr (.inr rfl)
     |zip=>exact T.elim|enum=>exact T.elim
    have i:∀(R:String) (m:Bool) (d:aZ Unit),(["enumerate","zip","dict_itemiterator","dict_reverseitemiterator","odict_iterator","itertools.zip_longest","itertools.pairwise"].contains R)=E->ao (aA B.prog B.w) s (if(["enumerate","zip","dict_itemiterator","dict_reverseitemiterator","odict_iterator","itertools.zip_longest","itertools.pairwise"].contains R&&m)=M then d else pure ()) a K l:=λR m d L=>by refine U L ?_;rw[Bool.false_and];exact U (if_neg i3) (aH j)
    rcases k with k|k|k
    ·exact U k (U hd (i _ _ _ (by decide)))
    ·exact U k (U hd (i _ _ _ (by decide)))
    ·exact U k (U hd (i _ _ _ (by decide)))
   |_=>exact aH j
  |_=>exact aG D
 ·exact aH j
theorem Bu{k:ah}{X:Src}{h N:J}{T2:Unit->ai->Prop}(P:aR B S T0 H L l.heap)(z:Bk B T0.objs.size H L l.heap X h N)(D:isTup k=M\/(nG X=E/\∃y p,k=.Name y p))
  (n:∀q,aR B S T0 H L q->Moved T0.objs.size H l.heap q->cP B T0.objs.size H q X h->T2 () {l with heap:=q}):ao (aA B.prog B.w) s (qg k h N) T2 K l:=by
 have R:isTup k=M\/∃y p,k=.Name y p:=D.imp (λy=>y) λy=>y.2;induction X using Src.casesOn with
 |zip A T1 v TU=>
  obtain ⟨i,TI,W,I,j,TW,rfl,rfl,Z,C,a,T9,Uf,Uj⟩:=z;rcases D with D|⟨u,_⟩
  ·clear R;induction k using bE with
   |Tuple Ut A TY=>
    refine wpAny_letOwnedTupleGo_zip Z.bS λq Uh m=>?_;have d:a5 (eW i W I j) l.heap q:=a5.refl.same m (.inl rfl);refine cR Z.p8 λTX t TS=>?_;have TV:W≠i:=λu=>by have t:=TS.symm.trans ((congrArg l.heap.get? u).trans Z.bS);simp at t
    have Ul:TI≠i:=λu=>by have t:=Z.eI.symm.trans ((congrArg l.heap.get? u).trans Z.bS);simp at t
    refine ak (qb P Z (ea TX t ((m.2 _ TV).trans TS)) C T9 Uf Uj d) λb x=>?_;have T7:I≠i:=Z.dv.ne Z.bS (.inr (.inl rfl));have T6:j≠i:=Z.dw.ne Z.bS (.inr (.inl rfl));exact n q b x ⟨i,TI,W,I,j,rfl,⟨Z.mo,Uh,(m.2 _ Ul).trans Z.eI,Z.dv.keep x.tt λUd F=>(m.2 _ T7).trans F,Z.dw.keep x.tt λUd F=>(m.2 _ T6).trans F,Z.ne,Z.p7,Z.hQ,Z.gg,Z.fM,Z.fN,Z.hR,Z.hS,Z.hT⟩,C,a,T9,Uf,Uj⟩
   |_=>exact aG D
  ·exact cS u
 |enum T8 v=>
  obtain ⟨o,f,T5,TW,rfl,rfl,g,Z,C,a⟩:=z;rcases D with D|⟨u,_⟩
  ·clear R;induction k using bE with|Tuple Ut A TY=>refine wpAny_letOwnedTupleGo_enum g λq UW m=>?_;have d:a5 (i8 o f) l.heap q:=a5.refl.same m (.inl rfl);refine ak (wF P Z g rfl ⟨_,rfl⟩ C a d) λb x=>?_;have T3:f≠o:=Z.r.ne g (.inr (.inr rfl));exact n q b x ⟨o,f,T5,rfl,UW,⟨Z.r.keep x.tt λUd F=>(m.2 _ T3).trans F,Z.sL,Z.sM,Z.sN,Z.sO⟩,C,a⟩|_=>exact aG D
  ·exact cS u
 |lst A T1 T8=>obtain ⟨v,rfl,T,c,Q,e⟩:=z;exact wM R rfl T (n l.heap P .refl ⟨v,rfl,T,c,Q,e⟩)
 |tup TR=>obtain ⟨v,rfl,T,c,Q,e⟩:=z;exact wM R rfl T (n l.heap P .refl ⟨v,rfl,T,c,Q,e⟩)
 |cg T8 Ux=>obtain ⟨v,rfl,T,c,Q,e⟩:=z;exact wM R rfl T (n l.heap P .refl ⟨v,rfl,T,c,Q,e⟩)
end
set_option backward.match.sparseCases true
section
variable{B:aa}{S:Nat}{w:Inv B}{L:O}{D:Nat->Nat->O->Prop}
theorem wN{x:List V}{N:J}{h:List V->O->Prop}(i:∀H j,w.p H j->aq H j (.tup x) N)(j:h x L):ae B S w L (n4 N x.length G) rN h D:=λTS U4 H l Z F q f TV=>by
 obtain ⟨d,e,rfl,t,R⟩:=i _ _ f;have X:=t.tup;have s:d≠l.heap.objs.size:=by refine au X λr Q I=>?_;clear X;exact Nat.ne_of_lt (bJ Q)
 have u:x.length=e.size:=by refine U R.length.symm ?_;exact U eQ rfl
 refine U u (ab ?_)
 ·refine ab (Bv X.typeIs PySem.F.slot_tuple_iter.lookup (aH (U (if_neg i3) (ab (ck (Jt X (ab (ck (wpAny_draw_tuple s e.size 0 _ _ (cW _ (ct _ rfl) rfl rfl) (X.push _) (by lia) λA y k=>?_)))))))))
  have TU:List.take e.size (Jw 0 e.toList)=e.toList:=by exact U JM (List.take_of_length_le (by simp))
  refine U TU (U (if_neg (by simp)) ?_)
  have c:A.IsTuple d e:=(X.push _).extBut k.extBut s;refine ab (ck (mq (B:=B) (P:=λW=>∃C,W={l with heap:=C}/\i5 l.heap.objs.size A C/\A.objs.size<=C.objs.size) (λW T=>bX T λC n z TR=>?_) λUa K=>A8 Z.handled y c (by simp) λC o v m Q=>K _ _ (cW C rfl v m) Q))
  subst n;dsimp only[JN,ms,if_false];have g:∀v r,l.heap.get? v=Y r->C.get? v=Y r:=λv r o=>z v r (Nat.ne_of_lt (bJ o)) (k.extBut v r (Nat.ne_of_lt (bJ o)) (b6 _ _ _ o));have b:l.heap.objs.size<=C.objs.size:=by have a:=k.1;have TX:=push_size (j:=l.heap) {cls:=.type "tuple_iterator",data:=.fields #[.ref d,.int 0 0]};replace a:A.objs.size=(l.heap.push {cls:=.type "tuple_iterator",data:=.fields #[.ref d,.int 0 0]}).objs.size:=a;lia
  exact aH ⟨x,L,H,j,aE.ba (λI I I o=>o) (iG g) _ R,.more q g b,rfl,rfl⟩
end
section
variable{B:aa}{S:Nat}{k:aF}{w:bF B k}{Q:al}{L:O}{a:a4}{D:Nat->Nat->O->Prop}
theorem sV(g:a8 a k){y:am}{f:Nat}(o:dM a y=Y f):bt y=Y f/\(k.kindOf y=Y .local\/(k.kindOf y=Y .cell/\(k.cells.lookup y).isSome=M)):=by
 unfold dM at o;generalize b:bt y=K;induction K using aB with|none=>replace o:=b▸o;exact ag o|some D=>
  replace o:=b▸o;dsimp only at o;generalize m:aL D a=K;induction K using aB with|none=>replace o:=m▸o;exact ag o|some A=>
   rw[m] at o;have d:=g y D A b m;clear m;induction A using eU with
   |«local»=>obtain rfl:=an o;exact⟨rfl,.inl d⟩
   |cell=>obtain rfl:=an o;exact⟨rfl,.inr d⟩
   |_=>exact ag o
theorem wO{o:ah}{T:List ah}{w:List Nat}(j:gb a (o::T)=Y w):∃y Z f g,o=.Name y Z/\dM a y=Y f/\gb a T=Y g/\w=f::g:=by
 induction o using bE with|Name y Z=>replace j:f9 (dM a y) (λf=>f9 (gb a T) λg=>Y (f::g))=Y w:=j;exact au (ii j) λf b j=>au (ii j) λg p j=>c9 y Z f ⟨g,rfl,b,p,(an j).symm⟩|_=>exact ag j
theorem Bw :∀{n:List ah} {w:List Nat},gb a n=Y w->∀k,(c0 n k).findIdx? (·.1)=G/\(c0 n k).length=w.length:=by
 intro s;induction s with
 |nil=>intro w o k;obtain rfl:=an o;exact⟨rfl,rfl⟩
 |cons o T F=>
  intro w j k;refine m9 (wO j) λy Z f g Q I p D=>?_;subst Q;clear j;subst D;refine ak (F p k) λv m=>?_;have t:c0 (.Name y Z::T) k=(E,cU (.Name y Z) k)::c0 T k:=rfl;refine U t (⟨?_,by simp[m]⟩)
  refine U (JO) ?_;refine U v ?_;rfl
theorem mu :∀{w:List Nat} {xs:List V} {Q P:al},bindAll Q w xs=Y P->w.length=xs.length:=by
 intro s;induction s with
 |nil=>
  intro D;induction D using aS with|nil=>intro I I I;exact rfl|cons B d=>intro I I o;exact ag o
 |cons r z F=>
  intro D;induction D using aS with|nil=>intro I I o;exact ag o|cons B d=>intro Q P o;have:=F (xs:=d) o;simp[this]
theorem sW(g:a8 a k){y:am}{Z:aN}{f:Nat}{e:V}{N:J}{h:al->O->Prop}(n:dM a y=Y f)(i:∀H j,w.p H j->aq H j e N)(j:h (eu f e Q) L):aI B S k w Q L (cU (.Name y Z) k N) fH (hJ h) D:=by exact ak (sV g n) λb R=>aI.standAt (zZ b R i j)
theorem JP(d:a8 a k):∀{n:List ah} {s:List Nat} {x:List V} {e:List J} {w:bF B k} {Q P:al} {h:al->O->Prop},gb a n=Y s->bindAll Q s x=Y P->(∀H j,w.p H j->aE H j x e)->h P L->
  aI B S k w Q L (iq ((c0 n k).map (·.2)) e) fH (hJ h) D:=by
 intro A;induction A with
 |nil=>
  intro s x e w Q P h o m z j;obtain rfl:=an o;induction x using aS with
  |nil=>obtain rfl:=an m;clear z;induction e using aS with|nil=>exact aI.pure (v:=()) (m:=()) j λI I I I I=>rfl|cons=>exact aI.pure (v:=()) (m:=()) j λI I I I I=>rfl
  |cons=>exact ag m
 |cons o T F=>
  intro s x e w Q P h K m z j;refine m9 (wO K) λy Z f TU r b R Ue=>?_;subst r;clear K;subst Ue;induction x using aS with|nil=>exact ag m|cons X T4=>
   have C:c0 (.Name y Z::T) k=(E,cU (.Name y Z) k)::c0 T k:=rfl;induction e using aS with
   |nil=>exact λT0 Uo H Ut Ua f=>by obtain ⟨_,_,u,_⟩:=z _ _ f;cases u
   |cons t g=>
    refine U C ?_;show aI B S k w Q L (bO g (cU (.Name y Z) k t)>>=λI=>iq ((c0 T k).map (·.2)) g) fH (hJ h) D
    refine aI.bind (aI.holding (sW (h:=λl v=>l=eu f X Q/\v=L) d b (λH j f=>?_) ⟨rfl,rfl⟩)|>λi=>aI.mono i λUf l v ⟨C,q⟩=>?_)
    ·obtain ⟨N,TY,u,c,_⟩:=z _ _ f;cases u;exact c
    ·refine U C (U q ?_);intro _;refine F R m (λH j f=>?_) j;obtain ⟨N,TY,u,_,W⟩:=z _ _ f.1;cases u;exact W
theorem aI.wP{N e:Type}{d:aZ N}{R:Rel B e N}{c:iN B k e N}{h:e->O->Prop}{z:Inv B}(j:ae B S ((loc B k Q).and z) L d R h D)(a:∀H j,w.p H j->z.p H j)(C:∀m v H j,(R.r m v).p H j->(c.r m v).p H j):aI B S k w Q L d c (λy P n=>P=Q/\h y n) D:=λs b H l g f=>
 bQ (j s (k::b) H l g.dS g.f7 g.rep ⟨g.loc,a _ _ f⟩ g.gens) (λI I F=>(by obtain ⟨m,n,K,y,X,o⟩:=F;exact⟨m,Q,n,K,⟨rfl,y⟩,C _ _ _ _ X,(loc B k Q).st g.rep g.loc o.post,o.x⟩)) λI I y=>y.x g.rep g.loc
theorem aI.Bx{N e:Type}{d:aZ N}{R:Rel B e N}{c:iN B k e N}{h:e->O->Prop}{z:Inv B}(j:ae B S z L d R h D)(a:∀H j,w.p H j->z.p H j)(C:∀m v H j,(R.r m v).p H j->(c.r m v).p H j):aI B S k w Q L d c (λy P n=>P=Q/\h y n) D:=
 aI.wP (ae.weak j λI I y=>y.2) a C
theorem JQ(i:a8 a k){m:ah}{W:cm}{c:V}{N:J}{v:al}{h:al->O->Prop}(X:eT a m=Y W)(F:r9 Q W c=Y v)(z:∀H j,w.p H j->aq H j c N)(j:h v L):
  aI B S k w Q L (cU m k N) fH (hJ h) D:=by
 induction m using bE with
 |Name y Z=>
  replace X:(match dM a y with|some f=>Y (cm.name f)|none=>G)=Y W:=X
  generalize b:dM a y=K;induction K using aB with|none=>replace X:=b▸X;exact ag X|some f=>replace X:=b▸X;obtain rfl:=an X;obtain rfl:=an F;exact sW i b z j
 |Tuple C A Z=>
  replace X:(match gb a C with|some g=>Y (cm.tup g)|none=>G)=Y W:=X
  generalize b:gb a C=K;induction K using aB with|none=>replace X:=b▸X;exact ag X|some d=>
   rw[b] at X;obtain rfl:=an X;induction c using V.casesOn with
   |tup x=>
    replace F:bindAll Q d x=Y v:=F;refine ak (Bw b k) λT8 f2=>?_;have u:=mu F;have o:cU (.Tuple C A Z) k N=(bT Z>>=λI=>bO [N] (n4 N x.length G)>>=λe=>iq ((c0 C k).map (·.2)) e):=by rw[By];unfold unpack;exact U T8 (U f2 (U u rfl))
    refine U o (aI.standAt (aI.bind (aI.mono (aI.holding (aI.Bx (z:=⟨λH j=>aq H j (.tup x) N,λR y P=>aq.post R P _ y⟩) (c:=vE) (h:=λr n=>r=x/\n=L) (wN (λI I f=>f) ⟨rfl,rfl⟩) z λI I I I T=>T)) λr Ut Uo l=>br l λt q s=>?_)));subst t q s;intro e;exact JP i b F (λI I f=>f.2) j
   |_=>exact ag F
 |_=>exact ag X
end
noncomputable def wQ :Heap:=⟨#[],{}⟩
theorem JR(v:af):wQ.get? v=none:=by rfl
theorem Bz{B:aa}{H:ax}{j:av}:∀{b:List aF},Frames B H b j->j.FunFrames wQ b:=by
 intro s;induction s with|nil=>intro I;exact trivial|cons k b v=>intro F;obtain ⟨A,c,r,n,i,t,Q,hd,_⟩:=F k (.head _);exact aQ A (pf c r t (JR _) Q (λe u=>by replace u:=hd▸u;cases u)) (v λo g=>F o (.tail _ g))
structure wR(S:List af)(x:af)(oe:bA)(L:af)(h h':av)(T:af):Prop where
 ex:h'.get? x=Y (hq (·.setIfInBounds 1 (.ref T)) oe)
 t:∃oT ts,h'.get? T=Y oT/\oT.data=.fields ts/\ts[3]? =Y (cB L)
 new:h.objs.size<=T
 aw:∀b aw,b≠x->b∉S->h.get? b=Y aw->h'.get? b=Y aw
 f:∀b aw,b≠x->h.get? b=Y aw->∃sl,h'.get? b=Y {aw with slots:=sl}
 z:h.objs.size<=h'.objs.size
section
variable{i:gD}{s:aY}{n:J->ai->Prop}{l:ai}
theorem BA{k:aF}{H:List aF}{c o:af}{w:bA}{e:Array J}{head:J}{L:Bool}{a:Unit->ai->Prop}
  (K:s.frames=Y (k::H))(u:l.heap.FunFrames wQ (k::H))(t:k.frame=Y c)
  (g:l.heap.get? o=Y w)(hd:w.data=.fields e)(d:1<e.size)
  (j:∀q R,wR ((k::H).filterMap (·.frame)) o w c l.heap q R->a () {l with heap:=q}):
  ao i s (do let v<-frameOf k;let x<-entryPlaceOf c L;let m<-EntryCells.newEntry head v .none (cB c) .none x;nX (.ref o) 1 m) a n l:=by
 have N:o∉(k::H).filterMap (·.frame):=λh=>by refine rJ (u.mem h) λTR r F Q=>?_;rw[g] at F;injection F with F;subst F;exact Q e hd
 refine ab (wpAny_frameOf_fun K u t λA X=>(ab (wpAny_entryPlaceOf λx S=>(ab (ib ?_ (S.sizeOk5 _ _ _ _ _))))));have p:A.get? o=Y w:=(X.2.1 o N).trans g;have b:=cZ (h:=A) {cls:=.type "traceback",dict:=G,data:=.fields ([head,.ref c,.none,cB c,.none]++(if x.isEmpty then BB 6 cA else x)).toArray} p
 refine mn b hd d (j _ A.objs.size ?_);have W:A.objs.size≠o:=Nat.ne_of_gt (bJ p);have Z:=i7 hd (·.setIfInBounds 1 (bZ A.objs.size))
 have z:=hk (hq (·.setIfInBounds 1 (bZ A.objs.size))) b (sI Z)
 have C:=(wS (A.push {cls:=.type "traceback",dict:=G,data:=.fields ([head,.ref c,.none,cB c,.none]++(if x.isEmpty then BB 6 cA else x)).toArray})
  (hq (·.setIfInBounds 1 (bZ A.objs.size))) (h8 W)).trans (ct A rfl)
 have y:∀m r,m≠o->A.get? m=Y r->
   ((A.push {cls:=.type "traceback",dict:=G,data:=.fields ([head,.ref c,.none,cB c,.none]++(if x.isEmpty then BB 6 cA else x)).toArray}).update o (hq (·.setIfInBounds 1 (bZ A.objs.size)))).get? m=Y r:=
  λm r I T=>by refine U (wS _ _ (h8 I)) ?_;exact cZ _ T
 refine⟨z,hE _ _ C rfl (by rfl),Nat.le_of_eq X.1.symm,λm r D B T=>y m r D ((X.2.1 m B).trans T),λm r D T=>?_,?_⟩
 ·exact aD (X.2.2 m r T) λf P=>⟨f,y m _ D P⟩
 ·rw[size_update];exact U X.1.symm (push_size _)
end
section
variable{B:aa}{H:ax}{L:O}{j q:av}
theorem JS{k:aF}{a:List aF}{A C:Nat}{Z:af×af}{Uk:List (Key×V)}{X:bA}{T4:Array J}{UB Uq:af}(P:Rep B H L j)(F:Frames B H (k::a) j)(S:H A C=Y Z)(T6:L.get A C=Y (.exc Uk M))
  (y:j.get? Z.1=Y X)(hd:X.data=.fields T4)(l:wR ((k::a).filterMap (·.frame)) Z.1 X UB j q Uq):aR B H j H L q:=by
 have s:∀m∈(k::a).filterMap (·.frame),B.base.get? m=G/\¬foot H m/\∃r n R,j.get? m=Y r/\r.data=.dict n R:=λm T=>by refine au (List.mem_filterMap.mp T) λo y UC=>?_;obtain ⟨_,UF,r,n,R,U4,Q,hd,Vt,W⟩:=F o y;replace U4:=UC▸U4;obtain rfl:=an U4;exact u5 Vt W r ⟨n,R,Q,hd⟩
 have Uv:∀v e,aO H j v e->aO H q v e:=λv e d=>by refine d.keep d.bu λr Q=>l.aw v r (λu=>d.bu ⟨A,C,Z,S,.inl u⟩) (λh=>?_) Q;refine br (s v h) λI I D=>g7 D λc n R g UO=>aD d.eP λUm TR=>?_;replace g:=TR▸g;obtain rfl:=an g;cases UO
 refine⟨⟨λv r o=>l.aw v r (λu=>by replace o:=u▸o;replace o:=((P.new _ _ _ S).1)▸o;exact ag o) (λh=>by replace o:=((s v h).1)▸o;exact ag o) (P.stays v r o),P.ed,λw K x c o u=>?_,P.new,P.sep⟩,.refl,λv r o W=>?_,l.z⟩
 ·have TV:∀m,(m=x.1\/m=x.2)->m∉(k::a).filterMap (·.frame):=λm T h=>(s m h).2.1 ⟨w,K,x,o,T⟩
  by_cases t:w=A/\K=C
  ·refine ak t λTZ Ue=>?_;clear t;subst TZ;subst Ue;replace o:=S▸o;obtain rfl:=an o;replace u:=T6▸u;obtain rfl:=an u;obtain ⟨n,Um,TU,b,p,TX,TY,T0⟩:=P.obj _ _ _ _ S T6;replace b:=y▸b;obtain rfl:=an b;cases hd;have N:Z.2≠Z.1:=λi=>by replace p:=i▸p;replace p:=y▸p;cases p
   refine⟨n,Um,_,l.ex,l.aw _ _ N (TV _ (.inr rfl)) p,ec.ba (λI I I o=>o) Uv _ TX,?_,λu=>cS u⟩;simpa using TY
  ·have TS:=P.sep w K x A C Z o S (by rcases u8 (w=A) with i|i;exact .inr λUG=>t ⟨i,UG⟩;exact .inl i)
   exact c4.ba (λI I I o=>o) Uv (λr Q=>l.aw _ _ TS.1 (TV _ (.inl rfl)) Q) (λr Q=>l.aw _ _ TS.2.2.1 (TV _ (.inr rfl)) Q) c (P.obj _ _ _ _ o u)
 ·have N:v≠Z.1:=λu=>W ⟨A,C,Z,S,.inl u⟩;by_cases h:v∈(k::a).filterMap (·.frame)
  ·refine br (s v h) λI I D=>g7 D λc n R g UO=>?_;replace g:=o▸g;obtain rfl:=an g;exact aD (l.f v r N o) λTW u=>.inr ⟨ea n R UO,TW,u⟩
  ·exact .inl (l.aw v r N h o)
end
inductive wT(h:av)(e y:J):Prop
 |mk (a:af) (oe:bA) (vs:Array J) (T:af) (oT:bA) (ts:Array J) (q:e=.ref a) (aw:h.get? a=Y oe) (d:oe.data=.fields vs) (x:vs[1]? =Y (.ref T)) (n:T≠a) (oo:h.get? T=Y oT) (dd:oT.data=.fields ts) (z:ts[3]? =Y y)
def mw(k:aF)(j:av)(o:J):Prop:=wT j o (cB k.locals)
theorem set_same{e:Array J}{f:Nat}{y:J}(j:e[f]? =Y y):e.setIfInBounds f y=e:=by
 apply Array.ext_getElem?;intro k;refine U (Array.getElem?_setIfInBounds) ?_;by_cases u:f=k
 ·subst u;refine U (if_pos rfl) (U j ?_);have:=(iI.mp j).1;simp[this]
 ·exact U (if_neg u) rfl
theorem BC{j:av}{R:af}{b:bA}{t:Array J}{y:J}(F:j.get? R=Y b)(hd:b.data=.fields t)(x:t[3]? =Y y)(m:af):(j.update R (hq (·.setIfInBounds 3 y))).get? m=j.get? m:=by
 by_cases u:m=R
 ·subst u;have o:hq (·.setIfInBounds 3 y) b=b:=by
   obtain ⟨B,W,D,f⟩:=b;clear F;subst hd;show(⟨B,W,.fields (t.setIfInBounds 3 y),f⟩:bA)=_;exact U (set_same x) rfl
  refine U (hk _ F (by rw[o];exact(Heap.get?_some_iff.mp F).2)) ?_;exact U o (U F rfl)
 ·exact f5 _ _ _ _ u
section
variable{B:aa}{S:Nat}{k:aF}{Q:al}{L:O}{s:aY}{p:List aF}{H:ax}{l W:ai}{y:J}{D:Nat->Nat->O->Prop}
theorem b7.step{A C:Nat}{N:List (Key×V)}{n:O}{K:ax}{Z:af×af}{v:al}{w:bA}{e:Array J}{R:af}{T o:av}(j:D A C n)(a:n.get A C=Y (.exc N M))(S:K A C=Y Z)(X:H A C=G)
  (TR:bp B k v K W.heap)(I:fs B k H l K n W)(s:∀m r,W.heap.get? m=Y r->T.get? m=Y r)(d:W.heap.objs.size<=T.objs.size)(F:Frames B K (k::p) T)
  (g:T.get? Z.1=Y w)(hd:w.data=.fields e)(z:1<e.size)(TS:l.heap.get? Z.1=G)(L:wR ((k::p).filterMap (·.frame)) Z.1 w k.locals T o R):
  b7 B k D H l (.ref Z.1) {W with heap:=o}/\mw k o (.ref Z.1):=by
 have f:aR B K W.heap K n T:=.more I.post.rep s d;have TU:=JS f.rep F S a g hd L;have P:=f.trans TU;refine hD L.t λb y q h Q=>?_;have c:R≠Z.1:=λu=>absurd (Nat.lt_of_lt_of_le (bJ g) (u▸L.new)) (Nat.lt_irrefl _);have i:(e.setIfInBounds 1 (bZ R))[1]? =Y (.ref R):=by simp[z]
 refine⟨⟨A,C,N,n,K,Z,j,a,S,rfl,X,⟨_,_,L.ex,i7 hd _,TS,.inr ⟨R,b,y,i,Nat.le_trans I.post.size (Nat.le_trans d L.new),c,q,h,.inr Q,f.rep.gQ L.new⟩⟩,⟨v,(loc B k v).st I.post.rep TR P⟩,I.trans (Ends.x ⟨P,rfl,rfl⟩)⟩,⟨_,_,_,R,b,y,rfl,L.ex,i7 hd _,i,c,q,h,Q⟩⟩
theorem b7.note(g:Here B S k Q L s p H l)(n:b7 B k D H l y W){a:Unit->ai->Prop}{U0:J->ai->Prop}(N:∀u,b7 B k D H l y u/\mw k u.heap y->a () u):ao (aA B.prog B.w) s (n5 y k) a U0 W:=by
 have TU:=n;obtain ⟨Ur,TR,Uq,UM,TS,Z,h,t,T,rfl,X,⟨UG,UF,d,hd,q,TV⟩,⟨Uw,e⟩,P⟩:=n;have F:=g.f7.ie g.rep g.l8 g.loc e g.up P.post;show ao _ s (n5 (.ref Z.1) k) _ _ W;unfold n5;rw[g.l8];rcases TV with b|⟨R,UT,v,b,US,f,A,c,x,UQ⟩
 ·refine ab (b9 d hd b (U (if_neg (by decide)) (BA g.dS.frames (Bz F) g.l8 d hd (iI.mp b).1 λz R j=>N _ ?_)))
  exact b7.step h t T X e P (λI I o=>o) (Nat.le_refl _) F d hd (iI.mp b).1 q j
 ·refine ab (b9 d hd b (U (if_pos (show(bZ R !=cA)=M from by rfl)) ?_))
  rcases x with x|x
  ·refine ab (b9 A c x (U (if_neg (show¬((cA==cB k.locals)=M) from by simp[cB])) (ab (mn A c (iI.mp x).1 ?_))))
   have UH:=BC A c x;have C:∀m r,W.heap.get? m=Y r->(W.heap.update R (hq (·.setIfInBounds 3 cA))).get? m=Y r:=λm r o=>(UH m).trans o
   have K:W.heap.objs.size<=(W.heap.update R (hq (·.setIfInBounds 3 cA))).objs.size:=by rw[size_update];exact Nat.le_refl _
   have i:=F.post P.post.rep (.more P.post.rep C K);refine BA (l:={W with heap:=W.heap.update R (hq (·.setIfInBounds 3 cA))}) g.dS.frames (Bz i) g.l8 (C _ _ d) hd (iI.mp b).1 λz UR j=>N _ ?_
   exact b7.step (W:=W) h t T X e P C K i (C _ _ d) hd (iI.mp b).1 q j
  ·exact ab (b9 A c x (U (if_pos (show(cB k.locals==cB k.locals)=M from by simp)) (aH (N _ ⟨TU,_,_,_,R,UT,v,rfl,d,hd,b,f,A,c,x⟩))))
theorem b7.sX(g:Here B S k Q L s p H l)(h:b7 B k D H l y W){n:J->ai->Prop}(K:∀R,b7 B k D H l y R/\mw k R.heap y->n y R):n6 (aA B.prog B.w) s k n y W:=
 b7.note g h K
theorem b7.back(g:Here B S k Q L s p H l)(UM:b7 B k D H l y W)(UJ:mw k W.heap y){h:J->ai->Prop}(Uq:∀c,b7 B k D H l y c->h y c):cameBackBy (aA B.prog B.w) s k h y W:=by
 have TU:=UM;obtain ⟨TR,UG,TS,R,UT,US,rfl,d,hd,b,UQ,F,t,f⟩:=UJ;show ao _ s _ _ _ W;refine ab (b9 d hd b (U (if_neg (show¬((bZ R==cA)=M) from by simp)) (ab (b9 d hd b (U (if_pos (show(bZ R !=cA)=M from by rfl)) (U g.l8 (mn F t (iI.mp f).1 (Uq _ ?_))))))))
 have UH:=BC F t f;obtain ⟨A,C,N,n,K,Z,U0,a,T,TY,X,⟨Vu,U9,UW,UO,q,i⟩,⟨j,UF⟩,I⟩:=TU;cases TY;have v:∀m r,W.heap.get? m=Y r->(W.heap.update R (hq (·.setIfInBounds 3 (cB k.locals)))).get? m=Y r:=λm r o=>(UH m).trans o
 have e:W.heap.objs.size<=(W.heap.update R (hq (·.setIfInBounds 3 (cB k.locals)))).objs.size:=by rw[size_update];exact Nat.le_refl _
 have P:aR B K W.heap K n (W.heap.update R (hq (·.setIfInBounds 3 (cB k.locals)))):=.more I.post.rep v e
 refine⟨A,C,N,n,K,Z,U0,a,T,rfl,X,⟨Vu,U9,v _ _ UW,UO,q,?_⟩,⟨j,(loc B k j).st I.post.rep UF P⟩,I.trans (Ends.x ⟨P,rfl,rfl⟩)⟩;rcases i with i|⟨UR,Vv,Vw,z,u,UI,UX,U7,Va,U8⟩
 ·exact .inl i
 ·exact .inr ⟨UR,Vv,Vw,z,u,UI,v _ _ UX,U7,Va,U8⟩
end
def be.to(T:be)(Φ:FM->al->O->Prop)(D:Nat->Nat->O->Prop):Prop:=be.rec Φ (λA C I L=>D A C L) False (λI P I F=>ge P F) T
def gj(F:al->O->Prop)(Φ:FM->al->O->Prop):FM->al->O->Prop
 |.next,Q,L=>F Q L|.ret N,Q,L=>Φ (.ret N) Q L|_,_,_=>False
section
variable{h:FM->al->O->Prop}{D:Nat->Nat->O->Prop}
theorem be.bc{T:be}{c:al->O->be}(j:(T.bind c).to h D):T.to (gj (λQ L=>(c Q L).to h D) h) D:=by
 induction T with|ok u Q L=>induction u using FM.casesOn <;>exact j|err=>exact j|no=>exact j|ask a P K F=>exact ge.mono j F
theorem hr{N:Type}{Q:al}{T:Res N}{c:N->O->be}(j:(T.toS Q c).to h D):T.to (λy L=>(c y L).to h D) D:=by
 induction T with|ask a P K F=>exact ge.mono j F|_=>exact j
theorem be.hO{T:be}{d:FM->al->O->Prop}(j:T.to h D)(A:∀u Q L,h u Q L->d u Q L):T.to d D:=by
 induction T with|ok u Q L=>exact A _ _ _ j|err=>exact j|no=>exact j|ask a P K F=>exact ge.mono j F
end
noncomputable def trunc(j:av)(C:Nat):Heap:=⟨j.objs.extract 0 C,j.life⟩
theorem ext_get{N:Type}{x:Array N}{C v:Nat}:(x.extract 0 C)[v]? =if v<C then x[v]? else none:=by
 refine U (Array.getElem?_extract) ?_;rw[Nat.sub_zero,Nat.zero_add];by_cases u:v<C
 ·refine U (if_pos u) ?_;by_cases t:v<x.size
  ·exact U (if_pos (Nat.lt_min.mpr ⟨u,t⟩)) rfl
  ·exact U (if_neg λi=>t (Nat.lt_min.mp i).2) ((Array.getElem?_eq_none (Nat.le_of_not_lt t)).symm)
 ·exact U (if_neg u) (U (if_neg λi=>u (Nat.lt_min.mp i).1) rfl)
theorem JT{j q:av}{v:Nat}(o:j.objs[v]? =q.objs[v]?):j.get? v=q.get? v:=by unfold Heap.get?;exact U o rfl
theorem JU{j:av}{v:Nat}(o:j.objs[v]? =G):j.get? v=none:=by unfold Heap.get?;exact U o rfl
theorem JV{j:av}{C v:Nat}{r:bA}(o:(trunc j C).get? v=Y r):v<C/\j.get? v=Y r:=by
 by_cases u:v<C
 ·exact⟨u,(JT (show j.objs[v]? =(j.objs.extract 0 C)[v]? by refine U ext_get ?_;exact U (if_pos u) rfl)).trans o⟩
 ·exact ag ((JU (show(j.objs.extract 0 C)[v]? =G by refine U ext_get ?_;exact U (if_neg u) rfl)).symm.trans o)
theorem wU{j:av}{C:Nat}(K:C<=j.objs.size):(trunc j C).objs.size=C:=by show(j.objs.extract 0 C).size=C;simp;lia
section
variable{B:aa}{l:Nat}{H F:ax}{L:O}{j d q:av}{c:aF}{Q:al}
theorem aR.ba(R:Rep B H L j)(K:l<=j.objs.size):aR B H (trunc j l) H L j:=
 ⟨R,⟨λI I I o=>o,λI I I o=>.inl o⟩,λv r o I=>.inl (JV o).2,by refine U (wU K) ?_;exact K⟩
theorem fc.moved(P:fc B c F d H L j)(R:Rep B H L q)(i:Moved d.objs.size H j q):fc B c F d H L q:=by
 refine⟨R,P.grow,λv r o b D=>?_,Nat.le_trans P.size i.z⟩;have g:=bJ o;rcases P.keep v r o b D with u|⟨W,f,u⟩
 ·exact .inl (i.k _ _ u (.inl g))
 ·exact .inr ⟨W,f,i.k _ _ u (.inl g)⟩
theorem bp.moved(d:bp B c Q H j)(a:Moved l H j q)(K:∀Z∈c.cells,Z.2<l):bp B c Q H q:=by
 refine au d.ns λz P h=>lX P λTU n L F hd R x=>?_;clear P;have o:=a.k _ _ F (.inr ⟨d.own.1,.inr (ea n L hd)⟩);have r:∀Z∈c.cells,∀N,j.IsCell Z.2 N->q.IsCell Z.2 N:=λZ S N p=>(by refine au p λUO C T=>?_;clear p;exact aC _ (a.k _ _ C (.inl (K Z S))) T)
 refine⟨d.kind,d.gl,d.fG,d.plain,aC z (fY _ n L o hd R x) (λy f e b X m=>?_),d.own,λZ S=>?_⟩
 ·refine au (h y f e b X m) λN i t=>aC N (aq.ba (λI I I o=>o) a.tt _ i) ?_;rcases t with t|⟨A,v,w,g⟩
  ·exact .inl t
  ·exact .inr (fX A v w (r _ (mem_of_lookup w) _ g))
 ·exact e7 (d.cell Z S) λW u D s=>aD s λN i=>bP W u D ⟨N,r Z S N i⟩
theorem dg.BD{K:ax}{n:O}(P:fc B c H j K n q)(g:bp B c Q H j)(h:∀Z∈c.cells,Z.2<l):dg l H K j q:=by
 have D:∀v r,j.get? v=Y r->l<=v->(∀m i,r.data≠.dict m i)->¬own c v:=λv r o R f t=>by
  rcases t with rfl|⟨Z,S,rfl⟩
  ·refine au g.ns λz s I=>?_;obtain ⟨N,m,i,b,p,_⟩:=s;rw[o] at b;obtain rfl:=an b;exact f _ _ p
  ·exact absurd (Nat.lt_of_lt_of_le (h Z S) R) (Nat.lt_irrefl _)
 refine⟨P.grow.1,λv r o R W f I=>⟨(P.keep v r o W (D v r o R f)).exact f,P.grow.eD o W⟩,λv e d=>?_⟩;exact aD d.eP λC F=>.of ((P.keep v _ F d.bu λt=>g.notTuple t e d.tup).exact λm i u=>by cases u) (P.grow.eD F d.bu)
end
section
variable{B:aa}{S:Nat}{k:aF}{s:aY}{l:ai}{a:a4}
theorem JW{m:ah}{h:J}{K:List aP}{R:eX->ai->Prop}
  (j:ao (aA B.prog B.w) s (hn h) (λT Z=>match T with
   |none=>R (.ok .next) Z|some N=>ao (aA B.prog B.w) s (qg m h N) (λI v=>
     ao (aA B.prog B.w) s (cU m k N) (λI n=>ao (aA B.prog B.w) s (bb K k) (λu g=>match u with
      |.next|.cont=>cu (aA B.prog B.w) s (.forLoop m h K [] k) R g|.brk=>R (.ok .next) g|.ret N=>R (.ok (.ret N)) g) (n6 (aA B.prog B.w) s k λo W=>R (.error o) W) n) (n6 (aA B.prog B.w) s k λo W=>R (.error o) W) v) (n6 (aA B.prog B.w) s k λo W=>R (.error o) W) Z) (n6 (aA B.prog B.w) s k λo W=>R (.error o) W) l):
  cu (aA B.prog B.w) s (.forLoop m h K [] k) R l:=by
 refine sY ?_;show ao _ s ((forTurn m h K [] k).onRaise (λy=>do n5 y k;BE y)) _ _ l
 refine BF ?_;dsimp only[forTurn];refine ab (dQ (ab (qa (bQ j (λT Z A=>?_) λI I q=>dQ q))));induction T using aB with|none=>exact aH ⟨rfl,codeAny_block (aH A)⟩|some N=>
  refine ab (bQ A (λI v a=>?_) λI I q=>q);refine ab (bQ a (λI n p=>ab (bQ p (λS g x=>?_) λI I q=>q)) λI I q=>q);cases S with|next=>exact aH ⟨rfl,x⟩|cont=>exact aH ⟨rfl,x⟩|brk=>exact aH x|ret N=>exact aH x
def BG(B:aa)(k:aF)(Φ:FM->al->O->Prop)(D:Nat->Nat->O->Prop)(F:ax)(j:ai)(T:eX)(W:ai):Prop:=match T with
 |.ok u=>nC (c:=B) (env:=k) bU Φ F j u W|.error x=>b7 B k D F j x W/\mw k W.heap x
def gk(B:aa)(S:Nat)(k:aF)(r:O)(m:ah)(K:List aP)(Q:al)(L:O)(X:Src)(Φ:FM->al->O->Prop)(D:Nat->Nat->O->Prop):Prop:=
 ∀(s:aY) (b:List aF) (F:ax) (j:ai) (q:al) (H:ax) (l:ai) (h:J),Here B S k q r s b F j->bp B k Q H l.heap->fs B k F j H L l->cP B j.heap.objs.size H l.heap X h->
  cu (aA B.prog B.w) s (.forLoop m h K [] k) (BG B k Φ D F j) l
theorem BH{Q:al}{H:ax}{j:av}(c:bp B k Q H j):∀Z∈k.cells,Z.2<j.objs.size:=λZ S=>by exact kz (c.cell Z S) λI I I N r F I=>bJ F
theorem JX{a:a4}{m:ah}{H:cm}(j:eT a m=Y H):(isTup m=M/\∃g,H=.tup g)\/((∃y Z,m=.Name y Z)/\∃f,H=.name f):=by
 induction m using bE with
 |Name y Z=>
  replace j:(match dM a y with|some f=>Y (cm.name f)|none=>G)=Y H:=j
  generalize b:dM a y=K;induction K using aB with|none=>replace j:=b▸j;exact ag j|some f=>rw[b] at j;obtain rfl:=an j;exact .inr (max (ea y Z rfl) f rfl)
 |Tuple n A Z=>
  replace j:(match gb a n with|some g=>Y (cm.tup g)|none=>G)=Y H:=j
  generalize b:gb a n=K;induction K using aB with|none=>replace j:=b▸j;exact ag j|some g=>rw[b] at j;obtain rfl:=an j;exact .inl (max rfl g rfl)
 |_=>exact ag j
theorem BI{Q P:al}{X:Src}{H:cm}{N:V}{m:ah}(D:eT a m=Y H)(o:walk Q X H N=Y P):r9 Q H N=Y P/\(isTup m=M\/(nG X=E/\∃y Z,m=.Name y Z)):=by
 unfold walk at o;rcases JX D with⟨b,g,rfl⟩|⟨b,f,rfl⟩
 ·generalize u:(nG X)=K;induction K using ap <;>rw[u] at o <;>exact⟨o,.inl b⟩
 ·generalize u:nG X=K;induction K using ap with|true=>rw[u] at o;exact ag o|false=>rw[u] at o;exact⟨o,.inr ⟨rfl,b⟩⟩
def BJ(F:Prop)(H:V->Src->Prop):Option (Option (V×Src))->Prop
 |none=>False|some r=>match r with
  |none=>F|some q=>H q.1 q.2
theorem sZ(TS:a8 a k){TU:O}{c:ah}{UA:cm}{X:List aP}{Q:al}{L:O}{p:Src}{h:FM->al->O->Prop}{D:Nat->Nat->O->Prop}{K:Src->al->O->Prop}(Uj:eT a c=Y UA){C:Option (Option (V×Src))}(Ut:nextM L p=C)
  (Us:∀f P US,K f P US->gk B S k TU c X P US f h D)
  (j:BJ (h .next Q L) (λN Ud=>∃P,walk Q Ud UA N=Y P/\aI B S k bF.none P L (bb X k) bU (gj (K Ud) h) D) C):gk B S k TU c X Q L p h D:=λs b TW e TX H l Z g Ux o TZ=>by
 have TY:s.handled=none:=g.dS.handled;have T5:e.heap.objs.size<=l.heap.objs.size:=o.post.size;have d:=BH g.loc;have cv:aR B H (trunc l.heap e.heap.objs.size) H L l.heap:=aR.ba o.post.rep T5;have x:(trunc l.heap e.heap.objs.size).objs.size=e.heap.objs.size:=wU T5;have Uv:cP B (trunc l.heap e.heap.objs.size).objs.size H l.heap p Z:=by refine U x ?_;exact TZ
 refine JW (hd λUD UE=>?_);induction C using aB with|none=>exact j.elim|some Ue=>
  induction Ue using aB with|none=>refine UE (Bp TY cv Uv Ut λT6 A W m=>?_);replace m:=x▸m;exact⟨.next,Q,L,H,j,rfl,Ux.moved m d,o.post.moved W.rep m,⟨o.same.1,o.same.2⟩⟩|some T0=>
   obtain ⟨N,f⟩:=T0;refine au j λP T4 j=>ak (BI Uj T4) λUG UB=>UE (Bo cv Uv Ut λUm T6 A W m Uf UH=>Bu (l:={l with heap:=T6,toks:=A}) W UH UB λr UN UF v=>?_);have t:=m.trans UF;replace t:=x▸t;replace v:=x▸v;have T8:bp B k Q H r:=Ux.moved t d;have z:fs B k TW e H L {l with heap:=r,toks:=A}:=⟨o.post.moved UN.rep t,⟨o.same.1,o.same.2⟩⟩;have T1:aq H r N Um:=aq.ba (λI I I o=>o) UF.tt _ Uf;have T2:Here B S k Q L s b H {l with heap:=r,toks:=A}:=g.next T8 z;refine bQ (JQ (w:=l7 N Um) (D:=D) (h:=λUP UR=>UP=P/\UR=L) TS Uj UG (λI I Ub=>Ub) ⟨rfl,rfl⟩ s b H _ T2 T1) (λI w R=>?_) λUM w y=>?_
   ·obtain ⟨_,UP,UR,UL,⟨T9,Ul⟩,_,n,Uz⟩:=R;clear UG T4;subst T9 Ul;have u:=z.trans Uz;have UJ:cP B e.heap.objs.size UL w.heap f Z:=v.dD (dg.BD Uz.post T8 d);refine bQ (j s b UL w (g.next n u) trivial) (λUp TV R=>?_) λUM TV y=>?_
    ·obtain ⟨TR,UI,UC,Uy,T,F,Uc,q⟩:=R;induction TR using FM.casesOn with|next=>exact U (show Up=.next from F) (Us _ _ _ T s b TW e TX Uy TV Z g Uc (u.trans q) (UJ.dD (dg.BD q.post n d)))|ret N=>refine au F λUu Uw UU=>?_;clear F;subst Uw;exact⟨.ret N,UI,UC,Uy,T,aC Uu rfl UU,Uc,u.trans q⟩|brk=>exact T.elim|cont=>exact T.elim
    ·exact b7.sX g (y.trans g.rep g.loc ⟨_,n⟩ u) λUQ i=>i
   ·exact b7.sX g (y.trans g.rep g.loc ⟨_,T8⟩ z) λUQ i=>i
end
section
variable{B:aa}{S:Nat}{k:aF}{s:aY}{l:ai}{a:a4}
theorem JY{a:ah}{K:List aP}{R:eX->ai->Prop}
  (j:ao (aA B.prog B.w) s (gH a k (aX a k)) (λm n=>match m with
   |true=>ao (aA B.prog B.w) s (bb K k) (λu g=>match u with
      |.next|.cont=>cu (aA B.prog B.w) s (.whileLoop a K [] k) R g|.brk=>R (.ok .next) g|.ret N=>R (.ok (.ret N)) g) (n6 (aA B.prog B.w) s k λo W=>R (.error o) W) n
   |false=>R (.ok .next) n) (n6 (aA B.prog B.w) s k λo W=>R (.error o) W) l):
  cu (aA B.prog B.w) s (.whileLoop a K [] k) R l:=by
 refine sY ?_;show ao _ s ((whileTurn a K [] k).onRaise (λy=>do n5 y k;BE y)) _ _ l
 refine BF ?_;dsimp only[whileTurn];refine ab (bQ j (λm n p=>?_) λI I q=>q);induction m using ap with|false=>exact ab (aH (aH p))|true=>
  refine ab (bQ p (λS g x=>?_) λI I q=>q);cases S with|next=>exact aH ⟨rfl,x⟩|cont=>exact aH ⟨rfl,x⟩|brk=>exact aH x|ret N=>exact aH x
def ir(B:aa)(S:Nat)(k:aF)(r:O)(a:ah)(K:List aP)(Q:al)(L:O)(Φ:FM->al->O->Prop)(D:Nat->Nat->O->Prop):Prop:=
 ∀(s:aY) (b:List aF) (F:ax) (j:ai) (q:al) (H:ax) (l:ai),Here B S k q r s b F j->bp B k Q H l.heap->fs B k F j H L l->
  cu (aA B.prog B.w) s (.whileLoop a K [] k) (BG B k Φ D F j) l
theorem BK{r:O}{e:ah}{A:List aP}{Q:al}{L:O}{h:FM->al->O->Prop}{D:Nat->Nat->O->Prop}{T:O->Prop}{K:al->O->Prop}
  (Ua:∀n,T n->aI B S k bF.none Q n (bb A k) bU (gj K h) D)(TR:∀P n,K P n->ir B S k r e A P n h D)
  (US:hH B S k Q L e (λm n=>match m with|true=>T n|false=>h .next Q n) D):ir B S k r e A Q L h D:=λs b F j TX H l w c o=>by
 refine JY ?_;have g:=w.next c o;refine bQ (US s (k::b) H l g.dS g.f7 g.rep c g.gens) (λm v ⟨f,W,a,Z,C,q⟩=>?_) λy v p=>?_
 ·have u:=o.trans q.x;have X:=(loc B k Q).st g.rep c q.post;replace C:f=m:=C;subst C;induction f using ap with|false=>exact⟨.next,Q,W,a,Z,rfl,X,u⟩|true=>
   have UX:=w.next X u;refine bQ (Ua W Z s b a v UX trivial) (λT0 I ⟨m,UI,UC,d,Z,C,R,z⟩=>?_) λy I p=>?_
   ·induction m using FM.casesOn with|next=>cases (C:T0=.next);exact TR _ _ Z s b F j TX d I w R (u.trans z)|ret N=>refine au C λt Uy UU=>?_;clear C;subst Uy;exact⟨.ret N,UI,UC,d,Z,aC t rfl UU,R,u.trans z⟩|brk=>exact Z.elim|cont=>exact Z.elim
   ·exact b7.sX w (p.trans w.rep w.loc ⟨_,X⟩ u) λUc i=>i
 ·exact b7.sX w ((p.x g.rep c).trans w.rep w.loc ⟨_,c⟩ o) λUc i=>i
theorem wV{w:bF B k}{m iter:ah}{K:List aP}{z:aN}{Q:al}{L:O}{h:FM->al->O->Prop}{D:Nat->Nat->O->Prop}(R:isSet iter=E)
  (b:∀c,jX B S c k Q L iter (λX n=>gk B S k L m K Q n X h D) D):aI B S k w Q L (b0 (.For m iter K [] z) k) bU h D:=λs a H l g f=>by
 refine wpAny_For ?_ (λy=>by clear b;induction iter using bE <;>first|rfl|exact cS R)
 have i:ae B S ((loc B k Q).and (mr B l.heap.objs.size)) L (aX iter k>>=λy=>i9 y) (n3 l.heap.objs.size) (λX n=>gk B S k L m K Q n X h D) D:=by refine ae.bind (ae.q (b l.heap.objs.size) (λX n P=>ak P λu t=>?_));intro N;exact sR (λH j f=>⟨f.2,f.1.2⟩) u t
 have W:=ae.pair (C:=n3 l.heap.objs.size) (A:=λy=>i9 y) (ae.q (b l.heap.objs.size) (λX n F N=>ak F λu t=>sR (h:=λX n=>gk B S k L m K Q n X h D) (D:=D) (λH j f=>⟨f.2,f.1.2⟩) u t)) s (k::a) H l g.dS g.f7 g.rep ⟨g.loc,Nat.le_refl _⟩ g.gens;refine bQ W (λy e o=>ak o λI A=>bQ A (λZ v ⟨X,TV,r,t,C,d⟩=>?_) λy v p=>p.x g.rep g.loc) λy e p=>p.x g.rep g.loc;have US:=(loc B k Q).st g.rep g.loc d.post;refine hW (t s a H l Q r v Z g US d.x C) λT U4 C=>?_;induction T using mx with|ok UQ=>exact C|error y=>exact b7.back g C.1 C.2 λI i=>i
theorem BL{w:bF B k}{a:ah}{K:List aP}{z:aN}{Q:al}{L:O}{h:FM->al->O->Prop}{D:Nat->Nat->O->Prop}
  (j:ir B S k L a K Q L h D):aI B S k w Q L (b0 (.While a K [] z) k) bU h D:=λs b H l g f=>by
 refine wpAny_While (hW (j s b H l Q H l g g.loc (Ends.x ⟨.refl g.rep,.refl⟩)) λT W C=>?_);induction T using mx with|ok u=>exact C|error y=>exact b7.back g C.1 C.2 λI i=>i
end
section
variable{B:aa}{S:Nat}{k:aF}{a:a4}{R:Rec}{w:bF B k}{Q:al}{L:O}{h:FM->al->O->Prop}{D:Nat->Nat->O->Prop}
theorem n7{o:ah}(j:mb o=E)(d:Option ah)(C:Nat):ja o d C k=pure false:=by induction o using bE <;>first|rfl|exact cS j
theorem BM(j:h .next Q L):aI B S k w Q L (bb [] k) bU h D:=aI.pure (v:=gm) (m:=FM.next) j λI I I I I=>rfl
theorem qh{st:aP}{z:List aP}(j:aI B S k w Q L (b0 st k) bU (λu Q L=>match u with|.next=>aI B S k bF.none Q L (bb z k) bU h D|.ret N=>h (.ret N) Q L|_=>False) D):aI B S k w Q L (bb (st::z) k) bU h D:=by
 rw[wW];refine aI.bind (aI.mono j λu W a A=>?_);intro v;induction u using FM.casesOn with|next=>refine λs b H l g f=>?_;have:v=.next:=f.2;clear f;subst this;exact A s b H l g trivial|ret N=>refine λs b H l g f=>au f.2 λt o C=>?_;clear f;subst o;exact aH ⟨.ret N,_,_,H,A,aC t rfl C,g.loc,Ends.x ⟨.refl g.rep,.refl⟩⟩|brk=>exact A.elim|cont=>exact A.elim
theorem JZ{z:aN}(j:h .next Q L):aI B S k w Q L (b0 (.Pass z) k) bU h D:=by rw[arm_exec_Pass];exact aI.standAt (aI.pure (v:=gm) (m:=FM.next) j λI I I I I=>rfl)
theorem J0{o:ah}{z:aN}(C:mb o=E)(j:bq B S k Q L o (λI n=>h .next Q n) D):aI B S k w Q L (b0 (.Expr o z) k) bU h D:=λs a H l g f=>by
 have b:qi k=false:=by unfold qi;refine U g.loc.kind ?_;rfl
 refine U (BN k o z b (n7 C _ _)) (ab (dQ (ab (bQ (j s (k::a) H l g.dS g.f7 g.rep g.loc g.gens) (λN A p=>?_) λI I y=>y.x g.rep g.loc))));obtain ⟨y,m,c,Z,_,t⟩:=p;exact BO ⟨.next,Q,m,c,Z,rfl,(loc B k Q).st g.rep g.loc t.post,t.x⟩
theorem BP{o:ah}{z:aN}(j:bq B S k Q L o (λy n=>h (.ret y) Q n) D):aI B S k w Q L (b0 (.Return (Y o) z) k) bU h D:=λs b H l g f=>
 J1 (bQ (j s (k::b) H l g.dS g.f7 g.rep g.loc g.gens) (λN I p=>(by obtain ⟨y,m,c,Z,C,t⟩:=p;exact⟨.ret y,Q,m,c,Z,aC N rfl C,(loc B k Q).st g.rep g.loc t.post,t.x⟩)) λI I y=>y.x g.rep g.loc)
theorem J2{d:ah}{v m:List aP}{z:aN}(j:hH B S k Q L d (λu n=>match u with|true=>aI B S k bF.none Q n (bb v k) bU h D|false=>aI B S k bF.none Q n (bb m k) bU h D) D):aI B S k w Q L (b0 (.If d v m z) k) bU h D:=by
 have o:b0 (.If d v m z) k=(bT z>>=λI=>gH d k (aX d k)>>=λu=>if u=M then bb v k else bb m k):=rfl
 refine U o (aI.standAt (aI.bind (aI.mono (aI.ofEq j) λu W a p=>ak p λt A=>?_)));clear p;refine U t ?_;intro X;refine λs b H l g f=>?_;have:u=X:=f.2;subst this;clear f;induction u using ap with|true=>exact A s b H l g trivial|false=>exact A s b H l g trivial
theorem wX{d x:ah}(X:isTup d=E)(u:∀n Z,d≠.List n Z):lg [d] x k=pure none:=by
 induction d using bE with|Tuple=>exact cS X|List n Z=>exact absurd rfl (u n Z)|_=>rfl
theorem J3{d x:ah}{z:aN}(g:mb x=E)(X:isTup d=E)(u:∀C Z,d≠.List C Z)(l:notStar d=M)
  (j:bq B S k Q L x (λy a=>∀N,aI B S k (l7 y N) Q a (cU d k N) fH (λI P n=>h .next P n) D) D):aI B S k w Q L (b0 (.Assign [d] x z) k) bU h D:=by
 have o:b0 (.Assign [d] x z) k=(bT z>>=λI=>aX x k>>=λN=>qj N [cU d k]>>=λI=>pure gm):=by
  have c:b0 (.Assign [d] x z) k=(bT z>>=λI=>ja x (Y d) z.line k>>=λm=>if m=M then(wY x k λN=>qj N ((c0 [d] k).map (·.2)))>>=λI=>pure gm else aX x k>>=λN=>lg [d] x k>>=λe=>s0 k N e ((c0 [d] k).map (·.2))):=rfl
  refine U c ?_;rw[n7 g];refine U (wX X u) ?_;have t:(c0 [d] k).map (·.2)= [cU d k]:=by clear c j u X;induction d using bE <;>first|rfl|exact aG l
  refine U t ?_;rfl
 refine U o (aI.standAt (aI.bind (aI.mono (aI.of j) λy W a F=>ak F λt A=>?_)));clear F;refine U t ?_;intro N;show aI B S k _ Q a (cU d k N>>=λI=>pure gm) bU h D;refine aI.bind (aI.mono (aI.weak (A N) λI I f=>f.2) λI i b p=>?_);intro _;exact aI.pure (v:=gm) (m:=FM.next) p λI I I I I=>rfl
end
section
variable{B:aa}{S:Nat}{k:aF}{a:a4}{R:Rec}{w:bF B k}{Q:al}{L:O}{D:Nat->Nat->O->Prop}
theorem J4{z:Inv B}(ok:B.Fine){y X:V}{N t:J}{Q:am}{n:O}{h:Unit->O->Prop}(o:pL L y (ay Q) X=Y n)
  (q:∀H j,z.p H j->aq H j y N)(C:∀H j,z.p H j->aq H j X t)(j:h () n):ae B S z L (jI N Q t) eE h D:=by
 unfold pL at o;refine hd λT W=>?_;generalize v:pz L y=K;induction K using aB with|none=>replace o:=v▸o;exact ag o|some x=>
  replace o:=v▸o;dsimp only at o;generalize w:attrOk x (ay Q)=K;induction K using ap with|false=>replace o:=w▸o;exact ag o|true=>
   generalize F:Nat.beq x 83=K;induction K using ap with|true=>replace o:=w▸o;replace o:=F▸o;exact ag o|false=>replace o:=w▸o;replace o:=F▸o;exact br (ok.cl x Q w) λa I d=>W (GU ok.toOk v (a (Nat.ne_of_beq_eq_false F)) d o q C j)
theorem J5(ok:B.Fine)(K:ROk B S R)(g:a8 a k){W:Nat}{r:ah}{v:am}{Z:aN}{X:V}{N:J}{h:al->O->Prop}(z:∀H j,w.p H j->aq H j X N)
  (j:(R.e (az W a r) Q L).to (λs x=>∃n,pL x s (ay v) X=Y n/\h Q n) D):aI B S k w Q L (cU (.Attribute r v Z) k N) fH (hJ h) D:=by
 have o:cU (.Attribute r v Z) k N=(bO [N] (aX r k)>>=λs=>bT Z.atName>>=λI=>bO [N,s] (jI s v N)>>=λI=>nw [N,s] []):=rfl;refine U o ?_;have i:ae B S ((loc B k Q).and (ee X N)) L (bO [N] (aX r k)>>=λs=>bT Z.atName>>=λI=>bO [N,s] (jI s v N)>>=λI=>nw [N,s] []) eE (λ(_:Unit) n=>h Q n) D:=by
  refine ae.bind (ae.holding (ae.weak (ae.q (K.e g j) (λs x A=>?_)) and_left));intro TV;refine au A λn y m=>?_;clear A;refine ae.standAt (ae.iM (R:=eE) () n (ae.holding (J4 ok y (λI I f=>f.2) (λI I f=>f.1.2) ⟨rfl,rfl⟩)) λI=>?_);exact λUi UE H l T F P f c=>λTS Z TU=>by rw[vm];exact⟨(),n,H,m,rfl,.refl P,.refl⟩
 exact aI.mono (aI.wP i z λI I I I u=>u) λ_ d n t=>ak t λC b=>by refine U C ?_;exact b
end
section
variable{H:e9}{t:cf}{s:aY}{n:J->ai->Prop}{l:ai}
theorem J6{g:af}{e:Array J}{C:Nat}{A:Int}{d:d1}{N:J}{a:Unit->ai->Prop}(u:l.heap.get? g=Y {cls:=.type "list",dict:=G,data:=.seq e C,slots:= #[]})
  (q:0<=A)(b:A<2^63)(X:A<e.size)(T:a () {l with heap:=l.heap.update g (eV (·.setIfInBounds A.toNat N))}):
  ao (aA H t) s (n8 (.ref g) (.int A d) N) a n l:=by
 have x:l.heap.IsList g e:=g9 _ u rfl C rfl;unfold n8
 try with_reducible refine ck ?_
 first|refine ab (aH ?_)|skip
 refine ab (wpAny_sequenceKey x.typeIs (by decide) ?_)
 refine ab (k7 (name:=dt "__setitem__") x.typeIs J7
  (jU J7 x.typeIs entry_list_setitem ?_ (args_list_setitem _ _ _)))
 show ao _ _ (Builtin.List.listSubscript? (.int A d)>>=_) _ _ l;refine ab (wpAny_listSubscript_int (fitsIndex_of q b) ?_);clear b;refine aD (Int.eq_ofNat_of_zero_le q) λk Q=>?_;clear q;subst Q;have c:k<e.size:=by lia
 have j:e[k]? =Y e[k]:=vb c;refine ab (ab (wpAny_seqItemAt u rfl (aH ?_)));refine U j ?_;refine ab (wpAny_setSeqItemAt u rfl ?_)
 first
  |exact ab (aH (aH (aC .none rfl (aH T))))
  |exact aH ⟨.none,rfl,aH T⟩
end
theorem BQ{H:ax}{j:av}{y:V}{N:J}(T:aq H j y N):∀{x:List V} {e:List J} (k:Nat),aE H j x e->aE H j (setAt x k y) (e.set k N)
 | [],_,_,o=>by subst o;rfl|_::_,_,0,⟨_,_,o,_,m⟩=>by subst o;exact .cons T m|_::_,_,k+1,⟨_,_,o,v,m⟩=>by subst o;exact .cons v (BQ T k m)
theorem BR{H:ax}{j:av}{y:am}{e:V}{N:J}(T:aq H j e N){g:List (Key×V)}{S:List (am×J)}(x:S.map (λZ=>ay Z.1)=g.map (·.1))(z:aE H j (g.map (·.2)) (S.map (·.2))):
  (qk S y N).map (λZ=>ay Z.1)=(ih (ay y) e g).map (·.1)/\aE H j ((ih (ay y) e g).map (·.2)) ((qk S y N).map (·.2)):=by
 have d:∀(m:am),a0 (ay m) (ay y)=decide (m=y):=λm=>by
  generalize u:a0 (ay m) (ay y)=K;induction K using ap with|true=>have:=jz (dL.mp u);simp[this]|false=>have:m≠y:=λi=>ng u (U i rfl);simp[this]
 have c:∀{g:List (Key×V)} {S:List (am×J)},S.map (λZ=>ay Z.1)=g.map (·.1)->aE H j (g.map (·.2)) (S.map (·.2))->
   (S.map (λdC=>if dC.1=y then(dC.1,N) else dC)).map (λZ=>ay Z.1)=(jK (ay y) e g).map (·.1)/\aE H j ((jK (ay y) e g).map (·.2)) ((S.map (λdC=>if dC.1=y then(dC.1,N) else dC)).map (·.2)):=by
  intro g;induction g with
  |nil=>intro S x z;clear z;induction S using aS with|nil=>exact⟨rfl,rfl⟩|cons=>cases x
  |cons Z g F=>
   intro S x z;induction S using aS with|nil=>cases x|cons u S=>
    obtain ⟨v,h⟩:=Z;obtain ⟨m,t⟩:=u;have a:ay m=v:=(dP x).1;refine U a.symm ?_;obtain ⟨b,n,C,k,R⟩:=z;cases C;refine ak (F (dP x).2 R) λf Q=>?_;unfold jK;dsimp only;refine U (d m) ?_;by_cases i:m=y
    ·simp only[i,decide_true,cp,if_true];exact⟨U f rfl,.cons T Q⟩
    ·simp only[i,decide_false,cp,if_false];exact⟨U f rfl,.cons k Q⟩
 have l:∀{g:List (Key×V)} {S:List (am×J)},S.map (λZ=>ay Z.1)=g.map (·.1)->S.any (λdC=>dC.1=y)=(bL (ay y) g).isSome:=by
  intro g;induction g with
  |nil=>intro S x;induction S using aS with|nil=>rfl|cons=>cases x
  |cons Z g F=>
   intro S x;induction S using aS with|nil=>cases x|cons u S=>
    obtain ⟨v,h⟩:=Z;obtain ⟨m,t⟩:=u;have a:ay m=v:=(dP x).1;refine U a.symm ?_;unfold bL;dsimp only;refine U (d m) (U GC (U (F (dP x).2) ?_));by_cases i:m=y
    ·simp[i]
    ·simp[i]
 unfold qk ih;have o:=l x;generalize u:bL (ay y) g=K at o;induction K using aB with|none=>refine U o ?_;simp only[JN,ms,if_false,J8,cp,s1];exact⟨U x rfl,z.append (.cons T .nil)⟩|some i=>refine U o ?_;dsimp only[Option.isSome_some,if_true];exact c x z
section
variable{B:aa}{S:Nat}{TS:Inv B}{L:O}{D:Nat->Nat->O->Prop}
theorem J9{f:Int}{k:Nat}(j:vJ f=Y k):f=(k:Int):=by
 induction f using kE with|ofNat=>refine U (an j).symm ?_;rfl|negSucc=>exact ag j
section
variable{s:aY}{H:ax}{l:ai}{A C:Nat}{Z:af×af}{i:V}{t:J}{h:Unit->O->Prop}
theorem Ka{x:List V}{k:Nat}{d:d1}{e:Array J}{z:Nat}(P:Rep B H L l.heap)(S:H A C=Y Z)(a:L.get A C=Y (.list x))(n:IsL l.heap Z.1 e z)(R:aE H l.heap x e.toList)(K:aq H l.heap i t)
  (b:Nat.blt k x.length=M)(p:short x=M)(r:Nat.blt C 16777216=M)(j:h () (L.set A C (Y (.list (setAt x k i))))):ao (aA B.prog B.w) s (n8 (.ref Z.1) (.int (k:Int) d) t) (ef (c:=B) eE h H l) (dq B D H l) l:=by
 have I:e.size=x.length:=by refine U R.length.symm ?_;exact U eQ rfl
 replace b:=fb.mp b;have q:k<1000:=Nat.lt_of_lt_of_le b (il p);refine J6 n (r0 k) (zP (vu.mpr q) (by decide)) (by refine U I ?_;exact vu.mpr b) ⟨(),_,H,j,rfl,?_,rfl,rfl⟩
 exact nS P S a (fb.mp r) n (U Array.toList_setIfInBounds (BQ K _ R))
theorem Kb{g:List (Key×V)}{x:am}{d:d1}(P:Rep B H L l.heap)(S:H A C=Y Z)(F:c4 B H l.heap Z (.dict g))(K:aq H l.heap i t)(b:Nat.ble g.length 1000=M)(p:Nat.blt C 16777216=M)
  (j:h () (L.set A C (Y (.dict (ih (ay x) i g))))):ao (aA B.prog B.w) s (n8 (.ref Z.1) (.str x d) t) (ef (c:=B) eE h H l) (dq B D H l) l:=by
 obtain ⟨k,a,hd,m,z⟩:=F;have T:a.length=g.length:=by have:=congrArg lh m;rwa [i4,i4] at this
 refine ak (BR (y:=x) K m z) λe y=>wpAny_setItem_pairs (strKind_is B.prog B.w x d) hd (λq f R=>⟨(),_,H,j,rfl,?_,rfl,rfl⟩) (by refine U cT ?_;refine U T ?_;exact Nat.le_trans (Nat.le_of_ble_eq_true b) (by decide))
 exact aR.update P S (λv r u N I=>(R.2 v N).trans u) (Nat.le_of_eq R.1.symm) (λI=>fb.mp p) λn=>⟨k,_,f,e,aE.ba (λI I I o=>o) n _ y⟩
end
theorem Kc{y X i:V}{N f t:J}{n:O}{h:Unit->O->Prop}(o:sd L y X i=Y n)(q:∀H j,TS.p H j->aq H j y N)(e:∀H j,TS.p H j->aq H j X f)(g:∀H j,TS.p H j->aq H j i t)(j:h () n):
  ae B S TS L (n8 N f t) eE h D:=λs TR H l Uo F P k TX=>by
 have c:=q _ _ k;have K:=e _ _ k;have a:=g _ _ k;refine hd λUD W=>au (eG o) λu I o=>au (eG o) λr C o=>?_;rw[pn I] at c;obtain ⟨Z,T,rfl⟩:=c;induction r using aj.casesOn with
 |list x=>refine au (eG o) λi A o=>au (eG o) λTV z o=>ak (hh o) λb o=>ak (hh o) λR o=>ak (hh o) λw o=>?_;rw[l4 A,J9 z] at K;refine aD K λd Q=>?_;clear K;clear e;subst Q;obtain ⟨_,Un,⟨TU,v⟩,m⟩:=P.obj _ _ _ _ T C;rw[<-an o] at j;exact W (Ka P T C v m a b R w j)
 |dict Ub=>refine au (eG o) λTY A o=>ak (hh o) λb o=>ak (hh o) λR o=>?_;rw[po A] at K;obtain ⟨x,d,rfl,rfl⟩:=K;rw[<-an o] at j;exact W (Kb P T (P.obj _ _ _ _ T C) a b R j)
 |_=>exact ag o
end
section
variable{B:aa}{S:Nat}{k:aF}{a:a4}{R:Rec}{w:bF B k}{Q:al}{L:O}{D:Nat->Nat->O->Prop}
theorem Kd(K:ROk B S R)(g:a8 a k){W:Nat}{r f:ah}{Z:aN}{X:V}{N:J}{h:al->O->Prop}(z:∀H j,w.p H j->aq H j X N)
  (j:(R.e (az W a r) Q L).to (λs C=>(R.e (az W a f) Q C).to (λv c=>∃n,sd c s v X=Y n/\h Q n) D) D):aI B S k w Q L (cU (.Subscript r f Z) k N) fH (hJ h) D:=by
 have o:∃d:J->J->List J,cU (.Subscript r f Z) k N=(bO [N] (aX r k)>>=λs=>bO [N,s] (aX f k)>>=λv=>bT Z>>=λI=>bO [N,s,v] (n8 s v N)>>=λI=>nw (d s v) []):=by clear j;exact⟨λs v=>match f with|.Slice _ _ G _=> [v,N,s]|_=> [N,s,v],rfl⟩
 refine aD o λd o=>?_;refine U o ?_;have i:ae B S ((loc B k Q).and (ee X N)) L (bO [N] (aX r k)>>=λs=>bO [N,s] (aX f k)>>=λv=>bT Z>>=λI=>bO [N,s,v] (n8 s v N)>>=λI=>nw (d s v) []) eE (λ(_:Unit) n=>h Q n) D:=by
  refine ae.bind (ae.holding (ae.weak (ae.q (K.e g j) (λs C A=>?_)) and_left));intro TV;refine ae.bind (ae.holding (ae.weak (ae.q (K.e g A) (λv c x=>?_)) λI I f=>f.1.1));intro TW;refine au x λn y m=>?_;clear x;refine ae.standAt (ae.iM (R:=eE) () n (ae.holding (Kc y (λI I f=>f.1.2) (λI I f=>f.2) (λI I f=>f.1.1.2) ⟨rfl,rfl⟩)) λI=>?_);exact λUi TR H l UE F P f TZ=>λTS Z TU=>by rw[vm];exact⟨(),n,H,m,rfl,.refl P,.refl⟩
 exact aI.mono (aI.wP i z λI I I I u=>u) λ_ T1 n T=>ak T λt b=>by refine U t ?_;exact b
theorem wZ(ok:B.Fine)(K:ROk B S R)(g:a8 a k){W:Nat}{d:ah}{X:V}{N:J}{h:al->O->Prop}(i:∀H j,w.p H j->aq H j X N)
  (j:(kR R (fK W a d) X Q L).to h D):aI B S k w Q L (cU d k N) fH (hJ h) D:=by
 induction d using bE with
 |Name y Z=>
  replace j:(kR R (match dM a y with|some f=>hl.name f|none=>.bad) X Q L).to h D:=j
  generalize b:dM a y=o;induction o using aB with|none=>replace j:=b▸j;exact j.elim|some f=>rw[b] at j;exact sW g b i j
 |Attribute r v Z=>replace j:((R.e (az W a r) Q L).bind λu L=>b4 (pL L u (ay v) X) λn=>.ok Q n).to h D:=j;rw[Res.bc] at j;exact J5 ok K g i (Res.hO j λu l A=>cO A)|Subscript r f Z=>replace j:((R.e (az W a r) Q L).bind λu L=>(R.e (az W a f) Q L).bind λm L=>b4 (sd L u m X) λn=>.ok Q n).to h D:=j;rw[Res.bc] at j;refine Kd K g i (Res.hO j λu l A=>?_);rw[Res.bc] at A;exact Res.hO A λm t C=>cO C|_=>exact j.elim
end
section
variable{B:aa}{S:Nat}{k:aF}{a:a4}{R:Rec}{w:bF B k}{Q:al}{L:O}{h:FM->al->O->Prop}{D:Nat->Nat->O->Prop}
end
section
variable{B:aa}{S:Nat}{k:aF}{a:a4}{R:Rec}{w:bF B k}{Q:al}{L:O}{h:FM->al->O->Prop}{D:Nat->Nat->O->Prop}
theorem Ke{t:List ah}{A:Nat}{Z:aN}{x:ah}(c:vV x=E):lg [.Tuple t A Z] x k=pure G\/
  ∃B:List am,lg [.Tuple t A Z] x k=pure (Y B)/\B.eraseDups.length=B.length/\B.length=t.length/\B=t.filterMap (λ|.Name id z=>if k.kindOf id==Y .local&&z.line==(t.head?.map (·.pos.line)).getD 0 then Y id else G|_=>G):=by
 induction x using bE with
 |Tuple e w l=>
  replace c:(match e.all (vW 8) with|true=>E|false=>e.all (Aq 8))=false:=c
  refine(λ(L:List am) (f:L=t.filterMap (λ|.Name id z=>if k.kindOf id==Y .local&&z.line==(t.head?.map (·.pos.line)).getD 0 then Y id else G|_=>G)) (d a:Bool) (o:lg [.Tuple t A Z] (.Tuple e w l) k=if d=M then pure G else if a=M then pure G else if(L.length !=t.length||L.eraseDups.length !=L.length)=M then pure G else if e.all (vW 8)=M then pure G else if e.all (Aq 8)=M then s2 "assign.tuple-of-constant-expressions:order-of-the-stores">>=λ_=>pure (Y L) else pure (Y L))=>?_) _ rfl _ _ rfl
  refine U o ?_;generalize d=b;induction b using ap with|true=>exact .inl rfl|false=>
   generalize a=b;induction b using ap with|true=>exact .inl rfl|false=>
    by_cases H:(L.length !=t.length||L.eraseDups.length !=L.length)=M
    ·exact U H (.inl rfl)
    ·by_cases p:e.all (vW 8)=M
     ·exact U p (U (if_neg H) (.inl rfl))
     ·rw[Kf] at p;rw[p] at c;dsimp only at c;refine U (if_neg H) (U p (U c ?_));simp only[Bool.or_eq_true,not_or,bne_iff_ne,ne_eq,Decidable.not_not] at H;exact .inr (fp L rfl H.2 H.1 f)
 |_=>exact .inl rfl
end
section
variable{B:aa}{S:Nat}{k:aF}{a:a4}{R:Rec}{D:Nat->Nat->O->Prop}
theorem BS{d:ah}{T:List ah}(j:notStar d=M):c0 (d::T) k=(E,cU d k)::c0 T k:=by induction d using bE <;>first|rfl|exact aG j
theorem Kg{W:Nat}{d:ah}(j:notStar d=E):fK W a d=.bad:=by induction d using bE <;>first|rfl|exact cS j
theorem Kh(ok:B.Fine)(K:ROk B S R)(g:a8 a k){W:Nat}:∀{y:List ah} {x:List V} {e:List J} {w:bF B k} {Q:al} {L:O} {h:al->O->Prop},(storeAll R (y.map (fK W a)) x Q L).to h D->
  (∀H j,w.p H j->aE H j x e)->aI B S k w Q L (iq ((c0 y k).map (·.2)) e) fH (hJ h) D:=by
 intro A;induction A with
 |nil=>
  intro x e w Q L h j i;induction x using aS with
  |nil=>
   clear i;induction e using aS with|nil=>exact aI.pure (v:=()) (m:=()) j λI I I I I=>rfl|cons=>exact aI.pure (v:=()) (m:=()) j λI I I I I=>rfl
  |cons=>exact j.elim
 |cons d T F=>
  intro x e w Q L h j i;induction x using aS with|nil=>exact j.elim|cons X n=>
   replace j:((kR R (fK W a d) X Q L).bind λQ L=>storeAll R (T.map (fK W a)) n Q L).to h D:=j;rw[Res.bc] at j;generalize P:notStar d=o;induction o using ap with|false=>rw[Kg P] at j;exact j.elim|true=>
    refine U (BS P) ?_;induction e using aS with
    |nil=>exact λs b H l Ua f=>by obtain ⟨_,_,u,_⟩:=i _ _ f;cases u
    |cons t C=>
     show aI B S k w Q L (bO C (cU d k t)>>=λI=>iq ((c0 T k).map (·.2)) C) fH (hJ h) D
     refine aI.bind (aI.holding (aI.mono (wZ (N:=t) ok K g (λH j f=>?_) j) λc v m q=>?_))
     ·obtain ⟨N,z,u,Z,_⟩:=i _ _ f;cases u;exact Z
     ·intro _;refine F q (λH j f=>?_);obtain ⟨N,z,u,_,r⟩:=i _ _ f.1;cases u;exact r
end
theorem bindAll_at :∀{w:List Nat} {vs:List V} {Q g:al},w.Nodup->bindAll Q w vs=Y g->(∀y N,(y,N)∈w.zip vs->aL y g=Y N)/\(∀y,y∉w->aL y g=aL y Q):=by
 intro s;induction s with
 |nil=>
  intro D;induction D using aS with|nil=>intro Q g I o;exact U (an o) (⟨λI I j=>(by cases j),λI I=>rfl⟩)|cons B d=>intro I I I o;exact ag o
 |cons r z F=>
  intro D;induction D using aS with|nil=>intro I I I o;exact ag o|cons B d=>
   intro Q g K o;refine ak (gn.mp K) λc H=>ak (F (vs:=d) H (show bindAll (eu r B Q) z d=Y g from o)) λb p=>⟨λy N h=>?_,λy q=>?_⟩
   ·rw[s3,aW] at h;rcases h with h|h
    ·cases h;refine U (p _ c) ?_;rw[rM];exact U (if_pos rfl) rfl
    ·exact b y N h
   ·rw[aW,not_or] at q;refine U (p y q.2) ?_;rw[rM];exact U (if_neg q.1) rfl
theorem BU{N e:Type}:∀{t:List N} {f:List e},t.length=f.length->∀y∈t,∃m,(y,m)∈t.zip f:=by
 intro s;induction s with
 |nil=>
  intro D;induction D using aS with|nil=>intro I I j;cases j|cons B d=>intro I I j;cases j
 |cons r z F=>
  intro D;induction D using aS with|nil=>intro o I I;cases o|cons B d=>
   intro o y j;rcases aW.mp j with rfl|j
   ·exact⟨B,.head _⟩
   ·exact aD (F (Nat.succ.inj o) y j) λK T=>⟨K,.tail _ T⟩
theorem Ki{w:List Nat}{e:List V}{Q g S:al}(K:w.Nodup)(o:bindAll Q w e=Y g)(k:bindAll Q w.reverse e.reverse=Y S)(y:Nat):aL y g=aL y S:=by
 have Z:=mu o;refine ak (bindAll_at K o) λf L=>?_;refine ak (bindAll_at (List.pairwise_reverse.mpr (K.imp λj=>h8 j)) k) λz s=>?_;by_cases j:y∈w
 ·refine aD (BU Z y j) λN i=>?_;refine U (f y N i) ?_;rw[z y N];rw[show w.reverse.zip e.reverse=(w.zip e).reverse from by
   refine U Kj ?_;refine U Kj ?_;exact U (List.reverse_zipWith Z) rfl]
  exact BV.mpr i
 ·refine U (L y j) ?_;exact U (s y (λu=>j (BV.mp u))) rfl
theorem Kk :∀(w:List Nat) (e:List V) (Q:al),w.length=e.length->∃g,bindAll Q w e=Y g:=by
 intro s;induction s with
 |nil=>
  intro D;induction D using aS with|nil=>intro Q I;exact⟨Q,rfl⟩|cons B d=>intro I o;cases o
 |cons r z F=>
  intro D;induction D using aS with|nil=>intro I o;cases o|cons B d=>intro Q o;exact F d (eu r B Q) (Nat.succ.inj o)
section
variable{B:aa}{S:Nat}{k:aF}{a:a4}{R:Rec}{w:bF B k}{Q:al}{L:O}{h:FM->al->O->Prop}{D:Nat->Nat->O->Prop}
theorem Kl :∀{a:List am} {R:List Nat} {x:List V} {d:List J} {w:bF B k} {Q P:al} {h:al->O->Prop},a.map bt=R.map Y->(∀C∈a,k.kindOf C=Y .local)->bindAll Q R x=Y P->(∀H j,w.p H j->aE H j x d)->h P L->
  aI B S k w Q L (iq (a.map λC=>nE k C) d) fH (hJ h) D:=by
 intro A;induction A with
 |nil=>
  intro R x d w Q P h o I m K j;induction R using aS with|cons=>cases o|nil=>
   induction x using aS with
   |nil=>refine U (an m) ?_;clear K;induction d using aS with|nil=>exact aI.pure (v:=()) (m:=()) j λI I I I I=>rfl|cons=>exact aI.pure (v:=()) (m:=()) j λI I I I I=>rfl
   |cons=>exact ag m
 |cons C T F=>
  intro R x d w Q P h y e m K j;induction R using aS with|nil=>cases y|cons f TY=>
   rw[cp,cp,my] at y;induction x using aS with|nil=>exact ag m|cons X n=>
    induction d using aS with
    |nil=>exact λUo Ut H l Ua f=>by obtain ⟨_,_,u,_⟩:=K _ _ f;cases u
    |cons t TU=>
     refine aI.bind (aI.holding (zZ (h:=λb s=>b=eu f X Q/\s=L) y.1 (.inl (e C (.head _))) (λH j f=>?_) ⟨rfl,rfl⟩)|>λi=>aI.mono i λc b s ⟨r,q⟩=>?_)
     ·obtain ⟨N,g,u,Z,_⟩:=K _ _ f;cases u;exact Z
     ·refine U r (U q ?_);intro _;refine F y.2 (λz v=>e z (.tail _ v)) m (λH j f=>?_) j;obtain ⟨N,g,u,_,W⟩:=K _ _ f.1;cases u;exact W
theorem Km :∀{t:List ah},dN t=M->∀k,(c0 t k).findIdx? (·.1)=G/\(c0 t k).length=t.length:=by
 intro s;induction s with|nil=>intro I I;exact⟨rfl,rfl⟩|cons d T F=>
  intro j k;refine ak (mj j) λb p=>ak (F p k) λv m=>U (BS b) (⟨?_,by simp[m]⟩)
  refine U (JO) ?_;refine U v ?_;rfl
theorem Kn{a:Nat}{o:ah}{y:am}(j:(match o with|.Name id z=>if k.kindOf id==Y .local&&z.line==a then Y id else G|_=>G)=Y y):(∃Z,o=.Name y Z)/\k.kindOf y=Y .local:=by
 induction o using bE with
 |Name X Z=>
  replace j:(if k.kindOf X==Y .local&&Z.line==a then Y X else G)=Y y:=j
  by_cases u:(k.kindOf X==Y .local&&Z.line==a)=M
  ·rw[if_pos u] at j;replace j:=an j;subst j;rw[Bool.and_eq_true] at u;exact⟨⟨Z,rfl⟩,eq_of_beq u.1⟩
  ·rw[if_neg u] at j;exact ag j
 |_=>exact ag j
theorem Ko(g:a8 a k){W:Nat}{c:ah->Option am}(e:∀o y,c o=Y y->(∃Z,o=.Name y Z)/\k.kindOf y=Y .local):∀{t:List ah} {x:List V} {Q:al} {h:al->O->Prop},(t.filterMap c).length=t.length->
  t.length=x.length->(storeAll R (t.map (fK W a)) x Q L).to h D->∃w v,(t.filterMap c).map bt=w.map Y/\(∀C∈t.filterMap c,k.kindOf C=Y .local)/\bindAll Q w x=Y v/\h v L:=by
 intro s;induction s with
 |nil=>
  intro x Q h I u j;induction x using aS with|nil=>exact pf ([]) Q rfl (λI j=>(by cases j)) rfl j|cons=>cases u
 |cons d T F=>
  intro x Q h o u j;induction x using aS with|nil=>cases u|cons X n=>
   generalize m:c d=K;induction K using aB with|none=>replace o:=(List.filterMap_cons_none m)▸o;exact absurd (o▸List.length_filterMap_le c T:(d::T).length<=T.length) (Nat.not_succ_le_self _)|some y=>
    rw[List.filterMap_cons_some m] at o⊢;refine ak (e _ _ m) λi q=>?_;obtain ⟨Z,rfl⟩:=i;replace j:((kR R (match dM a y with|some f=>hl.name f|none=>hl.bad) X Q L).bind λQ L=>storeAll R (T.map (fK W a)) n Q L).to h D:=j
    generalize l:dM a y=K at j;induction K using aB with|none=>exact j.elim|some f=>
     refine rI (F (Nat.succ.inj o) (Nat.succ.inj u) j) λw v b p r H=>pf (f::w) v ?_ (λC P=>?_) r H
     ·exact U cp (U cp (U b (U ((sV g l).1) rfl)))
     ·rcases aW.mp P with rfl|P
      ·exact q
      ·exact p C P
theorem Kp :∀(B:List am),B.eraseDups.length=B.length->B.Nodup:=by
 intro B j;have d:∀(C:Nat) (g:List am),g.length<=C->g.eraseDups.length<=g.length/\(g.eraseDups.length=g.length->g.Nodup):=by
  intro C;induction C with
  |zero=>intro g u;induction g using aS with|nil=>exact⟨by simp,λI=>jb⟩|cons=>cases u
  |succ C F=>
   intro g u;induction g using aS with|nil=>exact⟨by simp,λI=>jb⟩|cons v g=>
    refine U List.eraseDups_cons ?_;have e:=List.length_filter_le (λm=> !m==v) g;have x:g.length<=C:=Nat.le_of_succ_le_succ u;refine ak (F (g.filter λm=> !m==v) (Nat.le_trans e x)) λf Q=>U h9 (U h9 (⟨by lia,λo=>?_⟩))
    have t:(g.filter λm=> !m==v).length=g.length:=by lia
    have q:=List.length_filter_eq_length_iff.mp t;have s:(g.filter λm=> !m==v)=g:=List.filter_eq_self.mpr q;rw[s] at Q;refine gn.mpr ⟨λh=>?_,Q (by rw[s] at o;lia)⟩
    have:=q v h;simp at this
 exact(d B.length B (Nat.le_refl _)).2 j
theorem Kq :∀{B:List am} {w:List Nat},B.map bt=w.map Y->B.Nodup->w.Nodup:=by
 intro s;induction s with
 |nil=>
  intro w o I;induction w using aS with|nil=>exact jb|cons=>cases o
 |cons C T F=>
  intro w o K;induction w using aS with|nil=>cases o|cons f g=>
   replace o:=cp▸o;replace o:=cp▸o;rw[my] at o;refine ak (gn.mp K) λN H=>gn.mpr ⟨λh=>N ?_,F o.2 H⟩;have:Y f∈T.map bt:=by refine U o.2 ?_;exact fg.mpr (aC f h rfl)
   refine au (fg.mp this) λz a u=>?_;have:=ni o.1 u;clear u;exact U this a
theorem Kr(ok:B.Fine)(K:ROk B S R)(g:a8 a k){TZ A:Nat}{F:List ah}{Z z:aN}{d:ah}(Uf:mb d=E)(Ug:vV d=E)(X:dN F=M)
  (j:((R.e (az TZ a d) Q L).toS Q λN L=>(Am R (F.map (fK TZ a)) N Q L).toS Q λQ L=>.ok .next Q L).to h D):aI B S k w Q L (b0 (.Assign [.Tuple F A Z] d z) k) bU h D:=by
 have Uh:b0 (.Assign [.Tuple F A Z] d z) k=(bT z>>=λI=>aX d k>>=λN=>lg [.Tuple F A Z] d k>>=λT3=>s0 k N T3 [cU (.Tuple F A Z) k]):=by
  have Uk:b0 (.Assign [.Tuple F A Z] d z) k=(bT z>>=λI=>ja d (Y (.Tuple F A Z)) z.line k>>=λT1=>if T1=M then(wY d k λN=>qj N ((c0 [.Tuple F A Z] k).map (·.2)))>>=λI=>pure gm else aX d k>>=λN=>lg [.Tuple F A Z] d k>>=λT3=>s0 k N T3 ((c0 [.Tuple F A Z] k).map (·.2))):=rfl
  refine U Uk ?_;rw[n7 Uf];rfl
 refine U Uh (aI.standAt (aI.bind (aI.mono (aI.of (K.e g (hr j))) λy T5 m o=>ak o λTX q=>?_)));clear o;refine U TX ?_;intro N;induction y using V.casesOn with
 |tup x=>
  replace q:=hr q;refine ak (dr q) λT q=>?_;replace T:F.length=x.length:=by have:=Nat.eq_of_beq_eq_true T;rw[i4] at this;exact this
  have Ub:aI B S k (w.and (l7 (.tup x) N)) Q m (n4 N x.length G) vE (λc Ud n=>Ud=Q/\c=x/\n=m) D:=
   aI.Bx (z:=⟨λH j=>aq H j (.tup x) N,λR y P=>aq.post R P _ y⟩) (c:=vE) (h:=λc n=>c=x/\n=m) (wN (λI I f=>f) ⟨rfl,rfl⟩) (λI I f=>f.2) λI I I I TY=>TY
  rcases Ke (k:=k) (t:=F) (A:=A) (Z:=Z) Ug with u|⟨TU,u,T9,Ul,Uu⟩
  ·refine U u ?_;show aI B S k _ Q m (cU (.Tuple F A Z) k N>>=λI=>pure gm) bU h D;refine ak (Km X k) λT8 f2=>?_;have UV:cU (.Tuple F A Z) k N=(bT Z>>=λI=>bO [N] (n4 N x.length G)>>=λt=>iq ((c0 F k).map (·.2)) t):=by
    rw[By];unfold unpack;exact U T8 (U f2 (U T rfl))
   refine U UV ?_;have st:aI B S k (w.and (l7 (.tup x) N)) Q m (bT Z>>=λI=>bO [N] (n4 N x.length G)>>=λt=>iq ((c0 F k).map (·.2)) t) fH (λI b W=>h .next b W) D:=by refine aI.standAt (aI.bind (aI.mono (aI.holding Ub) λc Ut Uo o=>br o λp r T4=>?_));clear o;refine U p (U r (U T4 ?_));intro t;exact Kh (h:=λb W=>h .next b W) ok K g q λI I f=>f.2
   refine aI.bind (aI.mono st λI b W TS=>?_);intro _;exact aI.pure (v:=gm) (m:=FM.next) TS λI I I I I=>rfl
  ·refine U u ?_;have Uc:TU.length=x.length:=Ul.trans T;show aI B S k _ Q m (PySem.rule "assign.swapped-stores">>=λI=>n4 N TU.length G>>=λTR=>iq (TU.reverse.map λC=>nE k C) TR.reverse>>=λI=>pure gm) bU h D;clear u;subst Uu;refine rI (Ko g (λI I=>Kn) Ul T q) λT0 Ud T6 T2 UR Um=>?_;have TV:=Kq T6 (Kp _ T9);have Ue:T0.length=x.length:=mu UR;refine aD (Kk T0.reverse x.reverse Q (by simp[Ue])) λUD T7=>?_
   have same:=Ki TV UR T7;refine U Uc (λs i H l Ua f=>ab (hG (aI.bind (aI.mono Ub λc Ut Uo o=>?_) s i H l Ua f)));refine br o λp r T4=>?_;clear o;refine U p (U r (U T4 ?_));intro t;refine λs i H l Ua f=>ab (b3 (Kl (w:=zX x.reverse t.reverse) (D:=D) (L:=m) (h:=λUP v=>UP=UD/\v=m) (R:=T0.reverse) (x:=x.reverse) (d:=t.reverse) ?_ ?_ T7 (λI I f=>f) ⟨rfl,rfl⟩ s i H l Ua (aE.reverse f.2)) (λ_ Us ⟨_,UP,v,UL,⟨p,r⟩,_,TW,Uw⟩=>?_))
   ·exact U Ks (U Ks (congrArg List.reverse T6))
   ·intro C X;exact T2 C (BV.mp X)
   ·clear T7;subst p r;exact aH ⟨.next,Ud,v,UL,Um,rfl,TW.congr same,Uw⟩
 |_=>exact(hr q).elim
end
inductive jc(c:aa):Prop
 |mk (nm q:am) (N:af) (bs bm:List J) (hdct:Bool) (sn:List am) (sub:List J) (mz:Bool) (col:Option Bool) (dd:Option af) (k0 k1 k2 k3 k5:Option J) (newId:String) (e:c.base.get? c.X=Y (li nm q c.X N bs bm hdct sn sub mz col dd k0 k1 k2 k3 k5 newId)) (hb:bm.contains (.type "BaseException")=M)
section
variable{i:gD}{s:aY}{n:J->ai->Prop}{k:aF}
variable{X u:am}{x L:af}{f I:List J}{m:Bool}{p:List am}{sub:List J}{R:Bool}{r:Option Bool}{d:Option af}{w v q h C:Option J}{F:String}
theorem Kt{l:ai}{y:aZ J}{a:f6->ai->Prop}(T:I.contains (.type "BaseException")=M)(z:s.handled=G)
  (j:ao i s y (λN Z=>∃o W e,N=.ref o/\Z.heap.get? x=Y (li X u x L f I m p sub R r d w v q h C F)/\
   Z.heap.get? o=Y ⟨.ref x,W,.fields e,#[]⟩/\e[1]? =Y .none/\n (.ref o) Z) n l):
  ao i s (raiseStmt k (Y y) G) a n l:=by
 have H:(bZ x::I).contains (.type "BaseException")=true:=by refine U n9 ?_;refine U T ?_;rw[s4]
 refine ab (b3 j (λN Z A=>lX A λo W e Q B g P=>?_));clear A;refine ak P λb K=>?_;subst Q;obtain ⟨S,c,t,D,os⟩:=Z
 repeat (first|with_reducible refine lj g ?_|with_reducible refine lj B ?_|(with_reducible refine s5 B ?_;refine U H ?_)|(with_reducible refine b9 g rfl b ?_)|wp_step)
 exact wpAny_raiseNew_none z K
end
section
variable{B:aa}{S:Nat}{k:aF}{a:a4}{R:Rec}{n:bF B k}{Q:al}{L:O}{h:FM->al->O->Prop}{D:Nat->Nat->O->Prop}
theorem Rep.raise{H:ax}{j:av}{A C:Nat}{g:List (Key×V)}(P:Rep B H L j)(o:L.get A C=Y (.exc g E))(X:C<2^24):Rep B H (L.set A C (Y (.exc g M))) j:=by
 refine⟨P.stays,λw a=>?_,λw a Z r S F=>?_,P.new,P.sep⟩
 ·rw[O.get_set _ _ _ _ (λI=>X),P.ed];by_cases u:w=A/\a=C
  ·refine U (if_pos u) (U u.1 (U u.2 (U o ?_)));rfl
  ·exact U (if_neg u) rfl
 ·rw[O.get_set _ _ _ _ (λI=>X)] at F;by_cases u:w=A/\a=C
  ·rw[if_pos u] at F;obtain rfl:=an F;refine ak u λQ D=>?_;clear u;subst Q;subst D;obtain ⟨n,z,e,b,p,x,q,_⟩:=P.obj _ _ _ _ S o;exact⟨n,z,e,b,p,x,q,λu=>cS u⟩
  ·rw[if_neg u] at F;exact P.obj _ _ _ _ S F
theorem Ku{N:V}{n:O}(j:(vR L Q N n).to h D):∃A C g,N=.ref A C/\L.get A C=G/\n.get A C=Y (.exc g E)/\C<2^24/\D A C (n.set A C (Y (.exc g M))):=by
 induction N using V.casesOn with
 |ref A C=>
  have j:(match sf (L.get A C) with
   |true=>match sg (n.get A C) with
    |some g=>match Nat.blt C 16777216 with
     |true=>be.err A C Q (n.set A C (Y (.exc g M)))|false=>.no
    |none=>.no
   |false=>.no).to h D:=j
  generalize d:L.get A C=K;induction K using aB with|some=>rw[d] at j;exact j.elim|none=>
   rw[d] at j;have j:(match sg (n.get A C) with
    |some g=>match Nat.blt C 16777216 with
     |true=>be.err A C Q (n.set A C (Y (.exc g M)))|false=>.no
    |none=>.no).to h D:=j
   generalize b:sg (n.get A C)=K;induction K using aB with|none=>replace j:=b▸j;exact j.elim|some g=>
    rw[b] at j;have j:(match Nat.blt C 16777216 with
     |true=>be.err A C Q (n.set A C (Y (.exc g M)))|false=>.no).to h D:=j
    have F:n.get A C=Y (.exc g E):=by
     revert b;generalize (n.get A C)=K;induction K using aB with|none=>intro u;exact ag u|some r=>
      induction r using aj.casesOn with
      |exc S T=>
       induction T using ap with|false=>intro u;exact U (an u) rfl|true=>intro u;exact ag u
      |_=>intro u;exact ag u
    generalize p:Nat.blt C 16777216=K;induction K using ap with|false=>rw[p] at j;exact j.elim|true=>rw[p] at j;exact fY A C g rfl d F ⟨fb.mp p,j⟩
 |_=>exact j.elim
theorem Kv(ok:B.Fine)(TY:jc B)(K:ROk B S R)(TR:a8 a k){Ue:Nat}{o:ah}{P:aN}
  (T6:((R.e (az Ue a o) Q L).toS Q (vR L Q)).to h D):aI B S k n Q L (b0 (.Raise (Y o) G P) k) bU h D:=λs TS H l m T7=>by
 obtain ⟨T3,u,T9,Ud,TW,T5,T8,sub,Ub,Uc,T0,Ug,Ur,Uq,Up,UF,TU,T4,TX⟩:=TY;have i:=K.e TR (hr T6) s (k::TS) H l m.dS m.f7 m.rep m.loc m.gens;have Us:ao (aA B.prog B.w) s (raiseStmt k (Y (do let N<-aX o k;bT P;pure N)) G) (nC (c:=B) (env:=k) bU h H l) (b7 B k D H l) l:=by
  refine Kt (x:=B.X) (X:=T3) (u:=u) (L:=T9) (f:=Ud) (I:=TW) (m:=T5) (p:=T8) (sub:=sub) (R:=Ub) (r:=Uc) (d:=T0) (w:=Ug) (v:=Ur) (q:=Uq) (h:=Up) (C:=UF) (F:=TU) TX m.dS.handled (ab (bQ i (λN Uu ⟨y,Uo,z,f,Uf,r⟩=>ab (dQ (aH ?_))) λI I y=>y.x m.rep m.loc));refine hd λUD TV=>?_;obtain ⟨A,C,g,rfl,T1,b,F,f⟩:=Ku f;obtain ⟨Z,T,rfl⟩:=Uf;obtain ⟨UN,T2,q,d,Ua,Uv,TZ,v⟩:=r.post.rep.obj _ _ _ _ T b;have W:H A C=none:=by
   have:=m.rep.ed A C;rw[T1] at this;generalize t:H A C=p;induction p using aB with|none=>rfl|some _=>rw[t] at this;exact cS this
  have Uh:l.heap.objs.size<=Z.1:=by
   rcases r.post.grow.2 _ _ _ T with t|t
   ·rw[W] at t;exact ag t
   ·exact t.1
  have j:Ends B H l z (Uo.set A C (Y (.exc g M))) Uu:=⟨⟨r.post.rep.raise b F,r.post.grow,r.post.keep,r.post.size⟩,r.same⟩;refine TV (fY Z.1 (Y Z.2) q rfl (r.post.rep.stays _ _ T4) d ⟨v rfl,?_⟩);refine⟨A,C,g,_,z,Z,f,?_,T,rfl,W,⟨_,q,d,rfl,Kw Uh,.inl (v rfl)⟩,⟨Q,(loc B k Q).st m.rep m.loc j.post⟩,j.x⟩;rw[O.get_set _ _ _ _ (λI=>F)];exact U (if_pos ⟨rfl,rfl⟩) rfl
 rw[arm_exec_Raise];exact ab (dQ Us)
end
theorem Ky{F m iter:ah}{o:List ah}{e:List fe}{D:cn}{z:aN}{C:Nat}(h f:J)(k:aF)(b:e[C]? =Y ⟨m,iter,o,0⟩)(p:e[C+1]? =G):
  s6 (.ListComp F e D z) C h f k=(do
   bT iter.pos
   match<-hn h with
   |none=>pure (.done .next)|some N=>
    qg m h N
    cU m k N
    let mut ok:=M
    for c in o do
     if ok then ok<-gH c k (aX c k)
    if ok then
     (do let _<-bV (.builtin "list.append") [f,<-aX F k])
    s7 (.compLoop (.ListComp F e D z) C h f k)):=by
 unfold s6;dsimp only;refine U b (U p ?_);rfl
theorem Kz{F m iter L a:ah}{o Q:List ah}{e:List fe}{D:cn}{z:aN}{C:Nat}(h f:J)(k:aF)(b:e[C]? =Y ⟨m,iter,o,0⟩)(p:e[C+1]? =Y ⟨L,a,Q,0⟩):
  s6 (.ListComp F e D z) C h f k=(do
   bT iter.pos
   match<-hn h with
   |none=>pure (.done .next)|some N=>
    qg m h N
    cU m k N
    let mut ok:=M
    for c in o do
     if ok then ok<-gH c k (aX c k)
    if ok then
      let y<-aX a k
      bT a.pos
      let y<-BW a k y
      let _<-runOwn (.compStart (.ListComp F e D z) (C+1) (<-bO [y] (i9 y)) f k) k
    s7 (.compLoop (.ListComp F e D z) C h f k)):=by
 unfold s6;dsimp only;refine U b (U p ?_);rfl
section
variable{H:e9}{t:cf}{s:aY}{R:eX->ai->Prop}{l:ai}
abbrev c3 :J->ai->Prop:=λI I=>False
theorem jZ{N:Type}{i:gD}{d:aZ N}{a:N->ai->Prop}{n:J->ai->Prop}(j:ao i s d a c3 l):ao i s d a n l:=bQ j (λI I y=>y) λI I y=>y.elim
def ql(i:gD)(s:aY)(F:ah)(e:List fe)(D:cn)(z:aN)(C:Nat)(h f:J)(k:aF)(R:eX->ai->Prop)(g:ai):Prop:=match e[C+1]? with
 |none=>ao i s (aX F k) (λx q=>ao i s (bV (.builtin "list.append") [f,x]) (λI r=>cu i s (.compLoop (.ListComp F e D z) C h f k) R r) c3 q) c3 g|some c=>ao i s (aX c.iter k) (λx q=>ao i s (i9 x) (λK r=>cu i s (.compStart (.ListComp F e D z) (C+1) K f k) (λT w=>match T with
   |.ok _=>cu i s (.compLoop (.ListComp F e D z) C h f k) R w|.error _=>False) r) c3 q) c3 g
theorem KA{F m iter:ah}{o:List ah}{e:List fe}{D:cn}{z:aN}{C:Nat}{h f:J}{k:aF}(b:e[C]? =Y ⟨m,iter,o,0⟩)
  (X:e[C+1]? =G\/∃L a Q,e[C+1]? =Y ⟨L,a,Q,0⟩/\∀y,BW a k y=pure y)
  (j:ao (aA H t) s (hn h) (λT Z=>match T with
   |none=>R (.ok .next) Z|some N=>ao (aA H t) s (qg m h N) (λI v=>ao (aA H t) s (cU m k N) (λI n=>
     ao (aA H t) s (forIn o M λB T=>if T=M then do let ok<-gH B k (aX B k);pure (qm ok) else pure (qm T)) (λok g=>
      if ok=M then ql (aA H t) s F e D z C h f k R g
      else cu (aA H t) s (.compLoop (.ListComp F e D z) C h f k) R g) c3 n) c3 v) c3 Z) c3 l):
  cu (aA H t) s (.compLoop (.ListComp F e D z) C h f k) R l:=by
 refine sY ?_;show ao _ s ((s6 (.ListComp F e D z) C h f k).onRaise (λy=>do n5 y k;BE y)) _ _ l
 refine BF (jZ ?_);rcases X with X|⟨L,a,Q,X,P⟩
 ·refine U (Ky h f k b X) (ab (dQ (ab (b3 j (λT Z A=>?_)))));induction T using aB with|none=>exact aH A|some N=>
   refine ab (b3 A (λI v S=>ab (b3 S (λI n p=>ab (b3 p (λok g x=>?_))))));induction ok using ap with|false=>exact aH ⟨rfl,x⟩|true=>rw[if_pos rfl] at x;unfold ql at x;replace x:=X▸x;exact ab (ab (b3 x (λy q c=>ab (b3 c (λI r i=>aH (aH ⟨rfl,i⟩))))))
 ·refine U (Kz h f k b X) (ab (dQ (ab (b3 j (λT Z A=>?_)))));induction T using aB with|none=>exact aH A|some N=>
   refine ab (b3 A (λI v S=>ab (b3 S (λI n p=>ab (b3 p (λok g x=>?_))))));induction ok using ap with|false=>exact aH ⟨rfl,x⟩|true=>
    rw[if_pos rfl] at x;unfold ql at x;rw[X] at x;refine ab (b3 x (λy q c=>ab (dQ (ab (A4 (P y) (ab (ck (b3 c (λK r i=>(ab (wpAny_runOwn (hW i λT w d=>?_))))))))))));induction T using mx with|ok u=>exact aH ⟨rfl,d⟩|error y=>exact d.elim
end
structure c1(c:aa)(mA:aF)(γ₀:ax)(s₀:ai)(lm:al)(γ:ax)(σ:O)(s:ai)(D:af)(acc:List V):Prop where
 dB:Ends c γ₀ s₀ γ σ s
 st:c.base.StaysIn s₀.heap
 loc:bp c mA lm γ s.heap
 cl:∀p∈mA.cells,p.2<s₀.heap.objs.size
 qn:s₀.heap.objs.size<=mA.locals
 oa:s₀.heap.objs.size<=D
 ne:D≠mA.locals
 ls:∃items n,s.heap.get? D=Y {cls:=.type "list",dict:=G,data:=.seq items n,slots:= #[]}/\aE γ s.heap acc items.toList
 bu:¬foot γ D
section
variable{B:aa}{T7:aF}{T H K:ax}{j l W:ai}{Q P:al}{L n:O}{D:af}{d:List V}
theorem c1.run(x:c1 B T7 T j Q H L l D d)(o:Ends B H l K n W):c1 B T7 T j Q K n W D d:=by exact dZ x.ls λe C b p=>⟨x.dB.trans o,x.st,(Internal.loc B T7 Q).st x.dB.post.rep x.loc o.post,x.cl,x.qn,x.oa,x.ne,d9 e C ((o.post.keep _ _ b x.bu).exact (λm i u=>by cases u)) (aE.post x.dB.post.rep o.post _ p),o.post.grow.eD b x.bu⟩
theorem mB{c:af}{j q:av}(R:cL c j q)(z:∀e,¬j.IsTuple c e):∀v e,aO H j v e->aO H q v e:=λv e d=>
 d.keep d.bu λr F=>(R.2 v λu=>z e (u▸d.tup)).trans F
theorem c1.own(x:c1 B T7 T j Q H L l D d){q:av}{tk:Nat}(R:cL T7.locals l.heap q)(c:bp B T7 P H q):c1 B T7 T j P H L {l with heap:=q,toks:=tk} D d:=by refine dZ x.ls λe C b p=>?_;have z:=x.loc.notTuple (.inl rfl);exact⟨⟨x.dB.post.fresh x.st x.qn x.loc.own.1 z (λv r o f=>(R.2 v f).trans o) (by refine U R.1 ?_;exact Nat.le_refl _),⟨x.dB.same.1,x.dB.same.2⟩⟩,x.st,c,x.cl,x.qn,x.oa,x.ne,d9 e C ((R.2 _ x.ne).trans b) (aE.ba (λI I I o=>o) (mB R z) _ p),x.bu⟩
theorem c1.push(x:c1 B T7 T j Q H L l D d){q:av}{tk:Nat}{n:Array J}{a:Nat}{s:List V}(R:cL D l.heap q)(TR:q.get? D=Y {cls:=.type "list",dict:=G,data:=.seq n a,slots:= #[]})(K:aE H l.heap s n.toList):
  c1 B T7 T j Q H L {l with heap:=q,toks:=tk} D s:=by
 refine dZ x.ls λe UJ TU Uv=>?_;have C:∀e,¬l.heap.IsTuple D e:=λe TV=>bX TV λr F k I=>by rw[TU] at F;obtain rfl:=an F;simp at k
 have p:=mB (H:=H) R C;have b:∀Z∈T7.cells,∀N,l.heap.IsCell Z.2 N->q.IsCell Z.2 N:=λZ S N UP=>au UP λr F hd=>aC r ((R.2 _ λu=>by have:=x.cl Z S;rw[u] at this;exact absurd (Nat.lt_of_lt_of_le this x.oa) (Nat.lt_irrefl _)).trans F) hd
 refine⟨⟨x.dB.post.fresh x.st x.oa x.bu C (λv r o c=>(R.2 v c).trans o) (by refine U R.1 ?_;exact Nat.le_refl _),⟨x.dB.same.1,x.dB.same.2⟩⟩,x.st,?_,x.cl,x.qn,x.oa,x.ne,d9 _ _ TR (aE.ba (λI I I o=>o) p _ K),x.bu⟩
 refine au x.loc.ns λz T4 h=>?_;obtain ⟨r,T8,Uq,F,hd,TY,UC⟩:=T4;refine⟨x.loc.kind,x.loc.gl,x.loc.fG,x.loc.plain,aC z (fY r T8 Uq ((R.2 _ (h8 x.ne)).trans F) hd TY UC) (λy f g UV X m=>?_),x.loc.own,λZ S=>?_⟩
 ·refine au (h y f g UV X m) λN i t=>aC N (aq.ba (λI I I o=>o) p _ i) ?_;rcases t with t|⟨A,v,w,k⟩
  ·exact .inl t
  ·exact .inr (fX A v w (b _ (mem_of_lookup w) _ k))
 ·exact e7 (x.loc.cell Z S) λW TS c P=>aD P λN i=>bP W TS c ⟨N,b Z S N i⟩
theorem cP.but{l:Nat}{j q:av}{c:af}(R:cL c j q)(z:∀e,¬j.IsTuple c e)(x:∃r,j.get? c=Y r/\((∃n i,r.data=.dict n i)\/r.cls=.type "list")){X:Src}{h:J}(T:cP B l H j X h):cP B l H q X h:=
 T.dD (⟨λI I I o=>o,λv r o I b K L=>⟨(R.2 v λu=>by
  refine au x λP F t=>?_;clear x;rw[u,F] at o;obtain rfl:=an o;rcases t with⟨n,i,t⟩|t
  ·exact K _ _ t
  ·exact L t).trans o,b⟩,mB R z⟩:dg l H H j q)
theorem c1.dict(x:c1 B T7 T j Q H L l D d):∃r,l.heap.get? T7.locals=Y r/\((∃n i,r.data=.dict n i)\/r.cls=.type "list"):=by refine au x.loc.ns λz e I=>?_;obtain ⟨r,n,i,F,hd,_⟩:=e;exact aC r F (.inl (ea n i hd))
theorem c1.lst(x:c1 B T7 T j Q H L l D d):∃r,l.heap.get? D=Y r/\((∃n i,r.data=.dict n i)\/r.cls=.type "list"):=by exact dZ x.ls λe C b I=>aC _ b (.inr rfl)
theorem c1.s8(x:c1 B T7 T j Q H L l D d):∀e,¬l.heap.IsTuple D e:=λe o=>bX o λr F k I=>by refine dZ x.ls λe C b I=>?_;rw[b] at F;obtain rfl:=an F;simp at k
end
structure ci(ob:Nat)(γ γ':ax)(h h':av):Prop where
 g:∀k n p,γ k n=Y p->γ' k n=Y p
 k:∀a aw,h.get? a=Y aw->a<ob->¬foot γ a->(∀bw ep,aw.data≠.dict bw ep)->aw.cls≠.type "list"->h'.get? a=Y aw/\¬foot γ' a
 tt:∀a items,aO γ h a items->aO γ' h' a items
 z:h.objs.size<=h'.objs.size
section
variable{B:aa}{S N l:Nat}{H p a:ax}{L n:O}{j q w:av}
theorem ci.trans(v:ci N H p j q)(m:ci N p a q w):ci N H a j w:=⟨λI I I o=>m.g _ _ _ (v.g _ _ _ o),λy r o l b K L=>by exact ak (v.k y r o l b K L) λQ c=>m.k y r Q l c K L,λI I d=>m.tt _ _ (v.tt _ _ d),Nat.le_trans v.z m.z⟩
theorem ci.of(P:aR B H j p n q):ci N H p j q:=⟨P.grow.1,λv r o I b K I=>⟨(P.keep v r o b).exact K,P.grow.eD o b⟩,(dg.of (l:=0) P).tt,P.size⟩
theorem ci.refl :ci N H H j j:=⟨λI I I o=>o,λI I o I b I I=>⟨o,b⟩,λI I d=>d,Nat.le_refl _⟩
theorem ci.moved(i:Moved N H j q):ci N H H j q:=⟨λI I I o=>o,λv r o g b I I=>⟨i.k v r o (.inl g),b⟩,i.tt,i.z⟩
theorem ci.but{c:af}(R:cL c j q)(z:∀e,¬j.IsTuple c e)(x:∃r,j.get? c=Y r/\((∃n i,r.data=.dict n i)\/r.cls=.type "list")):ci N H H j q:=
 ⟨λI I I o=>o,λv r o I b K L=>⟨(R.2 v λu=>by
  refine au x λP F t=>?_;clear x;rw[u,F] at o;obtain rfl:=an o;rcases t with⟨n,i,t⟩|t
  ·exact K _ _ t
  ·exact L t).trans o,b⟩,mB R z,by refine U R.1 ?_;exact Nat.le_refl _⟩
theorem ci.dD(K:ci N H p j q)(d:j.objs.size<=N):dg l H p j q:=⟨K.g,λv r o I b f L=>K.k v r o (Nat.lt_of_lt_of_le (bJ o) d) b f L,K.tt⟩
theorem ci.le{m:Nat}(K:ci N H p j q)(d:m<=N):ci m H p j q:=⟨K.g,λv r o l b f L=>K.k v r o (Nat.lt_of_lt_of_le l d) b f L,K.tt,K.z⟩
theorem aR.moved{F:ax}{d:av}(P:aR B F d H L j)(R:Rep B H L q)(i:Moved N H j q)(K:d.objs.size<=N):aR B F d H L q:=by
 refine⟨R,P.grow,λv r o b=>?_,Nat.le_trans P.size i.z⟩;have g:=Nat.lt_of_lt_of_le (bJ o) K;rcases P.keep v r o b with u|⟨W,f,u⟩
 ·exact .inl (i.k _ _ u (.inl g))
 ·exact .inr ⟨W,f,i.k _ _ u (.inl g)⟩
end
structure oc(c:aa)(f:Nat)(A:aY)(Fs:List aF)(γ₀:ax)(σ₀:O)(s₀:ai):Prop where
 dS:Ready A f Fs
 f7:Frames c γ₀ Fs s₀.heap
 rep:Rep c γ₀ σ₀ s₀.heap
 gens:s₀.gens= #[]
abbrev eY :Nat->Nat->O->Prop:=λI I I=>False
section
variable{B:aa}{S:Nat}{T7:aF}{s:aY}{u:List aF}{TW H c:ax}{TU:O}{TS l W:ai}{Q Ud:al}{L n:O}{D:af}{Ui:List V}{T3:Nat}{Ua:Src}{h:J}
theorem c1.BX(x:c1 B T7 TW TS Q H L l D Ui){q:av}{A:Nat}(R:Rep B H L q)(i:Moved T3 H l.heap q)(K:TS.heap.objs.size<=T3):c1 B T7 TW TS Q H L {l with heap:=q,toks:=A} D Ui:=by exact dZ x.ls λe C b p=>⟨⟨x.dB.post.moved R i K,⟨x.dB.same.1,x.dB.same.2⟩⟩,x.st,x.loc.moved i (λZ S=>Nat.lt_of_lt_of_le (x.cl Z S) K),x.cl,x.qn,x.oa,x.ne,d9 e C (i.k _ _ b (.inr ⟨x.bu,.inl rfl⟩)) (aE.ba (λI I I o=>o) i.tt _ p),x.bu⟩
theorem w0{D:Nat->Nat->O->Prop}(a:∀A C L,¬D A C L){o:J}(y:dq B D H l o W):False:=let ⟨_,_,_,_,_,_,j,_,_,_,_,_,_⟩:=y;a _ _ _ j
theorem w1{N e:Type}{d:aZ N}{R:Rel B e N}{h:e->O->Prop}(X:oc B S s u TW TU TS)(x:c1 B T7 TW TS Q H L l D Ui){z:Inv B}(k:z.p H l.heap)(j:ae B S ((loc B T7 Q).and z) L d R h eY):
  ao (aA B.prog B.w) s d (λv W=>∃m n c,h m n/\(R.r m v).p c W.heap/\Ends B H l c n W) c3 l:=
 bQ (j s u H l X.dS (X.f7.post X.rep x.dB.post) x.dB.post.rep ⟨x.loc,k⟩ (x.dB.same.1.trans X.gens)) (λI I F=>(by obtain ⟨m,n,c,y,a,o⟩:=F;exact zc m n c y a o)) λI I y=>w0 (λI I I j=>j) y
theorem KC{F:a4}(i:a8 F T7)(Uw:∀f,aL f F≠Y .cell):∀{n:List ah} {z:List Nat} {x:List V} {e:List J} {Q Ud:al} {l:ai} {a:Unit->ai->Prop},c1 B T7 TW TS Q H L l D Ui->cP B T3 H l.heap Ua h->gb F n=Y z->bindAll Q z x=Y Ud->aE H l.heap x e->
  (∀W,c1 B T7 TW TS Ud H L W D Ui->cP B T3 H W.heap Ua h->ci T3 H H l.heap W.heap->a () W)->ao (aA B.prog B.w) s (iq ((c0 n T7).map (·.2)) e) a c3 l:=by
 intro A;induction A with
 |nil=>
  intro z x e Q Ud l a d g o m c X;obtain rfl:=an o;induction x using aS with
  |nil=>obtain rfl:=an m;clear c;induction e using aS with|nil=>exact aH (X _ d g .refl)|cons=>exact aH (X _ d g .refl)
  |cons=>exact ag m
 |cons o T v=>
  intro z x e Q Ud l a d g S m c X;refine m9 (wO S) λy Z f TZ r b Ur Ue=>?_;subst r;clear S;subst Ue;induction x using aS with|nil=>exact ag m|cons Ut TR=>
   have UJ:c0 (.Name y Z::T) T7=(E,cU (.Name y Z) T7)::c0 T T7:=rfl;obtain ⟨N,k,u,Uf,T4⟩:=c;subst u;refine U UJ ?_;show ao _ s (bO k (bT Z>>=λI=>nE T7 y N)>>=λI=>iq ((c0 T T7).map (·.2)) k) a c3 l
   refine ak (sV i b) λp q=>?_;have q:T7.kindOf y=Y .local:=by
    rcases q with q|⟨q,_⟩
    ·exact q
    ·unfold dM at b;replace b:=p▸b;dsimp only at b;generalize t:aL f F=K;induction K using aB with|none=>replace b:=t▸b;exact ag b|some U6=>
      induction U6 using eU with|cell=>exact absurd t (Uw f)|«local»=>exact i y f _ p t|_=>rw[t] at b;exact ag b
   refine au d.loc.ns λT0 P TY=>?_;have C:=d.loc.notTuple (.inl rfl);refine ab (ck (ab (dQ (ab (ck (pC (ab (vG q P (λUq T1 R=>pC ?_) (by refine U d.loc.kind ?_;rfl)))))))))
   have UF:=vF d.dB.post.rep d.loc p q TY Uf T1 R;refine v (d.own (tk:=l.toks+1) R UF) (g.but R C d.dict) Ur m (aE.ba (λI I I o=>o) (mB R C) _ T4) λW T6 Uv j=>X W T6 Uv (.trans (ci.but R C d.dict) j)
theorem KD{F:a4}(i:a8 F T7)(Uw:∀f,aL f F≠Y .cell)(X:oc B S s u TW TU TS){v:ah}{j:cm}{A:V}{N:J}{a:Unit->ai->Prop}(d:c1 B T7 TW TS Q H L l D Ui)(TZ:cP B T3 H l.heap Ua h)(q:eT F v=Y j)(z:r9 Q j A=Y Ud)(T:aq H l.heap A N)
  (Ut:∀c W,c1 B T7 TW TS Ud c L W D Ui->cP B T3 c W.heap Ua h->ci T3 H c l.heap W.heap->a () W):ao (aA B.prog B.w) s (cU v T7 N) a c3 l:=by
 refine hd λUD TV=>?_;induction v using bE with
 |Name y Z=>
  replace q:(match dM F y with|some f=>Y (cm.name f)|none=>G)=Y j:=q
  generalize b:dM F y=K;induction K using aB with|none=>rw[b] at q;exact ag q|some f=>
   rw[b] at q;obtain rfl:=an q;obtain rfl:=an z;have Uq:gb F [.Name y Z]=Y [f]:=by show f9 (dM F y) _=_;refine U b ?_;rfl
   refine ak (sV i b) λm p=>?_;have p:T7.kindOf y=Y .local:=by
    rcases p with p|⟨p,_⟩
    ·exact p
    ·unfold dM at b;replace b:=m▸b;dsimp only at b;generalize t:aL f F=K;induction K using aB with|none=>replace b:=t▸b;exact ag b|some U6=>
      induction U6 using eU with|cell=>exact absurd t (Uw f)|«local»=>exact i y f _ m t|_=>rw[t] at b;exact ag b
   refine au d.loc.ns λTX Uf Ux=>?_;have UJ:=d.loc.notTuple (.inl rfl);refine TV ?_;show ao _ s (bT Z>>=λI=>nE T7 y N) a c3 l;refine ab (dQ (ab (ck (pC (ab (vG p Uf (λUj T1 r=>pC ?_) (by refine U d.loc.kind ?_;rfl)))))))
   have UF:=vF d.dB.post.rep d.loc m p Ux T T1 r;exact Ut H _ (d.own (tk:=l.toks+1) r UF) (TZ.but r UJ d.dict) (ci.but r UJ d.dict)
 |Tuple C T5 Z=>
  replace q:(match gb F C with|some TR=>Y (cm.tup TR)|none=>G)=Y j:=q
  generalize b:gb F C=K;induction K using aB with|none=>replace q:=b▸q;exact ag q|some T0=>
   replace q:=b▸q;obtain rfl:=an q;induction A using V.casesOn with
   |tup x=>
    replace z:bindAll Q T0 x=Y Ud:=z;refine ak (Bw b T7) λT8 f2=>?_;have TY:=mu z;have o:cU (.Tuple C T5 Z) T7 N=(bT Z>>=λI=>bO [N] (n4 N x.length G)>>=λe=>iq ((c0 C T7).map (·.2)) e):=by rw[By];unfold unpack;exact U T8 (U f2 (U TY rfl))
    refine TV (U o (ab (dQ (ab (ck (b3 (w1 X d (z:=⟨λH UA=>aq H UA (.tup x) N,λR y P=>aq.post R P _ y⟩) T (wN (h:=λg n=>g=x/\n=L) (λI I f=>f.2) ⟨rfl,rfl⟩)) (λe Uu Uh=>nd Uh λg Uo T2 T4 Ub k=>?_)))))));clear Uh;obtain ⟨T9,Ul⟩:=T4;clear o TY T;subst T9 Ul;refine KC i Uw (d.run k) (TZ.dD (dg.of k.post)) b z Ub λW T6 Uv Ur=>Ut T2 W T6 Uv (.trans (ci.of k.post) Ur)
   |_=>exact ag z
 |_=>exact ag q
end
section
variable{H:e9}{t:cf}{s:aY}{R:eX->ai->Prop}{l:ai}
theorem BY{F m iter:ah}{o:List ah}{e:List fe}{D:cn}{z:aN}{C:Nat}{h f:J}{k:aF}(b:e[C]? =Y ⟨m,iter,o,0⟩)
  (d:cu (aA H t) s (.compLoop (.ListComp F e D z) C h f k) R l)
  (j:ao (aA H t) s (i9 h) (λK W=>cu (aA H t) s (.compLoop (.ListComp F e D z) C K f k) R W) c3 l):
  cu (aA H t) s (.compStart (.ListComp F e D z) C h f k) R l:=by
 refine sY ?_;show ao _ _ ((compStart (.ListComp F e D z) C h f k).onRaise (λy=>do n5 y k;bT theWindowsPlace)) _ _ l
 refine wpAny_notedAt (jZ ?_);unfold compStart;have g:(clausesOf (.ListComp F e D z))[C]? =Y ⟨m,iter,o,0⟩:=b;rw[g];refine ab (zW (wpAny_ite ?_));split
 ·first
   |exact ab (aH (aH (w2 rfl d)))
   |exact aH (w2 rfl d)
 ·first
   |exact ab (hG (ab (dQ (ab (b3 j (λK W q=>aH (w2 rfl q)))))))|(refine ab (hG ?_);show ao _ _ (bT iter.pos>>=_) _ _ l;exact ab (dQ (ab (b3 j (λK W q=>aH (w2 rfl q))))))
end
section
variable{B:aa}{H:ax}{s:aY}{l:ai}{T:Nat}{n:J->ai->Prop}
theorem BZ{X:Src}{h:J}{a:J->ai->Prop}(R:cP B T H l.heap X h)(j:a h l):ao (aA B.prog B.w) s (i9 h) a n l:=by
 induction X using Src.casesOn with
 |zip A C v m=>obtain ⟨i,TI,b,I,Q,rfl,Z,_⟩:=R;exact Bs Z.bS j
 |enum f v=>obtain ⟨o,c,y,rfl,g,_⟩:=R;exact Jy g j
 |lst A C f=>obtain ⟨v,rfl,⟨p,S,N⟩,_⟩:=R;exact wpAny_pyIter_listiter N j
 |tup x=>obtain ⟨v,rfl,⟨d,e,k,_,N,_⟩,_⟩:=R;exact wpAny_pyIter_tupleiter N j
 |cg f k=>obtain ⟨v,rfl,⟨left,N,_⟩,_⟩:=R;exact wpAny_pyIter_rangeiter N j
end
section
variable{B:aa}{S:Nat}{T7:aF}{s:aY}{T2:List aF}{TW H p:ax}{TU:O}{TS l T0:ai}{Q Ud:al}{L n:O}{D:af}{Ui:List V}{T3:Nat}{Ua:Src}{T1:J}
def od(B:aa)(T7:aF)(TW:ax)(TS:ai)(T3:Nat)(D:af)(H:ax)(j:av)(Φ:al×List V->O->Prop)(T:eX)(T0:ai):Prop:=match T with
 |.ok _=>∃Ud a n p,Φ (Ud,a) n/\c1 B T7 TW TS Ud p n T0 D a/\ci T3 H p j T0.heap|.error _=>False
theorem od.le{j q:av}{T:eX}{h:al×List V->O->Prop}(C:od B T7 TW TS T3 D p q h T T0)(A:ci T3 H p j q):od B T7 TW TS T3 D H j h T T0:=by
 induction T using mx with|error=>exact C|ok _=>refine jy C λUd a n p v m w=>?_;clear C;exact c9 Ud a n ⟨p,v,m,A.trans w⟩
def jd(B:aa)(S:Nat)(T7:aF)(o:ah)(W:Nat)(Q:al)(L:O)(Ua:Src)(Ui:List V)(Φ:al×List V->O->Prop):Prop:=
 ∀(s:aY) (T2:List aF) (TW:ax) (TU:O) (TS:ai) (H:ax) (l:ai) (T1:J) (D:af) (T3:Nat),oc B S s T2 TW TU TS->TS.heap.objs.size<=T3->T3<=l.heap.objs.size->
  c1 B T7 TW TS Q H L l D Ui->cP B T3 H l.heap Ua T1->cu (aA B.prog B.w) s (.compLoop o W T1 (.ref D) T7) (od B T7 TW TS T3 D H l.heap Φ) l
theorem KE{y:V}{N:J}{a:J->ai->Prop}(x:c1 B T7 TW TS Q H L l D Ui)(t:cP B T3 H l.heap Ua T1)(Z:aq H l.heap y N)(u:Ui.length<1000)
  (T:∀T0,c1 B T7 TW TS Q H L T0 D (Ui++ [y])->cP B T3 H T0.heap Ua T1->ci T3 H H l.heap T0.heap->a .none T0):ao (aA B.prog B.w) s (bV (.builtin "list.append") [.ref D,N]) a c3 l:=by
 refine dZ x.ls λe C b p=>?_;have I:e.size=Ui.length:=by have:=p.length;exact this
 refine p4 AV (aC _ b rfl) Iu (Iv _ _) (Iw D e C N (by refine U I ?_;refine U cT ?_;lia)) ⟨b,?_⟩
 have R:cL D l.heap (l.heap.update D (eV λi=>i.push N)):=i6 ..;refine T _ (x.push (tk:=l.toks) R (AY (n:=C) b (λi=>i.push N)) ?_) (t.but R x.s8 x.lst) (ci.but R x.s8 x.lst);exact U A0 (p.append (.cons Z .nil))
theorem KG{o:ah}{k:aF}(j:isSet o=E)(y:J):BW o k y=pure y:=by induction o using bE <;>first|rfl|exact cS j
def qo(W:Nat)(a:a4)(e:List fe)(C:Nat)(n:Option (cm×aK)):Prop:=
 (n=G/\e[C+1]? =G)\/∃i K v,n=Y (v,ft (az W a) K)/\e[C+1]? =Y ⟨i,K,[],0⟩/\eT a i=Y v/\e[C+2]? =G/\isSet K=E
theorem KH{o:ah}{C:Nat}{y:V}{N:J}{j:av}{q:ax}{h:al×List V->O->Prop}(X:oc B S s T2 TW TU TS)(d:TS.heap.objs.size<=T3)(c:T3<=l.heap.objs.size)(A:ci T3 q H j l.heap)
  (x:c1 B T7 TW TS Q H L l D Ui)(R:cP B T3 H l.heap Ua T1)(m:aq H l.heap y N)
  (F:(match Nat.blt Ui.length 1000 with|true=>Res.ok (Q,Ui++ [y]) L|false=>.no).to (λZ L=>jd B S T7 o C Z.1 L Ua Z.2 h) eY):
  ao (aA B.prog B.w) s (bV (.builtin "list.append") [.ref D,N]) (λI r=>cu (aA B.prog B.w) s (.compLoop o C T1 (.ref D) T7) (od B T7 TW TS T3 D q j h) r) c3 l:=by
 generalize u:Nat.blt Ui.length 1000=b at F;induction b using ap with|false=>exact F.elim|true=>exact KE x R m (fb.mp u) λg a f e=>hW (F s T2 TW TU TS H g T1 D T3 X d (Nat.le_trans c e.z) a f) λT T0 K=>K.le (A.trans e)
theorem B0{R:Rec}{F:a4}(K:ROk B S R)(T8:a8 F T7){W C:Nat}{a:ah}{g:List fe}{N:cn}{P:aN}{T:Option (cm×aK)}{h:al×List V->O->Prop}{j:av}{TV:ax}{Uj:al×List V->O->Res (al×List V)}
  (Ug:∀{W:Nat} {Uk:ah} {Q:al} {L:O} {h:Src->O->Prop},(R.i (ft (az W F) Uk) Q L).to h eY->∀TX,jX B S TX T7 Q L Uk h eY)
  (Uc:qo W F g C T)
  (Uh:∀Z L,(Uj Z L).to h eY->jd B S T7 (.ListComp a g N P) C Z.1 L Ua Z.2 h)
  (UM:∀k o v,g[C+1]? =Y ⟨k,o,[],0⟩->eT F k=Y v->g[C+2]? =G->∀Q L Ua Ui h,(R.c (az W F a) v [] G Q Ua Ui L).to h eY->jd B S T7 (.ListComp a g N P) (C+1) Q L Ua Ui h)
  (X:oc B S s T2 TW TU TS)(T5:TS.heap.objs.size<=T3)(x:c1 B T7 TW TS Q H L l D Ui)(TZ:cP B T3 H l.heap Ua T1)(Up:T3<=l.heap.objs.size)(A:ci T3 TV H j l.heap)
  (r:((pN R (az W F a) T Q Ui L).bind Uj).to h eY):
  ql (aA B.prog B.w) s a g N P C T1 (.ref D) T7 (od B T7 TW TS T3 D TV j h) l:=by
 rw[Res.bc] at r;replace r:(pN R (az W F a) T Q Ui L).to (λZ L=>jd B S T7 (.ListComp a g N P) C Z.1 L Ua Z.2 h) eY:=Res.hO r Uh;clear Uh;unfold ql;rcases Uc with⟨rfl,u⟩|⟨k,o,v,rfl,u,Uu,Uv,Ub⟩
 ·refine U u ?_;have r:((R.e (az W F a) Q L).bind λy L=>match Nat.blt Ui.length 1000 with
   |true=>Res.ok (Q,Ui++ [y]) L|false=>.no).to (λZ L=>jd B S T7 (.ListComp a g N P) C Z.1 L Ua Z.2 h) eY:=r
  rw[Res.bc] at r;exact b3 (w1 X x (z:=Inv.none) trivial (ae.weak (K.e T8 r) and_left)) (λUr Uf m=>(by refine nd m λy Un Uz Um Uq f=>?_;clear m;exact KH X T5 (Nat.le_trans Up f.post.size) (A.trans (ci.of f.post)) (x.run f) (TZ.dD (dg.of f.post)) Uq Um))
 ·refine U u ?_;replace r:((R.i (ft (az W F) o) Q L).bind λl L=>R.c (az W F a) v [] G Q l Ui L).to (λZ L=>jd B S T7 (.ListComp a g N P) C Z.1 L Ua Z.2 h) eY:=r;rw[Res.bc] at r;have T6:=Ug r l.heap.objs.size;have t:=ae.pair (C:=n3 l.heap.objs.size) (A:=λy=>i9 y) (ae.q T6 (λUl Un UE y=>ak UE λUQ Um=>sR (D:=eY) (λH j UJ=>⟨UJ.2,UJ.1.2⟩) UQ Um)) s T2 H l X.dS (X.f7.post X.rep x.dB.post) x.dB.post.rep ⟨x.loc,Nat.le_refl _⟩ (x.dB.same.1.trans X.gens);refine bQ t (λy Uf t=>bQ t.2 (λUs Ue m=>?_) λI I y=>w0 (λI I I j=>j) y) λI I y=>w0 (λI I I j=>j) y;obtain ⟨Ul,Ut,Uw,TR,T9,TY⟩:=m;have run:=UM k o v u Uu Uv Q Ut Ul Ui _ TR s T2 TW TU TS Uw Ue Us D l.heap.objs.size X x.dB.post.size TY.post.size (x.run TY) T9;have UF:=ci.of (N:=l.heap.objs.size) TY.post;clear r T6 t TR UM;refine(λA=>BY u A (BZ T9 A)) (hW run λUK T4 b=>?_);induction UK using mx with|error=>exact b|ok _=>refine jy b λUd UV n p Uo Ux d=>?_;clear b;have Uy:=A.trans ((UF.trans d).le Up);exact hW (Uo s T2 TW TU TS p T4 T1 D T3 X T5 (Nat.le_trans Up (UF.trans d).z) Ux (TZ.dD ((UF.trans d).dD (Nat.le_refl _)))) λUK T0 b=>b.le Uy
theorem KI{R:Rec}{a:a4}(K:ROk B S R)(g:a8 a T7)(Uw:∀T8,aL T8 a≠Y .cell){W C:Nat}{b Ux iter:ah}{e:List ah}{f:List fe}{y:cn}{P:aN}{r:cm}{N:Option (cm×aK)}{h:al×List V->O->Prop}
  (T5:∀{W:Nat} {o:ah} {Q:al} {L:O} {h:Src->O->Prop},(R.i (ft (az W a) o) Q L).to h eY->∀TX,jX B S TX T7 Q L o h eY)
  (Ur:f[C]? =Y ⟨Ux,iter,e,0⟩)(Uj:eT a Ux=Y r)(Ud:qo W a f C N)
  (UI:∀Q L Ua Ui,(R.c (az W a b) r (e.map (az W a)) N Q Ua Ui L).to h eY->jd B S T7 (.ListComp b f y P) C Q L Ua Ui h)
  (UM:∀m Uk Uo,f[C+1]? =Y ⟨m,Uk,[],0⟩->eT a m=Y Uo->f[C+2]? =G->∀Q L Ua Ui h,(R.c (az W a b) Uo [] G Q Ua Ui L).to h eY->jd B S T7 (.ListComp b f y P) (C+1) Q L Ua Ui h)
  (j:(vP R (az W a b) r (e.map (az W a)) N Q Ua Ui L).to h eY):jd B S T7 (.ListComp b f y P) C Q L Ua Ui h:=λs T2 TW TU TS H l T1 D T3 X n Up x TZ=>by
 have TY:s.handled=none:=X.dS.handled;have cv:aR B H (trunc l.heap T3) H L l.heap:=aR.ba x.dB.post.rep Up;have Us:(trunc l.heap T3).objs.size=T3:=wU Up;have Uv:cP B (trunc l.heap T3).objs.size H l.heap Ua T1:=by refine U Us ?_;exact TZ
 refine KA Ur ?_ ?_
 ·rcases Ud with⟨_,u⟩|⟨m,Uk,Uo,_,u,_,_,Ul⟩
  ·exact .inl u
  ·exact .inr (gC m Uk ([]) u (KG Ul))
 unfold vP at j;generalize Uz:(nextM L Ua)=p at j;induction p using aB with|none=>exact j.elim|some UA=>
  induction UA using aB with|none=>refine Bp TY cv Uv Uz λT6 A F w=>?_;rw[Us] at w;exact c9 Q Ui L ⟨H,j,x.BX F.rep w n,.moved w⟩|some u=>
   obtain ⟨UK,T⟩:=u;dsimp only at j;generalize T4:(walk Q T r UK)=p at j;induction p using aB with|none=>exact j.elim|some v=>
    dsimp only at j;refine ak (BI Uj T4) λUG UB=>Bo cv Uv Uz λUm T6 A F w Uf UH=>Bu (l:={l with heap:=T6,toks:=A}) F UH UB λUe UN UF UE=>?_
    have I:=w.trans UF;rw[Us] at I UE;have UD:c1 B T7 TW TS Q H L {l with heap:=Ue,toks:=A} D Ui:=x.BX UN.rep I n
    refine KD g Uw X UD UE Uj UG (aq.ba (λUu Uu Uu o=>o) UF.tt _ Uf) λUL UP k UJ Uq=>?_;have UO:=(ci.moved I).trans Uq;have UQ:T3<=UP.heap.objs.size:=Nat.le_trans (Nat.le_trans Up I.z) Uq.z;clear Uv cv UH Uf TZ UF w F UN UE UD x I Uz T4 UG UB;rcases e with _|⟨d,_|⟨T9,Ub⟩⟩
    ·exact wpAny_tests_nil (by refine U (if_pos rfl) ?_;exact B0 K g T5 Ud (λZ L=>UI Z.1 L T Z.2) UM X n k UJ UQ UO j)
    ·have j:((R.t (az W a d) v L).bind λUc L=>match Uc with
      |true=>(pN R (az W a b) N v Ui L).bind λZ L=>R.c (az W a b) r ([d].map (az W a)) N Z.1 T Z.2 L|false=>R.c (az W a b) r ([d].map (az W a)) N v T Ui L).to h eY:=j
     rw[Res.bc] at j;refine wpAny_tests_one (b3 (w1 X k (z:=Inv.none) trivial (ae.weak (K.t g j) and_left)) (λUc Un Uh=>nd Uh λTV UC Uy TR Ut q=>?_));clear Uh;replace Ut:TV=Uc:=Ut;subst Ut;have UR:=UO.trans (ci.of q.post);have US:=Nat.le_trans UQ q.post.size;induction TV using ap with|true=>exact U (if_pos rfl) (B0 K g T5 Ud (λZ L=>UI Z.1 L T Z.2) UM X n (k.run q) (UJ.dD (dg.of q.post)) US UR TR)|false=>exact U (if_neg (by decide)) (hW (UI v UC T Ui TR s T2 TW TU TS Uy Un T1 D T3 X n US (k.run q) (UJ.dD (dg.of q.post))) λUb T0 Ug=>Ug.le UR)
    ·exact j.elim
end
theorem KJ{k:aF}:∀(B:List (am×db)) (f:List (am×af)),(∀y∈B,y.2=.free->∃v,k.cells.lookup y.1=Y v)->(∀Z∈f,k.cells.lookup Z.1=Y Z.2)->
  ∃h,forIn (m:=aZ) B f (λ(y:am×db) cs=>if y.2==.free then do let v<-w3 k y.1;pure (.yield ((y.1,v)::cs)) else pure (.yield cs))=pure h/\(∀Z∈h,k.cells.lookup Z.1=Y Z.2)/\(∀Z∈f,Z∈h)/\∀y∈B,y.2=.free->∃v,(y.1,v)∈h:=by
 intro s;induction s with|nil=>intro f I p;exact fp f (U wB rfl) p (λI j=>j) (λI j=>by cases j)|cons r T F=>
  obtain ⟨C,A⟩:=r;intro f b p;have H:∀y∈T,y.2=.free->∃v,k.cells.lookup y.1=Y v:=λy q=>b y (.tail _ q);by_cases u:A=.free
  ·refine aD (b (C,A) (.head _) u) λv w=>fV (F ((C,v)::f) H (λZ S=>by
    rcases aW.mp S with rfl|S
    ·exact w
    ·exact p Z S)) λh o L D e=>?_
   refine fp h ?_ L (λZ S=>D Z (.tail _ S)) (λy q t=>?_)
   ·rw[mm];have:(A==NameKind.free)=true:=by refine U u ?_;rfl
    simp only[this,if_true];have a:w3 k C=pure v:=by unfold w3;exact U w rfl
    refine U a ?_;rw[pure_bind,pure_bind];exact o
   ·rcases aW.mp q with rfl|q
    ·exact⟨v,D _ (.head _)⟩
    ·exact e y q t
  ·refine fV (F f H p) λh o L D e=>fp h ?_ L D (λy q t=>?_)
   ·rw[mm];have:(A==NameKind.free)=false:=by simpa using u
    simp only[this,ms,if_false];rw[pure_bind];exact o
   ·rcases aW.mp q with rfl|q
    ·exact absurd t u
    ·exact e y q t
theorem s9{e:Type}{y:am}{v:e}:∀{g:List (am×e)},(y,v)∈g->∃m,g.lookup y=Y m:=by
 intro s;induction s with|nil=>intro j;cases j|cons r T F=>
  obtain ⟨X,m⟩:=r;intro j;refine U ia ?_;generalize u:(y==X)=K;induction K using ap with|true=>exact⟨m,rfl⟩|false=>
   rcases aW.mp j with o|j
   ·cases o;simp at u
   ·exact F j
theorem KL{D:cn}{k:aF}(j:∀y∈D.names,y.2=.free->∃v,k.cells.lookup y.1=Y v):
  ∃h,closureFor D k=pure h/\(∀Z∈h,k.cells.lookup Z.1=Y Z.2)/\∀y,(y,NameKind.free)∈D.names->h.lookup y=k.cells.lookup y:=by
 refine fV (KJ D.names [] j (λI j=>by cases j)) λh o L I e=>cW h ?_ L (λy q=>?_)
 ·have:(forIn (m:=aZ) D.names ([]:List (am×af)) λ(y:am×db) r=>match y with
    |(Q,a)=>if(a==NameKind.free)=M then do let v<-w3 k Q;pure (.yield ((Q,v)::r)) else pure (.yield r))=pure h:=o
  refine Eq.trans (congrArg (λz=>z>>=λb=>pure b) this) ?_;rw[pure_bind]
 ·exact aD (e _ q rfl) λv w=>aD (s9 w) λm T=>U T (U (L _ (mem_of_lookup T)) rfl)
theorem ta{y:am}{A:db}{T:List (am×db)}(j:plainNames ((y,A)::T)=M):∃f,bt y=Y f/\f≠enc [95,95,100,101,98,117,103,95,95]/\f≠enc [95,95,99,108,97,115,115,100,105,99,116,95,95]/\plainNames T=true:=by
 unfold plainNames at j;generalize n:(bt y)=K at j;induction K using aB with|none=>exact aG j|some f=>
  dsimp only at j;split at j
  ·rename_i b p;exact fp f rfl (Nat.ne_of_beq_eq_false b) (Nat.ne_of_beq_eq_false p) j
  ·exact aG j
theorem qp :∀{B:List (am×db)},plainNames B=M->∀{y:am} {f:Nat},bt y=Y f->aL f (bx B)=B.lookup y:=by
 intro s;induction s with|nil=>intro I I I I;exact rfl|cons r T F=>
  obtain ⟨X,A⟩:=r;intro j y f b;refine fV (ta j) λk c I I C=>?_;have o:bx ((X,A)::T)=(k,A)::bx T:=by
   show(match bt X with|some f=>(f,A)::bx T|none=>bx T)=_
   exact U c rfl
  refine U o (U ia ?_);show(match Nat.beq k f with|true=>Y A|false=>aL f (bx T))=_
  rw[bl.cH];by_cases u:k=f
  ·subst u;have:=ni b c;clear o c j;subst this;simp
  ·have:(y==X)=false:=by rw[beq_eq_false_iff_ne];rintro rfl;rw[b] at c;obtain rfl:=an c;exact u rfl
   simp only[u,this,decide_false];exact F C b
theorem tb :∀{B:List (am×db)},plainNames B=M->∀{y:am} {A:db},(y,A)∈B->∃f,bt y=Y f/\(f,A)∈bx B:=by
 intro s;induction s with|nil=>intro I I I j;cases j|cons r T F=>
  obtain ⟨X,w⟩:=r;intro j y A h;refine fV (ta j) λk c I I C=>?_;have o:bx ((X,w)::T)=(k,w)::bx T:=by
   show(match bt X with|some f=>(f,w)::bx T|none=>bx T)=_
   exact U c rfl
  refine U o ?_;rcases aW.mp h with u|h
  ·cases u;exact aC k c (.head _)
  ·exact au (F C h) λf b p=>aC f b (.tail _ p)
theorem w4 :∀{B:List (am×db)},plainNames B=M->∀{y:am} {A:db},B.lookup y=Y A->(y==("__debug__":am))=E/\(y==("__classdict__":am))=false:=by
 intro s;induction s with|nil=>intro I I I o;exact ag o|cons r T F=>
  obtain ⟨X,w⟩:=r;intro j y A o;refine fV (ta j) λk c N H C=>?_;rw[ia] at o;generalize u:(y==X)=K;induction K using ap with
  |true=>
   have:=eq_of_beq u;refine U this ?_;constructor
   ·rw[beq_eq_false_iff_ne];rintro rfl;have:bt (dt "__debug__")=Y (enc [95,95,100,101,98,117,103,95,95]):=by decide+kernel
    have a:bt (dt "__debug__")=Y k:=c;rw[this] at a;obtain rfl:=an a;exact N rfl
   ·rw[beq_eq_false_iff_ne];rintro rfl;have:bt (dt "__classdict__")=Y (enc [95,95,99,108,97,115,115,100,105,99,116,95,95]):=by decide+kernel
    have a:bt (dt "__classdict__")=Y k:=c;rw[this] at a;obtain rfl:=an a;exact H rfl
  |false=>rw[u] at o;exact F C o
def B1(a b:a4)(f:Nat):db->Prop
 |.local=>aL f b=Y .local|.free=>aL f a=Y .cell|.cell=>False|_=>True
theorem KN{a b:a4}{k:Nat}{c:db}{T:a4}(j:kU a b ((k,c)::T)=M):kU a b T=M/\B1 a b k c:=by
 unfold kU at j;induction c using eU with
 |«local»=>
  dsimp only at j;generalize u:(aL k b)=K at j;induction K using aB with|none=>exact aG j|some A=>induction A using eU <;>first|exact⟨j,u⟩|exact aG j
 |free=>
  dsimp only at j;generalize u:(aL k a)=K at j;induction K using aB with|none=>exact aG j|some A=>induction A using eU <;>first|exact⟨j,u⟩|exact aG j
 |cell=>exact aG j|globalImplicit=>exact⟨j,trivial⟩|globalExplicit=>exact⟨j,trivial⟩
theorem w5{a b:a4}:∀{g:a4},kU a b g=M->∀{f:Nat} {A:db},(f,A)∈g->B1 a b f A:=by
 intro s;induction s with|nil=>intro I I I j;cases j|cons r T F=>
  obtain ⟨k,c⟩:=r;intro j f A h;refine ak (KN j) λL y=>?_;rcases aW.mp h with u|h
  ·cases u;exact y
  ·exact F L h
theorem B2{e:Type}{f:Nat}{A:e}:∀{g:List (Nat×e)},aL f g=Y A->(f,A)∈g:=by
 intro s;induction s with|nil=>intro o;exact ag o|cons r T F=>
  obtain ⟨k,m⟩:=r;intro o;replace o:(match Nat.beq k f with|true=>Y m|false=>aL f T)=Y A:=o
  rw[bl.cH] at o;by_cases u:k=f
  ·subst u;simp at o;subst o;exact .head _
  ·simp only[u,decide_false] at o;exact .tail _ (F o)
theorem KO{f:Nat}:∀{g:a4},(f,NameKind.local)∈g->f∈ownOf g:=by
 intro s;induction s with|nil=>intro j;cases j|cons r T F=>
  obtain ⟨k,A⟩:=r;intro j;rcases aW.mp j with u|j
  ·cases u;exact .head _
  ·have:=F j;induction A using eU <;>first|exact this|exact .tail _ this
theorem B3{own:List Nat}{f:Nat}{e:V}:∀{Q:al},aL f (jJ Q own)=Y e->aL f Q=Y e/\f∉own
 | [],o=>ag o|(k,m)::T,o=>by
  have F:=@B3 own f e T;unfold jJ at o F;rw[List.filter_cons] at o;by_cases u:cK (own.any λy=>Nat.beq y k)=M
  ·rw[if_pos u] at o;replace o:(match Nat.beq k f with|true=>Y m|false=>aL f (T.filter λZ=>cK (own.any λy=>Nat.beq y Z.1)))=Y e:=o
   show(match Nat.beq k f with|true=>Y m|false=>aL f T)=_/\_
   rw[bl.cH] at o⊢;by_cases i:k=f
   ·subst i;simp only[decide_true] at o⊢;refine⟨o,λh=>?_⟩;rw[nv,Bool.not_eq_true',H8] at u;have:=u k h;simp at this
   ·simp only[i,decide_false] at o⊢;exact F o
  ·replace o:=(if_neg u)▸o;refine ak (F o) λb p=>⟨?_,p⟩;show(match Nat.beq k f with|true=>Y m|false=>aL f T)=_
   rw[bl.cH];by_cases i:k=f
   ·subst i;exfalso;rw[nv,Kf,Bool.not_eq_false',List.any_eq_true] at u;refine au u λy q u=>?_;have:=Nat.eq_of_beq_eq_true u;subst this;exact p q
   ·simp only[i,decide_false];exact b
structure qq(ks:a4)(scope:cn):Prop where
 kind:scope.kind=.function
 plain:plainNames scope.names=M
 loc:∀x,(x,NameKind.local)∈scope.names->scope.names.lookup x=Y .local
 free:∀x,(x,NameKind.free)∈scope.names->∃i,bt x=Y i/\aL i ks=Y .cell
 cell:∀x,(x,qr)∉scope.names
theorem KP{a:a4}{D:cn}(j:jP a D=M):qq a D:=by
 unfold jP at j;generalize b:(isFun D.kind)=K;induction K using ap with|false=>rw[b] at j;exact aG j|true=>
  generalize p:(plainNames D.names)=K;induction K using ap with|false=>rw[b,p] at j;exact aG j|true=>
   rw[b,p] at j;refine⟨?_,p,λy q=>?_,λy q=>?_,λy q=>?_⟩
   ·cases m:D.kind <;>rw[m] at b <;>first|rfl|exact aG b
   ·exact au (tb p q) λf n h=>U (qp p n).symm (w5 j h)
   ·exact au (tb p q) λf n h=>aC f n (w5 j h)
   ·exact au (tb p q) λf n h=>w5 j h
theorem B4{k:aF}{y:am}:∀{B:List (am×db)},(B.map λ(C,A)=>if(A==NameKind.free&&k.scope.kind==.function&&k.kindOf C==Y .cell) then(C,qr) else(C,A)).lookup y=
  (B.lookup y).map λA=>if(A==NameKind.free&&k.scope.kind==.function&&k.kindOf y==Y .cell) then .cell else A
 | []=>rfl|(C,A)::T=>by
  have F:=@B4 k y T;have cons:∀{w:db} {g:List (am×db)},qs y ((C,w)::g)=if y==C then Y w else qs y g:=λ{w g}=>by refine U ia ?_;generalize (y==C)=K;induction K using ap <;>rfl
  refine U cp (U cons ?_);show qs y ((if(A==NameKind.free&&k.scope.kind==.function&&k.kindOf C==Y .cell)=M then(C,qr) else(C,A))::_)=_
  by_cases u:(A==NameKind.free&&k.scope.kind==.function&&k.kindOf C==Y .cell)=M
  ·refine U (if_pos u) (U cons ?_);generalize q:(y==C)=K;induction K using ap with
   |true=>have:=eq_of_beq q;clear q cons;subst this;show _=Y (if _ then _ else _);refine U (if_pos u) ?_;rfl
   |false=>exact F
  ·refine U (if_neg u) (U cons ?_);generalize q:(y==C)=K;induction K using ap with
   |true=>have:=eq_of_beq q;clear q cons;subst this;show _=Y (if _ then _ else _);refine U (if_neg u) ?_;rfl
   |false=>exact F
theorem w6{D:cn}{k:aF}{h:List (am×af)}{x:af}{y:am}:(qt D h x k).kindOf y=(D.names.lookup y).map λA=>if(A==NameKind.free&&k.scope.kind==.function&&k.kindOf y==Y .cell) then .cell else A:=B4
theorem KQ{a:a4}{D:cn}(L:qq a D):∀f,aL f (bx D.names)≠Y .cell:=λf o=>by
 have h:=B2 o;have:∀{B:List (am×db)},(f,qr)∈bx B->∃y,(y,qr)∈B:=by
  intro B;induction B with|nil=>intro j;cases j|cons Z T F=>
   intro j;obtain ⟨X,A⟩:=Z;unfold bx at j;split at j
   ·rcases aW.mp j with u|j
    ·cases u;exact⟨X,.head _⟩
    ·exact aD (F j) λy q=>⟨y,.tail _ q⟩
   ·exact aD (F j) λy q=>⟨y,.tail _ q⟩
 exact aD (this h) λy q=>L.cell y q
theorem KR{a:a4}{D:cn}(L:qq a D){k:aF}{h:List (am×af)}{x:af}:a8 (bx D.names) (qt D h x k):=λy f A b m=>by
 replace m:=(qp L.plain b)▸m;have o:=@w6 D k h x y;rw[m] at o;replace o:(qt D h x k).kindOf y=Y (if(A==NameKind.free&&k.scope.kind==.function&&k.kindOf y==Y .cell) then .cell else A):=o
 induction A using eU with|«local»=>exact o|cell=>exact absurd (mem_of_lookup m) (L.cell y)|free=>show l2 _;refine U o ?_;unfold l2;split <;>trivial|globalImplicit=>exact o|globalExplicit=>trivial
section
variable{B:aa}{H:ax}{j q:av}{L:O}{k:aF}{Q:al}{a:a4}{D:cn}
theorem KS(g:a8 a k)(L:qq a D):∀y∈D.names,y.2=.free->∃v,k.cells.lookup y.1=Y v:=λ(y,A) q m=>by replace m:A=.free:=m;subst m;refine au (L.free y q) λf b u=>?_;have:=g y f .cell b u;exact lZ.mp this.2
theorem KU(TY:a8 a k)(l:qq a D)(P:Rep B H L j)(c:bp B k Q H j)(W:∀v r,j.get? v=Y r->q.get? v=Y r){A:List (am×af)}{x:af}(UN:∀Z∈A,k.cells.lookup Z.1=Y Z.2)(UO:∀y,(y,NameKind.free)∈D.names->A.lookup y=k.cells.lookup y)
  (C:j.objs.size<=x){z:am->Option J}(d:q.Ns x z):bp B (qt D A x k) (jJ Q (ownOf (bx D.names))) H q:=by
 have Uv:∀v e,aO H j v e->aO H q v e:=iG W;have TS:B.base.get? x=none:=P.nb C;refine⟨l.kind,c.gl,c.fG,λy Uw o=>?_,aC z d (λy f T5 n X F=>?_),⟨P.gQ C,TS⟩,λZ S=>?_⟩
 ·rw[w6] at o;generalize u:(D.names.lookup y)=K;induction K using aB with|none=>rw[u] at o;exact ag o|some w=>exact w4 l.plain u
 ·refine hd λUD Uy=>ak (B3 X) λT8 p=>?_;have R:=@w6 D k A x y;generalize u:(D.names.lookup y)=K;induction K using aB with
  |none=>rw[u] at R;rw[R] at F;rcases F with F|F|F <;>exact ag F
  |some w=>
   rw[u] at R;replace R:(qt D A x k).kindOf y=Y (if(w==NameKind.free&&k.scope.kind==.function&&k.kindOf y==Y .cell) then .cell else w):=R
   have g:=mem_of_lookup u;induction w using eU with
   |«local»=>have:=qp l.plain n;rw[u] at this;exact absurd (KO (B2 this)) p|cell=>exact absurd g (l.cell y)|free=>
    refine au (l.free y g) λb h TR=>?_;have TW:b=f:=by rw[n] at h;exact(an h).symm
    clear p X;subst TW;refine ak (TY y b .cell n TR) λm Us=>au c.ns λT2 TV TX=>au (TX y b T5 n T8 (.inr (.inl m))) λN T t=>Uy (aC N (aq.ba (λI I I o=>o) Uv _ T) (.inr ⟨?_,?_⟩))
    ·refine U R ?_;split <;>simp
    ·rcases t with⟨t,_⟩|⟨_,v,TU,r,UB,hd⟩
     ·replace t:=m▸t;cases t
     ·refine aC v ?_ ⟨r,W _ _ UB,hd⟩;show A.lookup y=Y v;exact U (UO y g) TU
   |globalImplicit=>rw[R] at F;rcases F with F|F|F <;>cases F
   |globalExplicit=>rw[R] at F;rcases F with F|F|F <;>cases F
 ·have T1:=mem_of_lookup (UN Z S);refine kz (c.cell (Z.1,Z.2) T1) λs Vc Uk N r F hd=>bP s Vc (λi=>?_) ⟨N,r,W _ _ F,hd⟩;have:=bJ F;replace i:Z.2=x:=i;rw[i] at this;exact absurd (Nat.lt_of_lt_of_le this C) (Nat.lt_irrefl _)
end
structure ej(c:aa)(f:Nat)(R:Rec):Prop extends ROk c f R where
 i:∀{d ks e env lm σ Φ Ψ},a8 ks env->(R.i (ft (az d ks) e) lm σ).to Φ Ψ->∀n0,jX c f n0 env lm σ e Φ Ψ
 qu:∀{d:Nat} {ks:a4} {mA:aF} {n:Nat} {elt target iter:ah} {ifs:List ah} {gens:List fe} {scope:cn} {pos:aN} {tg:cm} {qv:Option (cm×aK)} {lm:al} {src:Src} {acc:List V} {σ:O} {Φ:al×List V->O->Prop},
  a8 ks mA->(∀i,aL i ks≠Y .cell)->gens[n]? =Y ⟨target,iter,ifs,0⟩->eT ks target=Y tg->qo d ks gens n qv->(R.c (az d ks elt) tg (ifs.map (az d ks)) qv lm src acc σ).to Φ eY->
  jd c f mA (.ListComp elt gens scope pos) n lm σ src acc Φ
 lit:∀v lm σ,R.e (.lit v) lm σ=.ok v σ\/R.e (.lit v) lm σ=.no
 u:∀{d:Nat} {ks:a4} {env:aF} {lm:al} {σ:O} {Ψ:Nat->Nat->O->Prop} {I:bF c env} {elt:ah} {gs:List fe} {scope:cn} {cpos np pos:aN} {x:am} {i:Nat} {Φ:FM->al->O->Prop},a8 ks env->dM ks x=Y i->
  ja (.ListComp elt gs scope cpos) (Y (.Name x np)) pos.line env=pure M->(R.e (az d ks (.ListComp elt gs scope cpos)) lm σ).to (λv σ=>Φ .next (eu i v lm) σ) Ψ->aI c f env I lm σ (b0 (.Assign [.Name x np] (.ListComp elt gs scope cpos) pos) env) bU Φ Ψ
 s:∀{d:Nat} {ks:a4} {env:aF} {lm:al} {σ:O} {Φ:FM->al->O->Prop} {Ψ:Nat->Nat->O->Prop} {st:aP},a8 ks env->(R.s (bY d ks st) lm σ).to Φ Ψ->aI c f env bF.none lm σ (b0 st env) bU Φ Ψ
 ss:∀{d:Nat} {ks:a4} {env:aF} {lm:al} {σ:O} {Φ:FM->al->O->Prop} {Ψ:Nat->Nat->O->Prop} {sts:List aP},a8 ks env->(R.ss (sts.map (bY d ks)) lm σ).to Φ Ψ->aI c f env bF.none lm σ (bb sts env) bU Φ Ψ
 w:∀{d:Nat} {ks:a4} {env:aF} {lm:al} {σ:O} {Φ:FM->al->O->Prop} {Ψ:Nat->Nat->O->Prop} {t:ah} {b:List aP},a8 ks env->(R.w (az d ks t) (b.map (bY d ks)) lm σ).to Φ Ψ->∀σ₀,ir c f env σ₀ t b lm σ Φ Ψ
 tc:∀{d:Nat} {ks:a4} {env:aF} {lm:al} {σ:O} {Φ:FM->al->O->Prop} {Ψ:Nat->Nat->O->Prop} {t:ah} {tg:cm} {b:List aP} {src:Src},a8 ks env->eT ks t=Y tg->(R.f tg (b.map (bY d ks)) src lm σ).to Φ Ψ->∀σ₀,gk c f env σ₀ t b lm σ src Φ Ψ
theorem KV{N:Type}{T:Res N}{h:N->O->Prop}{D:Nat->Nat->O->Prop}(j:(T.nF).to h D):T.to h eY:=by
 induction T with|ask a P K F=>exact ge.mono j F|_=>exact j
section
variable{B:aa}{S:Nat}{k:aF}{e:a4}{R:Rec}{Q:al}{L:O}{h:V->O->Prop}{D:Nat->Nat->O->Prop}{s:aY}{T2:List aF}{H:ax}{l:ai}
theorem B5(K:ej B S R)(TX:a8 e k){T:cn}(UG:jP e T=M)(Uo:Ready s S T2)(F:Frames B H T2 l.heap)(a:Rep B H L l.heap)(TR:bp B k Q H l.heap)(UI:l.gens= #[])
  {W:Nat}{Ur Ux iter:ah}{P:List ah}{UM:List fe}{UA:cm}{UK:Option (cm×aK)}{TZ Z:aN}{C:Option (J->aZ Unit)}{UX T7:J->ai->Prop}
  (Uj:eT (bx T.names) Ux=Y UA)(T3:qo W (bx T.names) (⟨Ux,iter,P,0⟩::UM) 0 UK)(UZ:isSet iter=E)
  (U6:((R.i (ft (az W e) iter) Q L).bind λu L=>(R.c (az W (bx T.names) Ur) UA (P.map (az W (bx T.names))) UK (jJ Q (ownOf (bx T.names))) u [] L).nF.bind λZ L=>L.alloc (.list Z.2)).to h D)
  (Uq:∀o g,dq B D H l o g->T7 o g)
  (Ut:∀y Ui U5 N b g,h y b->Ends B H l N b g->aq N g.heap y Ui->l.heap.objs.size<=U5->¬foot N U5->(∃UL,g.heap.Ns U5 UL)->compPost (aA B.prog B.w) s T7 C UX Ui U5 (.ok .next) g):
  ao (aA B.prog B.w) s (comprehension (.ListComp Ur (⟨Ux,iter,P,0⟩::UM) T TZ) T k Z (rS []) E (aX iter k) C) UX T7 l:=by
 have d:=KP UG;refine bX (KL (KS TX d)) λUw Vb UN UO=>?_;rw[Res.bc] at U6;refine wpAny_comprehension_free (use:=C) rfl (λy=>by clear U6 T3;induction iter using bE <;>first|rfl|exact cS UZ) Vb d.kind (λy TY TW=>?_) ?_
 ·obtain ⟨y,A⟩:=y;replace TW:A=.local:=TW;subst TW;exact d.loc y TY
 have T9:=K.i TX U6 l.heap.objs.size;have U4:=ae.pair (C:=n3 l.heap.objs.size) (A:=λy=>i9 y) (ae.q T9 (λu b UP T4=>ak UP λUQ UC=>sR (D:=D) (λH U6 T6=>⟨T6.2,T6.1.2⟩) UQ UC)) s T2 H l Uo F a ⟨TR,Nat.le_refl _⟩ UI;refine bQ U4 (λy Uu UE=>ak UE λUW T5=>bQ T5 (λT1 m Uh=>?_) λo g y=>Uq o g y) λo g y=>Uq o g y;obtain ⟨u,UR,z,UC,r,f⟩:=Uh;have US:=(loc B k Q).st a TR f.post;have t:l.heap.objs.size<=m.heap.objs.size:=f.post.size;refine ib ?_ (by size_fits)
 refine wpAny_newFunctionEnv (λTU Un Ua=>?_) (λTU Un=>by cases Un) (λp U0 j=>?_) d.kind
 ·obtain ⟨TU,A⟩:=TU;replace Ua:A=.cell:=Ua;subst Ua;exact d.cell TU Un
 dsimp only at U0 j⊢;generalize U9:m.heap.push {cls:=.type "list",dict:=G,data:=.seq ([]:List J).toArray}=x at U0 j⊢;have U7:x.objs.size=m.heap.objs.size+1:=by refine U U9.symm ?_;rw[lb]
 have Va:m.heap.objs.size≠x.objs.size:=by refine U U7 ?_;exact Nat.ne_of_lt (Nat.lt_succ_self _)
 have Vd:l.heap.objs.size<=x.objs.size:=by refine U U7 ?_;exact Nat.le_succ_of_le t
 have Vf:m.heap.objs.size<=x.objs.size:=by refine U U7 ?_;exact Nat.le_succ _
 have Uy:∀v Ug,m.heap.get? v=Y Ug->p.get? v=Y Ug:=λv Ug o=>by
  have T0:=bJ o;refine(j.2 v (Nat.ne_of_lt (by refine U U7 ?_;exact Nat.lt_succ_of_lt T0))).trans ?_
  refine cZ _ ?_;exact U U9.symm (cZ _ o)
 have UY:m.heap.objs.size<=p.objs.size:=by have:=j.1;rw[lb] at this;lia
 have Vg:p.get? m.heap.objs.size=Y {cls:=.type "list",dict:=G,data:=.seq #[] 0,slots:= #[]}:=by refine(j.2 _ Va).trans (cZ _ ?_);exact U U9.symm (ct _ rfl)
 have UH:aR B z m.heap z UR p:=.more f.post.rep Uy UY
 let UU:Shared:={m with heap:=p,toks:=m.toks+([]:List (am×J)).length}
 have UJ:Ends B H l z UR UU:=⟨f.post.trans UH,f.same.trans ⟨rfl,rfl⟩⟩;have X:oc B S s T2 H L l:=⟨Uo,F,a,UI⟩;have Vh:c1 B (qt T Uw x.objs.size k) H l (jJ Q (ownOf (bx T.names))) z UR UU m.heap.objs.size []:=
  ⟨UJ,a.stays,KU TX d f.post.rep US Uy UN UO Vf U0,λZ TV=>by exact kz (TR.cell (Z.1,Z.2) (mem_of_lookup (UN Z TV))) λUc Vc Uk T4 Ug TS hd=>bJ TS,Vd,t,Va,d9 (#[]) 0 Vg rfl,f.post.rep.gQ (Nat.le_refl _)⟩
 have Ve:cP B l.heap.objs.size z UU.heap u T1:=r.dD (dg.of UH);have U8:((R.c (az W (bx T.names) Ur) UA (P.map (az W (bx T.names))) UK (jJ Q (ownOf (bx T.names))) u [] UR).nF.bind λZ L=>L.alloc (.list Z.2)).to h D:=UC;rw[Res.bc] at U8;have Uf:=KV U8;have U1:=K.qu (pos:=TZ) (scope:=T) (KR d (k:=k) (h:=Uw) (x:=x.objs.size)) (KQ d) (gens:=⟨Ux,iter,P,0⟩::UM) (n:=0) rfl Uj T3 Uf s T2 H L l z UU T1 m.heap.objs.size l.heap.objs.size X (Nat.le_refl _) (Nat.le_trans t UY) Vh Ve;refine(λA=>BY (C:=0) rfl A (BZ Ve A)) (hW U1 λUb g r=>?_);induction Ub using mx with|error=>exact r.elim|ok Up=>
  refine jy r λUd UV b N v I UF=>?_;clear r;refine br (nN v) λUe Ul UB=>dZ I.ls λUz U3 Um UD=>?_;have UT:aR B H l.heap (bD N b.bf b.n (m.heap.objs.size,m.heap.objs.size)) (b.set b.bf b.n (Y (.list UV))) g.heap:=
   I.dB.post.adopt Ue Ul a.stays t t I.bu I.bu I.s8 I.s8 λN UI Uv=>⟨rfl,Uz,⟨U3,Um⟩,aE.ba UI Uv _ UD⟩
  have U2:aR B H l.heap (bD N b.bf b.n (m.heap.objs.size,m.heap.objs.size)) {b.set b.bf b.n (Y (.list UV)) with n:=b.n+1} g.heap:=UT.congr λA T6=>by induction A using Nat.casesOn <;>rfl
  have Vi:¬foot (bD N b.bf b.n (m.heap.objs.size,m.heap.objs.size)) x.objs.size:=λ⟨A,U3,Z,o,y⟩=>by
   unfold bD at o;split at o
   ·obtain rfl:=an o;rcases y with y|y <;>exact Va y.symm
   ·exact I.loc.own.1 ⟨A,U3,Z,o,y⟩
  have Us:=Ut _ (.ref m.heap.objs.size) x.objs.size _ _ g UB ⟨U2,I.dB.same⟩ ⟨_,by unfold bD;exact U (if_pos ⟨rfl,rfl⟩) rfl,rfl⟩ Vd Vi (by refine au I.loc.ns λUL T8 UW=>?_;exact⟨UL,T8⟩)
  clear Ut;induction C using aB <;>exact Us
end
section
variable{B:aa}{S:Nat}{T3:cN}{Un:eS}{k:aF}{a:a4}{R:Rec}{Q:al}{L:O}{D:Nat->Nat->O->Prop}
theorem B6{m:Bool}{z:aK}{h:V->O->Prop}(j:(dc T3 Un R (sk m z) Q L).to h D):m=M/\(dc T3 Un R z Q L).to h D:=by
 induction m using ap with|true=>exact⟨rfl,j⟩|false=>exact j.elim
theorem B7{N:Type}{r:Option N}{c:N->aK}{h:V->O->Prop}(j:(dc T3 Un R (sj r c) Q L).to h D):∃v,r=Y v/\(dc T3 Un R (c v) Q L).to h D:=by
 induction r using aB with|none=>exact j.elim|some v=>exact aC v rfl j
theorem B8{y:fe}(j:vX y=M):y.is_async=0/\isSet y.iter=false:=by refine ak (b8 j) λb p=>?_;rw[jC] at b;exact⟨beq_iff_eq.mp b,k6 p⟩
theorem B9{W:Nat}{F:ah}{u:List fe}{N:cn}{z:aN}{h:V->O->Prop}(j:(dc T3 Un R (az (W+1) a (.ListComp F u N z)) Q L).to h D):
  jP a N=M/\∃m iter o T4 H n,u=⟨m,iter,o,0⟩::T4/\eT (bx N.names) m=Y H/\qo W (bx N.names) u 0 n/\isSet iter=E/\
   ((R.i (ft (az W a) iter) Q L).bind λX L=>(R.c (az W (bx N.names) F) H (o.map (az W (bx N.names))) n (jJ Q (ownOf (bx N.names))) X [] L).nF.bind λZ L=>L.alloc (.list Z.2)).to h D:=by
 replace j:(dc T3 Un R (match jP a N with|true=>vY (az W) a (bx N.names) F u|false=>.bad) Q L).to h D:=j
 generalize k:jP a N=K;induction K using ap with|false=>replace j:=k▸j;exact j.elim|true=>
  replace j:=k▸j;refine⟨rfl,?_⟩;induction u using aS with|nil=>exact j.elim|cons UZ T=>
   refine ak (B6 j) λS j=>au (B7 j) λH e j=>ak (B8 S) λP y=>?_;obtain ⟨m,iter,o,d⟩:=UZ;replace P:d=0:=P;refine U P ?_;induction T using aS with|nil=>exact c9 m iter o ⟨[],H,G,rfl,e,.inl ⟨rfl,rfl⟩,y,j⟩|cons TR T=>refine ak (B6 j) λr f=>au (B7 f) λv TW TU=>ak (b8 r) λb p=>ak (b8 b) λx q=>ak (b8 p) λl C=>ak (B8 q) λB TX=>?_;obtain ⟨TS,I,TV,w⟩:=TR;have t:w=0:=B;have g:T= []:=me x;have s:o= []:=me l;have A:TV= []:=me C;subst t g s A;exact c9 m iter ([]) ⟨_,H,Y (v,ft (az W (bx N.names)) I),rfl,e,.inr (fY TS I v rfl rfl TW ⟨rfl,TX⟩),y,TU⟩
theorem KW(K:ej B S R)(g:a8 a k){W:Nat}{C:ah}{w:List fe}{N:cn}{Z:aN}{h:V->O->Prop}(j:(dc T3 Un R (az (W+1) a (.ListComp C w N Z)) Q L).to h D):bq B S k Q L (.ListComp C w N Z) h D:=λUO Uw UP TV Uo F P d c=>by
 obtain ⟨UG,Ux,iter,UI,T4,UA,UK,rfl,Uj,X,UZ,j⟩:=B9 j;rw[eval_ListComp];refine B5 (TZ:=Z) (C:=G) K g UG Uo F P d c Uj X UZ j (λI I y=>y) λy Ui x p n A T b Uf Up u l=>aD l λz t=>aC z t (λUB f=>?_);have m:∀e,¬A.heap.IsTuple x e:=λe H=>lW H λr i UM Ur hd=>by refine nd t λUm UJ Uq q s I=>?_;clear t;rw[i] at q;obtain rfl:=an q;replace s:=hd▸s;cases s
 exact⟨y,n,p,T,aq.ba (λI I I o=>o) (mB f m) _ Uf,⟨b.post.fresh P.stays Up u m (λv r o Uk=>(f.2 v Uk).trans o) (by refine U f.1 ?_;exact Nat.le_refl _),⟨b.same.1,b.same.2⟩⟩⟩
theorem bp.but{H:ax}{j q:av}{x:af}(c:bp B k Q H j)(R:cL x j q)(l:∀e,¬j.IsTuple x e)(T:¬Internal.own k x):bp B k Q H q:=by
 have C:=mB (H:=H) R l;have v:∀Z∈k.cells,∀N,j.IsCell Z.2 N->q.IsCell Z.2 N:=λZ S N p=>(by refine au p λr F hd=>?_;clear p;exact aC r ((R.2 _ λu=>T (.inr (aC Z S u.symm))).trans F) hd)
 refine au c.ns λz d h=>?_;obtain ⟨r,n,L,F,hd,TY,a⟩:=d;refine⟨c.kind,c.gl,c.fG,c.plain,aC z (fY r n L ((R.2 _ λu=>T (.inl u.symm)).trans F) hd TY a) (λy f K b X m=>?_),c.own,λZ S=>?_⟩
 ·refine au (h y f K b X m) λN i t=>aC N (aq.ba (λI I I o=>o) C _ i) ?_;rcases t with t|⟨A,TU,w,g⟩
  ·exact .inl t
  ·exact .inr (fX A TU w (v _ (mem_of_lookup w) _ g))
 ·exact e7 (c.cell Z S) λW s D P=>aD P λN i=>bP W s D ⟨N,v Z S N i⟩
theorem KX{H:ax}{j:av}(c:bp B k Q H j){v:af}(t:own k v):v<j.objs.size:=by
 rcases t with rfl|⟨Z,S,rfl⟩
 ·refine au c.ns λz e I=>?_;obtain ⟨r,n,i,F,_⟩:=e;exact bJ F
 ·exact BH c Z S
theorem KY(K:ej B S R)(g:a8 a k){Uk:bF B k}{Uh:Nat}{i:ah}{N:List fe}{T:cn}{b C Z:aN}{y:am}{f:Nat}{h:FM->al->O->Prop}(TR:dM a y=Y f)
  (Ug:ja (.ListComp i N T b) (Y (.Name y C)) Z.line k=pure M)
  (j:(dc T3 Un R (az (Uh+1) a (.ListComp i N T b)) Q L).to (λUM L=>h .next (eu f UM Q) L) D):aI B S k Uk Q L (b0 (.Assign [.Name y C] (.ListComp i N T b) Z) k) bU h D:=λTU UO H l q I=>by
 obtain ⟨UG,Ux,iter,UI,T4,UA,UK,rfl,Uj,Ub,UZ,j⟩:=B9 j;refine U (exec_Assign_Name_used _ _ _ _ Ug) (ab (dQ (ab (ab (bQ (B5 (UX:=λI A=>nC (c:=B) (env:=k) bU h H l .next A) (TZ:=b) (C:=Y (cU (.Name y C) k)) K g UG q.dS q.f7 q.rep q.loc q.gens Uj Ub UZ j (T7:=b7 B k D H l) (λI I y=>y.x q.rep q.loc) λX Ui d Ur T6 A T7 m Uf t Uc W=>?_) (λI A Ue=>aH (aH Ue)) λI I o=>o)))));refine aD W λz T8=>?_;clear W;have UF:=(loc B k Q).st q.rep q.loc m.post;have Ua:=q.next UF m.x;have TX:¬own k d:=λUp=>absurd (Nat.lt_of_lt_of_le (KX q.loc Up) t) (Nat.lt_irrefl _);refine bQ (sW (w:=l7 X Ui) (D:=D) (h:=λUd Uo=>Ud=eu f X Q/\Uo=T6) g TR (λI I f=>f) ⟨rfl,rfl⟩ TU UO Ur A Ua Uf) (λI UQ W=>?_) λI I y=>y.trans q.rep q.loc ⟨_,UF⟩ m.x;refine hd λUD TV=>?_;obtain ⟨_,UP,UR,UL,⟨T9,Ul⟩,_,US,n⟩:=W;subst T9 Ul;refine lX T8 λr Uw Uq F hd TY UC=>?_;clear T8;refine aD ((n.post.keep d r F Uc TX).of) λTW T1=>?_;have T5:UQ.heap.Ns d z:=fY _ Uw Uq T1 hd TY UC;have Us:¬foot UL d:=n.post.grow.eD F Uc;have UJ:∀e,¬UQ.heap.IsTuple d e:=λe UE=>lW UE λUm UB I TZ p=>by rw[T1] at UB;obtain rfl:=an UB;replace p:r.data=.seq e TZ:=p;replace p:=hd▸p;cases p
 refine TV (aC z T5 (λUN P=>?_));have s:=(m.x (env:=k)).trans n;have TS:B.base.get? d=none:=q.rep.nb t;refine⟨.next,_,UR,UL,T7,rfl,US.but P UJ TX,⟨⟨s.post.rep.other Us TS UJ λv r o w=>(P.2 v w).trans o,s.post.grow,λv r o Ut T2=>?_,by refine U P.1 ?_;exact s.post.size⟩,⟨s.same.1,s.same.2⟩⟩⟩
 have w:v≠d:=λu=>absurd (Nat.lt_of_lt_of_le (bJ o) (u▸t)) (Nat.lt_irrefl _);rcases s.post.keep v r o Ut T2 with u|⟨T0,TW,u⟩
 ·exact .inl ((P.2 v w).trans u)
 ·exact .inr ⟨T0,TW,(P.2 v w).trans u⟩
end
def w7(j:av)(o:J):Prop:=∃X,wT j o X
def w8(j:av)(o:J):Prop:=wT j o .none
theorem w8.pE{j:av}{o:J}(C:w8 j o):w7 j o:=⟨_,C⟩
theorem mw.pE{k:aF}{j:av}{o:J}(C:mw k j o):w7 j o:=⟨_,C⟩
section
variable{B:aa}{S:Nat}{k:aF}{Q:al}{L:O}{s T8:aY}{p:List aF}{H:ax}{l W:ai}{y:J}{D:Nat->Nat->O->Prop}
theorem b7.w9(Uw:Here B S k Q L s p H l)(UM:b7 B k D H l y W)(Up:w7 W.heap y){a:Unit->ai->Prop}{Uk:J->ai->Prop}(Ut:∀q,b7 B k D H l y {W with heap:=q}->w8 q y->a () {W with heap:=q}):ao (aA B.prog B.w) T8 (setFlight y G) a Uk W:=by
 refine hd λUD TZ=>?_;obtain ⟨Ur,v,UG,d,R,UT,N,rfl,x,hd,b,h,X,m,f⟩:=Up;obtain ⟨U7,Ux,Us,n,K,Z,U0,T6,UO,TY,Uu,⟨Vu,U9,UW,T,T1,i⟩,⟨Ud,j⟩,g⟩:=UM;have UV:v=Z.1:=by injection TY
 clear TY;subst UV;rw[x] at UW;obtain rfl:=an UW;replace T:=hd▸T;cases T;refine TZ (ab (b9 x hd b (U (if_pos (show(bZ R !=cA)=M from by rfl)) ?_)))
 show ao _ _ (nX (.ref R) 3 .none) _ _ _;refine mn X m (iI.mp f).1 (Ut _ ?_ ?_)
 ·rcases i with i|⟨UR,Vv,Vw,C,z,UI,UX,A,Va,U8⟩
  ·replace i:=b▸i;cases i
  ·replace C:=b▸C;cases C;rw[X] at UX;obtain rfl:=an UX;replace A:=m▸A;cases A;have P:cL R W.heap (W.heap.update R (hq (·.setIfInBounds 3 cA))):=i6 ..
   have UJ:∀e,¬W.heap.IsTuple R e:=λe UE=>lW UE λr F I Uz hd=>by rw[X] at F;obtain rfl:=an F;replace hd:=m▸hd;cases hd
   have TS:B.base.get? R=none:=Uw.rep.nb z;have TX:¬own k R:=λt=>by
    rcases t with t|⟨u,Ue,t⟩
    ·refine au j.ns λUz T4 I=>?_;obtain ⟨r,US,Uq,F,hd,_⟩:=T4;rw[<-t,X] at F;obtain rfl:=an F;replace hd:=m▸hd;cases hd
    ·refine kz (j.cell u Ue) λI I I T3 r F hd=>?_;rw[<-t,X] at F;obtain rfl:=an F;replace hd:=m▸hd;cases hd
   have TR:Rep B K n (W.heap.update R (hq (·.setIfInBounds 3 cA))):=g.post.rep.other U8 TS UJ λv r o h=>(P.2 v h).trans o
   have c:3<N.size:=(iI.mp f).1;refine⟨U7,Ux,Us,n,K,Z,U0,T6,UO,rfl,Uu,⟨_,d,(P.2 _ (h8 h)).trans x,hd,T1,.inr ⟨R,_,_,b,z,h,hk _ X (sI (i7 m _)),i7 m _,.inl (by simp[c]),U8⟩⟩,⟨Ud,j.but P UJ TX⟩,⟨⟨TR,g.post.grow,λv r o UF T2=>?_,by refine U P.1 ?_;exact g.post.size⟩,⟨g.same.1,g.same.2⟩⟩⟩
   have TU:v≠R:=λu=>absurd (Nat.lt_of_lt_of_le (bJ o) (u▸z)) (Nat.lt_irrefl _);rcases g.post.keep v r o UF T2 with u|⟨T0,TW,u⟩
   ·exact .inl ((P.2 v TU).trans u)
   ·exact .inr ⟨T0,TW,(P.2 v TU).trans u⟩
 ·have c:3<N.size:=(iI.mp f).1;refine⟨_,_,d,R,_,_,rfl,(f5 _ _ _ _ (h8 h)).trans x,hd,b,h,hk _ X (sI (i7 m _)),i7 m _,by simp[c]⟩
theorem bp.nil{H:ax}{j q:av}{z:am->Option J}(c:bp B k Q H j)(R:cL k.locals j q)(X:q.Ns k.locals z):bp B k [] H q:=
 ⟨c.kind,c.gl,c.fG,c.plain,aC z X (λI I I I o=>ag o),c.own,λZ S=>by exact kz (c.cell Z S) λv m W N r o hd=>bP v m W ⟨N,r,(R.2 _ W).trans o,hd⟩⟩
end
theorem KZ{B:aa}(ok:B.Fine){L:O}{H:ax}{l:ai}{s:aY}{A C:Nat}{Z:af×af}{X:V}{Q:am}{h a:J->ai->Prop}(P:Rep B H L l.heap){g:List (Key×V)}(c:L.get A C=Y (.exc g M))(S:H A C=Y Z)(o:gJ L (.ref A C) (ay Q)=Y X)
  (T:∀N D,aq H l.heap X N->a N {l with toks:=D}):ao (aA B.prog B.w) s (pA (.ref Z.1) Q M) a h l:=by
 replace o:(match L.get A C with|some (.inst x g)=>(match attrOk x (ay Q) with|true=>kO (ay Q) g|false=>G)|some (.exc g _)=>(match attrOk 83 (ay Q) with|true=>kO (ay Q) g|false=>G)|_=>G)=Y X:=o
 rw[c] at o;dsimp only at o;refine hd λT0 v=>?_;generalize f:attrOk 83 (ay Q)=K;induction K using ap with|false=>rw[f] at o;exact ag o|true=>
  rw[f] at o;refine ak (wh o) λt q=>br (ok.cl 83 Q f) λTW F d=>fW (F rfl) λT4 TY r T2 hd=>?_;obtain ⟨n,z,e,b,p,y,_⟩:=P.obj _ _ _ _ S c;rw[T4] at b;have j:InstAt l.heap Z.1 ⟨.ref 83,Y Z.2,.fields e,#[]⟩ 83 (Y (cX n z)):=⟨b,rfl,rfl,p⟩;refine au ((px (Q:=Q) (C:=z) y).1 _ t) λN i m=>au (r2 hd) λR u I=>v (wf (N:=N) (ok.dR.keeps P.stays) j TY r T2 ?_ (r1 q m) (T N _ m));unfold r3;refine U u (U d ?_);have k:W.ownOf R (Y (cX n z)) Q=Y (Y N):=by unfold W.ownOf;exact U I (U (if_pos rfl) i)
  show((W.ownOf R (Y (cX n z)) Q).bind λown=>_)=_;refine U k ?_;rfl
section
variable{B:aa}{S:Nat}{k:aF}{a:a4}{R:Rec}{w:bF B k}{Q:al}{L:O}{h:FM->al->O->Prop}{D:Nat->Nat->O->Prop}
theorem K0{f:Nat}(j:pT a f=M):aL f a=Y .globalImplicit/\aL f fJ=Y (.glob (.ref 83)):=by
 unfold pT at j;revert j;generalize (aL f a)=K;induction K using aB with|none=>intro j;exact aG j|some A=>
  induction A using eU with
  |globalImplicit=>
   generalize (aL f fJ)=K;induction K using aB with|none=>intro j;exact aG j|some N=>
    induction N using V.casesOn with
    |glob c=>
     induction c using e8.casesOn with|ref v=>intro j;exact U (Nat.eq_of_beq_eq_true j) (⟨rfl,rfl⟩)|_=>intro j;exact aG j
    |_=>intro j;exact aG j
  |_=>intro j;exact aG j
end
section
variable{B:aa}{S:Nat}{k:aF}{F:a4}{R:Rec}{T:bF B k}{Q:al}{L:O}{h:FM->al->O->Prop}{D:Nat->Nat->O->Prop}
theorem K1{t v:Key}{T:Res V}(j:(sh t v Q T).to h D):T.to (λN L=>h (.ret N) Q L) (λA C L=>∃N,gJ L (.ref A C) v=Y N/\h (.ret (.tup [.str t,N])) [] L):=by
 induction T with|ok N L=>exact j|no=>exact j|ask a P K F=>exact ge.mono j F|err A C L=>
  replace j:(match gJ L (.ref A C) v with|some N=>be.ok (.ret (.tup [.str t,N])) [] L|none=>.no).to h D:=j
  show∃N,gJ L (.ref A C) v=Y N/\_;generalize u:gJ L (.ref A C) v=p at j;induction p using aB with|none=>exact j.elim|some N=>exact aC N rfl j
theorem K2(ok:B.Fine){A C:Nat}{g:List (Key×V)}{m:Bool}{v:am}{N:V}(u:gJ L (.ref A C) (ay v)=Y N)(a:L.get A C=Y (.exc g m)):B.X=83:=by
 have o:(match L.get A C with|some (.inst x g)=>(match attrOk x (ay v) with|true=>kO (ay v) g|false=>G)|some (.exc g _)=>(match attrOk 83 (ay v) with|true=>kO (ay v) g|false=>G)|_=>G)=Y N:=u
 rw[a] at o;dsimp only at o;generalize w:attrOk 83 (ay v)=K at o;induction K using ap with|false=>exact ag o|true=>exact((ok.cl 83 v w).2.1 rfl).1
theorem K3(ok:B.Fine){s:aY}{l:ai}{n a:J->ai->Prop}{H:ax}{A C p q:Nat}{g:List (Key×V)}{Z:af×af}{N:V}{t v X:am}{F R f x:aN}{c:am->Option J}
  (j:Rep B H L l.heap)(d:bp B k Q H l.heap)(o:k.kindOf X=Y .local)(P:l.heap.Ns k.locals c)(h:c X=Y (.ref Z.1))(K:L.get A C=Y (.exc g M))(S:H A C=Y Z)(u:gJ L (.ref A C) (ay v)=Y N)
  (b:∀y i D,aq H l.heap N i->a (.ref l.heap.objs.size) {l with heap:=l.heap.push {cls:=.type "tuple",data:=.seq [pB t y,i].toArray},toks:=D}):
  ao (aA B.prog B.w) s (aX (.Tuple [.Constant (.str t) p F,.Attribute (.Name X R) v f] q x) k) a n l:=by
 suffices z:ao (aA B.prog B.w) s (bT x>>=λI=>(mkText t>>=λN=>bO [N] ((wj (.Name X R) v k (aX (.Name X R) k)>>=λr=>bT f.atName>>=λI=>bO [r] (pA r v M)>>=λT=>zS (.Name X R) r T>>=λI=>pure T)>>=λN=>bO [N] (pure [])>>=λe=>pure (N::e))>>=λe=>pure (N::e))>>=λe=>rR e) a n l from z
 refine ab (dQ (ab (ab (kJ (ab (ck (ab (U (wi rfl) (ab (rQ (zx (v:=.ref Z.1) d.kind o P h ?_) (d.plain X _ o).1))))))))));exact ab (dQ (ab (ck (KZ ok (A:=A) (C:=C) (Z:=Z) (g:=g) j K S u λi D m=>(ab (GH (aH (ab (ck (aH (aH (aH (ib (b _ _ _ m) (by size_fits))))))))))))))
theorem K4{H:e9}{t:cf}{s:aY}{l:ai}{o:J}{d:ah}{C:am}{b:aP}{K:List aP}{z:aN}{a:f6->ai->Prop}{n:J->ai->Prop}(e:o≠byPass)
  (j:ao (aA H t) (s.mark (Y o)) (aX d k) (λB Z=>ao (aA H t) (s.mark (Y o)) (Ca o B) (λm v=>m=M/\ao (aA H t) (s.mark (Y o)) (setFlight o G) (λI g=>ao (aA H t) (s.mark (Y o)) (z0 k C o) (λI q=>
   ao (aA H t) (s.mark (Y o)) (bb (b::K) k) (λu r=>ao (aA H t) s (do nE k C .none;K5 k C z) (λI w=>a u w) c3 r) c3 q) c3 g) c3 v) c3 Z) c3 l):
  ao (aA H t) s (handleBy o k [.ExceptHandler (Y d) (Y C) (b::K) z]) a n l:=by
 refine wpAny_handleBy_cons (codeAny_handlers_test ?_) e;refine jZ (b3 j (λB Z A=>jZ (b3 A (λm v F=>ak F λT p=>?_))));clear F;subst T;exact codeAny_handlers_suite_as (jZ (b3 p (λI g x=>jZ (b3 x (λI q c=>jZ (b3 c (λu r i=>jZ i)))))))
theorem K6(ok:B.Fine)(x:a8 F k){s:aY}{l:ai}{n a:J->ai->Prop}{H:ax}{d:am}{i:Nat}{z:aN}(P:Rep B H L l.heap)(c:bp B k Q H l.heap)(h:B.X=83)(e:bt d=Y i)(D:pT F i=M)
  (p:a (.ref B.X) l):ao (aA B.prog B.w) s (aX (.Name d z) k) a n l:=by
 refine hd λT W=>ak (K0 D) λo q=>au (ok.fJ d i _ e q) λf t j=>?_;subst t;have m:k.kindOf d=Y .globalImplicit:=x d i _ e o;have r:l.heap.Ns k.globals B.hF:=by refine U c.gl ?_;exact ok.g.keeps P.stays
 replace p:=h▸p;rcases j with j|⟨u,j⟩
 ·exact W (pk c.kind m (zy r j p) (c.plain d _ m).1)
 ·exact W (pk c.kind m (zz r u (by refine U c.fG ?_;exact ok.b.keeps P.stays) j p) (c.plain d _ m).1)
theorem K7(r:jc B){s:aY}{l:ai}{h:J->ai->Prop}{a:Bool->ai->Prop}{H:ax}{Z:af×af}{A C:Nat}{g:List (Key×V)}(P:Rep B H L l.heap)(K:L.get A C=Y (.exc g M))(m:H A C=Y Z)(p:a M l):
  ao (aA B.prog B.w) s (Ca (.ref Z.1) (.ref B.X)) a h l:=by
 obtain ⟨n,z,e,y,q,_,_,_⟩:=P.obj _ _ _ _ m K;obtain ⟨D,u,j,f,I,k,N,sub,R,c,Q,o,b,d,i,v,F,t,T⟩:=r;exact wpAny_excMatches_sub_self (P.stays _ _ t) y rfl T p
theorem K8(ok:B.Fine){s:aY}{l:ai}{a:f6->ai->Prop}{H:ax}{A C b q:Nat}{g:List (Key×V)}{Z:af×af}{N:V}{t v X:am}{d R f e Ub TW:aN}
  (Us:Rep B H L l.heap)(c:bp B k Q H l.heap)(D:k.kindOf X=Y .local)(TZ:L.get A C=Y (.exc g M))(Ui:H A C=Y Z)(TX:gJ L (.ref A C) (ay v)=Y N)
  (TY:∀W P,aq H W.heap (.tup [.str (ay t),N]) P->bp B k [] H W.heap->fc B k H l.heap H L W.heap->W.gens=l.gens->W.os=l.os->a (.ret P) W){U2:aY}:
  ao (aA B.prog B.w) s (z0 k X (.ref Z.1)) (λI j=>ao (aA B.prog B.w) s (bb [.Return (Y (.Tuple [.Constant (.str t) b d,.Attribute (.Name X R) v f] q e)) Ub] k)
   (λT0 y=>ao (aA B.prog B.w) U2 (do nE k X .none;K5 k X TW) (λI T4=>a T0 T4) c3 y) c3 j) c3 l:=by
 have S:(k.scope.kind==.class||(k.scope.kind==.module&&k.locals !=k.globals))=false:=by refine U c.kind ?_;rfl
 refine au c.ns λT2 TV I=>vG D TV (λh p T=>?_) S;refine br (nD Us c (.inl rfl) T) λF Uo I=>?_;have K:=c.nil T p;rw[wW];refine ab (J1 (K3 ok F K D p (by simp) TZ Ui TX λo i TS m=>?_))
 have z:aR B H h H L (h.push {cls:=.type "tuple",data:=.seq [pB t o,i].toArray}):=.more F (b6 _) (push_size _);have r:=(loc B k []).st F K z;refine au r.ns λT8 T1 I=>?_;have T3:aq H (h.push {cls:=.type "tuple",data:=.seq [pB t o,i].toArray}) (.tup [.str (ay t),N]) (.ref h.objs.size):=
  ⟨_,_,rfl,.of (n:=0) (ct _ rfl) (F.gQ (Nat.le_refl _)),aE.cons ⟨t,_,rfl,rfl⟩ (aE.cons (aq.ba (λI I I TU=>TU) (iG (b6 _)) _ m) aE.nil)⟩
 exact aH (wpAny_nameGoes D T1 S λTR T9 T5 u=>br (nD z.rep r (.inl rfl) u) λUa T6 T7=>TY _ _ (T7 _ _ T3) (r.nil u T5) ((Uo.trans z.x).trans T6) rfl rfl)
theorem K9(ok:B.Fine)(TY:jc B)(K:ROk B S R)(i:a8 F k){Uu f u Ur Uq:Nat}{o:ah}{m y X t v:am}{P l TX TU T1 TS Ub T8 T5:aN}(q:bt y=Y f)(Un:bt X=Y f)(T0:aL f F=Y .local)(UB:bt m=Y u)(Uj:pT F u=M)
  (Ui:(sh (ay t) (ay v) Q (R.e (az Uu F o) Q L)).to h D):
  aI B S k T Q L (b0 (.Try [.Return (Y o) l] [.ExceptHandler (Y (.Name m P)) (Y y) [.Return (Y (.Tuple [.Constant (.str t) Ur TX,.Attribute (.Name X TU) v T1] Uq TS)) Ub] T8] [] [] T5) k) bU h D:=by
 have UA:=ni Un q;subst UA;have Ut:aI B S k T Q L (bb [.Return (Y o) l] k) bU (λUp Q L=>match Up with|.ret N=>h (.ret N) Q L|_=>False) (λA C L=>∃N,gJ L (.ref A C) (ay v)=Y N/\h (.ret (.tup [.str (ay t),N])) [] L):=
  qh (BP (K.e i (K1 Ui)))
 refine λT7 UN Ud Ul p UG=>wpAny_Try_except (bQ (Ut T7 UN Ud Ul p UG) (λUp W Uh=>?_) λev W TR=>?_)
 ·refine hd λUD TV=>?_;obtain ⟨T4,H,n,r,s,Ug,Uv,b⟩:=Uh;induction T4 using FM.casesOn with|ret N=>refine au Ug λT2 Uz UU=>?_;clear Ug;subst Uz;exact TV ⟨.ret N,H,n,r,s,aC T2 rfl UU,Uv,b⟩|_=>exact s.elim
 ·refine b7.note p TR λd UE=>ak UE λUa UJ=>b7.w9 p Ua UJ.pE λTW c UH=>?_;have Uk:ev≠byPass:=by
   obtain ⟨A,C,g,UC,Uy,Z,_,_,_,rfl,_,_,_,_⟩:=c;intro T9;cases T9
  refine K4 Uk ?_;have UK:∀{z:aY} {a:Bool->ai->Prop},a M {d with heap:=TW}->ao (aA B.prog B.w) z (aX (.Name m P) k) (λUL W=>ao (aA B.prog B.w) z (Ca ev UL) a c3 W) c3 {d with heap:=TW}:=λ{z a} Ue=>by obtain ⟨A,C,g,UC,Uy,Z,⟨N,x,_⟩,I,j,rfl,_,_,⟨UI,Uc⟩,Ux⟩:=c;exact K6 ok i Ux.post.rep Uc (K2 ok x I) UB Uj (K7 TY Ux.post.rep I j Ue)
  refine UK ⟨rfl,b7.w9 p c UH.pE λUm TZ T6=>?_⟩;obtain ⟨A,C,g,n,r,Z,⟨N,x,s⟩,I,j,rfl,_,_,⟨H,UF⟩,b⟩:=TZ;exact K8 ok b.post.rep UF (i X f _ q T0) I j x λUw Us Uf Uo U2 T3 hd=>⟨.ret (.tup [.str (ay t),N]),[],n,r,s,aC _ rfl Uf,Uo,⟨b.post.trans U2,⟨T3.trans b.same.1,hd.trans b.same.2⟩⟩⟩
end
theorem La{o:Option ah}{A:Key}(j:cStr o=Y A):∃y C Z,o=Y (.Constant (.str y) C Z)/\A=ay y:=by
 induction o using aB with|none=>exact ag j|some o=>induction o using bE with
  |Constant B C Z=>induction B using wb with|str y=>exact gC y C Z rfl ((an j).symm)|_=>exact ag j
  |_=>exact ag j
theorem Cb{o:Option ah}{T:List (Option ah)}{g:List Key}(j:iV (o::T)=Y g):∃y A Z S,o=Y (.Constant (.str y) A Z)/\iV T=Y S/\g=ay y::S:=by
 unfold iV at j;generalize H:cStr o=a at j;generalize p:iV T=b at j;induction a using aB with|none=>exact ag j|some A=>clear p;induction b using aB with|none=>exact ag j|some S=>refine g7 (La H) λy C Z Q D=>U Q ?_;clear H;subst D;exact U (an j).symm (c9 y C Z ⟨S,rfl,rfl,rfl⟩)
theorem Lb :∀{a:List (Option ah)} {g:List Key},iV a=Y g->a.all (·.isSome)=M/\a.length=g.length:=by
 intro s;induction s with
 |nil=>intro g j;obtain rfl:=an j;exact⟨rfl,rfl⟩
 |cons o T F=>intro g j;refine jy (Cb j) λy A Z S Q p D=>U Q ?_;clear j;refine U D ?_;exact ak (F p) λv m=>⟨by trivial,by simp[m]⟩
section
variable{B:aa}{S:Nat}{T3:cN}{Un:eS}{k:aF}{a:a4}{R:Rec}{Q:al}{L:O}{D:Nat->Nat->O->Prop}
theorem Lc(K:ROk B S R)(Uo:a8 a k){W:Nat}{z:aN}:∀{p:List (Option ah)} {o:List ah} {g:List Key} {L:O} {Φ:List V->O->Prop},iV p=Y g->p.length=o.length->(pO R (o.map (az W a)) Q L).to Φ D->
  ∀(s:aY) (b:List aF) (H:ax) (l:ai),Ready s S b->Frames B H b l.heap->Rep B H L l.heap->bp B k Q H l.heap->l.gens= #[]->
   ao (aA B.prog B.w) s (evalPairs (pairTrees p o k z)) (λt v=>∃x n C A,Φ x n/\Carries (strKind B.prog B.w) t A/\A.map (λy=>ay y.1)=g/\aE C v.heap x (A.map (·.2))/\Ends B H l C n v) (dq B D H l) l:=by
 intro T6;induction T6 with
 |nil=>
  intro o g L Φ m u j s b H l i F P d c;refine U (an m).symm ?_;induction o using aS with|nil=>exact pairTrees_nil_walk (c9 ([]) L H ⟨[],j,trivial,rfl,rfl,.refl P,.refl⟩)|cons=>cases u
 |cons TW TX Uu=>
  intro o g L Φ m u j s b H l i F P d c;refine jy (Cb m) λy TS Uh TR r T2 Ue=>U r ?_;clear m;subst Ue;induction o using aS with|nil=>cases u|cons N t=>
   replace j:((R.e (az W a N) Q L).bind λy L=>(pO R (t.map (az W a)) Q L).bind λx L=>.ok (y::x) L).to Φ D:=j;rw[Res.bc] at j;refine pairTrees_cons_walk (kJ ?_);have h:Ends B H l H L {l with toks:=l.toks+1}:=cY P
   refine bQ (K.e Uo j s b H {l with toks:=l.toks+1} i F P d c) (λUm Uz Z=>?_) λI I y=>dq.trans h y
   obtain ⟨X,UR,UL,T,Uf,q⟩:=Z;replace T:((pO R (t.map (az W a)) Q UR).bind λx L=>Res.ok (X::x) L).to Φ D:=T;rw[Res.bc] at T;refine bQ (Uu (Φ:=λx L=>Φ (X::x) L) T2 (Nat.succ.inj u) T s b UL Uz i (F.post P q.post) q.post.rep ((loc B k Q).st P d q.post) (q.same.1.trans c)) (λTU TV Z=>?_) λI I y=>dq.trans (h.trans q) y;refine m9 Z λx UC Uy A T7 Uk T5 T4=>?_;clear Z;refine ak T4 λUb f=>?_;refine c9 (X::x) UC Uy ⟨(y,Um)::A,T7,aQ ?_ rfl Uk,by refine U cp ?_;exact U T5 rfl,.cons (aq.post q.post.rep f.post _ Uf) Ub,(h.trans q).trans f⟩
   show eH y (.str y l.toks)=M;simp[eH]
theorem Ld :∀{g:List Key},noTwice g=M->g.Nodup:=by
 intro s;induction s with|nil=>intro I;exact jb|cons A T F=>
  intro j;unfold noTwice at j;generalize u:nH A T=K at j;induction K using ap with|true=>exact aG j|false=>
   refine gn.mpr ⟨λh=>?_,F j⟩;have:∀{T:List Key},A∈T->nH A T=true:=by
    intro T;induction T with|nil=>intro j;cases j|cons y T F=>
     intro h;show(match a0 y A with|true=>M|false=>nH A T)=M
     generalize i:a0 y A=K;induction K using ap with|true=>rfl|false=>
      rcases aW.mp h with o|h
      ·exact absurd o.symm (ng i)
      ·exact F h
   rw[this h] at u;exact cS u
theorem Le :∀{g:List Key} {x:List V} {T:List (Key×V)},pG g x=Y T->T.map (·.1)=g/\T.map (·.2)=x:=by
 intro s;induction s with
 |nil=>
  intro D;induction D using aS with|nil=>intro T o;exact U (an o).symm (⟨rfl,rfl⟩)|cons B d=>intro I o;exact ag o
 |cons r z F=>
  intro D;induction D using aS with|nil=>intro I o;exact ag o|cons B d=>
   intro T o;replace o:(match pG z d with|some T=>Y ((r,B)::T)|none=>G)=Y T:=o
   generalize u:pG z d=K;induction K using aB with|none=>replace o:=u▸o;exact ag o|some n=>rw[u] at o;refine U (an o).symm ?_;exact ak (F u) λv m=>⟨by refine U cp ?_;exact U v rfl,by refine U cp ?_;exact U m rfl⟩
theorem Lf{r:Option aj}(j:Aj r=M):r=Y (.dict []):=by
 induction r using aB with|none=>exact aG j|some r=>
  induction r using aj.casesOn with
  |dict g=>
   induction g using aS with|nil=>rfl|cons=>exact aG j
  |_=>exact aG j
theorem Cc{g:List Key}(X:noTwice g=M){h:V->O->Prop}{H s K:ax}{l L Z:ai}{v:af}{A C:Nat}{x:List V}{a n:O}{S:List (am×J)}(TX:s A C=Y (v,v))(T5:Ends B H l s a L)
  (e:(Ak g x (.ref A C) n).to h D)(k:Ends B s L K n Z)(t:S.map (λy=>ay y.1)=g)(Ub:aE K Z.heap x (S.map (·.2))):
  Z.heap.DictOf (strKind B.prog B.w) v []/\∀q d,q.DictOf (strKind B.prog B.w) v (merged [] S)->cL v Z.heap q->ef (c:=B) bh h H l (.ref v) {Z with heap:=q,toks:=d}:=by
 refine hd λTS TR=>ak (dr e) λp TY=>au (cO TY) λT P U8=>ak (dr U8) λi TZ=>?_;replace i:=fb.mp i;have m:=k.post.grow.1 _ _ _ TX;refine ak (Le P) λb z=>?_;obtain ⟨_,r,Q,W,o⟩:=k.post.rep.obj _ _ _ _ m (Lf p);have:r= []:=by
  clear o Q;induction r using aS with|nil=>rfl|cons=>cases W
 clear o W;subst this;refine TR ⟨Q,λq d hd R=>?_⟩;have f:(S.map (·.1)).Nodup:=by
  have N:=Ld X;rw[<-t,show S.map (λy=>ay y.1)=(S.map (·.1)).map ay by refine U List.map_map ?_;rfl] at N
  exact TK _ (λv TV j=>λu=>j (U u rfl)) N
 rw[merged_nil_of_nodup S f] at hd;have P3:aR B K Z.heap K (n.set A C (Y (.dict T))) q:=by
  refine aR.update k.post.rep m (λv TW u N I=>(R.2 v N).trans u) (by refine U R.1 ?_;exact Nat.le_refl _) (λI=>i) λF=>?_
  exact⟨rfl,S,hd,t.trans b.symm,by refine U z ?_;exact aE.ba (λI I I TU=>TU) F _ Ub⟩
 exact⟨.ref A C,_,K,TZ,⟨_,m,rfl⟩,(T5.trans k).trans ⟨P3,rfl,rfl⟩⟩
theorem Lg(K:ROk B S R)(TU:a8 a k){W:Nat}{f:List (Option ah)}{o:List ah}{z:aN}{h:V->O->Prop}(j:(dc T3 Un R (pQ f (o.map (az W a))) Q L).to h D):bq B S k Q L (.Dict f o z) h D:=λTY Us H l Uo F P T6 c=>by
 unfold pQ at j;refine hd λUD Z=>?_;generalize e:iV f=p;induction p using aB with|none=>replace j:=e▸j;exact j.elim|some g=>
  rw[e] at j;replace j:(dc T3 Un R (match Nat.beq g.length (o.map (az W a)).length with|true=>.dict g (o.map (az W a))|false=>.bad) Q L).to h D:=j
  generalize x:Nat.beq g.length (o.map (az W a)).length=p at j;induction p using ap with|false=>exact j.elim|true=>
   refine ak (Lb e) λT0 d=>?_;replace x:=Nat.eq_of_beq_eq_true x;rw[i4] at x;have s:f.length=o.length:=d.trans x;refine ak (dr j) λT b=>ak (dr b) λT9 r=>?_;rw[Res.bc] at r;refine br (nN r) λUe Ul X=>?_;replace X:=Res.bc▸X;have t:aR B H l.heap (bD H L.bf L.n (l.heap.objs.size,l.heap.objs.size)) {L.set L.bf L.n (Y (.dict [])) with n:=L.n+1} (l.heap.push {cls:=.type "dict",data:=.dict #[]}):=by
    refine(aR.alloc (r:=.dict []) P (b6 _) (push_size _) Ue Ul (Nat.le_refl _) (Nat.le_refl _) λC c Uv=>⟨rfl,[],fY _ (#[]) _ (ct _ rfl) (aQ rfl rfl rfl) rfl ⟨?_,?_,jb⟩,rfl,rfl⟩).congr λA T2=>by induction A using Nat.casesOn <;>rfl
    ·intro TW TZ;simp at TZ
    ·first|trivial|constructor
   have m:bD H L.bf L.n (l.heap.objs.size,l.heap.objs.size) L.bf L.n=Y (l.heap.objs.size,l.heap.objs.size):=sw;have N:Ends B H l (bD H L.bf L.n (l.heap.objs.size,l.heap.objs.size)) {L.set L.bf L.n (Y (.dict [])) with n:=L.n+1} {l with heap:=l.heap.push {cls:=.type "dict",data:=.dict #[]}}:=⟨t,⟨rfl,rfl⟩⟩
   have ek:=F.post P t;have T8:=(loc B k Q).st P T6 t;induction f using aS with
   |nil=>
    induction o using aS with|cons=>cases s|nil=>obtain rfl:=an e;exact ak (Cc T (x:= []) (S:= []) m N X ⟨.refl t.rep,.refl⟩ rfl rfl) λi u=>Z (wpAny_Dict_empty (u _ l.toks i ⟨rfl,λI I=>rfl⟩))
   |cons Ug Ua=>
    refine Z (wpAny_Dict_walk (knd:=strKind B.prog B.w) T0 s (by simp) (by refine U d ?_;exact Nat.le_of_ble_eq_true T9) ?_)
    refine bQ (Lc K TU e s X TY Us _ _ Uo ek t.rep T8 c) (λTR Uu v=>?_) λI I y=>dq.trans N y;refine m9 v λTX UB C TS T7 Uf T5 T4=>?_;clear v;refine ak T4 λUb TV=>?_;exact ak (Cc T m N T7 TV T5 Ub) λi u=>cW TS Uf i (λq Uh T1=>u q _ Uh T1)
end
abbrev Cd(j:av)(i TI h R:af)(m:Bool):Prop:=
 j.get? i=Y {cls:=.type "zip",dict:=G,data:=.fields #[cB R,.bool m,.bool E,.ref TI,.ref h],slots:= #[]}
structure gR(c:aa)(γ:ax)(h:av)(a b:Src)(z TI TO i1 i2 T:af):Prop where
 bS:∃f,Cd h z TI TO T f
 qw:∃items,aO γ h T items
 eI:de h TI (.ref i1) (.ref i2)
 dv:ca γ h a i1
 dw:ca γ h b i2
 ne:i1≠i2
 hQ:¬foot γ TI
 gg:¬foot γ z
 fM:¬foot γ i1
 fN:¬foot γ i2
 hR:c.base.get? z=G
 hS:c.base.get? i1=G
 hT:c.base.get? i2=G
def fh(i f Q:af)(v:af):Prop:=v=i\/v=f\/v=Q
section
variable{B:aa}{H:ax}{L:O}{s:aY}{l:ai}{n:J->ai->Prop}
theorem gR.free{j h':av}{a b z TI h f Q T}(Z:gR B H j a b z TI h f Q T):∀y,fh z f Q y->jV B H j y\/(k8 H σ y/\∃c N,de h' y c N):=λy W=>by
 rcases W with rfl|rfl|rfl
 ·refine .inl ⟨Z.gg,Z.hR,λe p=>?_⟩;refine bX p λr F k I=>?_;clear p;refine aD Z.bS λS P=>?_;rw[P] at F;obtain rfl:=an F;simp at k
 ·exact .inl (Z.dv.free Z.fM Z.hS)
 ·exact .inl (Z.dw.free Z.fN Z.hT)
theorem Lh{i:gD}{v:af}{a:Option bA->ai->Prop}(j:a (l.heap.get? v) l):ao i s (Ce v) a n l:=λI I I=>by first|exact j|(simp only[Ce,Sem.wp_loadIfAlive];exact j)
theorem Cf{a b z TI h f Q R}{x:Bool->ai->Prop}(Z:gR B H l.heap a b z TI h f Q R)(T:∀q,cL z l.heap q->Cd q z TI h R M->x E {l with heap:=q}):ao (aA B.prog B.w) s (Builtin.SmallTypes.ownedTupleIsFree (.ref z)) x n l:=by
 refine aD Z.bS λS P=>aD Z.qw λe j0=>aD j0.eP λc L=>ab (b9 P rfl (x:=cB R) rfl ?_);show ao _ _ (Ce (R:Int).toNat>>=_) _ _ _;refine ab (Lh ?_);rw[sH];refine U L ?_;dsimp only[Li,ms,if_false];refine ab (b9 P rfl (x:=.bool S) rfl ?_);induction S using ap with|true=>exact U (if_neg (by trivial)) (ab (aH (aH (T l.heap ⟨rfl,λI I=>rfl⟩ P))))|false=>exact U (if_pos (by rfl)) (ab (hU P (by simp) λq m j=>aH (T q j m)))
theorem Lj{i TI Ud f Q Ui:af}{v R TS b:Src}{y X:V}{T6:J->ai->Prop}(P:Rep B H L l.heap)(Z:gR B H l.heap v TS i TI Ud f Q Ui)
  (Uc:nextM L v=Y (Y (y,R)))(T5:nextM L TS=Y (Y (X,b)))
  (Ut:∀N g C q UB,a5 (fh i f Q) l.heap q->l.heap.get? N=G->gR B H q R b i TI Ud f Q Ui->de q N g C->aq H q y g->aq H q X C->T6 (.ref N) {l with heap:=q,toks:=UB}):
  ao (aA B.prog B.w) s (Builtin.«zip.__next__» ⟨[.ref i],[]⟩) (λUs TU=>∃UR,Us=.done (.ret UR)/\T6 UR TU) n l:=by
 refine aD Z.bS λTR j=>?_;have T:f≠i:=Z.dv.ne j (.inr (.inl rfl));have a:Q≠i:=Z.dw.ne j (.inr (.inl rfl));have Up:f≠TI:=Z.dv.ne Z.eI (.inl rfl);have Uq:Q≠TI:=Z.dw.ne Z.eI (.inl rfl);have Ul:TI≠i:=λu=>by have T1:=Z.eI.symm.trans ((congrArg l.heap.get? u).trans j);simp at T1
 have Ub:fh i f Q i:=.inl rfl;have TZ:fh i f Q f:=.inr (.inl rfl);have TX:fh i f Q Q:=.inr (.inr rfl);show ao _ _ (d2 (.ref i) 2>>=_) _ _ _;refine ab (b9 j rfl (x:=.bool E) rfl ?_);show ao _ _ (d2 (.ref i) 3>>=_) _ _ _;refine ab (b9 j rfl (x:=.ref TI) rfl (ab (hm Z.eI rfl ?_)));show ao _ _ (Builtin.SmallTypes.ownedTupleIsFree (.ref i)>>=_) _ _ _;refine ab (Cf Z λA W T3=>?_);have T0:a5 (fh i f Q) l.heap A:=a5.refl.same W Ub;refine ak (P.change Z.free T0) λT9 h=>U (if_neg i3) (ab (U Lk.symm ?_));simp only[mm,wB];refine ab (ab (ck ?_));show ao _ _ (Builtin.SmallTypes.nextOf (.ref f)>>=_) _ _ _;refine ab (nV (b:=R) T9 (Z.dv.keep h λr F=>(W.2 _ T).trans F) Uc λg p Ua Uf Un c=>aH ?_);replace c:cL f A p:=c;have T2:a5 (fh i f Q) l.heap p:=T0.same c TZ;refine ak (P.change Z.free T2) λUe Uj=>aH (ab (ab (ck ?_)));show ao _ _ (Builtin.SmallTypes.nextOf (.ref Q)>>=_) _ _ _;refine ab (nV (b:=b) (l:={l with heap:=p,toks:=Ua}) Ue (Z.dw.keep Uj λr F=>(c.2 _ Z.ne.symm).trans ((W.2 _ a).trans F)) T5 λC S Ug Uk Uu x=>aH ?_)
 replace x:cL Q p S:=x;have T4:a5 (fh i f Q) l.heap S:=T2.same x TX;refine aH (aH (ab (Bh ?_ (by simp[cT]))))
 have T8:a5 (fh i f Q) l.heap (S.push {cls:=.type "tuple",data:=.seq #[g,C]}):=T4.push _;refine hd λUD TW=>ak (P.change Z.free T4) λUh Ur=>ak (P.change Z.free T8) λUx Uv=>?_;have K:∀v r,S.get? v=Y r->(S.push {cls:=.type "tuple",data:=.seq #[g,C]}).get? v=Y r:=λv r o=>cZ _ o;have Uw:∀v e,aO H A v e->aO H (S.push {cls:=.type "tuple",data:=.seq #[g,C]}) v e:=λv e d=>by
  have TV:v≠f:=λu=>by refine bX d.tup λr F k I=>bX ((Z.dv.keep h λr F=>(W.2 _ T).trans F).at) λT7 D t I=>?_;rw[u,D] at F;obtain rfl:=an F;exact t k
  have m:v≠Q:=λu=>by refine bX d.tup λr F k I=>bX ((Z.dw.keep h λr F=>(W.2 _ a).trans F).at) λT7 D t I=>?_;rw[u,D] at F;obtain rfl:=an F;exact t k
  exact d.keep d.bu λr F=>K _ _ ((x.2 v m).trans ((c.2 v TV).trans F))
 have Um:∀v e,aO H p v e->aO H (S.push {cls:=.type "tuple",data:=.seq #[g,C]}) v e:=λv e d=>by
  have m:v≠Q:=λu=>by refine bX d.tup λr F k I=>bX ((Z.dw.keep Uj λr F=>(c.2 _ Z.ne.symm).trans ((W.2 _ a).trans F)).at) λT7 D t I=>?_;rw[u,D] at F;obtain rfl:=an F;exact t k
  exact d.keep d.bu λr F=>K _ _ ((x.2 v m).trans F)
 have UC:l.heap.get? S.objs.size=none:=by
  generalize u:l.heap.get? S.objs.size=TY;induction TY using aB with|none=>rfl|some r=>exact absurd (Nat.lt_of_lt_of_le (bJ u) T4.z) (Nat.lt_irrefl _)
 refine aD Z.qw λUo j0=>TW (aH (aC _ rfl (Ut S.objs.size g C _ Ug T8 UC ⟨⟨M,K _ _ ((x.2 _ a.symm).trans ((c.2 _ T.symm).trans T3))⟩,⟨Uo,Uv _ _ j0⟩,K _ _ ((x.2 _ Uq.symm).trans ((c.2 _ Up.symm).trans ((W.2 _ Ul).trans Z.eI))),?_,?_,Z.ne,Z.hQ,Z.gg,Z.fM,Z.fN,Z.hR,Z.hS,Z.hT⟩ (ct _ rfl) (aq.ba (λI I I o=>o) Uw _ Uf) (aq.ba (λI I I o=>o) Um _ Uk))))
 ·exact Un.keep Um λr F=>K _ _ ((x.2 _ Z.ne).trans F)
 ·exact Uu.keep (iG K) λr F=>K _ _ F
theorem Ll{i TI h f Q R:af}{v m:Src}{a:Fin->ai->Prop}(z:s.handled=G)(P:Rep B H L l.heap)(Z:gR B H l.heap v m i TI h f Q R)
  (I:nextM L v=Y G\/∃y e,nextM L v=Y (Y (y,e))/\nextM L m=Y G)
  (K:∀q o D,a5 (fh i f Q) l.heap q->(∃r,q.get? o=Y r/\r.cls=.type "StopIteration")->n (.ref o) {l with heap:=q,toks:=D}):
  ao (aA B.prog B.w) s (Builtin.«zip.__next__» ⟨[.ref i],[]⟩) a n l:=by
 refine aD Z.bS λTY j=>?_;have T7:f≠i:=Z.dv.ne j (.inr (.inl rfl));have u:Q≠i:=Z.dw.ne j (.inr (.inl rfl));have Ub:fh i f Q i:=.inl rfl;have T:fh i f Q f:=.inr (.inl rfl);have k:fh i f Q Q:=.inr (.inr rfl);show ao _ _ (d2 (.ref i) 2>>=_) _ _ _;refine ab (b9 j rfl (x:=.bool E) rfl ?_);show ao _ _ (d2 (.ref i) 3>>=_) _ _ _;refine ab (b9 j rfl (x:=.ref TI) rfl (ab (hm Z.eI rfl ?_)));show ao _ _ (Builtin.SmallTypes.ownedTupleIsFree (.ref i)>>=_) _ _ _;refine ab (Cf Z λA X T3=>?_);have C:a5 (fh i f Q) l.heap A:=a5.refl.same X Ub;refine ak (P.change Z.free C) λb Ud=>U (if_neg i3) (ab (U Lk.symm ?_));simp only[mm,wB];refine ab (ab (ck ?_));show ao _ _ (Builtin.SmallTypes.nextOf (.ref f)>>=_) _ _ _;have S:=Z.dv.keep Ud λr F=>(X.2 _ T7).trans F;rcases I with I|⟨y,e,t,g⟩
 ·exact ab (nW z b S I λp o W T5 d=>(K p o _ (C.ext W T T5) d))
 ·refine ab (nV (b:=e) b S t λT9 p Ua Uf Un W=>aH ?_);replace W:cL f A p:=W;have N:a5 (fh i f Q) l.heap p:=C.same W T;refine ak (P.change Z.free N) λUe Uj=>aH (ab (ab (ck ?_)));show ao _ _ (Builtin.SmallTypes.nextOf (.ref Q)>>=_) _ _ _;exact ab (nW z (l:={l with heap:=p,toks:=Ua}) Ue (Z.dw.keep Uj λr F=>(W.2 _ Z.ne.symm).trans ((X.2 _ u).trans F)) g λx o c TR d=>(K x o _ (N.ext c k TR) d))
end
theorem Lm :nP (.type "zip") "__len__"=pure none:=by rw[xa];refine U xb ?_;kernel_rfl
theorem Ln :nP (.type "zip") "__length_hint__"=pure none:=by rw[xa];refine U xb ?_;kernel_rfl
inductive Cg(γ:ax)(s:ai)(D:af->Prop)(Zp:av->af->Prop)(x y:V)(v:J)(s':ai):Prop
 |mk (T':af) (vx vy:J) (h':av) (tk:Nat) (ev:v=.ref T') (bw:s'={s with heap:=h',toks:=tk}) (C:a5 D s.heap h') (fr:s.heap.get? T'=G) (Z':Zp h' T') (qw:de h' T' vx vy) (rx:aq γ h' x vx) (ry:aq γ h' y vy)
section
variable{B:aa}{H TW:ax}{L:O}{s:aY}{l:ai}{T0:av}{R:eX->ai->Prop}
theorem xc{A C:Nat}{c:af}{g:List V}{y:V}{N:J}{e:Array J}{z D:Nat}(P:aR B TW T0 H L l.heap)(S:H A C=Y (c,c))(a:L.get A C=Y (.list g))(X:C<2^24)
  (o:l.heap.get? c=Y {cls:=.type "list",dict:=G,data:=.seq e z,slots:= #[]})(b:aE H l.heap g e.toList)(Z:aq H l.heap y N):
  aR B TW T0 H (L.set A C (Y (.list (g++ [y])))) (l.heap.update c (eV (·.push N))):=
 P.trans (nS (l:={l with toks:=D}) (Z:=(c,c)) P.rep S a X o (by refine U A0 ?_;exact b.append (.cons Z .nil)))
theorem Ch{t f:List V}(j:t= []\/f= []):hM t f= []:=by
 rcases j with rfl|rfl
 ·rfl
 ·induction t using aS <;>rfl
theorem Ci{L:O}{t f:List V}(j:t= []\/f= []):nextM L (.tup t)=Y G\/∃y Z,nextM L (.tup t)=Y (Y (y,Z))/\nextM L (.tup f)=Y none:=by
 rcases j with rfl|rfl
 ·exact .inl rfl
 ·induction t using aS with|nil=>exact .inl rfl|cons y T=>exact .inr (d9 y (.tup T) rfl rfl)
theorem xd{A C:Nat}{v m:Option aj}(X:C<2^24)(f k:Nat):((L.set A C v).set A C m).get f k=(L.set A C m).get f k:=by rw[O.get_set _ _ _ _ (λI=>X),O.get_set _ _ _ _ (λI=>X),O.get_set _ _ _ _ (λI=>X)];by_cases u:f=A/\k=C <;>simp[u]
theorem Cj{v m:Src}{i TI h f Q R:af}{q:av}(P:aR B TW T0 H L l.heap)(Z:gR B H l.heap v m i TI h f Q R)(X:T0.objs.size<=i)(t:T0.objs.size<=f)(a:T0.objs.size<=Q)(x:a5 (fh i f Q) l.heap q):aR B TW T0 H L q:=
 P.change (λy W=>.inl ⟨by rcases W with rfl|rfl|rfl <;>assumption,(Z.free (σ:=L) (h':=q) y W).elim (λS=>S) λk=>by
  exfalso;obtain ⟨A,C,p,o,_,s,_⟩:=k.1;rcases W with rfl|rfl|rfl
  ·exact Z.gg ⟨A,C,p,o,.inl s⟩
  ·exact Z.fM ⟨A,C,p,o,.inl s⟩
  ·exact Z.fN ⟨A,C,p,o,.inl s⟩⟩) x
theorem td{c W:af}{a:J}(j:ao (aA B.prog B.w) s.in1 (hn (.ref W)) (λT Z=>match T with
   |none=>R (.ok (.ret a)) Z|some y=>ao (aA B.prog B.w) s.in1 (sJ c (·.push y)) (λI n=>cu (aA B.prog B.w) s (.builtin "list.extend.loop" ⟨[.ref c,.ref W,a],[]⟩) R n) c3 Z) c3 l):
  cu (aA B.prog B.w) s (.builtin "list.extend.loop" ⟨[.ref c,.ref W,a],[]⟩) R l:=by
 refine og F.entry_extend_loop (U (oh F.plain_extend_loop _) ?_);show ao _ s.in1 (hn (.ref W)>>=_) _ _ l;refine ab (jZ (b3 j (λT Z A=>?_)));induction T using aB with|none=>exact aH A|some y=>
  show ao _ s.in1 (sJ c (·.push y)>>=_) _ _ _
  exact ab (bQ A (λI n p=>aH ⟨qx F.plain_extend_loop _,p⟩) λI I y=>y.elim)
theorem Ck(TY:s.handled=G){A C:Nat}{c:af}{p:J}{i TI TU n j h:af}(Q:C<2^24)(T:H A C=Y (c,c))(T1:T0.objs.size<=i)(T2:T0.objs.size<=n)(T9:T0.objs.size<=j):∀(m N:List V) {g:List V} {L:O} {l:ai},aR B TW T0 H L l.heap->L.get A C=Y (.list g)->g.length+m.length<=999->gR B H l.heap (.tup m) (.tup N) i TI TU n j h->
  (∀q D,aR B TW T0 H (L.set A C (Y (.list (g++hM m N)))) q->R (.ok (.ret p)) {l with heap:=q,toks:=D})->cu (aA B.prog B.w) s (.builtin "list.extend.loop" ⟨[.ref c,.ref i,p],[]⟩) R l
 |m,N,g,L,l,P,k,TX,Z,TZ=>by
  refine aD Z.bS λT7 Ub=>?_;have done:(m= []\/N= [])->cu (aA B.prog B.w) s (.builtin "list.extend.loop" ⟨[.ref c,.ref i,p],[]⟩) R l:=λhd=>by
   refine td (mq (B:=B) (P:=λW=>∃q D,W={l with heap:=q,toks:=D}/\a5 (fh i n j) l.heap q) (λW Ul=>?_) λUa Uq=>nZ Ub rfl (Ll (s:=s.in1.in1) TY P.rep Z (Ci hd) λq TR D x F=>Uq _ _ (d9 q D rfl x) F))
   refine dZ Ul λq D TR x=>?_;clear Ul;subst TR;refine TZ q D (U (Ch hd) ?_);rw[iK];refine(Cj P Z T1 T2 T9 x).congr λT8 T6=>?_;rw[O.get_set _ _ _ _ (λUi=>Q)];by_cases u:T8=A/\T6=C
   ·exact U (if_pos u) (U u.1 (U u.2 (U k rfl)))
   ·exact U (if_neg u) rfl
  induction m using aS with|nil=>exact done (.inl rfl)|cons y m=>
   induction N using aS with|nil=>exact done (.inr rfl)|cons X N=>
    refine td (nY (B:=B) (P:=Cg H l (fh i n j) (λq Ui=>gR B H q (.tup m) (.tup N) i TI TU n j h) y X) (λUd W T3=>?_) λUg Uk=>nZ Ub rfl (Lj P.rep Z (y:=y) (X:=X) (R:=.tup m) (b:=.tup N) rfl rfl λz T5 Uc q D x UC S I a o=>Uk _ _ ⟨z,T5,Uc,q,D,rfl,rfl,x,UC,S,I,a,o⟩));obtain ⟨z,T5,Uc,q,D,ev,TS,x,UC,S,I,a,o⟩:=T3;subst ev TS;have Uv:=Cj P Z T1 T2 T9 x;obtain ⟨_,e,⟨UR,UK⟩,Uj⟩:=Uv.rep.obj _ _ _ _ T k;have Uu:e.size=g.length:=by have:=Uj.length;exact this
    have Uf:aq H q (.tup [y,X]) (.ref z):=sP I (P.rep.fresh UC) a o;have TV:=xc (l:={l with heap:=q,toks:=D}) (D:=D) Uv T k Q UK Uj Uf
    replace TX:g.length+(m.length+1)<=999:=TX;refine xe UK rfl ?_ (by refine U Uu ?_;refine U cT ?_;lia) (by show(e.push _).size<=gF+1;rw[pm];refine U Uu ?_;refine U cT ?_;lia)
    have Ur:¬∃r,q.get? c=Y r/\∃t,r.data=.fields t:=λ⟨r,F,t,K⟩=>by have Vx:q.get? c=Y {cls:=.type "list",dict:=G,data:=.seq e UR,slots:= #[]}:=UK;rw[Vx] at F;obtain rfl:=an F;cases K
    have Un:∀{v:af} {r:bA},q.get? v=Y r->(∃t,r.data=.fields t)->v≠c:=λ{v r} F K u=>Ur (aC r (u▸F) K);have b:∀v f,aO H q v f->aO H (q.update c (eV (·.push (.ref z)))) v f:=λv f d=>d.keep d.bu λr F=>(f5 _ _ _ _ λu=>d.bu ⟨A,C,_,T,.inl u⟩).trans F
    refine aD S.bS λT4 Uh=>?_;have Us:gR B H (q.update c (eV (·.push (.ref z)))) (.tup m) (.tup N) i TI TU n j h:=by refine aD S.qw λUo j0=>⟨⟨T4,(f5 _ _ _ _ (Un Uh ⟨_,rfl⟩)).trans Uh⟩,⟨Uo,b _ _ j0⟩,(f5 _ _ _ _ λu=>S.hQ ⟨A,C,_,T,.inl u⟩).trans S.eI,S.dv.keep b λr F=>(f5 _ _ _ _ λu=>S.fM ⟨A,C,_,T,.inl u⟩).trans F,S.dw.keep b λr F=>(f5 _ _ _ _ λu=>S.fN ⟨A,C,_,T,.inl u⟩).trans F,S.ne,S.hQ,S.gg,S.fM,S.fN,S.hR,S.hS,S.hT⟩
    have Up:(L.set A C (Y (.list (g++ [.tup [y,X]])))).get A C=Y (.list (g++ [.tup [y,X]])):=by rw[O.get_set _ _ _ _ (λUi=>Q)];exact U (if_pos ⟨rfl,rfl⟩) rfl
    refine Ck TY Q T T1 T2 T9 m N TV Up (by refine U fL ?_;show g.length+1+m.length<=999;lia) Us λUe Um P3=>?_
    refine TZ Ue Um (P3.congr λT8 T6=>?_);rw[xd Q];have:g++hM (y::m) (X::N)=g++ [.tup [y,X]]++hM m N:=by show g++(.tup [y,X]::hM m N)=_;rw[Cm];rfl
    exact U this rfl
end
section
variable{B:aa}{H v:ax}{L:O}{s:aY}{l:ai}{T0:av}{R:eX->ai->Prop}
theorem xf{A C:Nat}{c:af}{S:bA->bA}{j:av}(T:H A C=Y (c,c)):(∀v r,j.get? v=Y r->¬foot H v->(j.update c S).get? v=Y r)/\∀v e,aO H j v e->aO H (j.update c S) v e:=
 ⟨λv r o b=>(f5 _ _ _ _ λu=>b ⟨A,C,_,T,.inl u⟩).trans o,λv e d=>d.keep d.bu λr F=>(f5 _ _ _ _ λu=>d.bu ⟨A,C,_,T,.inl u⟩).trans F⟩
theorem gR.upd{A C:Nat}{c:af}{S:bA->bA}{j:av}{v m:Src}{i TI b f Q R:af}(Z:gR B H j v m i TI b f Q R)(T:H A C=Y (c,c)):gR B H (j.update c S) v m i TI b f Q R:=by exact ak (xf (S:=S) (j:=j) T) λg n=>aD Z.bS λK P=>aD Z.qw λh j0=>⟨⟨K,g _ _ P Z.gg⟩,⟨h,n _ _ j0⟩,g _ _ Z.eI Z.hQ,Z.dv.keep n λr F=>g _ _ F Z.fM,Z.dw.keep n λr F=>g _ _ F Z.fN,Z.ne,Z.hQ,Z.gg,Z.fM,Z.fN,Z.hR,Z.hS,Z.hT⟩
theorem k9.upd{A C b a:Nat}{c:af}{S:bA->bA}{j:av}{p:J}{v m:Src}{i TI h f Q:af}(Z:k9 B H j p b a v m i TI h f Q)(T:H A C=Y (c,c)):k9 B H (j.update c S) p b a v m i TI h f Q:=by exact ak (xf (S:=S) (j:=j) T) λg n=>⟨Z.mo,g _ _ Z.bS Z.gg,g _ _ Z.eI Z.hQ,Z.dv.keep n λr F=>g _ _ F Z.fM,Z.dw.keep n λr F=>g _ _ F Z.fN,Z.ne,Z.p7,Z.hQ,Z.gg,Z.fM,Z.fN,Z.hR,Z.hS,Z.hT⟩
theorem Lo(TY:s.handled=G){A C p T:Nat}{c:af}{o:J}{i TI r a j:af}(d:C<2^24)(S:H A C=Y (c,c))(N:T0.objs.size<=i)(TU:T0.objs.size<=r)(k:T0.objs.size<=a)(e:T0.objs.size<=j)(t m:List V){g:List V}{L:O}{l:ai}(P:aR B v T0 H L l.heap)(f:L.get A C=Y (.list g))(Uh:L.get p T=Y .ce)(TW:g.length+t.length<=999)(Z:k9 B H l.heap .none p T (.tup t) (.tup m) i TI r a j)
  (TZ:∀q D,aR B v T0 H (L.set A C (Y (.list (g++hM t m)))) q->R (.ok (.ret o)) {l with heap:=q,toks:=D}):cu (aA B.prog B.w) s (.builtin "list.extend.loop" ⟨[.ref c,.ref i,o],[]⟩) R l:=by
 have I:=Z.ok P.rep Uh;have done:(t= []\/m= [])->cu (aA B.prog B.w) s (.builtin "list.extend.loop" ⟨[.ref c,.ref i,o],[]⟩) R l:=λhd=>by
  refine td (mq (B:=B) (P:=λW=>∃q D,W={l with heap:=q,toks:=D}/\a5 (eW i r a j) l.heap q/\∃Q T1,de q r Q T1) (λW TR=>?_) λUa Uq=>nZ Z.bS rfl (Bj (s:=s.in1.in1) TY P.rep I (Ci hd) λq Ul D x Q UR=>Uq _ _ (hE q D rfl x Q) UR))
  refine hD TR λq D Ul x Q=>?_;clear TR;subst Ul;refine TZ q D (U (Ch hd) ?_);rw[iK];refine(qb P I Q N TU k e x).1.congr λT6 T2=>?_;rw[O.get_set _ _ _ _ (λTS=>d)];by_cases u:T6=A/\T2=C
  ·exact U (if_pos u) (U u.1 (U u.2 (U f rfl)))
  ·exact U (if_neg u) rfl
 induction t using aS with|nil=>exact done (.inl rfl)|cons y t=>
  induction m using aS with|nil=>exact done (.inr rfl)|cons X m=>
   refine td (nY (B:=B) (P:=Cg H l (eW i r a j) (λq F=>ip B H L q (cB F) p T (.tup t) (.tup m) i TI r a j) y X) (λT1 W T3=>?_) λUg Uk=>nZ Z.bS rfl (Bi P.rep I (y:=y) (X:=X) (e:=.tup t) (K:=.tup m) rfl rfl λF T5 Uc q D x UC z b h K=>Uk _ _ ⟨F,T5,Uc,q,D,rfl,rfl,x,UC,z,b,h,K⟩));obtain ⟨F,T5,Uc,q,D,ev,Ud,x,UC,z,b,h,K⟩:=T3;subst ev Ud;have TX:=(qb P I z.p8 N TU k e x).1;obtain ⟨_,T9,⟨T7,UK⟩,Uj⟩:=TX.rep.obj _ _ _ _ S f;have Uu:T9.size=g.length:=by have:=Uj.length;simpa using this
   have T4:=P.rep.fresh UC;have Ui:aq H q (.tup [y,X]) (.ref F):=sP b T4 h K;have TV:=xc (l:={l with heap:=q,toks:=D}) (D:=D) TX S f d UK Uj Ui
   replace TW:g.length+(t.length+1)<=999:=TW;refine xe UK rfl ?_ (by refine U Uu ?_;refine U cT ?_;lia) (by show(T9.push _).size<=gF+1;rw[pm];refine U Uu ?_;refine U cT ?_;lia)
   have T8:gR B H q (.tup t) (.tup m) i TI r a j F:=⟨⟨E,z.bS⟩,⟨_,.of (n:=0) b T4⟩,z.eI,z.dv,z.dw,z.ne,z.hQ,z.gg,z.fM,z.fN,z.hR,z.hS,z.hT⟩;have Up:(L.set A C (Y (.list (g++ [.tup [y,X]])))).get A C=Y (.list (g++ [.tup [y,X]])):=by rw[O.get_set _ _ _ _ (λTS=>d)];exact U (if_pos ⟨rfl,rfl⟩) rfl
   refine Ck TY d S N k e t m TV Up (by refine U fL ?_;show g.length+1+t.length<=999;lia) (T8.upd S) λUe Um P3=>?_
   refine TZ Ue Um (P3.congr λT6 T2=>?_);rw[xd d];have:g++hM (y::t) (X::m)=g++ [.tup [y,X]]++hM t m:=by show g++(.tup [y,X]::hM t m)=_;rw[Cm];rfl
   exact U this rfl
theorem Lp{Uj a:J->ai->Prop}(j:s.handled=G){A C b o:Nat}{c:af}{m:J}(X:C<2^24)(S:H A C=Y (c,c))(t d:List V){g:List V}(P:aR B v T0 H L l.heap)(K:L.get A C=Y (.list g))(Uh:L.get b o=Y .ce)(T:g.length+t.length<=999)(R:cP B T0.objs.size H l.heap (.zip b o (.tup t) (.tup d)) m)
  (N:∀q D,aR B v T0 H (L.set A C (Y (.list (g++hM t d)))) q->a .none {l with heap:=q,toks:=D}):ao (aA B.prog B.w) s (bV (.builtin "list.extend") [.ref c,m]) a Uj l:=by
 obtain ⟨i,TI,UK,TS,TV,rfl,Z,T1,_,TU,T2,T9⟩:=R;obtain ⟨_,e,⟨z,W⟩,n⟩:=P.rep.obj _ _ _ _ S K;replace W:l.heap.get? c=Y {cls:=.type "list",dict:=G,data:=.seq e z,slots:= #[]}:=W;have y:e.size=g.length:=by have:=n.length;simpa using this
 have gS:l.TypeIs (.ref c) "list":=aC _ W rfl;have Q:l.TypeIs (.ref i) "zip":=aC _ Z.bS rfl;refine mf (sy ww.plain Iz (ww.check _ _ _ _ _ _ _ _ gS (IA _ _) ?_));show ao _ s.in1 (Builtin.List.listExtendWith (.ref c) (.ref i) .none) _ _ l;refine ab (te Q ?_);have TX:c≠i:=λu=>by rw[u,Z.bS] at W;simp at W
 have TR:Builtin.List.listSameRef (.ref c) (.ref i)=false:=by simp[Builtin.List.listSameRef,TX]
 have p:(sQ "zip"==sQ "list")=false:=by decide
 have x:(sQ "zip"==sQ "tuple")=false:=by decide
 simp only[TR,p,x,Bool.or_false,ms,if_false];refine ab (Bs Z.bS (ab (ck (ab (Bv Q Lm ?_)))));show ao _ s.in1 (specialOf (bZ i) (dt "__length_hint__")>>=_) _ _ _;refine ab (Bv Q Ln (aH ?_));show ao _ s.in1 (rule "list.extend.makes-room">>=λI=>Builtin.List.listTouch (.ref c)>>=λI=>
  s7 (.builtin "list.extend.loop" ⟨[.ref c,.ref i,.none],[]⟩)) _ _ _
 refine ab (hG (ab ?_));show ao _ s.in1 (sJ c (·.push .none)>>=λI=>sJ c (·.pop)) _ _ _
 refine ab (xe W rfl ?_ (by refine U y ?_;refine U cT ?_;lia) (by show(e.push _).size<=gF+1;rw[pm];refine U y ?_;refine U cT ?_;lia))
 have h:=xc (D:=l.toks) (y:=.none) (N:=.none) P S K X W n rfl;have r:=AY (n:=z) W (λi=>i.push cA);replace r:(l.heap.update c (eV (·.push cA))).get? c=Y {cls:=.type "list",dict:=G,data:=.seq (e.push .none) _,slots:= #[]}:=r
 refine xe r rfl ?_ (by rw[pm];refine U y ?_;refine U cT ?_;lia) (by show((e.push _).pop).size<=gF+1;refine U Array.size_pop ?_;rw[pm];refine U y ?_;refine U cT ?_;lia)
 have TY:(L.set A C (Y (.list (g++ [.none])))).get A C=Y (.list (g++ [.none])):=by rw[O.get_set _ _ _ _ (λI=>X)];exact U (if_pos ⟨rfl,rfl⟩) rfl
 have TZ:=(xf (S:=eV (·.push cA)) (j:=l.heap) S).2
 have Ux:aR B v T0 H ((L.set A C (Y (.list (g++ [.none])))).set A C (Y (.list g))) ((l.heap.update c (eV (·.push cA))).update c (eV (·.pop))):=
  h.trans (nS (l:={l with heap:=l.heap.update c (eV (·.push cA))}) (Z:=(c,c)) (c:=(·.pop)) h.rep S TY X r (by show aE H _ g ((e.push cA).pop).toList;exact U Array.pop_push (aE.ba (λI I I TW=>TW) TZ _ n)))
 have P3:aR B v T0 H L ((l.heap.update c (eV (·.push cA))).update c (eV (·.pop))):=Ux.congr λf k=>by
  rw[xd X,O.get_set _ _ _ _ (λI=>X)];by_cases u:f=A/\k=C
  ·exact U (if_pos u) (U u.1 (U u.2 (U K rfl)))
  ·exact U (if_neg u) rfl
 refine aH ⟨qx F.plain_extend_loop _,?_⟩;exact Lo (l:={l with heap:=(l.heap.update c (eV (·.push cA))).update c (eV (·.pop))}) j X S T1 TU T2 T9 t d P3 K Uh T ((Z.upd S).upd S) N
end
section
variable{B:aa}{S:Nat}{w:Inv B}{T3:cN}{Un:eS}{R:Rec}{a:a4}{k:aF}{Q:al}{L:O}{h:V->O->Prop}{D:Nat->Nat->O->Prop}
theorem Lq{n:List ah}{a:ah}(j:si n=Y a):n= [a]/\notStar a=true:=by
 induction n using aS with|nil=>exact ag j|cons o T=>
  induction T using aS with|cons=>exact ag j|nil=>
   replace j:(match vU o with|true=>Y o|false=>G)=Y a:=j
   generalize u:vU o=K;induction K using ap with|false=>rw[u] at j;exact ag j|true=>
    rw[u] at j;replace j:=an j;subst j;induction o using bE with|Call=>exact⟨rfl,rfl⟩|_=>exact aG u
theorem Lr{r:Option aj}(j:Ai r=M):r=Y .ce:=by
 induction r using aB with|none=>exact aG j|some r=>
  induction r using aj.casesOn with|ce=>rfl|_=>exact aG j
theorem Ls{N:V}{l:Src}(j:(vQ N l L).to h D):∃A C w a t f g,N=.ref A C/\l=.zip w a (.tup t) (.tup f)/\L.get A C=Y (.list g)/\L.get w a=Y .ce/\g.length+t.length<=999/\C<2^24/\h .none (L.set A C (Y (.list (g++hM t f)))):=by
 induction N using V.casesOn with
 |ref A C=>
  induction l using Src.casesOn with
  |zip w a v m=>
   induction v using Src.casesOn with
   |tup t=>
    induction m using Src.casesOn with|tup f=>exact au (cO j) λg b j=>ak (dr j) λp j=>ak (dr j) λQ j=>ak (dr j) λc j=>c9 A C w ⟨a,t,f,g,rfl,rfl,su b,Lr p,Nat.le_of_succ_le_succ (Nat.le_of_ble_eq_true Q),fb.mp c,j⟩|_=>exact j.elim
   |_=>exact j.elim
  |_=>exact j.elim
 |_=>exact j.elim
theorem Lu(ok:B.Fine)(mt:jT B Un)(Us:jS B)(K:ej B S R)(Um:a8 a k){W:Nat}{r p:ah}{v:am}{T:aN}{n:List ah}{t:aN}
  (Ui:gK r=E)(Uy:Nat.beq T.endLine t.line=M)(TW:Nat.blt n.length 30=M)(x:dN n=M)(Ub:si n=Y p)(T0:a0 (ay v) fI=M)
  (j:(dc T3 Un R (.vI (az W a r) (ay v) (ft (az W a) p)) Q L).to h D):bq B S k Q L (.Call (.Attribute r v T) n [] t) h D:=by
 refine ak (Lq Ub) λC U0=>?_;clear Ub;subst C;replace j:((R.e (az W a r) Q L).bind λN L=>cM (Al (iS Un L N (ay v))) (cM (a0 (ay v) fI) ((R.i (ft (az W a) p) Q L).bind λl L=>vQ N l L))).to h D:=j;rw[Res.bc] at j;show ae B S _ L (aX (.Call (.Attribute r v T) [p] [] t) k) _ _ _;refine U (sC r v T t [p] k Ui Uy TW x) (ae.bind (ae.q (K.e Um j) (λN A w=>?_)));intro b;refine ak (dr w) λTY w=>ak (dr w) λI w=>?_;have y:iS Un A N (ay v)=Y .lst:=by
  revert TY;generalize (iS Un A N (ay v))=Ug;induction Ug using aB with|none=>intro u;exact aG u|some UL=>
   induction UL using hL.casesOn with|lst=>exact λI=>rfl|_=>intro u;exact aG u
 rw[Res.bc] at w;refine br (A3 y) λUr Uq Up=>ae.standAt (ae.iM (R:=eE) (im .lst (ay v),[b]) A (ae.holding (AX ok mt y (λI I f=>f.2))) λUt=>λs T2 H l Uo F T5 f T6=>?_);have Uk:(im .lst (ay v),[b])=Ut:=f.2;subst Uk;have TZ:=f.1.1;have Uf:aq H l.heap N b:=f.1.2;have UC:im .lst (ay v)=.builtin "list.extend":=by have:ay v=fI:=dL.mp T0;refine U this ?_;rfl
 show ao _ s (wq t (im .lst (ay v)) [b] (eF t (eg [p] k)) []) _ _ l;refine U UC (wr (P:=λj=>B.K.In j) (by refine U (sz x) ?_;rfl) (nQ rfl) (sA x ?_))
 refine U (nl U0) ?_;have TR:iJ (eF t ((E,aX p k)::eg [] k))=(aX p k>>=λN=>bO [N] (pure [])>>=λT8=>pure (N::T8)):=rfl;refine U TR ?_;have d:=K.i Um w l.heap.objs.size s T2 H l Uo F T5 ⟨TZ,Nat.le_refl _⟩ T6;refine ab (b3 d (λUx Uz Uh=>?_));obtain ⟨Ua,UR,z,⟨UQ,X⟩,o,c⟩:=Uh;refine ab (ck (aH (aH ⟨ok.dR.keeps c.post.rep.stays,?_⟩)));refine cR (Ls X) λT1 TS g=>cR g λTU TX g=>pd g λUc Ud T4 C Ue T9 Ul Uu g=>ak g λUv T7=>?_;clear d Up y w TY;subst C;clear g X UQ;clear g;subst Ue;obtain ⟨Z,Uj,rfl⟩:=Uf;have m:=c.post.grow.1 _ _ _ Uj;have UA:Z.1=Z.2:=(c.post.rep.obj _ _ _ _ m T9).1;replace m:z T1 TS=Y (Z.1,Z.1):=by refine U m ?_;congr 1;exact xg rfl UA.symm
 replace o:cP B l.heap.objs.size z Uz.heap (.zip TU TX (.tup Uc) (.tup Ud)) Ux:=o;show ao _ s (bV (.builtin "list.extend") ([.ref Z.1]++ [Ux])) _ _ Uz;exact Lp Uo.handled Uv m Uc Ud c.post T9 Ul Uu o λUw TV P=>⟨.none,_,z,T7,rfl,⟨P,⟨c.same.1,c.same.2⟩⟩⟩
end
section
variable{B:aa}{S:Nat}{i:cN}{I:eS}{R:Rec}{a:a4}{k:aF}{Q:al}{L:O}{D:Nat->Nat->O->Prop}
theorem Lv(d:ah):(∃r v Z,d=.Attribute r v Z)\/∀r v Z,d≠.Attribute r v Z:=by
 induction d using bE with|Attribute r v Z=>exact .inl (c9 r v Z rfl)|_=>exact .inr λI I I j=>(nomatch j)
theorem Lw(ok:B.Fine)(mt:jT B I)(X:jS B)(K:ej B S R)(m:gN B S i)(x:a8 a k){h:V->O->Prop}{W:Nat}{o:ah}(j:(dc i I R (az W a o) Q L).to h D):bq B S k Q L o h D:=by
 induction W using Nat.casesOn with|zero=>exact j.elim|succ W=>
  induction o using bE with
  |Constant TU A Z=>exact HD j|Name y Z=>exact HE ok x j|Tuple n A Z=>exact HF K.toROk x j|List n Z=>exact HG K.toROk x j|Dict T2 e Z=>exact Lg K.toROk x j|BinOp g C T Z=>exact HH K.toROk x j|UnaryOp C y Z=>exact HI K.toROk x j|BoolOp C n Z=>exact Gp (K.b x j)|IfExp d v TW Z=>exact HJ K.toROk x j|Compare g TY t Z=>exact HK ok K.toROk x j|Attribute N v Z=>exact HM ok K.toROk x j|Subscript N TR Z=>exact H5 ok K.toROk x K.lit j|ListComp TZ UM c Z=>exact KW K x j|Call l n f Z=>
   induction f using aS with|cons=>exact j.elim|nil=>
    replace j:(dc i I R (kT (az W a) l n Z) Q L).to h D:=j;rcases Lv l with⟨r,v,Us,rfl⟩|F
    ·refine fW (I1 (P:=λz=>(dc i I R z Q L).to h D) j (λj=>j)) λH p w q j=>?_;unfold pS at j;split at j
     ·rename_i u s;exact Lu ok mt X K x H p w q s u j
     ·exact I2 ok mt X K.toROk m x H p w q j
    ·exact H9 ok X K.toROk m x F j
  |_=>exact j.elim
theorem Lx{w:bF B k}{h:FM->al->O->Prop}{d x:ah}{z:aN}(g:ja x (Y d) z.line k=pure E)(X:isTup d=E)(u:∀C Z,d≠.List C Z)(l:notStar d=M)
  (j:bq B S k Q L x (λy a=>∀N,aI B S k (l7 y N) Q a (cU d k N) fH (λI P n=>h .next P n) D) D):aI B S k w Q L (b0 (.Assign [d] x z) k) bU h D:=by
 have o:b0 (.Assign [d] x z) k=(bT z>>=λI=>aX x k>>=λN=>qj N [cU d k]>>=λI=>pure gm):=by
  have c:b0 (.Assign [d] x z) k=(bT z>>=λI=>ja x (Y d) z.line k>>=λm=>if m=M then(wY x k λN=>qj N ((c0 [d] k).map (·.2)))>>=λI=>pure gm else aX x k>>=λN=>lg [d] x k>>=λe=>s0 k N e ((c0 [d] k).map (·.2))):=rfl
  refine U c (U g (U (wX X u) ?_));have t:(c0 [d] k).map (·.2)= [cU d k]:=by clear c j u X g;induction d using bE <;>first|rfl|exact aG l
  refine U t ?_;rfl
 refine U o (aI.standAt (aI.bind (aI.mono (aI.of j) λy W a F=>ak F λt A=>?_)));clear F;refine U t ?_;intro N;refine aI.bind (aI.mono (aI.weak (A N) λI I f=>f.2) λI i b p=>?_);intro _;exact aI.pure (v:=gm) (m:=FM.next) p λI I I I I=>rfl
theorem xh(j:(pure E:aZ Bool)=pure M):False:=by
 replace j:Sem.pure E=Sem.pure true:=j;injection j with j
 exact aG j
theorem Ly(x d:ah)(C:Nat):(∃m,ja x (Y d) C k=pure m)/\(ja x (Y d) C k=pure M->∃y Z,d=.Name y Z):=by induction x using bE <;>first|exact⟨⟨E,rfl⟩,λj=>(xh j).elim⟩|(induction d using bE <;>first|exact⟨⟨_,rfl⟩,λI=>ea _ _ rfl⟩|exact⟨⟨E,rfl⟩,λj=>(xh j).elim⟩)
theorem Lz{W:Nat}{d:ah}(X:sm (fK W a d)=M):isTup d=E/\(∀n Z,d≠.List n Z)/\notStar d=true:=by induction d using bE <;>first|exact aG X|(refine aQ rfl (λI I j=>?_) rfl;cases j;done)
theorem LA{x:ah}{d:Option ah}{C:Nat}(T:ja x d C k=pure M):(∃o c l Z,x=.ListComp o c l Z)\/(∃o c l Z,x=.SetComp o c l Z)\/∃A N c l Z,x=.DictComp A N c l Z:=by induction x using bE <;>first|exact(xh T).elim|exact .inl (c9 _ _ _ ⟨_,rfl⟩)|exact .inr (.inl (c9 _ _ _ ⟨_,rfl⟩))|exact .inr (.inr (c9 _ _ _ ⟨_,_,rfl⟩))
theorem LB(ok:B.Fine)(K:ej B S R)(g:a8 a k){w:bF B k}{h:FM->al->O->Prop}{W:Nat}{n x:ah}{z:aN}(X:sm (fK W a n)=M)
  (j:((R.e (az W a x) Q L).toS Q λN L=>(kR R (fK W a n) N Q L).toS Q λQ L=>.ok .next Q L).to h D):aI B S k w Q L (b0 (.Assign [n] x z) k) bU h D:=by
 have bG:=Lz X;refine hd λTR v=>ak (@Ly k x n z.line) λs l=>?_;obtain ⟨m,F⟩:=s;induction m using ap with|false=>exact v (Lx F bG.1 bG.2.1 bG.2.2 (ae.q (K.e g (hr j)) (λy T0 T I=>wZ (h:=λP b=>h .next P b) ok K.toROk g (λI I f=>f) (hr T))))|true=>
  refine cR (l F) λy Z r=>?_;clear bG;subst r;rcases LA F with⟨i,o,c,t,rfl⟩|⟨i,o,c,t,rfl⟩|⟨A,N,o,c,t,rfl⟩
  ·have H:fK W a (.Name y Z)=(match dM a y with|some f=>hl.name f|none=>hl.bad):=rfl
   generalize C:dM a y=p at H;induction p using aB with|none=>rw[H] at X;exact aG X|some f=>rw[H] at j;exact v (K.u g C F (Res.hO (hr j) λN L d=>d))
  ·have:az W a (.SetComp i o c t)=.bad:=by clear j X;induction W using Nat.casesOn <;>rfl
   rw[this,K.bad] at j;exact j.elim
  ·have:az W a (.DictComp A N o c t)=.bad:=by clear j X;induction W using Nat.casesOn <;>rfl
   rw[this,K.bad] at j;exact j.elim
end
section
variable{B:aa}{S:Nat}{H:cN}{I:eS}{R:Rec}{a:a4}{k:aF}{Q:al}{L:O}{h:FM->al->O->Prop}{D:Nat->Nat->O->Prop}
theorem mC{m:Bool}{z:eh}(j:(kS R (jQ m z) Q L).to h D):m=M/\(kS R z Q L).to h D:=by
 induction m using ap with|true=>exact⟨rfl,j⟩|false=>exact j.elim
theorem je{N:Type}{r:Option N}{c:N->eh}(j:(kS R (ij r c) Q L).to h D):∃v,r=Y v/\(kS R (c v) Q L).to h D:=by
 induction r using aB with|none=>exact j.elim|some v=>exact aC v rfl j
theorem xi{o:ah}{y:am}(j:so o=Y y):∃Z,o=.Name y Z:=by
 induction o using bE with|Name X Z=>exact U (an j).symm (⟨Z,rfl⟩)|_=>exact ag j
theorem Cn{m:List aP}{o:ah}(j:vZ m=Y o):∃Z,m= [.Return (Y o) Z]:=by
 induction m using aS with|nil=>exact ag j|cons l T=>
  induction T using aS with|cons=>exact ag j|nil=>
   induction l using xj with|Return k Z=>exact U ((show k=Y o from j)).symm (⟨Z,rfl⟩)|_=>exact ag j
theorem LC{R:List v0}{u:As}(j:At R=Y u):∃z Z,R= [.ExceptHandler (Y (.Name u.t z)) (Y u.x) u.b Z]:=by
 induction R using aS with|nil=>exact ag j|cons l T=>
  induction T using aS with|cons=>exact ag j|nil=>obtain ⟨d,y,m,Z⟩:=l;refine au (ii j) λi Q j=>U Q ?_;refine au (ii j) λp Q j=>U Q ?_;refine au (ii j) λC X j=>aD (xi X) λz Q=>?_;clear X;refine U Q ?_;exact U (an j).symm (ea z Z rfl)
theorem Co{o:ah}{t:am}(j:v1 o=Y t):∃A Z,o=.Constant (.str t) A Z:=by
 induction o using bE with
 |Constant B A Z=>
  induction B using wb with|str X=>exact U (an j).symm (ea A Z rfl)|_=>exact ag j
 |_=>exact ag j
theorem LD{o:ah}{u:am×am}(j:Au o=Y u):∃R f,o=.Attribute (.Name u.1 R) u.2 f:=by
 induction o using bE with|Attribute r a Z=>refine au (ii j) λX C j=>aD (xi C) λR Q=>?_;clear C;refine U Q ?_;exact U (an j).symm (ea R Z rfl)|_=>exact ag j
theorem LF{o:ah}{i:am×am×am}(j:Av o=Y i):∃b I R f S x,o=.Tuple [.Constant (.str i.1) b I,.Attribute (.Name i.2.1 R) i.2.2 f] S x:=by
 induction o using bE with
 |Tuple n S x=>
  rcases n with _|⟨v,_|⟨m,_|⟨y,T⟩⟩⟩
  ·exact ag j
  ·exact ag j
  ·refine au (ii j) λt q j=>au (ii j) λu p j=>U (an j).symm ?_;refine cR (Co q) λb I Q=>?_;clear q;refine U Q ?_;refine cR (LD p) λR f Q=>?_;clear j p;refine U Q ?_;exact c9 b I R ⟨f,S,x,rfl⟩
  ·exact ag j
 |_=>exact ag j
theorem LG{r:Option db}(j:Aw r=M):r=Y .local:=by
 induction r using aB with|none=>exact aG j|some A=>
  induction A using eU with|«local»=>rfl|_=>exact aG j
theorem LH(ok:B.Fine)(I:jc B)(K:ej B S R)(x:a8 a k){W:Nat}{A:List aP}{P:List v0}{w m:List aP}{Z:aN}(j:(kS R (Ax (az W a) a A P w m) Q L).to h D):aI B S k bF.none Q L (b0 (.Try A P w m Z) k) bU h D:=by refine hd λTV n=>ak (mC j) λq j=>au (je j) λo b j=>au (je j) λu p j=>au (je j) λT r j=>au (je j) λi H j=>au (je j) λTR l j=>au (je j) λTW f j=>au (je j) λT9 F j=>ak (mC j) λz N=>?_;have C:(sh (ay i.1) (ay i.2.2) Q (R.e (az W a o) Q L)).to h D:=N;clear N j;refine ak (b8 q) λX t=>ak (b8 z) λg v=>ak (b8 g) λy c=>n (U (me X) (U (me t) (aD (Cn b) λUl d=>?_)));clear b;refine U d ?_;refine cR (LC p) λT5 TU d=>?_;clear j n p;clear j;refine U d ?_;refine aD (Cn r) λUb r=>cR (LF H) λUj TX s=>cR s λTY T1 s=>cR s λUf TS d=>?_;clear s H;clear s;subst d;exact U r (K9 ok I K.toROk x l (by refine U f ?_;exact U (Nat.eq_of_beq_eq_true y) rfl) (LG c) F v C)
theorem LI(ok:B.Fine)(C:jc B)(K:ej B S R)(g:a8 a k){W:Nat}{st:aP}(j:(kS R (bY W a st) Q L).to h D):aI B S k bF.none Q L (b0 st k) bU h D:=by
 induction W using Nat.casesOn with|zero=>exact j.elim|succ W=>
  induction st using xj with
  |Pass z=>exact JZ j|Return o z=>refine au (je j) λo s j=>U s ?_;exact BP (K.e g (hr j))|Expr o z=>exact ak (mC j) λl j=>J0 (k6 l) (K.e g (hr j))|Assign N o z=>
   rcases N with _|⟨n,_|⟨Uc,Vg⟩⟩
   ·exact j.elim
   ·have y:(kS R (jQ (sm (fK W a n)) (.assign (fK W a n) (az W a o))) Q L).to h D->aI B S k bF.none Q L (b0 (.Assign [n] o z) k) bU h D:=λj=>ak (mC j) λH j=>LB ok K g H j;induction n using bE with|Tuple TY T2 T1=>exact ak (mC j) λc j=>ak (b8 c) λc x=>ak (b8 c) λb r=>Kr ok K.toROk g (k6 b) (k6 r) x j|_=>exact y j
   ·exact j.elim
  |If n UG m z=>
   refine J2 (ae.q (K.t (d:=W) g (hr j)) (λu X p=>?_));induction u using ap with|true=>exact K.ss g p|false=>exact K.ss g p
  |While n m v z=>exact ak (mC j) λc j=>U (me c) (BL (K.w g j L))|For n TR m v z=>refine ak (mC j) λc j=>au (je j) λUA b j=>ak (b8 c) λZ A=>U (me Z) ?_;exact wV (k6 A) λI=>ae.q (K.i (d:=W) g (hr j) I) (λf X F=>(by refine ak F λP j=>?_;clear F;exact⟨P,K.tc g b j L⟩))|Raise o T z=>
   induction T using aB with|some=>exact j.elim|none=>refine au (je j) λo s j=>U s ?_;exact Kv ok C K.toROk g j
  |Try Ut UQ v Us z=>exact LH ok C K g j|_=>exact j.elim
theorem LJ(K:ej B S R)(g:a8 a k){W:Nat}{c:List aP}(j:(An R (c.map (bY W a)) Q L).to h D):aI B S k bF.none Q L (bb c k) bU h D:=by
 induction c using aS with|nil=>exact BM j|cons st T=>
  replace j:((R.s (bY W a st) Q L).bind λQ L=>R.ss (T.map (bY W a)) Q L).to h D:=j;refine qh (aI.mono (K.s g (be.bc j)) λu b l A=>?_);induction u using FM.casesOn with|next=>exact K.ss g A|ret N=>exact A|brk=>exact A.elim|cont=>exact A.elim
end
section
variable{B:aa}{S:Nat}{T3:cN}{Un:eS}
theorem qy(ok:B.Fine)(mt:jT B Un)(Us:jS B)(TY:jc B)(TW:gN B S T3):∀C,ej B S (ev T3 Un C):=by
 intro x;induction x with
 |zero=>
  exact{
    bad:=λI I=>rfl
    e:=λI j=>j.elim
    bw:=λI j=>j.elim
    t:=λI j=>j.elim
    a:=λI j=>j.elim
    b:=λI j=>j.elim
    i:=λI j=>j.elim
    qu:=λI I I I I j=>j.elim
    lit:=λI I I=>.inr rfl
    u:=λI I I j=>j.elim
    s:=λI j=>j.elim
    ss:=λI j=>j.elim
    w:=λI j=>j.elim
    tc:=λI I j=>j.elim}
 |succ C R=>
  have K:=R;exact{
   bad:=λI I=>rfl
   e:=λg j=>Lw ok mt Us K TW g j
   bw:=λg j=>Hl K.toROk g j
   t:=λg j=>Hw ok K.toROk g j
   a:=λg j=>HN K.toROk g j
   b:=λg j=>HO K.toROk g j
   i:=λg j TX=>JL ok K.toROk K.lit g j
   qu:=λg v H z P j=>KI K.toROk g v (λj=>K.i g j) H z P (λQ L Z Ui j=>K.qu g v H z P j) (λUc Uk Uo T9 Ul Uu Q L Z Ui h j=>K.qu (ifs:= []) g v T9 Ul (.inl ⟨rfl,Uu⟩) j) j
   lit:=λI I I=>.inl rfl
   u:=λ{W F k Q L D UA Ur UM Ub TR TZ Uj TU Ud h} g Uw Ug j=>by
    induction W using Nat.casesOn with|zero=>exact j.elim|succ W=>exact KY K g Uw Ug j
   s:=λg j=>LI ok TY K g j
   ss:=λg j=>LJ K g j
   w:=λ{W F k Q L h D n m} g j y=>BK (T:=λX=>((ev T3 Un C).ss (m.map (bY W F)) Q X).to (gj (λQ L=>((ev T3 Un C).w (az W F n) (m.map (bY W F)) Q L).to h D) h) D) (K:=λQ L=>((ev T3 Un C).w (az W F n) (m.map (bY W F)) Q L).to h D) (λI j=>K.ss g j) (λI I j=>K.w g j y) (ae.q (K.t g (hr j)) (λd X p=>by
    induction d using ap with|true=>exact be.bc p|false=>exact p))
   tc:=λ{W F k Q L h D n T m Z} g z j y=>sZ (K:=λl Q L=>((ev T3 Un C).f T (m.map (bY W F)) l Q L).to h D) g z rfl (λI I I j=>K.tc g z j y) (by
    have j:(match nextM L Z with
     |G=>be.no|some G=>.ok .next Q L|some (Y (N,A))=>match walk Q A T N with
      |G=>.no|some c=>((ev T3 Un C).ss (m.map (bY W F)) c L).bind λQ L=>(ev T3 Un C).f T (m.map (bY W F)) A Q L).to h D:=j
    revert j;generalize (nextM L Z)=o;induction o using aB with|none=>exact λj=>j|some r=>
     induction r using aB with|none=>exact λj=>j|some d=>
      obtain ⟨N,A⟩:=d;intro j;have j:(match walk Q A T N with
       |G=>be.no|some c=>((ev T3 Un C).ss (m.map (bY W F)) c L).bind λQ L=>(ev T3 Un C).f T (m.map (bY W F)) A Q L).to h D:=j
      generalize T4:walk Q A T N=o at j;induction o using aB with|none=>exact j.elim|some c=>exact aC c T4 (K.ss g (be.bc j)))}
end
theorem tf :∀{B:List am} {e:List J} {f:Nat} (j:f<B.length),B.Nodup->(B.zip e).lookup B[f]=e[f]?
 | [],_,_,j,_=>absurd j (Nat.not_lt_zero _)|C::T,[],_,_,_=>by simp|C::T,N::e,0,_,_=>by simp|C::T,N::e,f+1,j,K=>by
  refine ak (gn.mp K) λc H=>?_;have q:f<T.length:=Nat.lt_of_succ_lt_succ j;have D:(T[f]==C)=false:=by rw[beq_eq_false_iff_ne];intro u;exact c (u▸Cp q)
  refine U s3 ?_;rw[List.getElem_cons_succ];refine U ia (U D (U (List.getElem?_cons_succ) ?_));exact tf q H
noncomputable def mD(a:List (am×J)):List (am×J)->List (am×J)
 | []=>a|(C,W)::T=>mD (if(a.lookup C).isNone=M then a++ [(C,W)] else a) T
theorem LK{a:List (am×J)}{z C:am}{W:J}:(a++ [(z,W)]).lookup C=(a.lookup C).or (if C==z then Y W else G):=by
 induction a with|nil=>rw[List.nil_append];refine U ia (U List.lookup_nil ?_);generalize (C==z)=K;induction K using ap <;>rfl|cons Z T F=>obtain ⟨v,m⟩:=Z;refine U List.cons_append (U ia (U ia (U F ?_)));generalize (C==v)=K;induction K using ap <;>rfl
theorem LL :∀(g a:List (am×J)) (C:am),(mD a g).lookup C=(a.lookup C).or (g.lookup C):=by
 intro s;induction s with|nil=>intro a C;generalize u:(a.lookup C)=K;induction K using aB <;>simp[mD,u]|cons r T F=>
  obtain ⟨z,W⟩:=r;intro a C;refine U (F _ C) (U ia ?_);generalize u:(a.lookup z)=K;induction K using aB with
  |none=>
   refine U (if_pos (by decide)) (U LK ?_)
   generalize X:(C==z)=K;induction K using ap with|true=>have:=eq_of_beq X;clear X;subst this;simp[u]|false=>generalize (a.lookup C)=K;induction K using aB <;>simp
  |some N=>
   simp only[Li,ms,if_false];generalize X:(C==z)=K;induction K using ap with|true=>have:=eq_of_beq X;clear X;subst this;simp[u]|false=>rfl
theorem LM{B:List am}{n:List J}{c:am->Option (am×J)}:∀(_:n.length=B.length),(∀f (j:f<B.length) (q:f<n.length),c B[f]=Y (B[f],n[f]))->B.filterMap c=B.zip n:=by
 induction B generalizing n with
 |nil=>intro u _;clear a;induction n using aS with|nil=>rfl|cons=>cases u
 |cons C T F=>
  intro u j;induction n using aS with|nil=>cases u|cons t n=>
   have d:=j 0 (by simp) (by simp)
   simp only[List.getElem_cons_zero] at d;refine U wo (U d (U s3 ?_));simp only;exact U (F (Nat.succ.inj u) λf b p=>by have:=j (f+1) (Nat.succ_lt_succ b) (Nat.succ_lt_succ p);simpa using this) rfl
theorem LN{B:List am}{e d:List J}{v m A:Nat}(X:B.length=A+m+v)(i:e.length=A+m)(hd:d.length=m+v)(K:B.Nodup){f:Nat}(b:f<B.length)(j:f<(e++d.drop m).length):
  (mD (B.zip e) ((B.drop A).zip d)).lookup B[f]=Y (e++d.drop m)[f]:=by
 rw[LL];refine U (tf b K) ?_;by_cases u:f<e.length
 ·refine U (kI u) ?_;refine U (List.getElem_append_left u) ?_;rfl
 ·replace u:=Nat.le_of_not_lt u;have h:A<=f:=Nat.le_trans (Nat.le_add_right A m) (i▸u);have c:f-A<(B.drop A).length:=by refine U Cq ?_;exact Nat.sub_lt_sub_right h b
  have t:B[f]=(B.drop A)[f-A]'c:=by refine U LO ?_;congr 1;exact(Nat.add_sub_cancel' h).symm
  have a:f-A<d.length:=by refine U hd ?_;rw[X] at b;exact Nat.sub_lt_left_of_lt_add h (by rw[<-Nat.add_assoc];exact b)
  have g:(e++d.drop m)[f]=d[f-A]:=by refine U (List.getElem_append_right u) (U LO ?_);congr 1;refine U i ?_;rw[Nat.sub_add_eq];exact Nat.add_sub_cancel' (Nat.le_sub_of_add_le (by rw[Nat.add_comm];exact i▸u))
  refine U (LP u) ?_;refine U Option.none_or (U t (U (tf c (K.sublist (List.drop_sublist _ _))) (U (kI a) ?_)));exact U g rfl
theorem LQ :∀(g a:List (am×J)),forIn (m:=aZ) g a (λy (d:List (am×J))=>if(qs y.fst d).isNone=M then pure (qm (d++ [(y.fst,y.snd)])) else pure (qm d))=pure (mD a g):=by
 intro s;induction s with|nil=>intro I;exact rfl|cons y g F=>
  intro a;rw[mm];unfold mD;by_cases u:(qs y.fst a).isNone=M
  ·refine U (if_pos u) (U (if_pos u) ?_);rw[pure_bind];exact F _
  ·refine U (if_neg u) (U (if_neg u) ?_);rw[pure_bind];exact F _
theorem LR{B:List am}{e:List J}{A:Nat}(m:A<=e.length)(K:B.Nodup):(!((B.take A).filter (λC=>((B.zip e).lookup C).isNone)).isEmpty)=false:=by
 rw[List.filter_eq_nil_iff.mpr]
 ·rfl
 intro C X;obtain ⟨f,b,rfl⟩:=List.mem_iff_getElem.mp X;rw[List.length_take] at b;refine U List.getElem_take (U (tf (Nat.lt_of_lt_of_le b (Nat.min_le_right ..)) K) (U (kI (Nat.lt_of_lt_of_le (Nat.lt_of_lt_of_le b (Nat.min_le_left ..)) m)) ?_));exact i3
noncomputable def qz(T:Option (Array J))(C:Nat):List Value:=(T.getD #[]).toList.drop ((T.getD #[]).toList.length-C)
def Cr(b:aZ (Option (Array J)))(B:List am)(vs:List J)(X h:Option (Array J)->aZ (List (am×J))):aZ (List (am×J)):=b>>=λT=>
 if(decide (vs.length>B.length)&&M)=M then X T else
 if(!((B.take (B.length-(qz T B.length).length)).filter (λC=>((B.zip vs).lookup C).isNone)).isEmpty)=M then h T else
 forIn (m:=aZ) ((B.drop (B.length-(qz T B.length).length)).zip (qz T B.length)) (B.zip vs)
   (λx (d:List (am×J))=>if(qs x.fst d).isNone=M then pure (qm (d++ [(x.fst,x.snd)])) else pure (qm d))>>=λa=>pure ((B++ []).filterMap λC=>(a.lookup C).map (C,·))
theorem LS{z:Cs}{c:List Arg}{f:List (Option ah)}{k:List ah}(e:List J)(S:z.params=⟨[],c,G,[],f,G,k⟩):∃X h,bindArgs z ⟨e,[]⟩=Cr (seqItems? z.defaults) (c.map (·.arg)) e X h:=by obtain ⟨_,_,P,_,_,_,_,_,_,_,_,_,_,_⟩:=z;replace S:P=_:=S;subst S;exact ea _ _ rfl
theorem three{C N W:Nat}(b:N<=C)(p:C-N<=W)(x:W<=C):∃v m A,C=A+m+v/\N=A+m/\W=m+v:=by refine aD (Nat.le.dest b) λv Q=>?_;subst Q;rw[Nat.add_sub_cancel_left] at p;refine aD (Nat.le.dest p) λm Q=>?_;clear p;subst Q;rw[Nat.add_comm v m] at x;refine aD (Nat.le.dest (Nat.le_of_add_le_add_right x)) λA Q=>?_;clear x b;subst Q;exact zc v m A (U (Nat.add_comm m A) rfl) (Nat.add_comm m A) (Nat.add_comm v m)
theorem LU{B:List am}{e d:List J}{v m A:Nat}(X:B.length=A+m+v)(i:e.length=A+m)(hd:d.length=m+v)(K:B.Nodup):
  (B.filterMap λC=>((mD (B.zip e) ((B.drop A).zip d)).lookup C).map (C,·))=B.zip (e++d.drop m):=by
 refine LM ?_ λf b j=>?_
 ·refine U fL (U Cq (U X (U i (U hd ?_))));rw[Nat.add_sub_cancel_left]
 ·refine U (LN X i hd K b j) ?_;rfl
theorem LV{i:gD}{s:aY}{n:J->ai->Prop}{l:ai}{B:List am}{e:List J}{v m A:Nat}{T:Option (Array J)}{a:List (am×J)->ai->Prop}{b:aZ (Option (Array J))}{X h:Option (Array J)->aZ (List (am×J))}
  (hd:∀a:Option (Array J)->ai->Prop,a T l->ao i s b a n l)(K:B.Nodup)(I:B.length=A+m+v)(ev:e.length=A+m)(g:(T.getD #[]).toList.length=m+v)
  (j:a (B.zip (e++(T.getD #[]).toList.drop m)) l):ao i s (Cr b B e X h) a n l:=by
 refine ab (hd _ ?_);have t:qz T B.length=(T.getD #[]).toList:=by unfold qz;refine U I (U g ?_);rw[Nat.add_assoc];exact U (Nat.sub_eq_zero_of_le (Nat.le_add_left ..)) (U JM rfl)
 refine U t ?_;generalize (T.getD #[]).toList=d at j g;refine U (show B.length-d.length=A by rw[I,g,Nat.add_assoc,Nat.add_sub_cancel]) (LW (decide_eq_false λu=>?_) (LW (decide_eq_false λu=>?_) ?_))
 ·replace u:=of_decide_eq_true ((zq _).symm.trans u);rw[I,ev] at u;exact Nat.lt_irrefl _ (Nat.lt_of_le_of_lt (Nat.le_add_right ..) u)
 ·exact i3 ((LR (ev▸Nat.le_add_right A m) K).symm.trans u)
 ·rw[LQ];refine aH ?_;rw[iK,LU I ev g K];exact j
theorem Ct{i:gD}{s:aY}{n:J->ai->Prop}{l:ai}{z:Cs}{c:List Arg}{f:List (Option ah)}{k:List ah}{e d:List J}{T:Option (Array J)}{a:List (am×J)->ai->Prop}(S:z.params=⟨[],c,G,[],f,G,k⟩)
  (C:(T.getD #[]).toList=d)(hd:∀a:Option (Array J)->ai->Prop,a T l->ao i s (seqItems? z.defaults) a n l)
  (K:(c.map (·.arg)).Nodup)(b:e.length<=c.length)(p:c.length-e.length<=d.length)(x:d.length<=c.length)
  (j:a ((c.map (·.arg)).zip (e++d.drop (d.length-(c.length-e.length)))) l):ao i s (bindArgs z ⟨e,[]⟩) a n l:=by
 refine cR (LS e S) λX h o=>?_;have u:(c.map (·.arg)).length=c.length:=i4 ..
 refine nd (three b p x) λv m A I ev g=>?_;rw[show d.length-(c.length-e.length)=m by refine U I ?_;refine U ev ?_;refine U g ?_;rw[Nat.add_sub_cancel_left,Nat.add_sub_cancel]] at j
 refine U o ?_;clear x p;subst C;exact LV hd K (u.trans I) ev g j
theorem qA{v:Nat}:∀{g:List Nat},c5 v g=M<->v∈g:=by
 intro s;induction s with|nil=>simp[c5]|cons m T F=>
  show(match Nat.beq m v with|true=>M|false=>c5 v T)=M<->_
  rw[bl.cH];by_cases u:m=v
  ·simp[u]
  ·simp[u,h8 u,F]
theorem Cu :∀{g:List Nat},distinct g=M->g.Nodup:=by
 intro s;induction s with|nil=>intro I;exact jb|cons f T F=>
  intro j;unfold distinct at j;generalize u:c5 f T=K at j;induction K using ap with|true=>exact aG j|false=>refine gn.mpr ⟨λh=>?_,F j⟩;rw[qA.mpr h] at u;exact cS u
theorem LX :∀(g:a4),pV g=g.map (·.1):=by
 intro s;induction s with|nil=>exact rfl|cons Z T F=>show Z.1::pV T=_;refine U F ?_;rfl
structure LY(a:hN)(gc:List Nat)(ds:List V)(scope:cn):Prop where
 args:∃kd df,a=⟨[],a.args,G,[],kd,G,df⟩
 kind:scope.kind=.function
 gen:scope.isGenerator=E
 co:scope.isCoroutine=E
 plain:plainNames scope.names=M
 xk:gc.Nodup
 params:mc (bx scope.names) gc=M
 ds:ds.length<=gc.length
 keys:(scope.names.map (·.1)).Nodup
theorem LZ :∀{B:List (am×db)},plainNames B=M->(pV (bx B)).Nodup->(B.map (·.1)).Nodup:=by
 intro s;induction s with|nil=>intro I I;exact jb|cons r T F=>
  obtain ⟨y,A⟩:=r;intro j K;refine fV (ta j) λf b I I C=>?_;have o:bx ((y,A)::T)=(f,A)::bx T:=by
   show(match bt y with|some f=>(f,A)::bx T|none=>bx T)=_
   exact U b rfl
  rw[o] at K;refine ak (gn.mp K) λN H=>gn.mpr ⟨λh=>N ?_,F C H⟩;refine hd λi W=>au (fg.mp h) λe t u=>?_;obtain ⟨X,w⟩:=e;replace u:X=y:=u;clear h o j;subst u;refine au (tb C t) λk c a=>?_;rw[b] at c;obtain rfl:=an c;refine W ?_;rw[LX];exact fg.mpr (aC _ a rfl)
set_option backward.match.sparseCases false in
theorem L0{v m B W y:Bool}(j:(match v,m,B,W with
 |true,M,E,E=>y|_,_,_,_=>E)=M):v=M/\m=M/\B=E/\W=E/\y=true:=by
 induction v using ap with|false=>exact aG j|true=>
  induction m using ap with|false=>exact aG j|true=>
   induction B using ap with|true=>exact aG j|false=>
    induction W using ap with|true=>exact aG j|false=>exact⟨rfl,rfl,rfl,rfl,j⟩
set_option backward.match.sparseCases false in
theorem L1{v m B W y:Bool}(j:(match v,m,B,W,y with
 |true,M,M,M,M=>M|_,_,_,_,_=>E)=M):v=M/\m=M/\B=M/\W=M/\y=true:=by
 induction v using ap with|false=>exact aG j|true=>
  induction m using ap with|false=>exact aG j|true=>
   induction B using ap with|false=>exact aG j|true=>
    induction W using ap with|false=>exact aG j|true=>
     induction y using ap with|false=>exact aG j|true=>exact⟨rfl,rfl,rfl,rfl,rfl⟩
theorem Cv{v:hN}{P:List Nat}{Z:List V}{D:cn}(j:iX v P Z D=M):LY v P Z D:=by
 unfold iX at j;obtain ⟨b,p,x,q,d⟩:=L0 j;obtain ⟨h,C,F,e,a⟩:=L1 d;refine⟨?_,?_,x,q,h,Cu C,F,Nat.le_of_ble_eq_true e,LZ h (Cu a)⟩
 ·obtain ⟨c,i,l,n,f,g,k⟩:=v;induction c using aS with|cons=>exact aG b|nil=>
   induction l using aB with|some=>exact aG b|none=>
    induction n using aS with|cons=>exact aG b|nil=>
     induction g using aB with|some=>exact aG b|none=>exact ea f k rfl
 ·cases m:D.kind <;>rw[m] at p <;>first|rfl|exact aG p
set_option backward.match.sparseCases false in
theorem th :∀{c:List Arg} {P:List Nat},gd c=Y P->(c.map (·.arg)).map bt=P.map some:=by
 intro s;induction s with
 |nil=>intro P j;obtain rfl:=an j;rfl
 |cons v T F=>
  intro P j;replace j:(match bt v.arg,gd T with|some f,Y g=>Y (f::g)|_,_=>G)=Y P:=j
  generalize b:bt v.arg=y at j;induction y using aB with|none=>exact ag j|some f=>
   generalize p:gd T=q at j;induction q using aB with|none=>exact ag j|some g=>refine U (an j).symm ?_;rw[cp,cp,cp,F p,b]
theorem L2{a:a4}:∀{P:List Nat},mc a P=M->∀f∈P,aL f a=Y .local\/aL f a=Y .cell:=by
 intro s;induction s with|nil=>intro I I j;cases j|cons k T F=>
  intro j f h;unfold mc at j;have step:(aL k a=Y .local\/aL k a=Y .cell)/\mc a T=true:=by
   generalize u:aL k a=K at j;induction K using aB with|none=>exact aG j|some A=>clear u;induction A using eU <;>first|exact⟨.inl rfl,j⟩|exact⟨.inr rfl,j⟩|exact aG j
  rcases aW.mp h with rfl|h
  ·exact step.1
  ·exact F step.2 f h
theorem names_nodup{B:List am}{w:List Nat}(j:B.map bt=w.map Y)(K:w.Nodup):B.Nodup:=by
 induction B generalizing w with|nil=>exact jb|cons C T F=>
  induction w using aS with|nil=>cases j|cons f g=>
   replace j:=cp▸j;replace j:=cp▸j;rw[my] at j;refine ak (gn.mp K) λN H=>gn.mpr ⟨λh=>N ?_,F j.2 H⟩;have:Y f∈g.map some:=by refine U j.2.symm ?_;exact fg.mpr (aC C h j.1)
   exact au (fg.mp this) λk c u=>U (an u).symm c
theorem L3 :∀(B:List (am×db)) (C:Nat) (f:List (am×af)),(B.map (·.1)).Nodup->(f.map (·.1)).Nodup->(∀y∈B,y.1∉f.map (·.1))->((ti C B f).map (·.1)).Nodup:=by
 intro s;induction s with|nil=>intro I I I j I;exact j|cons r T F=>
  obtain ⟨X,A⟩:=r;intro C f b p x;refine ak (gn.mp b) λN H=>?_;induction A using eU with
  |cell=>
   refine F _ _ H (gn.mpr ⟨x (X,_) (.head _),p⟩) λy q h=>?_;rcases aW.mp h with o|h
   ·exact N (by refine U o.symm ?_;exact fg.mpr (aC y q rfl))
   ·exact x y (.tail _ q) h
  |_=>exact F _ _ H p λy q=>x y (.tail _ q)
theorem L4 :∀(B:List (am×db)) (C:Nat) (f:List (am×af)) (Z:am×af),Z∈f->Z∈ti C B f:=by
 intro s;induction s with|nil=>intro I I I j;exact j|cons r T F=>
  obtain ⟨X,A⟩:=r;intro C f Z j;induction A using eU with|cell=>exact F _ _ Z (.tail _ j)|_=>exact F _ _ Z j
theorem xl :∀(B:List (am×db)) (C:Nat) (f:List (am×af)) (y:am),(y,qr)∈B->∃v,(y,v)∈ti C B f:=by
 intro s;induction s with|nil=>intro I I I j;cases j|cons r T F=>
  obtain ⟨X,A⟩:=r;intro C f y j;rcases aW.mp j with o|h
  ·cases o;exact⟨C,L4 T _ _ _ (.head _)⟩
  ·clear j;induction A using eU <;>exact F _ _ y h
theorem L5{e:Type}{y:am}{v:e}:∀{g:List (am×e)},(g.map (·.1)).Nodup->(y,v)∈g->g.lookup y=Y v:=by
 intro s;induction s with|nil=>intro I j;cases j|cons r T F=>
  obtain ⟨X,m⟩:=r;intro K j;refine ak (gn.mp K) λN H=>U ia ?_;rcases aW.mp j with o|j
  ·cases o;simp
  ·have:(y==X)=false:=by rw[beq_eq_false_iff_ne];intro u;exact N (u▸fg.mpr (aC (y,v) j rfl))
   exact U this (F H j)
theorem Cw{kindOf:am->Option db}{y:am}:∀(a:List (am×J)) (z:am->Option J),y∉a.map (·.1)->bindL kindOf a z y=z y/\bindC kindOf a z y=z y:=by
 intro s;induction s with|nil=>intro z I;exact⟨rfl,rfl⟩|cons r T F=>
  obtain ⟨C,N⟩:=r;intro z j;rw[cp,aW,not_or] at j;refine ak j λb p=>?_;clear j;replace b:y≠C:=b;constructor
  ·refine U ((F _ p).1) ?_;split <;>simp[b]
  ·refine U ((F _ p).2) ?_;split <;>simp[b]
theorem Cx{kindOf:am->Option db}{y:am}{N:J}:∀(a:List (am×J)) (z:am->Option J),(a.map (·.1)).Nodup->(y,N)∈a->(kindOf y=Y .local->bindL kindOf a z y=Y N)/\(kindOf y≠Y .local->bindC kindOf a z y=Y N):=by
 intro s;induction s with|nil=>intro I I j;cases j|cons r T F=>
  obtain ⟨C,t⟩:=r;intro z K j;refine ak (gn.mp K) λc H=>?_;rcases aW.mp j with o|j
  ·cases o;constructor
   ·intro m;refine U ((Cw T _ c).1) (U (if_pos m) ?_);simp
   ·intro m;refine U ((Cw T _ c).2) (U (if_neg m) ?_);simp
  ·exact⟨(F _ H j).1,(F _ H j).2⟩
def xm(B:aa)(N:J)(Z:List V):Prop:=(Z= []/\N=.none)\/∃R e,N=.ref R/\aO (λI I=>G) B.base R e/\aE (λI I=>G) B.base Z e.toList
inductive fv(c:aa)(a:af)(args:hN)(body:List aP)(scope:cn)(ds:List V):Prop
 |mk (aw:bA) (fd:Cs) (ho:c.base.get? a=Y aw) (hd:aw.data=.func fd) (hp:fd.params=args) (hb:fd.body=.stmts body) (hs:fd.scope=scope) (hg:fd.globals=da) (hbl:fd.builtins=gE) (hcl:fd.closure= []) (hc:c.base.CodeRec fd.code fd.qualname) (hdf:xm c fd.defaults ds)
section
variable{B:aa}{S:Nat}{W:Inv B}{L:O}{h:V->O->Prop}{b:Nat->Nat->O->Prop}
theorem L6{H:ax}{j:av}(P:Rep B H L j):∀{x:List V} {e:List J},aE (λI I=>G) B.base x e->aE H j x e:=by
 intro s;induction s with|nil=>intro I o;exact o|cons _ _ F=>intro I h;obtain ⟨N,T,o,v,m⟩:=h;exact⟨N,T,o,vd P v,F m⟩
theorem L7{H:ax}{l:ai}{N:J}{Z:List V}{i:gD}{s:aY}{n:J->ai->Prop}(P:Rep B H L l.heap)(D:xm B N Z):∃T:Option (Array J),aE H l.heap Z (T.getD #[]).toList/\∀a:Option (Array J)->ai->Prop,a T l->ao i s (seqItems? N) a n l:=by
 rcases D with⟨rfl,rfl⟩|⟨R,e,rfl,d,T⟩
 ·exact aC G rfl (λa j=>aH j)
 ·exact aD d.eP λz F=>aC (Y e) (L6 P T) (λa j=>hm (P.stays _ _ F) rfl j)
theorem aR.Cy{k:aF}{H K:ax}{j T q:av}{n:O}(g:∀m r,j.get? m=Y r->T.get? m=Y r)(I:j.objs.size<=T.objs.size)(P:fc B k H T K n q)(R:∀v,own k v->j.objs.size<=v):aR B H j K n q:=
 ⟨P.rep,⟨P.grow.1,λA C Z o=>(P.grow.2 A C Z o).imp (λy=>y) λy=>⟨Nat.le_trans I y.1,Nat.le_trans I y.2⟩⟩,λv r o b=>P.keep v r (g v r o) b λt=>absurd (Nat.lt_of_lt_of_le (bJ o) (R v t)) (Nat.lt_irrefl _),Nat.le_trans I P.size⟩
theorem L8{j q:av}(y:∃c:af,j.objs.size<=c/\∃r,q.get? c=Y r):j.objs.size<=q.objs.size:=by refine au y λc x P=>?_;clear y;refine aD P λr F=>?_;exact Nat.le_of_lt (Nat.lt_of_le_of_lt x (bJ F))
theorem L9{P:List Nat}{Z t:List V}{Q:al}(j:kY P Z t=Y Q):t.length<=P.length/\P.length-t.length<=Z.length/\bindAll [] P (t++Z.drop (Z.length-(P.length-t.length)))=Y Q:=by
 unfold kY at j;generalize b:Nat.ble t.length P.length=K;induction K using ap with|false=>replace j:=b▸j;exact ag j|true=>
  generalize p:Nat.ble (P.length-t.length) Z.length=K;induction K using ap with|false=>rw[b,p] at j;exact ag j|true=>rw[b,p] at j;exact aQ (Nat.le_of_ble_eq_true b) (Nat.le_of_ble_eq_true p) j
theorem Ma{H:ax}{j:av}{f:Nat}{K:V}:∀{B:List am} {w:List Nat} {x:List V} {n:List J},B.map bt=w.map Y->aE H j x n->w.length=x.length->(f,K)∈w.zip x->∃y N,bt y=Y f/\(y,N)∈B.zip n/\aq H j K N/\y∈B:=by
 intro s;induction s with
 |nil=>
  intro w x n o I I h;induction w using aS with|nil=>cases h|cons=>cases o
 |cons C T F=>
  intro w x n o R u h;induction w using aS with|nil=>cases o|cons k g=>
   rw[cp,cp,my] at o;induction x using aS with|nil=>cases u|cons y x=>
    obtain ⟨N,e,rfl,Z,P⟩:=R;rw[s3,aW] at h;rcases h with h|h
    ·cases h;exact pf C N o.1 (.head _) Z (.head _)
    ·exact rI (F o.2 P (Nat.succ.inj u) h) λX t b p r q=>pf X t b (.tail _ p) r (.tail _ q)
theorem Mb{w:List Nat}{x:List V}{Q:al}(K:w.Nodup)(o:bindAll [] w x=Y Q){f:Nat}{e:V}(j:aL f Q=Y e):(f,e)∈w.zip x:=by
 refine ak (bindAll_at K o) λs L=>?_;by_cases u:f∈w
 ·refine aD (BU (mu o) f u) λN i=>?_;rw[s f N i] at j;obtain rfl:=an j;exact i
 ·rw[L f u] at j;exact ag j
theorem qB :∀{B:List am} {n:List J},B.length=n.length->(B.zip n).map (·.1)=B:=by
 intro s;induction s with
 |nil=>
  intro D;induction D using aS with|nil=>intro I;exact rfl|cons a d=>intro j;cases j
 |cons r z F=>
  intro D;induction D using aS with|nil=>intro j;cases j|cons a d=>intro j;exact U s3 (U cp (U (F (Nat.succ.inj j)) rfl))
def Mc(B:aa)(h:V->O->Prop)(b:Nat->Nat->O->Prop)(H:ax)(l:ai)(T:eX)(W:ai):Prop:=match T with
 |.ok (.ret N)=>ef (c:=B) bh h H l N W|.ok _=>False|.error o=>dq B b H l o W
def j1(B:aa)(S:Nat)(W:Inv B)(L:O)(x:J)(vs:List J)(h:V->O->Prop)(b:Nat->Nat->O->Prop):Prop:=
 ∀(s:aY) (a:List aF) (H:ax) (l:ai),Ready s S a->Frames B H a l.heap->Rep B H L l.heap->W.p H l.heap->l.gens= #[]->cu (aA B.prog B.w) s (.call x ⟨vs,[]⟩) (Mc B h b H l) l
theorem j1.Cz{x:J}{e:List J}(j:j1 B S W L x e h b):ae B S W L (bV x e) bh h b:=λs a H l Z F P f c=>mf (hW (j s a H l Z F P f c) λT A C=>by
 induction T using mx with|error=>exact C|ok u=>cases u <;>exact C)
theorem j1.le{x:J}{e:List J}{k:Nat}(j:j1 B S W L x e h b)(K:S<=k):j1 B k W L x e h b:=λs a H l T F P f c=>j s a H l (T.le K) F P f c
theorem Md{T:be}(j:(AF T).to h b):T.to (λu I L=>match u with|.next=>h .none L|.ret N=>h N L|_=>False) b:=by
 induction T with|ok u Q L=>induction u using FM.casesOn <;>exact j|err=>exact j|no=>exact j|ask a P K F=>exact ge.mono j F
theorem CA(ok:B.Fine){T4:af}{r:hN}{Ut:List aP}{Ub:cn}{s Uc:List V}{C:List Nat}{d:List J}{UB:al}(U1:fv B T4 r Ut Ub s)(UY:gd r.args=Y C)(UC:iX r C s Ub=M)(R:kY C s Uc=Y UB)
  (o:∀k,a8 (bx Ub.names) k->aI B S k bF.none UB L (bb Ut k) bU (λUp I L=>match Up with|.next=>h .none L|.ret N=>h N L|_=>False) b)(TU:∀H Vo,W.p H Vo->aE H Vo Uc d):j1 B (S+1) W L (.ref T4) d h b:=λUl T2 H l Uo F q U2 UL=>by
 refine hd λUD TV=>?_;obtain ⟨Uj,e,T0,hd,Vy,Vz,VA,VB,Vi,Vb,VC,VD⟩:=U1;subst VA;have c:=Cv UC;have Uf:=TU _ _ U2;have Q:=q.stays _ _ T0;refine br (L9 R) λUx Uz UI=>cR c.args λU6 Vc VE=>au (L7 (i:=aA B.prog B.w) (s:=Ul.in1) (n:=λev i=>dq B b H l ev i) q VD) λTY Vj Ug=>?_;have Vd:=th UY;have Ve:(r.args.map (·.arg)).length=C.length:=by have:=congrArg lh Vd;simpa using this
 have UZ:r.args.length=C.length:=by simpa using Ve
 have Vk:=names_nodup Vd c.xk;have VF:d.length=Uc.length:=Uf.length;have Vf:(TY.getD #[]).toList.length=s.length:=Vj.length;refine TV (Me Uo.room Q hd c.co c.gen Vz (VC.keeps q.stays) (Ct (Vy.trans VE) rfl Ug Vk (by refine U VF ?_;refine U UZ ?_;exact Ux) (by refine U VF ?_;refine U Vf ?_;refine U UZ ?_;exact Uz) (by refine U Vf ?_;refine U UZ ?_;exact c.ds) ?_))
 generalize Vr:d++(TY.getD #[]).toList.drop ((TY.getD #[]).toList.length-(r.args.length-d.length))=ws;have VN:aE H l.heap (Uc++s.drop (s.length-(C.length-Uc.length))) ws:=by exact U Vr.symm (U Vf (U UZ (U VF (Uf.append (Vj.drop _)))))
 have Vh:(r.args.map (·.arg)).length=ws.length:=by exact Ve.trans ((mu UI).trans VN.length.symm)
 refine U VB (U Vi (U Vb ?_));have VO:∀y∈r.args.map (·.arg),e.scope.names.lookup y=Y .local\/(e.scope.names.lookup y=Y .cell/\((ti (l.heap.objs.size+1) e.scope.names []).lookup y).isSome=M):=λy T=>by
  have:bt y∈(r.args.map (·.arg)).map bt:=fg.mpr (aC y T rfl)
  rw[Vd] at this;refine au (fg.mp this) λVn UA VG=>?_;replace VG:bt y=Y Vn:=VG.symm;have:=L2 c.params Vn UA;rw[qp c.plain VG] at this;rcases this with u|u
  ·exact .inl u
  ·exact aD (xl e.scope.names (l.heap.objs.size+1) [] y (mem_of_lookup u)) λVg t=>aD (s9 t) λm R=>.inr ⟨u,by refine U R ?_;rfl⟩
 refine Mf c.kind (λy T=>VO y.1 (by
  have T8:y.1∈((r.args.map (·.arg)).zip ws).map (·.1):=fg.mpr (aC y T rfl)
  rw[qB Vh] at T8;exact T8)) λk f i X=>?_
 have K:=X.toInCall.keep;have fresh:l.heap.objs.size<=k.locals:=X.toInCall.fresh;refine cR X.toInCall.same λT9 Vm VH=>?_;have VP:=X.toInCall.ns;refine nd (id VP) λVT VU VV VQ VW V9=>?_;have Uu:l.heap.objs.size<=i.heap.objs.size:=L8 (aC _ fresh ⟨_,VQ⟩);have VX:Rep B H L i.heap:=q.more K;have VI:∀Z∈k.cells,l.heap.objs.size<=Z.2:=λZ z=>Nat.le_trans fresh (Nat.le_of_lt (X.above Z.1 Z.2 z));have VJ:∀y,own k y->l.heap.objs.size<=y:=λy Vl=>by
  rcases Vl with rfl|⟨Z,z,rfl⟩
  ·exact fresh
  ·exact VI Z z
 have VY:(k.cells.map (·.1)).Nodup:=by exact U f (L3 e.scope.names _ [] c.keys jb (λI I Vo=>by cases Vo))
 have g:∀y,k.kindOf y=e.scope.names.lookup y:=λy=>by refine U f ?_;rfl
 have VK:a8 (bx e.scope.names) k:=λy Vn A TR x=>by
  rw[qp c.plain TR] at x;induction A using eU with|«local»=>exact(g y).trans x|cell=>refine aD (xl e.scope.names (l.heap.objs.size+1) [] y (mem_of_lookup x)) λVg t=>aD (s9 t) λm R=>⟨(g y).trans x,?_⟩;refine U f ?_;show((ti (l.heap.objs.size+1) e.scope.names []).lookup y).isSome=M;refine U R ?_;rfl|free=>exact .inr (.inr ((g y).trans x))|globalImplicit=>exact(g y).trans x|globalExplicit=>trivial
 have Vq:k.frame=Y k.locals:=by refine U f ?_;rfl
 have UK:bp B k UB H i.heap:=by
  refine⟨by refine U f ?_;exact c.kind,by refine U f ?_;rfl,by refine U f ?_;rfl,λy A x=>w4 c.plain ((g y).symm.trans x),aC _ VP (λy Vn T5 TR T I=>?_),⟨q.gQ fresh,q.nb fresh⟩,λZ z=>bP (q.gQ (VI Z z)) (q.nb (VI Z z)) (Nat.ne_of_gt (X.above Z.1 Z.2 z)) ⟨_,X.cell Z.1 Z.2 (L5 VY z)⟩⟩
  refine rI (Ma Vd VN (mu UI) (Mb c.xk UI T)) λTZ N Un VZ VL V0=>?_;have:=ni TR Un;clear Un;subst this;refine aC N (aq.ba (λI I I o=>o) (iG K) _ VL) ?_;have knd:((r.args.map (·.arg)).zip ws |>.map (·.1)).Nodup:=by refine U (qB Vh) ?_;exact Vk
  refine ak (Cx (kindOf:=k.kindOf) _ (λI=>G) knd VZ) λV1 V2=>?_;rcases VO y V0 with u|⟨u,_⟩
  ·exact .inl ⟨(g y).trans u,V1 ((g y).trans u)⟩
  ·have VR:k.kindOf y=Y .cell:=(g y).trans u;refine aD (xl e.scope.names (l.heap.objs.size+1) [] y (mem_of_lookup u)) λVg t=>aD (s9 t) λm R=>?_;replace R:k.cells.lookup y=Y m:=by refine U f ?_;exact R
   refine .inr (fX (.inl VR) m R ?_);have:=X.cell y m R;rw[V2 (by refine U VR ?_;decide)] at this
   exact this
 have UN:Here B S k UB L (Ul.deeper k) T2 H i:=by
  refine⟨Uo.deeper k,λo a=>?_,VX,UK,by refine U VH ?_;exact UL,Vq,λo a UF Vx Vl=>?_,λZ z u Ue V3=>name_of_addr X.apart z (by refine U V3 ?_;exact Ue)⟩
  ·rcases aW.mp a with rfl|a
   ·exact⟨by refine U UK.kind ?_;decide,_,VT,VU,VV,Vq,VQ,VW,q.nb fresh,q.gQ fresh⟩
   ·obtain ⟨A,UF,Um,Uk,Uq,U4,Q,UO,Vt,U5⟩:=F o a;exact⟨A,UF,Um,Uk,Uq,U4,K _ _ Q,UO,Vt,U5⟩
  ·obtain ⟨A,Wa,Um,Uk,Uq,U4,Q,_⟩:=F o a;rw[Vx] at U4;obtain rfl:=an U4;exact absurd (Nat.lt_of_lt_of_le (bJ Q) (VJ _ Vl)) (Nat.lt_irrefl _)
 refine⟨(ok.nolimit.keeps q.stays).keeps K,codeAny_func ?_⟩;have run:=o k VK (Ul.deeper k) T2 H i UN trivial;refine bQ run (λUp UQ Uh=>?_) λev UQ UM=>?_
 ·obtain ⟨m,Ud,n,v,T7,D,UF,Uw⟩:=Uh;have P:aR B H l.heap v n UQ.heap:=.Cy K Uu Uw.post VJ;have UH:he l UQ:=by
   have:he l i:=by refine U VH ?_;exact⟨rfl,rfl⟩
   exact this.trans Uw.same
  induction m using FM.casesOn with|next=>replace D:Up=.next:=D;subst D;exact⟨.none,n,v,T7,rfl,P,UH⟩|ret N=>refine au D λVl TS UU=>?_;clear D;subst TS;exact⟨N,n,v,T7,UU,P,UH⟩|brk=>exact T7.elim|cont=>exact T7.elim
 ·refine ab (b7.note UN UM λUP UE=>ak UE λUa UJ=>b7.w9 UN Ua UJ.pE λTW Uv V4=>?_);obtain ⟨A,V5,U3,n,v,Z,U0,T6,z,rfl,T3,⟨UG,V6,a,VS,T1,j⟩,_,Uw⟩:=Uv;obtain ⟨Ui,Vu,U9,TX,UT,Us,UV,UW,VM,Vp,Vs,Ur,US,V7⟩:=V4;replace UV:Z.1=Ui:=by injection UV
  subst UV;have P:aR B H l.heap v n TW:=.Cy K Uu Uw.post VJ;have UH:he l {UP with heap:=TW}:=by
   have:he l i:=by refine U VH ?_;exact⟨rfl,rfl⟩
   exact this.trans Uw.same
  replace a:TW.get? Z.1=Y UG:=a;rw[a] at UW;obtain rfl:=an UW;replace VM:=VS▸VM;cases VM;have V8:l.heap.get? Z.1=none:=by
   generalize u:l.heap.get? Z.1=Uy;induction Uy using aB with|none=>rfl|some Um=>rw[K _ _ u] at T1;exact ha T1
  refine⟨A,V5,U3,n,v,Z,U0,T6,z,rfl,T3,⟨UG,V6,a,VS,V8,.inr ?_⟩,P,UH⟩;rcases j with j|⟨UR,Vv,Vw,Ux,Uz,UI,UX,U7,Va,U8⟩
  ·replace j:=Vp▸j;cases j
  ·replace Ux:=Vp▸Ux;cases Ux;exact⟨TX,UT,Us,Vp,Nat.le_trans Uu Uz,Vs,Ur,US,V7,U8⟩
theorem Mg(ok:B.Fine)(mt:jT B meths)(a:jS B)(r:jc B){d:cN}(q:gN B S d){v:af}{c:hN}{A:List aP}{D:cn}{Z t:List V}{P:List Nat}{e:List J}{C:Nat}(m:fv B v c A D Z)(g:gd c.args=Y P)(X:iX c P Z D=M)
  (o:(sr d C ⟨P,Z,A.map (bY 40 (bx D.names))⟩ t L).to h b)(i:∀H j,W.p H j->aE H j t e):j1 B (S+1) W L (.ref v) e h b:=by
 unfold sr at o;dsimp only at o;generalize T:kY P Z t=K at o;induction K using aB with|none=>exact o.elim|some Q=>exact CA ok m g X T (λk f=>(qy ok mt a r q C).ss f (Md o)) i
end
theorem Ready.CB{s:aY}{S:Nat}{b:List aF}{x:af}{z:List J}(T:Ready s (S+1) b):Ready (s.under (.builtin "type.__call__" ⟨.ref x::z,[]⟩)) S b:=by
 have t:(qC "type.__call__" ⟨.ref x::z,[]⟩).weight<=1:=by
  have:(qC "type.__call__" ⟨.ref x::z,[]⟩).weight=1:=by first|rfl|decide|kernel_rfl
  exact Nat.le_of_eq this
 have c:(qC "type.__call__" ⟨.ref x::z,[]⟩).cUnits<=10:=by
  have:(qC "type.__call__" ⟨.ref x::z,[]⟩).cUnits=1:=by first|rfl|decide|kernel_rfl
  refine U this ?_;decide
 have o:(qC "type.__call__" ⟨.ref x::z,[]⟩).envs= []:=by first|rfl|decide|kernel_rfl
 refine⟨T.handled,?_,?_,?_⟩
 ·show pushEnvs (qC "type.__call__" ⟨.ref x::z,[]⟩).envs s.frames=Y b;refine U o (U T.frames ?_);rfl
 ·refine Nat.lt_of_le_of_lt ?_ T.depth;show s.depth+_+S<=s.depth+(S+1);rw[Nat.add_assoc];exact U (Nat.add_comm S 1) (Nat.add_le_add_left (Nat.add_le_add_right t _) _)
 ·refine Nat.lt_of_le_of_lt ?_ T.units;show s.units+_+10*S+100<=s.units+10*(S+1)+100;rw[Nat.add_assoc s.units,Nat.mul_succ];exact U (Nat.add_comm (10*S) 10) (Nat.add_le_add_right (Nat.add_le_add_left (Nat.add_le_add_right c _) _) _)
def tj(B:aa)(S:Nat)(d:cN):Prop:=∀{I:Inv B} {L:O} {v:Nat} {xs:List V} {vs:List J} {Φ:V->O->Prop} {D:Nat->Nat->O->Prop},
 Nat.beq v kX=E->aL v ff=G->(d (.glob (.ref v)) xs L).to Φ D->(∀H j,I.p H j->aE H j xs vs)->j1 B S I L (.ref v) vs Φ D
def xn(B:aa):Prop:=∀x n,aL x ff=Y n->xo B.K x=M/\c2 B.K (.ref x) "__init__"=Y (Y (.ref n))/\ml B.K (.ref n)=Y (.type "function")/\Nat.beq n kX=E/\aL n ff=G
section
variable{B:aa}{S:Nat}{w:Inv B}{T3:cN}{L:O}{h:V->O->Prop}{D:Nat->Nat->O->Prop}
theorem Mh(ok:B.Fine)(mk:xn B)(TW:tj B S T3){x N:Nat}{k:List V}{vs:List J}(TU:aL x ff=Y N)
  (o:(nL T3 x N k L).to h D)(z:∀H j,w.p H j->aE H j k vs):ae B (S+1) w L (bV (.ref x) vs) bh h D:=λT1 TZ H l Uo F P f c=>by
 refine fW (mk x N TU) λT0 TX T2 T4 T5=>?_;replace o:((L.alloc (.inst x [])).bind λT L=>(T3 (.glob (.ref N)) (T::k) L).bind (AG T)).to h D:=o;rw[Res.bc] at o;refine br (nN o) λUB u R=>?_;rw[Res.bc] at R;have X:B.K.In l.heap:=ok.dR.keeps P.stays;obtain ⟨W,v,b,d,os⟩:=l;refine mf (make_core (makes_of X T0) (p0 X TX) (λTS=>bind_fn X TS T2) (.inl rfl) ?_);have A:∀m r,W.get? m=Y r->((W.push tl).push (kC x W.objs.size)).get? m=Y r:=λm r o=>cZ _ (cZ _ o);have i:W.objs.size<=((W.push tl).push (kC x W.objs.size)).objs.size:=Nat.le_trans (push_size _) (push_size _);have e:aR B H W (bD H L.bf L.n (W.objs.size+1,W.objs.size)) {L.set L.bf L.n (Y (.inst x [])) with n:=L.n+1} ((W.push tl).push (kC x W.objs.size)):=by
  refine(aR.alloc (r:=.inst x []) P A i UB u (Nat.le_succ _) (Nat.le_refl _) λTV c Uv=>⟨[],0,?_,?_,rfl⟩).congr λA f=>by induction A using Nat.casesOn <;>rfl
  ·have:=ct (W.push tl) (o:=kC x W.objs.size) rfl;rwa [lb] at this
  ·exact cZ _ (ct _ rfl)
 have s:bD H L.bf L.n (W.objs.size+1,W.objs.size) L.bf L.n=Y (W.objs.size+1,W.objs.size):=by unfold bD;exact U (if_pos ⟨rfl,rfl⟩) rfl
 let Q:Shared:=⟨(W.push tl).push (kC x W.objs.size),v,b,d,os⟩
 have t:Ends B H ⟨W,v,b,d,os⟩ (bD H L.bf L.n (W.objs.size+1,W.objs.size)) {L.set L.bf L.n (Y (.inst x [])) with n:=L.n+1} Q:=⟨e,rfl,rfl⟩
 have run:=TW (I:=(ee (.ref L.bf L.n) (.ref (W.objs.size+1))).and (l0 k vs)) (vs:=.ref (W.objs.size+1)::vs) T4 T5 R (λa a f=>.cons f.1 f.2)
  (T1.under (.builtin "type.__call__" ⟨.ref x::vs,[]⟩)) TZ _ Q Uo.CB (F.post P e) e.rep ⟨⟨_,s,rfl⟩,aE.post P e _ (z _ _ f)⟩ c
 refine hW run λT TY C=>?_;induction T using mx with|error ev=>exact dq.trans t C|ok Up=>
  cases Up with
  |ret TR=>
   obtain ⟨y,UR,UL,Z,q,g⟩:=C;induction y using V.casesOn with|none=>exact⟨q,.ref L.bf L.n,UR,UL,Z,⟨_,g.post.grow.1 _ _ _ s,rfl⟩,t.trans g⟩|_=>exact Z.elim
  |_=>exact C.elim
end
section
variable{B:aa}{S:Nat}{w:Inv B}{L:O}{h:V->O->Prop}{D:Nat->Nat->O->Prop}
theorem xp{H:ax}{j:av}(P:Rep B H L j){y:V}{N:J}{x:List V}(o:kZ L y=Y x)(T:aq H j y N):∃v R e C,N=.ref v/\(R="list"\/R="tuple")/\j.get? v=Y {cls:=.type R,dict:=G,data:=.seq e C,slots:= #[]}/\aE H j x e.toList/\x.length<=1000/\(R="tuple"->y=.tup x):=by
 unfold kZ at o;refine hd λi W=>?_;induction y using V.casesOn with
 |tup n=>
  dsimp only at o;generalize u:short n=K;induction K using ap with|false=>rw[u] at o;exact ag o|true=>rw[u] at o;obtain rfl:=an o;obtain ⟨v,e,rfl,d,t⟩:=T;exact aD d.eP λC F=>W (c9 v ("tuple") e ⟨C,rfl,.inr rfl,F,t,il u,λI=>rfl⟩)
 |ref A C=>
  dsimp only at o;generalize a:L.get A C=K;induction K using aB with|none=>rw[a] at o;exact ag o|some r=>
   rw[a] at o;induction r using aj.casesOn with
   |list n=>
    dsimp only at o;generalize u:short n=K;induction K using ap with|false=>rw[u] at o;exact ag o|true=>rw[u] at o;obtain rfl:=an o;obtain ⟨Z,S,rfl⟩:=T;obtain ⟨_,e,⟨z,F⟩,t⟩:=P.obj _ _ _ _ S a;exact W (c9 Z.1 ("list") e ⟨z,rfl,.inl rfl,F,t,il u,λj=>nomatch j⟩)
   |_=>exact ag o
 |_=>exact ag o
theorem Mi{y:V}{N:J}{C:Nat}(o:v2 L y=Y C)(R:(B.base.get? f3).isSome=M)(X:∀H j,w.p H j->aq H j y N)(j:h (.int C) L):ae B S w L (bV (.builtin "len") [N]) bh h D:=λT6 Uu H Ur Uo F q f TS=>by
 have T:=X _ _ f;unfold v2 at o;refine hd λUD n=>?_;generalize u:kZ L y=K;induction K using aB with
 |some x=>
  rw[u] at o;obtain rfl:=an o;refine rH (xp q u T) λTV UH e C d l Q k t I=>?_;subst d;have b:e.size=x.length:=by have:=k.length;simpa using this
  rcases l with rfl|rfl
  ·exact n (call_len_list (items:=e) (g9 _ Q rfl _ rfl) (by lia) (U b (⟨_,L,H,j,⟨_,rfl⟩,cY q⟩)))
  ·exact n (P.len_tuple Q (by lia) (U b (⟨_,L,H,j,⟨_,rfl⟩,cY q⟩)))
 |none=>
  rw[u] at o;induction y using V.casesOn with
  |ref A z=>
   dsimp only at o;generalize s:L.get A z=K;induction K using aB with|none=>rw[s] at o;exact ag o|some r=>
    rw[s] at o;induction r using aj.casesOn with
    |dict g=>
     dsimp only at o;generalize a:Nat.ble g.length 1000=K;induction K using ap with|false=>rw[a] at o;exact ag o|true=>
      rw[a] at o;obtain rfl:=an o;obtain ⟨Z,W,rfl⟩:=T;obtain ⟨_,c,hd,m,_⟩:=q.obj _ _ _ _ W s;have t:c.length=g.length:=by have:=congrArg lh m;simpa using this
      have v:(Z.1==f3)=false:=by rw[beq_eq_false_iff_ne];intro i;have:=(q.new _ _ _ W).1;rw[i] at this;rw[this] at R;exact aG R
      have:=Nat.le_of_ble_eq_true a;exact n (call_len_dict v hd (by lia) (U t (⟨_,L,H,j,⟨_,rfl⟩,cY q⟩)))
    |_=>exact ag o
  |_=>exact ag o
theorem Mj{y:V}{N:J}{x:List V}(o:kZ L y=Y x)(X:∀H j,w.p H j->aq H j y N)(j:(L.alloc (.list x)).to h D):ae B S w L (bV (.type "list") [N]) bh h D:=by
 refine nO j λr m=>λs b H l Z F P f c=>rH (xp P o (X _ _ f)) λv R e C d k Q t u I=>?_;subst d;have z:e.size=x.length:=by have:=t.length;simpa using this
 refine call_list_seq v k Q rfl rfl (λq A g T=>?_) (by refine U z ?_;refine U cT ?_;lia)
 have i:l.heap.objs.size<=q.objs.size:=Nat.le_of_lt (bJ T);refine⟨_,_,bD H L.bf L.n (l.heap.objs.size,l.heap.objs.size),⟨rfl,rfl⟩,⟨_,by unfold bD;exact U (if_pos ⟨rfl,rfl⟩) rfl,rfl⟩,?_,rfl,rfl⟩
 exact aR.alloc (r:=.list x) (Z:=(l.heap.objs.size,l.heap.objs.size)) P g i r m (Nat.le_refl _) (Nat.le_refl _) λK c a=>⟨rfl,e,⟨_,T⟩,aE.ba c a _ t⟩
theorem Mk{i:e9}{t:cf}{s:aY}{n:J->ai->Prop}{l:ai}{h:af}{r:bA}{e:Array J}{C:Nat}{a:List J->ai->Prop}(F:l.heap.get? h=Y r)(k:r.cls=.type "list")(hd:r.data=.seq e C)(d:e.size<=gF)
  (N:a e.toList {l with heap:=(l.heap.push {cls:=.type "list",data:=.seq ([]:List J).toArray}).update l.heap.objs.size (eV (·++e))}):ao (aA i t) s (collect (.ref h)) a n l:=by
 refine ab (Ml (og Mm (U (oh Mn _) ?_)));show ao _ s.in1 (rS []>>=λg=>s7 (.builtin "list.__iadd__" ⟨[g,.ref h],[]⟩)) _ _ l;refine ab (ib (aH ⟨qx xq _,og Mo ?_⟩));refine U (oh xq _) ?_;show ao _ s.in1 (Builtin.List.listExtendWith (.ref l.heap.objs.size) (.ref h) (.ref l.heap.objs.size)) _ _ _;have b:(l.heap.push {cls:=.type "list",data:=.seq ([]:List J).toArray}).get? l.heap.objs.size=Y {cls:=.type "list",data:=.seq #[] 0}:=ct _ rfl;have c:=hk (eV (·++e)) b rfl
 have w:ao (aA i t) s (match bZ l.heap.objs.size with
   |bZ v=>do
    match(<-load v).data with
     |Data.seq x _=>pure x.toList|_=>s2 "internal:collect"
   |_=>s2 "internal:collect") a n {l with heap:=(l.heap.push {cls:=.type "list",data:=.seq ([]:List J).toArray}).update l.heap.objs.size (eV (·++e))}:=by
  show ao _ s (load l.heap.objs.size>>=_) _ _ _;refine ab (sU c (aH ?_));have o:((#[]:Array J)++e).toList=e.toList:=by simp
  show a ((#[]:Array J)++e).toList _;exact U o N
 refine bQ (wpAny_extend_seq (hsz:=d) (A:=s) (R:=λT W=>T=.ok (.ret (.ref l.heap.objs.size))/\W={l with heap:=(l.heap.push {cls:=.type "list",data:=.seq ([]:List J).toArray}).update l.heap.objs.size (eV (·++e))})
  (s:={l with heap:=l.heap.push {cls:=.type "list",data:=.seq ([]:List J).toArray}}) _ h _ 0 (.inl rfl) b (cZ _ F) k hd ⟨rfl,rfl⟩) (λp W j=>?_) (λo W j=>?_)
 ·cases p with|done S=>refine ak j λo Q=>?_;clear j;subst Q;cases o;exact w|again I=>exact⟨j.1,hW j.2 λT R H=>by refine ak H λQ D=>?_;clear H;subst Q;subst D;exact w⟩
 ·exact absurd j.1 (by simp)
theorem Mp(g:af)(r:bA)(e:Array J)(C:Nat)(k:r.cls=.type "list")(hd:r.data=.seq e C)(d:e.size<=gF):
  Meets (Builtin.«tuple.__new__» ⟨[.type "tuple",.ref g],[]⟩)
   (λI R l=>l.heap.get? g=Y r/\∀q:av,q=(l.heap.push {cls:=.type "list",data:=.seq ([]:List J).toArray}).update l.heap.objs.size (eV (·++e))->R (.ok (.ret (.ref q.objs.size))) {l with heap:=q.push {cls:=.type "tuple",data:=.seq e}}):=
 .of_wp λH t s R l j=>by
  obtain ⟨S,c,W,D,os⟩:=l;refine ak j λX j=>?_;have f:=sub_tuple_self;have a:=init_tuple_lookup;have b:=madeHere_tuple;have L:Shared.TypeIs ⟨S,c,W,D,os⟩ (.ref g) "list":=aC r X k
  wp_walk using wpAny_loadPart' X,te L,Mk (d:=d) X k hd
  refine aC _ rfl ?_;have o:e.toList.toArray=e:=by rfl
  exact j _ rfl
theorem Mq{y:V}{N:J}{x:List V}(o:kZ L y=Y x)(X:∀H j,w.p H j->aq H j y N)(j:h (.tup x) L):ae B S w L (bV (.type "tuple") [N]) bh h D:=λs b H l Z F P f c=>by
 have T:=X _ _ f;refine rH (xp P o T) λv R e C d k Q t u a=>?_;subst d;have z:e.size=x.length:=by have:=t.length;simpa using this
 rcases k with rfl|rfl
 ·refine Bt PySem.F.called_tuple (by decide) (PySem.F.typeCall_tuple_1 _) (PySem.F.newCall_tuple_1 _) (λK=>JC K _) PySem.F.entry_tuple_new (Mp v _ e C rfl rfl (by refine U z ?_;refine U cT ?_;lia)) ⟨Q,λq W=>⟨aC _ (ct _ rfl) rfl,?_⟩⟩
  have i:l.heap.objs.size<=q.objs.size:=by refine U W ?_;rw[size_update];exact push_size _
  have g:∀m r,l.heap.get? m=Y r->q.get? m=Y r:=λm r o=>by refine U W ?_;exact(wS _ _ (Nat.ne_of_gt (bJ o))).trans (cZ _ o)
  have A:∀m r,l.heap.get? m=Y r->(q.push {cls:=.type "tuple",data:=.seq e}).get? m=Y r:=λm r o=>cZ _ (g m r o);refine⟨.tup x,L,H,j,⟨_,e,rfl,.of (n:=0) (ct _ rfl) (P.gQ i),aE.ba (λI I I o=>o) (iG A) _ t⟩,.more P A (Nat.le_trans i (push_size _)),rfl,rfl⟩
 ·have:=a rfl;subst this;exact call_tuple_same (g9 _ Q rfl _ rfl) ⟨_,L,H,j,T,.refl P,.refl⟩
theorem Mr{f:Int}{N:J}(q:∀H j,w.p H j->aq H j (.int f) N)(j:h (.int f) L):ae B S w L (bV (.type "int") [N]) bh h D:=λs b H l Z F P I c=>by refine aD (q _ _ I) λd Q=>?_;subst Q;exact call_int_int ⟨_,L,H,j,⟨_,rfl⟩,.refl P,.refl⟩
theorem Ms{y:V}{N:J}{i:Bool}(o:isInt y=Y i)(q:∀H j,w.p H j->aq H j y N)(j:h (.bool i) L):ae B S w L (bV (.builtin "isinstance") [N,.type "int"]) bh h D:=λs b H l Z F P f c=>by
 have T:=q _ _ f;refine hd λk W=>?_;induction y using V.casesOn with
 |int C=>refine aD T λd r=>?_;clear T;subst r;obtain rfl:=an o;exact W (IsiPair.int_int ⟨_,L,H,j,rfl,cY P⟩)
 |bool m=>subst T;obtain rfl:=an o;exact W (IsiPair.bool_int ⟨_,L,H,j,rfl,cY P⟩)
 |str A=>obtain ⟨X,d,rfl,_⟩:=T;obtain rfl:=an o;exact W (IsiPair.str_int ⟨_,L,H,j,rfl,cY P⟩)
 |tup x=>obtain ⟨v,e,rfl,d,_⟩:=T;refine aD d.eP λC Q=>?_;obtain rfl:=an o;exact W (IsiPair.tuple_int Q rfl ⟨_,L,H,j,rfl,cY P⟩)
 |_=>exact ag o
end
theorem Mu :nP (.type "list") "keys"=pure none:=by rw[xa];refine U xb ?_;kernel_rfl
theorem Mv :nP (.type "list") "__getattr__"=pure none:=by rw[xa];refine U xb ?_;kernel_rfl
theorem CC :isSubtype (.type "AttributeError") (.type "AttributeError")=pure true:=by rw[isSubtype_type];kernel_rfl
structure xr(h h':av)(e:af):Prop where
 keeps:∀b aw,h.get? b=Y aw->h'.get? b=Y aw
 z:h.objs.size<=h'.objs.size
 there:∃dh vs,h'.get? e=Y dh/\dh.cls=.type "AttributeError"/\dh.data=.fields vs
section
variable{H:e9}{t:cf}{s:aY}{n:J->ai->Prop}{j:av}{c:Array xt}{W:Drawn}{d:Nat}{os:j2}{v:af}{e:Array J}{C:Nat}
theorem Mw :(Manifest.find? "AttributeError").elim E (λd=>d.mro.contains "StopIteration"||d.mro.contains "SystemExit")=false:=by kernel_rfl
theorem Mx{N:J}{a:J->ai->Prop}(T:∀q o R,(∀m r,j.get? m=Y r->q.get? m=Y r)->j.objs.size<=q.objs.size->q.get? o=Y {cls:=.type "AttributeError",dict:=G,data:=.fields #[.ref R,.none,.none,.none,.bool E,.none,xu,xu],slots:= #[]}->j.get? o=G->a (.ref o) ⟨q,c,W,d,os⟩):
  ao (aA H t) s (newExc (.type "AttributeError") [N]) a n ⟨j,c,W,d,os⟩:=by
 refine ab (ib ?_ (by size_fits))
 refine ab (ab (aH (U Mw (aH (ib ?_ (by first|size_fits|(simp[ownMembersOf,cT])))))))
 exact T _ _ _ (λm r o=>cZ _ (cZ _ o)) (Nat.le_trans (push_size _) (push_size _)) (ct _ rfl) (Kw (push_size _))
theorem My{o R:af}{b:J}{a:Unit->ai->Prop}(g:j.get? o=Y {cls:=.type "AttributeError",dict:=G,data:=.fields #[.ref R,.none,.none,.none,.bool E,.none,xu,xu],slots:= #[]})
  (T:∀q e,q.get? o=Y {cls:=.type "AttributeError",dict:=G,data:=.fields e,slots:= #[]}->cL o j q->a () ⟨q,c,W,d,os⟩):ao (aA H t) s (noteAttr (.ref o) (.ref v) b) a n ⟨j,c,W,d,os⟩:=by
 refine ab (ab (Bm (T:="AttributeError") (b:=M) (aC _ g rfl) CC ?_));dsimp only[Bool.not_true,ms,if_false];refine ab (sU g ?_);show ao _ _ (pure M) _ _ _;refine aH ?_;simp only[if_true];refine ab (hG (ab (te (T:="AttributeError") (aC _ g rfl) ?_)));show ao _ _ (layMembers o 6 #[b,.ref v]) _ _ _;exact ab (sU g (wpAny_update g (T _ _ (hk _ g rfl) (i6 ..))))
theorem Mz{N:Type}{Q p:am}{a:N->ai->Prop}(z:s.handled=G)(h:p.length<=gF)(K:∀q D o,xr j q o->n (.ref o) ⟨q,c,W,D,os⟩):
  ao (aA H t) s (raiseAttrError (.ref v) Q p:aZ N) a n ⟨j,c,W,d,os⟩:=by
 refine ab (wpAny_mkStr (ab (Mx λq o R b i g X=>?_)) h);refine ab (kJ (ab (My g λw e l P=>(ab (wpAny_handled (U z (ab (aH (A5 (K _ _ _ ⟨λm r u=>(P.2 m λi=>by rw[i,X] at u;exact ag u).trans (b m r u),by refine U P.1 ?_;exact i,_,e,l,rfl,rfl⟩))))))))))
theorem MA{D:d1}{a:Fin->ai->Prop}(z:s.handled=G)(X:j.get? v=Y {cls:=.type "list",dict:=G,data:=.seq e C,slots:= #[]})(K:∀q D o,xr j q o->n (.ref o) ⟨q,c,W,D,os⟩):
  ao (aA H t) s (Builtin.«object.__getattribute__» ⟨[.ref v,.str "keys" D],[]⟩) a n ⟨j,c,W,d,os⟩:=by
 have L:(⟨j,c,W,d,os⟩:ai).TypeIs (.ref v) "list":=aC _ X rfl;have x:=Mu
 repeat (any_goals(first|assumption|wp_step))
 refine Mz z ?_ K;have:(Manifest.find? "list").elim "list" (λy=>y.tpName)="list":=by kernel_rfl
 refine U this (U cT ?_);decide+kernel
theorem MB{D:d1}{R:eX->ai->Prop}(z:s.handled=G)(X:j.get? v=Y {cls:=.type "list",dict:=G,data:=.seq e C,slots:= #[]})(K:∀q D o,xr j q o->R (.error (.ref o)) ⟨q,c,W,D,os⟩):
  cu (aA H t) s (.call (.builtin "list.__getattribute__") ⟨[.ref v,.str "keys" D],[]⟩) R ⟨j,c,W,d,os⟩:=
 sy xv.plain PySem.F.entry_list_ga (xv.check _ _ _ _ _ _ _ _ (show(⟨j,c,W,d,os⟩:ai).TypeIs (.ref v) "list" from(aC _ X rfl)) (PySem.F.args_list_getattribute_2 _ _) (MA (s:=s.in1) z X K))
theorem MC{a:Option J->ai->Prop}(f:s.handled=G)(X:j.get? v=Y {cls:=.type "list",dict:=G,data:=.seq e C,slots:= #[]})(T:∀q A,(∀m r,j.get? m=Y r->q.get? m=Y r)->j.objs.size<=q.objs.size->a G ⟨q,c,W,A,os⟩):
  ao (aA H t) s (getAttr? (.ref v) "keys") a n ⟨j,c,W,d,os⟩:=by
 have F:(⟨j,c,W,d,os⟩:ai).TypeIs (.ref v) "list":=aC _ X rfl;refine ab (kJ (ab (wg ?_)));have f2:=xv.lookup;have j3:=xv.bind (.ref v)
 repeat (any_goals(first|assumption|wp_step))
 refine MB f X λq A o L=>hD L.there λh D g k hd=>?_;have b:∀{a:Bool->ai->Prop} {n:J->ai->Prop},a M ⟨q,c,W,A,os⟩->ao (aA H t) s (isInstance (.ref o) (.type "AttributeError")) a n ⟨q,c,W,A,os⟩:=λp=>Bm (T:="AttributeError") (b:=M) (aC _ g k) CC p;show ao _ _ (getattributeRaised (.ref v) _ (.type "list") (.ref o) G E E) _ _ _;refine ab (b (U (if_pos rfl) (ab ?_)));show ao _ _ (nP (.type "list") "__getattr__") _ _ _;refine A4 Mv ?_;show ao _ _ (MD (.ref v) _ (.ref o) E E) _ _ _;unfold MD;exact U (if_pos (by decide)) (ab (A5 (ab (b (U (if_pos rfl) (aH (T _ _ L.keeps L.z)))))))
end
theorem tm :plainId "dict.update.loop"=true:=by decide+kernel
theorem CD :entryFor table "dict.update.loop"=Y Builtin.«dict.update.loop»:=entryFor_of_fast (by kernel_rfl)
section
variable{B:aa}{H:ax}{L:O}{s:aY}{j:ai}{R:eX->ai->Prop}
theorem ME{H:ax}{j:av}{y:V}{x:List V}:∀{e:List J} {f:Nat},aE H j (y::x) (e.drop f)->∃N,e[f]? =Y N/\aq H j y N/\aE H j x (e.drop (f+1))
 |e,f,⟨N,T,o,v,m⟩=>by
  refine cW N ?_ v ?_
  ·have:=congrArg (λg=>g[0]?) o;simpa using this
  ·have:e.drop (f+1)=(e.drop f).drop 1:=by exact U List.drop_drop rfl
   exact U this (U o m)
theorem MF{g X:List (Key×V)}{y:V}{x:List V}(o:md g (y::x)=Y X):∃A e,y=.tup [.str A,e]/\md (ih A e g) x=Y X:=by
 induction y using V.casesOn with
 |tup n=>
  rcases n with _|⟨v,_|⟨m,_|⟨W,T⟩⟩⟩
  ·exact ag o
  ·induction v using V.casesOn <;>exact ag o
  ·induction v using V.casesOn with|str A=>exact d9 A m rfl o|_=>exact ag o
  ·induction v using V.casesOn <;>exact ag o
 |_=>exact ag o
theorem MG{A:Key}{N:V}:∀(g:List (Key×V)),(jK A N g).length=g.length:=by
 intro s;induction s with|nil=>exact rfl|cons Z T F=>
  show(match a0 Z.1 A with|true=>(Z.1,N)::jK A N T|false=>Z::jK A N T).length=_
  generalize (a0 Z.1 A)=K;induction K using ap <;>simp[F]
theorem MH{A:Key}{N:V}(g:List (Key×V)):(ih A N g).length<=g.length+1:=by
 unfold ih;generalize (bL A g)=K;induction K using aB with|some=>simp only[MG];lia|none=>simp
structure gT(B:aa)(H:ax)(j:ai)(D:af)(S:List (am×J))(g:List (Key×V))(l:ai):Prop where
 d:l.heap.DictOf (strKind B.prog B.w) D S
 k:∀a aw,j.heap.get? a=Y aw->l.heap.get? a=Y aw
 z:j.heap.objs.size<=l.heap.objs.size
 tn:S.map (λp=>ay p.1)=g.map (·.1)
 fP:aE H j.heap (g.map (·.2)) (S.map (·.2))
 gM:he j l
theorem gT.chg{D Z:af}{S:List (am×J)}{g:List (Key×V)}{l:ai}(Q:gT B H j D S g l)(K:D≠Z)(y:∀v r,j.heap.get? v=Y r->v≠Z){q:av}(X:∀v r,v≠Z->l.heap.get? v=Y r->q.get? v=Y r)(I:l.heap.objs.size<=q.objs.size):gT B H j D S g {l with heap:=q}:=
 ⟨g7 Q.d λr n i F C=>gC r n i (X _ _ K F) C,λv r u=>X v r (y v r u) (Q.k v r u),Nat.le_trans Q.z I,Q.tn,Q.fP,Q.gM.trans ⟨rfl,rfl⟩⟩
theorem gT.set{D:af}{S:List (am×J)}{g:List (Key×V)}{l:ai}(Q:gT B H j D S g l){A:am}{e:V}{N:J}(Z:aq H j.heap e N)(y:∀v r,j.heap.get? v=Y r->v≠D){p:av}(T:p.DictOf (strKind B.prog B.w) D (qk S A N))(R:cL D l.heap p){d:Nat}:gT B H j D (qk S A N) (ih (ay A) e g) {l with heap:=p,toks:=d}:=
 have a:=BR (y:=A) Z Q.tn Q.fP
 ⟨T,λv r u=>(R.2 v (y v r u)).trans (Q.k v r u),Nat.le_trans Q.z (Nat.le_of_eq R.1.symm),a.1,a.2,Q.gM.trans ⟨rfl,rfl⟩⟩
section
variable{c D Z:af}{e:Array J}{C f:Nat}{g X:List (Key×V)}{S:List (am×J)}{l:ai}
theorem MI(z:s.handled=G)(a:D≠Z)(y:∀v r,j.heap.get? v=Y r->v≠Z)(x:l.heap.get? c=Y {cls:=.type "list",dict:=G,data:=.seq e C,slots:= #[]})(X:e[f]? =G)(N:l.heap.IsListIter Z c f)(Q:gT B H j D S g l)
  (I:∀W b,gT B H j D b g W->R (.ok (.ret .none)) W):cu (aA B.prog B.w) s (.builtin "dict.update.loop" ⟨[.ref D,.ref Z,cB f,.none],[]⟩) R l:=by
 refine og CD (U (oh tm _) ?_);show ao _ s.in1 (hn (.ref Z)>>=_) _ _ l;refine ab (mq (B:=B) (P:=λW=>∃q,W={l with heap:=q}/\gT B H j D S g W) (λW p=>au p λq n d=>?_) λi K=>A7 (s:=s.in1) z N (g9 _ x rfl _ rfl) X λq o v m F=>K _ _ (aC q rfl (Q.chg a y v m)) F)
 show ao _ _ (Builtin.Dict.addKeywords D []>>=_) _ _ _;exact ab (aH (aH (I _ S d)))
theorem MJ{h:af}{a:am}{A TW:Nat}{o:V}{p:J}(T3:s.handled=G)(n:D≠Z)(z:∀v r,j.heap.get? v=Y r->v≠D/\v≠Z)(TS:l.heap.get? c=Y {cls:=.type "list",dict:=G,data:=.seq e C,slots:= #[]})(X:e[f]? =Y (.ref h))(t:l.heap.IsListIter Z c f)
  (L:j.heap.get? h=Y {cls:=.type "tuple",data:=.seq #[.str a A,p] TW})(i:aq H j.heap o p)(T:S.length<2000)(Q:gT B H j D S g l)
  (TR:∀W,gT B H j D (qk S a p) (ih (ay a) o g) W->W.heap.IsListIter Z c (f+1)->cu (aA B.prog B.w) s (.builtin "dict.update.loop" ⟨[.ref D,.ref Z,cB ((f+1:Nat):Int),.none],[]⟩) R W):
  cu (aA B.prog B.w) s (.builtin "dict.update.loop" ⟨[.ref D,.ref Z,cB f,.none],[]⟩) R l:=by
 refine og CD (U (oh tm _) ?_);show ao _ s.in1 (hn (.ref Z)>>=_) _ _ l;refine ab (nY (B:=B) (P:=λN W=>∃q,N=.ref h/\W={l with heap:=q}/\q.IsListIter Z c (f+1)/\gT B H j D S g {l with heap:=q}) (λN W x=>fV x λq ev TU b Q=>?_) λUg Uk=>A6 (s:=s.in1) t (g9 _ TS rfl _ rfl) X λq v m=>Uk _ _ (fp q rfl rfl v (Q.chg n (λv r u=>(z v r u).2) (λv r C u=>(m.2 v C).trans u) (Nat.le_of_eq m.1.symm))))
 subst ev TU;have I:=Q.k _ _ L;refine ab (ck (ab (wpAny_tryCatch (ab (te (T:="tuple") (aC _ I rfl) (U (if_pos (by decide)) (ab (hm I rfl (aH ?_)))))))))
 show ao _ _ (bO [.str a A,p] (dictSet D (.str a A) p)) _ _ _;have TV:(strKind B.prog B.w).is a (.str a A)=true:=by show eH a (.str a A)=M;simp[eH]
 refine ck (wpAny_dictSet_pairs (knd:=strKind B.prog B.w) (k:=a) TV Q.d (λUm TX y=>?_) (by refine U cT ?_;exact Nat.le_trans (Nat.le_of_lt T) (by decide)))
 refine aH ⟨qx tm _,?_⟩;exact TR _ (Q.set i (λv r u=>(z v r u).1) TX y) (au b λr F K=>aC r ((y.2 _ (h8 n)).trans F) K)
end
theorem MK(z:s.handled=G){c D Z:af}{e:Array J}{C:Nat}(I:D≠Z)(K:∀v r,j.heap.get? v=Y r->v≠D/\v≠Z)(y:j.heap.get? c=Y {cls:=.type "list",dict:=G,data:=.seq e C,slots:= #[]}){X:List (Key×V)}
  (TZ:∀W T2,gT B H j D T2 X W->R (.ok (.ret .none)) W)(x:List V):∀(f:Nat) {g:List (Key×V)} {S:List (am×J)} {l:ai},aE H j.heap x (e.toList.drop f)->md g x=Y X->g.length+x.length<=2000->l.heap.IsListIter Z c f->gT B H j D S g l->
   cu (aA B.prog B.w) s (.builtin "dict.update.loop" ⟨[.ref D,.ref Z,cB f,.none],[]⟩) R l:=by
 induction x with
 |nil=>intro f g S l p o T A h;obtain rfl:=an o;refine MI z I (λv r u=>(K v r u).2) (h.k _ _ y) ?_ A h TZ;have b:e.toList.drop f= []:=p;refine U (hf).symm ?_;rw[Fn];exact List.drop_eq_nil_iff.mp b
 |cons UK x F=>
  intro f g S l p o T A h;refine bX (ME p) λUh TX m TY=>dZ (MF o) λTR T3 Q o=>?_;subst Q;obtain ⟨TS,N,rfl,d,T0⟩:=m;obtain ⟨dC,TU,t,⟨a,i,rfl,rfl⟩,P⟩:=T0;obtain ⟨Um,T1,q,VL,T4⟩:=P;subst T4;subst q;refine aD d.eP λTW L=>?_;have T5:N= #[.str a i,Um]:=by refine U (Ir (xs:=N)).symm ?_;exact U t rfl
  clear t d;subst T5;have Ve:S.length=g.length:=(i4 ..).symm.trans ((congrArg lh h.tn).trans (i4 ..));replace T:g.length+1+x.length<=2000:=Nat.le_trans (Nat.le_of_eq (Nat.add_right_comm ..)) T;exact MJ z I K (h.k _ _ y) (by refine U (hf).symm ?_;exact TX) A L VL (Nat.lt_of_lt_of_le (Ve▸Nat.lt_succ_self _) (Nat.le_trans (Nat.le_add_right ..) T)) h λW TV n=>F (f+1) TY o (Nat.le_trans (Nat.add_le_add_right (MH g) _) T) n TV
end
section
variable{B:aa}{S:Nat}{W:Inv B}{L:O}{h:V->O->Prop}{b:Nat->Nat->O->Prop}
theorem ML{A C:Nat}{N:J}{x:List V}{g:List (Key×V)}(T6:L.get A C=Y (.list x))(TY:short x=M)(T0:md [] x=Y g)(X:∀H j,W.p H j->aq H j (.ref A C) N)(j:(L.alloc (.dict g)).to h b):ae B S W L (bV (.type "dict") [N]) bh h b:=by
 refine nO j λUC Uu=>λs TS H l I F q f P=>?_;obtain ⟨Z,TV,rfl⟩:=X _ _ f;obtain ⟨_,e,⟨c,Q⟩,TZ⟩:=q.obj _ _ _ _ TV T6;have Uo:=il TY;replace Q:l.heap.get? Z.1=Y {cls:=.type "list",dict:=G,data:=.seq e c,slots:= #[]}:=Q;refine callType_codes (Q₁:=λT a=>T=.ref l.heap.objs.size/\a={l with heap:=l.heap.push {cls:=.type "dict",data:=.dict #[]}}) PySem.F.kt_called_dict (PySem.F.kt_typeCall_dict_1 _) PySem.F.entry_dict_init (kt_code_dict_new _ ⟨rfl,rfl⟩) ?_
 rintro T a ⟨rfl,rfl⟩
 have m:(l.heap.push {cls:=.type "dict",data:=.dict #[]}).DictOf (strKind B.prog B.w) l.heap.objs.size []:=TL l.heap;have o:(l.heap.push {cls:=.type "dict",data:=.dict #[]}).get? Z.1=Y {cls:=.type "list",dict:=G,data:=.seq e c,slots:= #[]}:=cZ _ Q;refine aQ m.typeIs (PySem.F.args_dict_init_2 _ _) (ab (ab (wpAny_notOrdered_dict m.typeIs ?_)));show ao _ _ (pure (l.heap.objs.size,[bZ Z.1])) _ _ _;refine aH ?_;show ao _ _ (Builtin.Dict.updateFrom "dict.__init__" l.heap.objs.size (.ref Z.1) [] .none) _ _ _;refine ab (te (T:="list") (aC _ o rfl) (U (if_pos (by decide)) (ab (MC (s:=s.in1.in1) I.handled o λR Ui K i=>(U (if_pos (show((G:Option J).isNone=M) from rfl)) (ab (hG ?_)))))))
 have T1:=K _ _ o;have TW:gP R Z.1 "list_iterator":=.inl (max rfl e (g9 _ T1 rfl _ rfl));refine ab (qc (l:={l with heap:=R,toks:=Ui}) TW (aH ⟨qx tm _,?_⟩))
 have TR:(l.heap.push {cls:=.type "dict",data:=.dict #[]}).objs.size=l.heap.objs.size+1:=lb ..;replace i:l.heap.objs.size+1<=R.objs.size:=by refine U TR.symm ?_;exact i
 have Uy:∀v r,l.heap.get? v=Y r->(R.push (fO "list_iterator" Z.1)).get? v=Y r:=λv r u=>cZ _ (K _ _ (cZ _ u));have y:∀{v r},l.heap.get? v=Y r->v<l.heap.objs.size:=λu=>bJ u;refine MK (B:=B) (H:=H) (j:=l) (s:=s.in1) (c:=Z.1) I.handled (D:=l.heap.objs.size) (Z:=R.objs.size) (Nat.ne_of_lt i) (λv r u=>⟨Nat.ne_of_lt (y u),Nat.ne_of_lt (Nat.lt_trans (y u) i)⟩) Q (X:=g) (λTX T2 t=>?_) x 0 (g:= []) (S:= []) TZ T0 (Nat.le_trans (Nat.le_of_eq (Nat.zero_add _)) (Nat.le_trans Uo (by decide))) ⟨_,ct _ rfl,rfl,rfl⟩ ⟨?_,Uy,Nat.le_trans (Nat.le_of_lt i) (push_size _),rfl,rfl,⟨rfl,rfl⟩⟩
 ·refine⟨rfl,_,_,bD H L.bf L.n (l.heap.objs.size,l.heap.objs.size),⟨rfl,rfl⟩,⟨_,by unfold bD;exact U (if_pos ⟨rfl,rfl⟩) rfl,rfl⟩,?_,t.gM⟩
  exact aR.alloc (r:=.dict g) (Z:=(l.heap.objs.size,l.heap.objs.size)) q t.k t.z UC Uu (Nat.le_refl _) (Nat.le_refl _) λTU P Uv=>⟨rfl,T2,t.d,t.tn,aE.ba P Uv _ t.fP⟩
 ·exact g7 m λr T3 Uq T4 Ug=>gC r T3 Uq (cZ _ (K _ _ T4)) Ug
end
section
variable{B:aa}{S:Nat}{w:Inv B}{L:O}{h:V->O->Prop}{D:Nat->Nat->O->Prop}
theorem MM{H:e9}{t:cf}{s:aY}{n:J->ai->Prop}{l:ai}{W i:Nat}{a:List J->ai->Prop}(z:s.handled=G)(K:(W==f3)=E)(u:l.heap.DictAt (strKind H t) W [] i)
  (N:∀q D,(∀m r,l.heap.get? m=Y r->q.get? m=Y r)->l.heap.objs.size<=q.objs.size->a [] {l with heap:=q,toks:=D}):ao (aA H t) s (collect (.ref W)) a n l:=by
 have d:=u.lt_size;refine ab (Ml (og Mm (U (oh Mn _) ?_)));show ao _ s.in1 (rS []>>=λg=>s7 (.builtin "list.__iadd__" ⟨[g,.ref W],[]⟩)) _ _ l;refine ab (ib (aH ⟨qx xq _,og Mo ?_⟩));refine U (oh xq _) ?_;show ao _ s.in1 (Builtin.List.listExtendWith (.ref l.heap.objs.size) (.ref W) (.ref l.heap.objs.size)) _ _ _;have w:∀q D,(∀m r,l.heap.get? m=Y r->q.get? m=Y r)->(∃f I,q.get? l.heap.objs.size=Y {cls:=.type "list",dict:=G,data:=.seq f I,slots:= #[]}/\f.size=0)->ao (aA H t) s (match bZ l.heap.objs.size with
   |bZ v=>do
    match(<-load v).data with
     |Data.seq x _=>pure x.toList|_=>s2 "internal:collect"
   |_=>s2 "internal:collect") a n {l with heap:=q,toks:=D}:=by
  rintro q D c ⟨f,I,F,o⟩
  show ao _ s (load l.heap.objs.size>>=_) _ _ _;refine ab (sU F (aH ?_));have k:f.toList= []:=tq.mp (o);show a f.toList _;exact U k (N q D c (Nat.le_of_lt (bJ F)))
 refine bQ (kdl_extend (A:=s) (s:={l with heap:=l.heap.push {cls:=.type "list",data:=.seq ([]:List J).toArray}})
  (R:=λT A=>T=.ok (.ret (.ref l.heap.objs.size))/\∃q D,A={l with heap:=q,toks:=D}/\(∀m r,l.heap.get? m=Y r->q.get? m=Y r)/\∃f I,q.get? l.heap.objs.size=Y {cls:=.type "list",dict:=G,data:=.seq f I,slots:= #[]}/\f.size=0)
  (kdl_dict (knd:=strKind H t) (kvs:= []) (ep:=i) K) z (u.push _) l.heap.objs.size (Nat.ne_of_gt d) (Nat.ne_of_gt d) _ 0 (ct _ rfl) (λq D f I e h B=>max rfl q ⟨D,rfl,λm r o=>e m r (Nat.ne_of_lt (bJ o)) (cZ _ o),f,I,h,B.1⟩) (Nat.zero_le _)) (λp A j=>?_) (λo A j=>?_)
 ·cases p with|done S=>refine nc j λo q P=>?_;clear j;refine bX P λD Q c y=>?_;subst Q;cases o;exact w q D c y|again I=>exact⟨j.1,hW j.2 λT R C=>by refine nc C λQ q P=>?_;clear C;refine bX P λD b c y=>?_;subst Q;subst b;exact w q D c y⟩
 ·exact absurd j.1 (by simp)
theorem MN{A C:Nat}{N:J}(a:L.get A C=Y (.dict []))(m:(B.base.get? f3).isSome=M)(X:∀H j,w.p H j->aq H j (.ref A C) N)(j:(L.alloc (.list [])).to h D):ae B S w L (bV (.builtin "sorted") [N]) bh h D:=by
 refine nO j λUC x=>λs TY H TU I F P f c=>?_;obtain ⟨Z,z,rfl⟩:=X _ _ f;obtain ⟨_,v,hd,k,_⟩:=P.obj _ _ _ _ z a;have t:v= []:=by simpa using k
 subst t;have g:(Z.1==f3)=false:=by rw[beq_eq_false_iff_ne];intro i;have:=(P.new _ _ _ z).1;rw[i] at this;rw[this] at m;exact aG m
 refine aD (TM hd) λTS T0=>call_function_entry kind_sorted plain_sorted entry_sorted (args_sorted1 _) (ab (m:=checkCount "sorted" 1 1 _) (aH (ab (MM (s:=s.in1) I.handled g T0 λq TV r i=>(ab (wpAny_newList ?_))))));have Q:(q.push (seqObj "list" #[] 0)).get? q.objs.size=Y (seqObj "list" ([]:List J).toArray 0):=ct _ rfl;refine ab (ck (jU slot_list_sort (aC _ Q rfl) entry_list_sort (list_sort_tree (ns:= []) Q ?_ (by trivial) λW l R e UB=>aC _ rfl ?_) (args_list_sort _)))
 ·exact IntsAre.nil
 have y:l= []:=List.Perm.eq_nil e;subst y;have d:W= #[]:=by
  generalize o:W.toList=K;induction K using aS with|nil=>exact Array.toList_eq_nil_iff.mp o|cons U0 TR=>rw[o] at R;exact absurd R (by intro i;cases i)
 subst d;refine aH (aC _ rfl (aD (sortedHeap_at (out:= #[]) Q) λo T=>⟨_,_,bD H L.bf L.n (q.objs.size,q.objs.size),⟨rfl,rfl⟩,⟨_,by unfold bD;exact U (if_pos ⟨rfl,rfl⟩) rfl,rfl⟩,?_,rfl,rfl⟩))
 refine aR.alloc (r:=.list []) (Z:=(q.objs.size,q.objs.size)) P (λUH T7 u=>?_) ?_ UC x i i λT5 c Uv=>⟨rfl,#[],⟨_,T⟩,aE.nil⟩
 ·have b:=bJ (r _ _ u);rewrite[sortedHeap_old (Nat.ne_of_lt b) (by rw[size_push'];exact Nat.lt_succ_of_lt b),Heap.get?_push_ne _ _ _ (Nat.ne_of_lt b)]
  exact r _ _ u
 ·exact Nat.le_trans i (Nat.le_of_lt (bJ T))
end
section
variable{H:e9}{t:cf}{s:aY}{n:J->ai->Prop}{R:eX->ai->Prop}{j:av}{c:Array xt}{W:Drawn}{d:Nat}{os:j2}
variable{D u:am}{x L:af}{f I:List J}{l:Bool}{q:List am}{sub:List J}{y:Bool}{Uc:Option Bool}{Q:Option af}{Ug v S h C:Option J}
theorem MO{i:gD}{z:List J}{a:Unit->ai->Prop}(B:j.get? x=Y (li D u x L f I l q sub y Uc Q Ug v S h C "Exception.__new__"))(T:I.contains (.type "Exception")=M)
  (p:a () ⟨j,c,W,d,os⟩):ao i s (p2 "Exception.__new__" ⟨.ref x::z,[]⟩) a n ⟨j,c,W,d,os⟩:=by
 have F:=tr;have b:(bZ x::I).contains (.type "Exception")=true:=by refine U n9 ?_;refine U T ?_;rw[s4]
 have e:=F.noStar;unfold p2;refine U F.newKind (U F.newSplit (U F.newRow ?_));dsimp only
 repeat (first|refine lj B ?_|(refine s5 B ?_;refine U b ?_)|refine wpAny_staticBase_exc B ?_|refine MP B ?_|simp only[bne_self_eq_false,ms,if_false]|wp_step)
 exact p
theorem MQ{z:List J}(B:j.get? x=Y (li D u x L f I l q sub y Uc Q Ug v S h C "Exception.__new__"))(T:I.contains (.type "Exception")=M)(w:I.contains (.type "AttributeError")=E)(X:I.contains (.type "NameError")=E)
  (p:R (.ok (.ret (.ref (j.objs.size+1)))) ⟨(j.push {cls:=.type "tuple",data:=.seq z.toArray}).push {cls:=.ref x,data:=.fields #[.ref j.objs.size,.none,.none,.none,.bool E,.none]},c,W,d,os⟩)(a:z.length<=gF):
  cu (aA H t) s (.builtin "Exception.__new__" ⟨.ref x::z,[]⟩) R ⟨j,c,W,d,os⟩:=by
 have F:=tr;have g:=F.ends;have r:(bZ x::I).contains (.type "Exception")=true:=by refine U n9 ?_;refine U T ?_;rw[s4]
 have b:(bZ x::I).contains (.type "AttributeError")=false:=by refine U n9 ?_;refine U w ?_;rfl
 have e:(bZ x::I).contains (.type "NameError")=false:=by refine U n9 ?_;refine U X ?_;rfl
 refine codeAny_builtinAt F.entry (MR ?_);show PySem.wpAt _ _ _ (stack>>=_) _ _ _;refine MR (PySem.wpAt_stack λZ i=>MS ?_)
 wp_walk
 refine MS ?_;rewrite[F.owner]
 repeat (first|with_reducible refine wpAny_madeHere_exc F.canon B ?_|with_reducible refine lj B ?_|(with_reducible refine s5 B ?_;first|rewrite[r]|rewrite[b]|rewrite[e])|wp_step)
 show R _ _;rw[lb];exact p
theorem MT{K:Frag}{n:af}{z:List J}(X:K.In j)(B:j.get? x=Y (li D u x L f I l q sub y Uc Q Ug v S h C "Exception.__new__"))(a:I.contains (.type "Exception")=M)(w:I.contains (.type "AttributeError")=E)(P:I.contains (.type "NameError")=E)
  (b:c2 K (.ref x) "__init__"=Y (Y (.ref n)))(e:ml K (.ref n)=Y (.type "function"))(Z:z.length<=gF)
  (p:cu (aA H t) (s.under (.builtin "type.__call__" ⟨.ref x::z,[]⟩)) (.call (.ref n) ⟨.ref (j.objs.size+1)::z,[]⟩) (InitBack (j.objs.size+1) R) ⟨(j.push {cls:=.type "tuple",data:=.seq z.toArray}).push {cls:=.ref x,data:=.fields #[.ref j.objs.size,.none,.none,.none,.bool E,.none]},c,W,d,os⟩):
  cu (aA H t) s (.call (.ref x) ⟨z,[]⟩) R ⟨j,c,W,d,os⟩:=by
 have TR:=tc_lookup;have f2:=tc_bind (.ref x);have TU:(⟨j,c,W,d,os⟩:ai).TypeIs (.ref x) "type":=aC _ B rfl;refine sY ?_;show ao _ _ (callAny (.ref x) _) _ _ _
 repeat (any_goals(first|assumption|with_reducible refine lj B ?_|wp_step))
 refine⟨rfl,?_⟩;refine codeAny_call_builtin_at (MU _ (by decide+kernel)) entry_typeCall (wpAny_check_type_call_sub B ?_)
 repeat (first|with_reducible refine lj B ?_|with_reducible refine MP B ?_|wp_step)
 refine codeAny_call_builtin_code (MU _ tr.quiet) (MO B a ?_);refine MQ (z:=z) B a w P ?_ Z;show ao _ _ _ _ _ ⟨(j.push {cls:=.type "tuple",data:=.seq z.toArray}).push {cls:=.ref x,data:=.fields #[.ref j.objs.size,.none,.none,.none,.bool E,.none]},c,W,d,os⟩;have A:∀m r,j.get? m=Y r->((j.push {cls:=.type "tuple",data:=.seq z.toArray}).push {cls:=.ref x,data:=.fields #[.ref j.objs.size,.none,.none,.none,.bool E,.none]}).get? m=Y r:=λm r o=>cZ _ (cZ _ o);have N:=A _ _ B;have g:=X.keeps A;have k:((j.push {cls:=.type "tuple",data:=.seq z.toArray}).push
   {cls:=.ref x,data:=.fields #[.ref j.objs.size,.none,.none,.none,.bool E,.none]}).get? (j.objs.size+1)=Y
   {cls:=.ref x,data:=.fields #[.ref j.objs.size,.none,.none,.none,.bool E,.none]}:=by heap_get
 have F:(bZ x::I).contains (.ref x)=true:=by simp
 repeat (first|with_reducible refine lj k ?_|(with_reducible refine s5 N ?_;refine U F ?_)|wp_step)
 show ao _ _ (nP (.ref x) _) _ _ _;refine(p0 g b).here ?_;refine ck (ab ((bind_fn g _ e).here ?_));refine ab (mf (hW p λT TV i=>?_));rcases T with o|(TS|_|_|_) <;>first|exact i|exact i.elim|skip
 obtain ⟨rfl,i⟩:=i
 wp_walk
 exact i
end
section
variable{H:e9}{t:cf}{s:aY}{n:J->ai->Prop}{R:eX->ai->Prop}{j:av}{c:Array xt}{W:Drawn}{d:Nat}{os:j2}
variable{X u:am}{x L:af}{f I:List J}{k:Bool}{N:List am}{sub:List J}{l:Bool}{A:Option Bool}{Q:Option af}{K b S h e:Option J}{P:String}
theorem MV{i:gD}{o:af}{w:bA}{z:List J}{a:Unit->ai->Prop}(B:j.get? x=Y (li X u x L f I k N sub l A Q K b S h e P))(T:I.contains (.type "Exception")=M)(g:j.get? o=Y w)(q:w.cls=.ref x)(p:a () ⟨j,c,W,d,os⟩):
  ao i s (p2 "Exception.__init__" ⟨.ref o::z,[]⟩) a n ⟨j,c,W,d,os⟩:=by
 have F:=tr;have r:(bZ x::I).contains (.type "Exception")=true:=by refine U n9 ?_;refine U T ?_;rw[s4]
 have t:=F.noStar;unfold p2;refine U F.initKind (U F.initSplit (U F.initRow ?_));dsimp only
 repeat (first|(with_reducible refine lj g ?_;refine U q ?_)|with_reducible refine lj B ?_|(with_reducible refine s5 B ?_;refine U r ?_)|wp_step)
 refine qa ?_;rw[show∀(v m:String) (C:Nat),Bind.check ⟨.positional,"*","Exception",.self,[⟨"args",.varPos,E⟩]⟩ v m C (List.map (λy=>y.fst) ({pos:=bZ o::z}:Args).kw)=pure () from
  λv m C=>check_star_args _ _ _ _ _ _]
 exact aH p
theorem MW{o i:af}{z:List J}{a:J->ai->Prop}(B:j.get? x=Y (li X u x L f I k N sub l A Q K b S h e P))(T:I.contains (.type "Exception")=M)
  (g:j.get? o=Y {cls:=.ref x,data:=.fields #[.ref i,.none,.none,.none,.bool E,.none]})(Z:z.length<=gF)
  (p:∀q,(∀m r,m≠o->j.get? m=Y r->q.get? m=Y r)->j.objs.size<=q.objs.size->q.get? o=Y {cls:=.ref x,data:=.fields #[.ref j.objs.size,.none,.none,.none,.bool E,.none]}->a .none ⟨q,c,W,d,os⟩):
  ao (aA H t) s (bV (.builtin "Exception.__init__") (.ref o::z)) a n ⟨j,c,W,d,os⟩:=by
 have F:=tr;refine mf (sy F.init.plain F.initEntry (MV B T g rfl ?_))
 wp_walk
 refine p _ (λm r D T=>?_) ?_ ?_
 ·refine U (wS _ _ D.symm) ?_;exact cZ _ T
 ·rw[size_update];exact push_size _
 ·refine U (hk _ (cZ _ g) rfl) ?_;rfl
end
noncomputable def qD :List J->List J
 |.ref _::T=>qD T|g=>g
def hX(g:List J):Bool:=qD g== [.type "Exception",.type "BaseException",.type "object"]
theorem CE{g:List J}{P:List J->Prop}(d:∀B T,P T->P (.ref B::T))(b:P (qD g)):P g:=by
 induction g with|nil=>exact b|cons N T F=>
  induction N using hV with|ref B=>exact d B T (F b)|_=>exact b
theorem MX(a:J){g:List J}(o:hX g=M):refuseLoop a "__setattr__" g=pure ():=by exact CE (P:=λg=>refuseLoop a "__setattr__" g=pure ()) (λB T j=>by rw[refuseLoop_ref];exact j) (U (show qD g=_ from beq_iff_eq.mp o) (PySem.F.store_Exception.passes a))
theorem MY{g:List J}{R:String}(o:hX g=M)(L:([.type "Exception",.type "BaseException",.type "object"]:List J).contains (.type R)=M):g.contains (.type R)=true:=by
 refine CE (P:=λg=>g.contains (.type R)=M) (λB T j=>by refine U n9 ?_;refine U j ?_;rw[s4]) ?_
 exact U (show qD g=_ from beq_iff_eq.mp o) L
section
variable{i:e9}{t:cf}{s:aY}{h:J->ai->Prop}{R:eX->ai->Prop}{l:ai}{K:Frag}{x y:af}{v:bA}{q:Option bA}
theorem CF{Z:tu}{Q:am}{D:d1}{N:J}(X:K.In l.heap)(w:InstAt l.heap y v x q)(k:ic K x=Y Z)(T:hX Z.mro=M)(f:c2 K (.ref x) Q=Y G)
  (j:∀m,ao (aA i t) s.in1 (Builtin.ObjectAttr.storeInOwnDict (.ref y) (.ref x) (.str Q D) Q N m)
   (λr W=>match r with|.done S=>R (.ok S) W|.again I=>I.quiet=M/\cu (aA i t) s I R W) (λo W=>R (.error o) W) l):
  cu (aA i t) s (.call (.builtin "object.__setattr__") ⟨[.ref y,.str Q D,N],[]⟩) R l:=by
 have a:=PySem.F.store_object;have c:Z.mro.isEmpty=false:=by generalize u:(Z.mro)=p;induction p using aS with|nil=>rw[u] at T;exact aG T|cons _ _=>rfl
 have sub:p1 (aA i t) l.heap (isInstance (.ref y) (.type "object")) true:=w.type.andThen (looks_mroIn X (by unfold mroIn;refine U k ?_;rw[FE];refine U (if_neg (by rw[c];decide)) ?_;exact U (MY T (by decide)) rfl))
 refine sy a.slot.plain a.entry (@check_slot (aA i t) _ _ l "object.__setattr__" "object" "__setattr__" (.ref y) [.str Q D,N] [] _ a.kind a.split sub (a.args (.ref y) (.str Q D) N) ?_);have h:p1 (aA i t) l.heap (mroOf (.ref x)) Z.mro:=(vB X k).andThen .now;rw[osa_eq,refuse_eq];refine ab (ab (w.type.here (ab (h.here ?_))));rw[MX _ T];exact aH (ab (w.type.here (ab ((p0 X f).here (ab (aH (j _)))))))
theorem MZ(Q:am)(B:Int)(d N:J):∀n:List eb,(jH Q B d N n).length<=n.length+1:=by
 intro s;induction s with|nil=>exact Nat.le_refl _|cons o T F=>
  unfold jH;split
  ·simp
  ·have:=F;simp only[h9];lia
theorem CG{F:af}{n:List eb}{C:Nat}{Q:am}{A:d1}{N:J}{a:Fin->ai->Prop}(D:l.heap.get? F=Y (cX n C))(H:n.any (·.refKey)=E)(P:n.length<=100)
  (p:∀q,(∀m r,m≠F->l.heap.get? m=Y r->q.get? m=Y r)->q.objs.size=l.heap.objs.size->q.get? F=Y (cX (jH Q (kK t.params Q) (.str Q l.toks) N n) (putN Q n C))->a (.done (.ret .none)) {l with heap:=q,toks:=l.toks+1}):
  ao (aA i t) s (Builtin.ObjectAttr.storeInDict F (.str Q A) Q N) a h l:=by
 refine ab (aH (ab (ab (ab (zW (aH (ab (kJ (ab (r4 D ?_))))))))));dsimp only;have X:(!(n.toArray).any (·.key.isStr Q)&&(n.toArray).any (·.refKey))=false:=by refine U vC.symm (U vC.symm ?_);show(!n.any _&&n.any _)=E;refine U H ?_;rw[vD]
 rw[GO];refine U X ?_;refine GP D ?_;have d:=putName_dict Q (kK t.params Q) (.str Q l.toks) N n C;have b:(l.heap.update F (GQ Q (kK t.params Q) (.str Q l.toks) N)).get? F=Y (cX (jH Q (kK t.params Q) (.str Q l.toks) N n) (putN Q n C)):=by exact U d.symm (hk _ D (by refine U d ?_;rfl))
 have:=MZ Q (kK t.params Q) (.str Q l.toks) N n;refine ab (GR b (GS (by refine U ve ?_;refine U cT ?_;lia)) ?_)
 exact aH (p _ (λm r c u=>(f5 _ _ _ _ c).trans u) (size_update _ _ _) b)
theorem M0{Z:tu}{Q:am}{N:J}{e:Array J}{a:Unit->ai->Prop}(X:K.In l.heap)(k:l.heap.get? y=Y {cls:=.ref x,data:=.fields e})(g:ic K x=Y Z)(S:hX Z.mro=M)(hd:Z.hasDict=M)(f:c2 K (.ref x) Q=Y G)
  (P:c2 K (.ref x) "__setattr__"=Y (Y (.builtin "object.__setattr__")))
  (p:∀q A B d,(∀m r,m≠y->l.heap.get? m=Y r->q.get? m=Y r)->l.heap.objs.size<=q.objs.size->q.get? y=Y {cls:=.ref x,dict:=Y l.heap.objs.size,data:=.fields e}->
   q.get? l.heap.objs.size=Y (cX [⟨B,.str Q d,N⟩] (putN Q [] 0))->a () {l with heap:=q,toks:=A}):
  ao (aA i t) s (jI (.ref y) Q N) a h l:=by
 have w:InstAt l.heap y {cls:=.ref x,data:=.fields e} x none:=⟨k,rfl,rfl,trivial⟩;refine zV X w P (CF (l:={l with toks:=l.toks+1}) (R:=λT W=>match T with|.ok (.ret _)=>_|.ok _=>False|.error o=>_) X w g S f λL=>?_)
 have j:y≠l.heap.objs.size:=Nat.ne_of_lt (bJ k);have C:(l.heap.push {cls:=.type "dict",data:=.dict #[]}).get? y=Y {cls:=.ref x,data:=.fields e}:=cZ _ k;refine ab (aH (ab (ab (r4 k ?_))));dsimp only;refine ab ((vB X g) _ _ _ _ (λI I o=>o) (U hd (ab (wpAny_alloc' (ab (wpAny_update' C (aH ?_)))))));have D:((l.heap.push {cls:=.type "dict",data:=.dict #[]}).update y λr=>{cls:=r.cls,dict:=Y l.heap.objs.size,data:=r.data,slots:=r.slots}).get? l.heap.objs.size=Y (cX [] 0):=
  (f5 _ _ _ _ j.symm).trans (Heap.get?_push_at rfl rfl)
 refine CG (n:= []) (C:=0) D rfl (Nat.zero_le _) λq b v z=>p q _ _ _ (λm r c u=>b m r (Nat.ne_of_lt (bJ u)) ((f5 _ _ _ _ c).trans (cZ _ u))) ?_ (b _ _ j (hk _ C rfl)) z;refine U v ?_;show _<=(GL _ _ _).objs.size;rw[size_update];exact push_size _
theorem CH{Z:tu}{Q:am}{N:J}{e:Array J}{F:af}{n:List eb}{C:Nat}{a:Unit->ai->Prop}(X:K.In l.heap)(k:l.heap.get? y=Y {cls:=.ref x,dict:=Y F,data:=.fields e})(D:l.heap.get? F=Y (cX n C))(g:ic K x=Y Z)(S:hX Z.mro=M)(hd:Z.hasDict=M)(f:c2 K (.ref x) Q=Y G)
  (P:c2 K (.ref x) "__setattr__"=Y (Y (.builtin "object.__setattr__")))(H:n.any (·.refKey)=E)(j:n.length<=100)
  (p:∀q A B d,(∀m r,m≠F->l.heap.get? m=Y r->q.get? m=Y r)->l.heap.objs.size<=q.objs.size->q.get? F=Y (cX (jH Q B (.str Q d) N n) (putN Q n C))->a () {l with heap:=q,toks:=A}):
  ao (aA i t) s (jI (.ref y) Q N) a h l:=by
 have w:InstAt l.heap y {cls:=.ref x,dict:=Y F,data:=.fields e} x (Y (cX n C)):=⟨k,rfl,rfl,D⟩;refine zV X w P (CF (l:={l with toks:=l.toks+1}) (R:=λT W=>match T with|.ok (.ret _)=>_|.ok _=>False|.error o=>_) X w g S f λL=>(ab (aH (ab (ab (r4 k ?_))))))
 dsimp only;exact ab ((vB X g) _ _ _ _ (λI I o=>o) (U hd (aH (a:=Y F) (CG D H j λq b v z=>p q _ _ _ b (by refine U v ?_;exact Nat.le_refl _) z))))
end
structure Raw(c:aa)(env:aF)(m:am->Option J)(h:av):Prop where
 kind:env.scope.kind=.function
 gl:env.globals=da
 fG:env.builtins=gE
 plain:∀x k,env.kindOf x=Y k->(x==("__debug__":am))=E/\(x==("__classdict__":am))=E
 ns:h.Ns env.locals m
 base:c.base.StaysIn h
section
variable{B:aa}{s:aY}{h:J->ai->Prop}{R:eX->ai->Prop}{l:ai}{k:aF}{z:am->Option J}
theorem M1{N:J}{Z:List V}{i:gD}{l:ai}(st:B.base.StaysIn l.heap)(D:xm B N Z):∃T:Option (Array J),aE (λI I=>G) B.base Z (T.getD #[]).toList/\∀a:Option (Array J)->ai->Prop,a T l->ao i s (seqItems? N) a h l:=by
 rcases D with⟨rfl,rfl⟩|⟨R,e,rfl,d,T⟩
 ·exact aC G rfl (λa j=>aH j)
 ·exact aD d.eP λz F=>aC (Y e) T (λa j=>hm (st _ _ F) rfl j)
theorem CI(ok:B.Fine){v:af}{c:hN}{K:List aP}{D:cn}{Z:List V}{P:List Nat}{e:List J}(U1:fv B v c K D Z)(UY:gd c.args=Y P)(Vh:iX c P Z D=M)
  (TW:s.depth<ph)(st:B.base.StaysIn l.heap)(j:e.length<=P.length)(Q:P.length-e.length<=Z.length)(d:∀y∈c.args.map (·.arg),D.names.lookup y=Y .local)
  (TR:∀k W z x,aE (λI I=>G) B.base Z x->Raw B k z W.heap->(∀y N,(y,N)∈(c.args.map (·.arg)).zip (e++x.drop (x.length-(c.args.length-e.length)))->k.kindOf y=Y .local/\z y=Y N)->(∀y,k.kindOf y=D.names.lookup y)->
   (∀m r,l.heap.get? m=Y r->W.heap.get? m=Y r)->l.heap.objs.size<=k.locals->(∃U3 Vr,W={l with heap:=U3,toks:=Vr})->ao (aA B.prog B.w) (s.deeper k) (bb K k) (λu F=>u=.next/\R (.ok (.ret .none)) F) (λI I=>False) W):
  cu (aA B.prog B.w) s (.call (.ref v) ⟨e,[]⟩) R l:=by
 refine hd λU2 Vf=>?_;obtain ⟨r,UZ,UQ,hd,Vy,Vz,VA,VB,Vi,Vb,VC,VD⟩:=U1;subst VA;have L:=Cv Vh;have Vj:=st _ _ UQ;refine cR L.args λU6 Vc VE=>?_;refine au (M1 (i:=aA B.prog B.w) (s:=s.in1) (h:=λev W=>R (.error ev) W) st VD) λT S Vk=>?_;have i:=th UY;have Ve:(c.args.map (·.arg)).length=P.length:=by have:=congrArg lh i;simpa using this
 have f:c.args.length=P.length:=by simpa using Ve
 have C:=names_nodup i L.xk;have n:(T.getD #[]).toList.length=Z.length:=S.length;refine Vf (Me TW Vj hd L.co L.gen Vz (VC.keeps st) ?_);refine Ct (Vy.trans VE) rfl Vk C (by refine U f ?_;exact j) (by refine U n ?_;refine U f ?_;exact Q) (by refine U n ?_;refine U f ?_;exact L.ds) ?_
 generalize a:e++(T.getD #[]).toList.drop ((T.getD #[]).toList.length-(c.args.length-e.length))=ws;have g:(c.args.map (·.arg)).length=ws.length:=by refine U a.symm ?_;refine U fL ?_;refine U Cq ?_;refine U n ?_;refine U Ve ?_;refine U f ?_;refine U (Nat.sub_sub_self Q) ?_;exact U (Nat.add_sub_cancel' j) rfl
 refine U VB ?_;refine U Vi ?_;refine U Vb ?_;refine Mf L.kind (λy q=>.inl (d y.1 (by
  have t:y.1∈((c.args.map (·.arg)).zip ws).map (·.1):=fg.mpr (aC y q rfl)
  rw[qB g] at t;exact t))) λk H W X=>?_
 have b:∀y,k.kindOf y=UZ.scope.names.lookup y:=λy=>by refine U H ?_;rfl
 refine⟨(ok.nolimit.keeps st).keeps X.toInCall.keep,codeAny_func ?_⟩;have knd:((c.args.map (·.arg)).zip ws |>.map (·.1)).Nodup:=by refine U (qB g) ?_;exact C
 refine bQ (TR k W _ (T.getD #[]).toList S ⟨by refine U H ?_;exact L.kind,by refine U H ?_;rfl,by refine U H ?_;rfl,λy A TU=>w4 L.plain ((b y).symm.trans TU),X.toInCall.ns,λm r o=>X.toInCall.keep m r (st m r o)⟩ (λy N t=>?_) b X.toInCall.keep X.toInCall.fresh X.toInCall.same) (λu F p=>?_) λI I Vd=>Vd.elim
 ·rw[a] at t;have q:y∈c.args.map (·.arg):=by
   have:y∈((c.args.map (·.arg)).zip ws).map (·.1):=fg.mpr (aC _ t rfl)
   rwa [qB g] at this
  have A:=(b y).trans (d y q);exact⟨A,(Cx (kindOf:=k.kindOf) _ (λI=>G) knd t).1 A⟩
 ·refine ak p λo TZ=>?_;clear p;subst o;exact TZ
theorem qE(W:Raw B k z l.heap){y:am}{Z:aN}{N:J}{a:J->ai->Prop}(m:k.kindOf y=Y .local)(t:z y=Y N)(j:a N l):ao (aA B.prog B.w) s (aX (.Name y Z) k) a h l:=
 rQ (zx W.kind m W.ns t j) (W.plain y _ m).1
theorem CJ(ok:B.Fine)(W:Raw B k z l.heap){y:am}{Z:aN}{N:J}{a:J->ai->Prop}(m:k.kindOf y=Y .globalImplicit)(i:B.hF y=Y N\/(B.hF y=G/\B.lY y=Y N))(j:a N l):ao (aA B.prog B.w) s (aX (.Name y Z) k) a h l:=by
 have r:l.heap.Ns k.globals B.hF:=by refine U W.gl ?_;exact ok.g.keeps W.base
 have T:l.heap.Ns k.builtins B.lY:=by refine U W.fG ?_;exact ok.b.keeps W.base
 rcases i with i|⟨X,i⟩
 ·exact pk W.kind m (zy r i j) (W.plain y _ m).1
 ·exact pk W.kind m (zz r X T i j) (W.plain y _ m).1
theorem M2{r t g:ah}{v:am}{f P Z:aN}{a:f6->ai->Prop}{x X L:J}(W:Raw B k z l.heap)(TR:B.K.In B.base)(b:gK r=E)(p:Nat.beq f.endLine P.line=M)(q:dN [t,g]=M)(m:mh B x)
  (F:∀a:J->ai->Prop,(∀u,(∀(d:aZ Bool) (a:J×List J->ai->Prop),(∀D,a (x,[]) {l with toks:=D})->ao (aA B.prog B.w) s (nR u v d) a h l)->a u l)->ao (aA B.prog B.w) s (aX r k) a h l)
  (Q:∀D (a:J->ai->Prop),(∀y,a X {l with toks:=y})->ao (aA B.prog B.w) s (aX t k) a h {l with toks:=D})
  (o:∀D (a:J->ai->Prop),(∀y,a L {l with toks:=y})->ao (aA B.prog B.w) s (aX g k) a h {l with toks:=D})
  (C:∀D,ao (aA B.prog B.w) s (bV x [X,L]) (λI A=>a .next A) h {l with toks:=D}):ao (aA B.prog B.w) s (b0 (.Expr (.Call (.Attribute r v f) [t,g] [] P) Z) k) a h l:=by
 have n:qi k=false:=by unfold qi;refine U W.kind ?_;rfl
 refine U (BN k _ Z n (n7 rfl _ _)) (ab (dQ (ab (U (sC r v f P [t,g] k b p rfl q) (ab (F _ λu TS=>ab (dQ (ab (ck (TS _ _ λD=>ak (mj q) λc H=>ak (mj H) λi I=>wr (P:=λj=>B.K.In j) (by refine U (sz q) ?_;rfl) m (sA q ?_)))))))))))
 have S:iJ (eF P (eg [t,g] k))=(aX t k>>=λN=>bO [N] (aX g k>>=λN=>bO [N] (pure [])>>=λe=>pure (N::e))>>=λe=>pure (N::e)):=by refine U (nl c) (U (nl i) ?_);rfl
 refine U S (ab (Q _ _ λUi=>ab (ck (ab (o _ _ λR=>ab (ck (aH (aH (aH ⟨TR.keeps W.base,?_⟩)))))))));exact b3 (C R) (λN A T=>BO T)
theorem M3{r x:ah}{v:am}{f z:aN}{a:f6->ai->Prop}{N y:J}(C:mb x=E)
  (K:∀a:J->ai->Prop,a N l->ao (aA B.prog B.w) s (aX x k) a h l)(F:∀a:J->ai->Prop,a y l->ao (aA B.prog B.w) s (aX r k) a h l)
  (R:ao (aA B.prog B.w) s (jI y v N) (λI W=>a .next W) h l):ao (aA B.prog B.w) s (b0 (.Assign [.Attribute r v f] x z) k) a h l:=by
 have o:b0 (.Assign [.Attribute r v f] x z) k=(bT z>>=λI=>aX x k>>=λN=>cU (.Attribute r v f) k N>>=λI=>pure gm):=by
  have c:b0 (.Assign [.Attribute r v f] x z) k=(bT z>>=λI=>ja x (Y (.Attribute r v f)) z.line k>>=λm=>if m=M then(wY x k λN=>qj N ((c0 [.Attribute r v f] k).map (·.2)))>>=λI=>pure gm else aX x k>>=λN=>lg [.Attribute r v f] x k>>=λe=>s0 k N e ((c0 [.Attribute r v f] k).map (·.2))):=rfl
  refine U c ?_;rw[n7 C];refine U (wX rfl (λI I i=>by cases i)) ?_
  rfl
 refine U o (ab (dQ (ab (K _ (ab ?_)))));have g:cU (.Attribute r v f) k N=(bO [N] (aX r k)>>=λu=>bT f.atName>>=λI=>bO [N,u] (jI u v N)>>=λI=>nw [N,u] []):=rfl;refine U g (ab (ck (F _ (ab (dQ (ab (ck (b3 R (λI W T=>?_)))))))));exact λn Z p=>by rw[vm];exact aH (M:=aA B.prog B.w) (A:=s) (E:=h) (a:=gm) (Q:=a) T
end
noncomputable def hY :Key:= [115,101,108,102]
noncomputable def tv :Key:= [82,111,119,115,69,114,114,111,114]
noncomputable def tw :Key:= [69,120,99,101,112,116,105,111,110]
noncomputable def lk{N:Type}(r:Option N)(S:N->Bool):Bool:=match r with
 |some v=>S v|none=>E
theorem mE{N:Type}{r:Option N}{S:N->Bool}(j:lk r S=M):∃v,r=Y v/\S v=true:=by
 induction r using aB with|none=>exact aG j|some v=>exact aC v rfl j
def isNm(A:Key)(o:ah):Bool:=lk (so o) λx=>a0 (ay x) A
def qF(A:Key)(o:ah):Bool:=lk (v1 o) λx=>a0 (ay x) A
set_option backward.match.sparseCases false
noncomputable def CK :aP->Option (ah×aN)
 |.Expr o p=>Y (o,p)|_=>G
noncomputable def CL :List ah->Option (ah×ah)
 | []=>G|v::T=>match T with
  | []=>G|m::T=>match T with
   | []=>Y (v,m)|_::_=>G
structure CM where
 f:ah
 a:ah
 b:ah
 p:aN
def CN :ah->Option CM
 |.Call S n g p=>match g with
  | []=>f9 (CL n) λq=>Y ⟨S,q.1,q.2,p⟩|_::_=>G
 |_=>G
noncomputable def xw :ah->Option (ah×am×aN)
 |.Attribute r v p=>Y (r,v,p)|_=>G
noncomputable def CO :aP->Option (ah×ah×aN)
 |.Assign t N p=>match t with
  | []=>G|d::T=>match T with
   | []=>Y (d,N,p)|_::_=>G
 |_=>G
set_option backward.match.sparseCases true
def j4(c:Key)(p q:ah->Bool)(st:aP):Bool:=lk (CK st) λo=>lk (CN o.1) λB=>lk (xw B.f) λd=>isNm c d.1&&a0 (ay d.2.1) jM&&Nat.beq d.2.2.endLine B.p.line&&p B.a&&q B.b
def storeOk(v N:Key)(st:aP):Bool:=lk (CO st) λq=>lk (xw q.1) λd=>isNm hY d.1&&a0 (ay d.2.1) v&&isNm N q.2.1
theorem M4{l:aP}{u:ah×aN}(j:CK l=Y u):l=.Expr u.1 u.2:=by
 induction l using xj with|Expr=>exact U (an j).symm rfl|_=>exact ag j
theorem M5{g:List ah}{u:ah×ah}(j:CL g=Y u):g= [u.1,u.2]:=by
 rcases g with _|⟨v,_|⟨m,_|⟨y,T⟩⟩⟩
 ·exact ag j
 ·exact ag j
 ·exact U (an j).symm rfl
 ·exact ag j
theorem M6{o:ah}{u:CM}(j:CN o=Y u):o=.Call u.f [u.a,u.b] [] u.p:=by
 induction o using bE with
 |Call S n g Z=>
  induction g using aS with|cons=>exact ag j|nil=>exact au (ii j) λi P j=>U (M5 P) (U (an j).symm rfl)
 |_=>exact ag j
theorem CP{o:ah}{u:ah×am×aN}(j:xw o=Y u):o=.Attribute u.1 u.2.1 u.2.2:=by
 induction o using bE with|Attribute=>exact U (an j).symm rfl|_=>exact ag j
theorem M7{l:aP}{u:ah×ah×aN}(j:CO l=Y u):l=.Assign [u.1] u.2.1 u.2.2:=by
 induction l using xj with
 |Assign t N Z=>
  rcases t with _|⟨v,_|⟨m,T⟩⟩
  ·exact ag j
  ·exact U (an j).symm rfl
  ·exact ag j
 |_=>exact ag j
def CQ :List aP->Bool
 | [A,y]=>j4 tv (isNm hY) (qF i0) A&&storeOk iZ iZ y|_=>E
def CR :List aP->Bool
 | [A,y,a]=>j4 tw (isNm hY) (isNm gL) A&&storeOk gL gL y&&storeOk iY iY a|_=>E
noncomputable def tx(D:cn):List am->Bool
 | []=>M|x::T=>match D.names.lookup x with
  |some .local=>tx D T|_=>E
noncomputable def xx(D:cn)(x:am):Bool:=match D.names.lookup x with
 |some .globalImplicit=>M|_=>E
theorem CS{D:cn}:∀{g:List am},tx D g=M->∀y∈g,D.names.lookup y=Y .local:=by
 intro s;induction s with|nil=>intro I I j;cases j|cons X T F=>
  intro o y j;replace o:(match D.names.lookup X with|some .local=>tx D T|_=>E)=true:=o
  generalize C:D.names.lookup X=aw at o;induction aw using aB with|none=>exact aG o|some A=>induction A using eU with
   |«local»=>
    rcases aW.mp j with rfl|j
    ·exact C
    ·exact F o y j
   |_=>exact aG o
theorem CT{D:cn}{y:am}(o:xx D y=M):D.names.lookup y=Y .globalImplicit:=by
 unfold xx at o;generalize u:D.names.lookup y=aw at o;induction aw using aB with|none=>exact aG o|some A=>induction A using eU with|globalImplicit=>rfl|_=>exact aG o
theorem mF{A:Key}{o:ah}{y:am}(q:ay y=A)(j:isNm A o=M):∃Z,o=.Name y Z:=by refine au (mE j) λX C j=>aD (xi C) λZ Q=>?_;clear C;subst Q;exact⟨Z,U (fu ((dL.mp j).trans q.symm)) rfl⟩
theorem M8{A:Key}{o:ah}(j:qF A o=M):∃d C Z,o=.Constant (.str d) C Z/\ay d=A:=by refine au (mE j) λd X j=>cR (Co X) λC Z Q=>?_;clear X;subst Q;exact gC d C Z rfl (dL.mp j)
theorem CU{c:Key}{Z u:ah->Bool}{st:aP}(j:j4 c Z u st=M):∃r v f t g z P,st=.Expr (.Call (.Attribute r v f) [t,g] [] z) P/\isNm c r=M/\ay v=jM/\Nat.beq f.endLine z.line=M/\Z t=M/\u g=true:=by refine hd λT W=>au (mE j) λo y j=>au (mE j) λB k j=>au (mE j) λd X j=>?_;replace j:=ht.mp j;have q:=ht.mp j.1;have w:=ht.mp q.1;have x:=ht.mp w.1;exact W (c9 d.1 d.2.1 d.2.2 ⟨B.a,B.b,B.p,o.2,by refine U (M4 y) ?_;refine U (M6 k) ?_;exact U (CP X) rfl,x.1,dL.mp x.2,w.2,q.2,j.2⟩)
theorem M9{v N:Key}{st:aP}(j:storeOk v N st=M):∃r y Z x P,st=.Assign [.Attribute r y Z] x P/\isNm hY r=M/\ay y=v/\isNm N x=true:=by refine au (mE j) λu p j=>au (mE j) λd X j=>?_;replace j:=ht.mp j;have q:=ht.mp j.1;exact c9 d.1 d.2.1 d.2.2 ⟨u.2.1,u.2.2,by refine U (M7 p) ?_;exact U (CP X) rfl,q.1,dL.mp q.2,j.2⟩
section
variable{i:gD}{s:aY}{n:J->ai->Prop}{l:ai}{k:aF}
theorem qG{st:aP}{z:List aP}{a:f6->ai->Prop}(j:ao i s (b0 st k) (λu A=>u=.next/\ao i s (bb z k) a n A) n l):ao i s (bb (st::z) k) a n l:=by rw[wW];refine ab (b3 j (λu A t=>ak t λo b=>?_));subst o;exact b
theorem CV{a:f6->ai->Prop}(j:a .next l):ao i s (bb [] k) a n l:=aH j
end
theorem xy{Q A:am}{R B:Int}{d:d1}{k N t:J}{T:List eb}(j:(A==Q)=E):jH Q B k N (⟨R,.str A d,t⟩::T)=⟨R,.str A d,t⟩::jH Q B k N T:=by
 show(if(A==Q)=M then _ else _)=_
 exact U (if_neg (by rw[j];decide)) rfl
theorem Na{B:aa}{N:J}(o:mi B.K N=M):mh B N:=λj X=>by exact keeps_K o j X
structure CW(args:hN)(body:List aP)(scope:cn)(ds:List V)(names:List Key)(chk:List aP->Bool)(g:am):Prop where
 gc:∃gc,gd args.args=Y gc/\iX args gc ds scope=M
 names:args.args.map (λa=>ay a.arg)=names
 loc:tx scope (args.args.map (·.arg))=M
 gl:xx scope g=M
 body:chk body=M
inductive ExcAt(h:av)(X:af):Prop
 |mk (nm q:am) (N:af) (bs bm:List J) (hdct:Bool) (sn:List am) (sub:List J) (mz:Bool) (col:Option Bool) (dd:Option af) (k0 k1 k2 k3 k5:Option J) (e:h.get? X=Y (li nm q X N bs bm hdct sn sub mz col dd k0 k1 k2 k3 k5 "Exception.__new__"))
  (x:bm.contains (.type "Exception")=M) (a:bm.contains (.type "AttributeError")=E) (n:bm.contains (.type "NameError")=E)
structure jf(c:aa):Prop where
 cls:ExcAt c.base c.X
 X:c.X=83
 cd:∃cd,ic c.K c.X=Y cd/\hX cd.mro=M/\cd.hasDict=M
 ty:c2 c.K (.ref c.X) "__init__"=Y (Y (.ref 80))
 fn:ml c.K (.ref 80)=Y (.type "function")
 jG:c2 c.K (.ref c.X) "__setattr__"=Y (Y (.builtin "object.__setattr__"))
 ob:c2 c.K (.ref c.X) "message"=Y G
 tz:c2 c.K (.ref c.X) "spot"=Y G
 tA:c2 c.K (.ref c.X) "value"=Y G
 dS:readsIn c.K 39 (.type "type")=M
 at_:oi c.K (.ref 39) (.type "type") "__init__"=Y (.val (.ref 36))
 ga:CX c.K (.ref 39) "__getattribute__"=Y (Y (.builtin "type.__getattribute__"))
 dD:mi c.K (.ref 36)=M
 ex:oi c.K (.type "Exception") (.type "type") "__init__"=Y (.val (.builtin "Exception.__init__"))
 g1:c.hF "RowsError"=Y (.ref 39)
 g2:c.hF "Exception"=G/\c.lY "Exception"=Y (.type "Exception")
 f1:∃args body scope,fv c 80 args body scope []/\CW args body scope [] [hY,iZ] CQ "RowsError"
 f2:∃args body scope,fv c 36 args body scope [.none]/\CW args body scope [.none] [hY,gL,iY] CR "Exception"
theorem Nb{m:List aP}(j:CQ m=M):∃A y,m= [A,y]/\j4 tv (isNm hY) (qF i0) A=M/\storeOk iZ iZ y=true:=by
 rcases m with _|⟨A,_|⟨y,_|⟨a,T⟩⟩⟩
 ·exact aG j
 ·exact aG j
 ·exact hE _ _ rfl (ht.mp j).1 (ht.mp j).2
 ·exact aG j
theorem Nc{m:List aP}(j:CR m=M):∃A y a,m= [A,y,a]/\j4 tw (isNm hY) (isNm gL) A=M/\storeOk gL gL y=M/\storeOk iY iY a=true:=by
 rcases m with _|⟨A,_|⟨y,_|⟨a,_|⟨b,T⟩⟩⟩⟩
 ·exact aG j
 ·exact aG j
 ·exact aG j
 ·exact fY _ _ _ rfl (ht.mp (ht.mp j).1).1 (ht.mp (ht.mp j).1).2 (ht.mp j).2
 ·exact aG j
theorem Raw.keep{B:aa}{k:aF}{z:am->Option J}{j q:av}{P:af->Prop}(W:Raw B k z j)(A:∀m r,¬P m->j.get? m=Y r->q.get? m=Y r)(N:¬P k.locals)(H:∀m,P m->B.base.get? m=G):Raw B k z q:=by
 refine⟨W.kind,W.gl,W.fG,W.plain,?_,λm r o=>?_⟩
 ·exact g7 W.ns λr n i F T=>gC r n i (A _ _ N F) T
 ·refine A m r (λZ=>?_) (W.base m r o);rw[H m Z] at o;exact ag o
theorem names2{c:List Arg}{y X:am}{v m:Key}(j:c.map (λv=>ay v.arg)= [v,m])(q:ay y=v)(C:ay X=m):c.map (·.arg)= [y,X]:=by
 match c,j with
 | [Z,u],j=>simp only[cp,s1,my,and_true] at j;exact U cp (U cp (U s1 (U (fu (j.1.trans q.symm)) (U (fu (j.2.trans C.symm)) rfl))))
theorem names3{c:List Arg}{y X i:am}{v m W:Key}(j:c.map (λv=>ay v.arg)= [v,m,W])(q:ay y=v)(C:ay X=m)(P:ay i=W):c.map (·.arg)= [y,X,i]:=by
 match c,j with
 | [Z,u,T],j=>simp only[cp,s1,my,and_true] at j;exact U cp (U cp (U cp (U s1 (U (fu (j.1.trans q.symm)) (U (fu (j.2.1.trans C.symm)) (U (fu (j.2.2.trans P.symm)) rfl))))))
section
variable{B:aa}{s:aY}{n:J->ai->Prop}{R:eX->ai->Prop}{l:ai}
theorem Nd{K:Frag}{x:aZ Bool}{a:J×List J->ai->Prop}{H:e9}{t:cf}(X:K.In l.heap)(o:oi K (.type "Exception") (.type "type") "__init__"=Y (.val (.builtin "Exception.__init__")))
  (j:a (.builtin "Exception.__init__",[]) {l with toks:=l.toks+1}):ao (aA H t) s (nR (.type "Exception") "__init__" x) a n l:=by
 have D:typeOf (.type "Exception")=pure (.type "type"):=kitMeta_of (by decide+kernel)
 have b:CY (.type "Exception")=pure none:=by unfold CY;dsimp only;refine U (show Manifest.isStub "Exception"=E from by decide+kernel) ?_;rfl
 have k:p1 (aA H t) l.heap (typeOf (.type "Exception")) (.type "type"):=AU D;have c:p1 (aA H t) l.heap (CY (.type "Exception")) none:=AU b;have r:c2 K (.type "type") "__getattribute__"=Y (Y (.builtin "type.__getattribute__")):=type_tga;refine ab (ab (k.here ((p0 X r).here ?_)));dsimp only;exact U (if_pos canon_tga) (ab (cls_open X c k r (looks_hook X (r:=G) (by rfl)) (by show subIn K _ _=_;rfl) o (aH (handed_on rfl (aH j)))))
end
section
variable{B:aa}{s:aY}{n:J->ai->Prop}{R:eX->ai->Prop}{l:ai}
theorem xz{v d:am}{u dC:Key}{st:aP}{k:aF}{z:am->Option J}{y N:J}{a:f6->ai->Prop}(f:ay v=u)(i:ay d=dC)(m:storeOk u dC st=M)(W:Raw B k z l.heap)(F:k.kindOf "self"=Y .local)(h:z "self"=Y y)(dC:k.kindOf d=Y .local)(e:z d=Y N)
  (j:ao (aA B.prog B.w) s (jI y v N) (λI A=>a .next A) n l):ao (aA B.prog B.w) s (b0 st k) a n l:=by
 refine cR (M9 m) λr p P=>lX P λt x b Q g q o=>?_;subst Q;refine aD (mF (y:="self") rfl g) λc Q=>?_;clear g;subst Q;refine aD (mF (y:=d) i o) λC Q=>?_;clear P m o;subst Q;obtain rfl:=fu (q.trans f.symm);exact M3 rfl (λa j=>qE W dC e j) (λa j=>qE W F h j) j
theorem Nf{st:aP}{k:aF}{z:am->Option J}{y p:J}{a:f6->ai->Prop}(m:j4 tw (isNm hY) (isNm gL) st=M)(ok:B.Fine)(R:jf B)(W:Raw B k z l.heap)(d3:k.kindOf "Exception"=Y .globalImplicit)(F:k.kindOf "self"=Y .local)(h:z "self"=Y y)
  (L:k.kindOf "message"=Y .local)(c:z "message"=Y p)(j:∀D,ao (aA B.prog B.w) s (bV (.builtin "Exception.__init__") [y,p]) (λI A=>a .next A) n {l with toks:=D}):ao (aA B.prog B.w) s (b0 st k) a n l:=by
 refine cR (CU m) λr v P=>cR P λf t P=>pd P λg Z C Q S i b o e=>?_;subst Q;refine aD (mF (y:="Exception") rfl S) λH Q=>?_;clear S;subst Q;refine aD (mF (y:="self") rfl o) λd Q=>?_;clear o;subst Q;refine aD (mF (y:="message") rfl e) λX Q=>?_;clear e;subst Q;obtain rfl:v="__init__":=fu i;exact M2 W ok.dR rfl b rfl (nQ (N:=.builtin "Exception.__init__") rfl) (X:=y) (L:=p) (λa T=>CJ ok W d3 (.inr R.g2) (T _ λx a j=>Nd (ok.dR.keeps W.base) R.ex (j _))) (λD a j=>qE (l:={l with toks:=D}) W F h (j D)) (λD a j=>qE (l:={l with toks:=D}) W L c (j D)) j
theorem Ng{k:aF}{z:am->Option J}{A H Q:aP}(ok:B.Fine)(R:jf B){o T2:af}{Z:J}{T:Nat}{a:f6->ai->Prop}(Ue:j4 tw (isNm hY) (isNm gL) A=M)(Un:storeOk gL gL H=M)(UI:storeOk iY iY Q=M)
  (W:Raw B k z l.heap)(d3:k.kindOf "Exception"=Y .globalImplicit)(F:k.kindOf "self"=Y .local)(L:z "self"=Y (.ref o))(D:k.kindOf "message"=Y .local)(N:z "message"=Y Z)(Uq:k.kindOf "spot"=Y .local)(Uh:z "spot"=Y .none)
  (I:B.base.get? o=G)(c:o<T)(g:k.locals≠o)(T9:T<=l.heap.objs.size)(f:l.heap.get? o=Y {cls:=.ref B.X,data:=.fields #[.ref T2,.none,.none,.none,.bool E,.none]})
  (e:∀q TY d Ud C T7 b TZ S,(∀m r,m≠o->l.heap.get? m=Y r->q.get? m=Y r)->l.heap.objs.size<=q.objs.size->l.heap.objs.size<=d->d≠o->
   q.get? o=Y {cls:=.ref B.X,dict:=Y d,data:=.fields #[.ref Ud,.none,.none,.none,.bool E,.none]}->q.get? d=Y (cX [⟨T7,.str "message" b,Z⟩,⟨TZ,.str "spot" S,.none⟩] C)->a .next {l with heap:=q,toks:=TY}):
  ao (aA B.prog B.w) s (bb [A,H,Q] k) a n l:=by
 obtain ⟨T3,u,T1,Ua,TW,T5,T8,sub,Ub,Uc,T0,Ug,b,S,h,UF,v,Uk,_,_⟩:=R.cls;refine bX R.cd λTX TS TR Ul=>qG (Nf Ue ok R W d3 F L D N λUi=>MW (d:=Ui) (W.base _ _ v) Uk f (Nat.le_trans (show [Z].length<=1 from Nat.le_refl _) (by refine U cT ?_;decide)) λp S i t=>⟨rfl,?_⟩)
 clear v Uk;have j:Raw B k z p:=W.keep (P:=(·=o)) (λm r C u=>S m r C u) g (λm u=>by clear t S e f g c L;subst u;exact I)
 refine qG (xz (v:="message") (d:="message") (l:=⟨p,_,_,_,_⟩) rfl rfl Un j F L D N (M0 (l:=⟨p,_,_,_,_⟩) (ok.dR.keeps j.base) t TS TR Ul R.ob R.jG λx Ur TU Us h T4 y Um=>⟨rfl,?_⟩));have Ut:Raw B k z x:=j.keep (P:=(·=o)) (λm r C u=>h m r C u) g (λm u=>by clear y h t S e f g c L;subst u;exact I)
 have K:p.objs.size≠o:=Nat.ne_of_gt (Nat.lt_of_lt_of_le c (Nat.le_trans T9 i));refine qG (xz (v:="spot") (d:="spot") (l:=⟨x,_,_,_,_⟩) rfl rfl UI Ut F L Uq Uh (CH (l:=⟨x,_,_,_,_⟩) (ok.dR.keeps Ut.base) y Um TS TR Ul R.tz R.jG rfl (show(1:Nat)<=100 by decide) λUP Uj TV Uo T6 Up Uf=>⟨rfl,CV ?_⟩))
 rw[xy (by decide)] at Uf
 exact e UP Uj p.objs.size l.heap.objs.size _ _ _ _ _ (λm r C u=>T6 m r (Nat.ne_of_lt (bJ (S m r C u))) (h m r C (S m r C u))) (Nat.le_trans i (Nat.le_trans T4 Up)) i K (T6 _ _ K.symm y) Uf
theorem Nh(ok:B.Fine)(h:jf B){o n:af}{K:J}(TW:s.depth+2<ph)(st:B.base.StaysIn l.heap)(TS:B.base.get? o=G)
  (g:l.heap.get? o=Y {cls:=.ref B.X,data:=.fields #[.ref n,.none,.none,.none,.bool E,.none]})
  (TZ:∀q D d k C f e L S,(∀m r,m≠o->l.heap.get? m=Y r->q.get? m=Y r)->l.heap.objs.size<=q.objs.size->l.heap.objs.size<=d->d≠o->
   q.get? o=Y {cls:=.ref B.X,dict:=Y d,data:=.fields #[.ref k,.none,.none,.none,.bool E,.none]}->q.get? d=Y (cX [⟨f,.str "message" e,K⟩,⟨L,.str "spot" S,.none⟩] C)->R (.ok (.ret .none)) {l with heap:=q,toks:=D}):
  cu (aA B.prog B.w) s (.call (.ref 36) ⟨[.ref o,K],[]⟩) R l:=by
 obtain ⟨y,TX,UY,U1,⟨Uk,N,UC⟩,P,Z,T3,T⟩:=h.f2;refine lX (Nc T) λTV UP Un Q Ux Uz UI=>?_;clear T;subst Q;have I:=names3 (y:="self") (X:="message") (i:="spot") P rfl rfl rfl;have H:y.args.length=3:=(i4 ..).symm.trans (congrArg lh I);have v:Uk.length=3:=by have:=congrArg lh (th N);simpa[H] using this.symm
 refine CI ok U1 N UC (Nat.lt_of_le_of_lt (Nat.le_add_right _ 2) TW) st (by refine U v ?_;exact(by decide:(2:Nat)<=3)) (by refine U v ?_;exact(by decide:3-2<=1)) (CS Z) λTR Uy UH TU i W t Ug A x z=>?_
 refine hd λUD T4=>?_;refine cR z λb Vm Q=>?_;clear z;subst Q;obtain ⟨_,_,rfl,rfl,rfl⟩:=i;have j:(y.args.map (·.arg)).zip ([bZ o,K]++ [cA].drop ([cA].length-(y.args.length- [bZ o,K].length)))= [(("self":am),bZ o),(("message":am),K),(("spot":am),cA)]:=by refine U I ?_;refine U H ?_;rfl
 replace t:=j▸t;refine ak (t "self" (.ref o) (.head _)) λa T1=>?_;refine ak (t "message" K (.tail _ (.head _))) λTY Ud=>?_;refine ak (t "spot" .none (.tail _ (.tail _ (.head _)))) λUq Uh=>?_;have c:o<l.heap.objs.size:=bJ g;have p:l.heap.objs.size<=b.objs.size:=by refine g7 W.ns λr T2 T9 F T0=>?_;exact Nat.le_trans x (Nat.le_of_lt (bJ F))
 refine T4 ?_;exact Ng (l:={l with heap:=b,toks:=Vm}) (T:=l.heap.objs.size) ok h Ux Uz UI W ((Ug _).trans (CT T3)) a T1 TY Ud Uq Uh TS c (Nat.ne_of_gt (Nat.lt_of_lt_of_le c x)) p (A _ _ g)
  λUZ Uj d k C f e L S T5 j hd P T6 Uf=>⟨rfl,TZ UZ Uj d k C f e L S (λm r C u=>T5 m r C (A m r u)) (Nat.le_trans p j) (Nat.le_trans p hd) P T6 Uf⟩
end
section
variable{B:aa}{s:aY}{R:eX->ai->Prop}{l:ai}
theorem Ni{k:aF}{c:am->Option J}{st:aP}{y:J}{a:f6->ai->Prop}{n:J->ai->Prop}(m:j4 tv (isNm hY) (qF i0) st=M)(ok:B.Fine)(R:jf B)(W:Raw B k c l.heap)(d3:k.kindOf "RowsError"=Y .globalImplicit)(F:k.kindOf "self"=Y .local)(h:c "self"=Y y)
  (j:∀p L D,ay p=i0->ao (aA B.prog B.w) s (bV (.ref 36) [y,.str p L]) (λI A=>a .next A) n {l with toks:=D}):ao (aA B.prog B.w) s (b0 st k) a n l:=by
 refine cR (CU m) λr v P=>cR P λf t P=>pd P λg Z C Q S i T o q=>?_;subst Q;refine aD (mF (y:="RowsError") rfl S) λu Q=>?_;clear S;subst Q;refine aD (mF (y:="self") rfl o) λd Q=>?_;clear o;subst Q;refine g7 (M8 q) λp H X Q x=>?_;clear q;subst Q;obtain rfl:v="__init__":=fu i;have b:qi k=false:=by unfold qi;refine U W.kind ?_;rfl
 refine U (BN k _ C b (n7 rfl _ _)) (ab (dQ (ab (U (sC _ _ f Z _ k rfl T rfl rfl) (ab (CJ ok W d3 (.inl R.g1) (ab (dQ (ab (ck (method_cls (ok.dR.keeps W.base) R.ga (cls_value (ok.dR.keeps W.base) R.dS R.at_ rfl (wr (P:=λj=>B.K.In j) rfl (Na R.dD) (sA rfl ?_))))))))))))))
 suffices z:ao (aA B.prog B.w) s (aX (.Name "self" d) k>>=λN=>bO [N] (mkText p>>=λN=>bO [N] (pure [])>>=λe=>pure (N::e))>>=λe=>pure (N::e)) _ n _ from z
 refine ab (qE (l:={l with toks:=l.toks+1}) W F h (ab (ck (ab (kJ (ab (ck (aH (aH (aH ⟨ok.dR.keeps W.base,?_⟩))))))))))
 exact b3 (j p _ _ x) (λI I y=>BO y)
theorem Nj{k:aF}{z:am->Option J}{A y:aP}(ok:B.Fine)(R:jf B){o j:af}{N:J}{a:f6->ai->Prop}{TV:J->ai->Prop}(TW:s.depth+2<ph)(T2:j4 tv (isNm hY) (qF i0) A=M)(T7:storeOk iZ iZ y=M)
  (W:Raw B k z l.heap)(d3:k.kindOf "RowsError"=Y .globalImplicit)(F:k.kindOf "self"=Y .local)(Z:z "self"=Y (.ref o))(dC:k.kindOf "value"=Y .local)(Ua:z "value"=Y N)
  (I:B.base.get? o=G)(e:k.locals≠o)(Q:l.heap.get? o=Y {cls:=.ref B.X,data:=.fields #[.ref j,.none,.none,.none,.bool E,.none]})
  (H:∀q D d T C f b c g L S T6 h,(∀m r,m≠o->l.heap.get? m=Y r->q.get? m=Y r)->l.heap.objs.size<=q.objs.size->l.heap.objs.size<=d->d≠o->ay c=i0->
   q.get? o=Y {cls:=.ref B.X,dict:=Y d,data:=.fields #[.ref T,.none,.none,.none,.bool E,.none]}->q.get? d=Y (cX [⟨f,.str "message" b,.str c g⟩,⟨L,.str "spot" S,.none⟩,⟨T6,.str "value" h,N⟩] C)->a .next {l with heap:=q,toks:=D}):
  ao (aA B.prog B.w) s (bb [A,y] k) a TV l:=by
 refine bX R.cd λT1 TS TR Ul=>qG (Ni T2 ok R W d3 F Z λc g D TY=>(mf (Nh (l:={l with toks:=_}) ok R (o:=o) (n:=j) TW W.base I Q λp D d T C f b L S t Ue v K n TX=>⟨rfl,?_⟩)))
 have i:Raw B k z p:=W.keep (P:=(·=o)) (λm r C u=>t m r C u) e (λm u=>by clear n K t H Q e Z;subst u;exact I)
 refine qG (xz (v:="value") (d:="value") (l:=⟨p,_,_,_,_⟩) rfl rfl T7 i F Z dC Ua (CH (l:=⟨p,_,_,_,_⟩) (ok.dR.keeps i.base) n TX TS TR Ul R.tA R.jG rfl (show(2:Nat)<=100 by decide) λUm Ur TU Uo h T4 x=>⟨rfl,CV ?_⟩))
 rw[xy (by decide),xy (by decide)] at x
 exact H Um Ur d T _ _ _ c _ _ _ _ _ (λm r C u=>h m r (Nat.ne_of_lt (Nat.lt_of_lt_of_le (bJ u) v)) (t m r C u)) (Nat.le_trans Ue T4) v K TY (h _ _ K.symm n) x
theorem Nk(ok:B.Fine)(h:jf B){o A:af}{N:J}(H:s.depth+4<ph)(st:B.base.StaysIn l.heap)(TS:B.base.get? o=G)
  (g:l.heap.get? o=Y {cls:=.ref B.X,data:=.fields #[.ref A,.none,.none,.none,.bool E,.none]})
  (TZ:∀q D d k C f v K p L S z n,(∀m r,m≠o->l.heap.get? m=Y r->q.get? m=Y r)->l.heap.objs.size<=q.objs.size->l.heap.objs.size<=d->d≠o->ay K=i0->
   q.get? o=Y {cls:=.ref B.X,dict:=Y d,data:=.fields #[.ref k,.none,.none,.none,.bool E,.none]}->q.get? d=Y (cX [⟨f,.str "message" v,.str K p⟩,⟨L,.str "spot" S,.none⟩,⟨z,.str "value" n,N⟩] C)->R (.ok (.ret .none)) {l with heap:=q,toks:=D}):
  cu (aA B.prog B.w) s (.call (.ref 80) ⟨[.ref o,N],[]⟩) R l:=by
 obtain ⟨y,TX,T9,U1,⟨Uk,Z,UC⟩,P,UY,T3,T⟩:=h.f1;refine hD (Nb T) λTV UP Q Ux Uz=>?_;clear T;subst Q;have F:=names2 (y:="self") (X:="value") P rfl rfl;have e:y.args.length=2:=(i4 ..).symm.trans (congrArg lh F);have a:Uk.length=2:=by have:=congrArg lh (th Z);simpa[e] using this.symm
 refine CI ok U1 Z UC (Nat.lt_of_le_of_lt (Nat.le_add_right _ 4) H) st (by refine U a ?_;exact(by decide:(2:Nat)<=2)) (by refine U a ?_;exact(by decide:2-2<=0)) (CS UY) λTR T2 UB TU i W t Ug x u I=>?_
 refine cR I λb Vm Q=>?_;clear I;subst Q;obtain rfl:TU= []:=i;have j:(y.args.map (·.arg)).zip ([bZ o,N]++([]:List J).drop (([]:List J).length-(y.args.length- [bZ o,N].length)))= [(("self":am),bZ o),(("value":am),N)]:=by refine U F (U e ?_);rfl
 replace t:=j▸t;refine ak (t "self" (.ref o) (.head _)) λT4 T1=>ak (t "value" N (.tail _ (.head _))) λdC UZ=>?_;have c:l.heap.objs.size<=b.objs.size:=by exact g7 W.ns λr Up TY T0 UH=>Nat.le_trans u (Nat.le_of_lt (bJ T0))
 exact Nj (l:={l with heap:=b,toks:=Vm}) ok h (show s.depth+1+2<_ from Nat.lt_of_succ_lt H) Ux Uz W ((Ug _).trans (CT T3)) T4 T1 dC UZ TS (Nat.ne_of_gt (Nat.lt_of_lt_of_le (bJ g) u)) (x _ _ g)
  λTW Uj d k C f v K p L S z n Uy j hd P t T6 Uf=>⟨rfl,TZ TW Uj d k C f v K p L S z n (λm r C T5=>Uy m r C (x m r T5)) (Nat.le_trans c j) (Nat.le_trans c hd) P t T6 Uf⟩
end
section
variable{B:aa}{S:Nat}{w:Inv B}{L:O}{h:V->O->Prop}{D:Nat->Nat->O->Prop}
theorem Nl(ok:B.Fine)(R:jf B){y:V}{N:J}(j:(L.alloc (.exc [(gL,.str i0),(iY,.none),(iZ,y)] E)).to h D)(i:∀H j,w.p H j->aq H j y N):ae B (S+5) w L (bV (.ref 83) [N]) bh h D:=by
 refine nO j λUC x=>λT6 T2 H l t F P f c=>?_;have Z:=i _ _ f;obtain ⟨T3,u,Uu,Ud,TW,T5,T8,sub,Ub,Uc,T0,Ug,T,Uq,Up,UF,TU,Uk,e,d⟩:=R.cls;clear c f F;obtain ⟨z,v,TZ,A,os⟩:=l;have st:=P.stays;have X:=ok.dR.keeps st;refine U R.X.symm ?_;have k:∀m r,z.get? m=Y r->((z.push {cls:=.type "tuple",data:=.seq #[N]}).push {cls:=.ref B.X,data:=.fields #[.ref z.objs.size,.none,.none,.none,.bool E,.none]}).get? m=Y r:=λm r o=>cZ _ (cZ _ o);refine mf (MT (z:= [N]) X (st _ _ TU) Uk e d R.ty R.fn (Nat.le_trans (show [N].length<=1 from Nat.le_refl _) (by refine U cT ?_;decide)) ?_)
 have Q:B.base.get? (z.objs.size+1)=none:=by
  generalize u:B.base.get? (z.objs.size+1)=K;induction K using aB with|none=>rfl|some r=>exact absurd (bJ (st _ _ u)) (Nat.not_lt.mpr (Nat.le_succ _))
 refine Nk (l:=⟨_,v,TZ,A,os⟩) ok R (A:=z.objs.size) (by have:=(t.CB (x:=B.X) (z:= [N])).depth;lia) (λm r u=>k m r (st m r u)) Q (by heap_get) λq Um W TR C Uy Us TX T4 Ur Uo UB T1 T b s TV TY g hd=>⟨rfl,?_⟩
 have a:((z.push {cls:=.type "tuple",data:=.seq #[N]}).push {cls:=.ref B.X,data:=.fields #[.ref z.objs.size,.none,.none,.none,.bool E,.none]}).objs.size=z.objs.size+2:=by rw[lb,lb]
 replace b:z.objs.size+2<=q.objs.size:=by refine U a.symm ?_;exact b
 replace s:z.objs.size+2<=W:=by refine U a.symm ?_;exact s
 have Ui:∀m r,z.get? m=Y r->q.get? m=Y r:=λm r u=>T m r (Nat.ne_of_lt (Nat.lt_succ_of_lt (bJ u))) (k m r u);refine⟨_,_,bD H L.bf L.n (z.objs.size+1,W),⟨rfl,rfl⟩,⟨_,by unfold bD;exact U (if_pos ⟨rfl,rfl⟩) rfl,rfl⟩,?_,rfl,rfl⟩
 refine aR.alloc (r:=.exc [(gL,.str i0),(iY,.none),(iZ,y)] E) (Z:=(z.objs.size+1,W)) P Ui (show z.objs.size<=q.objs.size by lia) UC x (Nat.le_succ _) (show z.objs.size<=W by lia) λTS c I=>⟨_,C,_,g,hd,?_,(show 1<6 by decide),λUv=>rfl⟩
 exact⟨_,_,_,_,_,rfl,rfl,⟨TX,_,rfl,TY⟩,_,_,_,_,_,rfl,rfl,rfl,_,_,_,_,_,rfl,rfl,aq.ba c I _ Z,rfl⟩
end
def xA(B:aa):Prop:=∀v f,aL v kW=Y (Y f)->∃c K D P,fv B v c K D f.ds/\gd c.args=Y P/\iX c P f.ds D=M/\f=⟨P,f.ds,K.map (bY 40 (bx D.names))⟩
structure TopOk(c:aa):Prop extends c.Fine where
 mt:jT c meths
 ll:jS c
 ex:jc c
 tB:xn c
 ew:jf c
 kD:xA c
section
variable{B:aa}{S C:Nat}{d:cN}
theorem oj{H:ax}{j:av}{y:V}{e:List J}(T:aE H j [y] e):∃N,e= [N]/\aq H j y N:=by obtain ⟨N,n,rfl,v,m⟩:=T;replace m:n= []:=m;subst m;exact aC N rfl v
theorem xB{H:ax}{j:av}{y X:V}{e:List J}(T:aE H j [y,X] e):∃N t,e= [N,t]/\aq H j y N/\aq H j X t:=by obtain ⟨N,n,rfl,v,m⟩:=T;refine au (oj m) λt Q W=>?_;clear m;subst Q;exact hE N t rfl v W
theorem Nm(l:TopOk B){w:Inv B}{L:O}{m:d0}{y:V}{N:J}{h:V->O->Prop}{D:Nat->Nat->O->Prop}(o:(AB m y L).to h D)(q:∀H j,w.p H j->aq H j y N):ae B S w L (bV (jA m) [N]) bh h D:=by
 refine hd λT W=>?_;induction m using d0.casesOn with
 |len=>exact au (cO o) λA u o=>W (Mi u l.gM q o)|list=>exact au (cO o) λA u o=>W (Mj u q o)|tuple=>exact au (cO o) λA u o=>W (Mq u q o)|dict=>induction y using V.casesOn with
  |ref A C=>
   replace o:(v3 (.ref A C) L).to h D:=o;unfold v3 at o;dsimp only at o;generalize a:L.get A C=r at o;induction r using aB with|none=>exact o.elim|some r=>induction r using aj.casesOn with
    |list x=>
     dsimp only at o;generalize b:short x=u at o;induction u using ap with|false=>exact o.elim|true=>
      dsimp only at o;generalize R:md [] x=g at o;induction g using aB with|none=>exact o.elim|some g=>exact W (ML a b R q o)
    |_=>exact o.elim
  |_=>exact o.elim
 |sorted=>induction y using V.casesOn with
  |ref A C=>
   replace o:(v4 (.ref A C) L).to h D:=o;unfold v4 at o;dsimp only at o;generalize a:L.get A C=r at o;induction r using aB with|none=>exact o.elim|some r=>induction r using aj.casesOn with
    |dict g=>induction g using aS with|nil=>exact W (MN a l.gM q o)|cons=>exact o.elim
    |_=>exact o.elim
  |_=>exact o.elim
 |int=>induction y using V.casesOn with|int=>exact W (Mr q o)|_=>exact o.elim
 |_=>exact o.elim
theorem Nn{X:V}(j:AC X=M):X=.glob (.bi .int):=by
 induction X using V.casesOn with
 |glob c=>induction c using e8.casesOn with
  |bi W=>induction W using d0.casesOn with|int=>rfl|_=>exact aG j
  |_=>exact aG j
 |_=>exact aG j
theorem No(R:TopOk B){w:Inv B}{L:O}{m:d0}{y X:V}{N t:J}{h:V->O->Prop}{D:Nat->Nat->O->Prop}(o:(AD m y X L).to h D)(q:∀H j,w.p H j->aq H j y N)(s:X=.glob (.bi .int)->t=.type "int"):ae B S w L (bV (jA m) [N,t]) bh h D:=by
 induction m using d0.casesOn with
 |isinstance=>refine ak (dr o) λj o=>au (cO o) λi u o=>?_;obtain rfl:=s (Nn j);exact Ms u q o
 |_=>exact o.elim
theorem CZ(R:TopOk B){w:Inv B}{L:O}{m:d0}{x:List V}{e:List J}{h:V->O->Prop}{D:Nat->Nat->O->Prop}(o:(AE m x L).to h D)(z:∀H j,w.p H j->aE H j x e):ae B S w L (bV (jA m) e) bh h D:=λs b H l Z F P f c=>by
 refine hd λk W=>?_;rcases x with _|⟨y,_|⟨X,_|⟨i,T⟩⟩⟩
 ·exact o.elim
 ·refine au (oj (z _ _ f)) λN Q I=>?_;subst Q;exact W (Nm R o (λH j f=>by refine au (oj (z _ _ f)) λt o T=>?_;refine U ((dP o).1) ?_;exact T) s b H l Z F P f c)
 ·refine hD (xB (z _ _ f)) λN t Q I I=>?_;subst Q;refine W (No R o (λH j f=>by refine hD (xB (z _ _ f)) λI I o T I=>?_;refine U ((dP o).1) ?_;exact T) (λu=>?_) s b H l Z F P f c)
  refine hD (xB (z _ _ f)) λI I o I T=>?_;rw[u] at T;exact U ((dP (dP o).2).1) T
 ·exact o.elim
theorem C0(R:TopOk B)(q:gN B S d){w:Inv B}{L:O}{v:Nat}{x:List V}{e:List J}{h:V->O->Prop}{D:Nat->Nat->O->Prop}(o:(nM d C x L (aL v kW)).to h D)(i:∀H j,w.p H j->aE H j x e):j1 B (S+1) w L (.ref v) e h D:=by
 refine hd λT W=>?_;generalize a:aL v kW=K;induction K using aB with|none=>replace o:=a▸o;exact o.elim|some r=>
  induction r using aB with|none=>replace o:=a▸o;exact o.elim|some f=>refine m9 (R.kD v f a) λc A N P m g X b=>?_;replace o:=a▸o;replace o:(sr d C f x L).to h D:=o;replace o:=b▸o;exact W (Mg R.toFine R.mt R.ll R.ex q m g X o i)
theorem Np{g:cN}(R:TopOk B)(q:gN B S d)(k:tj B S g):gN B (S+5) (v6 d g C)/\tj B (S+5) (v6 d g C):=by
 refine⟨λ{w L c x A e h D} o r i s a H l Z F P f W=>?_,λ{w L v x e h D} b p o i=>?_⟩
 ·induction c using V.casesOn with
  |glob c=>
   have z:A=h7 c:=r _ _ f;subst z;induction c using e8.casesOn with|bi m=>exact CZ R o i s a H l Z F P f W|ref v=>
    have o:(match Nat.beq v kX with
     |true=>v5 L x|false=>match aL v ff with
      |some n=>nL g v n x L|G=>nM d C x L (aL v kW)).to h D:=o
    generalize b:Nat.beq v kX=K;induction K using ap with
    |true=>
     replace o:=b▸o;have u:v=83:=Nat.eq_of_beq_eq_true b;clear b r;subst u;rcases x with _|⟨y,_|⟨X,T⟩⟩
     ·exact o.elim
     ·refine au (oj (i _ _ f)) λN Q I=>?_;subst Q;exact Nl R.toFine R.ew o (λH j f=>by refine au (oj (i _ _ f)) λt o T=>?_;cases o;exact T) s a H l Z F P f W
     ·exact o.elim
    |false=>
     replace o:=b▸o;have o:(match aL v ff with
      |some n=>nL g v n x L|G=>nM d C x L (aL v kW)).to h D:=o
     generalize p:aL v ff=K;induction K using aB with|some n=>rw[p] at o;exact(Mh R.toFine R.tB k p o i).le (by lia) s a H l Z F P f W|none=>replace o:=p▸o;exact((C0 R q o i).Cz).le (by lia) s a H l Z F P f W
  |_=>exact(o:False).elim
 ·have o:(match Nat.beq v kX with
   |true=>v5 L x|false=>match aL v ff with
    |some n=>nL g v n x L|G=>nM d C x L (aL v kW)).to h D:=o
  rw[b] at o;have o:(match aL v ff with
   |some n=>nL g v n x L|G=>nM d C x L (aL v kW)).to h D:=o
  rw[p] at o;exact(C0 R q o i).le (by lia)
def Spec(B:aa)(S:Nat)(c:V)(xs:List V)(L:O)(Φ:V->O->Prop):Prop:=∀(I:Inv B) (x:J) (vs:List J),
 (∀H j,I.p H j->aq H j c x)->(∀H j,I.p H j->aE H j xs vs)->ae B S I L (bV x vs) bh Φ λa a a=>False
theorem C1(F:Nat->Bool)(q:gN B S d):gN B S (v7 (Spec B S) F d):=λ{w L c x a e h D} o r i=>by
 induction c using V.casesOn with
 |glob f=>
  induction f using e8.casesOn with|bi m=>exact q o r i|ref v=>
   replace o:(match F v with|true=>Res.ask ⟨.glob (.ref v),x,L⟩ (Spec B S (.glob (.ref v)) x L) .ok|false=>d (.glob (.ref v)) x L).to h D:=o
   generalize u:F v=K;induction K using ap with|false=>rw[u] at o;exact q o r i|true=>rw[u] at o;obtain ⟨g,Z,A⟩:=o;exact ae.mono (Z _ _ _ r i) A λI I I y=>y.elim
 |_=>exact q o r i
def di(B:aa):Nat->V->List V->O->(V->O->Prop)->Prop:=λz=>Spec B (5*z)
theorem xC(R:TopOk B)(F:Nat->Bool)(C:Nat):∀z,gN B (5*z) (c7 (di B) F C z)/\tj B (5*z) (c7 (di B) F C z):=by
 intro s;induction s with|zero=>exact⟨λo=>(o:False).elim,λI I o=>(o:False).elim⟩|succ z v=>exact Np R (C1 F (v).1) (v).2
theorem Spec.le{k:Nat}{c:V}{x:List V}{L:O}{h:V->O->Prop}(j:Spec B S c x L h)(g:S<=k):Spec B k c x L h:=λI I I r i=>(j _ _ _ r i).le g
theorem Spec.mono{c:V}{x:List V}{L:O}{h d:V->O->Prop}(j:Spec B S c x L h)(A:∀T L,h T L->d T L):Spec B S c x L d:=λI I I r i=>ae.q (j _ _ _ r i) A
theorem Spec.of(R:TopOk B)(F:Nat->Bool)(n z:Nat){c:V}{x:List V}{L:O}{h:V->O->Prop}(j:(c7 (di B) F n z c x L).to h λI I I=>False):Spec B (5*z) c x L h:=λI I I r i=>(xC R F n z).1 j r i
end
set_option backward.match.sparseCases false
def bG(A:Nat):Bool:=bg (cK (Nat.beq A 0)) (cK (Nat.beq A 7))
mutual
def fw(D:Nat->Nat->Prop):V->Prop
 |.tup xs=>go D xs|.ref A C=>D A C|_=>True
def go(D:Nat->Nat->Prop):List V->Prop
 | []=>True|x::xs=>fw D x/\go D xs
end
def ol(D:Nat->Nat->Prop):List (Key×V)->Prop
 | []=>True|p::T=>fw D p.2/\ol D T
def gp(D:Nat->Nat->Prop):aj->Prop
 |.list g=>go D g|.dict g=>go D (g.map (·.2))|.inst _ g=>ol D g|.exc g _=>ol D g|.ce=>True
mutual
theorem aq.eJ{D:Nat->Nat->Prop}{H K:ax}{j q:av}(c:∀A C Z,D A C->H A C=Y Z->K A C=Y Z)(d:∀v e,aO H j v e->aO K q v e):∀(y:V) {N:J},fw D y->aq H j y N->aq K q y N
 |.none,_,_,o=>o|.bool _,_,_,o=>o|.int _,_,_,o=>o|.str _,_,_,o=>o|.bytes _,_,_,o=>o|.glob _,_,_,o=>o|.ref _ _,_,W,⟨Z,o,u⟩=>⟨Z,c _ _ _ W o,u⟩|.tup x,_,W,⟨v,e,o,X,T⟩=>⟨v,e,o,d _ _ X,aE.eJ c d x W T⟩
theorem aE.eJ{D:Nat->Nat->Prop}{H K:ax}{j q:av}(c:∀A C Z,D A C->H A C=Y Z->K A C=Y Z)(d:∀v e,aO H j v e->aO K q v e):∀(y:List V) {N:List J},go D y->aE H j y N->aE K q y N
 | [],_,_,o=>o|y::x,_,W,⟨N,T,o,v,m⟩=>⟨N,T,o,aq.eJ c d y W.1 v,aE.eJ c d x W.2 m⟩
end
theorem ec.eJ{D:Nat->Nat->Prop}{H K:ax}{j q:av}(c:∀A C Z,D A C->H A C=Y Z->K A C=Y Z)(d:∀v e,aO H j v e->aO K q v e):∀(x:List (Key×V)) {n:List eb},ol D x->ec H j x n->ec K q x n:=by
 intro s;induction s with|nil=>intro I I o;exact o|cons r T F=>obtain ⟨_,y⟩:=r;intro I W a;obtain ⟨R,C,i,N,b,o,v,m,u⟩:=a;exact⟨R,C,i,N,b,o,v,aq.eJ c d y W.1 m,F W.2 u⟩
theorem c4.eJ{B:aa}{D:Nat->Nat->Prop}{H K:ax}{j:av}{Z:af×af}(c:∀A C Z,D A C->H A C=Y Z->K A C=Y Z)(d:∀v e,aO H j v e->aO K j v e):∀(r:aj),gp D r->c4 B H j Z r->c4 B K j Z r
 |.list g,W,⟨o,e,F,R⟩=>⟨o,e,F,aE.eJ c d g W R⟩|.dict g,W,⟨o,S,F,v,R⟩=>⟨o,S,F,v,aE.eJ c d _ W R⟩|.inst _ g,W,⟨n,C,v,m,u⟩=>⟨n,C,v,m,ec.eJ c d g W u⟩|.exc _ _,W,⟨n,C,t,v,m,u,o⟩=>⟨n,C,t,v,m,ec.eJ c d _ W u,o⟩|.ce,_,⟨o,Q,N,F⟩=>⟨o,Q,N,F⟩
def dT(L:O)(A C:Nat):Prop:=bG A=M/\(L.get A C).isSome=M
structure Entry(ra:Nat->Nat×Nat)(σ σr:O):Prop where
 s:∀k n,bG k=M->σr.get k n=σ.get k n
 a:∀n aw,σr.get 7 n=Y aw->σ.get (ra n).1 (ra n).2=Y aw/\bG (ra n).1=E/\gp (dT σ) aw
 inj:∀n m aw o',σr.get 7 n=Y aw->σr.get 7 m=Y o'->ra n=ra m->n=m
 z:∀n,σr.get 0 n=G
 cl:∀k n aw,bG k=M->σ.get k n=Y aw->gp (dT σ) aw
 fx:∀k n aw,bG k=E->σ.get k n=Y aw->(∃l,aw=.list l)\/∃m o',ra m=(k,n)/\σr.get 7 m=Y o'
structure Back(σ σr σr' σ':O):Prop where
 p:∀k n,bG k=E->σ'.get k n=σ.get k n
 s:∀k n aw,bG k=M->σ'.get k n=Y aw->σr'.get k n=Y aw/\gp (dT σ') aw
 g:∀k n,bG k=M->(σ.get k n).isSome=M->(σ'.get k n).isSome=M
 a:∀n aw,σr.get 7 n=Y aw->σr'.get 7 n=Y aw
 d:∀n aw,σr.get 7 n=Y aw->gp (dT σ') aw
def eZ(u:Nat->Nat×Nat)(g:O)(H:ax):ax:=λA C=>match bG A with
 |true=>H A C|false=>match Nat.beq A 7 with
  |true=>match g.get 7 C with
   |some _=>H (u C).1 (u C).2|none=>G
  |false=>G
def iu(n:O)(H a:ax):ax:=λA C=>match bG A with
 |true=>match n.get A C with
  |some _=>a A C|none=>G
 |false=>H A C
theorem tC{A:Nat}(j:bG A=E):A=0\/A=7:=by
 unfold bG at j;rw[bl.cH,bl.cH] at j;by_cases v:A=0
 ·exact .inl v
 ·by_cases m:A=7
  ·exact .inr m
  ·simp[v,m,cK,bg] at j
section
variable{B:aa}{b:Nat}{TS:Nat->Nat×Nat}{L TW Ub n:O}{H T4:ax}{j q:av}
theorem j5(S:Entry TS L TW){A C:Nat}{Z:af×af}(o:eZ TS TW H A C=Y Z):(bG A=M/\H A C=Y Z)\/(A=7/\H (TS C).1 (TS C).2=Y Z/\∃r,TW.get 7 C=Y r):=by
 unfold eZ at o;generalize u:bG A=K;induction K using ap with|true=>replace o:=u▸o;exact .inl ⟨rfl,o⟩|false=>
  rw[u] at o;rcases tC u with rfl|rfl
  ·exact ag o
  ·replace o:(match TW.get 7 C with|some _=>H (TS C).1 (TS C).2|none=>G)=Y Z:=o
   generalize t:TW.get 7 C=K;induction K using aB with|none=>replace o:=t▸o;exact ag o|some r=>rw[t] at o;exact .inr (u5 rfl o r rfl)
theorem qH(S:Entry TS L TW){v:af}:foot (eZ TS TW H) v->foot H v:=λ⟨A,C,Z,o,y⟩=>by
 rcases j5 S o with⟨_,u⟩|⟨_,u,_⟩
 ·exact⟨A,C,Z,u,y⟩
 ·exact⟨_,_,Z,u,y⟩
theorem Rep.entry(R:Rep B H L j)(S:Entry TS L TW):Rep B (eZ TS TW H) TW j:=by
 have F:∀v e,aO H j v e->aO (eZ TS TW H) j v e:=λv e d=>let ⟨C,o,b⟩:=d;⟨C,o,λy=>b (qH S y)⟩;have x:∀A C Z,dT L A C->H A C=Y Z->eZ TS TW H A C=Y Z:=λA C Z W o=>by unfold eZ;exact U W.1 o
 refine⟨R.stays,λA C=>?_,λA C Z r o u=>?_,λA C Z o=>?_,λA C Z w h l o k D=>?_⟩
 ·unfold eZ;generalize u:bG A=K;induction K using ap with|true=>exact U (S.s A C u) (R.ed A C)|false=>
   rcases tC u with rfl|rfl
   ·rw[S.z];rfl
   ·show(match TW.get 7 C with|some _=>H (TS C).1 (TS C).2|none=>G).isSome=_
    generalize t:TW.get 7 C=K;induction K using aB with|none=>rfl|some r=>have:=R.ed (TS C).1 (TS C).2;rw[(S.a C r t).1] at this;exact this
 ·rcases j5 S o with⟨m,o⟩|⟨rfl,o,P,t⟩
  ·rw[S.s A C m] at u;exact c4.eJ x F r (S.cl A C r m u) (R.obj _ _ _ _ o u)
  ·exact br (S.a C r u) λf I p=>c4.eJ x F _ p (R.obj _ _ _ _ o f)
 ·rcases j5 S o with⟨_,o⟩|⟨_,o,_⟩
  ·exact R.new _ _ _ o
  ·exact R.new _ _ _ o
 ·refine hd λT n=>?_;rcases j5 S o with⟨m,o⟩|⟨rfl,o,r,t⟩
  ·rcases j5 S k with⟨_,k⟩|⟨rfl,k,P,Q⟩
   ·exact n (R.sep _ _ _ _ _ _ o k D)
   ·refine n (R.sep _ _ _ _ _ _ o k (.inl λi=>?_));rw[i,(S.a h P Q).2.1] at m;exact aG m
  ·rcases j5 S k with⟨g,k⟩|⟨rfl,k,P,Q⟩
   ·refine n (R.sep _ _ _ _ _ _ o k (.inl λi=>?_));rw[<-i,(S.a C r t).2.1] at g;exact aG g
   ·refine n (R.sep _ _ _ _ _ _ o k ?_);by_cases i:(TS C).1=(TS h).1
    ·refine .inr λc=>?_;rcases D with D|D
     ·exact D rfl
     ·exact D (S.inj C h r P t Q (xg i c))
    ·exact .inl i
theorem aR.back(R:Rep B H L j)(S:Entry TS L TW)(l:Back L TW Ub n)(P:aR B (eZ TS TW H) j T4 Ub q):aR B H j (iu n H T4) n q/\∀(y:V) (T3:J),fw (dT n) y->aq T4 q y T3->aq (iu n H T4) q y T3:=by
 have UA:∀{A C Z},bG A=M->H A C=Y Z->T4 A C=Y Z:=λ{A C Z} m o=>P.grow.1 A C Z (by unfold eZ;refine U m ?_;exact o)
 have Uo:∀{A C Z},T4 A C=Y Z->∃r,Ub.get A C=Y r:=λ{A C Z} o=>by have:=P.rep.ed A C;rw[o] at this;exact lZ.mp this.symm
 have f:∀{A C Z},iu n H T4 A C=Y Z->(bG A=M/\T4 A C=Y Z/\∃r,n.get A C=Y r)\/(bG A=E/\H A C=Y Z):=λ{A C Z} o=>by
  unfold iu at o;generalize u:bG A=K;induction K using ap with|false=>rw[u] at o;exact .inr ⟨rfl,o⟩|true=>
   rw[u] at o;replace o:(match n.get A C with|some _=>T4 A C|none=>G)=Y Z:=o
   generalize t:n.get A C=K;induction K using aB with|none=>replace o:=t▸o;exact ag o|some r=>rw[t] at o;exact .inl (u5 rfl o r rfl)
 have Uu:∀{A C Z},bG A=M->T4 A C=Y Z->H A C=Y Z\/(j.objs.size<=Z.1/\j.objs.size<=Z.2):=λ{A C Z} m o=>by
  rcases P.grow.2 A C Z o with u|u
  ·rcases j5 S u with⟨_,u⟩|⟨rfl,_⟩
   ·exact .inl u
   ·exact aG m
  ·exact .inr u
 have Ur:jB H (iu n H T4) j:=by
  refine⟨λA C Z o=>?_,λA C Z o=>?_⟩
  ·unfold iu;generalize u:bG A=K;induction K using ap with|false=>exact o|true=>
    have W:=R.ed A C;rw[o] at W;refine aD (lZ.mp (l.g A C u W.symm)) λr F=>?_;show(match n.get A C with|some _=>T4 A C|none=>G)=_
    exact U F (UA u o)
  ·rcases f o with⟨m,o,_⟩|⟨_,o⟩
   ·exact Uu m o
   ·exact .inl o
 have Ui:rK H j q:=λv r o b=>P.keep v r o λy=>b (qH S y);have TY:∀A C Z,dT n A C->T4 A C=Y Z->iu n H T4 A C=Y Z:=λA C Z W o=>by
  unfold iu;refine U W.1 (aD (lZ.mp W.2) λr F=>?_);show(match n.get A C with|some _=>T4 A C|none=>G)=_
  exact U F o
 have Uw:∀{z r},TW.get 7 z=Y r->∀{Z},H (TS z).1 (TS z).2=Y Z->eZ TS TW H 7 z=Y Z:=λ{z r} t {Z} o=>by
  show(match TW.get 7 z with|some _=>H (TS z).1 (TS z).2|none=>G)=_
  exact U t o
 have Uj:∀v e,aO T4 q v e->aO (iu n H T4) q v e:=λv e ⟨z,o,b⟩=>by
  refine⟨z,o,λUv=>?_⟩;obtain ⟨A,C,Z,Ug,y⟩:=Uv;rcases f Ug with⟨_,u,_⟩|⟨m,u⟩
  ·exact b ⟨A,C,Z,u,y⟩
  ·have i:¬foot (eZ TS TW H) v:=λi=>b (P.grow.kD i);refine au (R.at u) λr F N=>?_;rcases S.fx A C r m F with⟨Ua,rfl⟩|⟨h,Um,TU,T0⟩
   ·obtain ⟨Us,Uh,⟨h,Uk⟩,_⟩:=N;have UV:v=Z.1:=by rcases y with y|y;exact y;exact U y (U Us rfl)
    rw[UV] at o i;have:=(P.keep _ _ Uk i).exact λI I u=>by cases u
    rw[this] at o;have:=congrArg (λr=>(r.map (·.cls)).getD .none) o
    simp at this
   ·refine i ⟨7,h,Z,Uw T0 ?_,y⟩;exact U TU u
 have T5:∀v e,aO H j v e->aO (iu n H T4) q v e:=λv e ⟨z,o,b⟩=>
  ⟨z,(P.keep _ _ o λy=>b (qH S y)).exact λI I u=>(by cases u),λy=>Ur.eD o b y⟩
 refine⟨⟨⟨P.rep.stays,λA C=>?_,λA C Z r o u=>?_,λA C Z o=>?_,λA C Z w TZ Q o k D=>?_⟩,Ur,Ui,P.size⟩,λy T3 W Uc=>aq.eJ TY Uj y W Uc⟩
 ·unfold iu;generalize u:bG A=K;induction K using ap with|false=>exact U (l.p A C u) (R.ed A C)|true=>
   show(match n.get A C with|some _=>T4 A C|none=>G).isSome=_
   generalize t:n.get A C=K;induction K using aB with|none=>rfl|some r=>have:=P.rep.ed A C;rw[(l.s A C r u t).1] at this;exact this
 ·rcases f o with⟨m,o,_⟩|⟨m,o⟩
  ·exact ak (l.s A C r m u) λUx Uz=>c4.eJ TY Uj r Uz (P.rep.obj _ _ _ _ o Ux)
  ·replace u:=(l.p A C m)▸u;have N:=R.obj _ _ _ _ o u;by_cases i:foot (eZ TS TW H) Z.1
   ·
    obtain ⟨Up,T,T1,T6,x⟩:=i;have same:eZ TS TW H Up T=Y Z/\Up=7/\TS T=(A,C):=by
     rcases j5 S T6 with⟨Ut,t⟩|⟨rfl,t,X,Uq⟩
     ·exfalso;have:=R.sep _ _ _ _ _ _ o t (.inl λi=>by rw[i,Ut] at m;exact cS m)
      rcases x with x|x
      ·exact this.1 x
      ·exact this.2.1 x
     ·have:TS T=(A,C):=by
       apply va;intro D;have:=R.sep _ _ _ _ _ _ o t (by
        by_cases T2:A=(TS T).1
        ·exact .inr λTX=>D (xg T2.symm TX.symm)
        ·exact .inl T2)
       rcases x with x|x
       ·exact this.1 x
       ·exact this.2.1 x
      rw[this] at t;have:T1=Z:=an (t.symm.trans o);clear x N o;clear o;subst this;exact aQ T6 rfl this
    refine br same λTV TR Un=>?_;clear same;clear T6;subst TR;rcases j5 S TV with⟨Ut,_⟩|⟨_,_,X,Uq⟩
    ·exact aG Ut
    ·refine br (S.a T X Uq) λUf I UB=>?_;rw[Un] at Uf;have:X=r:=an (Uf.symm.trans u);clear N u;subst this;have UC:=P.rep.obj _ _ _ _ (P.grow.1 _ _ _ TV) (l.a T X Uq);exact c4.eJ TY Uj X (l.d T X Uq) UC
   ·rcases S.fx A C r m u with⟨Ua,rfl⟩|⟨h,Um,TU,T0⟩
    ·obtain ⟨Us,Uh,⟨h,Uk⟩,T7⟩:=N;exact⟨Us,Uh,⟨h,(P.keep _ _ Uk i).exact λI I u=>(by cases u)⟩,aE.ba Ur.1 T5 Ua T7⟩
    ·exact(i ⟨7,h,Z,Uw T0 (by refine U TU ?_;exact o),.inl rfl⟩).elim
 ·rcases f o with⟨_,o,_⟩|⟨_,o⟩
  ·exact P.rep.new _ _ _ o
  ·exact R.new _ _ _ o
 ·have Uy:∀{A C Z w TZ Q},bG A=M->T4 A C=Y Z->bG w=E->H w TZ=Y Q->Z.1≠Q.1/\Z.1≠Q.2/\Z.2≠Q.1/\Z.2≠Q.2:=λ{A C Z w TZ Q} m o c k=>by
   rcases Uu m o with u|⟨T9,Ul⟩
   ·exact R.sep _ _ _ _ _ _ u k (.inl λi=>by rw[i,c] at m;exact aG m)
   ·exact ak (R.lt k) λUd UD=>bP (λi=>absurd (Nat.lt_of_lt_of_le Ud (i▸T9)) (Nat.lt_irrefl _)) (λi=>absurd (Nat.lt_of_lt_of_le UD (i▸T9)) (Nat.lt_irrefl _)) (λi=>absurd (Nat.lt_of_lt_of_le Ud (i▸Ul)) (Nat.lt_irrefl _)) (λi=>absurd (Nat.lt_of_lt_of_le UD (i▸Ul)) (Nat.lt_irrefl _))
  rcases f o with⟨m,o,_⟩|⟨m,o⟩
  ·rcases f k with⟨c,k,_⟩|⟨c,k⟩
   ·exact P.rep.sep _ _ _ _ _ _ o k D
   ·exact Uy m o c k
  ·rcases f k with⟨c,k,_⟩|⟨c,k⟩
   ·exact e7 (Uy c k m o) λT8 f2 j3 Ue=>bP T8.symm j3.symm f2.symm Ue.symm
   ·exact R.sep _ _ _ _ _ _ o k D
noncomputable def hZ(TS:Nat->Nat×Nat):V->V
 |.ref A C=>match Nat.beq A 7 with
  |true=>.ref (TS C).1 (TS C).2|false=>.ref A C
 |x=>x
def qI(L TW:O):V->Prop
 |.ref A C=>dT L A C\/(A=7/\∃r,TW.get 7 C=Y r)|x=>fw (dT L) x
theorem Spec.view{c:e8}{w:List V}{s h:V->O->Prop}(S:Entry TS L TW)(j:Spec B b (.glob c) w TW s)(k:∀y∈w,qI L TW y)(A:∀T Ub,s T Ub->∃n,Back L TW Ub n/\fw (dT n) T/\h T n):Spec B b (.glob c) (w.map (hZ TS)) L h:=λT1 TR D a p TX z H l Uo F q f TV=>by
 have T5:TR=h7 c:=a _ _ f;clear a;subst T5;have m:∀v e,aO H l.heap v e->aO (eZ TS TW H) l.heap v e:=λv e d=>let ⟨C,o,Uc⟩:=d;⟨C,o,λy=>Uc (qH S y)⟩;have g:∀A C Z,dT L A C->H A C=Y Z->eZ TS TW H A C=Y Z:=λA C Z W o=>by unfold eZ;exact U W.1 o
 have Uf:∀{x:List V} {D:List J},(∀y∈x,qI L TW y)->aE H l.heap (x.map (hZ TS)) D->aE (eZ TS TW H) l.heap x D:=λ{x}=>by
  induction x with|nil=>exact λI T=>T|cons y T R=>
   intro D ok ⟨N,t,o,v,Uv⟩;refine⟨N,t,o,?_,R (λX Un=>ok X (.tail _ Un)) Uv⟩;have r:=ok y (.head _);induction y using V.casesOn with
   |ref A C=>
    rcases r with r|⟨rfl,r,Uw⟩
    ·have:hZ TS (.ref A C)=.ref A C:=by
      show(match Nat.beq A 7 with|true=>_|false=>_)=_
      generalize u:Nat.beq A 7=K;induction K using ap with|false=>rfl|true=>replace r:=(Nat.eq_of_beq_eq_true u)▸r;cases r.1
     rw[this] at v;exact aq.eJ g m _ r v
    ·obtain ⟨Z,T2,rfl⟩:=(show aq H l.heap (.ref (TS C).1 (TS C).2) N from v);refine⟨Z,?_,rfl⟩;show(match TW.get 7 C with|some _=>H (TS C).1 (TS C).2|none=>G)=_
     exact U Uw T2
   |_=>exact aq.eJ g m _ r v
 have Fr:Frames B (eZ TS TW H) z l.heap:=λo TZ=>by obtain ⟨Ue,TY,r,T3,Uq,Ul,UB,TU,T0,T9⟩:=F o TZ;exact⟨Ue,TY,r,T3,Uq,Ul,UB,TU,T0,λy=>T9 (qH S y)⟩
 refine bQ (j (l0 w D) _ _ (λI I I=>rfl) (λI I f=>f) TX z _ l Uo Fr (q.entry S) (Uf k (p _ _ f)) TV) (λN i Uh=>?_) λo i y=>?_
 ·obtain ⟨T,Ub,T4,T7,Ug,Q⟩:=Uh;exact bX (A T Ub T7) λn Ua W T6=>ak (aR.back q S Ua Q.post) λP Uj=>⟨T,n,_,T6,Uj _ _ W Ug,P,Q.same⟩
 ·obtain ⟨_,_,_,_,_,_,y,_⟩:=y;exact y.elim
end
set_option backward.match.sparseCases true
abbrev om :Nat->Nat->Prop:=λA I=>A≠0
noncomputable def hu(H:ax):ax:=λA C=>match Nat.beq A 0 with
 |true=>G|false=>H A C
structure ln(σ σ':O):Prop where
 e:∀k n,k≠0->σ'.get k n=σ.get k n
 z:∀n,σ'.get 0 n=G
 c:∀k n aw,k≠0->σ.get k n=Y aw->gp om aw
theorem xD{H:ax}{A C:Nat}(j:A≠0):hu H A C=H A C:=by unfold hu;rw[bl.cH,decide_eq_false j]
theorem oq{H:ax}{A C:Nat}{Z:af×af}(j:hu H A C=Y Z):A≠0/\H A C=Y Z:=by
 unfold hu at j;generalize u:Nat.beq A 0=K;induction K using ap with|true=>replace j:=u▸j;exact ag j|false=>replace j:=u▸j;exact⟨Nat.ne_of_beq_eq_false u,j⟩
theorem tD{H:ax}{v:af}:foot (hu H) v->foot H v:=λp=>(by obtain ⟨A,C,Z,o,y⟩:=p;exact⟨A,C,Z,(oq o).2,y⟩)
theorem C2{H:ax}{j:av}:∀v e,aO H j v e->aO (hu H) j v e:=λI I p=>(by obtain ⟨C,o,b⟩:=p;exact⟨C,o,λy=>b (tD y)⟩)
theorem C3{H:ax}:∀A C Z,om A C->H A C=Y Z->hu H A C=Y Z:=λA C Z W o=>by refine U (xD W) ?_;exact o
section
variable{B:aa}{S:Nat}{k:aF}{r L n:O}{H F:ax}{j:av}{Q P:al}{h:FM->al->O->Prop}{D:Nat->Nat->O->Prop}
theorem Rep.less(R:Rep B H L j)(d:ln L n):Rep B (hu H) n j:=by
 refine⟨R.stays,λA C=>?_,λA C Z r o u=>?_,λA C Z o=>R.new _ _ _ (oq o).2,λA C Z w a l o k D=>R.sep _ _ _ _ _ _ (oq o).2 (oq k).2 D⟩
 ·by_cases i:A=0
  ·subst i;rw[d.z];rfl
  ·exact U (xD i) (U (d.e A C i) (R.ed A C))
 ·refine ak (oq o) λi o=>?_;rw[d.e A C i] at u;exact c4.eJ C3 C2 r (d.c A C r i u) (R.obj _ _ _ _ o u)
def mG(P Q:al):Prop:=∀x N,aL x P=Y N->aL x Q=Y N/\fw om N
theorem bp.less(c:bp B k Q H j)(l:mG P Q):bp B k P (hu H) j:=by
 refine au c.ns λz X h=>⟨c.kind,c.gl,c.fG,c.plain,aC z X (λy f e b q F=>?_),⟨λy=>c.own.1 (tD y),c.own.2⟩,λZ S=>?_⟩
 ·exact ak (l f e q) λq W=>au (h y f e b q F) λN p t=>aC N (aq.eJ C3 C2 _ W p) t
 ·exact ak (c.cell Z S) λv m=>⟨λy=>v (tD y),m⟩
theorem fs.less{j l:ai}(o:fs B k F j H L l)(c:ln L n)(i:∀C,F 0 C=G):fs B k F j (hu H) n l:=by
 refine⟨⟨o.post.rep.less c,⟨λA C Z u=>?_,λA C Z u=>o.post.grow.2 A C Z (oq u).2⟩,o.post.keep,o.post.size⟩,o.same⟩;have:A≠0:=λX=>by rw[X,i] at u;exact ag u
 exact U (xD this) (o.post.grow.1 A C Z u)
theorem Here.xE{s:aY}{b:List aF}{j:ai}(g:Here B S k Q r s b F j)(i:∀C,r.get 0 C=G):∀C,F 0 C=none:=λC=>by
 have:=g.rep.ed 0 C;rw[i] at this;generalize u:F 0 C=K;induction K using aB with|none=>rfl|some Z=>rw[u] at this;exact cS this
theorem ir.less{a:ah}{K:List aP}(j:ir B S k r a K P n h D)(i:∀C,r.get 0 C=G)(c:ln L n)(l:mG P Q):ir B S k r a K Q L h D:=
 λs b F e q H A w g o=>j s b F e q (hu H) A w (g.less l) (o.less c (w.xE i))
theorem gk.less{t:ah}{K:List aP}{v m:Int}(j:gk B S k r t K P n (.cg v m) h D)(i:∀C,r.get 0 C=G)(d:ln L n)(l:mG P Q):gk B S k r t K Q L (.cg v m) h D:=
 λs b F e q H A Z w g o T=>j s b F e q (hu H) A Z w (g.less l) (o.less d (w.xE i)) (by obtain ⟨ad,u,f,c,W,I⟩:=T;exact⟨ad,u,f,c,λy=>W (tD y),I⟩)
end
def jg(l:Option aP):Arguments:=match sq l with
 |some W=>W.a|none=>⟨[],[],G,[],[],G,[]⟩
def mH(l:Option aP):List Stmt:=match sq l with
 |some W=>W.b|none=> []
def lp(l:Option aP):Scope:=match sq l with
 |some W=>W.s|none=>default
def lq(f:Nat):Arguments:=jg aU.main.body[f]?
def j6(f:Nat):List Stmt:=mH aU.main.body[f]?
def j7(f:Nat):Scope:=lp aU.main.body[f]?
def fQ(f:Nat):a4:=bx (j7 f).names
structure TopAll(c:aa):Prop extends TopOk c where
 tE:fv c 603 (lq 56) (j6 56) (j7 56) []
 tF:fv c 971 (lq 102) (j6 102) (j7 102) []
section
variable{B:aa}{S:Nat}{k:aF}{a:a4}{R:Rec}{L:O}
theorem Spec.xF(R:TopOk B){h:V->O->Prop}{v:af}{c:hN}{K:List aP}{D:cn}{d t:List V}{a:List Nat}{Q:al}(m:fv B v c K D d)(g:gd c.args=Y a)(X:iX c a d D=M)(T:kY a d t=Y Q)
  (o:∀k,a8 (bx D.names) k->aI B S k bF.none Q L (bb K k) bU (λu I L=>match u with|.next=>h .none L|.ret N=>h N L|_=>False) λI I I=>False):Spec B (S+1) (.glob (.ref v)) t L h:=λw x e r i s b H l Z F P f W=>by
 have j:x=h7 (.ref v):=r _ _ f;clear r;subst j;exact(CA R.toFine m g X T o i).Cz s b H l Z F P f W
def C4(R:Rec)(d:aK)(m:List eh)(Q:al)(L:O):be:=(R.t d Q L).toS Q λq L=>match q with
 |true=>(R.ss m Q L).bind λQ L=>.ok .next Q L|false=>.ok .brk Q L
def C5(K:al->O->Prop)(Φ:FM->al->O->Prop):FM->al->O->Prop
 |.next,Q,L=>K Q L|.ret N,Q,L=>Φ (.ret N) Q L|.brk,Q,L=>Φ .next Q L|.cont,_,_=>False
theorem C6(K:ej B S R)(g:a8 a k){W:Nat}{d:ah}{m:List aP}{Q:al}{L r:O}{h:FM->al->O->Prop}{D:Nat->Nat->O->Prop}{P:al->O->Prop}
  (j:(C4 R (az W a d) (m.map (bY W a)) Q L).to (C5 P h) D)(x:∀v n,P v n->ir B S k r d m v n h D):ir B S k r d m Q L h D:=
 BK (T:=λn=>((R.ss (m.map (bY W a)) Q n).bind λQ L=>.ok .next Q L).to (C5 P h) D) (K:=P) (λI j=>K.ss g (be.hO (be.bc j) λc I I j=>by induction c using FM.casesOn <;>exact j)) x (ae.q (K.t g (hr j)) (λu n p=>by
  induction u using ap with|true=>exact p|false=>exact p))
theorem C7(K:ej B S R)(g:a8 a k){W:Nat}{d:ah}{H:cm}{m:List aP}{Q:al}{L c:O}{p:Src}{h:FM->al->O->Prop}{D:Nat->Nat->O->Prop}{P:Src->al->O->Prop}(e:eT a d=Y H){C:Option (Option (V×Src))}(X:nextM L p=C)
  (j:BJ (h .next Q L) (λN A=>∃v,walk Q A H N=Y v/\(R.ss (m.map (bY W a)) v L).to (gj (P A) h) D) C)(x:∀b v n,P b v n->gk B S k c d m v n b h D):gk B S k c d m Q L p h D:=
 sZ g e X x (by
  induction C using aB with|none=>exact j|some r=>
   clear X;induction r using aB with|none=>exact j|some u=>exact au j λv q j=>aC v q (K.ss g j))
theorem Nq(K:ej B S R)(g:a8 a k){W:Nat}{st:aP}{z:List aP}{Q:al}{L:O}{h:FM->al->O->Prop}{D:Nat->Nat->O->Prop}
  (j:(R.s (bY W a st) Q L).to (gj (λQ L=>aI B S k bF.none Q L (bb z k) bU h D) h) D):aI B S k bF.none Q L (bb (st::z) k) bU h D:=
 qh (aI.mono (K.s g j) λu I I j=>by induction u using FM.casesOn <;>exact j)
end
section
variable{B:aa}{S:Nat}{k:aF}{F:a4}{R:Rec}{r:O}
structure a9(B:aa)(S:Nat)(k:aF)(r:O)(d:aZ f6)(Q:al)(L:O)(a:FM->al->O->Prop)(D:Nat->Nat->O->Prop):Prop where
 h:∀(A:aY) (Fs:List aF) (γ₀:ax) (s₀:ai) (lm₀:al) (γ:ax) (s:ai),Here B S k lm₀ r A Fs γ₀ s₀->bp B k Q γ s.heap->fs B k γ₀ s₀ γ L s->
  ao (aA B.prog B.w) A d (nC (c:=B) (env:=k) bU a γ₀ s₀) (b7 B k D γ₀ s₀) s
variable{d:aZ f6}{Q P:al}{L n:O}{a:FM->al->O->Prop}{D:Nat->Nat->O->Prop}
theorem a9.less(j:a9 B S k r d P n a D)(i:∀C,r.get 0 C=G)(c:ln L n)(l:mG P Q):a9 B S k r d Q L a D:=
 ⟨λs b F e q H A w g o=>j.h s b F e q (hu H) A w (g.less l) (o.less c (w.xE i))⟩
theorem a9.ws{w:bF B k}(j:a9 B S k L d Q L a D):aI B S k w Q L d bU a D:=λs b H l g I=>j.h s b H l Q H l g g.loc (Ends.x ⟨.refl g.rep,.refl⟩)
theorem a9.of(j:aI B S k bF.none Q L d bU a D):a9 B S k r d Q L a D:=⟨λs b F e q H l w c o=>
 bQ (j s b H l (w.next c o) trivial) (λI I p=>(by obtain ⟨m,P,n,K,y,X,f,T⟩:=p;exact⟨m,P,n,K,y,X,f,o.trans T⟩)) λI I h=>h.trans w.rep w.loc ⟨_,c⟩ o⟩
theorem a9.nil(j:a .next Q L):a9 B S k r (bb [] k) Q L a D:=.of (BM j)
theorem a9.cons{st:aP}{z:List aP}(j:a9 B S k r (b0 st k) Q L (gj (λQ L=>a9 B S k r (bb z k) Q L a D) a) D):a9 B S k r (bb (st::z) k) Q L a D:=⟨λs b F e q H l w c o=>by
 rw[wW];refine ab (b3 (j.h s b F e q H l w c o) (λv W p=>?_));obtain ⟨m,P,n,K,y,X,f,T⟩:=p;induction m using FM.casesOn with|next=>have:v=.next:=X;clear X;subst this;exact y.h s b F e q K W w f T|ret N=>refine au X λt d C=>?_;clear X;subst d;exact aH ⟨.ret N,P,n,K,y,aC t rfl C,f,T⟩|brk=>exact y.elim|cont=>exact y.elim⟩
theorem a9.mono{f:FM->al->O->Prop}(j:a9 B S k r d Q L a D)(A:∀u Q L,a u Q L->f u Q L):a9 B S k r d Q L f D:=⟨λs b F e q H l w c o=>
 b3 (j.h s b F e q H l w c o) (λI I p=>(by obtain ⟨m,P,n,K,y,X⟩:=p;exact⟨m,P,n,K,A _ _ _ y,X⟩))⟩
theorem a9.ite(K:ej B S R)(g:a8 F k){W:Nat}{d:ah}{v m:List aP}{z:aN}(j:(R.t (az W F d) Q L).to (λu L=>match u with|true=>a9 B S k r (bb v k) Q L a D|false=>a9 B S k r (bb m k) Q L a D) D):a9 B S k r (b0 (.If d v m z) k) Q L a D:=⟨λs b T e y H l w c o=>by
 have P:b0 (.If d v m z) k=(bT z>>=λTR=>gH d k (aX d k)>>=λu=>if u=M then bb v k else bb m k):=rfl
 refine U P ?_;have I:=w.next c o;refine ab (dQ (ab (bQ (K.t g j s (k::b) H l I.dS I.f7 I.rep c I.gens) (λu n p=>?_) λTX n f=>?_)))
 ·obtain ⟨X,A,i,Z,C,q⟩:=p;have N:=(loc B k Q).st I.rep c q.post;replace C:X=u:=C;subst C;induction X using ap with|true=>exact Z.h s b T e y i n w N (o.trans q.x)|false=>exact Z.h s b T e y i n w N (o.trans q.x)
 ·exact(f.x I.rep c).trans w.rep w.loc ⟨_,c⟩ o⟩
theorem a9.run(K:ej B S R)(x:a8 F k){W:Nat}{g:List aP}(j:(R.ss (g.map (bY W F)) Q L).to a D):a9 B S k r (bb g k) Q L a D:=.of (K.ss x j)
theorem a9.one(K:ej B S R)(x:a8 F k){W:Nat}{g:aP}(j:(R.s (bY W F g) Q L).to a D):a9 B S k r (b0 g k) Q L a D:=.of (K.s x j)
theorem a9.pre{d:cN}{I:eS}(K:∀C,ej B S (ev d I C))(x:a8 F k){W:Nat}{z:List aP}:∀{C:Nat} {g:List aP} {Q:al} {L:O},((ev d I C).ss (g.map (bY W F)) Q L).to (gj (λQ L=>a9 B S k r (bb z k) Q L a D) a) D->a9 B S k r (bb (g++z) k) Q L a D
 |0,_,_,_,j=>j.elim|_+1,[],_,_,j=>j|C+1,l::g,Q,L,j=>by
  replace j:(((ev d I C).s (bY W F l) Q L).bind λQ L=>(ev d I C).ss (g.map (bY W F)) Q L).to (gj (λQ L=>a9 B S k r (bb z k) Q L a D) a) D:=j;refine a9.cons (a9.one (K C) x (be.hO (be.bc j) λu Q L j=>?_));induction u using FM.casesOn with|next=>exact a9.pre K x j|_=>exact j
end
structure D where
 i:Nat
 nm:Key
 p:Nat
 gc:List V
 sp:V
 mz:Bool
 Nr:Bool
 q:Nat
 qJ:List V
noncomputable def a6(A:Key):V:=.tup [.str [110,97,109,101],.str A,.tup []]
def decls :List D:= [
 ⟨3,[65,110,121],4,[],.none,M,E,5,[]⟩,
 ⟨7,[84,121,112,101],8,[],(a6 [65,110,121]),M,E,9,[]⟩,
 ⟨22,[70,117,110,99,116,105,111,110],23,[],(a6 [65,110,121]),M,E,24,[]⟩,
 ⟨37,[78,117,109,98,101,114],38,[],(a6 [65,110,121]),M,E,39,[]⟩,
 ⟨52,[65,98,115,116,114,97,99,116,67,104,97,114],53,[],(a6 [65,110,121]),M,E,54,[]⟩,
 ⟨67,[65,98,115,116,114,97,99,116,83,116,114,105,110,103],68,[],(a6 [65,110,121]),M,E,69,[]⟩,
 ⟨82,[69,120,99,101,112,116,105,111,110],83,[],(a6 [65,110,121]),M,E,84,[]⟩,
 ⟨97,[82,101,97,108],98,[],(a6 [78,117,109,98,101,114]),M,E,99,[]⟩,
 ⟨112,[73,110,116,101,103,101,114],113,[],(a6 [82,101,97,108]),M,E,114,[]⟩,
 ⟨127,[83,105,103,110,101,100],128,[],(a6 [73,110,116,101,103,101,114]),M,E,129,[]⟩,
 ⟨142,[85,110,115,105,103,110,101,100],143,[],(a6 [73,110,116,101,103,101,114]),M,E,144,[]⟩,
 ⟨157,[73,110,116,56],158,[],(a6 [83,105,103,110,101,100]),E,E,159,[]⟩,
 ⟨172,[73,110,116,49,54],173,[],(a6 [83,105,103,110,101,100]),E,E,174,[]⟩,
 ⟨187,[73,110,116,51,50],188,[],(a6 [83,105,103,110,101,100]),E,E,189,[]⟩,
 ⟨202,[73,110,116,54,52],203,[],(a6 [83,105,103,110,101,100]),E,E,204,[]⟩,
 ⟨217,[66,105,103,73,110,116],218,[],(a6 [83,105,103,110,101,100]),E,E,219,[]⟩,
 ⟨232,[85,73,110,116,56],233,[],(a6 [85,110,115,105,103,110,101,100]),E,E,234,[]⟩,
 ⟨247,[85,73,110,116,49,54],248,[],(a6 [85,110,115,105,103,110,101,100]),E,E,249,[]⟩,
 ⟨262,[85,73,110,116,51,50],263,[],(a6 [85,110,115,105,103,110,101,100]),E,E,264,[]⟩,
 ⟨277,[85,73,110,116,54,52],278,[],(a6 [85,110,115,105,103,110,101,100]),E,E,279,[]⟩,
 ⟨292,[66,111,111,108],293,[],(a6 [73,110,116,101,103,101,114]),E,E,294,[]⟩,
 ⟨307,[67,104,97,114],308,[],(a6 [65,98,115,116,114,97,99,116,67,104,97,114]),E,E,309,[]⟩,
 ⟨322,[83,116,114,105,110,103],323,[],(a6 [65,98,115,116,114,97,99,116,83,116,114,105,110,103]),E,E,324,[]⟩,
 ⟨337,[83,121,109,98,111,108],338,[],(a6 [65,110,121]),E,E,339,[]⟩,
 ⟨352,[78,111,116,104,105,110,103],353,[],(a6 [65,110,121]),E,E,354,[]⟩,
 ⟨368,[69,120,112,114],369,[],(a6 [65,110,121]),E,M,370,[.tup [.str [104,101,97,100],a6 [83,121,109,98,111,108]],.tup [.str [97,114,103,115],a6 [65,110,121]]]⟩,
 ⟨401,[68,105,118,105,100,101,69,114,114,111,114],402,[],(a6 [69,120,99,101,112,116,105,111,110]),E,E,403,[]⟩,
 ⟨416,[73,110,101,120,97,99,116,69,114,114,111,114],417,[],(a6 [69,120,99,101,112,116,105,111,110]),E,E,418,[]⟩,
 ⟨431,[84,121,112,101,69,114,114,111,114],432,[],(a6 [69,120,99,101,112,116,105,111,110]),E,E,433,[]⟩,
 ⟨446,[83,116,97,99,107,79,118,101,114,102,108,111,119,69,114,114,111,114],447,[],(a6 [69,120,99,101,112,116,105,111,110]),E,E,448,[]⟩,
 ⟨462,[65,114,103,117,109,101,110,116,69,114,114,111,114],463,[],(a6 [69,120,99,101,112,116,105,111,110]),E,E,464,[.tup [.str [109,115,103],a6 [65,110,121]]]⟩,
 ⟨487,[79,118,101,114,102,108,111,119,69,114,114,111,114],488,[],(a6 [69,120,99,101,112,116,105,111,110]),E,E,489,[.tup [.str [109,115,103],a6 [65,110,121]]]⟩,
 ⟨512,[68,105,109,101,110,115,105,111,110,77,105,115,109,97,116,99,104],513,[],(a6 [69,120,99,101,112,116,105,111,110]),E,E,514,[.tup [.str [109,115,103],a6 [65,110,121]]]⟩,
 ⟨537,[69,114,114,111,114,69,120,99,101,112,116,105,111,110],538,[],(a6 [69,120,99,101,112,116,105,111,110]),E,E,539,[.tup [.str [109,115,103],a6 [65,110,121]]]⟩,
 ⟨562,[77,101,116,104,111,100,69,114,114,111,114],563,[],(a6 [69,120,99,101,112,116,105,111,110]),E,E,564,[.tup [.str [102],a6 [65,110,121]],.tup [.str [97,114,103,115],a6 [65,110,121]]]⟩,
 ⟨596,[65,109,98,105,103,117,111,117,115,69,114,114,111,114],597,[],(a6 [69,120,99,101,112,116,105,111,110]),E,E,598,[.tup [.str [102],a6 [65,110,121]],.tup [.str [97,114,103,115],a6 [65,110,121]]]⟩,
 ⟨630,[85,110,100,101,102,86,97,114,69,114,114,111,114],631,[],(a6 [69,120,99,101,112,116,105,111,110]),E,E,632,[.tup [.str [118,97,114],a6 [65,110,121]]]⟩,
 ⟨655,[66,111,117,110,100,115,69,114,114,111,114],656,[],(a6 [69,120,99,101,112,116,105,111,110]),E,E,657,[.tup [.str [97],a6 [65,110,121]],.tup [.str [105],a6 [65,110,121]]]⟩,
 ⟨688,[65,98,115,116,114,97,99,116,65,114,114,97,121],689,[.tup [.str [84,46,48],.tup [.str [98,111,116,116,111,109]],a6 [65,110,121]],.tup [.str [78,46,48],.tup [.str [98,111,116,116,111,109]],a6 [65,110,121]]],(a6 [65,110,121]),M,E,690,[]⟩,
 ⟨702,[65,114,114,97,121],703,[.tup [.str [84,46,48],.tup [.str [98,111,116,116,111,109]],a6 [65,110,121]],.tup [.str [78,46,48],.tup [.str [98,111,116,116,111,109]],a6 [65,110,121]]],(.tup [.str [110,97,109,101],.str [65,98,115,116,114,97,99,116,65,114,114,97,121],.tup [.tup [.str [118,97,114],.str [84,46,48]],.tup [.str [118,97,114],.str [78,46,48]]]]),E,M,704,[]⟩,
 ⟨718,[83,117,98,65,114,114,97,121],719,[.tup [.str [84,46,48],.tup [.str [98,111,116,116,111,109]],a6 [65,110,121]],.tup [.str [78,46,48],.tup [.str [98,111,116,116,111,109]],a6 [65,110,121]]],(.tup [.str [110,97,109,101],.str [65,98,115,116,114,97,99,116,65,114,114,97,121],.tup [.tup [.str [118,97,114],.str [84,46,48]],.tup [.str [118,97,114],.str [78,46,48]]]]),E,M,720,[]⟩,
 ⟨735,[65,98,115,116,114,97,99,116,82,97,110,103,101],736,[.tup [.str [84,46,48],.tup [.str [98,111,116,116,111,109]],a6 [65,110,121]]],(.tup [.str [110,97,109,101],.str [65,98,115,116,114,97,99,116,65,114,114,97,121],.tup [.tup [.str [118,97,114],.str [84,46,48]],.tup [.str [110],.int 1]]]),M,E,737,[]⟩,
 ⟨755,[85,110,105,116,82,97,110,103,101],756,[.tup [.str [84,46,48],.tup [.str [98,111,116,116,111,109]],a6 [65,110,121]]],(.tup [.str [110,97,109,101],.str [65,98,115,116,114,97,99,116,82,97,110,103,101],.tup [.tup [.str [118,97,114],.str [84,46,48]]]]),E,E,757,[.tup [.str [115,116,97,114,116],.tup [.str [118,97,114],.str [84,46,48]]],.tup [.str [115,116,111,112],.tup [.str [118,97,114],.str [84,46,48]]]]⟩,
 ⟨783,[83,116,101,112,82,97,110,103,101],784,[.tup [.str [84,46,48],.tup [.str [98,111,116,116,111,109]],a6 [65,110,121]]],(.tup [.str [110,97,109,101],.str [65,98,115,116,114,97,99,116,82,97,110,103,101],.tup [.tup [.str [118,97,114],.str [84,46,48]]]]),E,E,785,[.tup [.str [115,116,97,114,116],.tup [.str [118,97,114],.str [84,46,48]]],.tup [.str [115,116,101,112],.tup [.str [118,97,114],.str [84,46,48]]],.tup [.str [115,116,111,112],.tup [.str [118,97,114],.str [84,46,48]]]]⟩,
 ⟨817,[82,101,102],818,[.tup [.str [84,46,48],.tup [.str [98,111,116,116,111,109]],a6 [65,110,121]]],(a6 [65,110,121]),E,M,819,[.tup [.str [120],.tup [.str [118,97,114],.str [84,46,48]]]]⟩,
 ⟨839,[82,97,116,105,111,110,97,108],840,[.tup [.str [84,46,48],.tup [.str [98,111,116,116,111,109]],a6 [73,110,116,101,103,101,114]]],(a6 [82,101,97,108]),E,E,841,[.tup [.str [110,117,109],.tup [.str [118,97,114],.str [84,46,48]]],.tup [.str [100,101,110],.tup [.str [118,97,114],.str [84,46,48]]]]⟩,
 ⟨869,[67,101,108,108],870,[],(a6 [65,110,121]),E,M,871,[.tup [.str [97],a6 [73,110,116,54,52]],.tup [.str [98],a6 [65,110,121]]]⟩,
 ⟨903,[80,97,105,114],904,[.tup [.str [84,46,49],.tup [.str [98,111,116,116,111,109]],a6 [65,110,121]]],(a6 [65,110,121]),E,E,905,[.tup [.str [120],a6 [73,110,116,101,103,101,114]],.tup [.str [121],.tup [.str [118,97,114],.str [84,46,49]]]]⟩]
noncomputable def tG(W:D):aj:=.inst 743 [([110,97,109,101],.str W.nm),([112,97,114,97,109,115],.ref 1 W.p),([115,117,112,101,114],W.sp),([105,115,95,97,98,115,116,114,97,99,116],.bool W.mz),([105,115,95,109,117,116,97,98,108,101],.bool W.Nr),([102,105,101,108,100,115],.ref 1 W.q)]
noncomputable def findD(C:Nat):List D->Option aj
 | []=>G|W::T=>match Nat.beq C W.i with
  |true=>Y (tG W)|false=>match Nat.beq C W.p with
   |true=>Y (.list W.gc)|false=>match Nat.beq C W.q with
    |true=>Y (.list W.qJ)|false=>findD C T
noncomputable def ot :List D->List (Key×V)
 | []=> []|W::T=>(W.nm,.ref 1 W.i)::ot T
def iv(C:Nat):Option aj:=match Nat.beq C 0 with
 |true=>Y (.inst 830 [([100,101,99,108,115],.ref 1 1)])|false=>match Nat.beq C 1 with
  |true=>Y (.dict (ot decls))|false=>match Nat.beq C 865 with
   |true=>Y (.inst 573 [([116,104,105,110,103,115],.ref 1 866),([107,105,110,100,115],.ref 1 0),([104,101,97,112],.ref 1 865)])|false=>findD C decls
structure ar where
 a:Nat
 b:Nat
 held:List V
 P:List (V×V)
 Q:List (V×V)
 sc:List V
noncomputable def dj(A k:Nat):Nat->Nat->List V
 |0,_=> []|C+1,f=>.ref (A+f) k::dj A k C (f+1)
def cellK :V:=a6 [67,101,108,108]
def gq(f:Nat)(p:V×V)(k:Nat):Option aj:=match Nat.beq k 0 with
 |true=>Y (.list [p.1,p.2])|false=>match Nat.beq k 1 with
  |true=>Y (.inst 517 [([107,105,110,100],cellK),([102,105,101,108,100,115],.ref (10+f) 0),([115,105,122,101,115],.tup [])])|false=>G
noncomputable def gr(p:V×V)(k:Nat):Option aj:=match Nat.beq k 0 with
 |true=>Y (.list [p.1,p.2])|false=>G
noncomputable def bN :List (V×V)->Nat->Option (V×V)
 | [],_=>G|p::T,f=>match Nat.beq f 0 with
  |true=>Y p|false=>bN T (f-1)
def d4(e:ar)(f:Nat):Option aj:=match Nat.beq f 0 with
 |true=>Y (.list [.int (.ofNat e.a),.int (.ofNat e.b)])|false=>match Nat.beq f 1 with
  |true=>Y (.list e.held)|false=>match Nat.beq f 2 with
   |true=>Y (.list (dj 20 0 e.P.length 0))|false=>G
def view(e:ar)(w:Nat->Option aj)(A f:Nat):Option aj:=match Nat.beq A 1 with
 |true=>match Nat.beq f 866 with
  |true=>Y (.list (dj 10 1 e.Q.length 0))|false=>iv f
 |false=>match Nat.beq A 2 with
  |true=>d4 e f|false=>match Nat.beq A 7 with
   |true=>w f|false=>match Nat.ble 20 A with
    |true=>match bN e.P (A-20) with
     |some p=>gr p f|none=>G
    |false=>match Nat.ble 10 A with
     |true=>match bN e.Q (A-10) with
      |some p=>gq (A-10) p f|none=>G
     |false=>G
def aM :V->Prop:=fw λI I=>False
structure LsOk(ls:ar):Prop where
 n:ls.P.length<=8
 fR:ls.Q.length<=8
 held:∀v∈ls.held,aM v
 sc:∀v∈ls.sc,aM v
 p:∀p∈ls.P,aM p.1/\aM p.2
 q:∀p∈ls.Q,aM p.1/\aM p.2
mutual
theorem gt{D:Nat->Nat->Prop}:∀(y:V),fw (λI I=>False) y->fw D y
 |.none,_=>trivial|.bool _,_=>trivial|.int _,_=>trivial|.str _,_=>trivial|.bytes _,_=>trivial|.glob _,_=>trivial|.ref _ _,j=>j.elim|.tup x,j=>xG x j
theorem xG{D:Nat->Nat->Prop}:∀(y:List V),go (λI I=>False) y->go D y
 | [],_=>trivial|y::x,j=>⟨gt y j.1,xG x j.2⟩
end
theorem lr{D:Nat->Nat->Prop}:∀{g:List V},(∀N∈g,fw D N)->go D g:=by
 intro s;induction s with|nil=>intro I;exact trivial|cons y x F=>intro j;exact⟨j y (.head _),F λN i=>j N (.tail _ i)⟩
def lu(C:Nat):Bool:=match Nat.beq C 866 with
 |true=>M|false=>vg (iv C)
mutual
noncomputable def xH :V->Bool
 |.tup xs=>qK xs|.ref A C=>bg (Nat.beq A 1) (lu C)|_=>M
noncomputable def qK :List V->Bool
 | []=>M|x::xs=>bg (xH x) (qK xs)
end
noncomputable def tH :List D->Bool
 | []=>M|W::T=>bg (bg (bg (lu W.p) (lu W.q)) (bg (qK W.gc) (qK W.qJ))) (bg (bg (lu W.i) (xH W.sp)) (tH T))
set_option maxRecDepth 1000000 in
theorem C8 :tH decls=true:=by kernel_rfl
section
variable{e:ar}{w:Nat->Option aj}
theorem Nt{N:Type}{r:Option N}:vg r=r.isSome:=by induction r using aB <;>rfl
theorem tI{L:O}(j:∀C,L.get 1 C=view e w 1 C){C:Nat}(o:lu C=M):dT L 1 C:=by
 refine⟨rfl,?_⟩;rw[j];unfold lu at o;show(match Nat.beq C 866 with|true=>Y (aj.list (dj 10 1 e.Q.length 0))|false=>iv C).isSome=M
 generalize u:Nat.beq C 866=K;induction K using ap with|true=>rfl|false=>rw[u] at o;exact U Nt.symm o
mutual
theorem C9{L:O}(j:∀C,L.get 1 C=view e w 1 C):∀(y:V),xH y=M->fw (dT L) y
 |.none,_=>trivial|.bool _,_=>trivial|.int _,_=>trivial|.str _,_=>trivial|.bytes _,_=>trivial|.glob _,_=>trivial|.ref A C,o=>by refine ak (b8 o) λt g=>?_;have:=Nat.eq_of_beq_eq_true t;clear t o;subst this;exact tI j g|.tup x,o=>tJ j x o
theorem tJ{L:O}(j:∀C,L.get 1 C=view e w 1 C):∀(y:List V),qK y=M->go (dT L) y
 | [],_=>trivial|y::x,o=>ak (b8 o) λt g=>⟨C9 j y t,tJ j x g⟩
end
theorem Db{L:O}(j:∀C,L.get 1 C=view e w 1 C){C:Nat}{r:aj}(o:iv C=Y r):gp (dT L) r:=by
 have b:∀z,lu z=M->dT L 1 z:=λz=>tI j;have h:∀g:List D,tH g=M->go (dT L) ((ot g).map (·.2)):=λg=>by
  induction g with|nil=>exact λI=>trivial|cons W T F=>intro u;exact ak (b8 u) λQ l=>ak (b8 l) λN a=>⟨b _ (b8 N).1,F a⟩
 have k:∀g:List D,tH g=M->findD C g=Y r->gp (dT L) r:=λg=>by
  induction g with|nil=>exact λI u=>ag u|cons W T F=>
   intro u o;refine ak (b8 u) λQ l=>ak (b8 l) λN a=>ak (b8 Q) λc m=>ak (b8 c) λd R=>ak (b8 m) λf x=>?_;replace o:(match Nat.beq C W.i with|true=>Y (tG W)|false=>match Nat.beq C W.p with|true=>Y (.list W.gc)|false=>match Nat.beq C W.q with|true=>Y (.list W.qJ)|false=>findD C T)=Y r:=o
   revert o;generalize (Nat.beq C W.i)=K;induction K using ap with|true=>exact λo=>by refine U (an o).symm ?_;exact nf trivial (b _ d) (C9 j _ (b8 N).2) trivial trivial ⟨b _ R,trivial⟩|false=>
    generalize (Nat.beq C W.p)=K;induction K using ap with|true=>exact λo=>by refine U (an o).symm ?_;exact tJ j _ f|false=>
     generalize (Nat.beq C W.q)=K;induction K using ap with|true=>exact λo=>by refine U (an o).symm ?_;exact tJ j _ x|false=>exact F a
 have o:(match Nat.beq C 0 with
  |true=>Y (.inst 830 [([100,101,99,108,115],.ref 1 1)])|false=>match Nat.beq C 1 with
   |true=>Y (.dict (ot decls))|false=>match Nat.beq C 865 with
    |true=>Y (.inst 573 [([116,104,105,110,103,115],.ref 1 866),([107,105,110,100,115],.ref 1 0),([104,101,97,112],.ref 1 865)])|false=>findD C decls)=Y r:=o
 revert o;generalize (Nat.beq C 0)=K;induction K using ap with|true=>exact λo=>by refine U (an o).symm ?_;exact⟨b 1 rfl,trivial⟩|false=>
  generalize (Nat.beq C 1)=K;induction K using ap with|true=>exact λo=>by refine U (an o).symm ?_;exact h _ C8|false=>
   generalize (Nat.beq C 865)=K;induction K using ap with|true=>exact λo=>by refine U (an o).symm ?_;exact bP (b 866 rfl) (b 0 rfl) (b 865 rfl) trivial|false=>exact k _ C8
theorem ou :∀{g:List (V×V)} {f:Nat} {Z:V×V},bN g f=Y Z->Z∈g/\f<g.length:=by
 intro s;induction s with|nil=>intro I I o;exact ag o|cons u T F=>
  intro f Z o;replace o:(match Nat.beq f 0 with|true=>Y u|false=>bN T (f-1))=Y Z:=o
  generalize t:Nat.beq f 0=K;induction K using ap with|true=>rw[t] at o;exact U (an o).symm (⟨.head _,by refine U (Nat.eq_of_beq_eq_true t) ?_;exact Nat.succ_pos _⟩)|false=>rw[t] at o;refine ak (F o) λb p=>?_;have:=Nat.ne_of_beq_eq_false t;exact⟨.tail _ b,by refine U h9 ?_;lia⟩
theorem ov :∀{g:List (V×V)} {f:Nat},f<g.length->∃Z,bN g f=Y Z
 | [],_,j=>absurd j (Nat.not_lt_zero _)|u::T,f,j=>by
  show∃Z,(match Nat.beq f 0 with|true=>Y u|false=>bN T (f-1))=Y Z
  generalize t:Nat.beq f 0=K;induction K using ap with|true=>exact⟨u,rfl⟩|false=>have:=Nat.ne_of_beq_eq_false t;rw[h9] at j;exact ov (by lia)
theorem Dc{A f:Nat}(j:Nat.ble 20 A=M):view e w A f=match bN e.P (A-20) with|some Z=>gr Z f|none=>none:=by have m:=Nat.le_of_ble_eq_true j;unfold view;exact U (show Nat.beq A 1=E from cI (by lia)) (U (show Nat.beq A 2=E from cI (by lia)) (U (show Nat.beq A 7=E from cI (by lia)) (U j rfl)))
theorem Nu{A f:Nat}(j:Nat.ble 10 A=M)(q:Nat.ble 20 A=E):view e w A f=match bN e.Q (A-10) with|some Z=>gq (A-10) Z f|none=>none:=by have m:=Nat.le_of_ble_eq_true j;unfold view;exact U (show Nat.beq A 1=E from cI (by lia)) (U (show Nat.beq A 2=E from cI (by lia)) (U (show Nat.beq A 7=E from cI (by lia)) (U j (U q rfl))))
theorem Dd{D:Nat->Nat->Prop}{A k:Nat}:∀{C f:Nat},(∀z,f<=z->z<f+C->D (A+z) k)->go D (dj A k C f):=by
 intro s;induction s with|zero=>intro I I;exact trivial|succ C F=>intro f j;exact⟨j f (Nat.le_refl _) (by lia),F λz b p=>j z (by lia) (by lia)⟩
theorem eK{A:Nat}(j:bG A=M):A≠0/\A≠7:=⟨λo=>(by rw[o] at j;exact aG j),λo=>(by rw[o] at j;exact aG j)⟩
theorem Nv{A C:Nat}(b:A≠1)(p:A≠2)(F:A≠7)(j:A<10):view e w A C=none:=by unfold view;exact U (cI b) (U (cI p) (U (cI F) (U (u7 (Nat.lt_trans j (by decide))) (U (u7 j) rfl))))
theorem lv{f C:Nat}:view e w (f+20) C=match bN e.P f with|some Z=>gr Z C|none=>none:=rfl
theorem lw{f C:Nat}(j:f<10):view e w (f+10) C=match bN e.Q f with|some Z=>gq f Z C|none=>none:=by unfold view;refine U (u7 (Nat.add_lt_add_right j 10)) ?_;rfl
theorem De{x:Prop}{A C:Nat}{r:aj}(R:bG A=M)(o:view e w A C=Y r)(L:A=1->x)(D:A=2->x)(X:∀f Z,bN e.P f=Y Z->A=f+20->gr Z C=Y r->x)
  (a:∀f Z,f<10->bN e.Q f=Y Z->A=f+10->gq f Z C=Y r->x):x:=by
 rcases Nat.lt_or_ge A 10 with j|j
 ·by_cases b:A=1
  ·exact L b
  ·by_cases p:A=2
   ·exact D p
   ·exact ag ((Nv b p (eK R).2 j).symm.trans o)
 ·rcases Nat.lt_or_ge A 20 with q|q
  ·have u:A=A-10+10:=(Nat.sub_add_cancel j).symm;have g:A-10<10:=Nat.sub_lt_right_of_lt_add j q;rw[u,lw g] at o;generalize S:bN e.Q (A-10)=K at o;induction K using aB with|none=>exact ag o|some Z=>exact a _ Z g S u o
  ·have u:A=A-20+20:=(Nat.sub_add_cancel q).symm;rw[u,lv] at o;generalize S:bN e.P (A-20)=K at o;induction K using aB with|none=>exact ag o|some Z=>exact X _ Z S u o
theorem Nw{x:Prop}{f C:Nat}{Z:V×V}{r:aj}(o:gq f Z C=Y r)(d:C=0->r=.list [Z.1,Z.2]->x)
  (b:C=1->r=.inst 517 [([107,105,110,100],cellK),([102,105,101,108,100,115],.ref (10+f) 0),([115,105,122,101,115],.tup [])]->x):x:=by
 by_cases u:C=0
 ·clear b;subst u;exact d rfl (an o).symm
 ·by_cases X:C=1
  ·clear u d;subst X;exact b rfl (an o).symm
  ·unfold gq at o;rw[cI u,cI X] at o;exact ag o
theorem Nx{C:Nat}{Z:V×V}{r:aj}(o:gr Z C=Y r):C=0/\r=.list [Z.1,Z.2]:=by
 by_cases u:C=0
 ·subst u;exact⟨rfl,(an o).symm⟩
 ·unfold gr at o;rw[cI u] at o;exact ag o
theorem Ny{x:Prop}{C:Nat}{r:aj}(o:d4 e C=Y r)(d:r=.list [.int (.ofNat e.a),.int (.ofNat e.b)]->x)(H:r=.list e.held->x)(p:r=.list (dj 20 0 e.P.length 0)->x):x:=by
 by_cases g:C=0
 ·subst g;exact d (an o).symm
 ·by_cases Q:C=1
  ·clear g;subst Q;exact H (an o).symm
  ·by_cases l:C=2
   ·clear Q g;subst l;exact p (an o).symm
   ·unfold d4 at o;rw[cI g,cI Q,cI l] at o;exact ag o
theorem xI(ok:LsOk e){L:O}(j:∀A C,bG A=M->L.get A C=view e w A C){A C:Nat}{r:aj}(m:bG A=M)(o:view e w A C=Y r):gp (dT L) r:=by
 have d:∀f,f<e.P.length->dT L (20+f) 0:=λf b=>by rw[Nat.add_comm];refine⟨rfl,?_⟩;refine U (j _ _ rfl) (U lv ?_);refine aD (ov b) λZ S=>?_;refine U S ?_;rfl
 have a:∀f k,f<e.Q.length->k=0\/k=1->dT L (10+f) k:=λf k b c=>by
  rw[Nat.add_comm];refine⟨rfl,?_⟩;refine U (j _ _ rfl) (U (lw (Nat.lt_of_lt_of_le b (Nat.le_trans ok.fR (by decide)))) ?_)
  refine aD (ov b) λZ S=>?_;refine U S ?_;rcases c with rfl|rfl <;>rfl
 refine De m o (λu=>?_) (λu=>?_) (λf Z S u o=>?_) λf Z b S u o=>?_
 ·clear m;subst u;replace o:(match Nat.beq C 866 with|true=>Y (.list (dj 10 1 e.Q.length 0))|false=>iv C)=Y r:=o
  generalize u:Nat.beq C 866=K at o;clear u;induction K using ap with|true=>refine U (an o).symm ?_;exact Dd λz I h=>a z 1 (Nat.lt_of_lt_of_eq h (Nat.zero_add _)) (.inr rfl)|false=>exact Db (λC=>j 1 C rfl) o
 ·clear m;subst u;exact Ny o (λo=>by refine U o ?_;exact aQ trivial trivial trivial) (λo=>by refine U o ?_;exact lr λN i=>gt _ (ok.held N i)) λo=>by exact U o (Dd λz I h=>d z (Nat.lt_of_lt_of_eq h (Nat.zero_add _)))
 ·refine U ((Nx o).2) ?_;exact have t:=ok.p _ (ou S).1;aQ (gt _ t.1) (gt _ t.2) trivial
 ·have t:=ok.q _ (ou S).1;exact Nw o (λI o=>by refine U o ?_;exact aQ (gt _ t.1) (gt _ t.2) trivial) λI o=>by exact U o (bP (bP trivial trivial trivial trivial) (a _ 0 (ou S).2 (.inl rfl)) trivial trivial)
end
section
variable{B:aa}{S:Nat}{e W:ar}{w X:Nat->Option aj}{d:bl}{C v h Z:Nat}
theorem Df{A f:Nat}(j:A≠7):view e w A f=view e X A f:=by unfold view;exact U (cI j) rfl
theorem eL{A f:Nat}(j:A≠0):(⟨d,C,v,view e X⟩:O).get A f=view e X A f:=by
 induction A using Nat.casesOn with|zero=>exact absurd rfl j|succ A=>rfl
theorem Nz{g S:List (V×V)}(j:g.length<=S.length){f:Nat}{Z:V×V}(o:bN g f=Y Z):∃u,bN S f=Y u:=ov (Nat.lt_of_lt_of_le (ou o).2 j)
theorem Dg(j:e.P.length<=W.P.length)(p:e.Q.length<=W.Q.length){A f:Nat}(o:(view e X A f).isSome=M):(view W X A f).isSome=true:=by
 revert o;unfold view;generalize (Nat.beq A 1)=K;induction K using ap with|true=>generalize (Nat.beq f 866)=K;induction K using ap <;>exact λo=>o|false=>
  generalize (Nat.beq A 2)=K;induction K using ap with|true=>show(d4 e f).isSome=M->(d4 W f).isSome=M;unfold d4;generalize (Nat.beq f 0)=K;induction K using ap <;>cases Nat.beq f 1 <;>cases Nat.beq f 2 <;>exact λo=>o|false=>
   generalize (Nat.beq A 7)=K;induction K using ap with|true=>exact λo=>o|false=>
    have b:∀{g S:List (V×V)} (j:g.length<=S.length) (k:Nat) (H n:V×V->Option aj),(∀Z u,(H Z).isSome=M->(n u).isSome=M)->(match bN g k with|some Z=>H Z|none=>G).isSome=M->(match bN S k with|some Z=>n Z|none=>G).isSome=true:=λ{g S} j k H n a o=>by
     generalize u:bN g k=K;induction K using aB with|none=>replace o:=u▸o;exact aG o|some Z=>replace o:=u▸o;exact aD (Nz j u) λl t=>U t (a Z l o)
    generalize (Nat.ble 20 A)=K;induction K using ap with|true=>refine b j (A-20) (λZ=>gr Z f) (λZ=>gr Z f) λZ u=>?_;unfold gr;generalize (Nat.beq f 0)=K;induction K using ap <;>exact λo=>o|false=>
     generalize (Nat.ble 10 A)=K;induction K using ap with|true=>refine b p (A-10) (λZ=>gq (A-10) Z f) (λZ=>gq (A-10) Z f) λZ u=>?_;unfold gq;generalize (Nat.beq f 0)=K;induction K using ap <;>cases Nat.beq f 1 <;>exact λo=>o|false=>exact λo=>o
def jh(r:aj):Prop:=r=.ce\/∃g,r=.dict g/\∀N∈g.map (·.2),aM N
def tK(d:bl)(X:Nat->Option aj):Prop:=(∀f r,d.get f=Y r->(∃g,r=.list g)\/jh r)/\∀f r,X f=Y r->(∃g,r=.list g)\/jh r
noncomputable def gi :Option aj->Option aj
 |some r=>match r with
  |.ce=>Y .ce|.dict g=>Y (.dict g)|_=>G
 |none=>G
theorem Dh{r:Option aj}{z:aj}(j:gi r=Y z):r=Y z/\∀g,z≠.list g:=by
 induction r using aB with|none=>exact ag j|some r=>
  induction r using aj.casesOn with|ce=>exact U (an j).symm (⟨rfl,λg u=>by cases u⟩)|dict g=>exact U (an j).symm (⟨rfl,λg u=>by cases u⟩)|_=>exact ag j
theorem Di{r:aj}(j:jh r):gi (Y r)=Y r:=by rcases j with rfl|⟨g,rfl,_⟩ <;>rfl
def hand(s:Option aj)(d:bl)(X:Nat->Option aj):Nat->Option aj
 |0=>s|z+1=>match Nat.beq (z%2) 0 with
  |true=>gi (d.get (z/2))|false=>gi (X (z/2))
noncomputable def iw(A k:Nat):Nat->Nat×Nat
 |0=>(A,k)|z+1=>match Nat.beq (z%2) 0 with
  |true=>(0,z/2)|false=>(7,z/2)
def mI(d:bl)(X:Nat->Option aj)(s:Option aj)(A k:Nat):Prop:=s=G\/((A=0/\d.get k=s\/A=7/\X k=s)/\∃g,s=Y (.list g)/\∀N∈g,aM N)
theorem mI.none{d:bl}{X:Nat->Option aj}{A k:Nat}:mI d X G A k:=.inl rfl
theorem qL{s:Option aj}{A k z:Nat}{r:aj}(a:tK d X)(h:mI d X s A k)(o:hand s d X z=Y r):((iw A k z).1=0/\d.get (iw A k z).2=Y r\/(iw A k z).1=7/\X (iw A k z).2=Y r)/\((z=0/\∃g,r=.list g/\∀N∈g,aM N)\/(z≠0/\jh r)):=by
 refine hd λT W=>?_;induction z using Nat.casesOn with
 |zero=>
  replace o:s=Y r:=o;rcases h with rfl|⟨b,g,rfl,p⟩
  ·exact ag o
  ·replace o:=an o;subst o;exact W ⟨b,.inl (fX rfl g rfl p)⟩
 |succ z=>
  replace o:(match Nat.beq (z%2) 0 with|true=>gi (d.get (z/2))|false=>gi (X (z/2)))=Y r:=o
  have I:iw A k (z+1)=(match Nat.beq (z%2) 0 with|true=>(0,z/2)|false=>(7,z/2)):=rfl
  generalize u:Nat.beq (z%2) 0=K;induction K using ap with|true=>rw[u] at o;exact W (U I (U u (ak (Dh o) λb p=>(⟨.inl ⟨rfl,b⟩,.inr ⟨by lia,(a.1 _ _ b).resolve_left λl=>aD l λg i=>p g i⟩⟩))))|false=>rw[u] at o;exact W (U I (U u (ak (Dh o) λb p=>(⟨.inr ⟨rfl,b⟩,.inr ⟨by lia,(a.2 _ _ b).resolve_left λj=>aD j λg i=>p g i⟩⟩))))
abbrev cV(w:Nat->Option aj):Prop:=∀f r,w f=Y r->(∃g,r=.list g)\/jh r
abbrev gu(w:Nat->Option aj):Prop:=∀f r,w f=Y r->(∃g,r=.list g/\∀N∈g,aM N)\/jh r
theorem gu.fx(j:gu w):cV w:=λf r o=>(j f r o).imp (λ⟨g,u,_⟩=>⟨g,u⟩) λu=>u
theorem NA{s:Option aj}{A k:Nat}(a:tK d X)(h:mI d X s A k):gu (hand s d X):=λf r o=>by
 rcases (qL a h o).2 with⟨_,g,j⟩|⟨_,j⟩
 ·exact .inl ⟨g,j⟩
 ·exact .inr j
theorem NB{A k z W:Nat}(j:z≠0)(q:W≠0)(o:iw A k z=iw A k W):z=W:=by
 induction z using Nat.casesOn with|zero=>exact absurd rfl j|succ z=>
  induction W using Nat.casesOn with|zero=>exact absurd rfl q|succ W=>
   replace o:(match Nat.beq (z%2) 0 with|true=>((0:Nat),z/2)|false=>(7,z/2))=(match Nat.beq (W%2) 0 with|true=>((0:Nat),W/2)|false=>(7,W/2)):=o
   rw[bl.cH,bl.cH] at o;by_cases u:z%2=0
   ·by_cases X:W%2=0
    ·simp[u,X] at o;exact U (Nat.div_add_mod z 2).symm (U (Nat.div_add_mod W 2).symm (U o (U u (U X rfl))))
    ·simp[u,X] at o
   ·by_cases X:W%2=0
    ·simp[u,X] at o
    ·simp[u,X] at o;exact U (Nat.div_add_mod z 2).symm (U (Nat.div_add_mod W 2).symm (U o (U (Nat.mod_two_ne_zero.mp u) (U (Nat.mod_two_ne_zero.mp X) rfl))))
theorem xJ{D:Nat->Nat->Prop}{r:aj}(j:jh r):gp D r:=by
 rcases j with rfl|⟨g,rfl,j⟩
 ·trivial
 ·exact lr λN i=>gt _ (j N i)
theorem Dj{r:aj}(j:jh r)(g:List V):r≠.list g:=by rcases j with rfl|⟨g,rfl,j⟩ <;>exact λu=>by cases u
theorem NC(ok:LsOk e)(a:tK d X){s:Option aj}{A k l:Nat}(h:mI d X s A k):Entry (iw A k) ⟨d,C,v,view e X⟩ ⟨.nil,0,l,view e (hand s d X)⟩:=by
 have D:∀{w f r},(w=0/\d.get f=Y r\/w=7/\X f=Y r)->(⟨d,C,v,view e X⟩:O).get w f=Y r/\bG w=false:=λ{w f r} j=>by
  rcases j with⟨rfl,j⟩|⟨rfl,j⟩
  ·exact⟨j,rfl⟩
  ·exact⟨j,rfl⟩
 refine⟨λA C m=>?_,λz r o=>?_,λz W r P o T u=>?_,λI=>rfl,λA z r m o=>?_,λA f r m o=>?_⟩
 ·exact ak (eK m) λq c=>U (eL q) (U (eL q) (Df c))
 ·replace o:hand s d X z=Y r:=o;refine ak (qL a h o) λb p=>ak (D b) λx H=>aQ x H ?_;rcases p with⟨_,g,rfl,p⟩|⟨_,p⟩
  ·exact lr λN K=>gt _ (p N K)
  ·exact xJ p
 ·replace o:hand s d X z=Y r:=o;replace T:hand s d X W=Y P:=T;refine ak (qL a h o) λb p=>ak (qL a h T) λB n=>?_;have S:r=P:=by
   have R:=(D b).1;have L:=(D B).1;rw[u] at R;exact an (R.symm.trans L)
  rcases p with⟨i,g,t,_⟩|⟨i,t⟩
  ·rcases n with⟨y,_⟩|⟨_,Q⟩
   ·exact U i (U y rfl)
   ·exact(Dj Q g (S.symm.trans t)).elim
  ·rcases n with⟨_,g,Q,_⟩|⟨y,_⟩
   ·exact(Dj t g (S.trans Q)).elim
   ·exact NB i y u
 ·rw[eL (eK m).1] at o;exact xI ok (λA C m=>eL (eK m).1) m o
 ·rcases tC m with rfl|rfl
  ·rcases a.1 f r o with j|F
   ·exact .inl j
   ·refine .inr (d9 (2*f+1) r ?_ ?_)
    ·show(match Nat.beq (2*f%2) 0 with|true=>(0,2*f/2)|false=>(7,2*f/2))=(0,f)
     exact U (show 2*f%2=0 by lia) (U (show 2*f/2=f by lia) rfl)
    ·show(match Nat.beq (2*f%2) 0 with|true=>gi (d.get (2*f/2))|false=>gi (X (2*f/2)))=_
     refine U (show 2*f%2=0 by lia) (U (show 2*f/2=f by lia) ?_)
     show gi (d.get f)=_;exact U (show d.get f=Y r from o) (Di F)
  ·replace o:X f=Y r:=o;rcases a.2 f r o with j|F
   ·exact .inl j
   ·refine .inr (d9 (2*f+1+1) r ?_ ?_)
    ·show(match Nat.beq ((2*f+1)%2) 0 with|true=>(0,(2*f+1)/2)|false=>(7,(2*f+1)/2))=(7,f)
     exact U (show(2*f+1)%2=1 by lia) (U (show(2*f+1)/2=f by lia) rfl)
    ·show(match Nat.beq ((2*f+1)%2) 0 with|true=>gi (d.get ((2*f+1)/2))|false=>gi (X ((2*f+1)/2)))=_
     refine U (show(2*f+1)%2=1 by lia) (U (show(2*f+1)/2=f by lia) ?_)
     show gi (X f)=_;exact U o (Di F)
structure Left(W:ar)(w:Nat->Option aj)(σ':O):Prop where
 s:∀k C aw,bG k=M->view W w k C=Y aw->σ'.get k C=Y aw
 a:∀C,σ'.get 7 C=w C
theorem qM(ok:LsOk e)(g:LsOk W)(K:e.P.length<=W.P.length)(I:e.Q.length<=W.Q.length)(L:tK d X){b:Option aj}{A k l:Nat}(F:mI d X b A k){c:e8}{x:List V}{R:V}(D:aM R)(q:∀y∈x,qI ⟨d,C,v,view e X⟩ ⟨.nil,0,l,view e (hand b d X)⟩ y)
  (j:∀w:Nat->Option aj,w 0=b->gu w->Spec B S (.glob c) x ⟨.nil,0,l,view e w⟩ λT n=>T=R/\Left W w n):Spec B S (.glob c) (x.map (hZ (iw A k))) ⟨d,C,v,view e X⟩ λT n=>T=R/\n=⟨d,h,Z,view W X⟩:=by
 refine Spec.view (NC ok L F) (j (hand b d X) rfl (NA L F)) q λT Ub t=>ak t λH p=>fp ⟨d,h,Z,view W X⟩ ?_ (by refine U H ?_;exact gt _ D) H rfl
 refine⟨λA f m=>?_,λA f r m o=>?_,λA f m o=>?_,λz r o=>?_,λz r o=>?_⟩
 ·rcases tC m with rfl|rfl <;>rfl
 ·rw[eL (eK m).1] at o;exact⟨p.s A f r m ((Df (eK m).2).trans o),xI g (λA C m=>eL (eK m).1) m o⟩
 ·rw[eL (eK m).1] at o⊢;exact Dg K I o
 ·rw[p.a];exact o
 ·refine ak (qL L F (show hand b d X z=Y r from o)) λTU u=>?_;rcases u with⟨_,TS,rfl,u⟩|⟨_,u⟩
  ·exact lr λN i=>gt _ (u N i)
  ·exact xJ u
end
def cC{u:Type}(T:Res u)(K:u)(Z:Nat->Nat->Option aj):Prop:=Res.rec (λN L=>N=K/\L.aw=Z) (λI I I=>False) False (λI I I I=>False) T
theorem ND{u:Type}{T:Res u}{K:u}{Z:Nat->Nat->Option aj}(o:cC T K Z=(K=K/\Z=Z)):∃n,T=.ok K n/\n.aw=Z:=by
 have j:cC T K Z:=by refine U o ?_;exact⟨rfl,rfl⟩
 clear o;induction T using Res.casesOn with|ok N L=>exact ak ((show N=K/\L.aw=Z from j)) λb p=>aC L (U b rfl) p|err=>exact j.elim|no=>exact j.elim|ask=>exact j.elim
def Res.gU{N:Type}(T:Res N):(V->O->Prop)->Prop:=Res.rec (λI I I=>False) (λI I I I=>False) (λI=>False) (λI P I I=>P) T
def Res.cw{N:Type}(T:Res N):V->O->Res N:=Res.rec (λI I I I=>.no) (λI I I I I=>.no) (λI I=>.no) (λI I K I=>K) T
def Res.a7{N:Type}(T:Res N):Ask:=Res.rec (λI I=>⟨.none,[],⟨.nil,0,0,λI I=>G⟩⟩) (λI I I=>⟨.none,[],⟨.nil,0,0,λI I=>G⟩⟩) ⟨.none,[],⟨.nil,0,0,λI I=>G⟩⟩ (λa I I I=>a) T
section
variable{B:aa}{S:Nat}{D:Nat->Nat->O->Prop}
theorem lx{N:Type}{T:Res N}{c:V}{x:List V}{L:O}{h:N->O->Prop}(g:V->O->Prop)(o:T.gU=Spec B S c x L)(l:Spec B S c x L g)(A:∀v L,g v L->(T.cw v L).to h D):T.to h D:=by
 rw[<-o] at l;clear o;induction T using Res.casesOn with|ask a P K=>exact⟨g,l,A⟩|_=>exact l.elim
theorem dk{N:Type}{T:Res N}{K:N}{Z:Nat->Nat->Option aj}{h:N->O->Prop}(o:cC T K Z=(K=K/\Z=Z))(A:∀n,n.aw=Z->h K n):T.to h D:=by exact au (ND o) λn b p=>U b (A n p)
theorem cx{e:ar}{w:Nat->Option aj}{n:O}(j:n.aw=view e w):Left e w n:=by obtain ⟨d,C,v,r⟩:=n;replace j:r=view e w:=j;subst j;exact⟨λA C r m o=>(eL (eK m).1).trans o,λC=>rfl⟩
end
noncomputable def vInt(A:Key)(f:Int):V:=.tup [.str [105,110,116],.str A,.int f]
noncomputable def cD :Key:= [73,110,116,54,52]
noncomputable def mJ :Key:= [85,73,110,116,56]
noncomputable def ey(m:List Nat):V:=.tup [.str [116,101,120,116],.bytes m]
noncomputable def vBool(m:Bool):V:=.tup [.str [98,111,111,108],.bool m]
noncomputable def h1(g:List V):V:=.tup [.str [116,117,112,108,101],.tup g]
noncomputable def mK(g:List V):V:=.tup [.str [116,117,112,108,101],.tup g,.none]
def bW :V:=a6 cD
def qN :V:=a6 mJ
def ow :V:=a6 [66,111,111,108]
def gV :V:=a6 [83,116,114,105,110,103]
def cq :V:=a6 [65,110,121]
def dE :V:=a6 [73,110,116,101,103,101,114]
noncomputable def bH(x:V):V:=.tup [.str [110,97,109,101],.str [80,97,105,114],.tup [x]]
noncomputable def cQ(A p q:V):V:=.tup [.str [115,116,114,117,99,116],A,.tup [p,q]]
noncomputable def aV(f:Nat):V:=.tup [.str [111,98,106,101,99,116],.int (.ofNat f)]
def lits :List (V×V):= [(vInt cD 5,bW),(vInt mJ 7,qN),(vBool M,ow),(ey [97,98],gV),(vInt cD (-1),bW),(h1 [vInt cD 1,ey [99]],mK [bW,gV]),(h1 [],mK []),(vInt cD 9,bW),(ey [98,101,103,105,110],gV),(vInt mJ 3,qN),(h1 [vBool E],mK [ow])]
inductive Val(N:Nat):Nat->V->V->Prop
 |lit {d:Nat} {v K:V} (h:(v,K)∈lits):Val N d v K
 |st {d:Nat} {x p q dg ci:V} (h:x=bW\/x=cq) (a:Val N d p dg) (b:Val N d q ci):Val N (d+1) (cQ (bH x) p q) (bH x)
 |dh {d i:Nat} (h:i<N):Val N d (aV i) cellK
set_option tactic.hygienic true in
theorem Val.flat{L W:Nat}{N K:V}(j:Val L W N K):aM N:=by
 induction j with
 |lit z=>
  have:∀Z∈lits,aM Z.1:=by intro Z S;refine fE S ?_;repeat' (first|exact et|refine es ?_ ?_|exact trivial|constructor)
  exact this _ z
 |st _ _ _ d f=>refine bP trivial (bP trivial trivial ?_ trivial) (aQ d f trivial) trivial;rename_i j _ _;rcases j with rfl|rfl <;>repeat' (first|exact trivial|constructor)
 |dh _=>exact aQ trivial trivial trivial
noncomputable def c8 :Nat->Bool:=λI=>E
section
variable{B:aa}{e:ar}{w:Nat->Option aj}
def tL(B:aa)(e:ar)(w:Nat->Option aj)(N:V):Res V:=c7 (di B) c8 200 6 (.glob (.ref 596)) [.ref 1 865,N] ⟨.nil,0,0,view e w⟩
theorem NE{y Z u:V}(j:y=bW\/y=cq):cC (tL B e w (cQ (bH y) Z u)) (bH y) (view e w)=(bH y=bH y/\view e w=view e w):=by
 rcases j with rfl|rfl
 ·kernel_rfl
 ·kernel_rfl
theorem NF :∀Z∈lits,cC (tL B e w Z.1) Z.2 (view e w)=(Z.2=Z.2/\view e w=view e w):=by intro Z S;refine fE S ?_;repeat' (first|exact et|refine es ?_ ?_|kernel_rfl)
end
theorem ix{N:Type}{a:List N->Prop}{P:List N}(j:P.length<=8)(d:a [])(b:∀v,a [v])(p:∀v m,a [v,m])(x:∀v m B,a [v,m,B])(q:∀v m B W,a [v,m,B,W])(h:∀v m B W o,a [v,m,B,W,o])
  (C:∀v m B W o S,a [v,m,B,W,o,S])(F:∀v m B W o S c,a [v,m,B,W,o,S,c])(e:∀v m B W o S c f,a [v,m,B,W,o,S,c,f]):a P:=by
 rcases P with _|⟨v,_|⟨m,_|⟨B,_|⟨W,_|⟨o,_|⟨S,_|⟨c,_|⟨f,_|⟨k,T⟩⟩⟩⟩⟩⟩⟩⟩⟩
 ·exact d
 ·exact b v
 ·exact p v m
 ·exact x v m B
 ·exact q v m B W
 ·exact h v m B W o
 ·exact C v m B W o S
 ·exact F v m B W o S c
 ·exact e v m B W o S c f
 ·simp only[h9] at j;lia
theorem ly{C f:Nat}{a:Nat->Prop}(j:f<C+1)(b:f<C->a f)(p:a C):a f:=by
 by_cases u:f=C
 ·exact U u p
 ·exact b (by lia)
section
variable{B:aa}{w:Nat->Option aj}{v m:Nat}{q r:List V}
abbrev xK(B:aa)(w:Nat->Option aj)(v m:Nat)(q r:List V)(R P:List (V×V))(f:Nat):Prop:=cC (tL B ⟨v,m,q,R,P,r⟩ w (aV f)) cellK (view ⟨v,m,q,R,P,r⟩ w)=(cellK=cellK/\view ⟨v,m,q,R,P,r⟩ w=view ⟨v,m,q,R,P,r⟩ w)
set_option tactic.hygienic true in
theorem NG{R P:List (V×V)}(j:P.length<=8){f:Nat}(b:f<P.length):xK B w v m q r R P f:=by
 revert b;refine ix (a:=λP=>f<P.length->xK B w v m q r R P f) j (λb=>absurd b (Nat.not_lt_zero _)) ?_ ?_ ?_ ?_ ?_ ?_ ?_ ?_ <;>intros <;>(rename_i b;revert b;intro b)
 all_goals
  dsimp only[h9,xL,Nat.zero_add,Nat.reduceAdd] at b
  repeat (refine ly (a:=λf=>xK B w v m q r R _ f) b (λb=>?_) (by kernel_rfl))
  exact absurd b (Nat.not_lt_zero _)
theorem j8(R:TopOk B){e:ar}(ok:LsOk e){W:Nat}{N K:V}(Z:Val e.Q.length W N K):Spec B 30 (.glob (.ref 596)) [.ref 1 865,N] ⟨.nil,0,0,view e w⟩ λT n=>T=K/\Left e w n:=by
 have p:cC (tL B e w N) K (view e w)=(K=K/\view e w=view e w)->Spec B 30 (.glob (.ref 596)) [.ref 1 865,N] ⟨.nil,0,0,view e w⟩ λT n=>T=K/\Left e w n:=λo=>
  Spec.of R c8 200 6 (dk o λn j=>⟨rfl,cx j⟩)
 induction Z using Val.casesOn with|lit j=>exact p (NF _ j)|st j _ _=>exact p (NE j)|dh j=>exact p (NG ok.fR j)
end
def ox(v m:V):Bool:=match cJ ⟨.nil,0,0,λI I=>G⟩ 20 v m with
 |some i=>i|none=>E
noncomputable def j9(v m:Bool):Bool:=match v with
 |true=>M|false=>m
def subB(K t:V):Bool:=j9 (ox t cq) (j9 (ox K t) (bg (ox t dE) (j9 (ox K bW) (j9 (ox K qN) (ox K ow)))))
def e0 :List V:= [bW,qN,ow,gV,mK [bW,gV],mK [],mK [ow],cellK,bH bW,bH cq]
def wants :List V:= [bW,cq,dE]
section
variable{B:aa}{e:ar}{w:Nat->Option aj}
theorem Val.e0{L W:Nat}{N K:V}(l:Val L W N K):K∈e0:=by
 induction l using Val.casesOn with
 |lit z=>
  have:∀Z∈lits,Z.2∈Internal.e0:=by repeat' (first|exact et|refine es ?_ ?_|exact .head _|refine .tail _ ?_)
  exact this _ z
 |st j _ _=>rcases j with rfl|rfl <;>repeat' (first|exact .head _|refine .tail _ ?_)
 |dh _=>repeat' (first|exact .head _|refine .tail _ ?_)
def NH(B:aa)(e:ar)(w:Nat->Option aj)(K t:V):Res V:=c7 (di B) c8 400 12 (.glob (.ref 499)) [.ref 1 0,K,t] ⟨.nil,0,0,view e w⟩
abbrev NI(B:aa)(e:ar)(w:Nat->Option aj)(K t:V):Prop:=cC (NH B e w K t) (.bool (subB K t)) (view e w)=(V.bool (subB K t)=.bool (subB K t)/\view e w=view e w)
theorem NJ :∀K∈e0,∀t∈wants,NI B e w K t:=by repeat' (first|exact et|refine es ?_ ?_|kernel_rfl)
theorem mL(R:TopOk B){K t:V}(b:K∈e0)(q:t∈wants):Spec B 60 (.glob (.ref 499)) [.ref 1 0,K,t] ⟨.nil,0,0,view e w⟩ λT n=>T=.bool (subB K t)/\Left e w n:=
 Spec.of R c8 400 12 (dk (NJ K b t q) λn j=>⟨rfl,cx j⟩)
def NK(B:aa)(e:ar)(w:Nat->Option aj)(N t:V):Res V:=c7 (di B) c8 300 6 (.glob (.ref 903)) [N,t,.ref 2 2] ⟨.nil,0,0,view e w⟩
abbrev tM(B:aa)(e:ar)(w:Nat->Option aj)(N K t:V):Prop:=cC (NK B e w N t) (.bool (subB K t)) (view e w)=(V.bool (subB K t)=.bool (subB K t)/\view e w=view e w)
theorem NL :∀Z∈lits,∀t∈wants,tM B e w Z.1 Z.2 t:=by repeat' (first|exact et|refine es ?_ ?_|kernel_rfl)
theorem NM{y Z u:V}(j:y=bW\/y=cq):∀t∈wants,tM B e w (cQ (bH y) Z u) (bH y) t:=by rcases j with rfl|rfl <;>repeat' (first|exact et|refine es ?_ ?_|kernel_rfl)
theorem NN{f:Nat}:∀t∈wants,tM B e w (aV f) cellK t:=by repeat' (first|exact et|refine es ?_ ?_|kernel_rfl)
theorem oy(R:TopOk B){L W:Nat}{N K t:V}(Z:Val L W N K)(q:t∈wants):Spec B 30 (.glob (.ref 903)) [N,t,.ref 2 2] ⟨.nil,0,0,view e w⟩ λT n=>T=.bool (subB K t)/\Left e w n:=by
 have p:tM B e w N K t->Spec B 30 (.glob (.ref 903)) [N,t,.ref 2 2] ⟨.nil,0,0,view e w⟩ λT n=>T=.bool (subB K t)/\Left e w n:=λo=>
  Spec.of R c8 300 6 (dk o λn j=>⟨rfl,cx j⟩)
 induction Z using Val.casesOn with|lit j=>exact p (NL _ j t q)|st j _ _=>exact p (NM j t q)|dh _=>exact p (NN t q)
end
section
variable{B:aa}{e:ar}{w:Nat->Option aj}
noncomputable def xM(K:V)(g:List (Key×V)):aj:=.inst 517 (([107,105,110,100],K)::g)
def oz(e:ar)(w:Nat->Option aj)(L:Nat)(x X:V):O:=
 ((((((⟨.nil,0,0,view e w⟩:O).set (10+L) 0 (Y (.list [x,X]))).set (10+L) 1 (Y (.inst 517 []))).set (10+L) 1 (Y (xM cellK []))).set (10+L) 1 (Y (xM cellK [([102,105,101,108,100,115],.ref (10+L) 0)]))).set (10+L) 1
  (Y (xM cellK [([102,105,101,108,100,115],.ref (10+L) 0),([115,105,122,101,115],.tup [])]))).set 1 866 (Y (.list (dj 10 1 L 0++ [.ref (10+L) 1])))
def NO(B:aa)(e:ar)(w:Nat->Option aj):Res V:=c7 (di B) c8 200 6 (.glob (.ref 549)) [.ref 1 865,cellK,.ref 7 0] ⟨.nil,0,10+e.Q.length,view e w⟩
abbrev Dk(B:aa)(e:ar)(w:Nat->Option aj)(x X:V):Prop:=cC (NO B e w) (.int (.ofNat e.Q.length)) (oz e w e.Q.length x X).aw=(V.int (.ofNat e.Q.length)=.int (.ofNat e.Q.length)/\(oz e w e.Q.length x X).aw=(oz e w e.Q.length x X).aw)
theorem mM{N:Type}{a:List N->Prop}{P:List N}(j:P.length<=7)(d:a [])(b:∀v,a [v])(p:∀v m,a [v,m])(x:∀v m B,a [v,m,B])(q:∀v m B W,a [v,m,B,W])(h:∀v m B W o,a [v,m,B,W,o])
  (C:∀v m B W o S,a [v,m,B,W,o,S])(F:∀v m B W o S c,a [v,m,B,W,o,S,c]):a P:=by
 have u:P.length<=7->a P:=ix (a:=λP=>P.length<=7->a P) (Nat.le_trans j (by decide)) (λI=>d) (λv I=>b v) (λv m I=>p v m) (λv m B I=>x v m B) (λv m B W I=>q v m B W) (λv m B W o I=>h v m B W o) (λv m B W o S I=>C v m B W o S) (λv m B W o S c I=>F v m B W o S c) λv m B W o S c f j=>absurd j (by simp)
 exact u j
theorem NP{v m:Nat}{q r:List V}{R a:List (V×V)}(j:a.length<=7){y X:V}{k:Nat->Option aj}:Dk B ⟨v,m,q,R,a,r⟩ (λf=>match f with|0=>Y (.list [y,X])|f+1=>k f) y X:=
 mM (a:=λa=>Dk B ⟨v,m,q,R,a,r⟩ (λf=>match f with|0=>Y (.list [y,X])|f+1=>k f) y X) j (by kernel_rfl) (by intros;kernel_rfl) (by intros;kernel_rfl) (by intros;kernel_rfl) (by intros;kernel_rfl) (by intros;kernel_rfl) (by intros;kernel_rfl) (by intros;kernel_rfl)
theorem Dl{A k:Nat}:∀{C f:Nat},dj A k (C+1) f=dj A k C f++ [.ref (A+(f+C)) k]:=by
 intro s;induction s with|zero=>intro I;exact rfl|succ C F=>intro f;show V.ref (A+f) k::dj A k (C+1) (f+1)=_;refine U F (U (show f+1+C=f+(C+1) by lia) ?_);rfl
theorem xN{i:V×V}:∀{g:List (V×V)} {f:Nat},bN (g++ [i]) f=if f=g.length then Y i else bN g f:=by
 intro s;induction s with
 |nil=>
  intro f;show(match Nat.beq f 0 with|true=>Y i|false=>bN [] (f-1))=if f=0 then Y i else G
  rw[bl.cH];by_cases u:f=0 <;>simp[u,bN]
 |cons Z T F=>
  intro f;show(match Nat.beq f 0 with|true=>Y Z|false=>bN (T++ [i]) (f-1))=if f=T.length+1 then Y i else(match Nat.beq f 0 with|true=>Y Z|false=>bN T (f-1))
  rw[bl.cH];by_cases u:f=0
  ·simp[u]
  ·simp only[u,decide_false];refine U F ?_;by_cases X:f=T.length+1
   ·exact U (if_pos X) (U (if_pos (show f-1=T.length from congrArg (·-1) X)) rfl)
   ·exact U (if_neg X) (U (if_neg (λi=>X ((Nat.sub_eq_iff_eq_add (Nat.pos_of_ne_zero u)).mp i))) rfl)
theorem h2{L:O}{A C:Nat}(j:A≠0):L.get A C=L.aw A C:=by
 induction A using Nat.casesOn with|zero=>exact absurd rfl j|succ A=>rfl
theorem NQ{e W:ar}(H:W.a=e.a)(p:W.b=e.b)(x:W.held=e.held)(q:W.sc=e.sc)(h:W.P.length=e.P.length){f:Nat}:d4 W f=d4 e f:=by unfold d4;exact U H (U p (U x (U h rfl)))
noncomputable abbrev more(e:ar)(i:V×V):ar:={e with Q:=e.Q++ [i]}
theorem e1{L:O}{A C w a:Nat}{N:Option aj}(d:A≠0)(j:w≠A):(L.set A C N).aw w a=L.aw w a:=by
 induction A using Nat.casesOn with|zero=>exact absurd rfl d|succ A=>
  show(match Nat.beq w (A+1) with|true=>_|false=>_)=_
  exact U (cI j) rfl
theorem iy{L:O}{A C w a:Nat}{N:Option aj}(d:A≠0)(j:a≠C):(L.set A C N).aw w a=L.aw w a:=by
 induction A using Nat.casesOn with|zero=>exact absurd rfl d|succ A=>
  show(match Nat.beq w (A+1) with|true=>(match Nat.beq a C with|true=>_|false=>_)|false=>_)=_
  refine U (cI j) ?_;generalize Nat.beq w (A+1)=b;induction b using ap <;>rfl
theorem mN{L:O}{A C:Nat}{N:Option aj}(d:A≠0):(L.set A C N).aw A C=N:=by
 induction A using Nat.casesOn with|zero=>exact absurd rfl d|succ A=>
  show(match Nat.beq (A+1) (A+1) with|true=>(match Nat.beq C C with|true=>_|false=>_)|false=>_)=_
  rw[Nat.beq_refl,Nat.beq_refl]
theorem tN{W:ar}{n:O}{d:Nat->Nat->Option aj}(j:n.aw=d)(D:∀C,d 7 C=w C)(X:∀C,d 1 C=view W w 1 C)(t:∀C,d 2 C=d4 W C)(a:∀f Z C,bN W.P f=Y Z->d (f+20) C=gr Z C)
  (c:∀f Z C,f<10->bN W.Q f=Y Z->d (f+10) C=gq f Z C):Left W w n:=by
 subst j;refine⟨λA C r R o=>(h2 (eK R).1).trans (De R o (λu=>?_) (λu=>?_) (λf Z S u k=>?_) λf Z b S u k=>?_),λC=>(h2 (by decide)).trans (D C)⟩
 ·clear R;subst u;exact(X C).trans o
 ·clear R;subst u;exact(t C).trans o
 ·clear o R;subst u;exact(a f Z C S).trans k
 ·clear o R;subst u;exact(c f Z C b S).trans k
theorem fi{L:Nat}:10+L≠0:=by rw[Nat.add_comm];exact Nat.succ_ne_zero _
theorem tO{A C L:Nat}{y X:V}(b:A≠1)(p:A≠10+L):(oz e w L y X).aw A C=view e w A C:=
 (e1 (by decide) b).trans ((e1 fi p).trans ((e1 fi p).trans ((e1 fi p).trans ((e1 fi p).trans (e1 fi p)))))
theorem NR{L:Nat}{y X:V}{C:Nat}(j:∀C,view e w (10+L) C=G):(oz e w L y X).aw (10+L) C=gq L (y,X) C:=by
 refine(e1 (by decide) (by rw[Nat.add_comm];exact λu=>Nat.succ_ne_zero _ (Nat.succ.inj u))).trans ?_
 by_cases Q:C=1
 ·subst Q;exact mN fi
 ·refine(iy fi Q).trans ((iy fi Q).trans ((iy fi Q).trans ((iy fi Q).trans ?_)));by_cases g:C=0
  ·clear Q;subst g;exact mN fi
  ·refine(iy fi g).trans ((j C).trans ?_);unfold gq;exact U (cI g) (U (cI Q) rfl)
theorem Dm :∀{g:List (V×V)},bN g g.length=none:=by
 intro s;induction s with|nil=>exact rfl|cons _ T F=>exact F
theorem NS{y X:V}(c:e.Q.length<=7){n:O}(j:n.aw=(oz e w e.Q.length y X).aw):Left (more e (y,X)) w n:=by
 have d:e.Q.length<10:=Nat.lt_of_le_of_lt c (by decide)
 refine tN j (λC=>tO (by decide) (λu=>?_)) (λC=>?_) (λC=>?_) (λf Z C S=>?_) λf Z C b S=>?_
 ·exact absurd u (Nat.ne_of_lt (Nat.lt_of_lt_of_le (by decide) (Nat.le_add_right 10 _)))
 ·by_cases u:C=866
  ·subst u;refine(mN (by decide)).trans ?_
   show _=Y (aj.list (dj 10 1 (e.Q++ [(y,X)]).length 0));refine U fL ?_;show _=Y (aj.list (dj 10 1 (e.Q.length+1) 0));refine U Dl ?_;rw[Nat.zero_add]
  ·have t:1≠10+e.Q.length:=Nat.ne_of_lt (Nat.lt_of_lt_of_le (by decide) (Nat.le_add_right 10 _))
   refine(iy (by decide) u).trans ((e1 fi t).trans ((e1 fi t).trans ((e1 fi t).trans ((e1 fi t).trans ((e1 fi t).trans ?_)))))
   show(match Nat.beq C 866 with|true=>_|false=>iv C)=(match Nat.beq C 866 with|true=>_|false=>iv C)
   exact U (cI u) rfl
 ·exact tO (by decide) (Nat.ne_of_lt (Nat.lt_of_lt_of_le (by decide) (Nat.le_add_right 10 _)))
 ·refine(tO (by intro u;exact Nat.succ_ne_zero _ (Nat.succ.inj u)) λu=>?_).trans (lv.trans (U S rfl))
  rw[Nat.add_comm 10] at u;exact Nat.ne_of_gt (Nat.lt_of_lt_of_le d (Nat.le_add_left 10 f)) (Nat.add_right_cancel (m:=10) u)
 ·rw[xN] at S;by_cases u:f=e.Q.length
  ·rw[if_pos u] at S;refine U (an S).symm (U u ?_);rw[Nat.add_comm];exact NR λC=>by rw[Nat.add_comm];exact U (lw d) (U Dm rfl)
  ·rw[if_neg u] at S;refine(tO (by intro u;exact Nat.succ_ne_zero _ (Nat.succ.inj u)) λi=>?_).trans ((lw b).trans (U S rfl))
   rw[Nat.add_comm 10] at i;exact u (Nat.add_right_cancel i)
theorem Dn(l:TopOk B)(c:e.Q.length<=7){y X:V}(F:w 0=Y (.list [y,X])):Spec B 30 (.glob (.ref 549)) [.ref 1 865,cellK,.ref 7 0] ⟨.nil,0,10+e.Q.length,view e w⟩ λT n=>T=.int (.ofNat e.Q.length)/\Left (more e (y,X)) w n:=by
 have S:w=λf=>match f with|0=>Y (.list [y,X])|f+1=>w (f+1):=by
  funext f;induction f using Nat.casesOn with|zero=>exact F|succ f=>rfl
 obtain ⟨v,m,q,R,a,r⟩:=e;have T:=NP (B:=B) (v:=v) (m:=m) (q:=q) (R:=R) (r:=r) c (y:=y) (X:=X) (k:=λf=>w (f+1));rw[<-S] at T;exact Spec.of l c8 200 6 (dk T λn j=>⟨rfl,NS c j⟩)
end
set_option backward.match.sparseCases false
mutual
noncomputable def xO :V->Bool
 |.tup xs=>xP xs|.ref _ _=>E|_=>M
noncomputable def xP :List V->Bool
 | []=>M|x::xs=>bg (xO x) (xP xs)
end
mutual
theorem Do :∀{y:V},xO y=M->aM y
 |.none,_=>trivial|.bool _,_=>trivial|.int _,_=>trivial|.str _,_=>trivial|.bytes _,_=>trivial|.glob _,_=>trivial|.ref _ _,j=>aG j|.tup _,j=>Dp j
theorem Dp :∀{y:List V},xP y=M->go (λI I=>False) y
 | [],_=>trivial|_::_,j=>⟨Do (b8 j).1,Dp (b8 j).2⟩
end
noncomputable def xQ :List (Key×V)->Bool
 | []=>M|p::T=>bg (xO p.2) (xQ T)
theorem NT :∀{g:List (Key×V)},xQ g=M->∀N∈g.map (·.2),aM N:=by
 intro s;induction s with|nil=>intro I I i;cases i|cons Z T F=>
  intro j N i;rcases aW.mp i with rfl|i
  ·exact Do (b8 j).1
  ·exact F (b8 j).2 N i
def Dq :Option aj->Bool
 |none=>M|some r=>match r with
  |.list _=>M|.ce=>M|.dict g=>xQ g|_=>E
noncomputable def plainT :bl->Bool
 |.nil=>M|.node N g T=>bg (Dq N) (bg (plainT g) (plainT T))
theorem NU{r:aj}(j:Dq (Y r)=M):(∃g,r=.list g)\/jh r:=by
 induction r using aj.casesOn with|list g=>exact .inl ⟨g,rfl⟩|ce=>exact .inr (.inl rfl)|dict g=>exact .inr (.inr (aC g rfl (NT j)))|_=>exact aG j
theorem mO :∀{d:bl} {f:Nat} {r:aj},plainT d=M->d.get f=Y r->(∃g,r=.list g)\/jh r
 |.nil,_,_,_,o=>ag o|.node N g T,f,r,j,o=>by
  refine ak (b8 j) λb p=>ak (b8 p) λx q=>?_;rw[bl.get_node] at o;by_cases u:f=0
  ·rw[if_pos u] at o;rw[o] at b;exact NU b
  ·rw[if_neg u] at o;by_cases X:f%2=1
   ·rw[if_pos X] at o;exact mO x o
   ·rw[if_neg X] at o;exact mO q o
def Dr(C:Nat):Bool:=j9 (Nat.beq C 0) (j9 (Nat.beq C 1) (Nat.beq C 2))
inductive dx :V->Prop
 |mP {n:Nat} (h:lu n=M):dx (.ref 1 n)
 |own {n:Nat} (h:Dr n=M):dx (.ref 2 n)
 |flat {x:V} (h:aM x):dx x
section
variable{B:aa}{S:Nat}{e W:ar}{a:Nat->Option aj}{u:Type}{h:u->O->Prop}{D:Nat->Nat->O->Prop}
theorem NV{u:Nat->Nat×Nat}{y:V}(j:aM y):hZ u y=y:=by
 induction y using V.casesOn with|ref A C=>exact j.elim|_=>rfl
theorem NW{u:Nat->Nat×Nat}{y:V}(j:dx y):hZ u y=y:=by
 cases j with|mP _=>rfl|own _=>rfl|flat j=>exact NV j
theorem qO{u:Nat->Nat×Nat}{x:List V}(j:∀y∈x,dx y):x.map (hZ u)=x:=by
 induction x with|nil=>rfl|cons y T F=>exact U cp (U (NW (j y (.head _))) (U (F λX C=>j X (.tail _ C)) rfl))
theorem qP{L g:O}{y:V}(i:∀A C,bG A=M->L.get A C=view e a A C)(j:dx y):qI L g y:=by
 cases j with
 |mP j=>exact .inl (tI (λC=>i 1 C rfl) j)| @own C j=>refine .inl ⟨rfl,?_⟩;refine U (i 2 C rfl) ?_;show(d4 e C).isSome=M;unfold Dr at j;unfold d4;revert j;generalize (Nat.beq C 0)=K;induction K using ap <;>cases Nat.beq C 1 <;>cases Nat.beq C 2 <;>first|exact λI=>rfl|(intro j;exact aG j)
 |flat j=>
  induction y using V.casesOn with|ref A C=>exact j.elim|tup x=>exact xG x j|_=>trivial
def dy(T:Res u)(W:ar)(a:Nat->Option aj):O:=⟨T.a7.σ.t,T.a7.σ.n,0,view W a⟩
theorem qQ{T:Res u}(g:T.a7.σ.aw=view e a):T.a7.σ=⟨T.a7.σ.t,T.a7.σ.n,T.a7.σ.bf,view e a⟩:=by generalize T.a7.σ=σ at g⊢;obtain ⟨d,C,v,r⟩:=σ;replace g:r=view e a:=g;subst g;rfl
theorem fy{T:Res u}{c:e8}{x:List V}{R:V}{d:Nat}(ok:LsOk e)(o:LsOk W)(K:e.P.length<=W.P.length)(N:e.Q.length<=W.Q.length)(F:cV a)(q:∀y∈x,dx y)(H:aM R)
  (z:T.gU=Spec B S (.glob c) x T.a7.σ)(g:T.a7.σ.aw=view e a)(s:plainT T.a7.σ.t=M)
  (l:∀w:Nat->Option aj,cV w->Spec B S (.glob c) x ⟨.nil,0,d,view e w⟩ λT X=>T=R/\Left W w X)
  (A:(T.cw R (dy T W a)).to h D):T.to h D:=by
 refine lx (λv L=>v=R/\L=dy T W a) z ?_ λv L j=>ak j λb p=>by refine U b ?_;exact U p A
 have i:=qM (B:=B) (S:=S) (C:=T.a7.σ.n) (v:=T.a7.σ.bf) (h:=T.a7.σ.n) (Z:=0) (k:=0) (A:=0) (c:=c) (x:=x) (R:=R) ok o K N ⟨λf r=>mO s,F⟩ .none H (λy k=>qP (λA C m=>eL (eK m).1) (q y k)) λw I F=>l w (gu.fx F);rw[qO q,<-qQ g] at i;exact i
theorem NX{T:Res u}{c:e8}{x g:List V}{R:V}{I k:Nat}(ok:LsOk e)(f:LsOk W)(K:e.P.length<=W.P.length)(C:e.Q.length<=W.Q.length)(F:cV a)(q:∀y∈x,dx y)(TZ:aM R)(Z:∀N∈g,aM N)
  (z:T.gU=Spec B S (.glob c) (x++ [.ref 0 k]) T.a7.σ)(d:T.a7.σ.aw=view e a)(s:plainT T.a7.σ.t=M)(UJ:T.a7.σ.t.get k=Y (.list g))
  (l:∀w:Nat->Option aj,w 0=Y (.list g)->cV w->Spec B S (.glob c) (x++ [.ref 7 0]) ⟨.nil,0,I,view e w⟩ λT X=>T=R/\Left W w X)
  (A:(T.cw R (dy T W a)).to h D):T.to h D:=by
 refine lx (λv L=>v=R/\L=dy T W a) z ?_ λv L H=>ak H λb p=>by refine U b ?_;refine U p ?_;exact A
 have i:=qM (B:=B) (S:=S) (C:=T.a7.σ.n) (v:=T.a7.σ.bf) (h:=T.a7.σ.n) (Z:=0) (k:=k) (A:=0) (c:=c) (x:=x++ [.ref 7 0]) (R:=R) ok f K C ⟨λTS TR=>mO s,F⟩ (.inr (fX (.inl ⟨rfl,UJ⟩) g rfl Z)) TZ (λy r=>by
  rcases lz.mp r with j|j
  ·exact qP (λA TU m=>eL (eK m).1) (q y j)
  ·refine U (cy.mp j) ?_;exact .inr (max rfl _ rfl)) λw o F=>l w o (gu.fx F)
 rw[J8,qO q,<-qQ d] at i;exact i
end
set_option backward.match.sparseCases true
noncomputable def cj(K:V):V:=.tup [.str [116,121,112,101],K]
noncomputable def xR(x:Key):V:=.tup [.str [115,121,109],.str x]
def ez(d:Key):V:=.tup [.str [115,116,114,117,99,116],a6 [69,114,114,111,114,69,120,99,101,112,116,105,111,110],.tup [ey d]]
def dF(t x:V):V:=.tup [.str [115,116,114,117,99,116],a6 [84,121,112,101,69,114,114,111,114],.tup [xR [110,101,119],cj t,x]]
noncomputable def bn(N:V):V:=.tup [.str [118,97,108,117,101],N]
noncomputable def a3(N:V):V:=.tup [.str [116,104,114,111,119,110],N]
noncomputable def qR :Key:= [97,110,111,116,104,101,114,32,110,117,109,98,101,114,32,111,102,32,102,105,101,108,100,115,32,105,115,32,119,97,110,116,101,100,32,98,121,32]
structure cr where
 K:V
 nm:Key
 dG:V
 dz:V
 cell:Bool
def b1 :cr:=⟨cellK,[67,101,108,108],bW,cq,M⟩
def lA(x:V):cr:=⟨bH x,[80,97,105,114],dE,x,E⟩
def e2 :List cr:= [b1,lA bW,lA cq]
def tP(A:cr)(L:Nat)(x X:V):V:=match A.cell with
 |true=>bn (aV L)|false=>bn (cQ A.K x X)
def qS(A:cr)(L:Nat)(x H X aJ:V):V:=match subB H A.dG with
 |false=>a3 (dF A.dG x)|true=>match subB aJ A.dz with
  |false=>a3 (dF A.dz X)|true=>tP A L x X
def oA(A:cr)(H aJ:V):Bool:=bg (subB H A.dG) (subB aJ A.dz)
def ek :Nat->Bool:=λv=>c5 v [596,499,549]
noncomputable def bI(g:List V)(k:Nat->Option aj):Nat->Option aj
 |0=>Y (.list g)|f+1=>k f
section
variable{B:aa}{e:ar}{k:Nat->Option aj}
def xS(B:aa)(e:ar)(g:List V)(k:Nat->Option aj):Res V:=c7 (di B) ek 300 20 (.glob (.ref 959)) [.glob (.ref 704),.ref 1 865,.ref 7 0] ⟨.nil,0,0,view e (bI g k)⟩
abbrev Ds(B:aa)(e:ar)(g:List V)(k:Nat->Option aj)(R:V):Prop:=cC (xS B e g k) R (view e (bI g k))=(R=R/\view e (bI g k)=view e (bI g k))
@[elab_as_elim] theorem lB{P:cr->Prop}{A:cr}(m:A∈e2)(b:P b1)(p:∀t,(t=bW\/t=cq)->P (lA t)):P A:=by
 rcases aW.mp m with rfl|m
 ·exact b
 ·rcases aW.mp m with rfl|m
  ·exact p _ (.inl rfl)
  ·rw[cy.mp m];exact p _ (.inr rfl)
theorem xT{A:cr}(m:A∈e2):A.dG∈wants/\A.dz∈wants:=by unfold wants;exact lB m (by simp[b1]) λt j=>by rcases j with rfl|rfl <;>simp[lA]
theorem NY :∀A∈e2,∀y,Ds B e [cj A.K,y] k (a3 (ez (qR++A.nm))):=by intro A m y;exact lB m (by kernel_rfl) λt j=>by rcases j with rfl|rfl <;>kernel_rfl
theorem NZ :∀A∈e2,∀y X i,Ds B e [cj A.K,y,X,i] k (a3 (ez (qR++A.nm))):=by intro A m y X i;exact lB m (by kernel_rfl) λt j=>by rcases j with rfl|rfl <;>kernel_rfl
end
set_option backward.match.sparseCases false
def Dt{N:Type}(T:Res N):Nat:=match T.a7.xs with
 |_::_::.ref _ k::_=>k|_=>0
theorem Val.iz{L W:Nat}{N K:V}(Z:Val L W N K):aM K:=by
 have:∀K∈Internal.e0,aM K:=by intro K b;refine fE b ?_;repeat' (first|exact et|refine es ?_ ?_|exact trivial|constructor)
 exact this _ Z.e0
theorem gv :∀t∈wants,aM t:=by intro t q;refine fE q ?_;repeat' (first|exact et|refine es ?_ ?_|exact trivial|constructor)
section
variable{B:aa}{e:ar}{k:Nat->Option aj}
theorem ji{g:List V}(j:cV k):cV (bI g k):=λf r o=>by
 induction f using Nat.casesOn with|zero=>exact .inl ⟨g,(an o).symm⟩|succ f=>exact j f r o
theorem tQ{y X:V}(ok:LsOk e)(c:e.Q.length<=7)(k:aM y)(C:aM X):LsOk (more e (y,X)):=
 ⟨ok.n,by show(e.Q++ [(y,X)]).length<=8;refine U fL ?_;exact Nat.succ_le_succ c,ok.held,ok.sc,ok.p,λZ S=>by
  rcases lz.mp S with j|j
  ·exact ok.q Z j
  ·refine U (cy.mp j) ?_;exact⟨k,C⟩⟩
theorem tR{y X:V}:e.Q.length<=(more e (y,X)).Q.length:=by show _<=(e.Q++ [(y,X)]).length;refine U fL ?_;exact Nat.le_succ _
variable{h:V->O->Prop}{D:Nat->Nat->O->Prop}
def xU(A:cr)(e:ar)(H aJ y X:V):ar:=match bg (oA A H aJ) A.cell with
 |true=>more e (y,X)|false=>e
abbrev el(B:aa)(T:Res V)(S:Nat)(c:Nat)(xs:List V)(Z:Nat->Nat->Option aj):Prop:=T.gU=Spec B S (.glob (.ref c)) xs T.a7.σ/\T.a7.σ.aw=Z/\plainT T.a7.σ.t=M
section
variable(B:aa)(e:ar)(k:Nat->Option aj)(A:cr)(y H X aJ:V)
def mQ(k:Nat->Option aj)(A:cr)(y X:V):Nat->Option aj:=bI [cj A.K,y,X] k
def tS :Res V:=xS B e [cj A.K,y,X] k
def tT :Res V:=(tS B e k A y X).cw H (dy (tS B e k A y X) e (mQ k A y X))
def qT(m:Bool):Res V:=(tT B e k A y H X).cw (.bool m) (dy (tT B e k A y H X) e (mQ k A y X))
def tU :Res V:=(qT B e k A y H X M).cw aJ (dy (qT B e k A y H X M) e (mQ k A y X))
def ka(m:Bool):Res V:=(tU B e k A y H X aJ).cw (.bool m) (dy (tU B e k A y H X aJ) e (mQ k A y X))
def N0 :Res V:=(ka B e k A y H X aJ M).cw (.int (.ofNat e.Q.length)) (dy (ka B e k A y H X aJ M) (more e (y,X)) (mQ k A y X))
end
abbrev kb(e:ar)(k:Nat->Option aj)(A:cr)(y X:V):Nat->Nat->Option aj:=view e (mQ k A y X)
abbrev em(T:Res V)(K:V)(Z:Nat->Nat->Option aj):Prop:=cC T K Z=(K=K/\Z=Z)
structure N1(B:aa)(e:ar)(k:Nat->Option aj)(A:cr)(y H X aJ:V):Prop where
 N2:el B (tS B e k A y X) 85 596 [.ref 1 865,y] (kb e k A y X)
 a1:el B (tT B e k A y H X) 85 499 [.ref 1 0,H,A.dG] (kb e k A y X)
 f2:em (qT B e k A y H X E) (a3 (dF A.dG y)) (kb e k A y X)
 a2:el B (qT B e k A y H X M) 85 596 [.ref 1 865,X] (kb e k A y X)
 AT:el B (tU B e k A y H X aJ) 85 499 [.ref 1 0,aJ,A.dz] (kb e k A y X)
 f4:em (ka B e k A y H X aJ E) (a3 (dF A.dz X)) (kb e k A y X)
theorem N3{A:cr}(m:A∈e2){y H X aJ:V}:N1 B e k A y H X aJ:=by refine fE m ?_;repeat' (first|exact et|refine es ?_ ?_|exact⟨aQ (by kernel_rfl) (by kernel_rfl) (by kernel_rfl),aQ (by kernel_rfl) (by kernel_rfl) (by kernel_rfl),by kernel_rfl,aQ (by kernel_rfl) (by kernel_rfl) (by kernel_rfl),aQ (by kernel_rfl) (by kernel_rfl) (by kernel_rfl),by kernel_rfl⟩)
theorem N4{t y H X aJ:V}(j:t=bW\/t=cq):em (ka B e k (lA t) y H X aJ M) (bn (cQ (bH t) y X)) (kb e k (lA t) y X):=by rcases j with rfl|rfl <;>kernel_rfl
theorem N5{y H X aJ:V}:el B (ka B e k b1 y H X aJ M) 90 549 [.ref 1 865,cellK,.ref 0 (Dt (ka B e k b1 y H X aJ M))] (kb e k b1 y X)/\(ka B e k b1 y H X aJ M).a7.σ.t.get (Dt (ka B e k b1 y H X aJ M))=Y (.list [y,X])/\em (N0 B e k b1 y H X aJ) (bn (aV e.Q.length)) (kb (more e (y,X)) k b1 y X):=
 (aQ (aQ (by kernel_rfl) (by kernel_rfl) (by kernel_rfl)) (by kernel_rfl) (by kernel_rfl))
theorem lC{v m:V}(w:dx v)(T:aM m):∀N∈[v,m],dx N:=λN i=>by
 rcases aW.mp i with rfl|i
 ·exact w
 ·exact U (cy.mp i) (.flat T)
theorem tV{v m W:V}(w:dx v)(T:aM m)(hd:aM W):∀N∈[v,m,W],dx N:=λN i=>by
 rcases aW.mp i with rfl|i
 ·exact w
 ·exact lC (.flat T) hd N i
theorem hv :dx (.ref 1 865):=.mP (by kernel_rfl)
theorem qU :dx (.ref 1 0):=.mP (by kernel_rfl)
theorem xV :aM cellK:=bP trivial trivial trivial trivial
theorem N6(l:TopOk B)(ok:LsOk e)(c:e.Q.length<=7)(F:cV k){W:Nat}{y H X aJ:V}(u:Val e.Q.length W y H)(r:Val e.Q.length W X aJ){A:cr}(m:A∈e2)
  (Z:∀n,Left (xU A e H aJ y X) (bI [cj A.K,y,X] k) n->h (qS A e.Q.length y H X aJ) n):(xS B e [cj A.K,y,X] k).to h D:=by
 have C:cV (mQ k A y X):=ji F;obtain ⟨o,f,f2,L,v,x⟩:=N3 (B:=B) (e:=e) (k:=k) m (y:=y) (H:=H) (X:=X) (aJ:=aJ);have q:=xT m;show(tS B e k A y X).to h D;refine fy (d:=0) ok ok (Nat.le_refl _) (Nat.le_refl _) C (lC hv u.flat) u.iz o.1 o.2.1 o.2.2 (λw I=>(j8 l ok u).le (by decide)) ?_
 show(tT B e k A y H X).to h D;refine fy (R:=.bool (subB H A.dG)) (d:=0) ok ok (Nat.le_refl _) (Nat.le_refl _) C (tV qU u.iz (gv _ q.1)) trivial f.1 f.2.1 f.2.2 (λw I=>(mL l u.e0 q.1).le (by decide)) ?_
 show(qT B e k A y H X (subB H A.dG)).to h D;have z:qS A e.Q.length y H X aJ=match subB H A.dG with|false=>a3 (dF A.dG y)|true=>match subB aJ A.dz with|false=>a3 (dF A.dz X)|true=>tP A e.Q.length y X:=rfl
 have g:xU A e H aJ y X=match bg (bg (subB H A.dG) (subB aJ A.dz)) A.cell with|true=>more e (y,X)|false=>e:=rfl
 replace Z:=z▸Z;replace Z:=g▸Z;generalize T:subB H A.dG=p;induction p using ap with|false=>replace Z:=T▸Z;exact dk f2 λn j=>Z n (cx j)|true=>
  replace Z:=T▸Z;refine fy (d:=0) ok ok (Nat.le_refl _) (Nat.le_refl _) C (lC hv r.flat) r.iz L.1 L.2.1 L.2.2 (λw I=>(j8 l ok r).le (by decide)) ?_
  show(tU B e k A y H X aJ).to h D;refine fy (R:=.bool (subB aJ A.dz)) (d:=0) ok ok (Nat.le_refl _) (Nat.le_refl _) C (tV qU r.iz (gv _ q.2)) trivial v.1 v.2.1 v.2.2 (λw I=>(mL l r.e0 q.2).le (by decide)) ?_
  show(ka B e k A y H X aJ (subB aJ A.dz)).to h D;generalize b:subB aJ A.dz=p;induction p using ap with|false=>replace Z:=b▸Z;exact dk x λn j=>Z n (cx j)|true=>
   replace Z:=b▸Z;clear z g o f f2 L v x q T b;revert Z;revert C;refine lB m (λC Z=>?_) λt q I Z=>dk (N4 q) λn j=>Z n (cx j)
   ·refine br (N5 (B:=B) (e:=e) (k:=k) (y:=y) (H:=H) (X:=X) (aJ:=aJ)) λd a s=>NX (x:= [.ref 1 865,cellK]) (g:= [y,X]) (R:=.int (.ofNat e.Q.length)) (W:=more e (y,X)) (I:=10+e.Q.length) ok (tQ ok c u.flat r.flat) (Nat.le_refl _) tR C (lC hv xV) trivial (λN i=>?_) d.1 d.2.1 d.2.2 a (λw S I=>(Dn l c S).le (by decide)) ?_
    ·rcases aW.mp i with rfl|i
     ·exact u.flat
     ·exact U (cy.mp i) r.flat
    ·exact dk s λn j=>Z n (cx j)
end
set_option backward.match.sparseCases true
section
variable{B:aa}{S:Nat}{e W:ar}{a:Nat->Option aj}{N:Type}{h:N->O->Prop}{D:Nat->Nat->O->Prop}
def oB(T:Res N)(W:ar)(a:Nat->Option aj)(C v:Nat):O:=⟨T.a7.σ.t,C,v,view W a⟩
theorem N7{T:Res N}{c:e8}{x:List V}{R:V}{d:Nat}(C v:Nat)(ok:LsOk e)(k:LsOk W)(K:e.P.length<=W.P.length)(u:e.Q.length<=W.Q.length)(F:cV a)(q:∀y∈x,dx y)(H:aM R)
  (z:T.gU=Spec B S (.glob c) x T.a7.σ)(g:T.a7.σ.aw=view e a)(s:plainT T.a7.σ.t=M)
  (l:∀w:Nat->Option aj,cV w->Spec B S (.glob c) x ⟨.nil,0,d,view e w⟩ λT X=>T=R/\Left W w X)
  (A:(T.cw R (oB T W a C v)).to h D):T.to h D:=by
 refine lx (λZ L=>Z=R/\L=oB T W a C v) z ?_ λZ L o=>ak o λb p=>by refine U b ?_;exact U p A
 have i:=qM (B:=B) (S:=S) (C:=T.a7.σ.n) (v:=T.a7.σ.bf) (h:=C) (Z:=v) (k:=0) (A:=0) (c:=c) (x:=x) (R:=R) ok k K u ⟨λf r=>mO s,F⟩ .none H (λy j=>qP (λA C m=>eL (eK m).1) (q y j)) λw I F=>l w (gu.fx F);rw[qO q,<-qQ g] at i;exact i
end
section
variable{B:aa}{e:ar}{w k:Nat->Option aj}
noncomputable abbrev hw(e:ar)(i:V×V):ar:={e with P:=e.P++ [i]}
def mR(e:ar)(w:Nat->Option aj)(L:Nat)(y X:V):O:=
 ((⟨.nil,0,0,view e w⟩:O).set (20+L) 0 (Y (.list [y,X]))).set 2 2 (Y (.list (dj 20 0 L 0++ [.ref (20+L) 0])))
theorem xW{y X:V}(c:e.Q.length<=9){n:O}(j:n.aw=(mR e w e.P.length y X).aw):Left (hw e (y,X)) w n:=by
 have a:20+e.P.length≠0:=by rw[Nat.add_comm];exact Nat.succ_ne_zero _
 have lo:∀{A},A<20->A≠20+e.P.length:=λj=>Nat.ne_of_lt (Nat.lt_of_lt_of_le j (Nat.le_add_right 20 _));have D:∀{A C},A≠2->A≠20+e.P.length->(mR e w e.P.length y X).aw A C=view e w A C:=λj q=>(e1 (by decide) j).trans (e1 a q)
 refine tN j (λC=>D (by decide) (lo (by decide))) (λC=>D (by decide) (lo (by decide))) (λC=>?_) (λf Z C S=>?_) λf Z C b S=>?_
 ·by_cases u:C=2
  ·subst u;refine(mN (by decide)).trans ?_
   show _=Y (aj.list (dj 20 0 (e.P++ [(y,X)]).length 0));refine U fL ?_;show _=Y (aj.list (dj 20 0 (e.P.length+1) 0));refine U Dl ?_;rw[Nat.zero_add]
  ·refine(iy (by decide) u).trans ((e1 a (lo (by decide))).trans ?_)
   show d4 e C=d4 (hw e (y,X)) C;unfold d4;exact U (cI u) rfl
 ·rw[xN] at S;by_cases u:f=e.P.length
  ·rw[if_pos u] at S;refine U (an S).symm (U u ?_);rw[Nat.add_comm];refine(e1 (by decide) (h8 (lo (by decide)))).trans ?_
   by_cases g:C=0
   ·subst g;exact mN a
   ·refine(iy a g).trans ?_;show view e w (20+e.P.length) C=_;rw[Nat.add_comm];refine U lv (U Dm ?_);unfold gr;exact U (cI g) rfl
  ·rw[if_neg u] at S;have H:f+20≠2:=λu=>Nat.succ_ne_zero _ (Nat.succ.inj (Nat.succ.inj u));refine(D H λi=>?_).trans (lv.trans (U S rfl));rw[Nat.add_comm 20] at i;exact u (Nat.add_right_cancel i)
 ·exact(D (λu=>Nat.succ_ne_zero _ (Nat.succ.inj (Nat.succ.inj u))) (lo (Nat.add_lt_add_right b 10))).trans ((lw b).trans (U (show bN e.Q f=Y Z from S) rfl))
def gw :Nat->Bool:=λv=>c5 v [903]
def tW(B:aa)(e:ar)(K:V)(g:List V)(k:Nat->Option aj):Res V:=c7 (di B) gw 300 20 (.glob (.ref 945)) [K,.ref 7 0,.ref 2 2] ⟨.nil,0,0,view e (bI g k)⟩
theorem N8 :∀A∈e2,∀y,em (tW B e A.K [y] k) (a3 (ez (qR++A.nm))) (view e (bI [y] k)):=by intro A m y;exact lB m (by kernel_rfl) λt j=>by rcases j with rfl|rfl <;>kernel_rfl
theorem N9 :∀A∈e2,∀y X i,em (tW B e A.K [y,X,i] k) (a3 (ez (qR++A.nm))) (view e (bI [y,X,i] k)):=by intro A m y X i;exact lB m (by kernel_rfl) λt j=>by rcases j with rfl|rfl <;>kernel_rfl
section
variable(B:aa)(e:ar)(k:Nat->Option aj)(A:cr)(y X:V)
def jj(k:Nat->Option aj)(y X:V):Nat->Option aj:=bI [y,X] k
def tX :Res V:=tW B e A.K [y,X] k
def mS(m:Bool):Res V:=(tX B e k A y X).cw (.bool m) (dy (tX B e k A y X) e (jj k y X))
def Du(m:Bool):Res V:=(mS B e k A y X M).cw (.bool m) (dy (mS B e k A y X M) e (jj k y X))
def Oa(C v:Nat):Res V:=(mS B e k A y X M).cw (.bool M) (oB (mS B e k A y X M) e (jj k y X) C v)
end
structure Ob(B:aa)(e:ar)(k:Nat->Option aj)(A:cr)(y X:V):Prop where
 N2:el B (tX B e k A y X) 95 903 [y,A.dG,.ref 2 2] (view e (jj k y X))
 f1:em (mS B e k A y X E) (a3 (dF A.dG y)) (view e (jj k y X))
 a1:el B (mS B e k A y X M) 95 903 [X,A.dz,.ref 2 2] (view e (jj k y X))
 f2:em (Du B e k A y X E) (a3 (dF A.dz X)) (view e (jj k y X))
theorem Oc{A:cr}(m:A∈e2){y X:V}:Ob B e k A y X:=by refine fE m ?_;repeat' (first|exact et|refine es ?_ ?_|exact⟨aQ (by kernel_rfl) (by kernel_rfl) (by kernel_rfl),by kernel_rfl,aQ (by kernel_rfl) (by kernel_rfl) (by kernel_rfl),by kernel_rfl⟩)
theorem Od{t y X:V}(j:t=bW\/t=cq):em (Du B e k (lA t) y X M) (bn (cQ (bH t) y X)) (view e (jj k y X)):=by rcases j with rfl|rfl <;>kernel_rfl
end
section
variable{B:aa}{k:Nat->Option aj}
abbrev Dv(B:aa)(e:ar)(k:Nat->Option aj)(x X:V):Prop:=em (Oa B e k b1 x X 0 (20+e.P.length)) (bn (aV e.P.length)) (mR e (jj k x X) e.P.length x X).aw
theorem Oe{v m:Nat}{q r:List V}{P a:List (V×V)}(j:P.length<=7){y X:V}:Dv B ⟨v,m,q,P,a,r⟩ k y X:=
 mM (a:=λP=>Dv B ⟨v,m,q,P,a,r⟩ k y X) j (by kernel_rfl) (by intros;kernel_rfl) (by intros;kernel_rfl) (by intros;kernel_rfl) (by intros;kernel_rfl) (by intros;kernel_rfl) (by intros;kernel_rfl) (by intros;kernel_rfl)
def xX(A:cr)(e:ar)(H aJ x X:V):ar:=match bg (oA A H aJ) A.cell with
 |true=>hw e (x,X)|false=>e
theorem Dw{e:ar}{y X:V}(ok:LsOk e)(c:e.P.length<=7)(k:aM y)(C:aM X):LsOk (hw e (y,X)):=
 ⟨by show(e.P++ [(y,X)]).length<=8;refine U fL ?_;exact Nat.succ_le_succ c,ok.fR,ok.held,ok.sc,λZ S=>by
  rcases lz.mp S with j|j
  ·exact ok.p Z j
  ·refine U (cy.mp j) ?_;exact⟨k,C⟩,ok.q⟩
theorem Of(l:TopOk B){e:ar}(ok:LsOk e)(v:e.P.length<=7)(F:cV k){L W:Nat}{y H X aJ:V}(u:Val L W y H)(Q:Val L W X aJ){A:cr}(x:A∈e2){h:V->O->Prop}{D:Nat->Nat->O->Prop}
  (Z:∀n,Left (xX A e H aJ y X) (bI [y,X] k) n->h (qS A e.P.length y H X aJ) n):(tW B e A.K [y,X] k).to h D:=by
 have C:cV (jj k y X):=ji F;obtain ⟨o,S,f,f2⟩:=Oc (B:=B) (e:=e) (k:=k) x (y:=y) (X:=X);have s:=xT x;have b:∀{N t:V},aM N->aM t->∀c∈[N,t,.ref 2 2],dx c:=λ{N t} i s c d=>by
  rcases aW.mp d with rfl|d
  ·exact .flat i
  ·rcases aW.mp d with rfl|d
   ·exact .flat s
   ·exact U (cy.mp d) (.own (by kernel_rfl))
 have z:qS A e.P.length y H X aJ=match subB H A.dG with|false=>a3 (dF A.dG y)|true=>match subB aJ A.dz with|false=>a3 (dF A.dz X)|true=>tP A e.P.length y X:=rfl
 have g:xX A e H aJ y X=match bg (bg (subB H A.dG) (subB aJ A.dz)) A.cell with|true=>hw e (y,X)|false=>e:=rfl
 replace Z:=z▸Z;replace Z:=g▸Z;show(tX B e k A y X).to h D;refine fy (R:=.bool (subB H A.dG)) (d:=0) ok ok (Nat.le_refl _) (Nat.le_refl _) C (b u.flat (gv _ s.1)) trivial o.1 o.2.1 o.2.2 (λw I=>(oy l u s.1).le (by decide)) ?_
 show(mS B e k A y X (subB H A.dG)).to h D;generalize T:subB H A.dG=p;induction p using ap with|false=>replace Z:=T▸Z;exact dk S λn j=>Z n (cx j)|true=>
  replace Z:=T▸Z;generalize a:subB aJ A.dz=p;induction p using ap with|false=>replace Z:=a▸Z;exact fy (R:=.bool (subB aJ A.dz)) (d:=0) ok ok (Nat.le_refl _) (Nat.le_refl _) C (b Q.flat (gv _ s.2)) trivial f.1 f.2.1 f.2.2 (λw I=>(oy l Q s.2).le (by decide)) (U a (dk f2 λn j=>Z n (cx j)))|true=>
   replace Z:=a▸Z;clear z g o S f2 T;revert Z;revert f;revert a;revert s;refine lB x (λs a f Z=>?_) λt j s a f Z=>?_
   rotate_left
   ·exact fy (R:=.bool (subB aJ (lA t).dz)) (d:=0) ok ok (Nat.le_refl _) (Nat.le_refl _) C (b Q.flat (gv _ s.2)) trivial f.1 f.2.1 f.2.2 (λw I=>(oy l Q s.2).le (by decide)) (U a (dk (Od j) λn j=>Z n (cx j)))
   ·refine N7 (R:=.bool (subB aJ b1.dz)) (d:=0) 0 (20+e.P.length) ok ok (Nat.le_refl _) (Nat.le_refl _) C (b Q.flat (gv _ s.2)) trivial f.1 f.2.1 f.2.2 (λw I=>(oy l Q s.2).le (by decide)) (U a ?_)
    clear f;obtain ⟨TR,m,q,P,TS,r⟩:=e;exact dk (Oe v) λn j=>Z n (xW (Nat.le_succ_of_le ok.fR) j)
end
set_option backward.match.sparseCases false
noncomputable def oC :V->Key
 |.tup g=>match g with
  | []=> []|N::_=>match N with
   |.str d=>d|_=> []
 |_=> []
noncomputable def itemAt(C:Nat):V->V
 |.tup g=>match g[C]? with
  |some N=>N|none=>.none
 |_=>.none
noncomputable def itemsOf :V->List V
 |.tup g=>g|_=> []
noncomputable def natOf :V->Nat
 |.int f=>match f with
  |.ofNat C=>C|.negSucc _=>0
 |_=>0
def xY(a:List (V×V))(f:Nat):List V:=match bN a f with
 |some p=> [p.1,p.2]|none=> []
noncomputable def Og :Key:= [116,117,112,108,101]
noncomputable def Dx :Key:= [115,116,114,117,99,116]
noncomputable def xZ :Key:= [111,98,106,101,99,116]
def dO(a:List (V×V))(N:V):List V:=match a0 (oC N) Og with
 |true=>itemsOf (itemAt 1 N)|false=>match a0 (oC N) Dx with
  |true=>itemsOf (itemAt 2 N)|false=>match a0 (oC N) xZ with
   |true=>xY a (natOf (itemAt 1 N))|false=> []
noncomputable def dU :Key:= [97]
noncomputable def d5 :Key:= [98]
noncomputable def d3 :Key:= [120]
noncomputable def Oh :Key:= [121]
noncomputable def gW :Key:= [110,111]
def oD(N:V):List Key:=match a0 (oC N) Dx with
 |true=> [d3,Oh]|false=>match a0 (oC N) xZ with
  |true=> [dU,d5]|false=> []
noncomputable def kc(x:Key):List Key->Option Nat
 | []=>G|A::T=>match a0 A x with
  |true=>Y 0|false=>match kc x T with
   |some C=>Y (C+1)|none=>G
noncomputable def ke :Key:= [116,121,112,101,32,104,97,115,32,110,111,32,102,105,101,108,100,32]
def jk(N d:V):V:=.tup [.str [115,116,114,117,99,116],a6 [66,111,117,110,100,115,69,114,114,111,114],.tup [N,d]]
inductive aJ where
 |sym (x:Key)
 |num (n:Nat)
def b2 :aJ->V
 |.sym x=>xR x|.num C=>vInt cD (.ofNat C)
def bM :List aJ:= [.sym dU,.sym d5,.sym d3,.sym gW,.num 0,.num 1,.num 2,.num 3]
def fj(a:List Key)(len:Nat)(N:V)(d:aJ):Nat⊕V:=match d with
 |.sym x=>match kc x a with
  |some C=>.inl C|none=>.inr (a3 (ez (ke++x)))
 |.num C=>match bg (Nat.ble 1 C) (Nat.ble C len) with
  |true=>.inl (C-1)|false=>.inr (a3 (jk N (b2 d)))
noncomputable def d6(g:List V)(C:Nat):V:=match g[C]? with
 |some N=>N|none=>.none
def mT(a:List (V×V))(N:V)(d:aJ):V:=match fj (oD N) (dO a N).length N d with
 |.inl C=>bn (d6 (dO a N) C)|.inr o=>o
def allI :Nat->(Nat->Prop)->Prop
 |0,_=>True|C+1,S=>S C/\allI C S
theorem eM{S:Nat->Prop}(j:∀f,S f):∀C,allI C S:=by
 intro s;induction s with|zero=>exact trivial|succ C F=>exact⟨j C,F⟩
theorem eA{S:Nat->Prop}:∀{C f:Nat},allI C S->f<C->S f
 |C+1,f,j,b=>by
  by_cases u:f=C
  ·exact U u j.1
  ·exact eA j.2 (Nat.lt_of_le_of_ne (Nat.le_of_lt_succ b) u)
def mU :List (V×V)->(V->Prop)->Prop
 | [],_=>True|p::T,S=>S p.1/\mU T S
theorem Dy{S:V->Prop}(j:∀f,S f):∀g,mU g S:=by
 intro s;induction s with|nil=>exact trivial|cons Z T F=>exact⟨j Z.1,F⟩
theorem x0{S:V->Prop}:∀{g:List (V×V)} {Z:V×V},mU g S->Z∈g->S Z.1
 |u::T,Z,j,b=>by
  rcases aW.mp b with rfl|b
  ·exact j.1
  ·exact x0 j.2 b
def e3 :List aJ->(aJ->Prop)->Prop
 | [],_=>True|p::T,S=>S p/\e3 T S
theorem Oi{S:aJ->Prop}(j:∀f,S f):∀g,e3 g S:=by
 intro s;induction s with|nil=>exact trivial|cons Z T F=>exact⟨j Z,F⟩
theorem Dz{S:aJ->Prop}:∀{g:List aJ} {Z:aJ},e3 g S->Z∈g->S Z
 |u::T,Z,j,b=>by
  rcases aW.mp b with rfl|b
  ·exact j.1
  ·exact Dz j.2 b
section
variable{B:aa}{e:ar}{k:Nat->Option aj}
def DA(B:aa)(e:ar)(g:List V)(k:Nat->Option aj):Res V:=c7 (di B) c8 300 20 (.glob (.ref 959)) [.glob (.ref 664),.ref 1 865,.ref 7 0] ⟨.nil,0,0,view e (bI g k)⟩
def lD(B:aa)(e:ar)(k:Nat->Option aj)(N:V)(d:aJ):Prop:=cC (DA B e [N,b2 d] k) (mT e.Q N d) (view e (bI [N,b2 d] k))
def lE(e:ar)(k:Nat->Option aj)(N:V)(d:aJ):Prop:=mT e.Q N d=mT e.Q N d/\view e (bI [N,b2 d] k)=view e (bI [N,b2 d] k)
theorem tY(e:ar)(k:Nat->Option aj)(N:V):e3 bM (lE e k N):=Oi (λI=>⟨rfl,rfl⟩) _
theorem Oj :mU lits (λN=>e3 bM (lD B e k N))=mU lits (λN=>e3 bM (lE e k N)):=by kernel_rfl
theorem Ol{Z u:V}:e3 bM (lD B e k (cQ (bH bW) Z u))=e3 bM (lE e k (cQ (bH bW) Z u)):=by kernel_rfl
theorem Om{Z u:V}:e3 bM (lD B e k (cQ (bH cq) Z u))=e3 bM (lE e k (cQ (bH cq) Z u)):=by kernel_rfl
end
section
variable{B:aa}{k:Nat->Option aj}{v m:Nat}{q r:List V}
abbrev DB(B:aa)(k:Nat->Option aj)(v m:Nat)(q r:List V)(R P:List (V×V)):Prop:=allI P.length (λf=>e3 bM (lD B ⟨v,m,q,R,P,r⟩ k (aV f)))=allI P.length (λf=>e3 bM (lE ⟨v,m,q,R,P,r⟩ k (aV f)))
theorem On{R P:List (V×V)}(j:P.length<=8):DB B k v m q r R P:=
 ix (a:=λP=>DB B k v m q r R P) j (by kernel_rfl) (by intros;kernel_rfl) (by intros;kernel_rfl) (by intros;kernel_rfl) (by intros;kernel_rfl) (by intros;kernel_rfl) (by intros;kernel_rfl) (by intros;kernel_rfl) (by intros;kernel_rfl)
theorem Oo{e:ar}(ok:LsOk e){W:Nat}{N K:V}(l:Val e.Q.length W N K):e3 bM (lD B e k N):=by
 induction l using Val.casesOn with
 |lit j=>have u:=x0 (S:=λN=>e3 bM (lD B e k N)) (x6 Oj (Dy (S:=λN=>e3 bM (lE e k N)) (λN=>tY e k N) lits)) j;exact u| @st W y Z u dg ci j _ _=>
  rcases j with j|j
  ·subst j;replace u:=x6 (Ol (B:=B)) (tY e k (cQ (bH bW) Z u));exact u
  ·subst j;replace u:=x6 (Om (B:=B)) (tY e k (cQ (bH cq) Z u));exact u
 |dh j=>have o:allI e.Q.length (λf=>e3 bM (lD B e k (aV f)))=allI e.Q.length (λf=>e3 bM (lE e k (aV f))):=On (B:=B) (k:=k) (v:=e.a) (m:=e.b) (q:=e.held) (r:=e.sc) (R:=e.P) ok.fR;have u:=eA (S:=λf=>e3 bM (lD B e k (aV f))) (x6 o (eM (S:=λf=>e3 bM (lE e k (aV f))) (λf=>tY e k (aV f)) _)) j;exact u
theorem Op(R:TopOk B){e:ar}(ok:LsOk e){w:Nat->Option aj}{W:Nat}{N K:V}(Z:Val e.Q.length W N K){d:aJ}(m:d∈bM)(F:w 0=Y (.list [N,b2 d])):Spec B 100 (.glob (.ref 959)) [.glob (.ref 664),.ref 1 865,.ref 7 0] ⟨.nil,0,0,view e w⟩ λT n=>T=mT e.Q N d/\Left e w n:=by
 have S:w=bI [N,b2 d] λf=>w (f+1):=by
  funext f;induction f using Nat.casesOn with|zero=>exact F|succ f=>rfl
 have o:cC (DA B e [N,b2 d] λf=>w (f+1)) (mT e.Q N d) (view e (bI [N,b2 d] λf=>w (f+1))):=Dz (Oo ok Z) m;exact U S (Spec.of R c8 300 20 (dk (propext ⟨λI=>⟨rfl,rfl⟩,λI=>o⟩) λn j=>⟨rfl,cx j⟩))
end
set_option backward.match.sparseCases true
noncomputable def oE :Key:= [115,101,116,102,105,101,108,100,33,32,111,102,32,119,104,97,116,32,99,97,110,110,111,116,32,98,101,32,99,104,97,110,103,101,100]
def kf(N:V):Bool:=a0 (oC N) xZ
def bB(C:Nat):V:=match Nat.beq C 0 with
 |true=>bW|false=>cq
noncomputable def eN(p:V×V)(C:Nat)(x:V):V×V:=match Nat.beq C 0 with
 |true=>(x,p.2)|false=>(p.1,x)
noncomputable def b5 :List (V×V)->Nat->Nat->V->List (V×V)
 | [],_,_,_=> []|p::T,f,C,x=>match Nat.beq f 0 with
  |true=>eN p C x::T|false=>p::b5 T (f-1) C x
def en(N:V)(d:aJ)(x H:V):V:=match kf N with
 |false=>a3 (ez oE)|true=>match fj [dU,d5] 2 N d with
  |.inr o=>o|.inl C=>match subB H (bB C) with
   |true=>bn x|false=>a3 (dF (bB C) x)
def dA(c:List (V×V))(N:V)(d:aJ)(x H:V):List (V×V):=match kf N with
 |false=>c|true=>match fj [dU,d5] 2 N d with
  |.inr _=>c|.inl C=>match subB H (bB C) with
   |true=>b5 c (natOf (itemAt 1 N)) C x|false=>c
section
variable(B:aa)(e:ar)(k:Nat->Option aj)(N:V)(d:aJ)(y H:V)
def cE(k:Nat->Option aj)(N:V)(d:aJ)(y:V):Nat->Option aj:=bI [N,b2 d,y] k
def fS :Res V:=c7 (di B) ek 300 20 (.glob (.ref 959)) [.glob (.ref 683),.ref 1 865,.ref 7 0] ⟨.nil,0,0,view e (cE k N d y)⟩
def jl :Res V:=match d with
 |.sym _=>(fS B e k N d y).cw cellK (dy (fS B e k N d y) e (cE k N d y))|.num _=>fS B e k N d y
def qV :Res V:=(jl B e k N d y).cw H (dy (jl B e k N d y) e (cE k N d y))
def x8(m:Bool):Res V:=(qV B e k N d y H).cw (.bool m) (dy (qV B e k N d y H) e (cE k N d y))
def DC(f C:Nat):Nat->Nat->Option aj:=((⟨.nil,0,0,view e (cE k N d y)⟩:O).set (10+f) 0 (Y (.list (match bN e.Q f with|some p=> [(eN p C y).1,(eN p C y).2]|none=> [])))).aw
abbrev mV(B:aa)(T:Res V)(S:Nat)(c:Nat)(xs:List V)(Z:Nat->Nat->Option aj):Prop:=Spec B S (.glob (.ref c)) xs T.a7.σ=Spec B S (.glob (.ref c)) xs T.a7.σ/\Z=Z/\M=M
abbrev jm(K:V)(Z:Nat->Nat->Option aj):Prop:=K=K/\Z=Z
def qW(f C:Nat):Prop:=el B (jl B e k N d y) 85 596 [.ref 1 865,y] (view e (cE k N d y))/\el B (qV B e k N d y H) 85 499 [.ref 1 0,H,bB C] (view e (cE k N d y))/\
 cC (x8 B e k N d y H E) (a3 (dF (bB C) y)) (view e (cE k N d y))/\cC (x8 B e k N d y H M) (bn y) (DC e k N d y f C)
def tZ(f C:Nat):Prop:=mV B (jl B e k N d y) 85 596 [.ref 1 865,y] (view e (cE k N d y))/\mV B (qV B e k N d y H) 85 499 [.ref 1 0,H,bB C] (view e (cE k N d y))/\
 jm (a3 (dF (bB C) y)) (view e (cE k N d y))/\jm (bn y) (DC e k N d y f C)
def DD(f:Nat):Prop:=qW B e k N (.sym dU) y H f 0/\qW B e k N (.sym d5) y H f 1/\qW B e k N (.num 1) y H f 0/\qW B e k N (.num 2) y H f 1/\
 el B (fS B e k N (.sym dU) y) 85 596 [.ref 1 865,N] (view e (cE k N (.sym dU) y))/\el B (fS B e k N (.sym d5) y) 85 596 [.ref 1 865,N] (view e (cE k N (.sym d5) y))/\
 el B (fS B e k N (.sym d3) y) 85 596 [.ref 1 865,N] (view e (cE k N (.sym d3) y))/\el B (fS B e k N (.sym gW) y) 85 596 [.ref 1 865,N] (view e (cE k N (.sym gW) y))/\
 cC (jl B e k N (.sym d3) y) (a3 (ez (ke++d3))) (view e (cE k N (.sym d3) y))/\cC (jl B e k N (.sym gW) y) (a3 (ez (ke++gW))) (view e (cE k N (.sym gW) y))/\
 cC (jl B e k N (.num 0) y) (a3 (jk N (b2 (.num 0)))) (view e (cE k N (.num 0) y))/\cC (jl B e k N (.num 3) y) (a3 (jk N (b2 (.num 3)))) (view e (cE k N (.num 3) y))
def DE(f:Nat):Prop:=tZ B e k N (.sym dU) y H f 0/\tZ B e k N (.sym d5) y H f 1/\tZ B e k N (.num 1) y H f 0/\tZ B e k N (.num 2) y H f 1/\
 mV B (fS B e k N (.sym dU) y) 85 596 [.ref 1 865,N] (view e (cE k N (.sym dU) y))/\mV B (fS B e k N (.sym d5) y) 85 596 [.ref 1 865,N] (view e (cE k N (.sym d5) y))/\
 mV B (fS B e k N (.sym d3) y) 85 596 [.ref 1 865,N] (view e (cE k N (.sym d3) y))/\mV B (fS B e k N (.sym gW) y) 85 596 [.ref 1 865,N] (view e (cE k N (.sym gW) y))/\
 jm (a3 (ez (ke++d3))) (view e (cE k N (.sym d3) y))/\jm (a3 (ez (ke++gW))) (view e (cE k N (.sym gW) y))/\
 jm (a3 (jk N (b2 (.num 0)))) (view e (cE k N (.num 0) y))/\jm (a3 (jk N (b2 (.num 3)))) (view e (cE k N (.num 3) y))
theorem Oq{f:Nat}:DE B e k N y H f:=by repeat' (first|rfl|constructor)
end
section
variable{B:aa}{k:Nat->Option aj}{v m:Nat}{q r:List V}{y H:V}
abbrev x9(B:aa)(k:Nat->Option aj)(v m:Nat)(q r:List V)(y H:V)(R P:List (V×V))(f:Nat):Prop:=DD B ⟨v,m,q,R,P,r⟩ k (aV f) y H f=DE B ⟨v,m,q,R,P,r⟩ k (aV f) y H f
set_option tactic.hygienic true in
theorem Ot{R P:List (V×V)}(j:P.length<=8){f:Nat}(b:f<P.length):x9 B k v m q r y H R P f:=by
 revert b;refine ix (a:=λP=>f<P.length->x9 B k v m q r y H R P f) j (λb=>absurd b (Nat.not_lt_zero _)) ?_ ?_ ?_ ?_ ?_ ?_ ?_ ?_ <;>intros <;>(rename_i b;revert b;intro b)
 all_goals
  dsimp only[h9,xL,Nat.zero_add,Nat.reduceAdd] at b
  repeat (refine ly (a:=λf=>x9 B k v m q r y H R _ f) b (λb=>?_) (by kernel_rfl))
  exact absurd b (Nat.not_lt_zero _)
end
theorem oF :∀{c:List (V×V)} {f C:Nat} {y:V},(b5 c f C y).length=c.length:=by
 intro s;induction s with|nil=>intro I I I;exact rfl|cons Z T F=>
  intro f C y;show(match Nat.beq f 0 with|true=>eN Z C y::T|false=>Z::b5 T (f-1) C y).length=_
  generalize (Nat.beq f 0)=K;induction K using ap with|true=>rfl|false=>show(b5 T (f-1) C y).length+1=_;refine U F ?_;rfl
theorem Ou :∀{c:List (V×V)} {f C k:Nat} {y:V},bN (b5 c f C y) k=if k=f then(bN c f).map λZ=>eN Z C y else bN c k:=by
 intro s;induction s with
 |nil=>
  intro f C k y;show G=if k=f then Ov _ G else G
  by_cases u:k=f
  ·refine U (if_pos u) ?_;rfl
  ·exact U (if_neg u) rfl
 |cons Z T F=>
  intro f C k y;show bN (match Nat.beq f 0 with|true=>eN Z C y::T|false=>Z::b5 T (f-1) C y) k=if k=f then(match Nat.beq f 0 with|true=>Y Z|false=>bN T (f-1)).map _ else(match Nat.beq k 0 with|true=>Y Z|false=>bN T (k-1))
  generalize b:Nat.beq f 0=K;induction K using ap with
  |true=>
   replace b:=Nat.eq_of_beq_eq_true b;subst b;show(match Nat.beq k 0 with|true=>Y (eN Z C y)|false=>bN T (k-1))=_
   rw[bl.cH];by_cases u:k=0
   ·refine U (if_pos u) (U (decide_eq_true u) ?_);rfl
   ·exact U (if_neg u) (U (decide_eq_false u) rfl)
  |false=>
   replace b:=Nat.ne_of_beq_eq_false b;show(match Nat.beq k 0 with|true=>Y Z|false=>bN (b5 T (f-1) C y) (k-1))=_
   rw[bl.cH];by_cases u:k=0
   ·exact U (decide_eq_true u) (U (if_neg (λi=>b (i.symm.trans u))) rfl)
   ·refine U (decide_eq_false u) (U F ?_);by_cases t:k=f
    ·exact U (if_pos t) (U (if_pos (congrArg (·-1) t)) rfl)
    ·exact U (if_neg t) (U (if_neg (λi=>t (Nat.sub_one_cancel (Nat.pos_of_ne_zero u) (Nat.pos_of_ne_zero b) i))) rfl)
theorem ya :∀{c:List (V×V)} {f C:Nat} {y:V} {Z:V×V},Z∈b5 c f C y->Z∈c\/∃u∈c,Z=eN u C y:=by
 intro s;induction s with|nil=>intro I I I I j;cases j|cons u T F=>
  intro f C y Z j;replace j:Z∈(match Nat.beq f 0 with|true=>eN u C y::T|false=>u::b5 T (f-1) C y):=j
  revert j;generalize (Nat.beq f 0)=K;induction K using ap with
  |true=>
   intro j;rcases aW.mp j with rfl|j
   ·exact .inr (aC u (.head _) rfl)
   ·exact .inl (.tail _ j)
  |false=>
   intro j;rcases aW.mp j with rfl|j
   ·exact .inl (.head _)
   ·rcases F j with j|⟨X,j,o⟩
    ·exact .inl (.tail _ j)
    ·exact .inr (aC X (.tail _ j) o)
theorem DF{Z:V×V}{C:Nat}{y:V}(j:aM Z.1/\aM Z.2)(q:aM y):aM (eN Z C y).1/\aM (eN Z C y).2:=by
 unfold eN;generalize (Nat.beq C 0)=K;induction K using ap with|true=>exact⟨q,j.2⟩|false=>exact⟨j.1,q⟩
section
variable{B:aa}{e:ar}{w k:Nat->Option aj}
noncomputable abbrev jn(e:ar)(c:List (V×V)):ar:={e with Q:=c}
theorem Ow{f C:Nat}{y:V}(ok:LsOk e)(X:aM y):LsOk (jn e (b5 e.Q f C y)):=
 ⟨ok.n,by show(b5 e.Q f C y).length<=8;refine U oF ?_;exact ok.fR,ok.held,ok.sc,ok.p,λZ S=>by
  rcases ya S with j|⟨u,j,rfl⟩
  ·exact ok.q Z j
  ·exact DF (ok.q u j) X⟩
theorem DG{g:List (V×V)}{f C:Nat}{y:V}{k:Nat}{Z:V×V}(j:bN (b5 g f C y) k=Y Z){x:Prop}(b:∀H,k=f->bN g f=Y H->Z=eN H C y->x)(p:k≠f->bN g k=Y Z->x):x:=by
 rw[Ou] at j;by_cases u:k=f
 ·rw[if_pos u] at j;exact au (DH.mp j) λH v m=>b H u v m.symm
 ·rw[if_neg u] at j;exact p u j
theorem Ox{f C:Nat}{y:V}(b:f<e.Q.length)(ok:LsOk e){n:O}(j:n.aw=((⟨.nil,0,0,view e w⟩:O).set (10+f) 0 (Y (.list (match bN e.Q f with|some Z=> [(eN Z C y).1,(eN Z C y).2]|none=> [])))).aw):Left (jn e (b5 e.Q f C y)) w n:=by
 have a:10+f≠0:=fi;have g:f<10:=Nat.lt_of_lt_of_le b (Nat.le_trans ok.fR (by decide))
 have D:∀{A z r},A≠10+f->((⟨.nil,0,0,view e w⟩:O).set (10+f) 0 r).aw A z=view e w A z:=λq=>e1 a q;have lo:∀{A},A<10->A≠10+f:=λj=>Nat.ne_of_lt (Nat.lt_of_lt_of_le j (Nat.le_add_right 10 _));refine tN j (λz=>D (lo (by decide))) (λz=>(D (lo (by decide))).trans ?_) (λz=>D (lo (by decide))) (λk Z z S=>(D λu=>?_).trans (lv.trans (U (show bN e.P k=Y Z from S) rfl))) λk Z z c S=>?_
 ·show(match Nat.beq z 866 with|true=>Y (aj.list (dj 10 1 e.Q.length 0))|false=>iv z)=(match Nat.beq z 866 with|true=>Y (aj.list (dj 10 1 (b5 e.Q f C y).length 0))|false=>iv z)
  exact U oF rfl
 ·rw[Nat.add_comm 10] at u;exact Nat.ne_of_gt (Nat.lt_of_lt_of_le g (Nat.le_add_left 10 k)) (Nat.add_right_cancel (m:=10) u)
 ·refine DG S (λH u d o=>?_) λu S=>(D (by rw[Nat.add_comm 10];exact λi=>u (Nat.add_right_cancel i))).trans ((lw c).trans (U S rfl))
  clear S lo D g a j b;subst u;refine U d (U o ?_);rw[Nat.add_comm];by_cases i:z=0
  ·subst i;exact mN (Nat.succ_ne_zero _)
  ·refine(iy (Nat.succ_ne_zero _) i).trans ?_;show view e w (k+10) z=_;refine U (lw c) (U d ?_);show gq k H z=gq k (eN H C y) z;unfold gq;exact U (cI i) rfl
end
theorem fz{N:Type}{T:Res N}{K:N}{Z:Nat->Nat->Option aj}{h:N->O->Prop}{D:Nat->Nat->O->Prop}(o:cC T K Z)(A:∀n,n.aw=Z->h K n):T.to h D:=
 dk (propext ⟨λI=>⟨rfl,rfl⟩,λI=>o⟩) A
section
variable{B:aa}{e:ar}{k:Nat->Option aj}
abbrev yb(B:aa)(e:ar)(k:Nat->Option aj)(d:aJ)(x N:V):Prop:=em (fS B e k N d x) (a3 (ez oE)) (view e (cE k N d x))
theorem Oy{d:aJ}{y:V}:∀Z∈lits,yb B e k d y Z.1:=by intro Z S;refine fE S ?_;repeat' (first|exact et|refine es ?_ ?_|kernel_rfl)
theorem Oz{d:aJ}{t y Z u:V}(j:t=bW\/t=cq):yb B e k d y (cQ (bH t) Z u):=by rcases j with rfl|rfl <;>kernel_rfl
theorem DI :∀Z∈lits,kf Z.1=false:=by intro Z S;refine fE S ?_;repeat' (first|exact et|refine es ?_ ?_|rfl)
theorem oG :∀d∈bM,aM (b2 d):=by intro d m;refine fE m ?_;repeat' (first|exact et|refine es ?_ ?_|exact trivial|constructor)
variable{h:V->O->Prop}{D:Nat->Nat->O->Prop}
theorem t2(l:TopOk B)(ok:LsOk e)(c:cV k){W f C:Nat}(b:f<e.Q.length){y H:V}(a:Val e.Q.length W y H){d:aJ}(X:bB C∈wants)(F:qW B e k (aV f) d y H f C)
  (Z:∀n,Left (jn e (match subB H (bB C) with|true=>b5 e.Q f C y|false=>e.Q)) (cE k (aV f) d y) n->h (match subB H (bB C) with|true=>bn y|false=>a3 (dF (bB C) y)) n):(jl B e k (aV f) d y).to h D:=by
 have g:cV (cE k (aV f) d y):=ji c;refine e7 F λs L S f2=>?_;clear F;refine fy (d:=0) ok ok (Nat.le_refl _) (Nat.le_refl _) g (lC hv a.flat) a.iz s.1 s.2.1 s.2.2 (λw I=>(j8 l ok a).le (by decide)) (fy (T:=qV B e k (aV f) d y H) (R:=.bool (subB H (bB C))) (d:=0) ok ok (Nat.le_refl _) (Nat.le_refl _) g (tV qU a.iz (gv _ X)) trivial L.1 L.2.1 L.2.2 (λw I=>(mL l a.e0 X).le (by decide)) ?_)
 show(x8 B e k (aV f) d y H (subB H (bB C))).to h D;generalize T:subB H (bB C)=K;induction K using ap with|false=>replace Z:=T▸Z;exact fz S λn j=>Z n (cx j)|true=>replace Z:=T▸Z;exact fz f2 λn j=>Z n (Ox b ok j)
set_option maxHeartbeats 4000000 in
theorem OA(l:TopOk B)(ok:LsOk e)(c:cV k){W:Nat}{N K y H:V}(TX:Val e.Q.length W N K)(w:Val e.Q.length W y H){d:aJ}(x:d∈bM)
  (T:∀n,Left (jn e (dA e.Q N d y H)) (cE k N d y) n->h (en N d y H) n):(fS B e k N d y).to h D:=by
 have Z:kf N=E->yb B e k d y N->(fS B e k N d y).to h D:=λj o=>by
  have TV:dA e.Q N d y H=e.Q:=by unfold dA;exact U j rfl
  have g:en N d y H=a3 (ez oE):=by unfold en;exact U j rfl
  rw[TV,g] at T;exact dk o λn j=>T n (cx j)
 induction TX using Val.casesOn with|lit j=>have u:=Oy (B:=B) (e:=e) (k:=k) (d:=d) (y:=y) _ j;exact Z (DI _ j) u|st j _ _=>exact Z rfl (Oz j)| @dh _ f b=>
  have TS:∀d,cV (cE k (aV f) d y):=λd=>ji c;obtain ⟨v,m,q,R,a,r⟩:=e;have o:=Ot (B:=B) (k:=k) (v:=v) (m:=m) (q:=q) (r:=r) (y:=y) (H:=H) (R:=R) ok.fR b;have F:DD B ⟨v,m,q,R,a,r⟩ k (aV f) y H f:=by refine U o ?_;exact Oq ..
  refine fW F λL UP Un Uf P=>?_;clear F;refine fW P λp S z T6 P=>e7 P λT8 f2 j3 Ue=>?_;have t:Val a.length W (aV f) cellK:=.dh b;have I:∀{C:Key},el B (fS B ⟨v,m,q,R,a,r⟩ k (aV f) (.sym C) y) 85 596 [.ref 1 865,aV f] (view ⟨v,m,q,R,a,r⟩ (cE k (aV f) (.sym C) y))->(jl B ⟨v,m,q,R,a,r⟩ k (aV f) (.sym C) y).to h D->(fS B ⟨v,m,q,R,a,r⟩ k (aV f) (.sym C) y).to h D:=λ{C} A j=>
   fy (d:=0) ok ok (Nat.le_refl _) (Nat.le_refl _) (TS _) (lC hv t.flat) xV A.1 A.2.1 A.2.2 (λTR TU=>(j8 l ok t).le (by decide)) j
  have s:bB 0∈wants:=by simp[wants,bB]
  have i:bB 1∈wants:=by simp[wants,bB]
  unfold bM at x;simp only[aW,p3,or_false] at x;rcases x with rfl|rfl|rfl|rfl|rfl|rfl|rfl|rfl
  ·refine I p (t2 l ok c b w s L λn j=>?_);have u:dA a (aV f) (.sym dU) y H=(match subB H (bB 0) with|true=>b5 a f 0 y|false=>a):=rfl
   have X:en (aV f) (.sym dU) y H=(match subB H (bB 0) with|true=>bn y|false=>a3 (dF (bB 0) y)):=rfl
   rw[u,X] at T;exact T n j
  ·refine I S (t2 l ok c b w i UP λn j=>?_);have u:dA a (aV f) (.sym d5) y H=(match subB H (bB 1) with|true=>b5 a f 1 y|false=>a):=rfl
   have X:en (aV f) (.sym d5) y H=(match subB H (bB 1) with|true=>bn y|false=>a3 (dF (bB 1) y)):=rfl
   rw[u,X] at T;exact T n j
  ·have u:dA a (aV f) (.sym d3) y H=a:=rfl;have X:en (aV f) (.sym d3) y H=a3 (ez (ke++d3)):=rfl;rw[u,X] at T;exact I z (fz T8 λn j=>T n (cx j))
  ·have u:dA a (aV f) (.sym gW) y H=a:=rfl;have X:en (aV f) (.sym gW) y H=a3 (ez (ke++gW)):=rfl;rw[u,X] at T;exact I T6 (fz f2 λn j=>T n (cx j))
  ·have u:dA a (aV f) (.num 0) y H=a:=rfl;have X:en (aV f) (.num 0) y H=a3 (jk (aV f) (b2 (.num 0))):=rfl;rw[u,X] at T;exact fz j3 λn j=>T n (cx j)
  ·refine t2 l ok c b w s Un λn j=>?_;have u:dA a (aV f) (.num 1) y H=(match subB H (bB 0) with|true=>b5 a f 0 y|false=>a):=rfl
   have X:en (aV f) (.num 1) y H=(match subB H (bB 0) with|true=>bn y|false=>a3 (dF (bB 0) y)):=rfl
   rw[u,X] at T;exact T n j
  ·refine t2 l ok c b w i Uf λn j=>?_;have u:dA a (aV f) (.num 2) y H=(match subB H (bB 1) with|true=>b5 a f 1 y|false=>a):=rfl
   have X:en (aV f) (.num 2) y H=(match subB H (bB 1) with|true=>bn y|false=>a3 (dF (bB 1) y)):=rfl
   rw[u,X] at T;exact T n j
  ·have u:dA a (aV f) (.num 3) y H=a:=rfl;have X:en (aV f) (.num 3) y H=a3 (jk (aV f) (b2 (.num 3))):=rfl;rw[u,X] at T;exact fz Ue λn j=>T n (cx j)
theorem OB(R:TopOk B)(ok:LsOk e){w:Nat->Option aj}(C:cV w){W:Nat}{N K y H:V}(Z:Val e.Q.length W N K)(a:Val e.Q.length W y H){d:aJ}(m:d∈bM)(F:w 0=Y (.list [N,b2 d,y])):
  Spec B 100 (.glob (.ref 959)) [.glob (.ref 683),.ref 1 865,.ref 7 0] ⟨.nil,0,0,view e w⟩ λT n=>T=en N d y H/\Left (jn e (dA e.Q N d y H)) w n:=by
 have S:w=cE (λf=>w (f+1)) N d y:=by
  funext f;induction f using Nat.casesOn with|zero=>exact F|succ f=>rfl
 exact U S (Spec.of R ek 300 20 (OA R ok (λf r j=>C (f+1) r j) Z a m λn j=>⟨rfl,j⟩))
end
def lF :List aJ->(aJ->Prop)->Prop
 | [],_=>True|A::T,P=>P A/\lF T P
theorem DJ{P:aJ->Prop}:∀{g:List aJ} {A:aJ},lF g P->A∈g->P A:=by
 intro s;induction s with|nil=>intro I I j;cases j|cons v T F=>
  intro A j z;rcases aW.mp z with rfl|z
  ·exact j.1
  ·exact F j.2 z
theorem DK{P:aJ->Prop}:∀{g:List aJ},(∀A,P A)->lF g P:=by
 intro s;induction s with|nil=>intro I;exact trivial|cons v T F=>intro j;exact⟨j v,F j⟩
noncomputable def OC :Nat⊕V->V
 |.inl C=>.int (.ofNat C)|.inr o=>o
section
variable{B:aa}{e:ar}{w:Nat->Option aj}
def OD(B:aa)(e:ar)(w:Nat->Option aj)(N:V)(d:aJ):Res V:=c7 (di B) c8 300 20 (.glob (.ref 938)) [N,b2 d,.ref 2 2] ⟨.nil,0,0,view e w⟩
def mW(P:List (V×V))(N:V)(d:aJ):V:=OC (fj (oD N) (dO P N).length N d)
def qX(B:aa)(e:ar)(w:Nat->Option aj)(N:V):Prop:=lF bM λd=>cC (OD B e w N d) (mW e.P N d) (view e w)
def qY(e:ar)(w:Nat->Option aj)(N:V):Prop:=lF bM λd=>jm (mW e.P N d) (view e w)
theorem spT{N:V}:qY e w N:=DK λI=>⟨rfl,rfl⟩
theorem OE :∀Z∈lits,qX B e w Z.1=qY e w Z.1:=by intro Z S;refine fE S ?_;repeat' (first|exact et|refine es ?_ ?_|kernel_rfl)
theorem OF{y Z u:V}(j:y=bW\/y=cq):qX B e w (cQ (bH y) Z u)=qY e w (cQ (bH y) Z u):=by rcases j with rfl|rfl <;>kernel_rfl
end
section
variable{B:aa}{w k:Nat->Option aj}{v m:Nat}{q r:List V}
abbrev yc(B:aa)(w:Nat->Option aj)(v m:Nat)(q r:List V)(a P:List (V×V))(f:Nat):Prop:=qX B ⟨v,m,q,P,a,r⟩ w (aV f)=qY ⟨v,m,q,P,a,r⟩ w (aV f)
set_option tactic.hygienic true in
theorem OG{a P:List (V×V)}(j:P.length<=8){f:Nat}(b:f<P.length):yc B w v m q r a P f:=by
 revert b;refine ix (a:=λP=>f<P.length->yc B w v m q r a P f) j (λb=>absurd b (Nat.not_lt_zero _)) ?_ ?_ ?_ ?_ ?_ ?_ ?_ ?_ <;>intros <;>(rename_i b;revert b;intro b)
 all_goals
  simp only[h9,xL,Nat.zero_add,Nat.reduceAdd] at b
  repeat (refine ly (a:=λf=>yc B w v m q r a _ f) b (λb=>?_) (by kernel_rfl))
  exact absurd b (Nat.not_lt_zero _)
theorem OH(R:TopOk B){e:ar}(ok:LsOk e){W:Nat}{N K:V}(Z:Val e.P.length W N K){d:aJ}(x:d∈bM):Spec B 100 (.glob (.ref 938)) [N,b2 d,.ref 2 2] ⟨.nil,0,0,view e w⟩ λT b=>T=mW e.P N d/\Left e w b:=by
 have p:qX B e w N=qY e w N->Spec B 100 (.glob (.ref 938)) [N,b2 d,.ref 2 2] ⟨.nil,0,0,view e w⟩ λT b=>T=mW e.P N d/\Left e w b:=λo=>by
  have F:qX B e w N:=by refine U o ?_;exact spT
  exact Spec.of R c8 300 20 (fz (DJ F x) λb j=>⟨rfl,cx j⟩)
 induction Z using Val.casesOn with|lit j=>replace u:=OE (B:=B) (e:=e) (w:=w) _ j;exact p u|st j _ _=>exact p (OF j)|dh j=>obtain ⟨v,m,q,P,a,r⟩:=e;exact p (OG ok.n j)
section
variable(B:aa)(e:ar)(w:Nat->Option aj)(N:V)(d:aJ)(y:V)
def lG :Res V:=c7 (di B) gw 300 20 (.glob (.ref 952)) [N,b2 d,y,.ref 2 2] ⟨.nil,0,0,view e w⟩
def yd(m:Bool):Res V:=(lG B e w N d y).cw (.bool m) (dy (lG B e w N d y) e w)
def qZ(f C:Nat):Nat->Nat->Option aj:=((⟨.nil,0,0,view e w⟩:O).set (20+f) 0 (Y (.list (match bN e.P f with|some p=> [(eN p C y).1,(eN p C y).2]|none=> [])))).aw
def ye(f:Nat):Prop:=match fj [dU,d5] 2 N d with
 |.inl C=>el B (lG B e w N d y) 95 903 [y,bB C,.ref 2 2] (view e w)/\cC (yd B e w N d y E) (a3 (dF (bB C) y)) (view e w)/\cC (yd B e w N d y M) (bn y) (qZ e w y f C)|.inr o=>cC (lG B e w N d y) o (view e w)
def yf(f:Nat):Prop:=match fj [dU,d5] 2 N d with
 |.inl C=>mV B (lG B e w N d y) 95 903 [y,bB C,.ref 2 2] (view e w)/\jm (a3 (dF (bB C) y)) (view e w)/\jm (bn y) (qZ e w y f C)|.inr o=>jm o (view e w)
theorem OI{f:Nat}:yf B e w N d y f:=by
 unfold yf;cases fj [dU,d5] 2 N d with|inl C=>exact bP (aQ rfl rfl rfl) ⟨rfl,rfl⟩ rfl rfl|inr o=>exact⟨rfl,rfl⟩
end
abbrev yg(B:aa)(w:Nat->Option aj)(v m:Nat)(q r:List V)(y:V)(a P:List (V×V))(f:Nat):Prop:=(lF bM λd=>ye B ⟨v,m,q,P,a,r⟩ w (aV f) d y f)=lF bM λd=>yf B ⟨v,m,q,P,a,r⟩ w (aV f) d y f
set_option tactic.hygienic true in
theorem OJ{y:V}{a P:List (V×V)}(j:P.length<=8){f:Nat}(b:f<P.length):yg B w v m q r y a P f:=by
 revert b;refine ix (a:=λP=>f<P.length->yg B w v m q r y a P f) j (λb=>absurd b (Nat.not_lt_zero _)) ?_ ?_ ?_ ?_ ?_ ?_ ?_ ?_ <;>intros <;>(rename_i b;revert b;intro b)
 all_goals
  simp only[h9,xL,Nat.zero_add,Nat.reduceAdd] at b
  repeat (refine ly (a:=λf=>yg B w v m q r y a _ f) b (λb=>?_) (by kernel_rfl))
  exact absurd b (Nat.not_lt_zero _)
abbrev yh(B:aa)(e:ar)(w:Nat->Option aj)(y N:V):Prop:=∀d,em (lG B e w N d y) (a3 (ez oE)) (view e w)
theorem OK{e:ar}{y:V}:∀Z∈lits,yh B e w y Z.1:=by intro Z S d;refine fE S ?_;repeat' (first|exact et|refine es ?_ ?_|kernel_rfl)
theorem OL{e:ar}{t y Z u:V}(j:t=bW\/t=cq):yh B e w y (cQ (bH t) Z u):=by intro d;rcases j with rfl|rfl <;>kernel_rfl
end
section
variable{B:aa}{e:ar}{w:Nat->Option aj}
noncomputable abbrev lH(e:ar)(c:List (V×V)):ar:={e with P:=c}
theorem OM{f C:Nat}{y:V}(ok:LsOk e)(X:aM y):LsOk (lH e (b5 e.P f C y)):=
 ⟨by show(b5 e.P f C y).length<=8;refine U oF ?_;exact ok.n,ok.fR,ok.held,ok.sc,λZ S=>by
  rcases ya S with j|⟨u,j,rfl⟩
  ·exact ok.p Z j
  ·exact DF (ok.p u j) X,ok.q⟩
theorem ON{f C:Nat}{y:V}(b:f<e.P.length){n:O}(j:n.aw=qZ e w y f C):Left (lH e (b5 e.P f C y)) w n:=by
 have a:20+f≠0:=by rw[Nat.add_comm];exact Nat.succ_ne_zero _
 have D:∀{A z},A≠20+f->qZ e w y f C A z=view e w A z:=λq=>e1 a q;have lo:∀{A},A<20->A≠20+f:=λj=>Nat.ne_of_lt (Nat.lt_of_lt_of_le j (Nat.le_add_right 20 _));refine tN j (λz=>D (lo (by decide))) (λz=>D (lo (by decide))) (λz=>(D (lo (by decide))).trans (NQ (e:=e) (W:=lH e (b5 e.P f C y)) rfl rfl rfl rfl oF).symm) (λk Z z S=>?_) λk Z z c S=>(D (lo (Nat.add_lt_add_right c 10))).trans ((lw c).trans (U (show bN e.Q k=Y Z from S) rfl))
 refine DG S (λH u d o=>?_) λu S=>(D (by rw[Nat.add_comm 20];exact λi=>u (Nat.add_right_cancel i))).trans (lv.trans (U S rfl))
 clear S lo D a j b;subst u;unfold qZ;refine U d (U o ?_);rw[Nat.add_comm];by_cases i:z=0
 ·subst i;exact mN (Nat.succ_ne_zero _)
 ·refine(iy (Nat.succ_ne_zero _) i).trans ?_;show view e w (k+20) z=_;refine U lv (U d ?_);show gr H z=gr (eN H C y) z;unfold gr;exact U (cI i) rfl
variable{h:V->O->Prop}{D:Nat->Nat->O->Prop}
set_option maxHeartbeats 4000000 in
theorem OO(l:TopOk B)(ok:LsOk e)(t:cV w){L W:Nat}{N K y H:V}(k:Val e.P.length W N K)(I:Val L W y H){d:aJ}(x:d∈bM)
  (Q:∀b,Left (lH e (dA e.P N d y H)) w b->h (en N d y H) b):(lG B e w N d y).to h D:=by
 have c:kf N=E->yh B e w y N->(lG B e w N d y).to h D:=λj o=>by
  have z:dA e.P N d y H=e.P:=by unfold dA;exact U j rfl
  have g:en N d y H=a3 (ez oE):=by unfold en;exact U j rfl
  replace Q:=z▸Q;replace Q:=g▸Q;exact dk (o d) λb j=>Q b (cx j)
 cases k with|lit j=>have u:=OK (B:=B) (e:=e) (w:=w) (y:=y) _ j;exact c (DI _ j) u| @st _ TS Z u _ _ j _ _=>have i:=OL (B:=B) (e:=e) (w:=w) (y:=y) (Z:=Z) (u:=u) j;exact c rfl i| @dh _ f s=>
  obtain ⟨v,m,q,P,a,r⟩:=e;have o:=OJ (B:=B) (w:=w) (v:=v) (m:=m) (q:=q) (r:=r) (y:=y) (a:=a) ok.n s;have F:lF bM λd=>ye B ⟨v,m,q,P,a,r⟩ w (aV f) d y f:=by refine U o ?_;exact DK λd=>OI ..
  replace F:=DJ F x;have z:dA P (aV f) d y H=match fj [dU,d5] 2 (aV f) d with
   |.inr _=>P|.inl C=>match subB H (bB C) with
    |true=>b5 P f C y|false=>P:=rfl
  have g:en (aV f) d y H=match fj [dU,d5] 2 (aV f) d with
   |.inr o=>o|.inl C=>match subB H (bB C) with
    |true=>bn y|false=>a3 (dF (bB C) y):=rfl
  unfold ye at F;replace Q:=z▸Q;replace Q:=g▸Q;cases u:fj [dU,d5] 2 (aV f) d with|inr o=>replace F:=u▸F;replace Q:=u▸Q;exact fz F λb j=>Q b (cx j)|inl C=>
   replace F:=u▸F;replace Q:=u▸Q;replace Q:∀b,Left (lH ⟨v,m,q,P,a,r⟩ (match subB H (bB C) with|true=>b5 P f C y|false=>P)) w b->h (match subB H (bB C) with|true=>bn y|false=>a3 (dF (bB C) y)) b:=Q
   refine br F λS T8 f2=>?_;clear F;have X:bB C∈wants:=by unfold bB;generalize (Nat.beq C 0)=p;induction p using ap <;>simp[wants]
   refine fy (R:=.bool (subB H (bB C))) (d:=0) ok ok (Nat.le_refl _) (Nat.le_refl _) t (λTX A=>?_) trivial S.1 S.2.1 S.2.2 (λw TR=>(oy l I X).le (by decide)) ?_
   ·rcases aW.mp A with rfl|A
    ·exact .flat I.flat
    ·rcases aW.mp A with rfl|A
     ·exact .flat (gv _ X)
     ·exact U (cy.mp A) (.own (by kernel_rfl))
   ·show(yd B ⟨v,m,q,P,a,r⟩ w (aV f) d y (subB H (bB C))).to h D;generalize T:(subB H (bB C))=p;induction p using ap with|false=>replace Q:=T▸Q;exact fz T8 λb j=>Q b (cx j)|true=>replace Q:=T▸Q;exact fz f2 λb j=>Q b (ON s j)
theorem OP(R:TopOk B)(ok:LsOk e)(C:cV w){L W:Nat}{N K y H:V}(Z:Val e.P.length W N K)(a:Val L W y H){d:aJ}(m:d∈bM):
  Spec B 100 (.glob (.ref 952)) [N,b2 d,y,.ref 2 2] ⟨.nil,0,0,view e w⟩ λT n=>T=en N d y H/\Left (lH e (dA e.P N d y H)) w n:=
 Spec.of R gw 300 20 (OO R ok C Z a m λn j=>⟨rfl,j⟩)
end
noncomputable def oH(m:Nat):Nat:=(m*39373+17)%2147483647
def bo(v m z:Nat):Nat:=match v with
 |0=>oH m/128%z|v+1=>(v+1)%z
noncomputable def mX(v z:Nat):Nat:=match v with
 |0=>0|v+1=>(v+1)/z
def mY(v m:Nat):Nat:=match v with
 |0=>oH m|_+1=>m
section
variable{B:aa}{w:Nat->Option aj}{m:Nat}{q r:List V}{P a:List (V×V)}
def DL(B:aa)(e:ar)(w:Nat->Option aj)(z:Nat):Res V:=c7 (di B) c8 300 6 (.glob (.ref 877)) [.ref 2 0,.int (.ofNat z)] ⟨.nil,0,0,view e w⟩
def t3(e:ar)(w:Nat->Option aj)(a:Nat)(x:List V):Nat->Nat->Option aj:=((⟨.nil,0,0,view e w⟩:O).set 2 0 (Y (.list x))).aw
def DM(m z:Nat):Int:=yi (Int.fdiv (.ofNat (oH m)) (.ofNat 128)) (.ofNat z)
theorem OQ(v m:Nat):Int.fdiv (.ofNat v) (.ofNat (m+1))=.ofNat (v/(m+1)):=by
 induction v using Nat.casesOn with|zero=>exact congrArg hI (Nat.zero_div _).symm|succ v=>rfl
theorem DN(v m:Nat):yi (.ofNat v) (.ofNat m)=.ofNat (v%m):=by
 induction v using Nat.casesOn with|zero=>exact congrArg hI (Nat.zero_mod _).symm|succ v=>rfl
theorem OR{m z:Nat}:DM m z=.ofNat (oH m/128%z):=
 (congrArg (λy=>yi y (.ofNat z)) (OQ (oH m) 127)).trans (DN _ _)
abbrev yj(B:aa)(e:ar)(w:Nat->Option aj)(v z:Nat):Prop:=em (DL B e w z) (.int (.ofNat ((v+1)%z))) (t3 e w 0 [.int (.ofNat ((v+1)/z)),.int (.ofNat e.b)])
abbrev yk(B:aa)(e:ar)(w:Nat->Option aj)(z:Nat):Prop:=em (DL B e w z) (.int (DM e.b z)) (t3 e w 0 [.int (.ofNat 0),.int (.ofNat (oH e.b))])
theorem OS{v z:Nat}(j:z<15):yj B ⟨v+1,m,q,P,a,r⟩ w v (z+1):=by
 refine ly (a:=λz=>yj B ⟨v+1,m,q,P,a,r⟩ w v (z+1)) j (λj=>?_) (by kernel_rfl)
 repeat (refine ly (a:=λz=>yj B ⟨v+1,m,q,P,a,r⟩ w v (z+1)) j (λj=>?_) (by kernel_rfl))
 exact absurd j (Nat.not_lt_zero _)
theorem OT{z:Nat}(j:z<15):yk B ⟨0,m,q,P,a,r⟩ w (z+1):=by
 refine ly (a:=λz=>yk B ⟨0,m,q,P,a,r⟩ w (z+1)) j (λj=>?_) (by kernel_rfl)
 repeat (refine ly (a:=λz=>yk B ⟨0,m,q,P,a,r⟩ w (z+1)) j (λj=>?_) (by kernel_rfl))
 exact absurd j (Nat.not_lt_zero _)
end
section
variable{B:aa}{e:ar}{w:Nat->Option aj}
noncomputable abbrev mZ(e:ar)(v m:Nat):ar:={e with a:=v,b:=m}
theorem DO{v m:Nat}{n:O}(j:n.aw=t3 e w 0 [.int (.ofNat v),.int (.ofNat m)]):Left (mZ e v m) w n:=by
 have b:∀A C,A≠0->n.get A C=if A=2/\C=0 then Y (.list [.int (.ofNat v),.int (.ofNat m)]) else view e w A C:=λA C d=>by refine U (h2 d) (U j ?_);unfold t3;refine U (h2 d).symm ?_;rw[O.get_set _ _ _ _ (λu=>by cases u)];exact U (eL d) rfl
 refine⟨λA C r R o=>?_,λC=>?_⟩
 ·refine U (b A C (eK R).1) ?_;by_cases K:A=2
  ·clear R;subst K;by_cases a:C=0
   ·subst a;exact U (if_pos ⟨rfl,rfl⟩) o
   ·refine U (if_neg (λi=>a i.2)) ?_;replace o:d4 (mZ e v m) C=Y r:=o;show d4 e C=_;unfold d4 at o⊢;rw[cI a] at o⊢;exact o
  ·refine U (if_neg (λi=>K i.1)) ?_;have H:Nat.beq A 2=false:=by rw[bl.cH];exact decide_eq_false K
   unfold view at o⊢;rw[H] at o⊢;exact o
 ·refine U (b 7 C (λi=>by cases i)) (U (if_neg (λi=>by cases i.1)) ?_)
  rfl
theorem DP(R:TopOk B){z:Nat}(H:0<z)(j:z<=15):Spec B 30 (.glob (.ref 877)) [.ref 2 0,.int (.ofNat z)] ⟨.nil,0,0,view e w⟩ λT n=>T=.int (.ofNat (bo e.a e.b z))/\Left (mZ e (mX e.a z) (mY e.a e.b)) w n:=by
 obtain ⟨z,rfl⟩:∃A,z=A+1:=by first|exact Nat.exists_eq_succ_of_ne_zero ‹_› |exact kB ‹_› |exact⟨z-1,by lia⟩
 obtain ⟨v,m,q,P,x,r⟩:=e;induction v using Nat.casesOn with|zero=>have u:=OT (B:=B) (w:=w) (m:=m) (q:=q) (r:=r) (P:=P) (a:=x) (Nat.lt_of_succ_le j);refine Spec.of R c8 300 6 (dk u λn j=>⟨?_,DO j⟩);exact congrArg V.int OR|succ v=>have u:=OS (B:=B) (w:=w) (v:=v) (m:=m) (q:=q) (r:=r) (P:=P) (a:=x) (Nat.lt_of_succ_le j);exact Spec.of R c8 300 6 (dk u λn j=>⟨rfl,DO j⟩)
theorem h3{v m z:Nat}(j:0<z):bo v m z<z:=by
 induction v using Nat.casesOn with|zero=>exact Nat.mod_lt _ j|succ v=>exact Nat.mod_lt _ j
end
section
variable{B:aa}{e:ar}{w:Nat->Option aj}
def oI :Nat->Bool:=λv=>c5 v [877]
def eo(q:List V):List V:=vInt cD 5::vInt mJ 7::vBool M::ey [97,98]::vInt cD (-1)::h1 [vInt cD 1,ey [99]]::h1 []::q
def t4(B:aa)(e:ar)(w:Nat->Option aj):Res V:=c7 (di B) oI 300 20 (.glob (.ref 891)) [.ref 2 0,.ref 2 1] ⟨.nil,0,0,view e w⟩
def OU(B:aa)(e W:ar)(w:Nat->Option aj)(f:Nat):Res V:=(t4 B e w).cw (.int (.ofNat f)) (dy (t4 B e w) W w)
structure yl(B:aa)(e ls':ar)(w:Nat->Option aj):Prop where
 a:el B (t4 B e w) 95 877 [.ref 2 0,.int (.ofNat (eo e.held).length)] (view e w)
 f:allI (eo e.held).length (λi=>cC (OU B e ls' w i) (d6 (eo e.held) i) (view ls' w))=allI (eo e.held).length (λi=>d6 (eo e.held) i=d6 (eo e.held) i/\view ls' w=view ls' w)
theorem OV{v m Z K:Nat}{q r:List V}{P a:List (V×V)}(j:q.length<=7):yl B ⟨v,m,q,P,a,r⟩ ⟨Z,K,q,P,a,r⟩ w:=
 mM (a:=λq=>yl B ⟨v,m,q,P,a,r⟩ ⟨Z,K,q,P,a,r⟩ w) j ⟨aQ (by kernel_rfl) (by kernel_rfl) (by kernel_rfl),by kernel_rfl⟩ (by intros;exact⟨aQ (by kernel_rfl) (by kernel_rfl) (by kernel_rfl),by kernel_rfl⟩) (by intros;exact⟨aQ (by kernel_rfl) (by kernel_rfl) (by kernel_rfl),by kernel_rfl⟩) (by intros;exact⟨aQ (by kernel_rfl) (by kernel_rfl) (by kernel_rfl),by kernel_rfl⟩) (by intros;exact⟨aQ (by kernel_rfl) (by kernel_rfl) (by kernel_rfl),by kernel_rfl⟩) (by intros;exact⟨aQ (by kernel_rfl) (by kernel_rfl) (by kernel_rfl),by kernel_rfl⟩) (by intros;exact⟨aQ (by kernel_rfl) (by kernel_rfl) (by kernel_rfl),by kernel_rfl⟩) (by intros;exact⟨aQ (by kernel_rfl) (by kernel_rfl) (by kernel_rfl),by kernel_rfl⟩)
end
section
variable{B:aa}{e:ar}{w:Nat->Option aj}
theorem h4{v m:Nat}(ok:LsOk e):LsOk (mZ e v m):=⟨ok.n,ok.fR,ok.held,ok.sc,ok.p,ok.q⟩
abbrev drawn(e:ar)(z:Nat):ar:=mZ e (mX e.a z) (mY e.a e.b)
def dH(e:ar):V:=d6 (eo e.held) (bo e.a e.b (eo e.held).length)
theorem OW{q:List V}:(eo q).length=q.length+7:=rfl
theorem OX{q:List V}(j:∀N∈q,aM N):∀N∈eo q,aM N:=by
 intro N i;unfold eo at i;simp only[aW] at i;rcases i with rfl|rfl|rfl|rfl|rfl|rfl|rfl|i
 case inr.inr.inr.inr.inr.inr.inr=>exact j N i
 all_goals repeat' (first|exact trivial|constructor)
theorem ym{g:List V}{C:Nat}(j:C<g.length):d6 g C∈g:=by unfold d6;refine U (kI j) ?_;exact Cp j
theorem OY(l:TopOk B)(ok:LsOk e)(Z:e.held.length<=7)(C:cV w):Spec B 100 (.glob (.ref 891)) [.ref 2 0,.ref 2 1] ⟨.nil,0,0,view e w⟩ λT n=>T=dH e/\Left (drawn e (eo e.held).length) w n:=by
 have F:yl B e (drawn e (eo e.held).length) w:=by clear ok;obtain ⟨v,m,q,P,x,r⟩:=e;exact OV Z
 have d:0<(eo e.held).length:=Nat.succ_pos _;have hd:bo e.a e.b (eo e.held).length<(eo e.held).length:=h3 d;refine Spec.of l oI 300 20 ?_;show(t4 B e w).to _ _;refine fy (S:=95) (W:=drawn e (eo e.held).length) (R:=.int (.ofNat (bo e.a e.b (eo e.held).length))) (d:=0) ok (h4 ok) (Nat.le_refl _) (Nat.le_refl _) C (λQ A=>?_) trivial F.a.1 F.a.2.1 F.a.2.2 (λw I=>Spec.le (k:=95) (DP l d (by refine U OW ?_;lia)) (by decide)) ?_
 ·rcases aW.mp A with rfl|A
  ·exact .own (by kernel_rfl)
  ·exact U (cy.mp A) (.flat trivial)
 ·have u:=eA (F.f.mpr (eM (λc=>⟨rfl,rfl⟩) _)) hd;exact fz u λn j=>⟨rfl,cx j⟩
theorem q0{L W:Nat}(j:∀N∈e.held,∃K,Val L W N K):∃K,Val L W (dH e) K:=by
 have z:dH e∈eo e.held:=ym (h3 (Nat.succ_pos _));generalize dH e=N at z⊢;unfold eo at z;simp only[aW] at z;rcases z with rfl|rfl|rfl|rfl|rfl|rfl|rfl|z
 case inr.inr.inr.inr.inr.inr.inr=>exact j N z
 all_goals exact⟨_,.lit (by repeat (first|exact gf|apply gO))⟩
end
inductive cv
 |one (x:V)
 |two (x Kx y aJ:V)
 |three (x y z:V)
noncomputable def cv.l(p:cv):List V:=match p with
 |.one x=> [x]|.two x _ X _=> [x,X]|.three x X i=> [x,X,i]
def cv.dm(p:cv)(A:cr)(L:Nat):V:=match p with
 |.two x H X aJ=>qS A L x H X aJ|_=>a3 (ez (qR++A.nm))
def cv.dn(p:cv)(A:cr)(e:ar):ar:=match p with
 |.two x H X aJ=>xU A e H aJ x X|_=>e
def cv.fk(p:cv)(A:cr)(e:ar):ar:=match p with
 |.two x H X aJ=>xX A e H aJ x X|_=>e
def cv.ok(p:cv)(L W:Nat):Prop:=match p with
 |.two x H X aJ=>Val L W x H/\Val L W X aJ|_=>True
section
variable{B:aa}{e:ar}{w:Nat->Option aj}
theorem kg{g:List V}(F:w 0=Y (.list g)):w=bI g λf=>w (f+1):=by
 funext f;induction f using Nat.casesOn with|zero=>exact F|succ f=>rfl
theorem oJ(C:cV w):cV λf=>w (f+1):=λf r j=>C (f+1) r j
theorem OZ(R:TopOk B)(ok:LsOk e)(c:e.Q.length<=7)(C:cV w){W:Nat}{Z:cv}(S:Z.ok e.Q.length W){A:cr}(m:A∈e2)(F:w 0=Y (.list (cj A.K::Z.l))):
  Spec B 100 (.glob (.ref 959)) [.glob (.ref 704),.ref 1 865,.ref 7 0] ⟨.nil,0,0,view e w⟩ λT n=>T=Z.dm A e.Q.length/\Left (Z.dn A e) w n:=by
 have a:=oJ C;have o:=kg F;generalize (λf=>w (f+1))=k at a o;subst o;refine Spec.of R ek 300 20 ?_;cases Z with|one y=>have u:=NY (B:=B) (e:=e) (k:=k) A m y;exact dk u λn j=>⟨rfl,cx j⟩|two y H X aJ=>exact N6 R ok c a S.1 S.2 m λn j=>⟨rfl,j⟩|three y X i=>have u:=NZ (B:=B) (e:=e) (k:=k) A m y X i;exact dk u λn j=>⟨rfl,cx j⟩
theorem O0(R:TopOk B)(ok:LsOk e)(c:e.P.length<=7)(C:cV w){L W:Nat}{Z:cv}(S:Z.ok L W){A:cr}(m:A∈e2)(F:w 0=Y (.list Z.l)):
  Spec B 100 (.glob (.ref 945)) [A.K,.ref 7 0,.ref 2 2] ⟨.nil,0,0,view e w⟩ λT n=>T=Z.dm A e.P.length/\Left (Z.fk A e) w n:=by
 have a:=oJ C;have o:=kg F;generalize (λf=>w (f+1))=k at a o;subst o;refine Spec.of R gw 300 20 ?_;cases Z with|one y=>have u:=N8 (B:=B) (e:=e) (k:=k) A m y;exact dk u λn j=>⟨rfl,cx j⟩|two y H X aJ=>exact Of R ok c a S.1 S.2 m λn j=>⟨rfl,j⟩|three y X i=>have u:=N9 (B:=B) (e:=e) (k:=k) A m y X i;exact dk u λn j=>⟨rfl,cx j⟩
end
section
variable{B:aa}{e:ar}{c k:Nat->Option aj}
def t5(B:aa)(e:ar)(k:Nat->Option aj)(N:V):Res V:=c7 (di B) ek 300 18 (.glob (.ref 624)) [.ref 1 865,.ref 7 0] ⟨.nil,0,0,view e (bI [N] k)⟩
def O1(B:aa)(e:ar)(k:Nat->Option aj)(N K:V):Res V:=(t5 B e k N).cw K (dy (t5 B e k N) e (bI [N] k))
structure O2(B:aa)(e:ar)(k:Nat->Option aj)(v K:V):Prop where
 a:el B (t5 B e k v) 85 596 [.ref 1 865,v] (view e (bI [v] k))
 f:em (O1 B e k v K) (cj K) (view e (bI [v] k))
theorem O3{N K:V}:O2 B e k N K:=⟨aQ (by kernel_rfl) (by kernel_rfl) (by kernel_rfl),by kernel_rfl⟩
theorem yn{N:V}(i:aM N):∀c∈[V.ref 1 865,N],dx c:=λc A=>by
 rcases aW.mp A with rfl|A
 ·exact .mP (by kernel_rfl)
 ·exact U (cy.mp A) (.flat i)
theorem O4(l:TopOk B)(ok:LsOk e)(C:cV c){W:Nat}{N K:V}(Z:Val e.Q.length W N K)(b:aM K)(F:c 0=Y (.list [N])):
  Spec B 90 (.glob (.ref 624)) [.ref 1 865,.ref 7 0] ⟨.nil,0,0,view e c⟩ λT n=>T=cj K/\Left e c n:=by
 have a:=oJ C;have o:=kg F;generalize (λf=>c (f+1))=k at a o;clear F C;subst o;obtain ⟨v,S⟩:=O3 (B:=B) (e:=e) (k:=k) (N:=N) (K:=K);refine Spec.of l ek 300 18 ?_;show(t5 B e k N).to _ _;exact fy (S:=85) (W:=e) (R:=K) (d:=0) ok ok (Nat.le_refl _) (Nat.le_refl _) (ji a) (yn Z.flat) b v.1 v.2.1 v.2.2 (λc I=>Spec.le (k:=85) (j8 l ok Z) (by decide)) (dk S λn j=>⟨rfl,cx j⟩)
def t6(B:aa)(e:ar)(k:Nat->Option aj)(N t:V):Res V:=c7 (di B) ek 300 18 (.glob (.ref 631)) [.ref 1 865,.ref 7 0] ⟨.nil,0,0,view e (bI [N,cj t] k)⟩
def m0(B:aa)(e:ar)(k:Nat->Option aj)(N t K:V):Res V:=(t6 B e k N t).cw K (dy (t6 B e k N t) e (bI [N,cj t] k))
def O5(B:aa)(e:ar)(k:Nat->Option aj)(N t K:V)(m:Bool):Res V:=(m0 B e k N t K).cw (.bool m) (dy (m0 B e k N t K) e (bI [N,cj t] k))
structure O6(B:aa)(e:ar)(k:Nat->Option aj)(v w K:V):Prop where
 a:el B (t6 B e k v w) 85 596 [.ref 1 865,v] (view e (bI [v,cj w] k))
 a1:el B (m0 B e k v w K) 85 499 [.ref 1 0,K,w] (view e (bI [v,cj w] k))
 f:∀b,em (O5 B e k v w K b) (vBool b) (view e (bI [v,cj w] k))
theorem O7{N t K:V}(q:t=dE\/t=cq):O6 B e k N t K:=by rcases q with rfl|rfl <;>exact⟨aQ (by kernel_rfl) (by kernel_rfl) (by kernel_rfl),aQ (by kernel_rfl) (by kernel_rfl) (by kernel_rfl),λm=>by induction m using ap <;>kernel_rfl⟩
theorem DQ(l:TopOk B)(ok:LsOk e)(C:cV c){W:Nat}{N K t:V}(Z:Val e.Q.length W N K)(b:aM K)(h:K∈e0)(q:t=dE\/t=cq)(F:c 0=Y (.list [N,cj t])):
  Spec B 90 (.glob (.ref 631)) [.ref 1 865,.ref 7 0] ⟨.nil,0,0,view e c⟩ λT n=>T=vBool (subB K t)/\Left e c n:=by
 have a:=oJ C;have o:=kg F;generalize (λf=>c (f+1))=k at a o;subst o;have d:t∈wants:=by unfold wants;rcases q with rfl|rfl <;>simp
 obtain ⟨v,s,S⟩:=O7 (B:=B) (e:=e) (k:=k) (N:=N) (K:=K) q;refine Spec.of l ek 300 18 ?_;show(t6 B e k N t).to _ _;refine fy (S:=85) (W:=e) (R:=K) (d:=0) ok ok (Nat.le_refl _) (Nat.le_refl _) (ji a) (yn Z.flat) b v.1 v.2.1 v.2.2 (λc I=>Spec.le (k:=85) (j8 l ok Z) (by decide)) ?_
 show(m0 B e k N t K).to _ _;refine fy (S:=85) (W:=e) (R:=.bool (subB K t)) (d:=0) ok ok (Nat.le_refl _) (Nat.le_refl _) (ji a) (λu A=>?_) trivial s.1 s.2.1 s.2.2 (λc I=>Spec.le (k:=85) (mL l h d) (by decide)) ?_
 ·rcases aW.mp A with rfl|A
  ·exact .mP (by kernel_rfl)
  ·rcases aW.mp A with rfl|A
   ·exact .flat b
   ·rw[cy.mp A];exact .flat (gv _ d)
 ·exact dk (S _) λn j=>⟨rfl,cx j⟩
end
section
variable{B:aa}{e:ar}{w k:Nat->Option aj}
def O8(N:V):V:=.tup [.str [115,116,114,117,99,116],a6 [84,121,112,101,69,114,114,111,114],.tup [xR [116,121,112,101,97,115,115,101,114,116],cj dE,N]]
def t7(B:aa)(e:ar)(k:Nat->Option aj)(N:V):Res V:=c7 (di B) ek 300 20 (.glob (.ref 959)) [.glob (.ref 638),.ref 1 865,.ref 7 0] ⟨.nil,0,0,view e (bI [N,cj dE] k)⟩
def t8(B:aa)(e:ar)(k:Nat->Option aj)(N K:V):Res V:=(t7 B e k N).cw K (dy (t7 B e k N) e (bI [N,cj dE] k))
def O9(B:aa)(e:ar)(k:Nat->Option aj)(N K:V)(m:Bool):Res V:=(t8 B e k N K).cw (.bool m) (dy (t8 B e k N K) e (bI [N,cj dE] k))
def lI(m:Bool)(N:V):V:=match m with
 |true=>bn N|false=>a3 (O8 N)
structure Pa(B:aa)(e:ar)(k:Nat->Option aj)(v K:V):Prop where
 a:el B (t7 B e k v) 85 596 [.ref 1 865,v] (view e (bI [v,cj dE] k))
 a1:el B (t8 B e k v K) 85 499 [.ref 1 0,K,dE] (view e (bI [v,cj dE] k))
 f:∀b,em (O9 B e k v K b) (lI b v) (view e (bI [v,cj dE] k))
theorem Pb{N K:V}:Pa B e k N K:=⟨aQ (by kernel_rfl) (by kernel_rfl) (by kernel_rfl),aQ (by kernel_rfl) (by kernel_rfl) (by kernel_rfl),λm=>by induction m using ap <;>kernel_rfl⟩
theorem Pc(l:TopOk B)(ok:LsOk e)(C:cV w){W:Nat}{N K:V}(Z:Val e.Q.length W N K)(b:aM K)(h:K∈e0)(F:w 0=Y (.list [N,cj dE])):
  Spec B 100 (.glob (.ref 959)) [.glob (.ref 638),.ref 1 865,.ref 7 0] ⟨.nil,0,0,view e w⟩ λT n=>T=lI (subB K dE) N/\Left e w n:=by
 have a:=oJ C;have o:=kg F;generalize (λf=>w (f+1))=k at a o;clear F C;subst o;have d:dE∈wants:=by unfold wants;simp
 obtain ⟨v,s,S⟩:=Pb (B:=B) (e:=e) (k:=k) (N:=N) (K:=K);refine Spec.of l ek 300 20 ?_;show(t7 B e k N).to _ _;refine fy (S:=85) (W:=e) (R:=K) (d:=0) ok ok (Nat.le_refl _) (Nat.le_refl _) (ji a) (yn Z.flat) b v.1 v.2.1 v.2.2 (λw I=>Spec.le (k:=85) (j8 l ok Z) (by decide)) ?_
 show(t8 B e k N K).to _ _;refine fy (S:=85) (W:=e) (R:=.bool (subB K dE)) (d:=0) ok ok (Nat.le_refl _) (Nat.le_refl _) (ji a) (λc A=>?_) trivial s.1 s.2.1 s.2.2 (λw I=>Spec.le (k:=85) (mL l h d) (by decide)) ?_
 ·rcases aW.mp A with rfl|A
  ·exact .mP (by kernel_rfl)
  ·rcases aW.mp A with rfl|A
   ·exact .flat b
   ·exact U (cy.mp A) (.flat (gv _ d))
 ·exact dk (S _) λn j=>⟨rfl,cx j⟩
end
noncomputable def oK(N:V):Nat:=match N with
 |.tup [_,.tup g]=>g.length|.tup [_,_,.tup g]=>g.length|.tup [_,.int _]=>2|_=>0
section
variable{B:aa}{e:ar}{w k:Nat->Option aj}
def Pd(B:aa)(e:ar)(k:Nat->Option aj)(N:V):Res V:=c7 (di B) c8 300 18 (.glob (.ref 697)) [.ref 1 865,.ref 7 0] ⟨.nil,0,0,view e (bI [N] k)⟩
abbrev t9(B:aa)(e:ar)(k:Nat->Option aj)(N:V):Prop:=cC (Pd B e k N) (vInt cD (.ofNat (oK N))) (view e (bI [N] k))
abbrev yo(e:ar)(k:Nat->Option aj)(N:V):Prop:=vInt cD (.ofNat (oK N))=vInt cD (.ofNat (oK N))/\view e (bI [N] k)=view e (bI [N] k)
theorem Pe :mU lits (λN=>t9 B e k N)=mU lits (λN=>yo e k N):=by kernel_rfl
theorem Pf{A Z u:V}:t9 B e k (cQ (bH A) Z u)=yo e k (cQ (bH A) Z u):=by kernel_rfl
abbrev DR(B:aa)(v m:Nat)(q r:List V)(P:List (V×V))(k:Nat->Option aj)(a:List (V×V)):Prop:=allI a.length (λf=>t9 B ⟨v,m,q,P,a,r⟩ k (aV f))=allI a.length (λf=>yo ⟨v,m,q,P,a,r⟩ k (aV f))
theorem Pg{v m:Nat}{q r:List V}{P a:List (V×V)}(j:a.length<=8):DR B v m q r P k a:=
 ix (a:=λa=>DR B v m q r P k a) j (by kernel_rfl) (by intros;kernel_rfl) (by intros;kernel_rfl) (by intros;kernel_rfl) (by intros;kernel_rfl) (by intros;kernel_rfl) (by intros;kernel_rfl) (by intros;kernel_rfl) (by intros;kernel_rfl)
theorem Ph(R:TopOk B)(ok:LsOk e){W:Nat}{N K:V}(Z:Val e.Q.length W N K)(F:w 0=Y (.list [N])):
  Spec B 90 (.glob (.ref 697)) [.ref 1 865,.ref 7 0] ⟨.nil,0,0,view e w⟩ λT n=>T=vInt cD (.ofNat (oK N))/\Left e w n:=by
 have o:=kg F;generalize (λf=>w (f+1))=k at o;subst o;have p:t9 B e k N->Spec B 90 (.glob (.ref 697)) [.ref 1 865,.ref 7 0] ⟨.nil,0,0,view e (bI [N] k)⟩ λT n=>T=vInt cD (.ofNat (oK N))/\Left e (bI [N] k) n:=λo=>
  Spec.of R c8 300 18 (fz o λn j=>⟨rfl,cx j⟩)
 clear F;induction Z using Val.casesOn with
 |lit j=>
  have u:=x0 (Pe (B:=B) (e:=e) (k:=k) |>.mpr (Dy (λN=>⟨rfl,rfl⟩) _)) j
  exact p u
 |st j _ _=>exact p (Pf.mpr ⟨rfl,rfl⟩)|dh j=>obtain ⟨v,m,q,P,a,r⟩:=e;have u:=eA ((Pg (B:=B) (k:=k) (v:=v) (m:=m) (q:=q) (r:=r) (P:=P) ok.fR).mpr (eM (λf=>⟨rfl,rfl⟩) _)) j;exact p u
end
section
variable{B:aa}{e:ar}{w k:Nat->Option aj}
def Pj(B:aa)(e:ar)(k:Nat->Option aj):Res V:=c7 (di B) c8 300 18 (.glob (.ref 697)) [.ref 1 865,.ref 7 0] ⟨.nil,0,0,view e (bI [cj (bH cq)] k)⟩
theorem Pk :em (Pj B e k) (vInt cD (.ofNat 2)) (view e (bI [cj (bH cq)] k)):=by kernel_rfl
theorem Pl(R:TopOk B)(F:w 0=Y (.list [cj (bH cq)])):
  Spec B 90 (.glob (.ref 697)) [.ref 1 865,.ref 7 0] ⟨.nil,0,0,view e w⟩ λT n=>T=vInt cD (.ofNat 2)/\Left e w n:=by
 have o:=kg F;generalize (λf=>w (f+1))=k at o;clear F;subst o;exact Spec.of R c8 300 18 (dk Pk λn j=>⟨rfl,cx j⟩)
def Pm(B:aa)(e:ar)(k:Nat->Option aj)(c N:V):Res V:=c7 (di B) c8 300 18 (.glob (.ref 617)) [.ref 1 865,.ref 7 0] ⟨.nil,0,0,view e (bI [c,N] k)⟩
theorem Pn{f:Nat}:em (Pm B e k (aV (f+1)) (aV 0)) (vBool E) (view e (bI [aV (f+1),aV 0] k)):=by kernel_rfl
theorem Po(R:TopOk B){f:Nat}(F:w 0=Y (.list [aV (f+1),aV 0])):
  Spec B 90 (.glob (.ref 617)) [.ref 1 865,.ref 7 0] ⟨.nil,0,0,view e w⟩ λT n=>T=vBool E/\Left e w n:=by
 have o:=kg F;generalize (λf=>w (f+1))=k at o;clear F;subst o;exact Spec.of R c8 300 18 (dk Pn λn j=>⟨rfl,cx j⟩)
end
section
variable{B:aa}{e:ar}{w k:Nat->Option aj}
def ua(B:aa)(e:ar)(w:Nat->Option aj)(N:V):Res V:=c7 (di B) c8 300 16 (.glob (.ref 896)) [N,.ref 2 2] ⟨.nil,0,0,view e w⟩
def iA :List (V×V)->(V->V->Prop)->Prop
 | [],_=>True|p::T,S=>S p.1 p.2/\iA T S
theorem ub{S:V->V->Prop}(j:∀f k,S f k):∀g,iA g S:=by
 intro s;induction s with|nil=>exact trivial|cons Z T F=>exact⟨j Z.1 Z.2,F⟩
theorem q1{S:V->V->Prop}:∀{g:List (V×V)} {Z:V×V},iA g S->Z∈g->S Z.1 Z.2
 |u::T,Z,j,b=>by
  rcases aW.mp b with rfl|b
  ·exact j.1
  ·exact q1 j.2 b
theorem Pp :iA lits (λN K=>cC (ua B e w N) K (view e w))=iA lits (λI K=>K=K/\view e w=view e w):=by kernel_rfl
theorem Pq{A Z u:V}:em (ua B e w (cQ (bH A) Z u)) (bH A) (view e w):=by kernel_rfl
theorem Pr{f:Nat}:em (ua B e w (aV f)) cellK (view e w):=by kernel_rfl
theorem Ps(R:TopOk B){L W:Nat}{N K:V}(l:Val L W N K):Spec B 80 (.glob (.ref 896)) [N,.ref 2 2] ⟨.nil,0,0,view e w⟩ λT n=>T=K/\Left e w n:=by
 have p:cC (ua B e w N) K (view e w)->Spec B 80 (.glob (.ref 896)) [N,.ref 2 2] ⟨.nil,0,0,view e w⟩ λT n=>T=K/\Left e w n:=λo=>
  Spec.of R c8 300 16 (fz o λn j=>⟨rfl,cx j⟩)
 induction l using Val.casesOn with
 |lit j=>
  have u:=q1 (Pp (B:=B) (e:=e) (w:=w) |>.mpr (ub (λI I=>⟨rfl,rfl⟩) _)) j
  exact p u
 | @st _ A Z u _ _ j _ _=>replace u:=Pq (B:=B) (e:=e) (w:=w) (A:=A) (Z:=Z) (u:=u);exact p (u.mpr ⟨rfl,rfl⟩)|dh j=>exact p (Pr.mpr ⟨rfl,rfl⟩)
end
section
variable{L:O}
theorem uc{S:V->V->Option Bool}{y X:V}{x n:List V}(j:S y X=Y M)(T:allM S x n=Y M):allM S (y::x) (X::n)=Y true:=by
 show(match S y X with
  |some v=>match allM S x n with
   |some m=>Y (match v with|true=>m|false=>E)|none=>G
  |none=>G)=Y M
 exact U j (U T rfl)
theorem Pt{f:Int}:fZ (.int f) (.int f)=Y true:=by show Y (fq f f)=Y M;rw[jC];simp
theorem Pu{C:Nat}{x n:List V}(j:allM (cJ L C) x n=Y M):cJ L (C+1) (.tup x) (.tup n)=Y true:=(show cJ L (C+1) (.tup x) (.tup n)=allM (cJ L C) x n by kernel_rfl).trans j
end
set_option backward.match.sparseCases false
mutual
theorem DS{D b:Nat->Nat->Prop}(j:∀A C,D A C->b A C):∀(y:V),fw D y->fw b y
 |.none,_=>trivial|.bool _,_=>trivial|.int _,_=>trivial|.str _,_=>trivial|.bytes _,_=>trivial|.glob _,_=>trivial|.ref A C,u=>j A C u|.tup x,u=>ud j x u
theorem ud{D b:Nat->Nat->Prop}(j:∀A C,D A C->b A C):∀(y:List V),go D y->go b y
 | [],_=>trivial|y::x,u=>⟨DS j y u.1,ud j x u.2⟩
end
theorem DT{D b:Nat->Nat->Prop}(j:∀A C,D A C->b A C):∀(y:List (Key×V)),ol D y->ol b y:=by
 intro s;induction s with|nil=>intro I;exact trivial|cons y x F=>intro u;exact⟨DS j y.2 u.1,F u.2⟩
theorem Pw{D b:Nat->Nat->Prop}(j:∀A C,D A C->b A C):∀(r:aj),gp D r->gp b r
 |.list g,u=>ud j g u|.dict g,u=>ud j _ u|.inst _ g,u=>DT j g u|.exc g _,u=>DT j g u|.ce,_=>trivial
def q2{N:Type}:List N->(N->Prop)->Prop
 | [],_=>True|p::T,S=>S p/\q2 T S
theorem Px{N:Type}{S:N->Prop}(j:∀f,S f):∀g,q2 g S:=by
 intro s;induction s with|nil=>exact trivial|cons Z T F=>exact⟨j Z,F⟩
theorem DU{N:Type}{S:N->Prop}:∀{g:List N} {Z:N},q2 g S->Z∈g->S Z
 |u::T,Z,j,b=>by
  rcases aW.mp b with rfl|b
  ·exact j.1
  ·exact DU j.2 b
def ue(T:be)(u:FM)(x:Nat)(c:V)(Z:Nat->Nat->Option aj):Prop:=be.rec (λa Q L=>a=u/\aL x Q=Y c/\L.aw=Z) (λI I I I=>False) False (λI I I I=>False) T
abbrev DV(u:FM)(c:V)(Z:Nat->Nat->Option aj):Prop:=u=u/\Y c=Y c/\Z=Z
theorem toR{T:be}{u:FM}{y:Nat}{c:V}{Z:Nat->Nat->Option aj}{h:FM->al->O->Prop}{D:Nat->Nat->O->Prop}(o:ue T u y c Z)(A:∀Q L,aL y Q=Y c->L.aw=Z->h u Q L):T.to h D:=by
 induction T using be.casesOn with|ok S Q L=>refine br ((show S=u/\aL y Q=Y c/\L.aw=Z from o)) λb p x=>?_;replace A:=b.symm▸A;exact A Q L p x|err=>exact o.elim|no=>exact o.elim|ask=>exact o.elim
noncomputable def yp :aP->ah
 |.While d _ _ _=>d|_=>.Constant .none 0 ⟨0,0,0,0⟩
noncomputable def yq :aP->List aP
 |.While _ m _ _=>m|_=> []
noncomputable def Py :aP->aN
 |.While _ _ _ p=>p|_=>⟨0,0,0,0⟩
def bk(f k:Nat):Stmt:=((j6 f)[k]?).getD (.Pass ⟨0,0,0,0⟩)
theorem Pz :j6 56= [bk 56 0,.While (yp (bk 56 1)) (yq (bk 56 1)) [] (Py (bk 56 1)),bk 56 2]:=by kernel_rfl
def q3(f:Nat):List Nat:=(gd (lq f).args).getD []
def jo :Nat:=match bY 40 (fQ 56) (bk 56 0) with
 |.assign (.name x) _=>x|_=>0
section
variable(B:aa)(e:ar)(w:Nat->Option aj)
def DW :cN:=c7 (di B) c8 300 12
def oL :Rec:=ev (DW B) meths 300
def fl(c:List V):O:=(⟨.nil,0,0,view e w⟩:O).set 9 0 (Y (.list c))
noncomputable def fT(N:V):V:=.tup [N,N]
def yr(c:List V):be:=C4 (oL B) (az 40 (fQ 56) (yp (bk 56 1))) ((yq (bk 56 1)).map (bY 40 (fQ 56))) [(jo,.ref 9 0)] (fl e w c)
noncomputable def q4 :V->Option (List V)
 |.tup g=>match g with
  | [_,.tup g]=>Y g| [_,_,.tup g]=>Y g|_=>G
 |_=>G
def q5(z:List V)(N:V):Nat->Nat->Option aj:=match q4 N with
 |none=>((fl e w (z++ [fT N])).set 9 0 (Y (.list z))).aw|some g=>(((fl e w (z++ [fT N])).set 9 0 (Y (.list z))).set 9 0 (Y (.list (z++g.map fT)))).aw
def m1(z:List V)(N:V):Prop:=ue (yr B e w (z++ [fT N])) .next jo (.ref 9 0) (q5 e w z N)
def uf(z:List V)(N:V):Prop:=DV .next (.ref 9 0) (q5 e w z N)
def shapes :List V:= [vInt cD 5,vInt mJ 7,vBool M,ey [97,98],vInt cD (-1),vInt cD 9,ey [98,101,103,105,110],vInt mJ 3,vInt cD 1,ey [99],vBool E,h1 [vInt cD 1,ey [99]],h1 [],h1 [vBool E]]
def yt(p q:V)(z:List V):Prop:=q2 shapes (m1 B e w z)/\allI 8 (λf=>m1 B e w z (aV f))/\m1 B e w z (cQ (bH bW) p q)/\m1 B e w z (cQ (bH cq) p q)
def TT(p q:V)(z:List V):Prop:=q2 shapes (uf e w z)/\allI 8 (λf=>uf e w z (aV f))/\uf e w z (cQ (bH bW) p q)/\uf e w z (cQ (bH cq) p q)
theorem j0(Z u:V)(z:List V):TT e w Z u z:=nf (Px (λI=>aQ rfl rfl rfl) _) (eM (λI=>aQ rfl rfl rfl) _) (aQ rfl rfl rfl) rfl rfl rfl
end
section
variable{B:aa}{e:ar}{w:Nat->Option aj}
theorem PA{Z u:V}{z:List V}(j:z.length<=8):yt B e w Z u z=TT e w Z u z:=
 ix (a:=λz=>yt B e w Z u z=TT e w Z u z) j (by kernel_rfl) (by intros;kernel_rfl) (by intros;kernel_rfl) (by intros;kernel_rfl) (by intros;kernel_rfl) (by intros;kernel_rfl) (by intros;kernel_rfl) (by intros;kernel_rfl) (by intros;kernel_rfl)
theorem PB :ue (yr B e w []) .brk jo (.ref 9 0) (fl e w []).aw=DV .brk (.ref 9 0) (fl e w []).aw:=by kernel_rfl
end
set_option backward.match.sparseCases true
inductive fA :Nat->Nat->V->Prop
 |lf {d:Nat} {v:V} (h:v∈shapes) (k:q4 v=G):fA d 1 v
 |dh {d i:Nat} (h:i<8):fA d 1 (aV i)
 |t0 {d:Nat}:fA d 1 (h1 [])
 |t1 {d:Nat}:fA (d+1) 2 (h1 [vBool E])
 |q6 {d:Nat}:fA (d+1) 3 (h1 [vInt cD 1,ey [99]])
 |st {d n m:Nat} {x p q:V} (h:x=bW\/x=cq) (a:fA d n p) (b:fA d m q):fA (d+1) (n+m+1) (cQ (bH x) p q)
inductive fU :Nat->Nat->List V->Prop
 |nil:fU 0 0 []
 |snoc {k n d m:Nat} {rest:List V} {v:V} (h:fU k n rest) (a:fA d m v) (le:k+d<=8) (f:aM v):fU (k+1) (n+m) (rest++ [fT v])
theorem fU.len{A C:Nat}{c:List V}(j:fU A C c):c.length=A:=by
 induction j with|nil=>rfl|snoc _ _ _ _ F=>refine U fL (U F ?_);rfl
theorem fU.flat{A C:Nat}{c:List V}(j:fU A C c):∀N∈c,aM N:=by
 induction j with|nil=>exact λN i=>by cases i|snoc _ _ _ S F=>
  intro N i;rcases lz.mp i with j|j
  ·exact F N j
  ·exact U (cy.mp j) (aQ S S trivial)
theorem Val.gM{L W:Nat}(c:L<=8){N K:V}(Z:Val L W N K):∃C,fA (W+1) C N:=by
 induction Z with
 |lit j=>
  unfold lits at j;simp only[aW,p3,or_false,DX] at j;rcases j with⟨rfl,_⟩|⟨rfl,_⟩|⟨rfl,_⟩|⟨rfl,_⟩|⟨rfl,_⟩|⟨rfl,_⟩|⟨rfl,_⟩|⟨rfl,_⟩|⟨rfl,_⟩|⟨rfl,_⟩|⟨rfl,_⟩
  case inr.inr.inr.inr.inr.inl=>exact⟨_,.q6⟩
  case inr.inr.inr.inr.inr.inr.inl=>exact⟨_,.t0⟩
  case inr.inr.inr.inr.inr.inr.inr.inr.inr.inr=>exact⟨_,.t1⟩
  all_goals exact⟨_,.lf (by repeat (first|exact gf|apply gO)) rfl⟩
 |st j _ _ d f=>refine aD d λC w=>?_;clear d;refine aD f λz T=>?_;clear f;exact⟨_,.st j w T⟩|dh j=>exact⟨_,.dh (by lia)⟩
section
variable{B:aa}{e:ar}{w:Nat->Option aj}
theorem yu(ok:LsOk e)(X:gu w){A C:Nat}{r:aj}(m:A≠0)(o:view e w A C=Y r):gp om r:=by
 by_cases F:A=7
 ·clear m;subst F;rcases X C r o with⟨g,rfl,j⟩|j
  ·exact lr λN i=>gt _ (j N i)
  ·exact xJ j
 ·have R:bG A=true:=by unfold bG;rw[bl.cH,bl.cH];refine U (decide_eq_false m) (U (decide_eq_false F) ?_);rfl
  exact Pw (λA C W=>(eK W.1).1) r (xI (L:=⟨.nil,0,0,view e w⟩) ok (λA C m=>eL (eK m).1) R o)
theorem m2{c:List V}{A C:Nat}(m:A≠0):(fl e w c).get A C=if A=9/\C=0 then Y (.list c) else view e w A C:=by unfold fl;rw[O.get_set _ _ _ _ (λu=>by cases u)];exact U (eL m) rfl
theorem PC(ok:LsOk e)(X:gu w){c:List V}(x:∀N∈c,aM N){L:O}(j:∀A C,A≠0->L.get A C=(fl e w c).get A C):ln L (fl e w c):=by
 refine⟨λA C m=>(j A C m).symm,λC=>?_,λA C r m o=>?_⟩
 ·unfold fl;rw[O.get_set _ _ _ _ (λu=>by cases u)];refine U (if_neg (λi=>by cases i.1)) ?_;rfl
 ·rw[j A C m,m2 m] at o;by_cases u:A=9/\C=0
  ·rw[if_pos u] at o;exact U (an o).symm (lr λN z=>gt _ (x N z))
  ·rw[if_neg u] at o;exact yu ok X m o
theorem ug{L a:O}(j:L.aw=a.aw):∀A C,A≠0->L.get A C=a.get A C:=λA C m=>by refine U (h2 m) ?_;refine U (h2 m) ?_;exact U j rfl
theorem PD{z:List V}{N:V}{L:O}(j:L.aw=q5 e w z N):∀A C,A≠0->L.get A C=(fl e w (z++((q4 N).getD []).map fT)).get A C:=λA C m=>by
 unfold q5 at j;generalize u:q4 N=K;induction K using aB with
 |none=>
  replace j:=u▸j;refine U (ug j A C m) ?_;rw[O.get_set _ _ _ _ (λu=>by cases u)];refine U (m2 m) (U (m2 m) ?_)
  show _=if A=9/\C=0 then Y (aj.list (z++ [])) else _
  rw[iK];by_cases i:A=9/\C=0
  ·exact U (if_pos i) (U (if_pos i) rfl)
  ·exact U (if_neg i) (U (if_neg i) (U (if_neg i) rfl))
 |some g=>
  rw[u] at j;refine U (ug j A C m) ?_;rw[O.get_set _ _ _ _ (λu=>by cases u),O.get_set _ _ _ _ (λu=>by cases u)];refine U (m2 m) (U (m2 m) ?_)
  by_cases i:A=9/\C=0
  ·refine U (if_pos i) (U (if_pos i) ?_);rfl
  ·exact U (if_neg i) (U (if_neg i) (U (if_neg i) (U (if_neg i) rfl)))
theorem PE{W z:Nat}{N:V}(v:fA W z N){p:List V}(j:p.length<=8):m1 B e w p N:=by
 have d:∀Z u,yt B e w Z u p:=λZ u=>by refine U (PA j) ?_;exact j0 ..
 have a:N∈shapes->m1 B e w p N:=λj=>DU (d .none .none).1 j;cases v with
 |lf j _=>exact a j|dh j=>exact eA (d .none .none).2.1 j|t0=>exact a (by repeat (first|exact gf|apply gO))
 |t1=>exact a (by repeat (first|exact gf|apply gO))
 |q6=>exact a (by repeat (first|exact gf|apply gO))
 | @st W C z y Z u j v m=>
  rcases j with rfl|rfl
  ·exact(d Z u).2.2.1
  ·exact(d Z u).2.2.2
theorem fU.next{A C W z:Nat}{p:List V}{N:V}(j:fU A C p)(v:fA W z N)(K:A+W<=8)(S:aM N):∃w a,a<C+z/\fU w a (p++((q4 N).getD []).map fT):=by
 have nil:∀{g:List V},g= []->0<z->∃w a,a<C+z/\fU w a (p++g.map fT):=λo h=>by exact U o (d9 A C (by lia) (by show fU A C (p++ []);rw[iK];exact j))
 have i:∀{T l:List V},p++(T++l)=p++T++l:=λ{T l}=>(Cm _ _ _).symm;cases v with
 |lf _ u=>exact U u (nil rfl Nat.one_pos)|dh=>exact nil rfl Nat.one_pos|t0=>exact nil rfl Nat.one_pos| @t1 W=>exact d9 (A+1) (C+1) (by lia) (.snoc (d:=W) j (.lf (by repeat (first|exact gf|apply gO)) rfl) (by lia) (aQ trivial trivial trivial))
 | @q6 W=>
  refine d9 (A+1+1) (C+1+1) (by lia) ?_
  show fU _ _ (p++([fT (vInt cD 1)]++ [fT (ey [99])]));exact U i (.snoc (d:=W) (.snoc (d:=W) j (.lf (by repeat (first|exact gf|apply gO)) rfl) (by lia) (bP trivial trivial trivial trivial)) (.lf (by repeat (first|exact gf|apply gO)) rfl) (by lia) (aQ trivial trivial trivial))
 | @st W c b y Z u q v m=>
  refine d9 (A+1+1) (C+c+b) (by lia) ?_
  show fU _ _ (p++([fT Z]++ [fT u]));refine U i (e7 ((show go (λI I=>False) [_,_,.tup [Z,u]] from S)) λI I e I=>?_);obtain ⟨s,f,_⟩:=e;exact .snoc (d:=W) (.snoc (d:=W) j v (by lia) s) m (by lia) f
variable{k:aF}
theorem PF(ok:LsOk e)(z:gu w){b:Nat}(K:ej B b (oL B))(g:a8 (fQ 56) k){r:O}(i:∀C,r.get 0 C=G){h:FM->al->O->Prop}{D:Nat->Nat->O->Prop}
  (m:∀Q L,(∀A C,A≠0->L.get A C=(fl e w []).get A C)->h .next Q L):∀(l A C:Nat) (c:List V) (Q:al) (L:O),C<l->fU A C c->aL jo Q=Y (.ref 9 0)->(∀A C,A≠0->L.get A C=(fl e w c).get A C)->
  ir B b k r (yp (bk 56 1)) (yq (bk 56 1)) Q L h D:=by
 intro s;induction s with|zero=>intro I I I I I X I I I;exact absurd X (Nat.not_lt_zero _)|succ l F=>
  intro A C c Q L X S Z t;refine ir.less (P:= [(jo,.ref 9 0)]) ?_ i (PC ok z S.flat t) λy N o=>?_
  ·cases S with
   |nil=>
    have T:ue (yr B e w []) .brk jo (.ref 9 0) (fl e w []).aw:=by refine U PB ?_;exact aQ rfl rfl rfl
    refine C6 (P:=λI I=>False) K g (toR T λQ L I dI=>?_) λI I u=>u.elim;exact m Q L (ug dI)
   | @snoc A C UE TV q N S v x f=>
    have TR:=S.len;have T:m1 B e w q N:=PE v (by lia)
    exact dZ (S.next v x f) λd a TY TS=>C6 (P:=λQ L=>aL jo Q=Y (.ref 9 0)/\L.aw=q5 e w q N) K g (toR T λQ L H R=>⟨H,R⟩) λj n W=>ak W λH R=>F d a _ j n (by lia) TS H (PD R)
  ·replace o:(match Nat.beq jo y with|true=>Y (V.ref 9 0)|false=>G)=Y N:=o
   generalize u:Nat.beq jo y=p;induction p using ap with|true=>replace o:=u▸o;exact U (an o).symm (U (Nat.eq_of_beq_eq_true u).symm (⟨Z,λi=>by cases i⟩))|false=>replace o:=u▸o;exact ag o
end
def yv(T:be)(x:Nat)(c:V)(Z:Nat->Nat->Option aj):Prop:=be.rec (λa Q L=>a=.next/\aL x Q=Y c/\L.t=.nil/\L.aw=Z) (λI I I I=>False) False (λI I I I=>False) T
theorem toZ{T:be}{y:Nat}{c:V}{Z:Nat->Nat->Option aj}{h:FM->al->O->Prop}{D:Nat->Nat->O->Prop}(o:yv T y c Z=(FM.next=.next/\Y c=Y c/\bl.nil=.nil/\Z=Z))(A:∀Q L,aL y Q=Y c->(∀C,L.get 0 C=G)->L.aw=Z->h .next Q L):T.to h D:=by
 replace o:yv T y c Z:=by refine U o ?_;exact bP rfl rfl rfl rfl
 induction T using be.casesOn with
 |ok S Q L=>refine e7 ((show S=.next/\aL y Q=Y c/\L.t=.nil/\L.aw=Z from o)) λb p x q=>U b (A Q L p (λC=>?_) q);obtain ⟨d,a,v,r⟩:=L;replace x:d=.nil:=x;clear q o;subst x;rfl
 |err=>exact o.elim|no=>exact o.elim|ask=>exact o.elim
section
variable{B:aa}{e:ar}{w k:Nat->Option aj}
def DY(N:V):al:=(kY (q3 56) [] [N,N]).getD []
theorem PG{N:V}:yv ((oL B).s (bY 40 (fQ 56) (bk 56 0)) (DY N) ⟨.nil,0,9,view e w⟩) jo (.ref 9 0) (fl e w [fT N]).aw=(FM.next=.next/\Y (V.ref 9 0)=Y (.ref 9 0)/\bl.nil=.nil/\(fl e w [fT N]).aw=(fl e w [fT N]).aw):=by kernel_rfl
theorem PH{Q:al}{L:O}:(oL B).ss ([bk 56 2].map (bY 40 (fQ 56))) Q L=.ok (.ret (.bool M)) Q L:=by kernel_rfl
theorem PI(R:TopAll B)(ok:LsOk e)(X:gu w){z:Nat}{N:V}(S:fA 8 z N)(a:aM N):Spec B 61 (.glob (.ref 603)) [N,N] ⟨.nil,0,9,view e w⟩ λT n=>T=.bool M/\Left e w n:=by
 have q:gN B 60 (DW B):=(xC R.toTopOk c8 300 12).1;have K:ej B 60 (oL B):=qy R.toFine R.mt R.ll R.ex q 300;refine Spec.xF R.toTopOk R.tE (a:=q3 56) (Q:=DY N) (by kernel_rfl) (by kernel_rfl) (by kernel_rfl) λk g=>U Pz (Nq K g (toZ PG λQ L b p x=>?_))
 have m:∀Q L,(∀A C,A≠0->L.get A C=(fl e w []).get A C)->aI B 60 k bF.none Q L (bb [bk 56 2] k) bU (λc I L=>match c with|.next=>V.none=.bool M/\Left e w L|.ret N=>N=.bool M/\Left e w L|_=>False) λI I I=>False:=λQ L j=>by
  refine K.ss (d:=40) g ?_;show((oL B).ss ([bk 56 2].map (bY 40 (fQ 56))) Q L).to _ _;refine U PH (⟨rfl,λA C r P o=>?_,λC=>?_⟩)
  ·refine U (j A C (eK P).1) (U (m2 (eK P).1) ?_);by_cases u:A=9/\C=0
   ·refine ak u λs D=>?_;clear u;clear P;subst s;subst D;exact ag o
   ·exact U (if_neg u) o
  ·refine U (j 7 C (λu=>by cases u)) (U (m2 (λu=>by cases u)) (U (if_neg (λu=>by cases u.1)) ?_));rfl
 have f:fU (0+1) (0+z) ([]++ [fT N]):=.snoc .nil S (Nat.le_refl _) a;exact qh (BL (PF ok X K g p (h:=λc Q L=>match c with|.next=>aI B 60 k bF.none Q L (bb [bk 56 2] k) bU (λc I L=>match c with|.next=>V.none=.bool M/\Left e w L|.ret N=>N=.bool M/\Left e w L|_=>False) λI I I=>False|.ret N=>N=.bool M/\Left e w L|_=>False) m _ _ _ _ Q L (Nat.lt_succ_self _) f b (ug x)))
def q7 :Nat->Bool:=λv=>c5 v [603]
def uh(B:aa)(e:ar)(k:Nat->Option aj)(N:V):Res V:=c7 (di B) q7 300 18 (.glob (.ref 617)) [.ref 1 865,.ref 7 0] ⟨.nil,0,0,view e (bI [N,N] k)⟩
def PJ(B:aa)(e:ar)(k:Nat->Option aj)(N:V):Res V:=(uh B e k N).cw (.bool M) (dy (uh B e k N) e (bI [N,N] k))
structure PK(B:aa)(e:ar)(k:Nat->Option aj)(v:V):Prop where
 a:el B (uh B e k v) 85 603 [v,v] (view e (bI [v,v] k))
 f:em (PJ B e k v) (vBool M) (view e (bI [v,v] k))
theorem PL{N:V}:PK B e k N:=⟨aQ (by kernel_rfl) (by kernel_rfl) (by kernel_rfl),by kernel_rfl⟩
end
section
variable{B:aa}{S:Nat}{e W:ar}{a:Nat->Option aj}{N:Type}{h:N->O->Prop}{D:Nat->Nat->O->Prop}
theorem PM{T:Res N}{c:e8}{x:List V}{R:V}{d:Nat}(ok:LsOk e)(k:LsOk W)(K:e.P.length<=W.P.length)(u:e.Q.length<=W.Q.length)(F:cV a)(q:∀y∈x,dx y)(H:aM R)
  (z:T.gU=Spec B S (.glob c) x T.a7.σ)(g:T.a7.σ.aw=view e a)(s:plainT T.a7.σ.t=M)
  (l:∀w:Nat->Option aj,gu w->Spec B S (.glob c) x ⟨.nil,0,d,view e w⟩ λT X=>T=R/\Left W w X)
  (A:(T.cw R (dy T W a)).to h D):T.to h D:=by
 refine lx (λv L=>v=R/\L=dy T W a) z ?_ λv L o=>ak o λb p=>by refine U b ?_;exact U p A
 have i:=qM (B:=B) (S:=S) (C:=T.a7.σ.n) (v:=T.a7.σ.bf) (h:=T.a7.σ.n) (Z:=0) (k:=0) (A:=0) (c:=c) (x:=x) (R:=R) ok k K u ⟨λf r=>mO s,F⟩ .none H (λy j=>qP (λA C m=>eL (eK m).1) (q y j)) λw I F=>l w F;rw[qO q,<-qQ g] at i;exact i
end
section
variable{B:aa}{e:ar}{w:Nat->Option aj}
theorem PN(l:TopAll B)(ok:LsOk e)(C:cV w){z:Nat}{N:V}(S:fA 8 z N)(x:aM N)(F:w 0=Y (.list [N,N])):
  Spec B 90 (.glob (.ref 617)) [.ref 1 865,.ref 7 0] ⟨.nil,0,0,view e w⟩ λT n=>T=vBool M/\Left e w n:=by
 have a:=oJ C;have o:=kg F;generalize (λf=>w (f+1))=k at a o;clear F C;subst o;obtain ⟨v,b⟩:=PL (B:=B) (e:=e) (k:=k) (N:=N);refine Spec.of l.toTopOk q7 300 18 ?_;show(uh B e k N).to _ _;exact PM (S:=85) (W:=e) (R:=.bool M) (d:=9) ok ok (Nat.le_refl _) (Nat.le_refl _) (ji a) (lC (.flat x) x) trivial v.1 v.2.1 v.2.2 (λw X=>Spec.le (k:=85) (PI l ok X S x) (by decide)) (dk b λn j=>⟨rfl,cx j⟩)
end
mutual
def cz :V->Nat->Prop
 |.tup xs,C=>∃z,C=z+1/\oM xs z|.ref _ _,_=>False|.glob _,_=>False|.none,C=>0<C|.bool _,C=>0<C|.int _,C=>0<C|.str _,C=>0<C|.bytes _,C=>0<C
def oM :List V->Nat->Prop
 | [],_=>True|x::xs,C=>cz x C/\oM xs C
end
mutual
theorem yw{L:O}:∀(y:V) {C z:Nat},cz y C->C<=z->cJ L z y y=Y M
 |.tup x,_,z,⟨A,o,j⟩,K=>by subst o;refine aD (kB K) λz Q=>?_;subst Q;exact Pu (yx x j (Nat.le_of_succ_le_succ K))|.ref _ _,_,_,j,_=>j.elim|.glob _,_,_,j,_=>j.elim|.none,C,z,j,K=>by replace j:0<C:=j;refine aD (kB (Nat.lt_of_lt_of_le j K)) λz Q=>?_;clear K;subst Q;rfl|.bool m,C,z,j,K=>by replace j:0<C:=j;refine aD (kB (Nat.lt_of_lt_of_le j K)) λz Q=>?_;clear K;subst Q;induction m using ap <;>kernel_rfl|.int f,C,z,j,K=>by replace j:0<C:=j;refine aD (kB (Nat.lt_of_lt_of_le j K)) λz Q=>?_;clear K;subst Q;exact(show cJ L (z+1) (.int f) (.int f)=fZ (.int f) (.int f) by kernel_rfl).trans Pt|.str A,C,z,j,K=>by replace j:0<C:=j;refine aD (kB (Nat.lt_of_lt_of_le j K)) λz Q=>?_;clear K;subst Q;show Y (a0 A A)=Y M;exact U (dL.mpr rfl) rfl|.bytes A,C,z,j,K=>by replace j:0<C:=j;refine aD (kB (Nat.lt_of_lt_of_le j K)) λz Q=>?_;clear K;subst Q;show Y (a0 A A)=Y M;exact U (dL.mpr rfl) rfl
theorem yx{L:O}:∀(y:List V) {C z:Nat},oM y C->C<=z->allM (cJ L z) y y=Y M
 | [],_,_,_,_=>rfl|y::x,_,_,j,K=>uc (yw y j.1 K) (yx x j.2 K)
end
theorem eB :∀(y:V) {C z:Nat},cz y C->C<=z->cz y z:=by
 have:∀(A:Nat),(∀(y:V) {C z:Nat},C<=A->cz y C->C<=z->cz y z):=λA=>by
  induction A with
  |zero=>
   intro y C z d j K;induction y using V.casesOn with|tup x=>refine au j λk o I=>?_;clear j;lia|ref=>exact j.elim|glob=>exact j.elim|_=>exact Nat.lt_of_lt_of_le j K
  |succ A F=>
   intro y C z d j K;induction y using V.casesOn with
   |tup x=>
    refine au j λk o j=>?_;obtain ⟨z,rfl⟩:∃f,z=f+1:=⟨z-1,by lia⟩
    refine aC z rfl ?_;have:∀g:List V,oM g k->oM g z:=λg=>by
     induction g with|nil=>exact λI=>trivial|cons v T a=>exact λj=>⟨F v (by lia) j.1 (by lia),a j.2⟩
    exact this x j
   |ref=>exact j.elim|glob=>exact j.elim|_=>exact Nat.lt_of_lt_of_le j K
 exact λy C z j K=>this C y (Nat.le_refl _) j K
theorem q8{L:O}{x:List V}(j:oM x 59):f8 L .NotEq (.tup x) (.tup x)=Y false:=by show l5 (allM (cJ L 59) x x)=Y E;refine U (yx x j (Nat.le_refl _)) ?_;rfl
theorem Val.kh{L W:Nat}{N K:V}(l:Val L W N K):cz N (2*W+4):=by
 induction l with
 | @lit W N K j=>
  have:cz N 4:=by
   unfold lits at j;simp only[aW,p3,or_false,DX] at j;rcases j with⟨rfl,_⟩|⟨rfl,_⟩|⟨rfl,_⟩|⟨rfl,_⟩|⟨rfl,_⟩|⟨rfl,_⟩|⟨rfl,_⟩|⟨rfl,_⟩|⟨rfl,_⟩|⟨rfl,_⟩|⟨rfl,_⟩ <;>
    repeat' (first|exact trivial|exact Nat.succ_pos _|refine⟨_,rfl,?_⟩|constructor)
  exact eB _ this (by lia)
 | @st W y Z u dg ci j _ _ a b=>
  have q:cz (bH y) 5:=by rcases j with rfl|rfl <;>repeat' (first|exact trivial|exact Nat.succ_pos _|refine⟨_,rfl,?_⟩|constructor)
  exact kA (2*W+5) (by lia) (show 0<2*W+5 by lia) (eB _ q (by lia)) (fp (2*W+4) rfl a b trivial) trivial
 | @dh W f j=>exact fp (2*W+3) rfl (show 0<2*W+3 by lia) (show 0<2*W+3 by lia) trivial
inductive cb
 |call (g f bf:Nat) (xs:List V) (own:Option (List V)) (R:V) (ls':ar) (na:Option (Nat×Nat))
 |cmp (x y:V)
noncomputable def gx :List V->Nat
 | []=>0|x::T=>match x with
  |.ref A k=>match Nat.beq A 0 with
   |true=>k|false=>gx T
  |_=>gx T
def ki(L:O)(x X:V):(V->O->Prop)->Prop:=λΦ=>∃i,f8 L .NotEq x X=Y i/\Φ (.bool i) L
def PO :Option (List V)->Option aj->Prop
 |none,_=>True|some g,r=>r=Y (.list g)
def ui(own:Option (List V))(k:Nat)(xs:List V):List V:=match own with
 |none=>xs|some _=>xs.map (hZ (iw 0 k))
def PP :Option (List V)->Prop
 |none=>True|some g=>Y (aj.list g)=Y (.list g)
section
variable{N:Type}(B:aa)(a:Nat->Option aj)
noncomputable def cb.ls(l:cb)(e:ar):ar:=match l with
 |.call _ _ _ _ _ _ W _=>W|.cmp _ _=>e
def cb.qv(l:cb)(T:Res N):Res N:=match l with
 |.call _ _ _ _ _ R W b=>T.cw R (match b with
  |none=>dy T W a|some p=>oB T W a p.1 p.2)
 |.cmp _ _=>T.cw (.bool E) T.a7.σ
def PQ(e:ar)(T:Res N)(l:cb):Prop:=match l with
 |.call c S _ xs own _ _ _=>T.gU=Spec B S (.glob (.ref c)) (ui own (gx T.a7.xs) xs) T.a7.σ/\T.a7.σ.aw=view e a/\plainT T.a7.σ.t=M/\PO own (T.a7.σ.t.get (gx T.a7.xs))|.cmp x X=>T.gU=ki T.a7.σ x X
def PR(e:ar)(T:Res N)(l:cb):Prop:=match l with
 |.call c S _ xs own _ _ _=>Spec B S (.glob (.ref c)) (ui own (gx T.a7.xs) xs) T.a7.σ=Spec B S (.glob (.ref c)) (ui own (gx T.a7.xs) xs) T.a7.σ/\view e a=view e a/\M=M/\PP own|.cmp x X=>ki T.a7.σ x X=ki T.a7.σ x X
def hx(n:Res N->Prop):List cb->ar->Res N->Prop
 | [],_,T=>n T|l::g,e,T=>PQ B a e T l/\hx n g (l.ls e) (l.qv a T)
def jp(n:Res N->Prop):List cb->ar->Res N->Prop
 | [],_,T=>n T|l::g,e,T=>PR B a e T l/\jp n g (l.ls e) (l.qv a T)
structure uj(ls:ar)(g f bf:Nat)(xs:List V)(own:Option (List V))(R:V)(ls':ar):Prop where
 ok:LsOk ls
 PS:LsOk ls'
 le:ls.P.length<=ls'.P.length
 PT:ls.Q.length<=ls'.Q.length
 DZ:∀x∈xs,dx x\/(x=.ref 7 0/\own.isSome=M)
 PU:aM R
 PV:∀l,own=Y l->∀v∈l,aM v
 s:∀x7:Nat->Option aj,(∀l,own=Y l->x7 0=Y (.list l))->gu x7->Spec B f (.glob (.ref g)) xs ⟨.nil,0,bf,view ls x7⟩ λr σ'=>r=R/\Left ls' x7 σ'
def PW(e:ar)(l:cb):Prop:=match l with
 |.call c S d xs own R W _=>uj B e c S d xs own R W|.cmp x X=>∀L,f8 L .NotEq x X=Y E
def gX :List cb->ar->Prop
 | [],_=>True|l::g,e=>PW B e l/\gX g (l.ls e)
end
section
variable{N:Type}{B:aa}{TR:Nat->Option aj}{d i:Res N->Prop}{h:N->O->Prop}{D:Nat->Nat->O->Prop}
theorem jq(j:∀T,d T):∀(g:List cb) (e:ar) (T:Res N),jp B TR d g e T
 | [],_,T=>j T|.call _ _ _ _ own _ _ _::g,e,T=>⟨bP rfl rfl rfl (by induction own using aB <;>first|exact trivial|exact rfl),jq j g _ _⟩
 |.cmp _ _::g,e,T=>⟨rfl,jq j g _ _⟩
theorem D0{g:List cb}{e:ar}{T:Res N}(o:hx B TR d g e T=jp B TR i g e T)(j:∀T,i T):hx B TR d g e T:=by exact U o (jq j g e T)
theorem kj(m:cV TR):∀(g:List cb) (e:ar) (T:Res N),hx B TR d g e T->gX B g e->(∀T,d T->T.to h D)->T.to h D
 | [],_,T,j,_,A=>A T j|.cmp y X::g,e,T,⟨b,p⟩,⟨r,f⟩,A=>by
  have F:=kj m g _ _ p f A;replace b:T.gU=ki T.a7.σ y X:=b;replace r:=r T.a7.σ;replace F:(T.cw (.bool E) T.a7.σ).to h D:=F;induction T using Res.casesOn with|ask a P K=>replace b:P=ki a.σ y X:=b;clear p;subst b;exact⟨λv L=>v=.bool E/\L=a.σ,cW E r rfl rfl,λv L UP=>ak UP λz k=>by refine U z ?_;refine U k ?_;exact F⟩|ok=>exact(((congrFun b λI I=>True).mpr (aC _ r trivial):False)).elim|err=>exact(((congrFun b λI I=>True).mpr (aC _ r trivial):False)).elim|no=>exact(((congrFun b λI I=>True).mpr (aC _ r trivial):False)).elim
 |.call TW TZ TU x own R W S::g,e,T,⟨⟨z,k,T6,o⟩,p⟩,⟨H,f⟩,A=>by
  have F:=kj m g _ _ p f A;obtain ⟨C,v,Uw⟩:∃C v,(match S with|none=>dy T W TR|some Z=>oB T W TR Z.1 Z.2)=⟨T.a7.σ.t,C,v,view W TR⟩:=by
   clear F f H p;induction S using aB with|none=>exact ea _ _ rfl|some Z=>exact ea _ _ rfl
  replace F:(T.cw R (match S with|none=>dy T W TR|some Z=>oB T W TR Z.1 Z.2)).to h D:=F
  rw[Uw] at F;refine lx (λu L=>u=R/\L=⟨T.a7.σ.t,C,v,view W TR⟩) z ?_ λu L UE=>ak UE λQ l=>by refine U Q ?_;exact U l F
  have c:mI T.a7.σ.t TR (own.map aj.list) 0 (gx T.a7.xs):=by
   clear f p z;induction own using aB with|none=>exact .inl rfl|some g=>exact .inr (fX (.inl ⟨rfl,o⟩) g rfl (H.PV g rfl))
  have i:=qM (B:=B) (S:=TZ) (C:=T.a7.σ.n) (v:=T.a7.σ.bf) (h:=C) (Z:=v) (k:=gx T.a7.xs) (A:=0) (l:=TU) (c:=.ref TW) (x:=x) (R:=R) H.ok H.PS H.le H.PT ⟨λT2 T1=>mO T6,m⟩ c H.PU (λy q=>by
   rcases H.DZ y q with j|⟨rfl,j⟩
   ·exact qP (λA C TS=>eL (eK TS).1) j
   ·clear c f H p o z;induction own using aB with|none=>exact aG j|some g=>exact .inr (max rfl _ rfl)) λw TX TV=>H.s w (λg UJ=>by refine U TX ?_;refine U UJ ?_;rfl) TV
  rw[<-qQ k] at i;have TY:ui own (gx T.a7.xs) x=x.map (hZ (iw 0 (gx T.a7.xs))):=by
   clear c f p o z;induction own using aB with|none=>exact(qO λy q=>(H.DZ y q).resolve_right λUi=>by cases Ui.2).symm|some g=>rfl
  exact U TY i
end
section
variable(B:aa)(e:ar)(w:Nat->Option aj)
def D1 :Nat->Bool:=λv=>c5 v [896,624,617,903,631,959,697]
def D2(N:V):Res V:=c7 (di B) D1 300 22 (.glob (.ref 966)) [.ref 1 865,N,.ref 2 2] ⟨.nil,0,0,view e w⟩
noncomputable def kk :List V:= [.ref 1 865,.ref 7 0]
def yy(N K:V):List cb:= [
 .call 896 105 0 [N,.ref 2 2] G K e G,
 .call 624 105 0 kk (Y [N]) (cj K) e G,
 .cmp (cj K) (cj K),
 .call 617 105 0 kk (Y [N,N]) (vBool M) e G,
 .call 903 105 0 [N,dE,.ref 2 2] G (.bool (subB K dE)) e G,
 .call 631 105 0 kk (Y [N,cj dE]) (vBool (subB K dE)) e G,
 .call 631 105 0 kk (Y [N,cj cq]) (vBool (subB K cq)) e G,
 .call 959 105 0 (.glob (.ref 638)::kk) (Y [N,cj dE]) (lI (subB K dE) N) e G,
 .cmp (lI (subB K dE) N) (lI (subB K dE) N),
 .call 697 105 0 kk (Y [N]) (vInt cD (.ofNat (oK N))) e G]
def q9(N K:V):Prop:=hx B w (λT=>cC T (.bool M) (view e w)) (yy e N K) e (D2 B e w N)
def rb(N K:V):Prop:=jp B w (λI:Res V=>V.bool M=.bool M/\view e w=view e w) (yy e N K) e (D2 B e w N)
theorem oN(N K:V):rb B e w N K:=jq (λI=>⟨rfl,rfl⟩) _ _ _
end
section
variable{B:aa}{e:ar}{w:Nat->Option aj}
theorem PX :iA lits (q9 B e w)=iA lits (rb B e w):=by kernel_rfl
theorem D3{Z u:V}:(q9 B e w (cQ (bH bW) Z u) (bH bW)/\q9 B e w (cQ (bH cq) Z u) (bH cq))=(rb B e w (cQ (bH bW) Z u) (bH bW)/\rb B e w (cQ (bH cq) Z u) (bH cq)):=by kernel_rfl
abbrev D4(B:aa)(v m:Nat)(q r:List V)(a:List (V×V))(w:Nat->Option aj)(P:List (V×V)):Prop:=allI P.length (λf=>q9 B ⟨v,m,q,P,a,r⟩ w (aV f) cellK)=allI P.length (λf=>rb B ⟨v,m,q,P,a,r⟩ w (aV f) cellK)
theorem PY{v m:Nat}{q r:List V}{P a:List (V×V)}(j:P.length<=8):D4 B v m q r a w P:=
 ix (a:=λP=>D4 B v m q r a w P) j (by kernel_rfl) (by intros;kernel_rfl) (by intros;kernel_rfl) (by intros;kernel_rfl) (by intros;kernel_rfl) (by intros;kernel_rfl) (by intros;kernel_rfl) (by intros;kernel_rfl) (by intros;kernel_rfl)
end
section
variable{B:aa}{e:ar}{w:Nat->Option aj}
theorem PZ{K:V}(j:K∈e0):cz K 40:=by refine fE j ?_;repeat' (first|exact et|refine es ?_ ?_|exact trivial|exact Nat.succ_pos _|refine⟨_,rfl,?_⟩|constructor)
theorem P0{m:Bool}{N:V}(j:aM N):aM (lI m N):=by induction m using ap <;>repeat' (first|exact j|exact trivial|constructor)
theorem P1{L:O}{m:Bool}{N:V}(j:cz N 40):f8 L .NotEq (lI m N) (lI m N)=Y false:=by
 induction m using ap with|true=>exact q8 (aQ (Nat.succ_pos _) (eB _ j (by decide)) trivial)|false=>
  refine q8 (aQ (Nat.succ_pos _) (kA 58 rfl (Nat.succ_pos _) ?_ (kA 57 rfl ?_ ?_ (eB _ j (by decide)) trivial) trivial) trivial) <;>
   repeat' (first|exact trivial|exact Nat.succ_pos _|refine⟨_,rfl,?_⟩|constructor)
theorem oO :dx (.ref 2 2):=.own (by kernel_rfl)
theorem fB{c S d:Nat}{x:List V}{own:Option (List V)}{R:V}(ok:LsOk e)(i:∀y∈x,dx y\/(y=.ref 7 0/\own.isSome=M))(j:aM R)(f:∀g,own=Y g->∀N∈g,aM N)
  (l:∀w:Nat->Option aj,(∀g,own=Y g->w 0=Y (.list g))->gu w->Spec B S (.glob (.ref c)) x ⟨.nil,0,d,view e w⟩ λT n=>T=R/\Left e w n):uj B e c S d x own R e:=
 ⟨ok,ok,Nat.le_refl _,Nat.le_refl _,i,j,f,l⟩
theorem lJ{g:List V}:∀y∈kk,dx y\/(y=.ref 7 0/\(Y g).isSome=M):=λy q=>by
 rcases aW.mp q with rfl|q
 ·exact .inl hv
 ·exact U (cy.mp q) (.inr ⟨rfl,rfl⟩)
theorem hy{g:List V}(j:∀N∈g,aM N):∀S,Y g=Y S->∀N∈S,aM N:=λS o=>by refine U (an o).symm ?_;exact j
theorem rc{N:V}(j:aM N):∀c∈[N],aM c:=λc A=>by refine U (cy.mp A) ?_;exact j
theorem iB{N t:V}(j:aM N)(q:aM t):∀c∈[N,t],aM c:=λc A=>by
 rcases aW.mp A with rfl|A
 ·exact j
 ·exact rc q c A
theorem rd{K:V}(j:aM K):aM (cj K):=aQ trivial j trivial
theorem P2(R:TopAll B)(ok:LsOk e){W:Nat}(hd:W<=7){N K:V}(Z:Val e.Q.length W N K):gX B (yy e N K) e:=by
 have x:=Z.flat;have fQ:=Z.iz;have p:cz N 40:=eB _ Z.kh (by lia)
 have c:aM dE:=gv _ (by unfold wants;simp)
 have lq:aM cq:=gv _ (by unfold wants;simp)
 refine aD (Z.gM ok.fR) λz S=>?_;have h:∃z,fA 8 z N:=by
  have a:∀{W z N},fA W z N->∀o,W<=o->fA o z N:=λ{W z N} S=>by
   induction S with
   |lf j A=>exact λo I=>.lf j A|dh j=>exact λo I=>.dh j|t0=>exact λo I=>.t0|t1=>intro o g;obtain ⟨k,rfl⟩:∃k,o=k+1:=⟨o-1,by lia⟩;exact .t1
   |q6=>intro o g;obtain ⟨k,rfl⟩:∃k,o=k+1:=⟨o-1,by lia⟩;exact .q6
   |st j _ _ d f=>intro o g;obtain ⟨k,rfl⟩:∃k,o=k+1:=⟨o-1,by lia⟩;exact .st j (d k (by lia)) (f k (by lia))
  exact⟨z,a S 8 (by lia)⟩
 refine aD h λz S=>?_;clear h;have b:∀y∈[N,V.ref 2 2],dx y\/(y=.ref 7 0/\(G:Option (List V)).isSome=M):=λy q=>by
  rcases aW.mp q with rfl|q
  ·exact .inl (.flat x)
  ·exact U (cy.mp q) (.inl oO)
 refine⟨fB ok b fQ (λI o=>ag o) λw I I=>(Ps R.toTopOk Z).le (by decide),?_⟩
 refine⟨fB ok lJ (rd fQ) (hy (rc x)) λw o X=>(O4 R.toTopOk ok X.fx Z fQ (o _ rfl)).le (by decide),?_⟩
 refine⟨λL=>q8 (aQ (Nat.succ_pos _) (eB _ (PZ Z.e0) (by decide)) trivial),?_⟩
 refine⟨fB ok lJ (aQ trivial trivial trivial) (hy (iB x x)) λw o X=>(PN R ok X.fx S x (o _ rfl)).le (by decide),?_⟩
 refine⟨fB ok (λy q=>?_) trivial (λI o=>ag o) λw I I=>(oy R.toTopOk Z (by unfold wants;simp)).le (by decide),?_⟩
 ·rcases aW.mp q with rfl|q
  ·exact .inl (.flat x)
  ·rcases aW.mp q with rfl|q
   ·exact .inl (.flat c)
   ·exact U (cy.mp q) (.inl oO)
 refine⟨fB ok lJ (aQ trivial trivial trivial) (hy (iB x (rd c))) λw o X=>(DQ R.toTopOk ok X.fx Z fQ Z.e0 (.inl rfl) (o _ rfl)).le (by decide),?_⟩
 refine⟨fB ok lJ (aQ trivial trivial trivial) (hy (iB x (rd lq))) λw o X=>(DQ R.toTopOk ok X.fx Z fQ Z.e0 (.inr rfl) (o _ rfl)).le (by decide),?_⟩
 refine⟨fB ok (λy q=>?_) (P0 x) (hy (iB x (rd c))) λw o X=>(Pc R.toTopOk ok X.fx Z fQ Z.e0 (o _ rfl)).le (by decide),?_⟩
 ·rcases aW.mp q with rfl|q
  ·exact .inl (.flat trivial)
  ·exact lJ y q
 refine⟨λL=>P1 p,?_⟩;exact⟨fB ok lJ (bP trivial trivial trivial trivial) (hy (rc x)) λw o X=>(Ph R.toTopOk ok Z (o _ rfl)).le (by decide),trivial⟩
theorem P4(R:TopAll B)(ok:LsOk e)(X:gu w)(s:e.P=e.Q){W:Nat}(hd:W<=7){N K:V}(Z:Val e.Q.length W N K):Spec B 110 (.glob (.ref 966)) [.ref 1 865,N,.ref 2 2] ⟨.nil,0,0,view e w⟩ λT b=>T=.bool M/\Left e w b:=by
 have F:q9 B e w N K:=by
  clear hd;induction Z using Val.casesOn with
  |lit j=>exact q1 (PX.mpr (ub (oN B e w) _)) j|st j _ _=>
   rcases j with rfl|rfl
   ·exact(D3.mpr ⟨oN ..,oN ..⟩).1
   ·exact(D3.mpr ⟨oN ..,oN ..⟩).2
  | @dh _ f j=>obtain ⟨v,m,q,P,a,r⟩:=e;replace s:P=a:=s;subst s;exact eA ((PY (B:=B) (w:=w) (v:=v) (m:=m) (q:=q) (r:=r) (a:=P) ok.n).mpr (eM (λf=>oN ..) _)) j
 exact Spec.of R.toTopOk D1 300 22 (kj X.fx _ _ _ F (P2 R ok hd Z) λT j=>fz j λb j=>⟨rfl,cx j⟩)
end
noncomputable def kl(c:List V)(A C:Nat):Option aj:=match Nat.beq A 2 with
 |true=>match Nat.beq C 0 with
  |true=>Y (.list c)|false=>G
 |false=>G
def uk :List D->(Nat->aj->Prop)->Prop
 | [],_=>True|W::T,S=>S W.i (tG W)/\S W.p (.list W.gc)/\S W.q (.list W.qJ)/\uk T S
def re(S:Nat->aj->Prop):Prop:=S 0 (.inst 830 [([100,101,99,108,115],.ref 1 1)])/\S 1 (.dict (ot decls))/\S 865 (.inst 573 [([116,104,105,110,103,115],.ref 1 866),([107,105,110,100,115],.ref 1 0),([104,101,97,112],.ref 1 865)])/\S 866 (.list [])/\uk decls S
section
variable(B:aa)(c:List V)
def ul :Res V:=c7 (di B) c8 500 22 (.glob (.ref 884)) [] ⟨.nil,0,1,kl c⟩
def D5(T:Res V):Prop:=Res.rec (λN L=>N=.ref 1 865/\re (λC r=>L.get 1 C=Y r)/\L.get 2 0=Y (.list c)) (λI I I=>False) False (λI I I I=>False) T
def P5 :Prop:=V.ref 1 865=.ref 1 865/\re (λI r=>Y r=Y r)/\Y (aj.list c)=Y (.list c)
theorem P6 :D5 c (ul B c)=P5 c:=by kernel_rfl
end
noncomputable abbrev aT :Nat->Option aj:=λI=>G
theorem P7{y:V}:hZ (λC=>(7,C)) y=y:=by
 induction y using V.casesOn with
 |ref A C=>
  show(match Nat.beq A 7 with|true=>V.ref 7 C|false=>.ref A C)=_
  generalize u:Nat.beq A 7=K;induction K using ap with|true=>exact U (Nat.eq_of_beq_eq_true u) rfl|false=>rfl
 |_=>rfl
section
variable{B:aa}{b:Nat}
theorem Spec.small{L g:O}{c:e8}{x:List V}{e h:V->O->Prop}(d:∀A C r,L.get A C=Y r->bG A=M/\gp (dT L) r)(o:∀A C,g.get A C=L.get A C)(q:∀y∈x,qI L g y)(j:Spec B b (.glob c) x g e)
  (A:∀T a,e T a->∃n,(∀A C r,n.get A C=Y r->bG A=M/\a.get A C=Y r/\gp (dT n) r)/\(∀A C,(L.get A C).isSome=M->(n.get A C).isSome=M)/\fw (dT n) T/\h T n):Spec B b (.glob c) x L h:=by
 have D:∀{A C},bG A=E->L.get A C=none:=λ{A C} m=>by
  generalize u:L.get A C=K;induction K using aB with|none=>rfl|some r=>rw[(d A C r u).1] at m;exact cS m
 have S:Entry (λC=>(7,C)) L g:=⟨λA C I=>o A C,λC r u=>(by rw[o,D rfl] at u;exact ag u),λC z r P u=>(by rw[o,D rfl] at u;exact ag u),λC=>(by rw[o];exact D rfl),λA C r I u=>(d A C r u).2,λA C r m u=>by rw[D m] at u;exact ag u⟩
 have i:=Spec.view (h:=h) S j q λT a H=>by
  refine fV (A T a H) λn f k v X=>cW n ⟨λA C m=>?_,λA C r I u=>(f A C r u).2,λA C I u=>k A C u,λC r u=>(by rw[o,D rfl] at u;exact ag u),λC r u=>(by rw[o,D rfl] at u;exact ag u)⟩ v X
  refine U (D m) ?_;generalize u:n.get A C=K;induction K using aB with|none=>rfl|some r=>rw[(f A C r u).1] at m;exact cS m
 have z:x.map (hZ λC=>(7,C))=x:=by have:(hZ λC=>(7,C))=id:=funext λy=>P7;refine U this ?_;rw[List.map_id]
 rw[z] at i;exact i
theorem um{c:List V}{A C:Nat}{r:aj}(j:kl c A C=Y r):A=2/\C=0/\r=.list c:=by
 unfold kl at j;rw[bl.cH,bl.cH] at j;by_cases u:A=2
 ·by_cases g:C=0
  ·subst u g;exact aQ rfl rfl ((an j).symm)
  ·rw[decide_eq_true u,decide_eq_false g] at j;exact ag j
 ·rw[decide_eq_false u] at j;exact ag j
theorem yz{r:Nat->Nat->Option aj}(d:∀C,r 0 C=G){C v A f:Nat}:(⟨.nil,C,v,r⟩:O).get A f=r A f:=by
 induction A using Nat.casesOn with|zero=>rw[d];rfl|succ A=>rfl
abbrev km(C v:Nat)(c:List V):O:=⟨.nil,C,v,kl c⟩
noncomputable abbrev iC(C v:Nat):O:=⟨.nil,C,v,λI I=>G⟩
theorem rf{C v A f:Nat}{c:List V}:(km C v c).get A f=kl c A f:=yz λI=>rfl
theorem oP{C v A f:Nat}:(iC C v).get A f=none:=yz λI=>rfl
theorem P8(Z:Int)(z:Nat)(o:Z=.ofNat z):Z.fmod 999961+41=.ofNat (z%999961+41):=by subst o;have:yi (.ofNat z) 999961=.ofNat (z%999961):=DN z 999961;refine U this ?_;rfl
end
def un(c:List V)(A C:Nat):Option aj:=match Nat.beq A 1 with
 |true=>view ⟨0,0,[],[],[],[]⟩ aT 1 C|false=>kl c A C
abbrev oQ(C v:Nat)(c:List V):O:=⟨.nil,C,v,un c⟩
section
variable{B:aa}{c:List V}
theorem yA{C v A f:Nat}:(oQ C v c).get A f=un c A f:=yz λI=>rfl
theorem P9{S:Nat->aj->Prop}:∀{g:List D} {C:Nat} {r:aj},uk g S->findD C g=Y r->S C r:=by
 intro s;induction s with|nil=>intro I I I o;exact ag o|cons W T F=>
  intro C r a o;obtain ⟨b,R,x,H⟩:=a;replace o:(match Nat.beq C W.i with|true=>Y (tG W)|false=>match Nat.beq C W.p with|true=>Y (.list W.gc)|false=>match Nat.beq C W.q with|true=>Y (.list W.qJ)|false=>findD C T)=Y r:=o
  generalize Q:Nat.beq C W.i=K;induction K using ap with|true=>replace o:=Q▸o;exact U (an o).symm (U (Nat.eq_of_beq_eq_true Q) b)|false=>
   generalize l:Nat.beq C W.p=K;induction K using ap with|true=>rw[Q,l] at o;exact U (an o).symm (U (Nat.eq_of_beq_eq_true l) R)|false=>
    generalize N:Nat.beq C W.q=K;induction K using ap with|true=>rw[Q,l,N] at o;exact U (an o).symm (U (Nat.eq_of_beq_eq_true N) x)|false=>rw[Q,l,N] at o;exact F H o
theorem Qa{S:Nat->aj->Prop}(j:re S){C:Nat}{r:aj}(o:view ⟨0,0,[],[],[],[]⟩ aT 1 C=Y r):S C r:=by
 refine fW j λd b p x q=>?_;clear j;replace o:(match Nat.beq C 866 with|true=>Y (aj.list [])|false=>iv C)=Y r:=o
 generalize u:Nat.beq C 866=K;induction K using ap with|true=>rw[u] at o;exact U (an o).symm (U (Nat.eq_of_beq_eq_true u) x)|false=>
  rw[u] at o;have o:(match Nat.beq C 0 with
   |true=>Y (aj.inst 830 [([100,101,99,108,115],.ref 1 1)])|false=>match Nat.beq C 1 with
    |true=>Y (.dict (ot decls))|false=>match Nat.beq C 865 with
     |true=>Y (.inst 573 [([116,104,105,110,103,115],.ref 1 866),([107,105,110,100,115],.ref 1 0),([104,101,97,112],.ref 1 865)])|false=>findD C decls)=Y r:=o
  generalize g:Nat.beq C 0=K;induction K using ap with|true=>replace o:=g▸o;exact U (an o).symm (U (Nat.eq_of_beq_eq_true g) d)|false=>
   generalize Q:Nat.beq C 1=K;induction K using ap with|true=>rw[g,Q] at o;exact U (an o).symm (U (Nat.eq_of_beq_eq_true Q) b)|false=>
    generalize l:Nat.beq C 865=K;induction K using ap with|true=>rw[g,Q,l] at o;exact U (an o).symm (U (Nat.eq_of_beq_eq_true l) p)|false=>rw[g,Q,l] at o;exact P9 q o
theorem Qb{S:Nat->aj->Prop}(j:∀C r,S C r):re S:=by
 have:∀g:List D,uk g S:=λg=>by
  induction g with|nil=>trivial|cons W T F=>exact bP (j _ _) (j _ _) (j _ _) F
 exact g8 (j _ _) (j _ _) (j _ _) (j _ _) (this _)
theorem Qc(R:TopOk B)(e:∀N∈c,aM N){C v a Z:Nat}:Spec B 110 (.glob (.ref 884)) [] (km C v c) λT n=>T=.ref 1 865/\n=oQ a Z c:=by
 refine Spec.small (g:=km 0 1 c) (λA f r o=>?_) (λA f=>by rw[rf,rf]) (λy q=>by cases q) (Spec.of R c8 500 22 (h:=λT n=>T=.ref 1 865/\re (λC r=>n.get 1 C=Y r)/\n.get 2 0=Y (.list c)) ?_) λT n t=>br t λH b p=>?_
 ·replace o:=rf▸o;refine br (um o) λd D g=>?_;subst d;subst D;clear o;subst g;exact⟨rfl,lr λN i=>gt _ (e N i)⟩
 ·have F:D5 c (ul B c):=by rewrite[P6];exact aQ rfl (Qb λI I=>rfl) rfl
  show(ul B c).to _ _;revert F;generalize ul B c=T;intro F;induction T using Res.casesOn with|ok N L=>exact F|err=>exact F.elim|no=>exact F.elim|ask=>exact F.elim
 ·have X:∀z,(oQ a Z c).get 1 z=view ⟨0,0,[],[],[],[]⟩ aT 1 z:=λz=>yA;refine kA (oQ a Z c) (λA f r o=>?_) (λA f o=>?_) (by rw[H];exact tI X (by kernel_rfl)) H rfl
  ·replace o:=yA▸o;unfold un at o;generalize u:Nat.beq A 1=K;induction K using ap with
   |true=>
    replace o:=u▸o;have m:=Nat.eq_of_beq_eq_true u;clear u;subst m;refine aQ rfl (Qa b o) ?_;replace o:(match Nat.beq f 866 with|true=>Y (aj.list [])|false=>iv f)=Y r:=o
    generalize u:Nat.beq f 866=K;induction K using ap with|true=>replace o:=u▸o;rw[<-an o];trivial|false=>replace o:=u▸o;exact Db X o
   |false=>replace o:=u▸o;refine br (um o) λd D g=>?_;clear u;subst d;subst D;clear o;subst g;exact aQ rfl p (lr λN i=>gt _ (e N i))
  ·replace o:=rf▸o;refine aD (lZ.mp o) λr Q=>br (um Q) λd D g=>?_;subst d;clear o;subst D;clear Q;subst g;rfl
end
def FinE{N:Type}(x:N)(L:O)(T:Res N):Prop:=Res.rec (λX a=>X=x/\a=L) (λI I I=>False) False (λI I I I=>False) T
theorem toE{N:Type}{y:N}{L:O}{T:Res N}{h:N->O->Prop}{D:Nat->Nat->O->Prop}(o:FinE y L T)(A:h y L):T.to h D:=by
 induction T using Res.casesOn with|ok X a=>refine ak ((show X=y/\a=L from o)) λb p=>?_;subst b p;exact A|err=>exact o.elim|no=>exact o.elim|ask=>exact o.elim
def be.yB(T:be):Res V:=be.rec (λu I L=>match u with
 |.ret N=>.ok N L|_=>.no) (λI I I I=>.no) .no (λa P I F=>.ask a P F) T
theorem D6{T:be}{h:FM->al->O->Prop}{D:Nat->Nat->O->Prop}(j:T.yB.to (λN L=>∀Q,h (.ret N) Q L) λI I I=>False):T.to h D:=by
 induction T with
 |ok u Q L=>induction u using FM.casesOn <;>first|exact j Q|exact(j:False).elim
 |err=>exact(j:False).elim|no=>exact(j:False).elim|ask a P K F=>exact ge.mono j F
inductive oR(c:aa)(a:Nat)(l:List Int):Prop
 |mk (items:Array J) (n:Nat) (aw:c.base.get? a=Y {cls:=.type "list",dict:=G,data:=.seq items n,slots:= #[]}) (r:aE (λuu uu=>G) c.base (l.map .int) items.toList) (le:l.length<=63)
noncomputable def D7(B:aa)(S:Nat):cN:=λc xs L=>.ask ⟨c,xs,L⟩ (Spec B S c xs L) .ok
theorem D8{B:aa}{S:Nat}:gN B S (D7 B S):=λ⟨_,Z,A⟩ r i=>ae.mono (Z _ _ _ r i) A λI I I y=>y.elim
noncomputable def kn :Expr:=.Constant .none 0 ⟨0,0,0,0⟩
noncomputable def rg :Pos:=⟨0,0,0,0⟩
def uo :aP->ah
 |.Assign [d] _ _=>d|_=>kn
def Qd :aP->ah
 |.Assign _ N _=>N|_=>kn
def Qe :aP->aN
 |.Assign _ _ p=>p|_=>rg
def yC :ah->ah
 |.IfExp d _ _ _=>d|_=>kn
def Qf :ah->ah
 |.IfExp _ v _ _=>v|_=>kn
def yD :ah->ah
 |.IfExp _ _ m _=>m|_=>kn
def D9 :ah->aN
 |.IfExp _ _ _ p=>p|_=>rg
def oS :ah->ah
 |.Call S _ _ _=>S|_=>kn
def Qg :ah->ah
 |.Call _ (v::_) _ _=>v|_=>kn
def Ea :ah->aN
 |.Call _ _ _ p=>p|_=>rg
def m3 :ah->ah
 |.Subscript N _ _=>N|_=>kn
def ko :ah->ah
 |.Subscript _ f _=>f|_=>kn
def rh :ah->aN
 |.Subscript _ _ p=>p|_=>rg
noncomputable def ri :ah->am
 |.Name x _=>x|_=>⟨#[]⟩
def rj :ah->aN
 |.Name _ p=>p|_=>rg
def lK :Stmt:=bk 87 0
def ei :Expr:=Qd lK
def kp :Expr:=Qf ei
def eC :Expr:=Qg kp
theorem Qh :lK=.Assign [.Name (ri (uo lK)) (rj (uo lK))] (.IfExp (yC ei) (.Call (.Name (ri (oS kp)) (rj (oS kp))) [.Subscript (m3 eC) (ko eC) (rh eC)] [] (Ea kp)) (yD ei) (D9 ei)) (Qe lK):=by kernel_rfl
def kq :a4:=fQ 87
noncomputable def Eb :Nat:=131669888571291
noncomputable def Qi :Nat:=1891209901
section
variable{B:aa}{b:Nat}{k:aF}{v:Nat}{g:List Int}{L:O}
def jr(B:aa):Rec:=ev (D7 B 60) meths 300
def gS(v:Nat):al:= [(Eb,.glob (.ref v))]
theorem Qj(S:oR B v g):Spec B b (.glob (.bi .len)) [.glob (.ref v)] L λT n=>T=.int g.length/\n=L:=λw x t r i s a H l A F P f c=>by
 have z:x=jA .len:=r _ _ f;refine au (oj (i _ _ f)) λN d Z=>?_;subst d;have q:N=.ref v:=Z;clear r;subst z q;obtain ⟨e,C,Q,T,K⟩:=S;have I:e.size=g.length:=by have:=T.length;simpa using this
 exact call_len_list (items:=e) (g9 _ (P.stays _ _ Q) rfl _ rfl) (by lia) (U I (⟨_,L,H,⟨rfl,rfl⟩,⟨_,rfl⟩,cY P⟩))
theorem Qk{w:Inv B}{f:Int}{T:List Int}(S:oR B v (f::T)){N t:J}(X:∀H j,w.p H j->aq H j (.glob (.ref v)) N)(W:∀H j,w.p H j->aq H j (.int 0) t){x h:ah}(R:∀v m,nA h E v m=jF [v,m] (nB v m)){D:Nat->Nat->O->Prop}:
  ae B b w L (l6 x h N t) bh (λi n=>i=.int f/\n=L) D:=λs a H l I I P u I=>by
 have g:N=.ref v:=X _ _ u;refine aD (W _ _ u) λQ z=>?_;clear X;subst g z;obtain ⟨e,C,F,⟨y,q,o,⟨d,Z⟩,_⟩,K⟩:=S;have c:l.heap.IsList v e:=g9 _ (P.stays _ _ F) rfl _ rfl;refine pu c.typeIs zQ.lookup ?_ (R _ _);refine Gx (x:=y) (k:=0) c (by decide) (by decide) ?_ ?_
 ·refine U (hf).symm ?_;refine U o ?_;rfl
 ·exact U Z (⟨_,L,H,⟨rfl,rfl⟩,⟨_,rfl⟩,cY P⟩)
end
section
variable{B:aa}{k:aF}{v:Nat}{g:List Int}{L:O}
def uq(B:aa)(v:Nat)(L:O):Res Bool:=(jr B).t (az 40 kq (yC ei)) (gS v) L
def Ql(B:aa)(v:Nat)(L:O):Prop:=(uq B v L).gU=Spec B 60 (.glob (.bi .len)) [.glob (.ref v)] L/\FinE E L ((uq B v L).cw (.int (.ofNat 0)) L)/\∀C:Nat,FinE M L ((uq B v L).cw (.int (.ofNat (C+1))) L)
def Ec(B:aa)(v:Nat)(L:O):Prop:=Spec B 60 (.glob (.bi .len)) [.glob (.ref v)] L=Spec B 60 (.glob (.bi .len)) [.glob (.ref v)] L/\(E=E/\L=L)/\∀_:Nat,M=M/\L=L
theorem Qm :Ql B v L=Ec B v L:=by kernel_rfl
def Qn(B:aa)(v:Nat)(L:O):Prop:=FinE (.glob (.bi .int)) L ((jr B).e (az 40 kq (.Name (ri (oS kp)) (rj (oS kp)))) (gS v) L)/\FinE (.glob (.ref v)) L ((jr B).e (az 40 kq (m3 eC)) (gS v) L)/\FinE (.int 0) L ((jr B).e (az 40 kq (ko eC)) (gS v) L)/\FinE (.int 3) L ((jr B).e (az 40 kq (yD ei)) (gS v) L)
def Ed(v:Nat)(L:O):Prop:=(V.glob (.bi .int)=.glob (.bi .int)/\L=L)/\(V.glob (.ref v)=.glob (.ref v)/\L=L)/\(V.int 0=.int 0/\L=L)/\(V.int 3=.int 3/\L=L)
theorem Qo :Qn B v L=Ed v L:=by kernel_rfl
theorem notAttr{y:am}{Z:aN}:∀r v u,(Expr.Name y Z)≠.Attribute r v u:=λI I I j=>by cases j
theorem Qp :pv (ko eC)=true:=by kernel_rfl
noncomputable def rk :List Int->Int
 | []=>3|f::_=>f
theorem Qq(R:TopAll B)(S:oR B v g)(x:a8 kq k):bq B 60 k (gS v) L (.IfExp (yC ei) (.Call (.Name (ri (oS kp)) (rj (oS kp))) [.Subscript (m3 eC) (ko eC) (rh eC)] [] (Ea kp)) (yD ei) (D9 ei)) (λy n=>y=.int (rk g)/\n=L) λI I I=>False:=by
 have K:ej B 60 (jr B):=qy R.toFine R.mt R.ll R.ex D8 300;refine br (Qm.mpr (show Ec B v L from(aQ rfl ⟨rfl,rfl⟩ (λI=>⟨rfl,rfl⟩)))) λp W TV=>e7 ((Qo (B:=B)).mpr (show Ed v L from(g8 ⟨rfl,rfl⟩ ⟨rfl,rfl⟩ ⟨rfl,rfl⟩ rfl rfl))) λQ X T1 TS=>zM (K.t x (show(uq B v L).to _ _ from lx _ p (Qj S) λy n UP=>ak UP λz w=>(U z (U w ?_))));clear z;induction g using aS with|nil=>exact toE W (K.e x (toE TS ⟨rfl,rfl⟩))|cons f T=>
  refine toE (TV T.length) ?_;show ae B 60 _ L (aX (.Call _ _ [] _) k) _ _ _;rw[wt _ notAttr];refine ae.bind (K.e x (toE Q λA=>λs b H l Z F P u c=>?_));have h:A=h7 (.bi .int):=u.2;subst h;refine sB R.dR (w:=(loc B k (gS v)).and (ee (.glob (.bi .int)) (h7 (.bi .int)))) (k:=k) (Q:=gS v) (h:=λy m=>y=.int f/\m=L) (C:=bh) (by kernel_rfl) (wp .int) (λI I f=>f.1) (nn rfl ?_) s b H l Z F P u c
  have C:aX (.Subscript (m3 eC) (ko eC) (rh eC)) k=(aX (m3 eC) k>>=λr=>bO [r] (aX (ko eC) k)>>=λD=>bT (rh eC)>>=λI=>l6 (m3 eC) (ko eC) r D):=by rw[H1];rfl
  show ae B 60 _ L (aX (.Subscript (m3 eC) (ko eC) (rh eC)) k) _ _ _;refine U C (ae.bind (K.e x (toE X λN=>(ae.bind (ae.holding (ae.weak (K.e x (toE T1 λa=>?_)) and_left))))));refine ae.standAt (ae.q (Qk (w:=((loc B k (gS v)).and (ee (.glob (.ref v)) N)).and (ee (.int 0) a)) S (λI I f=>f.1.2) (λI I f=>f.2) λv TR=>?_) (λTU m o=>ak o λUJ TY=>?_))
  ·have:=Qp;revert this;generalize ko eC=TW;intro j;induction TW using bE <;>first|rfl|exact aG j
  ·subst UJ TY;refine pl λd=>?_;show ae B 60 _ m (bV (jA .int) d) bh _ _;exact CZ R.toTopOk (w:=((loc B k (gS v)).and (ee (.glob (.bi .int)) (h7 (.bi .int)))).and (l0 [.int f] d)) (m:=.int) (x:= [.int f]) (h:=λy i=>y=.int f/\i=m) (D:=λI I I=>False) (show(Res.ok (V.int f) m).to _ _ from⟨rfl,rfl⟩) λI I f=>f.2
end
noncomputable def bR(C:Nat):V:=.int (.ofNat C)
def ur(L:O)(p:Int):(V->O->Prop)->Prop:=λΦ=>∃i,f8 L .GtE (.int p) (.int 1000000000000000000)=Y i/\Φ (.bool i) L
def yE(T:Res V)(v m:Int):Prop:=Res.rec (λN L=>N=.ref 2 0/\L.get 2 0=Y (.list [.int v,.int m])) (λI I I=>False) False (λI I I I=>False) T
def Ee(v m:Int):Prop:=V.ref 2 0=.ref 2 0/\Y (aj.list [.int v,.int m])=Y (.list [.int v,.int m])
def Ef(v:Nat)(x:V):al:= [(Eb,.glob (.ref v)),(Qi,x)]
section
variable{B:aa}{k:aF}{v:Nat}{g:List Int}
def js(B:aa)(v:Nat)(f:Int):Res V:=be.yB ((jr B).ss ([bk 87 1,bk 87 2].map (bY 40 kq)) (Ef v (.int f)) (iC 0 2))
def yF(B:aa)(v:Nat)(f p:Int):Prop:=(js B v f).gU=ur (js B v f).a7.σ p/\yE ((js B v f).cw (.bool M) (js B v f).a7.σ) p (p.fmod 999961+41)/\yE ((js B v f).cw (.bool E) (js B v f).a7.σ) 0 (p.fmod 999961+41)
def Eg(B:aa)(v:Nat)(f p:Int):Prop:=ur (js B v f).a7.σ p=ur (js B v f).a7.σ p/\Ee p (p.fmod 999961+41)/\Ee 0 (p.fmod 999961+41)
theorem Qr{C:Nat}:yF B v (.ofNat C) (.ofNat C)=Eg B v (.ofNat C) (.ofNat C):=by kernel_rfl
theorem Qs{C:Nat}:yF B v (.negSucc C) (-1- .negSucc C)=Eg B v (.negSucc C) (-1- .negSucc C):=by kernel_rfl
theorem Qt :j6 87= [lK,bk 87 1,bk 87 2]:=by kernel_rfl
theorem Qu{y:V}{L:O}:kR (jr B) (fK 40 kq (.Name (ri (uo lK)) (rj (uo lK)))) y (gS v) L=.ok (Ef v y) L:=by kernel_rfl
theorem Qv(l:TopAll B)(TU:fv B 870 (lq 87) (j6 87) (j7 87) [])(S:oR B v g){h Q:Nat}:Spec B 61 (.glob (.ref 870)) [.glob (.ref v)] (iC 0 0) λT n=>T=.ref 2 0/\∃x X:Nat,n=km h Q [bR x,bR X]:=by
 have K:ej B 60 (jr B):=qy l.toFine l.mt l.ll l.ex D8 300;refine Spec.small (g:=iC 0 2) (λA f r o=>by rw[oP] at o;exact ag o) (λA f=>by rw[oP,oP]) (λx c=>by rw[cy.mp c];exact trivial) (e:=λT n=>T=.ref 2 0/\∃x X:Nat,n.get 2 0=Y (.list [bR x,bR X])) ?_ λT n ⟨H,x,X,b⟩=>?_
 ·refine Spec.xF l.toTopOk TU (a:=q3 87) (Q:=gS v) (by kernel_rfl) (by kernel_rfl) (by kernel_rfl) λk i=>?_
  rw[Qt];refine qh ?_;rw[Qh];refine J3 rfl rfl (λI I j=>by cases j) rfl (ae.q (Qq l S i) (λx UP y N=>ak y λC w=>?_))
  subst C w;refine wZ (R:=jr B) (W:=40) (a:=kq) l.toFine K.toROk i (λI I f=>f) ?_;rw[Qu];refine K.ss (d:=40) i (D6 ?_);obtain ⟨z,Z,W,ek,gw,oI⟩:∃z:Nat,∃Z:Int,Z=.ofNat z/\yF B v (rk g) Z:=by
   cases rk g with|ofNat z=>exact d9 z _ rfl (Qr.mpr (bP rfl ⟨rfl,rfl⟩ rfl rfl))|negSucc z=>exact d9 z (-1- .negSucc z) (by rw[Int.negSucc_eq];show(-1:Int)- -(↑z+1)=↑z;lia) (Qs.mpr (bP rfl ⟨rfl,rfl⟩ rfl rfl))
  have F:=P8 Z z W;have D:∀{T:Res V} {u t:Int} {x X:Nat},u=.ofNat x->t=.ofNat X->yE T u t->T.to (λN L=>∀Ui:al,N=.ref 2 0/\∃x X:Nat,L.get 2 0=Y (.list [bR x,bR X])) λI I I=>False:=λ{T u t x X} e F o=>by
   induction T using Res.casesOn with|ok N L=>exact ak ((show N=.ref 2 0/\L.get 2 0=Y (.list [.int u,.int t]) from o)) λC w=>λI=>max C x ⟨X,by rw[w,e,F];rfl⟩|err=>exact o.elim|no=>exact o.elim|ask=>exact o.elim
  show(js B v (rk g)).to _ _;revert ek gw oI;generalize js B v (rk g)=T;intro ek gw oI;induction T using Res.casesOn with
  |ask a P K=>
   replace ek:P=ur a.σ Z:=ek;subst ek;refine⟨λm L=>L=a.σ/\(m=.bool M\/m=.bool E),cW _ rfl rfl ?_,λm L UE=>ak UE λC w=>?_⟩
   ·show V.bool (cK (ltI Z 1000000000000000000))=_\/V.bool (cK (ltI Z 1000000000000000000))=_;generalize (cK (ltI Z 1000000000000000000))=p;induction p using ap with|true=>exact .inl rfl|false=>exact .inr rfl
   ·subst C;rcases w with rfl|rfl
    ·exact D W F gw
    ·exact D (x:=0) rfl F oI
  |ok=>exact gw.elim|err=>exact gw.elim|no=>exact gw.elim
 ·refine kA (km h Q [bR x,bR X]) (λA f r o=>?_) (λA f o=>(by rw[oP] at o;exact aG o)) (by rw[H];exact⟨rfl,rfl⟩) H ⟨x,X,rfl⟩
  rw[rf] at o;refine br (um o) λs Ue TR=>?_;subst s;subst Ue;clear o;subst TR;exact g8 rfl b trivial trivial trivial
end
def be.res(T:be):Res al:=be.rec (λu Q L=>match u with
 |.next=>.ok Q L|_=>.no) (λI I I I=>.no) .no (λa P I F=>.ask a P F) T
theorem Eh{T:be}{h:al->O->Prop}{d:FM->al->O->Prop}{D:Nat->Nat->O->Prop}(j:T.res.to h λI I I=>False):T.to (gj h d) D:=by
 induction T with
 |ok u Q L=>induction u using FM.casesOn <;>first|exact j|exact(j:False).elim
 |err=>exact(j:False).elim|no=>exact(j:False).elim|ask a P K F=>exact ge.mono j F
def lL :List (Nat×V)->al->Prop
 | [],_=>True|p::T,Q=>aL p.1 Q=Y p.2/\lL T Q
def yG :List (Nat×V)->Prop
 | []=>True|p::T=>Y p.2=Y p.2/\yG T
theorem Qw :∀g,yG g:=by
 intro s;induction s with|nil=>exact trivial|cons _ T F=>exact⟨rfl,F⟩
theorem Qx :∀{c:List (Nat×V)} {Q:al} {y:Nat} {N:V},lL c Q->aL y c=Y N->aL y Q=Y N:=by
 intro s;induction s with|nil=>intro I I I I o;exact ag o|cons Z T F=>
  intro Q y N j o;replace o:(match Nat.beq Z.1 y with|true=>Y Z.2|false=>aL y T)=Y N:=o
  generalize u:Nat.beq Z.1 y=K;induction K using ap with|true=>rw[u] at o;exact U (an o).symm (U (Nat.eq_of_beq_eq_true u).symm j.1)|false=>rw[u] at o;exact F j.2 o
theorem Ei :∀{c:List (Nat×V)} {y:Nat} {N:V},aL y c=Y N->∃X,(X,N)∈c:=by
 intro s;induction s with|nil=>intro I I o;exact ag o|cons Z T F=>
  intro y N o;replace o:(match Nat.beq Z.1 y with|true=>Y Z.2|false=>aL y T)=Y N:=o
  generalize u:Nat.beq Z.1 y=K;induction K using ap with|true=>replace o:=u▸o;exact U (an o).symm (⟨Z.1,.head _⟩)|false=>replace o:=u▸o;exact aD (F o) λX j=>⟨X,.tail _ j⟩
theorem Ej{c:List (Nat×V)}{Q:al}(j:lL c Q)(S:∀Z∈c,fw om Z.2):mG c Q:=λI I o=>⟨Qx j o,aD (Ei o) λI z=>S _ z⟩
def oU(c:List (Nat×V))(Z:Nat->Nat->Option aj)(T:Res al):Prop:=Res.rec (λQ L=>lL c Q/\L.aw=Z) (λI I I=>False) False (λI I I I=>False) T
def rl(c:List (Nat×V))(Z:Nat->Nat->Option aj):Prop:=yG c/\Z=Z
theorem us{c:List (Nat×V)}{Z:Nat->Nat->Option aj}:rl c Z:=⟨Qw c,rfl⟩
theorem toL{c:List (Nat×V)}{Z:Nat->Nat->Option aj}{T:Res al}{h:al->O->Prop}{D:Nat->Nat->O->Prop}(o:oU c Z T)(A:∀Q L,lL c Q->L.aw=Z->h Q L):T.to h D:=by
 induction T using Res.casesOn with|ok Q L=>exact A Q L o.1 o.2|err=>exact o.elim|no=>exact o.elim|ask=>exact o.elim
noncomputable def Qy :Nat:=1857457337
noncomputable def Qz :Nat:=446743839752
noncomputable def QA :Nat:=1721659553
noncomputable def QB :Nat:=507904022808
noncomputable def hz :Nat:=1891805901
noncomputable def fC :Nat:=8083284
noncomputable def lM :Nat:=1721662135
noncomputable def oV :Nat:=6767425
noncomputable def fm :Nat:=446982207522
noncomputable def kr :Nat:=8084300
noncomputable def Ek :Nat:=1993454026
noncomputable def TN :Nat:=1993648315
def bj :al:= [(Qy,.ref 2 0),(Qz,.ref 1 865),(QA,.ref 2 1),(QB,.ref 2 2)]
theorem yH{c:List (Nat×V)}(j:∀Z∈c,aM Z.2):∀Z∈bj++c,fw om Z.2:=λZ S=>by
 rcases lz.mp S with S|S
 ·refine fE S ?_;repeat' (first|exact et|refine es ?_ ?_|exact λi=>by cases i)
 ·exact gt _ (j Z S)
section
variable(B:aa)
def oW :Nat->Bool:=λv=>c5 v [870,884,877,891,959,945,938,952,596,499,549,617,966,697]
def QC :cN:=v7 (di B 25) oW (c7 (di B) oW 300 25)
def rm(C:Nat):Rec:=ev (QC B) meths C
abbrev m4 :a4:=fQ 102
abbrev bz(e:ar):O:=⟨.nil,0,0,view e aT⟩
def jt(g:List aP)(Q:al)(L:O):Res al:=((rm B 300).ss (g.map (bY 40 m4)) Q L).res
def ut(o:ah)(Q:al)(L:O):Res Bool:=(rm B 300).t (az 40 m4 o) Q L
end
section
variable{B:aa}{k:aF}{r:O}{h:FM->al->O->Prop}{D:Nat->Nat->O->Prop}
structure er(B:aa)(k:aF):Prop where
 T:TopAll B
 H:a8 m4 k
theorem er.K(W:er B k)(C:Nat):ej B 125 (rm B C):=qy W.T.toFine W.T.mt W.T.ll W.T.ex (C1 oW (xC W.T.toTopOk oW 300 25).1) C
theorem rn{e:ar}(ok:LsOk e){L:O}(j:∀A C,A≠0->L.get A C=view e aT A C):ln L (bz e):=
 ⟨λA C m=>by refine U (j A C m) ?_;exact eL m,λI=>rfl,λA C r m o=>by rw[j A C m] at o;exact yu ok (λI I u=>ag u) m o⟩
theorem uv{d:aZ f6}{e:ar}{c:List (Nat×V)}{Q:al}{L:O}(i:∀C,r.get 0 C=G)(ok:LsOk e)(n:∀Z∈c,aM Z.2)(u:lL (bj++c) Q)(j:∀A C,A≠0->L.get A C=view e aT A C)
  (A:a9 B 125 k r d (bj++c) (bz e) h D):a9 B 125 k r d Q L h D:=
 A.less i (rn ok j) (Ej u (yH n))
theorem uw(W:er B k){g z:List aP}{Q:al}{L:O}(j:(jt B g Q L).to (λQ L=>a9 B 125 k r (bb z k) Q L h D) λI I I=>False):a9 B 125 k r (bb (g++z) k) Q L h D:=
 a9.pre W.K W.H (Eh j)
theorem QD(W:er B k){d:ah}{v m:List aP}{z:aN}{Q:al}{L:O}(j:(ut B d Q L).to (λu L=>match u with|true=>a9 B 125 k r (bb v k) Q L h D|false=>a9 B 125 k r (bb m k) Q L h D) D):a9 B 125 k r (b0 (.If d v m z) k) Q L h D:=
 a9.ite (W.K 300) W.H j
end
set_option backward.match.sparseCases false
noncomputable def ro :aP->ah
 |.For d _ _ _ _=>d|_=>.Constant .none 0 ⟨0,0,0,0⟩
noncomputable def ux :aP->ah
 |.For _ d _ _ _=>d|_=>.Constant .none 0 ⟨0,0,0,0⟩
noncomputable def lN :aP->List aP
 |.For _ _ m _ _=>m|_=> []
noncomputable def QE :aP->aN
 |.For _ _ _ _ p=>p|_=>⟨0,0,0,0⟩
noncomputable def ju :aP->ah
 |.If d _ _ _=>d|_=>.Constant .none 0 ⟨0,0,0,0⟩
noncomputable def gY :aP->List aP
 |.If _ v _ _=>v|_=> []
noncomputable def iD :aP->List aP
 |.If _ _ m _=>m|_=> []
noncomputable def QF :aP->aN
 |.If _ _ _ p=>p|_=>⟨0,0,0,0⟩
noncomputable def uy(g:List aP)(k:Nat):Stmt:=(g[k]?).getD (.Pass ⟨0,0,0,0⟩)
def d7(k:Nat):Stmt:=uy (lN (bk 102 2)) k
def gZ(k:Nat):Stmt:=uy (gY (d7 1)) k
def lc(k:Nat):Stmt:=uy (iD (d7 1)) k
def oX(l:aP):Stmt:=.If (ju l) (gY l) (iD l) (QF l)
def uz(l:aP):Stmt:=.For (ro l) (ux l) (lN l) [] (QE l)
theorem QG :lN (bk 102 2)= [d7 0]++ [oX (d7 1),d7 2]:=by kernel_rfl
def iE :List Stmt:= [gZ 0,gZ 1,gZ 2,gZ 3,gZ 4]
theorem QH :gY (d7 1)=iE++([gZ 5]++ []):=by kernel_rfl
theorem QI :iD (d7 1)= [lc 0]++([lc 1]++ [oX (lc 2),oX (lc 3)]):=by kernel_rfl
def cF(z t:Nat)(W:ar):cb:=.call 877 125 0 [.ref 2 0,bR z] G (bR t) W G
noncomputable def rp(N:V)(W:ar):cb:=.call 891 125 0 [.ref 2 0,.ref 2 1] G N W G
def dV(f t:Nat):al:=bj++ [(hz,bR f),(fC,bR t)]
section
variable(B:aa)
@[irreducible] def dJ(g:List aP)(c:al)(e:ar)(st:List cb)(f:al)(Z:Nat->Nat->Option aj):Prop:=hx B aT (oU f Z) st e (jt B g c (bz e))
@[irreducible] def e4(g:List aP)(c:al)(e:ar)(st:List cb)(f:al)(Z:Nat->Nat->Option aj):Prop:=jp B aT (λI=>rl f Z) st e (jt B g c (bz e))
theorem fD(g:List aP)(c:al)(e:ar)(st:List cb)(f:al)(Z:Nat->Nat->Option aj):e4 B g c e st f Z:=by unfold e4;exact jq (λI=>us) _ _ _
@[irreducible] def lO(o:ah)(c:al)(e:ar)(st:List cb)(m:Bool)(Z:Nat->Nat->Option aj):Prop:=hx B aT (λT=>cC T m Z) st e (ut B o c (bz e))
@[irreducible] def oY(o:ah)(c:al)(e:ar)(st:List cb)(m:Bool)(Z:Nat->Nat->Option aj):Prop:=jp B aT (λI:Res Bool=>m=m/\Z=Z) st e (ut B o c (bz e))
theorem uA(o:ah)(c:al)(e:ar)(st:List cb)(m:Bool)(Z:Nat->Nat->Option aj):oY B o c e st m Z:=by unfold oY;exact jq (λI=>⟨rfl,rfl⟩) _ _ _
variable{B}
theorem dJ.ch{g:List aP}{c:al}{e:ar}{st:List cb}{f:al}{Z:Nat->Nat->Option aj}(j:dJ B g c e st f Z):hx B aT (oU f Z) st e (jt B g c (bz e)):=by unfold dJ at j;exact j
theorem lO.ch{o:ah}{c:al}{e:ar}{st:List cb}{m:Bool}{Z:Nat->Nat->Option aj}(j:lO B o c e st m Z):hx B aT (λT=>cC T m Z) st e (ut B o c (bz e)):=by unfold lO at j;exact j
end
section
variable{B:aa}{e:ar}
theorem QJ :dJ B [d7 0] (bj++ [(hz,bR 0)]) e [] (dV 0 0) (view e aT)=e4 B [d7 0] (bj++ [(hz,bR 0)]) e [] (dV 0 0) (view e aT):=by kernel_rfl
theorem QK{f t:Nat}{x:ar}:dJ B [d7 0] (bj++ [(hz,bR (f+1))]) e [cF 6 t x] (dV (f+1) t) (view x aT)=e4 B [d7 0] (bj++ [(hz,bR (f+1))]) e [cF 6 t x] (dV (f+1) t) (view x aT):=by kernel_rfl
noncomputable def yI(t:Nat):Bool:=Nat.blt t 2
theorem QL{f:Nat}:allI 6 (λt=>lO B (ju (d7 1)) (dV f t) e [] (yI t) (view e aT))=allI 6 (λt=>oY B (ju (d7 1)) (dV f t) e [] (yI t) (view e aT)):=by kernel_rfl
noncomputable def dp(q:Nat):Nat:=([2,2,2,2,2,1,3][q]?).getD 0
def rq(z:Nat):cr:=(e2[z]?).getD b1
def oZ(A:cr)(x:List V)(R C:V)(a j:ar):List cb:= [.call 959 125 0 [.glob (.ref 704),.ref 1 865,.ref 7 0] (Y (cj A.K::x)) R a G,.call 945 125 0 [A.K,.ref 7 0,.ref 2 2] (Y x) C j G]
def cc(R C:V):al:=bj++ [(lM,R),(oV,C)]
variable{H x:ar}{t:List (V×ar)}{R C:V}{a j:ar}{X L b:V}{T k c:ar}
def lP(C:Nat)(t:List (V×ar)):List cb:=(t.take C).map λp=>rp p.1 p.2
noncomputable def uB(C:Nat)(t:List (V×ar)):List V:=(t.take C).map λp=>p.1
def QM :List V:= [vInt cD 9,ey [98,101,103,105,110]]
def El(x:ar)(t:List (V×ar))(R C:V)(a j:ar)(q:Nat):List cb:=cF 7 q x::(lP (dp q) t++oZ b1 QM R C a j)
theorem QN :allI 7 (λu=>dJ B iE (dV 0 0) e (El x [(X,T),(L,k),(b,c)] R C a j u) (cc R C) (view j aT))=allI 7 (λu=>e4 B iE (dV 0 0) e (El x [(X,T),(L,k),(b,c)] R C a j u) (cc R C) (view j aT)):=by kernel_rfl
def uC(x:ar)(t:List (V×ar))(R C:V)(a j:ar)(A:cr)(q:Nat):List cb:=cF 7 q x::(lP (dp q) t++oZ A (uB (dp q) t) R C a j)
theorem QO{f:Nat}:allI 7 (λu=>dJ B iE (dV (f+1) 0) e (uC x [(X,T),(L,k),(b,c)] R C a j b1 u) (cc R C) (view j aT))=allI 7 (λu=>e4 B iE (dV (f+1) 0) e (uC x [(X,T),(L,k),(b,c)] R C a j b1 u) (cc R C) (view j aT)):=by kernel_rfl
theorem QP{f:Nat}:allI 3 (λz=>allI 7 (λu=>dJ B iE (dV (f+1) 1) e (cF 3 z H::uC x [(X,T),(L,k),(b,c)] R C a j (rq z) u) (cc R C) (view j aT)))=allI 3 (λz=>allI 7 (λu=>e4 B iE (dV (f+1) 1) e (cF 3 z H::uC x [(X,T),(L,k),(b,c)] R C a j (rq z) u) (cc R C) (view j aT))):=by kernel_rfl
end
set_option backward.match.sparseCases true
section
variable{B:aa}{w:Nat->Option aj}{v m:Nat}{q r:List V}{P a:List (V×V)}{y N:V}
def uD(e:ar)(y:V):Nat->Nat->Option aj:=((bz e).set 2 1 (Y (.list (e.held++ [y])))).aw
abbrev Em(B:aa)(v m:Nat)(r:List V)(P a:List (V×V))(y:V)(q:List V):Prop:=dJ B [gZ 5] (cc (bn y) (bn y)) ⟨v,m,q,P,a,r⟩ [] (cc (bn y) (bn y)) (uD ⟨v,m,q,P,a,r⟩ y)=e4 B [gZ 5] (cc (bn y) (bn y)) ⟨v,m,q,P,a,r⟩ [] (cc (bn y) (bn y)) (uD ⟨v,m,q,P,a,r⟩ y)
theorem QQ(j:q.length<=7):Em B v m r P a y q:=
 mM (a:=λq=>Em B v m r P a y q) j (by kernel_rfl) (by intros;kernel_rfl) (by intros;kernel_rfl) (by intros;kernel_rfl) (by intros;kernel_rfl) (by intros;kernel_rfl) (by intros;kernel_rfl) (by intros;kernel_rfl)
theorem QR{e:ar}:dJ B [gZ 5] (cc (a3 y) (a3 y)) e [] (cc (a3 y) (a3 y)) (view e aT)=e4 B [gZ 5] (cc (a3 y) (a3 y)) e [] (cc (a3 y) (a3 y)) (view e aT):=by kernel_rfl
def QS(e:ar)(T:Res al):Prop:=T.gU=ki T.a7.σ (.ref 0 (gx T.a7.xs)) (.ref 2 2)/\T.a7.σ.aw=view e aT/\T.a7.σ.t.get (gx T.a7.xs)=Y (.list (dj 10 0 e.Q.length 0))/\oU bj (view e aT) (T.cw (.bool E) T.a7.σ)
def QT(e:ar)(T:Res al):Prop:=ki T.a7.σ (.ref 0 (gx T.a7.xs)) (.ref 2 2)=ki T.a7.σ (.ref 0 (gx T.a7.xs)) (.ref 2 2)/\view e aT=view e aT/\Y (aj.list (dj 10 0 e.Q.length 0))=Y (aj.list (dj 10 0 e.Q.length 0))/\rl bj (view e aT)
def rr(B:aa)(e:ar)(R:V):Prop:=hx B aT (QS e) [.cmp R R] e (jt B [d7 2] (cc R R) (bz e))
def yJ(B:aa)(e:ar)(R:V):Prop:=jp B aT (QT e) [.cmp R R] e (jt B [d7 2] (cc R R) (bz e))
theorem En(e:ar)(R:V):yJ B e R:=jq (λI=>bP rfl rfl rfl us) _ _ _
abbrev p9(B:aa)(v m:Nat)(q r:List V)(P:List (V×V))(y:V)(a:List (V×V)):Prop:=(rr B ⟨v,m,q,P,a,r⟩ (bn y)/\rr B ⟨v,m,q,P,a,r⟩ (a3 y))=(yJ B ⟨v,m,q,P,a,r⟩ (bn y)/\yJ B ⟨v,m,q,P,a,r⟩ (a3 y))
theorem QU(j:a.length<=8):p9 B v m q r P y a:=
 ix (a:=λa=>p9 B v m q r P y a) j (by kernel_rfl) (by intros;kernel_rfl) (by intros;kernel_rfl) (by intros;kernel_rfl) (by intros;kernel_rfl) (by intros;kernel_rfl) (by intros;kernel_rfl) (by intros;kernel_rfl) (by intros;kernel_rfl)
def lQ(t:Nat)(N:V):al:=bj++ [(fC,bR t),(fm,N)]
def Eo(B:aa)(e x u:ar)(f t:Nat)(N:V):Prop:=dJ B [lc 0] (dV (f+1) t) e [cF 5 0 x,rp N u] (lQ t N) (view u aT)/\allI 4 (λl=>allI e.held.length (λk=>dJ B [lc 0] (dV (f+1) t) e [cF 5 (l+1) x,cF e.held.length k u] (lQ t (d6 e.held k)) (view u aT)))
def Ep(B:aa)(e x u:ar)(f t:Nat)(N:V):Prop:=e4 B [lc 0] (dV (f+1) t) e [cF 5 0 x,rp N u] (lQ t N) (view u aT)/\allI 4 (λl=>allI e.held.length (λk=>e4 B [lc 0] (dV (f+1) t) e [cF 5 (l+1) x,cF e.held.length k u] (lQ t (d6 e.held k)) (view u aT)))
theorem QV(e x u:ar)(f t:Nat)(N:V):Ep B e x u f t N:=⟨fD ..,eM (λI=>eM (λI=>fD ..) _) _⟩
abbrev Er(B:aa)(v m s z L Q:Nat)(r:List V)(P a:List (V×V))(f t:Nat)(N:V)(q:List V):Prop:=Eo B ⟨v,m,q,P,a,r⟩ ⟨s,z,q,P,a,r⟩ ⟨L,Q,q,P,a,r⟩ f t N=Ep B ⟨v,m,q,P,a,r⟩ ⟨s,z,q,P,a,r⟩ ⟨L,Q,q,P,a,r⟩ f t N
theorem QW{s z L Q f t:Nat}(j:q.length<=7):Er B v m s z L Q r P a f t N q:=
 mM (a:=λq=>Er B v m s z L Q r P a f t N q) j (by kernel_rfl) (by intros;kernel_rfl) (by intros;kernel_rfl) (by intros;kernel_rfl) (by intros;kernel_rfl) (by intros;kernel_rfl) (by intros;kernel_rfl) (by intros;kernel_rfl)
def dW(t:Nat)(N:V)(A:aJ):al:=bj++ [(fC,bR t),(fm,N),(kr,b2 A)]
def uE(A:Nat):aJ:=(([.sym dU,.sym d5,.sym d3,.sym gW]:List aJ)[A]?).getD (.sym dU)
theorem QX{e x:ar}{t:Nat}:allI 4 (λA=>dJ B [lc 1] (lQ t N) e [cF 4 A x] (dW t N (uE A)) (view x aT))=allI 4 (λA=>e4 B [lc 1] (lQ t N) e [cF 4 A x] (dW t N (uE A)) (view x aT)):=by kernel_rfl
theorem QY{e x:ar}{t:Nat}{A:aJ}:(lO B (ju (lc 2)) (dW t N A) e [cF 2 0 x] M (view x aT)/\lO B (ju (lc 2)) (dW t N A) e [cF 2 1 x] E (view x aT))=(oY B (ju (lc 2)) (dW t N A) e [cF 2 0 x] M (view x aT)/\oY B (ju (lc 2)) (dW t N A) e [cF 2 1 x] E (view x aT)):=by kernel_rfl
theorem QZ{e x:ar}{t:Nat}{A:aJ}:allI 4 (λC=>dJ B (gY (lc 2)) (dW t N A) e [cF 4 C x] (dW t N (.num C)) (view x aT))=allI 4 (λC=>e4 B (gY (lc 2)) (dW t N A) e [cF 4 C x] (dW t N (.num C)) (view x aT)):=by kernel_rfl
noncomputable def yK(t:Nat):Bool:=Nat.blt t 4
theorem Q0{e:ar}{A:aJ}:allI 6 (λt=>lO B (ju (lc 3)) (dW t N A) e [] (yK t) (view e aT))=allI 6 (λt=>oY B (ju (lc 3)) (dW t N A) e [] (yK t) (view e aT)):=by kernel_rfl
end
section
variable{B:aa}{v m:Nat}{q r:List V}{P a:List (V×V)}{N R S y:V}{e:ar}
def jv(k:Nat):Stmt:=uy (gY (lc 3)) k
theorem Q1 :gY (lc 3)= [jv 0]++([jv 1]++ []):=by kernel_rfl
def m5(R S N:V):al:=bj++ [(lM,R),(Ek,S),(fm,N)]
def Es(e:ar)(N:V)(A:aJ)(R S:V):List cb:= [.call 959 125 0 [.glob (.ref 664),.ref 1 865,.ref 7 0] (Y [N,b2 A]) R e G,.call 938 125 0 [N,b2 A,.ref 2 2] G S e G]
theorem Q2{t:Nat}{A:aJ}:dJ B [jv 0] (dW t N A) e (Es e N A R S) (m5 R S N) (view e aT)=e4 B [jv 0] (dW t N A) e (Es e N A R S) (m5 R S N) (view e aT):=by kernel_rfl
theorem Q3 :dJ B [jv 1] (m5 R (a3 y) N) e [] (cc R (a3 y)) (view e aT)=e4 B [jv 1] (m5 R (a3 y) N) e [] (cc R (a3 y)) (view e aT):=by kernel_rfl
def rs(B:aa)(e:ar)(R N:V)(C:Nat):Prop:=dJ B [jv 1] (m5 R (bR C) N) e [] (cc R (bn (d6 (dO e.P N) C))) (view e aT)
def uF(B:aa)(e:ar)(R N:V)(C:Nat):Prop:=e4 B [jv 1] (m5 R (bR C) N) e [] (cc R (bn (d6 (dO e.P N) C))) (view e aT)
theorem yL(e:ar)(R N:V)(C:Nat):uF B e R N C:=fD ..
theorem Q4 :iA lits (λN I=>allI (dO [] N).length (rs B e R N))=iA lits (λN I=>allI (dO [] N).length (uF B e R N)):=by kernel_rfl
theorem Q5{A Z u:V}:allI 2 (rs B e R (cQ (bH A) Z u))=allI 2 (uF B e R (cQ (bH A) Z u)):=by kernel_rfl
abbrev Et(B:aa)(v m:Nat)(q r:List V)(a:List (V×V))(R:V)(P:List (V×V)):Prop:=allI P.length (λk=>allI 2 (rs B ⟨v,m,q,P,a,r⟩ R (aV k)))=allI P.length (λk=>allI 2 (uF B ⟨v,m,q,P,a,r⟩ R (aV k)))
theorem Q6(j:P.length<=8):Et B v m q r a R P:=
 ix (a:=λP=>Et B v m q r a R P) j (by kernel_rfl) (by intros;kernel_rfl) (by intros;kernel_rfl) (by intros;kernel_rfl) (by intros;kernel_rfl) (by intros;kernel_rfl) (by intros;kernel_rfl) (by intros;kernel_rfl) (by intros;kernel_rfl)
def Eu(N:V)(A:aJ)(y R C:V)(x a j:ar):List cb:= [rp y x,.call 959 125 0 [.glob (.ref 683),.ref 1 865,.ref 7 0] (Y [N,b2 A,y]) R a G,.call 952 125 0 [N,b2 A,y,.ref 2 2] G C j G]
theorem Q7{t:Nat}{A:aJ}{C:V}{x a j:ar}:dJ B (iD (lc 3)) (dW t N A) e (Eu N A y R C x a j) (cc R C) (view j aT)=e4 B (iD (lc 3)) (dW t N A) e (Eu N A y R C x a j) (cc R C) (view j aT):=by kernel_rfl
end
theorem Val.mono{L b W a:Nat}{N K:V}(Z:Val L W N K)(c:L<=b)(hd:W<=a):Val b a N K:=by
 induction Z generalizing a with|lit j=>exact .lit j|st j _ _ d f=>refine aD (kB (by assumption)) λk Q=>?_;subst Q;exact .st j (d (Nat.le_of_succ_le_succ (by assumption))) (f (Nat.le_of_succ_le_succ (by assumption)))|dh j=>exact .dh (by lia)
structure bK(i:Nat)(ls:ar):Prop where
 ok:LsOk ls
 fo:ls.P=ls.Q
 hP:ls.held.length<=i
 kt:ls.Q.length<=i
 h0:0<i->∃hs,ls.held=aV 0::hs
 rt:0<i->0<ls.Q.length
 fP:∀v∈ls.held,∃K,Val ls.Q.length i v K
 lR:∀p∈ls.Q,cz p.1 40/\cz p.2 40
theorem bK.dK{f:Nat}{e:ar}(w:bK f e)(v m:Nat):bK f (mZ e v m):=⟨h4 w.ok,w.fo,w.hP,w.kt,w.h0,w.rt,w.fP,w.lR⟩
theorem bK.up{f:Nat}{e:ar}(w:bK (f+1) e):bK (f+2) e:=
 ⟨w.ok,w.fo,Nat.le_succ_of_le w.hP,Nat.le_succ_of_le w.kt,λI=>w.h0 (Nat.succ_pos _),λI=>w.rt (Nat.succ_pos _),λN i=>aD (w.fP N i) λK Z=>⟨K,Z.mono (Nat.le_refl _) (Nat.le_succ _)⟩,w.lR⟩
def TurnEnd(f:Nat)(Q:al)(L:O):Prop:=lL bj Q/\∃e,bK f e/\∀A C,A≠0->L.get A C=view e aT A C
theorem o0 :cV aT:=λI I u=>ag u
structure d8(R:V):Prop where
 ex:∃x,(R=bn x\/R=a3 x)/\aM x/\cz x 50
theorem d8.flat{R:V}(j:d8 R):aM R:=by
 obtain ⟨y,rfl|rfl,S,_⟩:=j
 ·exact aQ trivial S trivial
 ·exact aQ trivial S trivial
theorem d8.eq{R:V}(j:d8 R){L:O}:f8 L .NotEq R R=Y false:=by
 obtain ⟨y,rfl|rfl,_,W⟩:=j
 ·exact q8 (aQ (Nat.succ_pos _) (eB _ W (by decide)) trivial)
 ·exact q8 (aQ (Nat.succ_pos _) (eB _ W (by decide)) trivial)
section
variable{B:aa}{k:aF}{r:O}{h:FM->al->O->Prop}{D:Nat->Nat->O->Prop}
theorem gy(W:er B k)(i:∀C,r.get 0 C=G){g z:List aP}{c:al}{e d:ar}{st:List cb}{a:List (Nat×V)}{l:Nat->Nat->Option aj}(F:dJ B g c e st (bj++a) l)(H:gX B st e)(f:LsOk d)
  (dI:∀L:O,L.aw=l->∀A C,A≠0->L.get A C=view d aT A C)(n:∀Z∈a,aM Z.2)(A:a9 B 125 k r (bb z k) (bj++a) (bz d) h D):a9 B 125 k r (bb (g++z) k) c (bz e) h D:=
 uw W (kj o0 _ _ _ F.ch H λT j=>toL j λQ L b p=>uv i f n b (dI L p) A)
theorem eO{e:ar}:∀L:O,L.aw=view e aT->∀A C,A≠0->L.get A C=view e aT A C:=λL j A C m=>by refine U (h2 m) ?_;exact U j rfl
theorem o1(W:er B k)(i:∀C,r.get 0 C=G){l:aP}{e d:ar}{st:List cb}{a:List (Nat×V)}{m:Bool}(F:lO B (ju l) (bj++a) e st m (view d aT))(H:gX B st e)(f:LsOk d)(n:∀Z∈a,aM Z.2)
  (A:a9 B 125 k r (bb (match m with|true=>gY l|false=>iD l) k) (bj++a) (bz d) h D):a9 B 125 k r (b0 (oX l) k) (bj++a) (bz e) h D:=by
 refine QD W (kj o0 _ _ _ F.ch H λT j=>fz j λL p=>?_);have sub:mG (bj++a) (bj++a):=λy N o=>⟨o,aD (Ei o) λI z=>yH n _ z⟩;clear j;induction m using ap with|true=>exact A.less i (rn f (eO L p)) sub|false=>exact A.less i (rn f (eO L p)) sub
variable{e:ar}
theorem hA(R:TopOk B)(ok:LsOk e){z:Nat}(H:0<z)(j:z<=15):uj B e 877 125 0 [.ref 2 0,bR z] G (bR (bo e.a e.b z)) (drawn e z):=
 ⟨ok,h4 ok,Nat.le_refl _,Nat.le_refl _,λy q=>by
  rcases aW.mp q with rfl|q
  ·exact .inl (.own (by kernel_rfl))
  ·refine U (cy.mp q) ?_;exact .inl (.flat trivial),trivial,λI o=>(ag o),λw I I=>(DP R H j).le (by decide)⟩
theorem lS(R:TopOk B)(ok:LsOk e)(u:e.held.length<=7):uj B e 891 125 0 [.ref 2 0,.ref 2 1] G (dH e) (drawn e (eo e.held).length):=
 ⟨ok,h4 ok,Nat.le_refl _,Nat.le_refl _,λy q=>by
  rcases aW.mp q with rfl|q
  ·exact .inl (.own (by kernel_rfl))
  ·refine U (cy.mp q) ?_;exact .inl (.own (by kernel_rfl)),OX ok.held _ (ym (h3 (Nat.succ_pos _))),λI o=>(ag o),λw I X=>(OY R ok u X.fx).le (by decide)⟩
end
noncomputable abbrev ru(e:ar)(x:V):ar:={e with held:=e.held++ [x]}
theorem Q8{e:ar}{y:V}:∀L:O,L.aw=uD e y->∀A C,A≠0->L.get A C=view (ru e y) aT A C:=λL j A C m=>by
 refine U (h2 m) (U j ?_);by_cases l:A=2
 ·clear m;subst l;by_cases Q:C=1
  ·subst Q;rfl
  ·refine(iy (by decide) Q).trans ?_
   show d4 e C=d4 (ru e y) C;unfold d4;exact U (cI Q) rfl
 ·refine(e1 (by decide) l).trans ?_
  show view e aT A C=_;unfold view;exact U (cI l) rfl
theorem o2{N o:V}:bn N≠a3 o:=λj=>by
 have:(V.str [118,97,108,117,101]:V)=.str [116,104,114,111,119,110]:=by have:=V.tup.inj j;exact(dP this).1
 exact absurd (V.str.inj this) (by decide)
theorem Ev{N t:V}(j:bn N=bn t):N=t:=(dP (dP (V.tup.inj j)).2).1
theorem uG{d:Key}:d8 (a3 (ez d)):=⟨cW _ (.inr rfl) (by repeat' (first|exact trivial|constructor)) (by repeat' (first|exact trivial|exact Nat.succ_pos _|refine⟨_,rfl,?_⟩|constructor))⟩
theorem yM{t y:V}(q:t∈wants)(a:aM y)(F:cz y 40):d8 (a3 (dF t y)):=by
 have b:=gv _ q;have c:cz t 40:=by refine fE q ?_;repeat' (first|exact et|refine es ?_ ?_|exact trivial|exact Nat.succ_pos _|refine⟨_,rfl,?_⟩|constructor)
 refine⟨cW _ (.inr rfl) (bP trivial (bP trivial trivial trivial trivial) (bP (aQ trivial trivial trivial) (aQ trivial b trivial) a trivial) trivial) (kA 49 rfl (Nat.succ_pos _) ?_ (kA 48 rfl ?_ (fp 47 rfl (Nat.succ_pos _) (eB _ c (by decide)) trivial) (eB _ F (by decide)) trivial) trivial)⟩ <;>
  repeat' (first|exact trivial|exact Nat.succ_pos _|refine⟨_,rfl,?_⟩|constructor)
theorem uH{y:V}(a:aM y)(F:cz y 40):d8 (bn y):=⟨cW y (.inl rfl) a (eB _ F (by decide))⟩
section
variable{B:aa}{k:aF}{c:O}{h:FM->al->O->Prop}{D:Nat->Nat->O->Prop}
theorem o3{R:V}(j:aM R):∀Z∈[(lM,R),(oV,R)],aM Z.2:=λZ S=>by
 rcases aW.mp S with rfl|S
 ·exact j
 ·exact U (cy.mp S) j
theorem Q9(W:er B k)(i:∀C,c.get 0 C=G){e:ar}{R:V}(s:d8 R)(ok:LsOk e)(Z:e.held.length<=7)(L:∀y,R=a3 y->h .next (cc R R) (bz e))(dI:∀y,R=bn y->LsOk (ru e y)/\h .next (cc R R) (bz (ru e y))):
  a9 B 125 k c (bb ([gZ 5]++ []) k) (cc R R) (bz e) h D:=by
 have j:=s.flat;obtain ⟨y,rfl|rfl,_,_⟩:=s
 ·have F:dJ B [gZ 5] (cc (bn y) (bn y)) e [] (cc (bn y) (bn y)) (uD e y):=by
   clear dI L ok;obtain ⟨v,m,q,P,a,g⟩:=e;have u:=QQ (B:=B) (v:=v) (m:=m) (r:=g) (P:=P) (a:=a) (y:=y) Z;exact u.mpr (fD ..)
  exact ak (dI y rfl) λr A=>gy W i F trivial r Q8 (o3 j) (.nil A)
 ·exact gy W i (QR.mpr (fD ..)) trivial ok eO (o3 j) (.nil (L y rfl))
def uI(f:Nat)(e:ar)(R:V)(W:ar):Prop:=d8 R/\LsOk W/\W.held=e.held/\(∀x,R=a3 x->bK (f+1) W)/\∀x,R=bn x->bK (f+1) (ru W x)
theorem Ew{L f:Nat}{g:List V}{N K:V}(j:∀c∈g,aM c)(Z:Val L f N K):∀c∈g++ [N],aM c:=λc A=>by
 rcases lz.mp A with u|u
 ·exact j c u
 ·exact U (cy.mp u) Z.flat
theorem Ex{L i f k:Nat}{g:List V}{N K:V}(j:∀c∈g,∃K,Val L f c K)(X:L<=i)(b:f<=k)(Z:Val i k N K):∀c∈g++ [N],∃K,Val i k c K:=λc A=>by
 rcases lz.mp A with u|u
 ·exact aD (j c u) λK Z=>⟨K,Z.mono X b⟩
 ·exact U (cy.mp u) (⟨_,Z⟩)
theorem yN{u:Type}{g:List u}{N:u}{C:Nat}(j:g.length<=C):(g++ [N]).length<=C+1:=by refine U fL ?_;exact Nat.succ_le_succ j
theorem Ra{f:Nat}{e:ar}(w:bK f e)(d:f≠0)(b:f<=6){t y H X aJ:V}(s:t=bW\/t=cq)(a:Val e.Q.length f y H)(r:Val e.Q.length f X aJ):uI f e (bn (cQ (bH t) y X)) e:=by have Z:Val e.Q.length (f+1) (cQ (bH t) y X) (bH t):=.st s a r;have S:=Nat.pos_of_ne_zero d;exact g8 (uH Z.flat (eB _ Z.kh (Nat.le_trans (Nat.add_le_add_right (Nat.mul_le_mul_left 2 (Nat.succ_le_succ b)) 4) (by decide:2*7+4<=40)))) w.ok rfl (λN j=>(o2 j).elim) (λN j=>(U (Ev j).symm (aD (w.h0 S) λR o=>(⟨⟨w.ok.n,w.ok.fR,Ew w.ok.held Z,w.ok.sc,w.ok.p,w.ok.q⟩,w.fo,yN w.hP,Nat.le_succ_of_le w.kt,λI=>⟨R++ [cQ (bH t) y X],congrArg (·++_) o⟩,λI=>w.rt S,Ex w.fP (Nat.le_refl _) (Nat.le_succ _) Z,w.lR⟩))))
theorem Rb{f:Nat}{e:ar}(w:bK f e)(s:f<=7){y H X aJ:V}(a:Val e.Q.length f y H)(r:Val e.Q.length f X aJ)(F:cz y 40)(h:cz X 40):uI f e (bn (aV e.Q.length)) (hw (more e (y,X)) (y,X)):=by
 have x:e.Q.length<=7:=Nat.le_trans w.kt s;have k:LsOk (hw (more e (y,X)) (y,X)):=Dw (tQ w.ok x a.flat r.flat) (by refine U w.fo ?_;exact x) a.flat r.flat
 have len:(e.Q++ [(y,X)]).length=e.Q.length+1:=fL;have Z:Val (e.Q.length+1) (f+1) (aV e.Q.length) _:=.dh (Nat.lt_succ_self _);refine g8 (uH (aQ trivial trivial trivial) (fp 39 rfl (Nat.succ_pos _) (Nat.succ_pos _) trivial)) k rfl (λN j=>(o2 j).elim) (λN j=>U (Ev j).symm (⟨⟨k.n,k.fR,Ew w.ok.held Z,k.sc,k.p,k.q⟩,congrArg (·++_) w.fo,yN w.hP,yN w.kt,λI=>?_,λI=>Nat.lt_of_lt_of_eq (Nat.succ_pos _) len.symm,?_,λu x=>?_⟩))
 ·rcases Nat.eq_zero_or_pos f with d|S
  ·clear I Z r a s;subst d;have b:e.held= []:=tq.mp (Nat.le_zero.mp w.hP);have R:e.Q= []:=tq.mp (Nat.le_zero.mp w.kt);exact⟨[],by show e.held++ [aV e.Q.length]=_;refine U b ?_;refine U R ?_;rfl⟩
  ·exact aD (w.h0 S) λP o=>⟨P++ [aV e.Q.length],congrArg (·++_) o⟩
 ·show∀c∈e.held++ [_],∃K,Val (e.Q++ [(y,X)]).length (f+1) c K;exact U len (Ex w.fP (Nat.le_succ _) (Nat.le_succ _) Z)
 ·rcases lz.mp x with j|j
  ·exact w.lR u j
  ·exact U (cy.mp j) (⟨F,h⟩)
theorem uJ{f:Nat}{e:ar}(w:bK f e){R:V}(s:d8 R)(C:∀y,R≠bn y)(d:f=0->∃y,R=bn y):uI f e R e:=by
 refine g8 s w.ok rfl (λy I=>?_) (λy j=>(C y j).elim);rcases Nat.eq_zero_or_pos f with u|u
 ·exact aD (d u) λy j=>(C y j).elim
 ·refine aD (Nat.exists_eq_succ_of_ne_zero (Nat.ne_of_gt u)) λk o=>?_;clear u d;subst o;exact w.up
theorem Rc{f:Nat}(n:f<=7){e:ar}(w:bK f e){Z:cv}{A:cr}(m:A∈e2)(S:Z.ok e.Q.length f)(p:f=0->A=b1)(d:f=0->∃y,Z.dm A e.Q.length=bn y)(C:f<=6):
  uI f e (Z.dm A e.Q.length) (Z.fk A (Z.dn A e)):=by
 cases Z with|one y=>exact uJ w uG (λy j=>o2 j.symm) d|three y X i=>exact uJ w uG (λy j=>o2 j.symm) d|two y H X aJ=>
  refine ak S λa r=>?_;clear S;have K:2*f+4<=40:=Nat.le_trans (Nat.add_le_add_right (Nat.mul_le_mul_left 2 C) 4) (by decide)
  have F:=eB _ a.kh K;have h:=eB _ r.kh K;have q:=xT m;have z:(cv.two y H X aJ).dm A e.Q.length=match subB H A.dG with|false=>a3 (dF A.dG y)|true=>match subB aJ A.dz with|false=>a3 (dF A.dz X)|true=>tP A e.Q.length y X:=rfl
  have g:(cv.two y H X aJ).fk A ((cv.two y H X aJ).dn A e)=match bg (bg (subB H A.dG) (subB aJ A.dz)) A.cell with|true=>hw (match bg (bg (subB H A.dG) (subB aJ A.dz)) A.cell with|true=>more e (y,X)|false=>e) (y,X)|false=>(match bg (bg (subB H A.dG) (subB aJ A.dz)) A.cell with|true=>more e (y,X)|false=>e):=rfl
  rw[z] at d⊢;refine U g ?_;clear z g;generalize subB H A.dG=b at d;induction b using ap with|false=>exact uJ w (yM q.1 a.flat F) (λy j=>o2 j.symm) d|true=>
   generalize subB aJ A.dz=b at d;induction b using ap with|false=>exact uJ w (yM q.2 r.flat h) (λy j=>o2 j.symm) d|true=>clear d q;revert p;refine lB m (λI=>Rb w n a r F h) λt q j=>Ra w (λu=>Bool.noConfusion (show E=M from congrArg cr.cell (j u))) C q a r
end
section
variable{B:aa}{k:aF}{c:O}{h:FM->al->O->Prop}{D:Nat->Nat->O->Prop}{e:ar}
theorem Rd{S:V->V->Option Bool}:∀{C f:Nat},(∀z,f<=z->z<f+C->S (.ref (10+z) 0) (.ref (20+z) 0)=Y M)->allM S (dj 10 0 C f) (dj 20 0 C f)=Y true:=by
 intro s;induction s with|zero=>intro I I;exact rfl|succ C F=>intro f j;exact uc (j f (Nat.le_refl _) (by lia)) (F λz b p=>j z (by lia) (by lia))
theorem Rf{f k:Nat}(w:bK f e){L:O}(F:L.aw=view e aT)(X:L.t.get k=Y (.list (dj 10 0 e.Q.length 0))):f8 L .NotEq (.ref 0 k) (.ref 2 2)=Y false:=by
 have c:∀A C,A≠0->L.get A C=view e aT A C:=eO L F;have b:L.get 0 k=Y (.list (dj 10 0 e.Q.length 0)):=X;have p:L.get 2 2=Y (.list (dj 20 0 e.Q.length 0)):=by refine U (c 2 2 (by decide)) ?_;refine U w.fo.symm ?_;rfl
 have d:allM (cJ L 59) (dj 10 0 e.Q.length 0) (dj 20 0 e.Q.length 0)=Y true:=Rd λz I h=>by
  have x:=w.ok.fR;have h:z<e.Q.length:=by lia
  refine aD (ov h) λZ S=>?_;have j:Nat.ble 10 (10+z)=true:=Nat.ble_eq_true_of_le (Nat.le_add_right _ _);have s:Nat.ble 20 (10+z)=false:=by
   generalize u:Nat.ble 20 (10+z)=K;induction K using ap with|false=>rfl|true=>have:=Nat.le_of_ble_eq_true u;lia
  have D:Nat.ble 20 (20+z)=true:=Nat.ble_eq_true_of_le (Nat.le_add_right _ _);have y:L.get (10+z) 0=Y (.list [Z.1,Z.2]):=by refine U (c _ _ (by lia)) ?_;refine U (Nu j s) ?_;rw[Nat.add_sub_cancel_left];refine U S ?_;rfl
  have H:L.get (20+z) 0=Y (.list [Z.1,Z.2]):=by refine U (c _ _ (by lia)) ?_;refine U (Dc D) ?_;rw[Nat.add_sub_cancel_left];refine U w.fo (U S ?_);rfl
  have W:=w.lR Z (ou S).1;show(match Nat.beq (10+z) (20+z),Nat.beq 0 0 with|true,M=>Y M|_,_=>lists L (10+z) 0 (20+z) 0 (allM (cJ L 58)))=Y M
  refine U (cI (by lia)) ?_
  show lists L (10+z) 0 (20+z) 0 (allM (cJ L 58))=Y M;unfold lists;exact U y (U H (uc (yw _ W.1 (by decide)) (uc (yw _ W.2 (by decide)) rfl)))
 show l5 (lists L 0 k 2 2 (allM (cJ L 59)))=_;unfold lists;refine U b (U p ?_);show l5 (allM (cJ L 59) _ _)=_;refine U d ?_;rfl
theorem Rg(W:er B k)(i:∀C,c.get 0 C=G){f:Nat}(w:bK f e){R:V}(s:d8 R):a9 B 125 k c (bb [d7 2] k) (cc R R) (bz e) (gj (TurnEnd f) h) D:=by
 have F:rr B e R:=by
  have u:∀y,rr B e (bn y)/\rr B e (a3 y):=λy=>by have d:=w.ok.fR;clear w;obtain ⟨v,m,q,P,a,r⟩:=e;exact(QU (B:=B) (v:=v) (m:=m) (q:=q) (r:=r) (P:=P) (y:=y) d).mpr ⟨En ..,En ..⟩
  obtain ⟨y,rfl|rfl,_⟩:=s
  ·exact(u y).1
  ·exact(u y).2
 show a9 B 125 k c (bb ([d7 2]++ []) k) _ _ _ _;refine uw W (kj o0 _ _ _ F ⟨λL=>s.eq,trivial⟩ λT l=>e7 l λb p x H=>?_);induction T using Res.casesOn with|ask a P K=>replace b:P=ki a.σ (.ref 0 (gx a.xs)) (.ref 2 2):=b;subst b;refine⟨λv L=>v=.bool E/\L=a.σ,cW E (Rf w p x) rfl rfl,λv L j=>ak j λt g=>?_⟩;subst t g;exact toL H λQ L b p=>.nil (fX b e w (eO L p))|ok=>exact H.elim|err=>exact H.elim|no=>exact H.elim
def bC(g:ar):ar:=drawn g (eo g.held).length
noncomputable def dX :Nat->ar->ar
 |0,g=>g|C+1,g=>dX C (bC g)
def ku(g:ar):List (V×ar):= [(dH g,bC g),(dH (bC g),bC (bC g)),(dH (bC (bC g)),bC (bC (bC g)))]
theorem yO(R:TopOk B){g:ar}(ok:LsOk g)(u:g.held.length<=7){z:List cb}{C:Nat}(X:C=1\/C=2\/C=3)(j:gX B z (dX C g)):gX B (lP C (ku g)++z) g:=by
 have y:LsOk (bC g):=h4 ok;have q:LsOk (bC (bC g)):=h4 y;rcases X with rfl|rfl|rfl
 ·exact⟨lS R ok u,j⟩
 ·exact aQ (lS R ok u) (lS R y u) j
 ·exact bP (lS R ok u) (lS R y u) (lS R q u) j
theorem bK.Rh{f:Nat}:∀{C:Nat} {g:ar},bK f g->bK f (dX C g):=by
 intro s;induction s with|zero=>intro I j;exact j|succ C F=>intro I j;exact F (j.dK _ _)
theorem Ri{g:ar}{Z:cv}{A:cr}{W:Nat}(ok:LsOk g)(p:g.Q.length<=7)(S:Z.ok g.Q.length W):LsOk (Z.dn A g)/\(Z.dn A g).P=g.P/\g.Q.length<=(Z.dn A g).Q.length:=by
 cases Z with
 |two y H X aJ=>
  have q:(cv.two y H X aJ).dn A g=match bg (oA A H aJ) A.cell with|true=>more g (y,X)|false=>g:=rfl
  refine U q ?_;generalize (bg (oA A H aJ) A.cell)=K;induction K using ap with|true=>exact aQ (tQ ok p S.1.flat S.2.flat) rfl tR|false=>exact aQ ok rfl (Nat.le_refl _)
 |_=>exact aQ ok rfl (Nat.le_refl _)
theorem Ey{g:ar}{Z:cv}{A:cr}:g.P.length<=(Z.fk A g).P.length/\(Z.fk A g).Q=g.Q:=by
 cases Z with
 |two y H X aJ=>
  have q:(cv.two y H X aJ).fk A g=match bg (oA A H aJ) A.cell with|true=>hw g (y,X)|false=>g:=rfl
  refine U q ?_;generalize (bg (oA A H aJ) A.cell)=K;induction K using ap with|true=>exact⟨by show _<=(g.P++ [(y,X)]).length;refine U fL ?_;exact Nat.le_succ _,rfl⟩|false=>exact⟨Nat.le_refl _,rfl⟩
 |_=>exact⟨Nat.le_refl _,rfl⟩
theorem Ez{A:cr}(m:A∈e2):aM A.K:=by refine fE m ?_;repeat' (first|exact et|refine es ?_ ?_|exact trivial|constructor)
theorem Rj(R:TopOk B){f:Nat}{g:ar}(W:bK f g)(n:f<=6){Z:cv}{A:cr}(m:A∈e2)(S:Z.ok g.Q.length f)(s:∀N∈Z.l,aM N)(j:aM (Z.dm A g.Q.length))(k:LsOk (Z.fk A (Z.dn A g))):
  gX B (oZ A Z.l (Z.dm A g.Q.length) (Z.dm A g.Q.length) (Z.dn A g) (Z.fk A (Z.dn A g))) g:=by
 have x:g.Q.length<=7:=Nat.le_trans W.kt (by lia)
 refine br (Ri (A:=A) W.ok x S) λc H a=>?_;have d:(Z.dn A g).P.length=g.Q.length:=by refine U H ?_;exact U W.fo rfl
 refine aQ ⟨W.ok,c,by refine U H ?_;exact Nat.le_refl _,a,λy q=>?_,j,hy λN i=>?_,λw o X=>(OZ R W.ok x X.fx S m (o _ rfl)).le (by decide)⟩ ⟨c,k,Ey.1,by show(Z.dn A g).Q.length<=_;refine U Ey.2 ?_;exact Nat.le_refl _,λy q=>?_,j,hy s,λw o X=>Spec.mono ((O0 R c (by refine U d ?_;exact x) X.fx (L:=g.Q.length) S m (o _ rfl)).le (by decide)) λT L t=>ak t λb p=>⟨by refine U b ?_;exact U d rfl,p⟩⟩ trivial
 ·rcases aW.mp q with rfl|q
  ·exact .inl (.flat trivial)
  ·rcases aW.mp q with rfl|q
   ·exact .inl hv
   ·exact U (cy.mp q) (.inr ⟨rfl,rfl⟩)
 ·rcases aW.mp i with rfl|i
  ·exact rd (Ez m)
  ·exact s N i
 ·rcases aW.mp q with rfl|q
  ·exact .inl (.flat (Ez m))
  ·rcases aW.mp q with rfl|q
   ·exact .inr ⟨rfl,rfl⟩
   ·exact U (cy.mp q) (.inl oO)
end
section
variable{B:aa}{c:aF}{r:O}{h:FM->al->O->Prop}{D:Nat->Nat->O->Prop}{e:ar}
theorem rv :∀u,u<7->dp u=1\/dp u=2\/dp u=3:=by decide+kernel
theorem Rk :∀{z},z<3->rq z∈e2:=λ{z} j=>by
 rcases zd j with rfl|rfl|rfl
 ·exact .head _
 ·exact .tail _ (.head _)
 ·exact .tail _ (.tail _ (.head _))
theorem EA{f:Nat}{g:ar}(w:bK f g){C:Nat}(X:C=1\/C=2\/C=3):∃Z:cv,uB C (ku g)=Z.l/\Z.ok g.Q.length f/\∀N∈Z.l,aM N:=by
 refine aD (q0 (e:=g) w.fP) λd I=>aD (q0 (e:=bC g) (w.dK _ _).fP) λj o=>aD (q0 (e:=bC (bC g)) ((w.dK _ _).dK _ _).fP) λk a=>?_;rcases X with rfl|rfl|rfl
 ·exact cW (.one _) rfl trivial (rc I.flat)
 ·exact cW (.two _ d _ j) rfl ⟨I,o⟩ (iB I.flat o.flat)
 ·refine cW (.three _ _ _) rfl trivial (λN i=>?_);rcases aW.mp i with rfl|i
  ·exact I.flat
  ·exact iB o.flat a.flat N i
theorem yP(W:er B c)(i:∀C,r.get 0 C=G){f t:Nat}(b:f<=6)(hd:∀R a,d8 R->bK (f+1) a->h .next (cc R R) (bz a)){g x:ar}{q:List cb}(w:bK f x){C:Nat}{Z:cv}{A:cr}(m:A∈e2)(S:Z.ok x.Q.length f)(e:∀N∈Z.l,aM N)
  (p:f=0->A=b1)(d:f=0->∃y,Z.dm A x.Q.length=bn y)(H:∀z,gX B z (dX C x)->gX B (q++z) g)
  (F:dJ B iE (dV f t) g (q++oZ A Z.l (Z.dm A x.Q.length) (Z.dm A x.Q.length) (Z.dn A (dX C x)) (Z.fk A (Z.dn A (dX C x)))) (cc (Z.dm A x.Q.length) (Z.dm A x.Q.length)) (view (Z.fk A (Z.dn A (dX C x))) aT)):
  a9 B 125 c r (bb (gY (d7 1)) c) (dV f t) (bz g) h D:=by
 have K:bK f (dX C x):=w.Rh;have P:(dX C x).Q=x.Q:=by
  have:∀(C:Nat) (g:ar),(dX C g).Q=g.Q:=λC=>by
   induction C with|zero=>exact λI=>rfl|succ C v=>exact λg=>(v (bC g)).trans rfl
  exact this C x
 rw[<-P] at S d F;refine fW (Rc (by lia) K m S p d b) λs k u L dI=>U QH ?_
 have n:=H _ (Rj W.T.toTopOk K b m S e s.flat k);generalize Z.fk A (Z.dn A (dX C x))=j at F n k u L dI;generalize Z.dm A (dX C x).Q.length=R at F n s L dI;have X:a9 B 125 c r (bb ([gZ 5]++ []) c) (cc R R) (bz j) h D:=Q9 W i s k (by refine U u ?_;exact Nat.le_trans K.hP (by lia)) (λy o=>hd _ _ s (L y o)) λy o=>⟨(dI y o).ok,hd _ _ s (dI y o)⟩
 exact gy (g:=iE) (z:= [gZ 5]++ []) (a:= [(lM,R),(oV,R)]) W i F n k eO (o3 s.flat) X
theorem Rl(W:er B c)(i:∀C,r.get 0 C=G){f t:Nat}(n:f<=6)(w:bK f e)(hd:∀R v,d8 R->bK (f+1) v->h .next (cc R R) (bz v))(q:t<2)(A:f=0->t=0):a9 B 125 c r (bb (gY (d7 1)) c) (dV f t) (bz e) h D:=by
 have u:e.held.length<=7:=Nat.le_trans w.hP (by lia)
 have p:∀g:ar,bo g.a g.b 7<7:=λg=>h3 (by decide)
 have l:=W.T.toTopOk;induction f using Nat.casesOn with
 |zero=>
  have q:=A rfl;clear A;subst q;have K:=w.dK (mX e.a 7) (mY e.a e.b);have F:=eA ((QN (B:=B) (e:=e) (x:=drawn e 7) (R:=(cv.two (vInt cD 9) bW (ey [98,101,103,105,110]) gV).dm b1 e.Q.length) (C:=(cv.two (vInt cD 9) bW (ey [98,101,103,105,110]) gV).dm b1 e.Q.length)
   (a:=(cv.two (vInt cD 9) bW (ey [98,101,103,105,110]) gV).dn b1 (dX (dp (bo e.a e.b 7)) (drawn e 7))) (j:=(cv.two (vInt cD 9) bW (ey [98,101,103,105,110]) gV).fk b1 ((cv.two (vInt cD 9) bW (ey [98,101,103,105,110]) gV).dn b1 (dX (dp (bo e.a e.b 7)) (drawn e 7))))
   (X:=dH (drawn e 7)) (L:=dH (bC (drawn e 7))) (b:=dH (bC (bC (drawn e 7)))) (T:=bC (drawn e 7)) (k:=bC (bC (drawn e 7))) (c:=bC (bC (bC (drawn e 7))))).mpr (eM (λI=>fD ..) _)) (p e)
  refine yP (Z:=.two (vInt cD 9) bW (ey [98,101,103,105,110]) gV) (C:=dp (bo e.a e.b 7)) (q:=cF 7 (bo e.a e.b 7) (drawn e 7)::lP (dp (bo e.a e.b 7)) (ku (drawn e 7))) (A:=b1) W i n hd K (.head _) ⟨?_,?_⟩ (iB (by repeat' (first|exact trivial|constructor)) (by repeat' (first|exact trivial|constructor))) (λI=>rfl) (λI=>⟨aV e.Q.length,?_⟩) (λz j=>⟨hA l w.ok (by decide) (by decide),yO (g:=drawn e 7) l (h4 w.ok) u (rv _ (p e)) j⟩) F
  ·exact .lit (by repeat (first|exact gf|apply gO))
  ·exact .lit (by repeat (first|exact gf|apply gO))
  ·kernel_rfl
 |succ f=>
  rcases (by lia:t=0\/t=1) with rfl|rfl
  ·have K:=w.dK (mX e.a 7) (mY e.a e.b);refine bX (EA K (rv _ (p e))) λZ o S s=>?_;have F:=eA ((QO (B:=B) (e:=e) (f:=f) (x:=drawn e 7) (R:=Z.dm b1 e.Q.length) (C:=Z.dm b1 e.Q.length) (a:=Z.dn b1 (dX (dp (bo e.a e.b 7)) (drawn e 7))) (j:=Z.fk b1 (Z.dn b1 (dX (dp (bo e.a e.b 7)) (drawn e 7))))
    (X:=dH (drawn e 7)) (L:=dH (bC (drawn e 7))) (b:=dH (bC (bC (drawn e 7)))) (T:=bC (drawn e 7)) (k:=bC (bC (drawn e 7))) (c:=bC (bC (bC (drawn e 7))))).mpr (eM (λI=>fD ..) _)) (p e)
   replace F:dJ B iE (dV (f+1) 0) e (cF 7 (bo e.a e.b 7) (drawn e 7)::(lP (dp (bo e.a e.b 7)) (ku (drawn e 7))++oZ b1 (uB (dp (bo e.a e.b 7)) (ku (drawn e 7))) (Z.dm b1 e.Q.length) (Z.dm b1 e.Q.length) (Z.dn b1 (dX (dp (bo e.a e.b 7)) (drawn e 7))) (Z.fk b1 (Z.dn b1 (dX (dp (bo e.a e.b 7)) (drawn e 7)))))) (cc (Z.dm b1 e.Q.length) (Z.dm b1 e.Q.length)) (view (Z.fk b1 (Z.dn b1 (dX (dp (bo e.a e.b 7)) (drawn e 7)))) aT):=F;rw[o] at F;exact yP (Z:=Z) (C:=dp (bo e.a e.b 7)) (q:=cF 7 (bo e.a e.b 7) (drawn e 7)::lP (dp (bo e.a e.b 7)) (ku (drawn e 7))) (A:=b1) W i n hd K (.head _) S s (λj=>by cases j) (λj=>by cases j) (λz j=>⟨hA l w.ok (by decide) (by decide),yO (g:=drawn e 7) l (h4 w.ok) u (rv _ (p e)) j⟩) F
  ·have d:bo e.a e.b 3<3:=h3 (by decide)
   have P:=w.dK (mX e.a 3) (mY e.a e.b);generalize y:drawn e 3=H;replace P:bK (f+1) H:=by refine U y.symm ?_;exact P
   have x:H.held.length<=7:=by refine U y.symm ?_;exact u
   have K:=P.dK (mX H.a 7) (mY H.a H.b);refine bX (EA K (rv _ (p H))) λZ o S s=>?_;generalize m:rq (bo e.a e.b 3)=k;have L:k∈e2:=by refine U m.symm ?_;exact Rk d
   have F:=eA (eA ((QP (B:=B) (e:=e) (f:=f) (H:=H) (x:=drawn H 7) (R:=Z.dm k H.Q.length) (C:=Z.dm k H.Q.length) (a:=Z.dn k (dX (dp (bo H.a H.b 7)) (drawn H 7))) (j:=Z.fk k (Z.dn k (dX (dp (bo H.a H.b 7)) (drawn H 7))))
    (X:=dH (drawn H 7)) (L:=dH (bC (drawn H 7))) (b:=dH (bC (bC (drawn H 7)))) (T:=bC (drawn H 7)) (k:=bC (bC (drawn H 7))) (c:=bC (bC (bC (drawn H 7))))).mpr (eM (λI=>eM (λI=>fD ..) _) _)) d) (p H)
   replace F:dJ B iE (dV (f+1) 1) e (cF 3 (bo e.a e.b 3) H::cF 7 (bo H.a H.b 7) (drawn H 7)::(lP (dp (bo H.a H.b 7)) (ku (drawn H 7))++oZ (rq (bo e.a e.b 3)) (uB (dp (bo H.a H.b 7)) (ku (drawn H 7))) (Z.dm k H.Q.length) (Z.dm k H.Q.length) (Z.dn k (dX (dp (bo H.a H.b 7)) (drawn H 7))) (Z.fk k (Z.dn k (dX (dp (bo H.a H.b 7)) (drawn H 7)))))) (cc (Z.dm k H.Q.length) (Z.dm k H.Q.length)) (view (Z.fk k (Z.dn k (dX (dp (bo H.a H.b 7)) (drawn H 7)))) aT):=F;rw[o,m] at F;refine yP (Z:=Z) (C:=dp (bo H.a H.b 7)) (q:=cF 3 (bo e.a e.b 3) H::cF 7 (bo H.a H.b 7) (drawn H 7)::lP (dp (bo H.a H.b 7)) (ku (drawn H 7))) (A:=k) W i n hd K L S s (λj=>by cases j) (λj=>by cases j) (λz j=>aQ ?_ (hA l P.ok (by decide) (by decide)) (yO (g:=drawn H 7) l (h4 P.ok) x (rv _ (p H)) j)) F
   exact U y.symm (hA l w.ok (by decide) (by decide))
end
section
variable{B:aa}{k:aF}{c:O}{h:FM->al->O->Prop}{D:Nat->Nat->O->Prop}{e:ar}
theorem f2{v m:Nat}{N t:V}(j:aM N)(q:aM t):∀Z∈[(v,N),(m,t)],aM Z.2:=λZ S=>by
 rcases aW.mp S with rfl|S
 ·exact j
 ·exact U (cy.mp S) q
theorem j3{v m W:Nat}{c N t:V}(d:aM c)(j:aM N)(q:aM t):∀Z∈[(v,c),(m,N),(W,t)],aM Z.2:=λZ S=>by
 rcases aW.mp S with rfl|S
 ·exact d
 ·exact f2 j q Z S
theorem Rm(W:er B k)(i:∀C,c.get 0 C=G){f t:Nat}(n:f+1<=6)(w:bK (f+1) e){p:List aP}(q:∀N K S,bK (f+1) S->Val S.Q.length (f+1) N K->a9 B 125 k c (bb p k) (lQ t N) (bz S) h D):
  a9 B 125 k c (bb ([lc 0]++p) k) (dV (f+1) t) (bz e) h D:=by
 have R:=W.T.toTopOk;have u:e.held.length<=7:=Nat.le_trans w.hP (by lia)
 have r:bo e.a e.b 5<5:=h3 (by decide)
 have y:=w.dK (mX e.a 5) (mY e.a e.b);refine aD (q0 (e:=drawn e 5) y.fP) λx I=>?_;have F:∀L s N,Eo B e (drawn e 5) (mZ e L s) f t N:=λL s N=>by clear I y r w;obtain ⟨v,m,H,P,TR,g⟩:=e;exact(QW (B:=B) (q:=H) u).mpr (QV ..)
 by_cases d:bo e.a e.b 5=0
 ·have c8:=(F (bC (drawn e 5)).a (bC (drawn e 5)).b (dH (drawn e 5))).1;have z:gX B [cF 5 0 (drawn e 5),rp (dH (drawn e 5)) (bC (drawn e 5))] e:=aQ (by refine U d.symm ?_;exact hA R w.ok (by decide) (by decide)) (lS R (h4 w.ok) u) trivial
  exact gy (a:= [(fC,bR t),(fm,dH (drawn e 5))]) W i c8 z (y.dK _ _).ok eO (f2 trivial I.flat) (q _ x _ (y.dK _ _) I)
 ·obtain ⟨l,j⟩:∃l,bo e.a e.b 5=l+1:=Nat.exists_eq_succ_of_ne_zero d;have X:0<e.held.length:=by
   exact aD (w.h0 (Nat.succ_pos _)) λr o=>U o (Nat.succ_pos _)
  have A:bo (drawn e 5).a (drawn e 5).b e.held.length<e.held.length:=h3 X;have ek:=eA (eA (F (drawn (drawn e 5) e.held.length).a (drawn (drawn e 5) e.held.length).b .none).2 (show l<4 by lia)) A
  have z:gX B [cF 5 (l+1) (drawn e 5),cF e.held.length (bo (drawn e 5).a (drawn e 5).b e.held.length) (drawn (drawn e 5) e.held.length)] e:=aQ (by refine U j.symm ?_;exact hA R w.ok (by decide) (by decide)) (hA R (h4 w.ok) X (by show e.held.length<=15;lia)) trivial
  exact aD (w.fP _ (ym A)) λK Z=>gy (a:= [(fC,bR t),(fm,d6 e.held (bo (drawn e 5).a (drawn e 5).b e.held.length))]) W i ek z (y.dK _ _).ok eO (f2 trivial Z.flat) (q _ K _ (y.dK _ _) Z)
theorem EB :∀{A},A<4->uE A∈bM:=λ{A} j=>by
 rcases ze j with rfl|rfl|rfl|rfl
 ·exact .head _
 ·exact .tail _ (.head _)
 ·exact .tail _ (.tail _ (.head _))
 ·exact .tail _ (.tail _ (.tail _ (.head _)))
theorem EC :∀{A},A<4->aJ.num A∈bM:=λ{A} j=>by
 rcases ze j with rfl|rfl|rfl|rfl
 ·exact .tail _ (.tail _ (.tail _ (.tail _ (.head _))))
 ·exact .tail _ (.tail _ (.tail _ (.tail _ (.tail _ (.head _)))))
 ·exact .tail _ (.tail _ (.tail _ (.tail _ (.tail _ (.tail _ (.head _))))))
 ·exact .tail _ (.tail _ (.tail _ (.tail _ (.tail _ (.tail _ (.tail _ (.head _)))))))
theorem Rn(W:er B k)(i:∀C,c.get 0 C=G){f t:Nat}{N:V}(x:aM N)(w:bK f e){z:List aP}(m:∀d∈bM,∀S,bK f S->S.Q=e.Q->a9 B 125 k c (bb z k) (dW t N d) (bz S) h D):
  a9 B 125 k c (bb ([lc 1]++z) k) (lQ t N) (bz e) h D:=by
 have R:bo e.a e.b 4<4:=h3 (by decide)
 have F:=eA ((QX (B:=B) (e:=e) (x:=drawn e 4) (t:=t) (N:=N)).mpr (eM (λI=>fD ..) _)) R;exact gy (a:= [(fC,bR t),(fm,N),(kr,b2 (uE (bo e.a e.b 4)))]) W i F ⟨hA W.T.toTopOk w.ok (by decide) (by decide),trivial⟩ (w.dK _ _).ok eO (j3 trivial x (oG _ (EB R))) (m _ (EB R) _ (w.dK _ _) rfl)
theorem Ro :iD (lc 2)= []:=by kernel_rfl
theorem Rp(W:er B k)(i:∀C,c.get 0 C=G){f t:Nat}{N:V}(x:aM N){A:aJ}(mk:A∈bM)(w:bK f e)(m:∀d∈bM,∀S,bK f S->S.Q=e.Q->h .next (dW t N d) (bz S)):a9 B 125 k c (b0 (oX (lc 2)) k) (dW t N A) (bz e) h D:=by
 have R:=W.T.toTopOk;have P:bo e.a e.b 2<2:=h3 (by decide)
 have F:=(QY (B:=B) (e:=e) (x:=drawn e 2) (t:=t) (N:=N) (A:=A)).mpr ⟨uA ..,uA ..⟩;have n:∀{d},d∈bM->∀Z∈[(fC,bR t),(fm,N),(kr,b2 d)],aM Z.2:=λj=>j3 trivial x (oG _ j);by_cases q:bo e.a e.b 2=0
 ·have z:gX B [cF 2 0 (drawn e 2)] e:=⟨by refine U q.symm ?_;exact hA R w.ok (by decide) (by decide),trivial⟩
  refine o1 (m:=M) (d:=drawn e 2) (a:= [(fC,bR t),(fm,N),(kr,b2 A)]) W i F.1 z (w.dK _ _).ok (n mk) ?_;have X:bo (drawn e 2).a (drawn e 2).b 4<4:=h3 (by decide)
  have gw:=eA ((QZ (B:=B) (e:=drawn e 2) (x:=drawn (drawn e 2) 4) (t:=t) (N:=N) (A:=A)).mpr (eM (λI=>fD ..) _)) X;show a9 B 125 k c (bb (gY (lc 2)) k) (dW t N A) (bz (drawn e 2)) h D;exact U (iK (gY (lc 2))).symm (gy (a:= [(fC,bR t),(fm,N),(kr,b2 (.num _))]) W i gw ⟨hA R (w.dK _ _).ok (by decide) (by decide),trivial⟩ ((w.dK _ _).dK _ _).ok eO (n (EC X)) (.nil (m _ (EC X) _ ((w.dK _ _).dK _ _) rfl)))
 ·have H:bo e.a e.b 2=1:=by lia
  have z:gX B [cF 2 1 (drawn e 2)] e:=⟨by refine U H.symm ?_;exact hA R w.ok (by decide) (by decide),trivial⟩
  refine o1 (m:=E) (d:=drawn e 2) (a:= [(fC,bR t),(fm,N),(kr,b2 A)]) W i F.2 z (w.dK _ _).ok (n mk) ?_;show a9 B 125 k c (bb (iD (lc 2)) k) (dW t N A) (bz (drawn e 2)) h D;exact U Ro (.nil (m _ mk _ (w.dK _ _) rfl))
end
theorem Rq{N:V}{A:aJ}(m:A∈bM)(x:aM N)(p:cz N 40):d8 (a3 (jk N (b2 A))):=by
 have g:=oG A m;have a:cz (b2 A) 40:=by refine fE m ?_;repeat' (first|exact et|refine es ?_ ?_|exact trivial|exact Nat.succ_pos _|refine⟨_,rfl,?_⟩|constructor)
 refine⟨cW _ (.inr rfl) (bP trivial (bP trivial trivial trivial trivial) (aQ x g trivial) trivial) (kA 49 rfl (Nat.succ_pos _) ?_ (fp 48 rfl (eB _ p (by decide)) (eB _ a (by decide)) trivial) trivial)⟩
 repeat' (first|exact trivial|exact Nat.succ_pos _|refine⟨_,rfl,?_⟩|constructor)
theorem Rr{y:Key}:∀{g:List Key} {C:Nat},kc y g=Y C->C<g.length:=by
 intro s;induction s with|nil=>intro I o;cases o|cons A T F=>
  intro C o;replace o:(match a0 A y with|true=>Y 0|false=>match kc y T with|some C=>Y (C+1)|none=>G)=Y C:=o
  generalize u:(a0 A y)=K;induction K using ap with|true=>replace o:=u▸o;exact U (an o).symm (Nat.succ_pos _)|false=>
   replace o:=u▸o;generalize l:(kc y T)=K;induction K using aB with|none=>replace o:=l▸o;cases o|some z=>replace o:=l▸o;exact U (an o).symm (Nat.succ_lt_succ (F l))
theorem Rs{a:List Key}{len:Nat}{N:V}{A:aJ}{C:Nat}(j:a.length<=len)(o:fj a len N A=.inl C):C<len:=by
 cases A with
 |sym y=>
  replace o:(match kc y a with|some C=>.inl C|none=>.inr (a3 (ez (ke++y))))=(Sum.inl C:Nat⊕V):=o
  generalize u:(kc y a)=K;induction K using aB with|none=>replace o:=u▸o;cases o|some z=>replace o:=u▸o;cases o;exact Nat.lt_of_lt_of_le (Rr u) j
 |num z=>
  replace o:(match bg (Nat.ble 1 z) (Nat.ble z len) with|true=>.inl (z-1)|false=>.inr (a3 (jk N (b2 (.num z)))))=(Sum.inl C:Nat⊕V):=o
  generalize u:(bg (Nat.ble 1 z) (Nat.ble z len))=K;induction K using ap with|false=>replace o:=u▸o;cases o|true=>replace o:=u▸o;cases o;refine ak (b8 u) λb p=>?_;have:=Nat.le_of_ble_eq_true b;have:=Nat.le_of_ble_eq_true p;lia
theorem ED{a:List Key}{len:Nat}{N:V}{A:aJ}{o:V}(m:A∈bM)(x:aM N)(p:cz N 40)(j:fj a len N A=.inr o):d8 o/\∃y,o=a3 y:=by
 cases A with
 |sym y=>
  replace j:(match kc y a with|some C=>.inl C|none=>.inr (a3 (ez (ke++y))))=(Sum.inr o:Nat⊕V):=j
  generalize u:(kc y a)=K;induction K using aB with|some z=>replace j:=u▸j;cases j|none=>replace j:=u▸j;cases j;exact max uG _ rfl
 |num z=>
  replace j:(match bg (Nat.ble 1 z) (Nat.ble z len) with|true=>.inl (z-1)|false=>.inr (a3 (jk N (b2 (.num z)))))=(Sum.inr o:Nat⊕V):=j
  generalize u:(bg (Nat.ble 1 z) (Nat.ble z len))=K;induction K using ap with|true=>replace j:=u▸j;cases j|false=>replace j:=u▸j;cases j;exact max (Rq m x p) _ rfl
section
variable{B:aa}{k:aF}{c:O}{h:FM->al->O->Prop}{D:Nat->Nat->O->Prop}{e:ar}
theorem Rt{P:List (V×V)}:iA lits (λN I=>dO P N=dO [] N/\(oD N).length=0)=iA lits (λN I=>dO [] N=dO [] N/\0=0):=by kernel_rfl
theorem Ru{f:Nat}(w:bK f e)(s:f<=7){N K:V}(Z:Val e.Q.length f N K):(oD N).length<=(dO e.P N).length/\(∀C,C<(dO e.P N).length->aM (d6 (dO e.P N) C)/\cz (d6 (dO e.P N) C) 40/\∀R,rs B e R N C):=by
 have i:∀{p q:V} {C:Nat},C< [p,q].length->(aM p/\cz p 40)->(aM q/\cz q 40)->aM (d6 [p,q] C)/\cz (d6 [p,q] C) 40:=λ{p q C} X b r=>by
  rcases (by simp at X;lia:C=0\/C=1) with rfl|rfl
  ·exact b
  ·exact r
 cases Z with
 | @lit _ N K j=>
  have o:=q1 ((Rt (P:=e.P)).mpr (ub (λI I=>⟨rfl,rfl⟩) _)) j;refine⟨by refine U o.2 ?_;exact Nat.zero_le _,λC X=>?_⟩
  rw[o.1] at X⊢;have c:∀R,rs B e R N C:=λR=>eA (q1 ((Q4 (B:=B) (e:=e) (R:=R)).mpr (ub (λI I=>eM (λI=>yL ..) _) _)) j) X;have z:aM (d6 (dO [] N) C)/\cz (d6 (dO [] N) C) 40:=by
   clear o c;unfold lits at j;simp only[aW,p3,or_false,DX] at j;rcases j with⟨rfl,_⟩|⟨rfl,_⟩|⟨rfl,_⟩|⟨rfl,_⟩|⟨rfl,_⟩|⟨rfl,_⟩|⟨rfl,_⟩|⟨rfl,_⟩|⟨rfl,_⟩|⟨rfl,_⟩|⟨rfl,_⟩
   case inr.inr.inr.inr.inr.inl=>exact i (p:=vInt cD 1) (q:=ey [99]) X (by constructor <;>repeat' (first|exact trivial|exact Nat.succ_pos _|refine⟨_,rfl,?_⟩|constructor)) (by constructor <;>repeat' (first|exact trivial|exact Nat.succ_pos _|refine⟨_,rfl,?_⟩|constructor))
   case inr.inr.inr.inr.inr.inr.inr.inr.inr.inr=>
    replace X:C<1:=X;have:C=0:=by lia
    clear X;subst this;show aM (vBool E)/\cz (vBool E) 40;constructor <;>repeat' (first|exact trivial|exact Nat.succ_pos _|refine⟨_,rfl,?_⟩|constructor)
   all_goals exact absurd X (Nat.not_lt_zero _)
  exact aQ z.1 z.2 c
 | @st W y p q dg ci j v m=>
  refine⟨Nat.le_refl 2,λC X=>?_⟩;have d:=i (p:=p) (q:=q) X ⟨v.flat,eB _ v.kh (by lia)⟩ ⟨m.flat,eB _ m.kh (by lia)⟩
  exact aQ d.1 d.2 (λR=>eA (Q5.mpr (eM (λI=>yL ..) _)) (show C<2 from X))
 | @dh _ k j=>
  have A:k<e.P.length:=by refine U w.fo ?_;exact j
  refine aD (ov A) λp S=>?_;have h:=(ou S).1;have o:dO e.P (aV k)= [p.1,p.2]:=by show xY e.P k=_;unfold xY;exact U S rfl
  refine⟨by refine U o ?_;exact Nat.le_refl 2,λC X=>?_⟩
  have l:=w.lR p (by refine U w.fo.symm ?_;exact h)
  have u:=w.ok.p p h;have d:=i (p:=p.1) (q:=p.2) (by rw[o] at X;exact X) ⟨u.1,l.1⟩ ⟨u.2,l.2⟩
  refine aQ (by refine U o ?_;exact d.1) (by refine U o ?_;exact d.2) (λR=>?_)
  rw[o] at X;have ok:=w.ok.n;clear o h S j w;obtain ⟨v,m,H,P,a,g⟩:=e;exact eA (eA ((Q6 (B:=B) (v:=v) (m:=m) (q:=H) (r:=g) (a:=a) (R:=R) ok).mpr (eM (λI=>eM (λI=>yL ..) _) _)) A) (show C<2 from X)
theorem Rv(W:er B k)(i:∀C,c.get 0 C=G){f t:Nat}(TU:f+1<=6)(n:bK (f+1) e){N K:V}(Z:Val e.Q.length (f+1) N K){A:aJ}(m:A∈bM)(hd:∀R v,d8 R->bK (f+1+1) v->h .next (cc R R) (bz v)):
  a9 B 125 k c (bb (gY (lc 3)) k) (dW t N A) (bz e) h D:=by
 have l:=W.T.toTopOk;have x:=Z.flat;have U1:cz N 40:=eB _ Z.kh (by lia)
 have a:=oG A m;refine ak (Ru (B:=B) n (by lia) Z) λF TS=>?_
 have z:∀S,S=mW e.P N A->aM S->∀R,R=mT e.Q N A->d8 R->a9 B 125 k c (bb ([jv 1]++ []) k) (m5 R S N) (bz e) h D->a9 B 125 k c (bb (gY (lc 3)) k) (dW t N A) (bz e) h D:=λS TV j7 R TW s g=>by
  refine U Q1 (gy (z:= [jv 1]++ []) (a:= [(lM,R),(Ek,S),(fm,N)]) W i (Q2.mpr (fD ..)) (aQ (fB n.ok (λy q=>?_) s.flat (hy (iB x a)) λw o I=>Spec.mono ((Op l n.ok Z m (o _ rfl)).le (by decide)) λr L j=>⟨j.1.trans TW.symm,j.2⟩) (fB n.ok (λy q=>?_) j7 (λI o=>by cases o) λw I I=>Spec.mono ((OH l n.ok (by refine U n.fo ?_;exact Z) m).le (by decide)) λr L j=>⟨j.1.trans TV.symm,j.2⟩) trivial) n.ok eO (j3 s.flat j7 x) g)
  ·rcases aW.mp q with rfl|q
   ·exact .inl (.flat trivial)
   ·rcases aW.mp q with rfl|q
    ·exact .inl hv
    ·exact U (cy.mp q) (.inr ⟨rfl,rfl⟩)
  ·rcases aW.mp q with rfl|q
   ·exact .inl (.flat x)
   ·rcases aW.mp q with rfl|q
    ·exact .inl (.flat a)
    ·exact U (cy.mp q) (.inl oO)
 have b:mT e.Q N A=match fj (oD N) (dO e.Q N).length N A with|.inl C=>bn (d6 (dO e.Q N) C)|.inr o=>o:=rfl
 rw[<-n.fo] at b;cases u:fj (oD N) (dO e.P N).length N A with
 |inl C=>
  have X:=Rs F u;refine br (TS C X) λTR H p=>?_;have s:d8 (bn (d6 (dO e.P N) C)):=uH TR H;refine z (bR C) (by unfold mW;refine U u ?_;rfl) trivial (bn (d6 (dO e.P N) C)) (by refine U n.fo.symm ?_;refine U b ?_;exact U u rfl) s ?_
  exact gy (a:= [(lM,bn (d6 (dO e.P N) C)),(oV,bn (d6 (dO e.P N) C))]) W i (p _) trivial n.ok eO (o3 s.flat) (.nil (hd _ _ s n.up))
 |inr o=>
  refine nc (ED m x U1 u) λs y d=>?_;subst d;refine z (a3 y) (by unfold mW;refine U u ?_;rfl) s.flat (a3 y) (by refine U n.fo.symm ?_;refine U b ?_;exact U u rfl) s ?_
  exact gy (a:= [(lM,a3 y),(oV,a3 y)]) W i (Q3.mpr (fD ..)) trivial n.ok eO (o3 s.flat) (.nil (hd _ _ s n.up))
end
theorem Rw{N:V}{A:aJ}{y H:V}:(∀c,dA c N A y H=c)\/∃f C,∀c,dA c N A y H=b5 c f C y:=by
 have o:∀c,dA c N A y H=match kf N with|false=>c|true=>match fj [dU,d5] 2 N A with|.inr _=>c|.inl C=>match subB H (bB C) with|true=>b5 c (natOf (itemAt 1 N)) C y|false=>c:=λI=>rfl
 refine hd λT W=>?_;generalize u:(kf N)=K;induction K using ap with|false=>exact W (.inl λc=>by rw[o];exact U u rfl)|true=>
  cases Q:fj [dU,d5] 2 N A with|inr _=>exact W (.inl λc=>by rw[o];refine U u ?_;exact U Q rfl)|inl C=>
   generalize l:(subB H (bB C))=K;induction K using ap with|true=>exact W (.inr (ea (natOf (itemAt 1 N)) C (λc=>by rw[o];refine U u ?_;refine U Q ?_;dsimp only;exact U l rfl)))|false=>exact W (.inl λc=>by rw[o];refine U u ?_;refine U Q ?_;dsimp only;exact U l rfl)
theorem Rx{C:Nat}:bB C∈wants:=by unfold bB;generalize (Nat.beq C 0)=K;induction K using ap <;>simp[wants]
theorem Ry{N:V}{A:aJ}{y H:V}(m:A∈bM)(x:aM N)(p:cz N 40)(a:aM y)(F:cz y 40):d8 (en N A y H):=by
 have o:en N A y H=match kf N with|false=>a3 (ez oE)|true=>match fj [dU,d5] 2 N A with|.inr o=>o|.inl C=>match subB H (bB C) with|true=>bn y|false=>a3 (dF (bB C) y):=rfl
 refine U o ?_;generalize (kf N)=K;induction K using ap with|false=>exact uG|true=>
  cases Q:fj [dU,d5] 2 N A with|inr o=>exact(ED m x p Q).1|inl C=>
   dsimp only;generalize (subB H (bB C))=K;induction K using ap with|true=>exact uH a F|false=>exact yM Rx a F
section
variable{B:aa}{k:aF}{r:O}{h:FM->al->O->Prop}{D:Nat->Nat->O->Prop}{e:ar}
theorem set_inv{f:Nat}(w:bK f e){N:V}{A:aJ}{y H:V}(a:aM y)(F:cz y 40):LsOk (jn e (dA e.Q N A y H))/\bK f (lH (jn e (dA e.Q N A y H)) (dA e.P N A y H))/\(dA e.Q N A y H).length=e.Q.length/\(dA e.P N A y H).length=e.P.length:=by
 rcases Rw (N:=N) (A:=A) (y:=y) (H:=H) with j|⟨k,C,j⟩
 ·rw[j,j];exact bP w.ok w rfl rfl
 ·rw[j,j];have b:LsOk (jn e (b5 e.Q k C y)):=Ow w.ok a;have g:LsOk (lH (jn e (b5 e.Q k C y)) (b5 e.P k C y)):=OM (e:=jn e (b5 e.Q k C y)) b a;have len:(b5 e.Q k C y).length=e.Q.length:=oF;refine bP b ⟨g,by show b5 e.P k C y=b5 e.Q k C y;exact U w.fo rfl,w.hP,by show(b5 e.Q k C y).length<=_;refine U len ?_;exact w.kt,w.h0,λj=>by show 0<(b5 e.Q k C y).length;refine U len ?_;exact w.rt j,λc d=>by show∃K,Val (b5 e.Q k C y).length _ _ _;refine U len ?_;exact w.fP c d,λZ S=>?_⟩ len oF
  rcases ya (show Z∈b5 e.Q k C y from S) with j|⟨u,x,rfl⟩
  ·exact w.lR Z j
  ·have:=w.lR u x;unfold eN;generalize (Nat.beq C 0)=p;induction p using ap with|true=>exact⟨F,this.2⟩|false=>exact⟨this.1,F⟩
theorem Rz(W:er B k)(i:∀C,r.get 0 C=G){f t:Nat}(TR:f+1<=6)(n:bK (f+1) e){N K:V}(Z:Val e.Q.length (f+1) N K){A:aJ}(m:A∈bM)(hd:∀R v,d8 R->bK (f+1+1) v->h .next (cc R R) (bz v)):
  a9 B 125 k r (bb (iD (lc 3)) k) (dW t N A) (bz e) h D:=by
 have l:=W.T.toTopOk;have u:e.held.length<=7:=Nat.le_trans n.hP (by lia)
 have x:=Z.flat;have p:cz N 40:=eB _ Z.kh (by lia)
 have g:=oG A m;refine aD (q0 (e:=e) n.fP) λH a=>?_;have j:bK (f+1) (bC e):=n.dK _ _;have F:cz (dH e) 40:=eB _ a.kh (by lia)
 refine e7 (set_inv j (N:=N) (A:=A) (H:=H) a.flat F) λz L S b=>?_;have s:d8 (en N A (dH e) H):=Ry m x p a.flat F;refine U (iK (iD (lc 3))).symm (gy (a:= [(lM,en N A (dH e) H),(oV,en N A (dH e) H)]) W i (Q7.mpr (fD ..)) (bP (lS l n.ok u) ⟨j.ok,z,Nat.le_refl _,by show(bC e).Q.length<=(dA (bC e).Q N A (dH e) H).length;refine U S ?_;exact Nat.le_refl _,λy q=>?_,s.flat,hy λc d=>?_,λw o X=>(OB l j.ok X.fx Z a m (o _ rfl)).le (by decide)⟩ ⟨z,L.ok,by show(bC e).P.length<=(dA (bC e).P N A (dH e) H).length;refine U b ?_;exact Nat.le_refl _,Nat.le_refl _,λy q=>?_,s.flat,λI o=>(by cases o),λw I X=>(OP l z X.fx (by show Val e.P.length _ _ _;refine U n.fo ?_;exact Z) a m).le (by decide)⟩ trivial) L.ok eO (o3 s.flat) (.nil (hd _ _ s L.up)))
 ·rcases aW.mp q with rfl|q
  ·exact .inl (.flat trivial)
  ·rcases aW.mp q with rfl|q
   ·exact .inl hv
   ·exact U (cy.mp q) (.inr ⟨rfl,rfl⟩)
 ·rcases aW.mp d with rfl|d
  ·exact x
  ·exact iB g a.flat c d
 ·rcases aW.mp q with rfl|q
  ·exact .inl (.flat x)
  ·rcases aW.mp q with rfl|q
   ·exact .inl (.flat g)
   ·rcases aW.mp q with rfl|q
    ·exact .inl (.flat a.flat)
    ·exact U (cy.mp q) (.inl oO)
theorem RA(W:er B k)(i:∀C,r.get 0 C=G){f t:Nat}(b:f+1<=6)(w:bK (f+1) e)(q:t<6)(hd:∀R v,d8 R->bK (f+1+1) v->h .next (cc R R) (bz v)):a9 B 125 k r (bb (iD (d7 1)) k) (dV (f+1) t) (bz e) h D:=by
 refine U QI (Rm W i b w λN K H P l=>Rn W i l.flat P λy L x j z=>.cons (Rp W i l.flat L j λA m a d g=>?_));have o:Val a.Q.length (f+1) N K:=by refine U g ?_;exact U z l
 refine .cons ?_;have F:=eA ((Q0 (B:=B) (e:=a) (N:=N) (A:=A)).mpr (eM (λI=>uA ..) _)) q;have n:∀Z∈[(fC,bR t),(fm,N),(kr,b2 A)],aM Z.2:=j3 trivial l.flat (oG _ m);generalize u:(yK t)=p;induction p using ap with|true=>replace F:=u▸F;exact o1 (m:=M) (d:=a) (a:= [(fC,bR t),(fm,N),(kr,b2 A)]) W i F trivial d.ok n (Rv W i b d o m λR v s c=>.nil (hd R v s c))|false=>replace F:=u▸F;exact o1 (m:=E) (d:=a) (a:= [(fC,bR t),(fm,N),(kr,b2 A)]) W i F trivial d.ok n (Rz W i b d o m λR v s c=>.nil (hd R v s c))
theorem RB(W:er B k)(i:∀C,r.get 0 C=G){f:Nat}(n:f<=6)(w:bK f e):a9 B 125 k r (bb (lN (bk 102 2)) k) (bj++ [(hz,bR f)]) (bz e) (gj (TurnEnd (f+1)) h) D:=by
 refine U QG ?_;have l:=W.T.toTopOk;have c:∀t v,t<6->(f=0->t=0)->bK f v->a9 B 125 k r (bb [oX (d7 1),d7 2] k) (dV f t) (bz v) (gj (TurnEnd (f+1)) h) D:=λt v q d m=>by
  refine .cons ?_;have F:=eA ((QL (B:=B) (e:=v) (f:=f)).mpr (eM (λI=>uA ..) _)) q;have p:∀R g,d8 R->bK (f+1) g->a9 B 125 k r (bb [d7 2] k) (cc R R) (bz g) (gj (TurnEnd (f+1)) h) D:=λR g s z=>Rg W i z s;generalize u:(yI t)=K;induction K using ap with
  |true=>
   replace F:=u▸F;exact o1 (m:=M) (d:=v) (a:= [(hz,bR f),(fC,bR t)]) W i F trivial m.ok (f2 trivial trivial) (Rl W i n m p (by have:=Nat.le_of_ble_eq_true (show Nat.ble (t+1) 2=M from u);lia) d)
  |false=>
   replace F:=u▸F;cases f with|zero=>replace u:=(d rfl)▸u;cases u|succ f=>exact o1 (m:=E) (d:=v) (a:= [(hz,bR (f+1)),(fC,bR t)]) W i F trivial m.ok (f2 trivial trivial) (RA W i n m q p)
 cases f with|zero=>exact gy (a:= [(hz,bR 0),(fC,bR 0)]) W i (QJ.mpr (fD ..)) trivial w.ok eO (f2 trivial trivial) (c 0 _ (by decide) (λI=>rfl) w)|succ f=>exact gy (a:= [(hz,bR (f+1)),(fC,bR (bo e.a e.b 6))]) W i (QK.mpr (fD ..)) ⟨hA l w.ok (by decide) (by decide),trivial⟩ (w.dK _ _).ok eO (f2 trivial trivial) (c _ _ (h3 (by decide)) (λj=>by cases j) (w.dK _ _))
end
section
variable{B:aa}{k:aF}{r:O}{h:FM->al->O->Prop}{D:Nat->Nat->O->Prop}{e:ar}
theorem EE :eT m4 (ro (bk 102 2))=Y (.name hz):=by kernel_rfl
theorem RC{l:Src}{N:V}(j:nG l=E):walk bj l (.name hz) N=Y (bj++ [(hz,N)]):=by unfold walk;refine U j ?_;kernel_rfl
theorem yQ{Q:al}(j:lL bj Q):mG bj Q:=Ej j λZ S=>by
 have:=yH (c:= []) (λI j=>by cases j) Z
 rw[iK] at this;exact this S
theorem RD(W:er B k)(i:∀C,r.get 0 C=G){m:Nat}(T:m<=7)(y:∀e,bK m e->h .next bj (bz e)):∀(z f:Nat) (Q:al) (L:O),f+z=m->TurnEnd f Q L->
  gk B 125 k r (ro (bk 102 2)) (lN (bk 102 2)) Q L (.cg (.ofNat f) (.ofNat m)) h D:=λz=>by
 induction z with
 |zero=>
  intro f Q L o ⟨Z,e,w,a⟩;replace o:f=m:=o;clear T;subst o;refine gk.less (P:=bj) (n:=bz e) ?_ i (rn w.ok a) (yQ Z);refine sZ (K:=λI I I=>False) (C:=Y G) W.H EE ?_ (λI I I j=>j.elim) (y e w);show(match ltI (.ofNat f) (.ofNat f) with|true=>Y (Y (V.int (hI f),Src.cg (hI f+1) (hI f)))|false=>Y G)=Y G
  have:ltI (hI f) (hI f)=false:=by
   show Nat.blt f f=E;generalize u:Nat.blt f f=p;induction p using ap with|false=>rfl|true=>have:=Nat.le_of_ble_eq_true (show Nat.ble (f+1) f=M from u);lia
  exact U this rfl
 |succ z F=>
  intro f Q L o ⟨Z,e,w,a⟩;refine gk.less (P:=bj) (n:=bz e) ?_ i (rn w.ok a) (yQ Z);refine sZ (K:=λl Q L=>l=.cg (.ofNat (f+1)) (.ofNat m)/\TurnEnd (f+1) Q L) (C:=Y (Y (bR f,.cg (.ofNat (f+1)) (.ofNat m)))) W.H EE ?_ (λl P n j=>by refine U j.1 ?_;exact F (f+1) P n (by lia) j.2) (aC _ (RC rfl) ?_)
  ·show(match ltI (.ofNat f) (.ofNat m) with|true=>Y (Y (V.int (hI f),Src.cg (hI f+1) (hI m)))|false=>Y G)=_
   have:ltI (hI f) (hI m)=true:=by show Nat.blt f m=M;exact Nat.ble_eq_true_of_le (by lia)
   refine U this ?_;rfl
  ·refine a9.ws (a9.mono (RB (h:=h) W (λI=>rfl) (by lia) w) λc Q L j=>?_)
   induction c using FM.casesOn with|next=>exact⟨rfl,j⟩|_=>exact j
def yR(B:aa)(o:ah)(Q:al)(L:O):Res Src:=(rm B 300).i (ft (az 40 m4) o) Q L
theorem RE{x:ar}:allI 5 (λu=>hx B aT (λT=>cC T (.cg (.ofNat 0) (.ofNat (3+u))) (view x aT)) [cF 5 u x] e (yR B (ux (bk 102 2)) bj (bz e)))=allI 5 (λu=>jp B aT (λI:Res Src=>Src.cg (.ofNat 0) (.ofNat (3+u))=.cg (.ofNat 0) (.ofNat (3+u))/\view x aT=view x aT) [cF 5 u x] e (yR B (ux (bk 102 2)) bj (bz e))):=by kernel_rfl
theorem RF(w:LsOk e)(j:e.held= [])(d:e.P= [])(T:e.Q= []):bK 0 e:=
 ⟨w,by refine U d ?_;exact U T rfl,by refine U j ?_;exact Nat.le_refl _,by refine U T ?_;exact Nat.le_refl _,λj=>absurd j (Nat.lt_irrefl _),λj=>absurd j (Nat.lt_irrefl _),λN i=>(by replace i:=j▸i;cases i),λZ S=>(by replace S:=T▸S;cases S)⟩
end
noncomputable def o4 :Nat:=6765637
def e5 :V:=vInt cD 9
def e6 :V:=ey [98,101,103,105,110]
def EF :V:=vInt mJ 3
def EG :V:=h1 [vBool E]
section
variable{B:aa}{e:ar}{v m:Nat}{q r:List V}{P a:List (V×V)}
def EH(e:ar):List cb:= [.call 596 115 0 [.ref 1 865,e5] G bW e G,.call 499 115 0 [.ref 1 0,bW,bW] G (.bool M) e G,.call 596 115 0 [.ref 1 865,e6] G gV e G,.call 499 115 0 [.ref 1 0,gV,cq] G (.bool M) e G,
 .call 549 120 (10+e.Q.length) [.ref 1 865,cellK,.ref 7 0] (Y [e5,e6]) (bR e.Q.length) (more e (e5,e6)) G]
theorem RG :dJ B [bk 102 3] bj e (EH e) (bj++ [(o4,aV e.Q.length)]) (view (more e (e5,e6)) aT)=e4 B [bk 102 3] bj e (EH e) (bj++ [(o4,aV e.Q.length)]) (view (more e (e5,e6)) aT):=by kernel_rfl
def yS(e:ar)(L:Nat):List cb:= [.call 617 125 0 kk (Y [aV L,aV 0]) (vBool E) e G]
theorem RH{R:List V}{L:Nat}:dJ B [bk 102 4] (bj++ [(o4,aV L)]) ⟨v,m,aV 0::R,P,a,r⟩ (yS ⟨v,m,aV 0::R,P,a,r⟩ L) (bj++ []) (view ⟨v,m,aV 0::R,P,a,r⟩ aT)=e4 B [bk 102 4] (bj++ [(o4,aV L)]) ⟨v,m,aV 0::R,P,a,r⟩ (yS ⟨v,m,aV 0::R,P,a,r⟩ L) (bj++ []) (view ⟨v,m,aV 0::R,P,a,r⟩ aT):=by kernel_rfl
def EI(B:aa)(e:ar):Prop:=oU bj (mR e aT e.P.length e5 e6).aw (jt B [bk 102 5] bj ⟨.nil,0,20+e.P.length,view e aT⟩)
def RI(e:ar):Prop:=rl bj (mR e aT e.P.length e5 e6).aw
abbrev EJ(B:aa)(v m:Nat)(q r:List V)(a P:List (V×V)):Prop:=EI B ⟨v,m,q,P,a,r⟩=RI ⟨v,m,q,P,a,r⟩
theorem RJ(j:P.length<=7):EJ B v m q r a P:=
 mM (a:=λP=>EJ B v m q r a P) j (by kernel_rfl) (by intros;kernel_rfl) (by intros;kernel_rfl) (by intros;kernel_rfl) (by intros;kernel_rfl) (by intros;kernel_rfl) (by intros;kernel_rfl) (by intros;kernel_rfl)
def dI(q:List V):List V:=q++ [EF,EG]
def gz(e:ar):O:=⟨(((bz e).set 0 0 (Y (.list [EF,EG]))).set 0 1 (Y (.list (dI e.held)))).t,2,0,view e aT⟩
noncomputable def EK(e:ar)(N:V):List cb:= [.call 966 125 0 [.ref 1 865,N,.ref 2 2] G (.bool M) e G]
def hB(N:V):al:=bj++ [(fm,N)]
def yT(B:aa)(N:V)(e:ar):Prop:=FinE (.lst 0 1 0) (gz e) (yR B (ux (bk 102 6)) bj (bz e))/\(gz e).get 0 1=Y (.list (dI e.held))/\hx B aT (FinE (hB N) (gz e)) (EK e N) e (jt B (lN (bk 102 6)) (hB N) (gz e))
def EL(B:aa)(N:V)(e:ar):Prop:=(Src.lst 0 1 0=.lst 0 1 0/\gz e=gz e)/\Y (aj.list (dI e.held))=Y (.list (dI e.held))/\jp B aT (λI:Res al=>hB N=hB N/\gz e=gz e) (EK e N) e (jt B (lN (bk 102 6)) (hB N) (gz e))
theorem EM(N:V)(e:ar):EL B N e:=aQ ⟨rfl,rfl⟩ rfl (jq (λI=>⟨rfl,rfl⟩) _ _ _)
abbrev EN(B:aa)(v m:Nat)(r:List V)(P a:List (V×V))(N:V)(q:List V):Prop:=yT B N ⟨v,m,q,P,a,r⟩=EL B N ⟨v,m,q,P,a,r⟩
theorem EO{N:V}(j:q.length<=7):EN B v m r P a N q:=
 mM (a:=λq=>EN B v m r P a N q) j (by kernel_rfl) (by intros;kernel_rfl) (by intros;kernel_rfl) (by intros;kernel_rfl) (by intros;kernel_rfl) (by intros;kernel_rfl) (by intros;kernel_rfl) (by intros;kernel_rfl)
def EP(e:ar):List cb:= [.call 697 125 0 kk (Y [cj (bH cq)]) (vInt cD (.ofNat 2)) e G]
def EQ(B:aa)(e:ar):Res V:=be.yB ((rm B 300).ss ([bk 102 7].map (bY 40 m4)) bj (bz e))
theorem RK :hx B aT (λT=>cC T (.bool M) (view e aT)) (EP e) e (EQ B e)=jp B aT (λI:Res V=>V.bool M=.bool M/\view e aT=view e aT) (EP e) e (EQ B e):=by kernel_rfl
end
set_option backward.match.sparseCases false
theorem RL :j6 102= [bk 102 0,bk 102 1]++(uz (bk 102 2)::([bk 102 3]++([bk 102 4]++([bk 102 5]++ [uz (bk 102 6),bk 102 7])))):=by kernel_rfl
section
variable{B:aa}{k:aF}{R:O}{h:FM->al->O->Prop}{D:Nat->Nat->O->Prop}{e:ar}
theorem RM{C v:Nat}(ok:LsOk e){L:O}(j:∀A C,A≠0->L.get A C=view e aT A C):ln L ⟨.nil,C,v,view e aT⟩:=
 ⟨λA C m=>by refine U (j A C m) ?_;exact eL m,λI=>rfl,λA C r m o=>by rw[j A C m] at o;exact yu ok (λI I u=>ag u) m o⟩
theorem RN{y X:V}(c:e.Q.length<=9){L:O}(j:L.aw=(mR e aT e.P.length y X).aw):∀A C,A≠0->L.get A C=view (hw e (y,X)) aT A C:=λA C m=>by
 by_cases F:A=7
 ·clear m;subst F;exact(xW c j).a C
 ·have R:bG A=true:=by unfold bG;rw[bl.cH,bl.cH];refine U (decide_eq_false m) (U (decide_eq_false F) ?_);rfl
  generalize u:view (hw e (y,X)) aT A C=K;induction K using aB with|some r=>exact(xW c j).s A C r R u|none=>
   have b:view e aT A C=none:=by
    generalize x:view e aT A C=K;induction K using aB with|none=>rfl|some r=>
     have:=Dg (e:=e) (W:=hw e (y,X)) (X:=aT) (A:=A) (f:=C) (by show _<=(e.P++ [(y,X)]).length;refine U fL ?_;exact Nat.le_succ _) (Nat.le_refl _) (by refine U x ?_;rfl)
     rw[u] at this;exact aG this
   refine U (h2 m) (U j ?_);unfold mR;refine U (h2 m).symm ?_;rw[O.get_set _ _ _ _ (λu=>by cases u),O.get_set _ _ _ _ (λu=>by lia)];refine U (eL m) ?_
   have N:¬(A=2/\C=2):=λl=>ak l λt g=>by clear R F m;subst t g;exact ha u
   have H:¬(A=20+e.P.length/\C=0):=λT=>ak T λt g=>by
    clear R F m;subst t g;have D:Nat.ble 20 (20+e.P.length)=true:=Nat.ble_eq_true_of_le (Nat.le_add_right _ _);rw[Dc D,Nat.add_sub_cancel_left] at u;replace u:(match bN (e.P++ [(y,X)]) e.P.length with|some Z=>gr Z 0|none=>G)=none:=u
    rw[xN,if_pos rfl] at u;exact ha u
   exact U (if_neg N) (U (if_neg H) b)
theorem ER :eT m4 (ro (bk 102 6))=Y (.name fm):=by kernel_rfl
theorem RO{f:Nat}{N:V}:walk bj (.lst 0 1 f) (.name fm) N=Y (hB N):=by kernel_rfl
theorem RP{f:Nat}{c N:V}:walk (hB c) (.lst 0 1 f) (.name fm) N=Y (hB N):=by kernel_rfl
theorem RQ(W:er B k)(ok:LsOk e)(m:e.P=e.Q)(u:e.held.length<=7)(i:∀N∈e.held,∃K,Val e.Q.length 7 N K)(d:∀a,(a=bj\/∃c,a=hB c)->h .next a (gz e)):
  ∀(z f:Nat) (a:al),f+z=(dI e.held).length->(a=bj\/∃c,a=hB c)->gk B 125 k R (ro (bk 102 6)) (lN (bk 102 6)) a (gz e) (.lst 0 1 f) h D:=λz=>by
 have S:∀N,yT B N e:=λN=>by clear d i m ok;obtain ⟨UK,TR,Uq,P,TS,TU⟩:=e;exact(EO (B:=B) u).mpr (EM ..)
 have v:∀f,nextM (gz e) (.lst 0 1 f)=match(dI e.held)[f]? with|some y=>Y (Y (y,.lst 0 1 (f+1)))|none=>Y none:=λf=>by
  show(match(gz e).get 0 1 with|some (.list n)=>(match n[f]? with|some y=>Y (Y (y,Src.lst 0 1 (f+1)))|none=>Y G)|_=>G)=_
  exact U ((S .none).2.1) rfl
 induction z with
 |zero=>
  intro f a o x;have:(dI e.held)[f]? =none:=LP (by lia)
  exact C7 (P:=λI I I=>False) (C:=Y G) (W:=40) (W.K 300) W.H ER (by rw[v];exact U this rfl) (d a x) λI I I j=>j.elim
 |succ z F=>
  intro f a o x;have s:f<(dI e.held).length:=by lia
  have t:(dI e.held)[f]∈dI e.held:=Cp s;generalize A:(dI e.held)[f]=N at t;have X:(dI e.held)[f]? =Y N:=by refine U (kI s) ?_;exact U A rfl
  obtain ⟨K,Z⟩:∃K,Val e.Q.length 7 N K:=by
   rcases lz.mp t with j|j
   ·exact i N j
   ·rcases aW.mp j with rfl|j
    ·exact⟨qN,.lit (by repeat (first|exact gf|apply gO))⟩
    ·exact U (cy.mp j) (⟨mK [ow],.lit (by repeat (first|exact gf|apply gO))⟩)
  refine C7 (P:=λl a L=>l=.lst 0 1 (f+1)/\(∃c,a=hB c)/\L=gz e) (C:=Y (Y (N,.lst 0 1 (f+1)))) (W:=40) (W.K 300) W.H ER (by rw[v];exact U X rfl) (aC (hB N) ?_ ?_) λl C Uk r=>br r λb p g=>by refine U b ?_;exact U g (F (f+1) C (by lia) (.inr p))
  ·rcases x with rfl|⟨c,rfl⟩
   ·exact RO
   ·exact RP
  ·refine Eh (kj o0 _ _ _ (S N).2.2 ⟨fB ok (λy q=>?_) trivial (λI o=>ag o) λTV I w=>(P4 W.T ok w m (Nat.le_refl _) Z).le (by decide),trivial⟩ λUE j=>toE j (aQ rfl ⟨N,rfl⟩ rfl))
   rcases aW.mp q with rfl|q
   ·exact .inl hv
   ·rcases aW.mp q with rfl|q
    ·exact .inl (.flat Z.flat)
    ·exact U (cy.mp q) (.inl oO)
end
set_option backward.match.sparseCases true
section
variable{B:aa}{k:aF}{TU:O}{h:FM->al->O->Prop}{D:Nat->Nat->O->Prop}{e:ar}
theorem RR(W:er B k)(d:∀C,TU.get 0 C=G)(ok:LsOk e)(s:e.P=e.Q)(u:e.held.length<=7)(z:∀N∈e.held,∃K,Val e.Q.length 7 N K)(y:∀a L,h (.ret (.bool M)) a L):a9 B 125 k TU (bb [uz (bk 102 6),bk 102 7] k) bj (bz e) h D:=by
 have S:yT B .none e:=by clear z s ok;obtain ⟨v,m,q,P,x,g⟩:=e;exact(EO (B:=B) u).mpr (EM ..)
 have p:∀a,(a=bj\/∃c,a=hB c)->a9 B 125 k TU (bb [bk 102 7] k) a (gz e) h D:=λa b=>by
  refine uv (c:= []) d ok (λI j=>by cases j) ?_ (eO _ rfl) ?_
  ·rcases b with rfl|⟨c,rfl⟩
   ·exact g8 rfl rfl rfl rfl trivial
   ·exact g8 rfl rfl rfl rfl trivial
  ·have F:=D0 (B:=B) (TR:=aT) (i:=λI:Res V=>V.bool M=.bool M/\view e aT=view e aT) (RK (B:=B) (e:=e)) λI=>⟨rfl,rfl⟩;refine a9.run (W:=40) (W.K 300) W.H (D6 (kj o0 _ _ _ F ⟨fB ok lJ (bP trivial trivial trivial trivial) (hy (rc ?_)) λw o I=>(Pl W.T.toTopOk (o _ rfl)).le (by decide),trivial⟩ λr j=>fz j λL I a=>y a L))
   repeat' (first|exact trivial|constructor)
 refine .cons (.of (wV (by kernel_rfl) λl=>(W.K 300).i (d:=40) W.H ?_ l))
 exact toE S.1 (RQ (h:=gj (λa L=>a9 B 125 k TU (bb [bk 102 7] k) a L h D) h) W ok s u z p _ 0 bj (Nat.zero_add _) (.inl rfl))
theorem RS(W:er B k)(i:∀C,TU.get 0 C=G){m:Nat}(b:1<=m)(F:m<=7)(n:bK m e)(Uq:∀a L,h (.ret (.bool M)) a L):a9 B 125 k TU (bb ([bk 102 3]++([bk 102 4]++([bk 102 5]++ [uz (bk 102 6),bk 102 7]))) k) bj (bz e) h D:=by
 have R:=W.T.toTopOk;have ok:=n.ok;have q:e.Q.length<=7:=Nat.le_trans n.kt F;have S:e.P.length<=7:=by refine U n.fo ?_;exact q
 obtain ⟨g,H⟩:∃g,e.Q.length=g+1:=⟨e.Q.length-1,by have:=n.rt b;lia⟩
 refine aD (n.h0 b) λTX Z=>?_;have z:aM e5:=bP trivial trivial trivial trivial;have u:aM e6:=aQ trivial trivial trivial;have p:Val e.Q.length 0 e5 bW:=.lit (by repeat (first|exact gf|apply gO))
 have l:Val e.Q.length 0 e6 gV:=.lit (by repeat (first|exact gf|apply gO))
 have A:LsOk (more e (e5,e6)):=tQ ok q z u;have TV:∀{c t:V},dx c->aM t->∀y∈[c,t],dx y\/(y=.ref 7 0/\(G:Option (List V)).isSome=M):=λx s y X=>.inl (lC x s y X);have three:∀{c t d:V},dx c->aM t->aM d->∀y∈[c,t,d],dx y\/(y=.ref 7 0/\(G:Option (List V)).isSome=M):=λx s T5 y X=>.inl (tV x s T5 y X);have f:∀TR:List V,(G:Option (List V))=Y TR->∀N∈TR,aM N:=λI o=>ag o;have T2:bj=bj++ []:=rfl;refine gy (a:= [(o4,aV e.Q.length)]) W i (RG.mpr (fD ..)) (nf (fB ok (TV hv z) p.iz f λw I I=>(j8 R ok p).le (by decide)) (fB ok (three qU p.iz (gv _ (by unfold wants;simp))) trivial f λw I I=>Spec.mono ((mL R p.e0 (by unfold wants;simp)).le (by decide)) λT1 L j=>⟨j.1.trans (by kernel_rfl),j.2⟩) (fB ok (TV hv u) l.iz f λw I I=>(j8 R ok l).le (by decide)) (fB ok (three qU l.iz (gv _ (by unfold wants;simp))) trivial f λw I I=>Spec.mono ((mL R l.e0 (by unfold wants;simp)).le (by decide)) λT1 L j=>⟨j.1.trans (by kernel_rfl),j.2⟩) ⟨ok,A,Nat.le_refl _,tR,λy X=>?_,trivial,hy (iB z u),λw o I=>(Dn R q (o _ rfl)).le (by decide)⟩ trivial) A eO (λTY S=>?_) ?_
 ·rcases aW.mp X with rfl|X
  ·exact .inl hv
  ·rcases aW.mp X with rfl|X
   ·exact .inl (.flat xV)
   ·exact U (cy.mp X) (.inr ⟨rfl,rfl⟩)
 ·exact U (cy.mp S) (aQ trivial trivial trivial)
 have q7:dJ B [bk 102 4] (bj++ [(o4,aV e.Q.length)]) (more e (e5,e6)) (yS (more e (e5,e6)) e.Q.length) (bj++ []) (view (more e (e5,e6)) aT):=by obtain ⟨v,m,T6,P,TW,T4⟩:=e;replace Z:T6=aV 0::TX:=Z;clear A l p H S q ok n;subst Z;exact RH.mpr (fD ..)
 refine gy (a:= []) W i q7 ⟨fB A lJ (aQ trivial trivial trivial) (hy (iB (aQ trivial trivial trivial) (aQ trivial trivial trivial))) λw o I=>(Po R (f:=g) (by refine U (o _ rfl) ?_;exact U H rfl)).le (by decide),trivial⟩ A eO (λTY S=>by cases S) ?_
 have r:LsOk (hw (more e (e5,e6)) (e5,e6)):=Dw A S z u;have oW:EI B (more e (e5,e6)):=by clear r q7 A l p Z H q ok n;obtain ⟨v,m,T6,P,TW,T4⟩:=e;exact(RJ (B:=B) (a:=TW++ [(e5,e6)]) S).mpr us
 refine a9.less (P:=bj) (n:=⟨.nil,0,20+(more e (e5,e6)).P.length,view (more e (e5,e6)) aT⟩) ?_ i (RM A λTS C Ue=>eL Ue) (yQ (g8 rfl rfl rfl rfl trivial));refine uw W (toL oW λa L b TZ=>uv (c:= []) i r (λI j=>by cases j) b (RN (by show(e.Q++ [_]).length<=9;refine U fL ?_;show e.Q.length+1<=9;lia) TZ) ?_)
 refine RR W i r ?_ (Nat.le_trans n.hP F) (λN T3=>?_) Uq
 ·show e.P++_=e.Q++_;exact U n.fo rfl
 ·exact aD (n.fP N T3) λK T0=>⟨K,T0.mono tR F⟩
def ES(v:Nat):al:=(kY (q3 102) [] [.glob (.ref v)]).getD []
section
variable(B:aa)(v y X:Nat)
def o5 :List V:= [bR y,bR X]
def yU :Res al:=jt B [bk 102 0,bk 102 1] (ES v) (iC 0 0)
def yV :Res al:=(yU B v).cw (.ref 2 0) (km 0 0 (o5 y X))
def RT :Res al:=(yV B v y X).cw (.ref 1 865) (oQ 1 2 (o5 y X))
def uK :Nat->Nat->Option aj:=(((oQ 1 2 (o5 y X)).set 2 1 (Y (.list []))).set 2 2 (Y (.list []))).aw
end
theorem RU{v y X:Nat}:((yU B v).gU=Spec B 125 (.glob (.ref 870)) [.glob (.ref v)] (iC 0 0)/\(yV B v y X).gU=Spec B 125 (.glob (.ref 884)) [] (km 0 0 (o5 y X))/\oU bj (uK y X) (RT B v y X))=(Spec B 125 (.glob (.ref 870)) [.glob (.ref v)] (iC 0 0)=Spec B 125 (.glob (.ref 870)) [.glob (.ref v)] (iC 0 0)/\Spec B 125 (.glob (.ref 884)) [] (km 0 0 (o5 y X))=Spec B 125 (.glob (.ref 884)) [] (km 0 0 (o5 y X))/\rl bj (uK y X)):=by kernel_rfl
theorem RV{y X:Nat}{L:O}(j:L.aw=uK y X):∀A C,A≠0->L.get A C=view ⟨y,X,[],[],[],[]⟩ aT A C:=λA C m=>by
 refine U (h2 m) (U j ?_);unfold uK;refine U (h2 m).symm ?_;rw[O.get_set _ _ _ _ (λu=>by cases u),O.get_set _ _ _ _ (λu=>by cases u)];refine U yA ?_
 by_cases Q:A=1
 ·clear m;subst Q;refine U (if_neg (λi=>by cases i.1)) (U (if_neg (λi=>by cases i.1)) ?_)
  rfl
 ·have z:Nat.beq A 1=false:=by rw[bl.cH];exact decide_eq_false Q
  by_cases l:A=2
  ·clear z Q m;subst l;show _=d4 _ C;by_cases H:C=2
   ·subst H;refine U (if_pos ⟨rfl,rfl⟩) ?_;rfl
   ·refine U (if_neg (λi=>H i.2)) ?_;by_cases N:C=1
    ·clear H;subst N;refine U (if_pos ⟨rfl,rfl⟩) ?_;rfl
    ·refine U (if_neg (λi=>N i.2)) ?_;show kl _ 2 C=_;unfold kl d4;refine U (cI N) (U (cI H) ?_);generalize (Nat.beq C 0)=K;induction K using ap <;>rfl
  ·refine U (if_neg (λi=>l i.1)) (U (if_neg (λi=>l i.1)) ?_);have s:Nat.beq A 2=false:=by rw[bl.cH];exact decide_eq_false l
   unfold un kl view;refine U z (U s ?_);generalize (Nat.beq A 7)=K;induction K using ap with|true=>rfl|false=>
    generalize (Nat.ble 20 A)=K;induction K using ap with|true=>rfl|false=>generalize (Nat.ble 10 A)=K;induction K using ap <;>rfl
theorem RW(l:TopAll B)(f:fv B 870 (lq 87) (j6 87) (j7 87) []){v:Nat}{g:List Int}(S:oR B v g):Spec B 126 (.glob (.ref 971)) [.glob (.ref v)] (iC 0 0) λT I=>T=.bool true:=by
 refine Spec.xF l.toTopOk l.tF (a:=q3 102) (Q:=ES v) (by kernel_rfl) (by kernel_rfl) (by kernel_rfl) λk x=>?_
 have W:er B k:=⟨l,x⟩;refine a9.ws ?_;have d:∀C,(iC 0 0).get 0 C=none:=λC=>oP;refine U RL ?_;have R:∀y X,_:=λy X=>(RU (B:=B) (v:=v) (y:=y) (X:=X)).mpr (aQ rfl rfl us);refine uw W ?_;show(yU B v).to _ _;refine lx _ (R 0 0).1 ((Qv l f S (h:=0) (Q:=0)).le (by decide)) λT L ⟨t,y,X,q⟩=>?_
 subst t q;show(yV B v y X).to _ _;refine lx _ (R y X).2.1 ((Qc l.toTopOk (a:=1) (Z:=2) (λN z=>?_)).le (by decide)) λT L o=>ak o λt q=>?_
 ·rcases aW.mp z with rfl|z
  ·trivial
  ·refine U (cy.mp z) ?_;trivial
 subst t q;have D:∀{u:Type} {a:u->Prop},∀N∈([]:List u),a N:=λN j=>by cases j
 have ok:LsOk ⟨y,X,[],[],[],[]⟩:=⟨Nat.zero_le _,Nat.zero_le _,D,D,D,D⟩;refine toL (R y X).2.2 λQ L b p=>uv (c:= []) d ok D b (RV p) ?_;refine .cons (.of (wV (by kernel_rfl) λc=>(W.K 300).i (d:=40) W.H ?_ c))
 have m:bo y X 5<5:=h3 (by decide)
 have F:=D0 (B:=B) (TR:=aT) (i:=λI:Res Src=>Src.cg (.ofNat 0) (.ofNat (3+bo y X 5))=.cg (.ofNat 0) (.ofNat (3+bo y X 5))/\view (drawn ⟨y,X,[],[],[],[]⟩ 5) aT=view (drawn ⟨y,X,[],[],[],[]⟩ 5) aT)
  (propext ⟨λI=>jq (λI=>⟨rfl,rfl⟩) _ _ _,λI=>eA ((RE (B:=B) (e:=⟨y,X,[],[],[],[]⟩) (x:=drawn ⟨y,X,[],[],[],[]⟩ 5)).mpr (eM (λI=>jq (λI=>⟨rfl,rfl⟩) _ _ _) _)) m⟩) λI=>⟨rfl,rfl⟩
 refine kj o0 _ _ _ F ⟨hA l.toTopOk ok (by decide) (by decide),trivial⟩ λT j=>fz j λn dI=>?_
 have P:bK 0 (drawn ⟨y,X,[],[],[],[]⟩ 5):=RF (h4 ok) rfl rfl rfl;exact RD W (λI=>rfl) (by lia) (λe w=>RS W d (by lia) (by lia) w λI I=>rfl) (3+bo y X 5) 0 bj n (Nat.zero_add _) (fX (g8 rfl rfl rfl rfl trivial) _ P (eO n dI))
end
noncomputable def rz(c:String->Option Builtin)(p:e9)(t:cf)(a:Nat)(b:Option J):Nat->uL->yW->Option uL
 |0,_,_=>G|C+1,l,d=>match uM d with
  |true=>Y l|false=>match stepOk a b d with
   |false=>G|true=>match ET (denote c) p t l d with
    |some (W,i)=>rz c p t a b C W i|none=>G
theorem RX{c:String->Option Builtin}{Z:e9}{t:cf}{a:Nat}{b:Option J}:∀{C:Nat} {l W:uL} {d:yW},rz c Z t a b C l d=Y W->topRun c Z t a b C l.abs d=Y W.abs:=by
 intro s;induction s with|zero=>intro I I I j;exact ag j|succ C F=>
  intro l W d j;unfold rz at j;unfold topRun;generalize X:uM d=K;induction K using ap with
  |true=>replace j:=X▸j;obtain rfl:=an j;rfl
  |false=>
   replace j:=X▸j;generalize m:stepOk a b d=K;induction K using ap with|false=>replace j:=m▸j;exact ag j|true=>
    replace j:=m▸j;generalize R:ET (denote c) Z t l d=K;induction K using aB with|none=>replace j:=R▸j;exact ag j|some y=>obtain ⟨n,e⟩:=y;replace j:=R▸j;exact U (stepT_spec R) (F j)
def kv(p:e9)(t:cf)(a:Nat)(b:Option J):Nat->uL->yW->Option SharedT:=
 Nat.rec (λI I=>G) λI F l d=>match uM d with
  |true=>Y l|false=>match RY a b d with
   |false=>G|true=>match RZ (R0 R1) p t l d with
    |some (W,i)=>F W i|none=>G
theorem EU{Z:e9}{t:cf}{a:Nat}{b:Option J}:∀(C:Nat) (l:uL) (d:yW),rz rA Z t a b C l d=kv Z t a b C l d
 |0,_,_=>rfl|C+1,l,d=>by
  have F:=EU (Z:=Z) (t:=t) (a:=a) (b:=b) C;unfold rz;show _=match uM d with
   |true=>Y l|false=>match RY a b d with
    |false=>G|true=>match RZ (R0 R1) Z t l d with
     |some (W,i)=>kv Z t a b C W i|none=>G
  refine U Fast.te6613529449190102663.symm (U Fast.te10156331382660048174.symm (U Fast.te11892475500146522536.symm (U Fast.te14364793385576792824.symm ?_)));generalize (uM d)=K;induction K using ap with|true=>rfl|false=>
   dsimp only;generalize (stepOk a b d)=K;induction K using ap with|false=>rfl|true=>
    dsimp only;generalize (ET (denote rA) Z t l d)=K;induction K using aB with|none=>rfl|some y=>obtain ⟨W,i⟩:=y;exact F W i
noncomputable def EV :List bA->Nat->BT->BT
 | [],_,d=>d|r::T,C,d=>EV T (C+1) (d.ins C r)
def R2(P:Params):BT:=EV (gA P).objs.toList 0 .nil
def lT(t:cf)(os:j2):SharedT:=⟨R2 t.params,(gA t.params).objs.size,(gA t.params).life,#[],o6,rB,os⟩
theorem R3(t:cf)(os:j2):(lT t os).abs=⟨gA t.params,#[],o6,rB,os⟩:=by kernel_rfl
theorem R4(t:cf):(gA t.params).objs.size=11:=by kernel_rfl
theorem R5(t:cf):(gA t.params).nsMap da "__annotations__"=Y (.ref 6):=by kernel_rfl
def dY :List (Nat×Option aP×List V):=(36,c6 2 0,[.none])::(80,c6 5 0,[])::AA
noncomputable def sK(A:Key):Str:=⟨A.toArray⟩
theorem yX(y:am):sK (ay y)=y:=jz (by unfold ay;exact U yY rfl)
theorem R6{y:am}{A:Key}(j:ay y=A):y=sK A:=by refine U j.symm ?_;rw[yX]
set_option backward.match.sparseCases false in
noncomputable def EW :Data->Option (Array J)
 |.seq e _=>Y e|_=>G
noncomputable def EX :J->Option String
 |.type C=>Y C|_=>G
noncomputable def isNil{N:Type}:List N->Bool
 | []=>M|_::_=>E
def o7(j:av)(R:af):Option (List J):=eR (j.get? R) λr=>eR (EX r.cls) λC=>gG (C=="tuple") (gG (sf r.dict) (eR (EW r.data) λe=>gG (isNil r.slots.toList) (Y e.toList)))
noncomputable def EY(N t:J):Bool:=match N with
 |.builtin x=>match t with
  |.builtin X=>x==X|_=>E
 |.type x=>match t with
  |.type X=>x==X|_=>E
 |.ref v=>match t with
  |.ref m=>Nat.beq v m|_=>E
 |_=>E
mutual
noncomputable def kx(j:av):V->J->Bool
 |.none,N=>match N with
  |.none=>M|_=>E
 |.bool m,N=>match N with
  |.bool K=>match m,K with
   |true,M=>M|false,E=>M|_,_=>E
  |_=>E
 |.int f,N=>match N with
  |.int k _=>fq f k|_=>E
 |.str A,N=>match N with
  |.str x _=>a0 (ay x) A|_=>E
 |.bytes _,_=>E|.ref _ _,_=>E|.glob c,N=>EY N (h7 c)|.tup xs,N=>match N with
  |.ref R=>match o7 j R with
   |some g=>o8 j xs g|none=>E
  |_=>E
noncomputable def o8(j:av):List V->List J->Bool
 | [],vs=>match vs with
  | []=>M|_::_=>E
 |x::xs,vs=>match vs with
  | []=>E|N::T=>bg (kx j x N) (o8 j xs T)
end
theorem R7{W:Data}{y:Array J}(j:EW W=Y y):∃C,W=.seq y C:=by
 induction W using yZ with|seq v C=>exact⟨C,U (an j) rfl⟩|_=>exact ag j
theorem R8{N:J}{y:String}(j:EX N=Y y):N=.type y:=by
 induction N using hV with|type=>exact U (an j) rfl|_=>exact ag j
theorem R9{N:Type}{r:Option N}(j:sf r=M):r=none:=by
 induction r using aB with|none=>rfl|some=>exact aG j
theorem Sa{N:Type}{r:List N}(j:isNil r=M):r= []:=by
 induction r using aS with|nil=>rfl|cons=>exact aG j
theorem Sb{j:av}{R:af}{g:List J}(o:o7 j R=Y g):∃e:Array J,e.toList=g/\aO (λI I=>G) j R e:=by refine hd λT n=>au (eG o) λr F o=>au (eG o) λC b o=>ak (hh o) λp o=>ak (hh o) λx o=>au (eG o) λe q o=>ak (hh o) λh o=>?_;have a:=an o;refine aD (R7 q) λi q=>?_;replace b:=R8 b;rw[eq_of_beq p] at b;replace x:=R9 x;replace h:=zf (ys:= #[]) (Sa h);obtain ⟨B,W,D,f⟩:=r;refine n (aC e a ⟨i,?_,λ⟨_,_,_,u,_⟩=>nomatch u⟩);exact U F (congrArg Y (by refine U (show B=_ from b) ?_;refine U (show W=_ from x) ?_;refine U (show D=_ from q) ?_;exact U (show f=_ from h) rfl))
theorem Sc{N t:J}(j:EY N t=M):N=t:=by
 induction N using hV with
 |builtin y=>induction t using hV with|builtin X=>exact U (eq_of_beq j) rfl|_=>exact aG j
 |type y=>induction t using hV with|type X=>exact U (eq_of_beq j) rfl|_=>exact aG j
 |ref v=>induction t using hV with|ref m=>exact U (Nat.eq_of_beq_eq_true j) rfl|_=>exact aG j
 |_=>exact aG j
theorem Sd{j:av}{R:af}{x:List V}(o:(match o7 j R with|some g=>o8 j x g|none=>E)=M):∃g,o7 j R=Y g/\o8 j x g=true:=by
 generalize o7 j R=aw at o;induction aw using aB with|none=>exact aG o|some g=>exact aC g rfl o
theorem Se{m:Bool}{N:J}(o:(match N with|.bool K=>(match m,K with|true,M=>M|false,E=>M|_,_=>E)|_=>E)=M):N=.bool m:=by
 induction N using hV with
 |bool K=>induction m using ap <;>induction K using ap <;>first|rfl|exact aG o
 |_=>exact aG o
theorem Sf{j:av}{N:J}(o:kx j .none N=M):N=.none:=by induction N using hV <;>first|rfl|exact aG o
theorem Sg{j:av}{f:Int}{N:J}(o:kx j (.int f) N=M):∃d,N=.int f d:=by
 induction N using hV with|int k d=>replace o:fq f k=true:=o;rw[jC] at o;exact⟨d,U (of_decide_eq_true o) rfl⟩|_=>exact aG o
theorem Sh{j:av}{A:Key}{N:J}(o:kx j (.str A) N=M):∃y d,N=.str y d/\ay y=A:=by
 induction N using hV with|str y d=>exact d9 y d rfl (dL.mp o)|_=>exact aG o
theorem Si{j:av}{x:List V}{N:J}(o:kx j (.tup x) N=M):∃R g,N=.ref R/\o7 j R=Y g/\o8 j x g=true:=by
 induction N using hV with|ref R=>exact au (Sd o) λg b p=>hE R g rfl b p|_=>exact aG o
mutual
theorem uN{j:av}:∀(y:V) {N:J},kx j y N=M->aq (λI I=>G) j y N
 |.none,N,o=>Sf o|.bool m,N,o=>Se o|.int f,N,o=>by refine aD (Sg o) λd Q=>?_;clear o;subst Q;exact⟨d,rfl⟩|.str A,N,o=>by refine dZ (Sh o) λy d Q u=>?_;clear o;subst Q;exact⟨y,d,rfl,u⟩|.bytes _,_,o=>aG o|.ref _ _,_,o=>aG o|.glob c,N,o=>Sc o|.tup x,N,o=>by obtain ⟨R,g,rfl,u,o⟩:=Si o;obtain ⟨e,t,q⟩:=Sb u;exact⟨R,e,rfl,q,by refine U t ?_;exact EZ x o⟩
theorem EZ{j:av}:∀(y:List V) {N:List J},o8 j y N=M->aE (λI I=>G) j y N
 | [],[],_=>rfl| [],_::_,o=>aG o|_::_,[],o=>aG o|y::x,N::T,o=>⟨N,T,rfl,uN y (b8 o).1,EZ x (b8 o).2⟩
end
set_option genInjectivity true in
structure uO where
 a:hN
 b:List aP
 s:cn
 g:af
 fG:af
 cl:List (am×af)
 ok:Bool
def E0(j:av)(Z:List V)(N:J):Bool:=match Z with
 | []=>match N with
  |.none=>M|_=>E
 |_::_=>kx j (.tup Z) N
def rC(j:av)(Z:List V)(v:af):Option uO:=match j.get? v with
 |some r=>match r.data with
  |.func z=>match z.body with
   |.stmts m=>Y ⟨z.params,m,z.scope,z.globals,z.builtins,z.closure,bg (j.codeRecOk z.code z.qualname) (E0 j Z z.defaults)⟩|_=>G
  |_=>G
 |none=>G
def uP(st:Option aP):Option uO:=Y ⟨jg st,mH st,lp st,da,gE,[],M⟩
theorem Sj{j:av}{N:J}(o:E0 j [] N=M):N=.none:=by induction N using hV <;>first|rfl|exact aG o
theorem Sk{B:aa}{st:Option aP}{Z:List V}{v:af}(o:rC B.base Z v=uP st):fv B v (jg st) (mH st) (lp st) Z:=by
 unfold rC at o;refine hd λi n=>?_;generalize F:B.base.get? v=r at o;induction r using aB with|none=>exact ag o|some r=>
  dsimp only at o;generalize hd:r.data=D at o;induction D using yZ with
  |func z=>
   dsimp only at o;generalize a:z.body=bd at o;induction bd using FuncBody.casesOn with
   |stmts m=>
    refine fW (uO.mk.inj (an o)) λt g s A P=>br P λK c S=>ak (b8 S) λS d=>n ⟨r,z,F,hd,t,by refine U a ?_;exact U g rfl,s,A,K,c,.of_ok S,?_⟩
    clear P o n;induction Z using aS with|nil=>exact .inl ⟨rfl,Sj d⟩|cons W T=>obtain ⟨R,e,b,p,x⟩:=uN (.tup (W::T)) d;exact .inr (hE R e b p x)
   |_=>exact ag o
  |_=>exact ag o
theorem Sl{st:Option aP}{Z:List V}{f:pU}(o:Az st Z=Y f):∃P,gd (jg st).args=Y P/\iX (jg st) P Z (lp st)=M/\f=⟨P,Z,(mH st).map (bY 40 (bx (lp st).names))⟩:=by
 refine hd λT n=>au (ii o) λW hd o=>au (ii o) λP k o=>ak (hh o) λt o=>?_;have Q:jg st=W.a:=by unfold jg;exact U hd rfl
 have l:mH st=W.b:=by unfold mH;exact U hd rfl
 have N:lp st=W.s:=by unfold lp;exact U hd rfl
 exact n (U Q (U l (U N (cW P k t ((an o).symm)))))
set_option backward.match.sparseCases false
noncomputable def h5 :List Nat:= [323,461,517,573,743,830]
noncomputable def uQ :Str:="__getattribute__"
noncomputable def uR :Str:="__getattr__"
noncomputable def uS :Str:="__setattr__"
def iF :List (Nat×am×Option J):=
 h5.flatMap (λx=> [(x,uQ,Y (.builtin "object.__getattribute__")),(x,uR,G),(x,uS,Y (.builtin "object.__setattr__"))])++
 (pK.flatMap (λp=>p.2.map λA=>(p.1,sK A,G))++(ik.flatMap (λp=>p.2.map λq=>(p.1,sK q.1,Y (.ref q.2)))++
 [(83,uQ,Y (.builtin "BaseException.__getattribute__")),(83,uR,G),(83,("__init__":am),Y (.ref 80)),(83,uS,Y (.builtin "object.__setattr__")),(83,("message":am),G),(83,("spot":am),G),(83,("value":am),G)]))
noncomputable def E1(j:av)(x:Nat):List Nat:=match j.get? x with
 |some r=>match r.data with
  |.cls Z=> [Z.ns]|_=> []
 |none=> []
def uT :List Nat:=83::39::h5
def cG(j:av):Frag:=(uT++(uT.flatMap (E1 j)++(cStatics::dY.map (·.1)))).filterMap λv=>(j.get? v).map λr=>(v,r)
theorem Sm(j:av):(cG j).In j:=by
 unfold cG;generalize (uT++(uT.flatMap (E1 j)++(cStatics::dY.map (·.1))))=l
 induction l with|nil=>exact λv r o=>ag o|cons m T F=>
  intro v r o;rw[wo] at o;generalize u:j.get? m=K;induction K using aB with|none=>rw[u] at o;exact F v r o|some P=>
   rw[u] at o;rw[show(Ov (λr=>(m,r)) (Y P))=Y (m,P) from rfl] at o;dsimp only at o;rw[ia] at o;generalize t:(v==m)=K;induction K using ap with|true=>rw[t] at o;exact U (show v=m from by simpa using t) (U u o)|false=>rw[t] at o;exact F v r o
noncomputable def o9 :Nat->Nat->Key
 |0,_=> []|S+1,C=>match C with
  |0=> []|C+1=>(C%257)::o9 S ((C+1)/257)
def rD(p:Nat×V):Str:=sK (o9 40 p.1)
def uU(j:av)(p:Nat×V):Bool:=match j.nsMap da (rD p) with
 |some N=>kx j p.2 N|none=>match j.nsMap gE (rD p) with
  |some N=>kx j p.2 N|none=>E
noncomputable def allB{N:Type}(S:N->Bool):List N->Bool
 | []=>M|v::T=>bg (S v) (allB S T)
theorem h6{N:Type}{S:N->Bool}:∀{g:List N} {v:N},allB S g=M->v∈g->S v=M
 |m::T,v,j,z=>by
  refine ak (b8 j) λb p=>?_;rcases aW.mp z with rfl|z
  ·exact b
  ·exact h6 p z
noncomputable def rE :J->Option am
 |.str x _=>Y x|_=>G
def uV(j:av):Option (J×List J×Bool×Nat×Option (Option J)×List Bool):=match j.get? 83 with
 |some r=>match r.data with
  |.cls Z=>Y (r.cls,Z.mro.take 1,Z.hasDel,r.slots.toList.length,r.slots.toList[4]?,[(Z.mro.drop 1).contains (.type "Exception"),(Z.mro.drop 1).contains (.type "AttributeError"),(Z.mro.drop 1).contains (.type "NameError"),(Z.mro.drop 1).contains (.type "BaseException"),hX Z.mro,Z.hasDict])|_=>G
 |none=>G
noncomputable def y0 :Option (J×List J×Bool×Nat×Option (Option J)×List Bool):=Y (.type "type",[.ref 83],E,6,Y (Y (.builtin "Exception.__new__")),[M,E,E,M,M,M])
def uW(j:av):Option (J×Option af×Nat×List (Int×Option am×Option am)):=match j.get? 500 with
 |some r=>match r.data with
  |.dict n _=>Y (r.cls,r.dict,r.slots.toList.length,n.toList.map λo=>(o.hash,rE o.key,rE o.val))|_=>G
 |none=>G
noncomputable def uX :V->Key
 |.str A=>A|_=> []
def y1(t:cf):Option (J×Option af×Nat×List (Int×Option am×Option am)):=Y (.type "dict",G,0,nJ.map λp=>(hashStr t (sK p.1),Y (sK p.1),Y (sK (uX p.2))))
set_option genInjectivity true in
structure g0 where
 fns:List (Option uO)
 Sn:List (Option (Option J))
 So:List (Option J)
 exc:Option (J×List J×Bool×Nat×Option (Option J)×List Bool)
 tab:Option (J×Option af×Nat×List (Int×Option am×Option am))
 Sp:Option y2
 at2:Option y2
 ga:Option (Option J)
 g:List (Option J)
 bs:List Bool
def uY(j:av)(K:Frag):List Bool:= [j.isNs da,j.isNs gE,j.noLimitOk,(j.get? f3).isSome,allB (uU j) fJ,allB (λx=>vv K x) h5,allB (λx=>(ic K x).any (·.hasDict)) (83::h5),allB (λv=>mi K (.ref v)) jN,allB (λp=>xo K p.1) ff,readsIn K 39 (.type "type"),mi K (.ref 36),match mroIn K 83 (.type "BaseException") with|some m=>m|none=>E,(ic K 83).any λZ=>bg (hX Z.mro) Z.hasDict]
noncomputable def pa :List Bool:= [M,M,M,M,M,M,M,M,M,M,M,M,M]
def m6(l:ai):g0:=⟨dY.map λp=>rC l.heap p.2.2 p.1,iF.map λq=>c2 (cG l.heap) (.ref q.1) q.2.1,dY.map λp=>ml (cG l.heap) (.ref p.1),uV l.heap,uW l.heap,
 oi (cG l.heap) (.ref 39) (.type "type") "__init__",oi (cG l.heap) (.type "Exception") (.type "type") "__init__",CX (cG l.heap) (.ref 39) "__getattribute__",
 [l.heap.nsMap da "RowsError",l.heap.nsMap da "Exception",l.heap.nsMap gE "Exception",l.heap.nsMap da "law"],uY l.heap (cG l.heap)⟩
def lU(t:cf):g0:=⟨dY.map λp=>uP p.2.1,iF.map λq=>Y q.2.2,dY.map λI=>Y (.type "function"),y0,y1 t,
 Y (.val (.ref 36)),Y (.val (.builtin "Exception.__init__")),Y (Y (.builtin "type.__getattribute__")),[Y (.ref 39),G,Y (.type "Exception"),Y (.ref 971)],pa⟩
def topC(t:cf)(l:ai):aa:=⟨aU,t,l.heap,cG l.heap,l.heap.nsMap da,l.heap.nsMap gE,83⟩
theorem Sq :allB (λZ=>bg (Nat.beq (enc (o9 40 Z.1)) Z.1) (low (o9 40 Z.1))) fJ=true:=by kernel_rfl
theorem uZ{N e:Type}{S c:N->e}:∀{g:List N} {v:N},g.map S=g.map c->v∈g->S v=c v
 |m::T,v,j,z=>by
  replace j:=cp▸j;replace j:=cp▸j;refine ak (dP j) λb p=>?_;rcases aW.mp z with rfl|z
  ·exact b
  ·exact uZ p z
theorem ky{e:Type}:∀{g:List (Nat×e)} {f:Nat} {m:e},aL f g=Y m->(f,m)∈g:=by
 intro s;induction s with|nil=>intro I I o;exact ag o|cons Z T F=>
  intro f m o;replace o:(match Nat.beq Z.1 f with|true=>Y Z.2|false=>aL f T)=Y m:=o
  generalize u:Nat.beq Z.1 f=K;induction K using ap with|true=>rw[u] at o;exact U (an o).symm (U (Nat.eq_of_beq_eq_true u).symm (.head _))|false=>rw[u] at o;exact .tail _ (F o)
theorem E2{e:Type}:∀{g:List (Key×e)} {f:Key} {m:e},bL f g=Y m->(f,m)∈g:=by
 intro s;induction s with|nil=>intro I I o;exact ag o|cons Z T F=>
  intro f m o;replace o:(match a0 Z.1 f with|true=>Y Z.2|false=>bL f T)=Y m:=o
  generalize u:a0 Z.1 f=K;induction K using ap with|true=>rw[u] at o;exact U (an o).symm (U (dL.mp u).symm (.head _))|false=>rw[u] at o;exact .tail _ (F o)
set_option backward.match.sparseCases true
theorem Sr{t:cf}{j:av}:∀{c:List eb} {P:List (Key×V)},c.map (λo=>(o.hash,rE o.key,rE o.val))=P.map (λZ=>(hashStr t (sK Z.1),Y (sK Z.1),Y (sK (uX Z.2))))->
  ∃S:List (am×J),Pairs (strKind aU t) c S/\S.map (λy=>ay y.1)=P.map (·.1)/\(∀o∈c,∃A,(strKind aU t).is A o.key=M/\o.hash=(strKind aU t).hash A)/\aE (λI I=>G) j (P.map λZ=>.str (uX Z.2)) (S.map (·.2)):=by
 intro s;induction s with
 |nil=>
  intro D;induction D using aS with|nil=>intro I;exact fp ([]) .nil rfl (λo g=>(by cases g)) rfl|cons B a=>intro o;cases o
 |cons r z F=>
  intro D;induction D using aS with|nil=>intro o;cases o|cons B a=>
   intro u;rw[cp,cp] at u;refine ak (dP u) λQ l=>ak (du Q) λb Q=>ak (du Q) λp x=>fV (F l) λS f L W X=>?_;have e:∀{N:J} {y:am},rE N=Y y->∃d,N=.str y d:=λ{N y} i=>by cases N <;>first|(cases i;exact⟨_,rfl⟩)|cases i
   refine aD (e p) λT v=>aD (e x) λh q=>?_;have m0:(strKind aU t).is (sK B.1) r.key=true:=by refine U v ?_;show eH (sK B.1) (.str (sK B.1) T)=M;simp[eH]
   refine fp ((sK B.1,r.val)::S) (.cons m0 rfl f) ?_ (λk g=>?_) ⟨r.val,S.map (·.2),rfl,⟨_,h,q,?_⟩,X⟩
   ·refine U cp (U cp (U L ?_));show ay (sK B.1)::_=_;exact U (show ay (sK B.1)=B.1 from by unfold sK ay;rw[yY]) rfl
   ·rcases aW.mp g with rfl|g
    ·exact aC _ m0 b
    ·exact W k g
   ·unfold sK ay;rw[yY]
theorem Ss :allB (λZ=>j9 (Nat.beq Z.1 83) (c5 Z.1 h5)) pK=true:=by kernel_rfl
theorem Su :allB (λZ=>bg (c5 Z.1 h5) (allB (λu:Key×Nat=>c5 u.2 (dY.map (·.1))) Z.2)) ik=true:=by kernel_rfl
theorem Sv :allB (λZ=>bg (c5 Z.2 (dY.map (·.1))) (bg (cK (Nat.beq Z.2 kX)) (match aL Z.2 ff with|some _=>E|none=>match aL Z.1 ik with|some g=>(match bL jM g with|some m=>Nat.beq m Z.2|none=>E)|none=>E))) ff=true:=by kernel_rfl
theorem Sw :nJ.map (·.2)=nJ.map λZ=>.str (uX Z.2):=by kernel_rfl
theorem Sx :(nJ.map (·.1)).Nodup:=by decide
theorem Sy :sK jM=("__init__":am):=by kernel_rfl
theorem Sz :∀{g:List (am×J)},(g.map λy=>ay y.1).Nodup->(g.map (·.1)).Nodup:=by
 intro s;induction s with|nil=>intro I;exact jb|cons Z T F=>intro j;rw[cp,gn] at j⊢;refine⟨λz=>j.1 ?_,F j.2⟩;exact au (fg.mp z) λu p o=>fg.mpr (aC u p (U o rfl))
theorem SA{v m:Bool}(j:j9 v m=M):v=M\/m=true:=by
 cases v with|true=>exact .inl rfl|false=>exact .inr j
structure SD(s:ai):Prop where
 pY:s.heap.isNs da=M
 pZ:s.heap.isNs gE=M
 v9:s.heap.noLimitOk=M
 wa:(s.heap.get? f3).isSome=M
 SE:allB (uU s.heap) fJ=M
 SF:allB (λC=>vv (cG s.heap) C) h5=M
 E3:allB (λC=>(ic (cG s.heap) C).any (·.hasDict)) (83::h5)=M
 SG:allB (λa=>mi (cG s.heap) (.ref a)) jN=M
 SH:allB (λp=>xo (cG s.heap) p.1) ff=M
 SI:readsIn (cG s.heap) 39 (.type "type")=M
 SJ:mi (cG s.heap) (.ref 36)=M
 SK:mroIn (cG s.heap) 83 (.type "BaseException")=Y M
 SM:((ic (cG s.heap) 83).any λcd=>bg (hX cd.mro) cd.hasDict)=M
section
variable{t:cf}{l:ai}(o:m6 l=lU t)
include o in
theorem gB{u:Nat×am×Option J}(z:u∈iF):c2 (cG l.heap) (.ref u.1) u.2.1=Y u.2.2:=by have i:(iF.map λu=>c2 (cG l.heap) (.ref u.1) u.2.1)=iF.map λu=>Y u.2.2:=congrArg g0.Sn o;exact uZ i z
include o in
theorem pb{Z:Nat×Option aP×List V}(z:Z∈dY):fv (topC t l) Z.1 (jg Z.2.1) (mH Z.2.1) (lp Z.2.1) Z.2.2:=by have i:(dY.map λZ=>rC l.heap Z.2.2 Z.1)=dY.map λZ=>uP Z.2.1:=congrArg g0.fns o;exact Sk (uZ i z)
include o in
theorem y3{v:Nat}(z:c5 v (dY.map (·.1))=M):ml (cG l.heap) (.ref v)=Y (.type "function"):=by refine au (fg.mp (qA.mp z)) λZ S Q=>?_;clear z;subst Q;have i:(dY.map λZ=>ml (cG l.heap) (.ref Z.1))=dY.map λI=>Y (.type "function"):=congrArg g0.So o;exact uZ i S
include o in
theorem g6 :SD l:=by
 have m:uY l.heap (cG l.heap)=pa:=congrArg g0.bs o;unfold uY pa at m;simp only[my,and_true] at m;refine fW m λz s D c P=>?_;clear m;refine fW P λd j g b P=>fW P λe f h a k=>?_;refine⟨z,s,D,c,d,j,g,b,e,f,h,?_,k⟩;generalize mroIn (cG l.heap) 83 (.type "BaseException")=q at a;induction q using aB with|none=>exact aG a|some i=>exact U (show i=M from a) rfl
theorem rF{x:Nat}(j:x∈h5){u:Nat×am×Option J}(z:u∈[(x,uQ,Y (jR "object.__getattribute__")),(x,uR,G),(x,uS,Y (.builtin "object.__setattr__"))]):u∈iF:=E4 _ (E5.mpr (aC x j z))
theorem SN{x:Nat}{g:List Key}{A:Key}(j:(x,g)∈pK)(z:A∈g):(x,sK A,G)∈iF:=rG _ (E4 _ (E5.mpr (aC (x,g) j (fg.mpr (aC A z rfl)))))
theorem E6{x:Nat}{g:List (Key×Nat)}{u:Key×Nat}(j:(x,g)∈ik)(z:u∈g):(x,sK u.1,Y (.ref u.2))∈iF:=rG _ (rG _ (E4 _ (E5.mpr (aC (x,g) j (fg.mpr (aC u z rfl))))))
theorem m7{u:Nat×am×Option J}(z:u∈[(83,uQ,Y (jR "BaseException.__getattribute__")),(83,uR,G),(83,("__init__":am),Y (.ref 80)),(83,uS,Y (.builtin "object.__setattr__")),(83,("message":am),G),(83,("spot":am),G),(83,("value":am),G)]):u∈iF:=rG _ (rG _ (rG _ z))
include o in
theorem SO{x:af}(B:x∈h5):pw (topC t l) x:=⟨gB o (rF B (.head _)),gB o (rF B (.tail _ (.head _))),gB o (rF B (.tail _ (.tail _ (.head _)))),h6 (S:=λx=>vv (cG l.heap) x) (g6 o).SF B,h6 (S:=λx=>(ic (cG l.heap) x).any (·.hasDict)) (g6 o).E3 (.tail _ B)⟩
include o in
theorem SP :AK (topC t l):=λx y w=>by
 unfold attrOk at w;generalize b:aL x pK=aw at w;induction aw using aB with|none=>exact aG w|some g=>
  have z:=ky b;have mk:=wu w;have S:=gB o (SN z mk);replace S:=(show sK (ay y)=y from yX y)▸S;refine aQ (λC=>SO o ?_) (λj=>?_) S
  ·rcases SA (h6 (S:=λZ=>j9 (Nat.beq Z.1 83) (c5 Z.1 h5)) Ss z) with j|j
   ·exact absurd (Nat.eq_of_beq_eq_true j) C
   ·exact qA.mp j
  ·exact g8 rfl (gB o (m7 (.head _))) (gB o (m7 (.tail _ (.head _)))) ((g6 o).SK) (h6 (S:=λx=>(ic (cG l.heap) x).any (·.hasDict)) (g6 o).E3 (.head _))
theorem SQ{y:am}{f:Nat}{A:Key}(n:bt y=Y f)(X:enc A=f)(t:low A=M):y=sK A:=by
 unfold bt at n;generalize u:low (ay y)=b at n;induction b using ap with|false=>exact ag n|true=>exact R6 (zi u t ((an n).trans X.symm))
include o in
theorem SR :AI (topC t l):=λy f e b h=>by
 have z:=ky h;refine ak (b8 (h6 (S:=λZ=>bg (Nat.beq (enc (o9 40 Z.1)) Z.1) (low (o9 40 Z.1))) Sq z)) λX H=>?_;have r:y=rD (f,e):=SQ b (Nat.eq_of_beq_eq_true X) H;have a:=h6 (S:=uU l.heap) (g6 o).SE z;unfold uU at a;clear b;subst r;show∃N,_/\(l.heap.nsMap da _=Y N\/(l.heap.nsMap da _=G/\l.heap.nsMap gE _=Y N));generalize l.heap.nsMap da (rD (f,e))=Q at a⊢;induction Q using aB with|some N=>exact aC N (uN _ a) (.inl rfl)|none=>
  dsimp only at a;generalize l.heap.nsMap gE (rD (f,e))=c at a⊢;induction c using aB with|some N=>exact aC N (uN _ a) (.inr ⟨rfl,rfl⟩)|none=>exact aG a
include o in
theorem SS :AJ (topC t l):=λv g R=>by
 unfold kP at R;refine hd λT W=>?_;generalize u:Nat.beq v 500=b at R;induction b using ap with|false=>exact ag R|true=>
  have w:=Nat.eq_of_beq_eq_true u;clear u;subst w;replace R:nJ=g:=an R;subst R;have d:uW l.heap=y1 t:=congrArg g0.tab o;unfold uW at d;generalize F:l.heap.get? 500=r at d;induction r using aB with|none=>exact ag d|some r=>
   dsimp only at d;generalize hd:r.data=D at d;induction D using yZ with
   |dict n Z=>
    replace d:=du (an d);have c:=du d.2;have i:=du c.2;refine fV (Sr (j:=l.heap) i.2) λS f L p X=>W (fp S (fY r n Z F (aQ d.1 c.1 (zf (tq.mp i.1))) hd ⟨λk e=>p k (FS.mpr e),f,?_⟩) L (by refine U Sw ?_;exact X) (by decide))
    have K:(S.map λy=>ay y.1).Nodup:=by refine U L ?_;exact Sx
    exact Sz K
   |_=>exact ag d
include o in
theorem SU :(topC t l).Fine:={dR:=Sm _,g:=.of_isNs (g6 o).pY,b:=.of_isNs (g6 o).pZ,nolimit:=.of_ok (g6 o).v9,gM:=(g6 o).wa,cl:=SP o,fJ:=SR o,pX:=SS o}
end
section
variable{t:cf}{l:ai}(o:m6 l=lU t)
inductive E7(h:av):Prop
 |mk (nm q:am) (N:af) (bs bm:List J) (hdct:Bool) (sn:List am) (sub:List J) (mz:Bool) (col:Option Bool) (dd:Option af) (k0 k1 k2 k3 k5:Option J) (x1:h.get? 83=Y (li nm q 83 N bs bm hdct sn sub mz col dd k0 k1 k2 k3 k5 "Exception.__new__"))
  (x2:bm.contains (.type "Exception")=M) (x3:bm.contains (.type "AttributeError")=E) (x4:bm.contains (.type "NameError")=E) (x5:bm.contains (.type "BaseException")=M)
theorem pc{N:Type}{g:List N}{C:Nat}(j:g.length=C+1):∃v T,g=v::T/\T.length=C:=by
 induction g using aS with|nil=>exact absurd j.symm (Nat.succ_ne_zero C)|cons v T=>exact d9 v T rfl (Nat.succ.inj j)
theorem SV{N:Type}{g:List N}(j:g.length=6):∃v m B W o S,g= [v,m,B,W,o,S]:=by exact hd λT n=>dZ (pc j) λv X t b=>dZ (pc b) λm u q p=>dZ (pc p) λB a s x=>dZ (pc x) λW d A H=>dZ (pc H) λo e K h=>dZ (pc h) λS f c C=>n (c9 v m B ⟨W,o,S,by refine U t ?_;refine U q ?_;refine U s ?_;refine U A ?_;refine U K ?_;refine U c ?_;exact U (tq.mp C) rfl⟩)
theorem SW{N:Type}{g:List N}{y:N}(j:g.take 1= [y]):∃T,g=y::T:=by
 induction g using aS with|nil=>exact nomatch j|cons v T=>exact⟨T,U ((dP j).1) rfl⟩
theorem SX{v m B W Z K I a:Bool}{T n:List Bool}(j:v::m::B::W::T=Z::K::I::a::n):v=Z/\m=K/\B=I/\W=a:=
 have b:=dP j;have p:=dP b.2;have x:=dP p.2
 (bP b.1 p.1 x.1 ((dP x.2).1))
theorem SY{j:av}{m:J}{q:Option af}{Z:tu}{g:List (Option J)}(F:j.get? 83=Y {cls:=m,dict:=q,data:=.cls Z,slots:=⟨g⟩})(T:m=.type "type")(W:Z.mro.take 1= [.ref 83])(a:Z.hasDel=E)(o:g.length=6)(i:g[4]? =Y (Y (.builtin "Exception.__new__")))
  {y X:Bool}(n: [(Z.mro.drop 1).contains (.type "Exception"),(Z.mro.drop 1).contains (.type "AttributeError"),(Z.mro.drop 1).contains (.type "NameError"),(Z.mro.drop 1).contains (.type "BaseException"),y,X]= [M,E,E,M,M,M]):E7 j:=by
 refine e7 (SX n) λe d l p=>?_;clear n;obtain ⟨D,f,s,L,u,k,N,sub,R,r,t⟩:=Z;obtain ⟨I,rfl⟩:∃I,s=_::I:=SW W;refine cR (SV o) λw b P=>cR P λS h P=>cR P λc C Q=>?_;subst Q;replace a:t=false:=a;replace i:c=Y (.builtin "Exception.__new__"):=an i;subst T a i;exact .mk D u L f I k N sub R r q w b S h C F e d l p
include o in
theorem E8 :E7 l.heap:=by
 have d:uV l.heap=y0:=congrArg g0.exc o;unfold uV at d;refine hd λT W=>?_;generalize F:l.heap.get? 83=K at d;induction K using aB with|none=>exact ag d|some r=>
  obtain ⟨m,q,D,f⟩:=r;induction D using yZ with|cls Z=>replace d:=du (an d);have c:=du d.2;have N:=du c.2;have t:=du N.2;have i:=du t.2;exact W (SY (g:=f.toList) F d.1 c.1 N.1 t.1 i.1 i.2)|_=>exact ag d
theorem S0{r:Option tu}(j:(r.any λZ=>bg (hX Z.mro) Z.hasDict)=M):∃Z,r=Y Z/\hX Z.mro=M/\Z.hasDict=true:=by
 induction r using aB with|none=>exact aG j|some Z=>exact ak (b8 (show bg (hX Z.mro) Z.hasDict=M from j)) λL D=>cW Z rfl L D
include o in
theorem S1 :jT (topC t l) meths:=⟨λx y v h=>by
 replace h:(match aL x ik with|some g=>bL (ay y) g|none=>G)=Y v:=h
 generalize b:aL x ik=aw at h;induction aw using aB with|none=>exact ag h|some g=>
  have z:=ky b;have a:=E2 h;refine ak (b8 (h6 (S:=λZ=>bg (c5 Z.1 h5) (allB (λu:Key×Nat=>c5 u.2 (dY.map (·.1))) Z.2)) Su z)) λL D=>?_
  have B:=qA.mp L;have S:=gB o (E6 z a);rw[show sK (ay y)=y from yX y] at S;exact bP (gB o (rF B (.head _))) (gB o (rF B (.tail _ (.head _)))) S (y3 o (h6 (S:=λu:Key×Nat=>c5 u.2 (dY.map (·.1))) D a))⟩
theorem S2{x n:Nat}(j:(match aL n ff with|some _=>E|none=>match aL x ik with|some g=>(match bL jM g with|some m=>Nat.beq m n|none=>E)|none=>E)=M):aL n ff=G/\∃g,aL x ik=Y g/\bL jM g=Y n:=by
 generalize aL n ff=q at j;induction q using aB with|some _=>exact aG j|none=>
  refine⟨rfl,?_⟩;dsimp only at j;generalize aL x ik=q at j;induction q using aB with|none=>exact aG j|some g=>
   dsimp only at j;refine aC g rfl ?_;generalize bL jM g=q at j⊢;induction q using aB with|none=>exact aG j|some m=>exact U (Nat.eq_of_beq_eq_true j) rfl
include o in
theorem S3 :xn (topC t l):=λx n B=>by
 have z:=ky B;refine hd λT W=>ak (b8 (h6 (S:=λZ=>bg (c5 Z.2 (dY.map (·.1))) (bg (cK (Nat.beq Z.2 kX)) (match aL Z.2 ff with|some _=>E|none=>match aL Z.1 ik with|some g=>(match bL jM g with|some m=>Nat.beq m Z.2|none=>E)|none=>E))) Sv z)) λL D=>ak (b8 D) λD e=>rJ (S2 e) λQ g c N=>?_
 have S:=gB o (E6 (ky c) (E2 N));replace S:=(show sK jM=("__init__":am) from Sy)▸S;exact W (g8 (h6 (S:=λZ:Nat×Nat=>xo (cG l.heap) Z.1) (g6 o).SH z) S (y3 o L) (k6 D) Q)
include o in
theorem S4 :jc (topC t l):=by obtain ⟨D,u,L,f,I,k,N,sub,R,r,Q,w,b,q,h,C,S,i,T,a,e⟩:=E8 o;exact .mk D u L f I k N sub R r Q w b q h C _ S e
include o in
theorem S5 :ExcAt (topC t l).base (topC t l).X:=by obtain ⟨D,u,L,f,I,k,N,sub,R,r,Q,w,b,q,h,C,S,i,T,a,e⟩:=E8 o;exact .mk D u L f I k N sub R r Q w b q h C S i T a
include o in
theorem S6 :jf (topC t l):=by
 have c: [l.heap.nsMap da "RowsError",l.heap.nsMap da "Exception",l.heap.nsMap gE "Exception",l.heap.nsMap da "law"]= [Y (.ref 39),G,Y (.type "Exception"),Y (.ref 971)]:=congrArg g0.g o;have y:=dP c;have H:=dP y.2;have p:=dP H.2;exact{
   cls:=S5 o
   X:=rfl
   cd:=S0 (g6 o).SM
   ty:=gB o (m7 (.tail _ (.tail _ (.head _))))
   fn:=y3 o (by kernel_rfl)
   jG:=gB o (m7 (.tail _ (.tail _ (.tail _ (.head _)))))
   ob:=gB o (m7 (.tail _ (.tail _ (.tail _ (.tail _ (.head _))))))
   tz:=gB o (m7 (.tail _ (.tail _ (.tail _ (.tail _ (.tail _ (.head _)))))))
   tA:=gB o (m7 (.tail _ (.tail _ (.tail _ (.tail _ (.tail _ (.tail _ (.head _))))))))
   dS:=(g6 o).SI
   at_:=congrArg g0.Sp o
   ga:=congrArg g0.ga o
   dD:=(g6 o).SJ
   ex:=congrArg g0.at2 o
   g1:=y.1
   g2:=⟨H.1,p.1⟩
   f1:=gC _ _ _ (pb o (.tail _ (.head _))) ⟨aC ((gd (jg (c6 5 0)).args).getD []) (by kernel_rfl) (by kernel_rfl),by kernel_rfl,by kernel_rfl,by kernel_rfl,by kernel_rfl⟩
   f2:=(gC _ _ _ (pb o (.head _)) ⟨aC ((gd (jg (c6 2 0)).args).getD []) (by kernel_rfl) (by kernel_rfl),by kernel_rfl,by kernel_rfl,by kernel_rfl,by kernel_rfl⟩)}
include o in
theorem S7 :xA (topC t l):=λv f w=>by have z:=ky w;refine au (fg.mp z) λZ S i=>ak (du i) λC g=>bX (Sl g) λP b p x=>?_;clear i z w;subst C;exact U x (c9 _ _ _ ⟨P,pb o (.tail _ (.tail _ S)),b,p,rfl⟩)
include o in
theorem S8 :TopOk (topC t l):={toFine:=SU o,mt:=S1 o,ll:=λv w=>h6 (S:=λv=>mi (cG l.heap) (.ref v)) (g6 o).SG (qA.mp w),ex:=S4 o,tB:=S3 o,ew:=S6 o,kD:=S7 o}
include o in
theorem S9 :TopAll (topC t l):=
 {toTopOk:=S8 o
  tE:=pb o (Z:=(603,aU.main.body[56]?,[])) (ky (show aL 603 dY=Y (aU.main.body[56]?,[]) by kernel_rfl))
  tF:=pb o (Z:=(971,aU.main.body[102]?,[])) (ky (show aL 971 dY=Y (aU.main.body[102]?,[]) by kernel_rfl))}
end
theorem Ta :opening aU=plainProg aU.main.scope.names:=by kernel_rfl
theorem Tb :∀l,fenceModules? aU l=Y l:=by intro l;kernel_rfl
theorem Tc :∀t:cf,(fencedOpening rA aU t 7000).map (λl=>(l.heap,l.gens,l.drawn,l.toks))=Y (gA t.params,Array.mk [],o6,rB):=
 boot_open Ta (by rfl) Tb
def Td :List Stmt:=aU.main.body.drop 102
def jw :Program:={aU with main:={aU.main with body:=Td}}
noncomputable def loose :List Str:=(["_wall","RowsError","KindFault","MachineFault","Thrown","TRUE","FALSE","int_value","bool_value","text_value","error_kind","error_value","thrown","thrown_text","ANY","BOTTOM","named","tuple_of","union_of","parts_of_kind","rebuilt_kind","substituted","free_vars","binder_text","kind_text","same_but_names","MOST_CASES","Side","Sides","occurrences","bound_occurrences","is_diagonal","left_cases","tuple_cases","is_empty","tail_of","TYPE","FUNCTION","Search","narrowed","widened","has_within","tuple_ways","is_subtype","PLAIN_KINDS","Thing","Heap","item_kind","view_kind","kind_of","is_same","MOST_TEXT","kind_asked","same_deed","typeof_deed","isa_deed","assert_deed","fields_of","parts_of_value","place_asked","getfield_deed","tree_field","part_value","setfield_deed","check_part","fieldcount_deed","new_deed","SIGNED","UNSIGNED","PLAIN_ERRORS","TEXT_ERRORS","CALL_ERRORS","Decl","Kinds","nominal","start_kinds","start_errors","start_rows","_law_till","_law_coin","_law_image","_law_value","_law_kind","_law_is_of","_law_error","_law_text_error","_law_field_kinds","_law_names","_law_spot","_law_made","_law_put","_law_told","_law_asked_right"]:List String).map dt
def y4(P:Params)(l:ai):=((staticsOk [] (gA P) l.heap&&namesBound aU l.heap&&gensDone l&&laidKept (gA P) l.heap),Fast.tw4187177175401517315 jw loose [] (λI=>M) M l)
def y5(l:ai):=(dY.map λp=>rC l.heap p.2.2 p.1,uW l.heap)
def y6(l:ai):=((iF.map λq=>c2 (cG l.heap) (.ref q.1) q.2.1),((dY.map λp=>ml (cG l.heap) (.ref p.1)),(uV l.heap,(oi (cG l.heap) (.ref 39) (.type "type") "__init__",(oi (cG l.heap) (.type "Exception") (.type "type") "__init__",(CX (cG l.heap) (.ref 39) "__getattribute__",[l.heap.nsMap da "RowsError",l.heap.nsMap da "Exception",l.heap.nsMap gE "Exception",l.heap.nsMap da "law"]))))))
def y7(l:ai):=uY l.heap (cG l.heap)
def leB(t:cf):=(dY.map λp=>uP p.2.1,y1 t)
def y8 :cf->(List (Option (Option J))×List (Option J)×Option (J×List J×Bool×Nat×Option (Option J)×List Bool)×Option y2×Option y2×Option (Option J)×List (Option J)):=λI=>(iF.map λq=>Y q.2.2,(dY.map λI=>Y (.type "function"),(y0,(Y (.val (.ref 36)),(Y (.val (.builtin "Exception.__init__")),(Y (Y (.builtin "type.__getattribute__")),[Y (.ref 39),G,Y (.type "Exception"),Y (.ref 971)]))))))
theorem Te :∀(t:cf) (os:j2),(kv aU (t.withFollow "special-get-raises" E) 11 (Y (.ref 6)) 7000 (lT (t.withFollow "special-get-raises" E) os) (m8 aU)).map (λl=>(y4 (t.withFollow "special-get-raises" E).params l.abs,y5 l.abs))=Y (((M,y9 jw loose),leB (t.withFollow "special-get-raises" E))):=by intro t os;kernel_rfl
theorem Tf :∀(t:cf) (os:j2),(kv aU (t.withFollow "special-get-raises" E) 11 (Y (.ref 6)) 7000 (lT (t.withFollow "special-get-raises" E) os) (m8 aU)).map (λl=>(y6 l.abs,y7 l.abs))=Y ((y8 (t.withFollow "special-get-raises" E),pa)):=by intro t os;kernel_rfl
theorem Tg :∀(t:cf) (os:j2),(kv aU (t.withFollow "special-get-raises" M) 11 (Y (.ref 6)) 7000 (lT (t.withFollow "special-get-raises" M) os) (m8 aU)).map (λl=>(y4 (t.withFollow "special-get-raises" M).params l.abs,y5 l.abs))=Y (((M,y9 jw loose),leB (t.withFollow "special-get-raises" M))):=by intro t os;kernel_rfl
theorem Th :∀(t:cf) (os:j2),(kv aU (t.withFollow "special-get-raises" M) 11 (Y (.ref 6)) 7000 (lT (t.withFollow "special-get-raises" M) os) (m8 aU)).map (λl=>(y6 l.abs,y7 l.abs))=Y ((y8 (t.withFollow "special-get-raises" M),pa)):=by intro t os;kernel_rfl
noncomputable abbrev aa.on(B:aa)(j:av):aa:={B with base:=j}
section
variable{B:aa}{j:av}(A:∀b aw,B.base.get? b=Y aw->j.get? b=Y aw)
include A in
theorem u0 :∀v e,aO (λI I=>G) B.base v e->aO (λI I=>G) j v e:=λ_ _ ⟨C,o,b⟩=>⟨C,A _ _ o,b⟩
include A in
theorem fv.on{v:af}{c:hN}{K:List aP}{D:cn}{Z:List V}(F:fv B v c K D Z):fv (B.on j) v c K D Z:=by
 obtain ⟨r,z,Q,hd,S,a,P,p,f,b,k,h⟩:=F;refine⟨r,z,A _ _ Q,hd,S,a,P,p,f,b,k.keeps A,?_⟩;rcases h with j|⟨R,e,o,d,T⟩
 ·exact .inl j
 ·exact .inr (hE R e o (u0 A _ _ d) (aE.ba (λI I I o=>o) (u0 A) _ T))
include A in
theorem TopAll.on(R:TopAll B):TopAll (B.on j):=by
 have F:(B.on j).Fine:={
  dR:=R.dR.keeps A
  g:=R.g.keeps A
  b:=R.b.keeps A
  nolimit:=R.nolimit.keeps A
  cl:=λT8 y e=>by exact br (R.cl T8 y e) λT5 T0 Uc=>aQ (λC=>let i:=T5 C;⟨i.ga,i.GB,i.jG,i.over,i.hd⟩) T0 Uc
  fJ:=λy f K TW Ub=>by exact au (R.fJ y f K TW Ub) λN T u=>aC N (aq.ba (λI I I o=>o) (u0 A) _ T) u
  gM:=by refine aD (lZ.mp R.gM) λr Q=>?_;show(j.get? f3).isSome=M;refine U (A _ _ Q) ?_;rfl
  pX:=λv l P=>by refine fV (R.pX v l P) λt T4 q c Uu=>?_;obtain ⟨r,Ug,Ur,Q,T⟩:=T4;exact(fp t (gC r Ug Ur (A _ _ Q) T) q (aE.ba (λI I I o=>o) (u0 A) _ c) Uu)}
 have X:jc (B.on j):=by obtain ⟨z,u,L,a,s,H,x,sub,h,w,p,n,Z,k,S,d,T2,o,Ud⟩:=R.ex;exact⟨z,u,L,a,s,H,x,sub,h,w,p,n,Z,k,S,d,T2,A _ _ o,Ud⟩
 have UF:jf (B.on j):={
  cls:=by obtain ⟨z,u,L,a,s,H,x,sub,h,w,p,n,Z,k,S,d,o,TY,T1,TZ⟩:=R.ew.cls;exact⟨z,u,L,a,s,H,x,sub,h,w,p,n,Z,k,S,d,A _ _ o,TY,T1,TZ⟩
  X:=R.ew.X,cd:=R.ew.cd,ty:=R.ew.ty,fn:=R.ew.fn,jG:=R.ew.jG,ob:=R.ew.ob,tz:=R.ew.tz,tA:=R.ew.tA,dS:=R.ew.dS,at_:=R.ew.at_,ga:=R.ew.ga,dD:=R.ew.dD,ex:=R.ew.ex,g1:=R.ew.g1,g2:=R.ew.g2
  f1:=by exact g7 R.ew.f1 λUp Ux TV ek TU=>gC Up Ux TV (ek.on A) TU
  f2:=by exact g7 R.ew.f2 λUq Uz UP gw TX=>(gC Uq Uz UP (gw.on A) TX)}
 have TS:xA (B.on j):=λv TR e=>by exact cR (R.kD v TR e) λUj Ut W=>dZ W λD Uk T3 T=>c9 Uj Ut D ⟨Uk,T3.on A,T⟩
 exact{toFine:=F,mt:=⟨R.mt.m⟩,ll:=R.ll,ex:=X,tB:=R.tB,ew:=UF,tE:=R.tE.on A,tF:=R.tF.on A,kD:=TS}
end
theorem lay_ints{R:WRecords}{h:am->Option af}{P:Params}{ord:List eb->List eb}{H:ax}{j:av}:∀{g:List Int} {l W:ai} {e:List J},u1 R h P ord (g.map .int) l=Y (e,W)->W.heap=l.heap/\aE H j (g.map .int) e
 | [],l,W,e,o=>by replace o:Y (([]:List J),l)=Y (e,W):=o;refine ak (du (an o)) λQ D=>?_;subst Q;clear o;subst D;exact⟨rfl,rfl⟩|f::g,l,W,e,o=>by
  replace o:(match u1 R h P ord (g.map .int) {l with toks:=l.toks+1} with|some T=>Y (Value.int f l.toks::T.1,T.2)|none=>G)=Y (e,W):=o
  generalize u:u1 R h P ord (g.map .int) {l with toks:=l.toks+1}=K;induction K using aB with|none=>replace o:=u▸o;exact ag o|some T=>obtain ⟨a,A⟩:=T;replace o:=u▸o;refine ak (du (an o)) λQ D=>?_;subst Q;clear o;subst D;exact ak (lay_ints (H:=H) (j:=j) u) λb p=>⟨b,_,a,rfl,⟨_,rfl⟩,p⟩
theorem Ti{R:WRecords}:∀{Z:List WData},E9 R Z .int=M->∃g:List Int,Z=g.map .int:=by
 intro s;induction s with|nil=>intro I;exact⟨[],rfl⟩|cons W T F=>
  intro o;replace o:(WShape.has R W .int&&E9 R T .int)=true:=o;refine ak (ht.mp o) λt q=>aD (F q) λg Q=>?_;clear q;subst Q;clear o;induction W using Tj with|int f=>exact⟨f::g,rfl⟩|_=>exact aG t
noncomputable abbrev jx :OpenLaw:=Fa
theorem Tk{Z:List WData}(j:jx.row.toRowW.pre.holds [] {args:= [.list Z]}=M):Z.length<=63:=by
 apply va;intro C;have C:63<Z.length:=by lia
 have:jx.row.toRowW.pre.holds [] {args:= [.list Z]}=false:=by
  show(WTm.and (.not (.lt (.lit (.int 63)) (.len (.arg 0)))) (.lit (.bool M))).holds [] {args:= [.list Z]}=E;simp[WTm.holds,WTm.value];have y:less? (.int 63) (.int (Z.length:Int))=Y true:=by show Y (decide ((63:Int)<(Z.length:Int)))=Y M;exact U (decide_eq_true (by lia)) rfl
  refine U y ?_;rfl
 rw[this] at j;exact aG j
theorem Tl{t:cf}{L C:ai}(o:m6 L=lU t){D:am->Option J}(s:C.heap.Ns da D){v:af}(B:D "law"=Y (.ref v)){P:List WData}{n:List J}{TW:List af}
  (d:Laid [] t L C P n TW)(z:jx.row.toRowW.claim.pre P=M):
  ao (aA aU t) u2 (bV (.ref v) n) (λN F=>GoodWG jx.row.toRowW.claim (za L.heap) (Tm L.heap) P C (.ok (.ret N)) F) (λy F=>GoodWG jx.row.toRowW.claim (za L.heap) (Tm L.heap) P C (.error y) F) C:=by
 have p:=S9 o;have A:=d.keeps;have TX:C.heap.Ns da (L.heap.nsMap da):=p.g.keeps A;have T0:D=L.heap.nsMap mainGlobals:=s.eq_nsMap.trans TX.eq_nsMap.symm;have c: [L.heap.nsMap da "RowsError",L.heap.nsMap da "Exception",L.heap.nsMap gE "Exception",L.heap.nsMap da "law"]= [Y (.ref 39),G,Y (.type "Exception"),Y (.ref 971)]:=congrArg g0.g o;simp only[my,and_true] at c;have UV:v=971:=by replace B:=T0▸B;replace B:=c.2.2.2▸B;cases B;rfl
 clear B;subst UV;refine ak (pre_splitW z) λb TY=>hD (hasAllW_cons b) λUw T Q hd H=>?_;subst Q;obtain rfl:=hasAllW_nil H;induction Uw using Tj with
 |list j=>
  refine aD (Ti (R:= []) (Z:=j) (by
   replace hd:([WShape.list .int].any λv=>match v with|.list o=>E9 [] j o|_=>E)=true:=hd
   simpa using hd)) λl Q=>?_;clear b z hd;subst Q
  have Z:l.length<=63:=by have:=Tk TY;rwa [i4] at this
  refine au d.laid λord I k=>?_;have k:(match(match u1 [] (za L.heap) t.params ord (l.map .int) L with
   |some T=>Y (bZ T.2.heap.objs.size,{T.2 with heap:=T.2.heap.push {cls:=.type "list",data:=.seq T.1.toArray}})
   |none=>G) with|some v=>Y ([v.1],v.2)|none=>G)=Y (n,C):=k
  generalize u:u1 [] (za L.heap) t.params ord (l.map .int) L=K;induction K using aB with|none=>replace k:=u▸k;exact ag k|some T=>
   obtain ⟨e,a⟩:=T;replace k:=u▸k;refine ak (du (an k)) λev TZ=>?_;have q:=(lay_ints (H:=λI I=>G) (j:=C.heap) u);have Uf:=p.on A;have TU:fv ((topC t L).on C.heap) 870 (lq 87) (j6 87) (j7 87) []:=(pb o (Z:=(870,aU.main.body[87]?,[])) (ky (show aL 870 dY=Y (aU.main.body[87]?,[]) by kernel_rfl))).on A
   have S:oR ((topC t L).on C.heap) a.heap.objs.size l:=by
    refine⟨e.toArray,0,?_,?_,Z⟩
    ·show C.heap.get? _=_;exact U TZ.symm (ct _ rfl)
    ·exact U yY q.2
   have TS:=RW Uf TU S;have Uj:Rep ((topC t L).on C.heap) (λI I=>G) (iC 0 0) C.heap:=⟨λI I o=>o,λA Uu=>by refine U oP ?_;rfl,λI I I I o=>(ag o),λI I I o=>(ag o),λI I I I I I o=>(ag o)⟩
   have Uo:Ready u2 126 []:=⟨rfl,rfl,by show u2.depth+126<ph;decide,by show u2.units+10*126+100<iH;decide⟩
   have i:=TS (l0 [.glob (.ref a.heap.objs.size)] n) (.ref 971) n (λI I I=>rfl) (λI I f=>f) u2 [] (λI I=>G) C Uo (λo x=>by cases x) Uj (by refine U ev.symm ?_;exact⟨_,[],rfl,rfl,rfl⟩) d.gens
   refine bQ i (λN F ⟨m,TV,TR,w,h,W⟩=>?_) λy F X=>?_
   case' refine_2=>obtain ⟨_,_,_,_,_,_,y,_,_,_,_,_,_⟩:=X;exact y.elim
   subst w;replace h:N=.bool true:=h;subst h;refine bP (.inl (fY (.bool M) (.bool M) ([]) rfl (λI=>rfl) (.bool M) ⟨?_,λI=>⟨jb,λI Ul=>by cases Ul⟩⟩)) (.of_keep λm r u=>W.post.rep.stays m r u) W.same.2 (.of_eq (W.same.1.trans d.gens))
   kernel_rfl
 |_=>exact aG hd
theorem Fb{m:Bool}{t:cf}{os:j2}
  (h:(kv aU (t.withFollow "special-get-raises" m) 11 (Y (.ref 6)) 7000 (lT (t.withFollow "special-get-raises" m) os) (m8 aU)).map (λl=>(y4 (t.withFollow "special-get-raises" m).params l.abs,y5 l.abs))=Y ((M,y9 jw loose),leB (t.withFollow "special-get-raises" m)))
  (f:(kv aU (t.withFollow "special-get-raises" m) 11 (Y (.ref 6)) 7000 (lT (t.withFollow "special-get-raises" m) os) (m8 aU)).map (λl=>(y6 l.abs,y7 l.abs))=Y (y8 (t.withFollow "special-get-raises" m),pa)):
  (topFrom rA aU (t.withFollow "special-get-raises" m) 7000 ⟨gA t.params,#[],o6,rB,os⟩).map (λl=>(openSeen jw loose (Tn aU.main.body) (λI=>M) M l,m6 l))=Y (y9 jw loose,lU (t.withFollow "special-get-raises" m)):=by
 revert h f;generalize C:kv aU (t.withFollow "special-get-raises" m) 11 (Y (.ref 6)) 7000 (lT (t.withFollow "special-get-raises" m) os) (m8 aU)=r;induction r using aB with|none=>intro y;exact ag y|some l=>
  intro y X;replace y:=an y;replace X:=an X;refine ak (du y) λS i=>ak (du S) λx u=>?_;rw[<-Fast.te4187177175401517315] at u;rw[<-EU] at C;have P:=RX C;rw[R3] at P;have c:Tn aU.main.body= []:=by kernel_rfl
  have a:((gA t.params).isNs da&&(#[]:Array xt).size==0)=true:=by kernel_rfl
  have d:topFrom rA aU (t.withFollow "special-get-raises" m) 7000 ⟨gA t.params,#[],o6,rB,os⟩=Y l.abs:=by
   unfold topFrom;dsimp only;refine U a (U (R4 t) (U (R5 t) (U c ?_)));show(topRun rA aU (t.withFollow "special-get-raises" m) 11 (Y (.ref 6)) 7000 ⟨gA (t.withFollow "special-get-raises" m).params,#[],o6,rB,os⟩ (m8 aU)).bind _=_;refine U P ?_;show(match staticsOk [] (gA (t.withFollow "special-get-raises" m).params) l.abs.heap&&namesBound aU l.abs.heap&&gensDone l.abs&&laidKept (gA (t.withFollow "special-get-raises" m).params) l.abs.heap with|true=>_|false=>_)=_
   exact U x rfl
  refine U d (U c (hd λT W=>ak (du i) λz s=>ak (du X) λo b=>ak (du o) λL o=>ak (du o) λD o=>ak (du o) λe o=>ak (du o) λg o=>ak (du o) λv o=>ak (du o) λj k=>W (congrArg Y (xg u ?_))));show m6 l.abs=lU _;unfold lU;rw[g0.mk.injEq];exact nf z L D e s ⟨g,v,j,k,b⟩
theorem To :LeftO aU jw loose (λI=>M) m6 lU 7000:=.of_split "special-get-raises" λt=>by
 obtain ⟨⟨S,u,W,A,os⟩,o,k⟩:=DH.mp (Tc t);obtain ⟨rfl,rfl,rfl,rfl⟩:S=gA t.params/\u= #[]/\W=o6/\A=boot_toks:=by simpa using k
 refine DH.mpr ⟨_,o,?_⟩;rw[Fb (Te t os) (Tf t os),Fb (Tg t os) (Th t os)]
def u3 :Option (DefRec×List (am×ah)):=defOf jw jx.row.name
theorem Fc :u3.isSome=true:=by kernel_rfl
theorem TP(b:jx.row.wellSaid=M):jx.row.Holds:=by
 have hd:defOf jw jx.row.name=Y ((u3.get Fc).1,(u3.get Fc).2):=by show u3=_;rw[Option.some_get]
 refine holds_openX (r:=jx.row) (q:=jw) (loose:=loose) (Xt:=λI=>M) (XP:=λI I=>True) (Yf:=m6) (Ya:=lU) (N:=7000) To (λI I=>trivial) (λI I I I I=>trivial) hd (by kernel_rfl) (by kernel_rfl) (λl I=>recFacts_nil rfl) (by kernel_rfl) b (by kernel_rfl) ⟨rfl,rfl,rfl,rfl,rfl,by kernel_rfl⟩ ?_ ?_
 ·exact⟨[.list []],by kernel_rfl,by kernel_rfl⟩
 ·intro t j A e k H o v r n R q s w F f u h X p y d m c i a Z x low;exact Tl o H.T.g X c i
noncomputable abbrev hC :Program:=Fa.prog
theorem Tp :Fast.tw11788848310118352699 hC.main=true:=by kernel_rfl
theorem Tq :((Tr hC.main.body).isEmpty||Fast.tw12862048085361865435 (Tr hC.main.body) hC.main.body)=true:=by kernel_rfl
theorem Ts :Fast.tw8377067652309620493 hC=true:=by kernel_rfl
theorem Tt :(R.allR (Fast.tw18344453789297297638 hC) λC=> !Tu Fast.tw14412699480532031325 C)=true:=by kernel_rfl
theorem Tv :Fast.tw8326940854005059898
    {
     strict:=
      !R.allR (Fast.tw5923862056798008813 hC.main.body) (Tu Fast.tw17691160309236699985),
     foot:=G,
     bare:=
      R.filterR (Fast.tw13343964577679436407 hC hC.main.body)
       [{cps:={toList:= [118,97,114,115]}},{cps:={toList:= [100,105,114]}},
        {cps:={toList:= [108,111,99,97,108,115]}}]}
    hC.main.body=true:=by kernel_rfl
theorem Tw :Fast.tw17119622794617984870 hC hC.main.body (λy C=>Fast.tw17868728402115742887 C)=true:=by kernel_rfl
theorem Tx :Fast.tw12908688711261696721 hC=true:=lV (lV (lV (lV (lV Tp Tq) Ts) Tt) Tv) Tw
theorem TQ :Fa.wellSaid=true:=by
 rw[Fast.te9446332074065402090];delta Fast.tw9446332074065402090
 repeat' with_reducible refine lV ?_ ?_
 ·delta Fast.tw17960256430627541270;refine lV (lV ?_ (by kernel_rfl)) (by kernel_rfl)
  delta Fast.tw2436336058641802641
  repeat' with_reducible refine lV ?_ ?_
  ·exact Tx
  all_goals kernel_rfl
 all_goals kernel_rfl
end Mine.Internal
end
theorem PySem.Challenge.cw_pq0720_01_holds : PySem.Challenge.rw_pq0720_01.Holds :=
PySem.W.holds_law Mine.Internal.TQ Mine.Internal.TP
