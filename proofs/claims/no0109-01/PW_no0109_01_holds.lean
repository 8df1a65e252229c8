import PyProof.Rows.All
import Wide.All
import OpenK.AllK
import Wide.FinOn
import Lean
import PySem.Challenge.RW_no0109_01
set_option Elab.async false
set_option autoImplicit true
set_option linter.unusedVariables false
set_option genSizeOf false
set_option genInjectivity false
set_option maxRecDepth 100000
set_option linter.constructorNameAsVariable false
set_option tactic.hygienic false
set_option backward.match.sparseCases false
set_option genCtorIdx false
set_option bootstrap.genMatcherCode false
set_option linter.all false
open And renaming intro->Dx
open Array renaming getElem?_toList->qN,toList_append->wY,getElem?_setIfInBounds_self_of_lt->xi,getElem?_eq_some_iff->xj,toList->Lj,size_append->LB,size_push->LM,toList_push->Mr
open Bool renaming false_ne_true->ko,not_eq_true'->lD,or_true->tM,and_eq_true_iff->wr,false_eq_true->wB,eq_false_iff->wI,false_or->C',or_eq_false_iff->Dc,and_eq_true->De
open Char renaming toNat->Lk
open Decidable renaming byCases->wy,em->ab2
open Eq renaming symm->ir,trans->tA
open ForInStep renaming yield->qW
open Int renaming ofNat_lt->aS,ofNat_le->bt,natCast_nonneg->b9,not_lt->cz,le_trans->dT,lt_of_lt_of_le->fW,le_of_lt->gM,le_refl->hM,lt_of_le_of_lt->jw,ofNat_sub->jy,lt_trans->kf,toNat_of_nonneg->lw,not_le->lz,ofNat_inj->lM,add_le_add_right->mN,natCast_add->oD,sub_nonneg_of_le->qv,toNat_le->sU,le_of_lt_add_one->sV,toNat_sub->sX,ofNat->sZ,add_assoc->s5,add_comm->wf,toNat_lt->wg,sub_le_self->wm,add_zero->xb,sub_eq_iff_eq_add->xr,natAbs_of_nonneg->BK,sub_le_sub_right->BL,ne_of_gt->Df,pow_pos->Dg,lt_irrefl->DT,le_of_eq->DU,zero_add->DZ,le_add_one->D1,add_nonneg->D2,le_add_of_sub_right_le->KQ,self_le_toNat->KS,sub_lt_self->KU,add_lt_add_of_lt_of_le->KV,mul_le_mul_of_nonneg_left->KW,max_eq_right->KX,sub_lt_sub->KY,lt_or_eq_of_le->KZ,le_antisymm->K0,not_lt_of_ge->LO,natAbs_eq_zero->LQ,min_eq_right->Mc,min_eq_left->Md,max_eq_left->Me,eq_ofNat_of_zero_le->Mk,le_of_sub_nonneg->NK,le_min->NM,toNat_natCast->NS
open List renaming length_append->cA,mem_cons->cW,length_map->dq,mem_map->eo,range->eH,all_eq_true->eX,length_take->fj,append_nil->fk,size_toArray->fG,lookup->fY,getElem?_eq_getElem->f7,replicate->gm,length_drop->gR,append_assoc->gS,mem_range->lE,length_range->m7,mem_reverse->m8,lookup_cons->nd,contains_cons->ng,drop_zero->ni,map_append->no,map_map->oG,mem_append_right->oJ,mem_append_left->oO,length_set->oP,getElem?_map->oQ,drop_eq_nil_iff->oT,map_cons->oU,length_take_of_le->oZ,isEmpty_iff->qC,toList_toArray->qE,length_replicate->qM,getElem?_eq_some_iff->qO,getElem?_eq_none->qP,length_cons->qR,take_length->re,rec->th,mem_filter->ty,not_mem_nil->tC,nodup_cons->tD,map_reverse->tE,mem_singleton->tO,take_zero->tQ,reverse_cons->wx,mem_filterMap->wG,length_reverse->w6,getElem?_drop->xt,drop_append_of_le_length->xz,drop_eq_nil_of_le->xB,map_inj_right->CY,contains_iff_mem->Db,getElem?_toArray->Dh,any_eq_true->DD,map->DG,mem_flatMap->DK,drop_eq_getElem_cons->DN,take_succ_cons->DP,getElem?_replicate->DQ,map_congr_left->DY,map_drop->D3,length_pos_iff->D4,any_eq_false->Ld,all_cons->Lf,map_eq_nil_iff->Ln,any_cons->LH,append_toArray->LV,nil_append->LW,mem_append->Mh,toArray->Mn,getElem_range->Mu,drop_drop->MG,eraseDups_cons->MH,length_filter_le->MI,nodup_nil->MJ,filter_eq_self->MK,Nodup->MM,pairwise_map->MN,forIn_cons->M0,map_inj_left->M1,reverse->M7,of_mem_zip->M9,lookup_cons_self->No,mem_of_getElem?->Nq,mem_map_of_mem->Nv,length_eq_zero_iff->Nw,getElem?_take->Nx,take_nil->Nz,mem_of_mem_take->NA,append_ne_nil_of_right_ne_nil->NF,map_take->NG,take_add_one->NI,take_append_drop->NJ,length_nil->NL,range'->NO,getElem?_take_of_lt->NQ,getElem?_set->NT
open List.cons renaming inj->Lo
open Nat renaming le_trans->ah,eq_of_beq_eq_true->aC,beq->aJ,le_of_lt->aO,lt_of_le_of_lt->aV,le_refl->a6,lt_of_lt_of_le->bn,zero_le->ca,ne_of_lt->cK,le_add_right->cP,lt_trans->cZ,le_of_not_lt->c6,lt_succ_self->c7,not_lt->c8,succ_le_succ->db,le_succ->dc,add_le_add_left->dy,le_of_lt_succ->dA,add_le_add_right->dS,le_of_eq->d8,le_of_succ_le->d9,min_le_left->eG,sub_le->fh,le_antisymm->fi,lt_or_eq_of_le->fX,lt_succ_of_lt->f6,add_lt_add_left->gk,ne_of_gt->gp,min_le_right->gI,add_comm->gJ,lt_irrefl->gK,le_add_left->gN,add_assoc->hB,succ_pos->hK,log2->iT,blt->iU,not_le->iW,le_min->iX,add_le_add->jx,sub_lt_sub_left->jA,min_eq_left->jC,le_succ_of_le->ks,sub_lt->ly,add_lt_of_lt_sub'->mK,sub_add_cancel->mL,mul_le_mul_left->mM,one_pos->mO,lt_of_not_le->nj,not_lt_zero->oY,zero_add->o0,sub_le_of_le_add->qu,lt_one_iff->qw,beq_refl->qx,lt_of_le_of_ne->q7,lt_add_of_pos_right->sW,add_right_comm->sY,sub_eq_zero_of_le->tR,sub_le_sub_left->tS,add_zero->tU,sub_sub_self->wh,lt_succ_of_le->wj,add_lt_add_right->wk,succ->w7,le_total->xu,sub_le_sub_right->xx,sub_add_comm->xy,zero_lt_of_lt->xA,sub_le_iff_le_add'->BH,add_sub_cancel'->BI,lt_or_ge->BJ,le_of_ble_eq_true->DH,succ_lt_succ->DL,le_zero->DM,pow_le_pow_right->DO,succ_ne_zero->DV,max_lt->DW,max_eq_right->DX,mod_lt->D5,le_sub_of_add_le'->D6,ne_zero_of_lt->D7,add_le_of_le_sub'->KP,succ_sub->KR,pos_of_ne_zero->KT,log2_lt->LR,cast->LZ,min_eq_right->Ny,le_of_pred_lt->NB,le_sub_of_add_le->NC,le_pred_of_lt->ND,zero_sub->NE,add_sub_cancel_left->NH,le_add_right_of_le->NN,add_sub_of_le->NP,sub_one_lt_of_le->NU
open Nat.ToInt renaming mod_congr->xC
open Nat.succ renaming inj->qQ
open Ne renaming symm->fH
open Option renaming map_eq_some_iff->hH,bind_eq_some_iff->wH,isSome_iff_exists->BS,rec->BV,getD->Dv,none->Ms,map->Na
open Option.some renaming inj->bq
open Prod renaming fst->gT,mk->Nu
open Prod.mk renaming inj->M6
open Pure renaming pure->a8
open PyProof.Rows renaming subscriptTail->oM,IntsAre->Dj,neg_int->Li,place_lt->NR,sub_int'->ab9,add_str->aca,mul_int->acb,slot_tuple_getitem->acg,getItem_tuple->ach,call_abs_int->ack,call_int_bit_length->aco,bi_ine->acq,lenZ->acr
open PySem renaming Value->af,Shared->ag,Expr->ao,model->av,wpAny_bind->aw,Addr->ax,Str->az,wpAny->aL,Around->bk,Stmt->bz,clipAt->bA,World->bE,Program->bJ,wpAny_of_eq->cR,Model->cV,Heap->dp,Pos->dB,Scope->dK,Result->eI,typeLookup_type->eJ,builtinLookup_eq_fast->eK,sizeLine->eZ,argsOk->fD,typeLookup->fZ,wpAny_mono->gn,entryFor->gq,FuncData->gO,wpAny_specialOf->gP,wpAny_holding->gQ,holding->hE,wpAny_load->hF,builtinsNs->im,Code->jD,standAt->jE,wpAny_field->jF,DictEntry->jG,Const->jH,seqIndex?->kg,Flow->ki,recursionLimit->kj,callerA->kk,Arguments->kl,cLine->kn,bm_if_false->kr,NameKind->lA,spliced->lC,compareOp->lF,isSubtype_type->lG,binaryOp->lH,assignEach->lK,excClassObj->lL,truthy->mP,execs->mQ,bindArgs->mR,findBy->mT,codeAmong->mU,Slot->mW,signature?_of->mX,IsPart->mZ,noteFrame->m9,leaving->oE,sysModules->oF,callWith->oH,setItem->oK,getAttr->oN,swapsWith->oR,swappedStores->oS,ExcBaseFacts->oX,Args->qy,callAny->qz,classAt->qA,Data->qD,entryFor_of_tree->qG,Meets->qH,sizeLine_eq->qI,theTreesLotGoes->qS,isInstance->qV,setFlight->qX,wpAny_loadPart_at->qY,clipAt_nat->qZ,codeAny->s8,point->te,bindName->tf,wpAny_Name->tj,wpAny_loadName_local->tm,typeIs_int->tn,call_meets->tv,pyIter->tz,arm_assign_Name->tB,assignInOrder->tF,typeOf->tG,closureFor->tI,newEnv->tJ,wpAny_isSubtype_exc->tN,callFunction->wn,DefRec->wo,call->wt,Operator->wu,Comprehension->wv,TriplesOk->ww,starEach->wz,backTo->wA,getItem->wK,specialOf->wL,mroOf->wM,entryFor_alias->wN,wpAny_call->wR,callSpecial?->wS,wpAny_callSpecial?_slot->wU,wpAny_call_entry->wV,bm_if_true->wW,wpAny_rule->wX,list_getitem_lookup->wZ,evalPart->w5,IntKeys->w',execs_cons->xc,getMethod->xe,relabel->xf,wpAny_setField->xg,ExcName->xo,operate->BN,newFunctionEnv->BO,leftWithCleanup->BP,unsupported->BU,foldedForSure->CO,constantsAlone->CP,keeperOf->CR,Builtin->CS,wpAny_Constant_int->CW,markedBehindIn_of_false->CZ,boolOp->C0,evalEach->C1,arm_allTrue_cons->C2,wpAny_newObj_type->C5,wpAny_mkInt->C6,getItem_meets->C7,asIndex->C8,checkTypeCall->C9,wpAny_sequenceKey->Dd,wpAny_getItem_list_slice->Di,pyNext->Dm,assignAll->Dn,arm_exec_Assign->Do,assignStores->Dp,unpackItems->Dr,letOwnedTupleGo->Ds,cellOf->Du,wpAny_newFunctionEnv->DA,cellsFrom->DB,raiseStmt->DF,opaqueClassAbove->DJ,wpAny_enterFrame->K3,Keyword->K5,UnaryOp->K6,CmpOp->K7,BoolOp->K8,Tok->K9,ClassData->La,defaultsOf->Lg,behindInMarks->Lq,markedBehindIn->Lr,arm_isTrue_BoolOp->Ls,wpAny_isInstance->Lx,wpAny_typeOf->LD,TypeCalled->LG,updateBytearray->LK,wpAny_lookBehind->LL,callType_new->LP,subscripted->LX,wpAny_letTemporaryGo->LY,slicePick_plain->L7,wpAny_newList->Ma,bootBuiltins->Mb,slot_list_setitem->Mj,slot_dict_setitem->Ml,list_append->Mq,wpAny_pyIter_tuple->Mw,wpAny_pyNext_tuple_item->Mx,wpAny_pyNext_tuple_end->My,interactive->Mz,wpAny_storeName_local->MA,arm_exec_Expr->MC,wpAny_dropValue->MD,arm_assign_Attribute->MF,arm_assign_Tuple->ML,foldedSetIterable->MP,bindSpecial->MQ,entry_typeCall->MU,methodCallForm->MV,methodCallPos->MW,comprehension->M4,compTurn_list->M5,wpAny_newFunctionEnv_cells->M8,entryPlaceOf->Nc,wpAny_madeBy_exc->Nd,wpAt_bind->Nf,wpAt_of_wpAny->Ng,codeAny_call_builtin->Nh,refuseLoop->Ni,wpAny_standAt->Np
open PySem.Around renaming under_plainId->CT
open PySem.AutoListH renaming list___mul___list_int_3->acd
open PySem.BoolOp renaming And->ab6
open PySem.Builtin renaming bitAnd->LU,len->ab8
open PySem.Builtin.Bytes renaming fitsIndex->mY,buffer?->oI,subscript?->qJ,exportsOf->qL,payload->wJ,byteValue->wT,payload?->C3,bufferQuiet?->C4,decodersThatHold->K2,slotIsOwn->Lw,ownRelease->Ly,newBytearray->Lz,sliceParts->LF,checkResize->LI,bindOptional->LN
open PySem.Builtin.Bytes.exported renaming match_1->ab7
open PySem.Builtin.Dict renaming notOrdered->acn
open PySem.Builtin.Int renaming intBits->tx
open PySem.Builtin.List renaming listFitsIndex->ace,listTooLong->acf,listSubscript?->acm
open PySem.Builtin.ObjectAttr renaming storeInDict->Nl
open PySem.Builtin.Range renaming rangeSize->Mt,small->Mv,rangeFitsLong->acp
open PySem.Calls renaming Name_function_global->wE,loadGlobal_global->Lh,loadGlobal_builtin->Mf
open PySem.Challenge renaming rw_no0109_01->NV
open PySem.Code renaming quiet_builtin->wQ
open PySem.Const.bool renaming elim->Cv
open PySem.Const.bytes renaming elim->Cz
open PySem.Const.int renaming elim->Cw
open PySem.Const.none renaming elim->ab3
open PySem.Const.str renaming elim->Cy
open PySem.Data.cls renaming elim->Cp
open PySem.Data.func renaming elim->Cq
open PySem.Data.seq renaming elim->Cr
open PySem.DictEntry renaming refKey->acl
open PySem.EntryCells renaming newEntry->DE
open PySem.ExcName renaming means->wq
open PySem.Expr.Attribute renaming elim->BZ
open PySem.Expr.BinOp renaming elim->B0
open PySem.Expr.BoolOp renaming elim->Ca
open PySem.Expr.Call renaming elim->BY
open PySem.Expr.Compare renaming elim->B'
open PySem.Expr.Constant renaming elim->BW
open PySem.Expr.Dict renaming elim->Cg
open PySem.Expr.IfExp renaming elim->Cb
open PySem.Expr.Lambda renaming elim->Ci
open PySem.Expr.List renaming elim->Ce
open PySem.Expr.ListComp renaming elim->Ch
open PySem.Expr.Name renaming elim->BX
open PySem.Expr.Slice renaming elim->Cd
open PySem.Expr.Subscript renaming elim->Cc
open PySem.Expr.Tuple renaming elim->Cf
open PySem.Expr.UnaryOp renaming elim->B9
open PySem.F renaming excBase_ValueError->xm,slot_list_append->Dl,slot_dict_get->Mm,entry_list_append->Mo,args_list_append_2->Mp,slot_tuple_iterator_iter->M2,args_tuple_iterator_iter_1->M3
open PySem.Fin renaming again->MT
open PySem.Flow renaming next->Dq
open PySem.FuncBody renaming casesOn->Nr
open PySem.Heap renaming get?_push_of_some->dC,lt_size->fB,get?_update_self->hJ,get?_update_other->lJ,get?_push_size->mV,ExtBut->ti,SameBut->Dw,size_push->Dz,SlotsOnly->Nb,get?_update_ne->Nk
open PySem.Heap.IsList renaming push->aci,typeIs->acj
open PySem.Heap.IsSliceOf renaming new->L9
open PySem.Heap.SameBut renaming update->tt
open PySem.Manifest renaming owners->Lu
open PySem.NameKind renaming free->jI,cell->Dy
open PySem.Obj renaming mapBytearray->m5,mapFields->oW,data_mapFields->tL,mk->xa,isFreed_of_fields->xh,mapSeq->Dk
open PySem.P renaming iadd_int->MO
open PySem.PyData renaming keyHash->Mi,int->NW
open PySem.Sem renaming wp_mono->kh,wp_bind'->tc,wp->BM
open PySem.SeqAt renaming shaped->Lp
open PySem.Stmt.Assign renaming elim->CB
open PySem.Stmt.AugAssign renaming elim->CC
open PySem.Stmt.Break renaming elim->CH
open PySem.Stmt.Continue renaming elim->CJ
open PySem.Stmt.Expr renaming elim->CA
open PySem.Stmt.For renaming elim->CF
open PySem.Stmt.If renaming elim->CD
open PySem.Stmt.Pass renaming elim->CK
open PySem.Stmt.Raise renaming elim->CL
open PySem.Stmt.Return renaming elim->CG
open PySem.Stmt.Try renaming elim->CN
open PySem.Stmt.While renaming elim->CE
open PySem.Str renaming ofString->dD,ofString_eq_toList->CX
open PySem.Value renaming none->eY,ref->e',isInt->hG,type->m6,int->qK
open PySem.Value.builtin renaming elim->Cm
open PySem.Value.bytes renaming elim->Co
open PySem.Value.int renaming elim->Cn
open PySem.Value.ref renaming elim->Cj
open PySem.Value.type renaming elim->Ck
open PySem.W renaming Frag->bc,findIn->fC,Looks->f0,instObj->go,dictOf->io,tabObj->iq,specialIn->km,typeIs_bytes->lI,GoodWG->qB,DatAll->qF,emptyDict->qT,Ground->tg,looks_findIn->tH,peek->tK,hideAll->tP,makesIn->wC,recIn->wD,mg_of->wF,getL->w8,takerIn->w9,clsIn->xk,hideAll_get->xp,TabsAt->xq,RecFacts->BR,CFound->Ct,kla_obj->CQ,readsIn->CU,takesIn->CV,check_slot->Dt,layAllW_rest->K4,copiedNames->Le,mg_none_of->Mg,handedOut_of->MX,plainGet_of->MZ,looks_clsIn->Nj,codeRec_of->Nt
open PySem.W.CFound.val renaming elim->Cu
open PySem.W.Dat renaming int->iV
open PySem.W.Dat.int renaming inj->Ll
open PySem.W.Dat.tuple renaming inj->Lm
open PySem.W.FB renaming slot_bytes_getitem->w0,entry_bytes_getitem->L0,args_bytes_getitem_2->L6
open PySem.W.Fast renaming sEq_iff->Lc
open PySem.W.KBy renaming picked->tq
open PySem.W.KF renaming slot_prop->MY
open PySem.W.Looks renaming ld->qU,of_pure->xl,of_peek->DC,andThen->Nn
open PySem.W.WData renaming layableAll->BQ
open PySem.callAny renaming viaDunder->xd
open PySem.swappedStores renaming match_5->ab4,match_8->ab5
open String renaming length->kt,splitOn->wO,splitOnAux->wP,ofList->Lv
open UInt8 renaming ofNat->dU
section
namespace Mine.Internal
theorem tT:True:=trivial
theorem nq{F:Prop}{K:Prop}{M:Prop}{X:Prop}(h:F/\K/\M)(k:(F)->(K)->(M)->X):X:=k h.1 h.2.1 h.2.2
theorem tV{M:Type}{F:Prop}{K:M->Prop}{X:Prop}(h:F/\∃a,K a)(k:(F)->∀a,(K a)->X):X:=(h.2).elim λa O=>k h.1 a O
theorem ak{F:Type}{K:F->Prop}{M:F->Prop}{X:Prop}(h:∃a,K a/\M a)(k:∀a,(K a)->(M a)->X):X:=h.elim λa O=>k a O.1 O.2
theorem hO{K M:Type}{F:K->M->Prop}{X:Prop}(h:∃a,∃a1,F a a1)(k:∀a,∀a1,(F a a1)->X):X:=h.elim λa O=>O.elim λa1 R=>k a a1 R
theorem tW{F:Prop}{K:Prop}{M:Prop}{O:Prop}{X:Prop}(h:F/\K/\M/\O)(k:(F)->(K)->(M)->(O)->X):X:=k h.1 h.2.1 h.2.2.1 h.2.2.2
theorem tX{F:Type}{K:Prop}{M:F->Prop}{O:F->Prop}{X:Prop}(h:K/\∃a,M a/\O a)(k:(K)->∀a,(M a)->(O a)->X):X:=(h.2).elim λa R=>k h.1 a R.1 R.2
theorem cr{F:Type}{M:F->Prop}{O:F->Prop}{R:F->Prop}{X:Prop}(h:∃a,M a/\O a/\R a)(k:∀a,(M a)->(O a)->(R a)->X):X:=h.elim λa K=>k a K.1 K.2.1 K.2.2
theorem D8{F R:Type}{K:F->Prop}{M:F->R->Prop}{X:Prop}(h:∃a,K a/\∃a1,M a a1)(k:∀a,(K a)->∀a1,(M a a1)->X):X:=h.elim λa O=>(O.2).elim λa1 S=>k a O.1 a1 S
theorem bZ{F K:Type}{M:F->K->Prop}{O:F->K->Prop}{X:Prop}(h:∃a,∃a1,M a a1/\O a a1)(k:∀a,∀a1,(M a a1)->(O a a1)->X):X:=h.elim λa S=>S.elim λa1 R=>k a a1 R.1 R.2
theorem iu{K M O:Type}{F:K->M->O->Prop}{X:Prop}(h:∃a,∃a1,∃a2,F a a1 a2)(k:∀a,∀a1,∀a2,(F a a1 a2)->X):X:=h.elim λa R=>R.elim λa1 S=>S.elim λa2 T=>k a a1 a2 T
theorem nu{F:Prop}{K:Prop}{M:Prop}{O:Prop}{R:Prop}{X:Prop}(h:F/\K/\M/\O/\R)(k:(F)->(K)->(M)->(O)->(R)->X):X:=k h.1 h.2.1 h.2.2.1 h.2.2.2.1 h.2.2.2.2
theorem fm{F:Type}{M:F->Prop}{O:F->Prop}{R:F->Prop}{S:F->Prop}{X:Prop}(h:∃a,M a/\O a/\R a/\S a)(k:∀a,(M a)->(O a)->(R a)->(S a)->X):X:=h.elim λa K=>k a K.1 K.2.1 K.2.2.1 K.2.2.2
theorem o4{F K:Type}{M:F->Prop}{O:F->K->Prop}{R:F->K->Prop}{X:Prop}(h:∃a,M a/\∃a1,O a a1/\R a a1)(k:∀a,(M a)->∀a1,(O a a1)->(R a a1)->X):X:=h.elim λa S=>(S.2).elim λa1 T=>k a S.1 a1 T.1 T.2
theorem bL{F K:Type}{O:F->K->Prop}{R:F->K->Prop}{S:F->K->Prop}{X:Prop}(h:∃a,∃a1,O a a1/\R a a1/\S a a1)(k:∀a,∀a1,(O a a1)->(R a a1)->(S a a1)->X):X:=h.elim λa T=>T.elim λa1 M=>k a a1 M.1 M.2.1 M.2.2
theorem c4{F K M:Type}{O:F->K->M->Prop}{R:F->K->M->Prop}{X:Prop}(h:∃a,∃a1,∃a2,O a a1 a2/\R a a1 a2)(k:∀a,∀a1,∀a2,(O a a1 a2)->(R a a1 a2)->X):X:=h.elim λa T=>T.elim λa1 V=>V.elim λa2 S=>k a a1 a2 S.1 S.2
theorem D9{K M O R:Type}{F:K->M->O->R->Prop}{X:Prop}(h:∃a,∃a1,∃a2,∃b,F a a1 a2 b)(k:∀a,∀a1,∀a2,∀b,(F a a1 a2 b)->X):X:=h.elim λa S=>S.elim λa1 T=>T.elim λa2 V=>V.elim λb W=>k a a1 a2 b W
theorem tY{F K M:Type}{O:F->Prop}{R:F->K->M->Prop}{S:F->K->M->Prop}{X:Prop}(h:∃a,O a/\∃a1,∃a2,R a a1 a2/\S a a1 a2)(k:∀a,(O a)->∀a1,∀a2,(R a a1 a2)->(S a a1 a2)->X):X:=h.elim λa T=>(T.2).elim λa1 W=>W.elim λa2 V=>k a T.1 a1 a2 V.1 V.2
theorem eb{F K:Type}{O:F->K->Prop}{R:F->K->Prop}{S:F->K->Prop}{T:F->K->Prop}{X:Prop}(h:∃a,∃a1,O a a1/\R a a1/\S a a1/\T a a1)(k:∀a,∀a1,(O a a1)->(R a a1)->(S a a1)->(T a a1)->X):X:=h.elim λa V=>V.elim λa1 M=>k a a1 M.1 M.2.1 M.2.2.1 M.2.2.2
theorem Ea{F K M:Type}{O:F->K->Prop}{R:F->K->M->Prop}{S:F->K->M->Prop}{X:Prop}(h:∃a,∃a1,O a a1/\∃a2,R a a1 a2/\S a a1 a2)(k:∀a,∀a1,(O a a1)->∀a2,(R a a1 a2)->(S a a1 a2)->X):X:=h.elim λa W=>W.elim λa1 T=>(T.2).elim λa2 V=>k a a1 T.1 a2 V.1 V.2
theorem fJ{F K M:Type}{R:F->K->M->Prop}{S:F->K->M->Prop}{T:F->K->M->Prop}{X:Prop}(h:∃a,∃a1,∃a2,R a a1 a2/\S a a1 a2/\T a a1 a2)(k:∀a,∀a1,∀a2,(R a a1 a2)->(S a a1 a2)->(T a a1 a2)->X):X:=h.elim λa V=>V.elim λa1 W=>W.elim λa2 O=>k a a1 a2 O.1 O.2.1 O.2.2
theorem rg{F K M O:Type}{R:F->K->M->O->Prop}{S:F->K->M->O->Prop}{X:Prop}(h:∃a,∃a1,∃a2,∃b,R a a1 a2 b/\S a a1 a2 b)(k:∀a,∀a1,∀a2,∀b,(R a a1 a2 b)->(S a a1 a2 b)->X):X:=h.elim λa V=>V.elim λa1 W=>W.elim λa2 c=>c.elim λb T=>k a a1 a2 b T.1 T.2
theorem ku{K M O R S:Type}{F:K->M->O->R->S->Prop}{X:Prop}(h:∃a,∃a1,∃a2,∃b,∃c,F a a1 a2 b c)(k:∀a,∀a1,∀a2,∀b,∀c,(F a a1 a2 b c)->X):X:=h.elim λa T=>T.elim λa1 V=>V.elim λa2 W=>W.elim λb d=>d.elim λc e=>k a a1 a2 b c e
theorem NX{F K:Type}{O:Prop}{R:Prop}{S:F->K->Prop}{T:F->K->Prop}{V:F->K->Prop}{X:Prop}(h:O/\R/\∃a,∃a1,S a a1/\T a a1/\V a a1)(k:(O)->(R)->∀a,∀a1,(S a a1)->(T a a1)->(V a a1)->X):X:=(h.2.2).elim λa W=>W.elim λa1 M=>k h.1 h.2.1 a a1 M.1 M.2.1 M.2.2
theorem NY{F K:Type}{O:Prop}{R:F->K->Prop}{S:F->K->Prop}{T:F->K->Prop}{V:F->K->Prop}{X:Prop}(h:O/\∃a,∃a1,R a a1/\S a a1/\T a a1/\V a a1)(k:(O)->∀a,∀a1,(R a a1)->(S a a1)->(T a a1)->(V a a1)->X):X:=(h.2).elim λa W=>W.elim λa1 M=>k h.1 a a1 M.1 M.2.1 M.2.2.1 M.2.2.2
theorem NZ{F M O:Type}{R:F->Prop}{S:F->Prop}{T:F->M->O->Prop}{V:F->M->O->Prop}{X:Prop}(h:∃a,R a/\S a/\∃a1,∃a2,T a a1 a2/\V a a1 a2)(k:∀a,(R a)->(S a)->∀a1,∀a2,(T a a1 a2)->(V a a1 a2)->X):X:=h.elim λa K=>(K.2.2).elim λa1 b=>b.elim λa2 W=>k a K.1 K.2.1 a1 a2 W.1 W.2
theorem Eb{F K M:Type}{O:F->Prop}{R:F->K->Prop}{S:F->K->M->Prop}{T:F->K->M->Prop}{X:Prop}(h:∃a,O a/\∃a1,R a a1/\∃a2,S a a1 a2/\T a a1 a2)(k:∀a,(O a)->∀a1,(R a a1)->∀a2,(S a a1 a2)->(T a a1 a2)->X):X:=h.elim λa V=>(V.2).elim λa1 W=>(W.2).elim λa2 b=>k a V.1 a1 W.1 a2 b.1 b.2
theorem N0{F K M O:Type}{R:F->Prop}{S:F->K->M->O->Prop}{T:F->K->M->O->Prop}{X:Prop}(h:∃a,R a/\∃a1,∃a2,∃b,S a a1 a2 b/\T a a1 a2 b)(k:∀a,(R a)->∀a1,∀a2,∀b,(S a a1 a2 b)->(T a a1 a2 b)->X):X:=h.elim λa V=>(V.2).elim λa1 c=>c.elim λa2 d=>d.elim λb W=>k a V.1 a1 a2 b W.1 W.2
theorem N1{F K:Type}{O:F->K->Prop}{R:F->K->Prop}{S:F->K->Prop}{T:F->K->Prop}{V:F->K->Prop}{X:Prop}(h:∃a,∃a1,O a a1/\R a a1/\S a a1/\T a a1/\V a a1)(k:∀a,∀a1,(O a a1)->(R a a1)->(S a a1)->(T a a1)->(V a a1)->X):X:=h.elim λa W=>W.elim λa1 M=>k a a1 M.1 M.2.1 M.2.2.1 M.2.2.2.1 M.2.2.2.2
theorem N2{F K O:Type}{R:F->K->Prop}{S:F->K->Prop}{T:F->K->O->Prop}{V:F->K->O->Prop}{X:Prop}(h:∃a,∃a1,R a a1/\S a a1/\∃a2,T a a1 a2/\V a a1 a2)(k:∀a,∀a1,(R a a1)->(S a a1)->∀a2,(T a a1 a2)->(V a a1 a2)->X):X:=h.elim λa b=>b.elim λa1 M=>(M.2.2).elim λa2 W=>k a a1 M.1 M.2.1 a2 W.1 W.2
theorem iw{F K M:Type}{R:F->K->M->Prop}{S:F->K->M->Prop}{T:F->K->M->Prop}{V:F->K->M->Prop}{X:Prop}(h:∃a,∃a1,∃a2,R a a1 a2/\S a a1 a2/\T a a1 a2/\V a a1 a2)(k:∀a,∀a1,∀a2,(R a a1 a2)->(S a a1 a2)->(T a a1 a2)->(V a a1 a2)->X):X:=h.elim λa W=>W.elim λa1 b=>b.elim λa2 O=>k a a1 a2 O.1 O.2.1 O.2.2.1 O.2.2.2
theorem lN{F K M O:Type}{S:F->K->M->O->Prop}{T:F->K->M->O->Prop}{V:F->K->M->O->Prop}{X:Prop}(h:∃a,∃a1,∃a2,∃b,S a a1 a2 b/\T a a1 a2 b/\V a a1 a2 b)(k:∀a,∀a1,∀a2,∀b,(S a a1 a2 b)->(T a a1 a2 b)->(V a a1 a2 b)->X):X:=h.elim λa W=>W.elim λa1 c=>c.elim λa2 d=>d.elim λb R=>k a a1 a2 b R.1 R.2.1 R.2.2
theorem xD{F K:Type}{O:F->K->Prop}{R:F->K->Prop}{S:F->K->Prop}{T:F->K->Prop}{V:F->K->Prop}{W:F->K->Prop}{X:Prop}(h:∃a,∃a1,O a a1/\R a a1/\S a a1/\T a a1/\V a a1/\W a a1)(k:∀a,∀a1,(O a a1)->(R a a1)->(S a a1)->(T a a1)->(V a a1)->(W a a1)->X):X:=h.elim λa b=>b.elim λa1 M=>k a a1 M.1 M.2.1 M.2.2.1 M.2.2.2.1 M.2.2.2.2.1 M.2.2.2.2.2
theorem tZ{F K M:Type}{R:F->K->M->Prop}{S:F->K->M->Prop}{T:F->K->M->Prop}{V:F->K->M->Prop}{W:F->K->M->Prop}{X:Prop}(h:∃a,∃a1,∃a2,R a a1 a2/\S a a1 a2/\T a a1 a2/\V a a1 a2/\W a a1 a2)(k:∀a,∀a1,∀a2,(R a a1 a2)->(S a a1 a2)->(T a a1 a2)->(V a a1 a2)->(W a a1 a2)->X):X:=h.elim λa b=>b.elim λa1 c=>c.elim λa2 O=>k a a1 a2 O.1 O.2.1 O.2.2.1 O.2.2.2.1 O.2.2.2.2
theorem t5{F K M R:Type}{S:F->K->M->Prop}{T:F->K->M->Prop}{V:F->K->M->R->Prop}{W:F->K->M->R->Prop}{X:Prop}(h:∃a,∃a1,∃a2,S a a1 a2/\T a a1 a2/\∃b,V a a1 a2 b/\W a a1 a2 b)(k:∀a,∀a1,∀a2,(S a a1 a2)->(T a a1 a2)->∀b,(V a a1 a2 b)->(W a a1 a2 b)->X):X:=h.elim λa d=>d.elim λa1 e=>e.elim λa2 O=>(O.2.2).elim λb c=>k a a1 a2 O.1 O.2.1 b c.1 c.2
theorem kv{F K M O:Type}{S:F->K->M->O->Prop}{T:F->K->M->O->Prop}{V:F->K->M->O->Prop}{W:F->K->M->O->Prop}{X:Prop}(h:∃a,∃a1,∃a2,∃b,S a a1 a2 b/\T a a1 a2 b/\V a a1 a2 b/\W a a1 a2 b)(k:∀a,∀a1,∀a2,∀b,(S a a1 a2 b)->(T a a1 a2 b)->(V a a1 a2 b)->(W a a1 a2 b)->X):X:=h.elim λa c=>c.elim λa1 d=>d.elim λa2 e=>e.elim λb R=>k a a1 a2 b R.1 R.2.1 R.2.2.1 R.2.2.2
theorem N3{F K M:Type}{R:F->K->M->Prop}{S:F->K->M->Prop}{T:F->K->M->Prop}{V:F->K->M->Prop}{W:F->K->M->Prop}{b:F->K->M->Prop}{X:Prop}(h:∃a,∃a1,∃a2,R a a1 a2/\S a a1 a2/\T a a1 a2/\V a a1 a2/\W a a1 a2/\b a a1 a2)(k:∀a,∀a1,∀a2,(R a a1 a2)->(S a a1 a2)->(T a a1 a2)->(V a a1 a2)->(W a a1 a2)->(b a a1 a2)->X):X:=h.elim λa c=>c.elim λa1 d=>d.elim λa2 O=>k a a1 a2 O.1 O.2.1 O.2.2.1 O.2.2.2.1 O.2.2.2.2.1 O.2.2.2.2.2
theorem t7{F K M O:Type}{S:F->K->M->O->Prop}{T:F->K->M->O->Prop}{V:F->K->M->O->Prop}{W:F->K->M->O->Prop}{c:F->K->M->O->Prop}{X:Prop}(h:∃a,∃a1,∃a2,∃b,S a a1 a2 b/\T a a1 a2 b/\V a a1 a2 b/\W a a1 a2 b/\c a a1 a2 b)(k:∀a,∀a1,∀a2,∀b,(S a a1 a2 b)->(T a a1 a2 b)->(V a a1 a2 b)->(W a a1 a2 b)->(c a a1 a2 b)->X):X:=h.elim λa d=>d.elim λa1 e=>e.elim λa2 f=>f.elim λb R=>k a a1 a2 b R.1 R.2.1 R.2.2.1 R.2.2.2.1 R.2.2.2.2
theorem N4{F K:Type}{R:F->Prop}{S:F->Prop}{T:F->K->Prop}{V:F->K->Prop}{W:F->K->Prop}{b:F->K->Prop}{c:F->K->Prop}{d:F->K->Prop}{X:Prop}(h:∃a,R a/\S a/\∃a1,T a a1/\V a a1/\W a a1/\b a a1/\c a a1/\d a a1)(k:∀a,(R a)->(S a)->∀a1,(T a a1)->(V a a1)->(W a a1)->(b a a1)->(c a a1)->(d a a1)->X):X:=h.elim λa O=>(O.2.2).elim λa1 M=>k a O.1 O.2.1 a1 M.1 M.2.1 M.2.2.1 M.2.2.2.1 M.2.2.2.2.1 M.2.2.2.2.2
theorem N5{F K M O R S T V W:Type}{i:F->K->M->O->R->S->T->V->W->Prop}{j:F->K->M->O->R->S->T->V->W->Prop}{X:Prop}(h:∃a,∃a1,∃a2,∃b,∃c,∃d,∃e,∃f,∃g,i a a1 a2 b c d e f g/\j a a1 a2 b c d e f g)(k:∀a,∀a1,∀a2,∀b,∀c,∀d,∀e,∀f,∀g,(i a a1 a2 b c d e f g)->(j a a1 a2 b c d e f g)->X):X:=h.elim λa m=>m.elim λa1 n=>n.elim λa2 o=>o.elim λb p=>p.elim λc q=>q.elim λd r=>r.elim λe s=>s.elim λf t=>t.elim λg l=>k a a1 a2 b c d e f g l.1 l.2
theorem N6{F K M O R S T:Type}{W:F->K->M->O->R->S->T->Prop}{f:F->K->M->O->R->S->T->Prop}{g:F->K->M->O->R->S->T->Prop}{i:F->K->M->O->R->S->T->Prop}{j:F->K->M->O->R->S->T->Prop}{X:Prop}(h:∃a,∃a1,∃a2,∃b,∃c,∃d,∃e,W a a1 a2 b c d e/\f a a1 a2 b c d e/\g a a1 a2 b c d e/\i a a1 a2 b c d e/\j a a1 a2 b c d e)(k:∀a,∀a1,∀a2,∀b,∀c,∀d,∀e,(W a a1 a2 b c d e)->(f a a1 a2 b c d e)->(g a a1 a2 b c d e)->(i a a1 a2 b c d e)->(j a a1 a2 b c d e)->X):X:=h.elim λa l=>l.elim λa1 m=>m.elim λa2 n=>n.elim λb o=>o.elim λc p=>p.elim λd q=>q.elim λe V=>k a a1 a2 b c d e V.1 V.2.1 V.2.2.1 V.2.2.2.1 V.2.2.2.2
theorem N7{F K M O R S T V W j:Type}{l:F->K->M->O->R->S->T->V->W->j->Prop}{m:F->K->M->O->R->S->T->V->W->j->Prop}{X:Prop}(h:∃a,∃a1,∃a2,∃b,∃c,∃d,∃e,∃f,∃g,∃i,l a a1 a2 b c d e f g i/\m a a1 a2 b c d e f g i)(k:∀a,∀a1,∀a2,∀b,∀c,∀d,∀e,∀f,∀g,∀i,(l a a1 a2 b c d e f g i)->(m a a1 a2 b c d e f g i)->X):X:=h.elim λa o=>o.elim λa1 p=>p.elim λa2 q=>q.elim λb r=>r.elim λc s=>s.elim λd t=>t.elim λe u=>u.elim λf v=>v.elim λg w=>w.elim λi n=>k a a1 a2 b c d e f g i n.1 n.2
theorem N8{F R:Type}{S:F->Prop}{T:F->Prop}{V:F->Prop}{W:F->Prop}{b:F->Prop}{c:F->Prop}{d:F->Prop}{e:F->Prop}{f:F->Prop}{g:F->R->Prop}{M:F->R->Prop}{X:Prop}(h:∃a,S a/\T a/\V a/\W a/\b a/\c a/\d a/\e a/\f a/\∃a1,g a a1/\M a a1)(k:∀a,(S a)->(T a)->(V a)->(W a)->(b a)->(c a)->(d a)->(e a)->(f a)->∀a1,(g a a1)->(M a a1)->X):X:=h.elim λa K=>(K.2.2.2.2.2.2.2.2.2).elim λa1 O=>k a K.1 K.2.1 K.2.2.1 K.2.2.2.1 K.2.2.2.2.1 K.2.2.2.2.2.1 K.2.2.2.2.2.2.1 K.2.2.2.2.2.2.2.1 K.2.2.2.2.2.2.2.2.1 a1 O.1 O.2
theorem N9{K M O R S T V W j l:Type}{m:K->Prop}{n:K->M->O->R->S->T->V->W->j->l->Prop}{o:K->M->O->R->S->T->V->W->j->l->Prop}{X:Prop}(h:∃a,m a/\∃a1,∃a2,∃b,∃c,∃d,∃e,∃f,∃g,∃i,n a a1 a2 b c d e f g i/\o a a1 a2 b c d e f g i)(k:∀a,(m a)->∀a1,∀a2,∀b,∀c,∀d,∀e,∀f,∀g,∀i,(n a a1 a2 b c d e f g i)->(o a a1 a2 b c d e f g i)->X):X:=h.elim λa p=>(p.2).elim λa1 q=>q.elim λa2 r=>r.elim λb s=>s.elim λc t=>t.elim λd u=>u.elim λe v=>v.elim λf w=>w.elim λg x=>x.elim λi F=>k a p.1 a1 a2 b c d e f g i F.1 F.2
theorem Ec{F K M O R S T V W j:Type}{m:F->K->M->O->R->S->T->V->W->j->Prop}{n:F->K->M->O->R->S->T->V->W->j->Prop}{o:F->K->M->O->R->S->T->V->W->j->Prop}{p:F->K->M->O->R->S->T->V->W->j->Prop}{q:F->K->M->O->R->S->T->V->W->j->Prop}{r:F->K->M->O->R->S->T->V->W->j->Prop}{X:Prop}(h:∃a,∃a1,∃a2,∃b,∃c,∃d,∃e,∃f,∃g,∃i,m a a1 a2 b c d e f g i/\n a a1 a2 b c d e f g i/\o a a1 a2 b c d e f g i/\p a a1 a2 b c d e f g i/\q a a1 a2 b c d e f g i/\r a a1 a2 b c d e f g i)(k:∀a,∀a1,∀a2,∀b,∀c,∀d,∀e,∀f,∀g,∀i,(m a a1 a2 b c d e f g i)->(n a a1 a2 b c d e f g i)->(o a a1 a2 b c d e f g i)->(p a a1 a2 b c d e f g i)->(q a a1 a2 b c d e f g i)->(r a a1 a2 b c d e f g i)->X):X:=h.elim λa s=>s.elim λa1 t=>t.elim λa2 u=>u.elim λb v=>v.elim λc w=>w.elim λd x=>x.elim λe y=>y.elim λf z=>z.elim λg A=>A.elim λi l=>k a a1 a2 b c d e f g i l.1 l.2.1 l.2.2.1 l.2.2.2.1 l.2.2.2.2.1 l.2.2.2.2.2
theorem rh{T V W p q r s t u v F K M O R:Type}{A:T->V->W->p->q->r->s->t->u->v->F->K->M->O->R->Prop}{B:T->V->W->p->q->r->s->t->u->v->F->K->M->O->R->Prop}{C:T->V->W->p->q->r->s->t->u->v->F->K->M->O->R->Prop}{X:Prop}(h:∃f,∃a1,∃a2,∃g,∃i,∃j,∃l,∃m,∃n,∃o,∃a,∃b,∃c,∃d,∃e,A f a1 a2 g i j l m n o a b c d e/\B f a1 a2 g i j l m n o a b c d e/\C f a1 a2 g i j l m n o a b c d e)(k:∀f,∀a1,∀a2,∀g,∀i,∀j,∀l,∀m,∀n,∀o,∀a,∀b,∀c,∀d,∀e,(A f a1 a2 g i j l m n o a b c d e)->(B f a1 a2 g i j l m n o a b c d e)->(C f a1 a2 g i j l m n o a b c d e)->X):X:=h.elim λf D=>D.elim λa1 E=>E.elim λa2 G=>G.elim λg H=>H.elim λi I=>I.elim λj J=>J.elim λl L=>L.elim λm N=>N.elim λn P=>P.elim λo Q=>Q.elim λa w=>w.elim λb x=>x.elim λc y=>y.elim λd z=>z.elim λe S=>k f a1 a2 g i j l m n o a b c d e S.1 S.2.1 S.2.2
theorem aH{F:Prop}{K:Prop}{M:Prop}(O:F)(R:K)(S:M):F/\K/\M:=⟨O,R,S⟩
theorem o6{K:Type}{M:Prop}{O:K->Prop}(R:M)(F:K)(S:O F):M/\∃F,O F:=⟨R,F,S⟩
theorem aq{K:Type}{M:K->Prop}{O:K->Prop}(F:K)(R:M F)(S:O F):∃F,M F/\O F:=⟨F,R,S⟩
theorem nv{K M:Type}{O:K->M->Prop}(F:K)(a1:M)(R:O F a1):∃F,∃a1,O F a1:=⟨F,a1,R⟩
theorem dE{F:Prop}{K:Prop}{M:Prop}{O:Prop}(R:F)(S:K)(T:M)(V:O):F/\K/\M/\O:=⟨R,S,T,V⟩
theorem xG{K:Type}{M:Prop}{O:K->Prop}{R:K->Prop}(S:M)(F:K)(T:O F)(V:R F):M/\∃F,O F/\R F:=⟨S,F,T,V⟩
theorem bG{K:Type}{M:K->Prop}{O:K->Prop}{R:K->Prop}(F:K)(S:M F)(T:O F)(V:R F):∃F,M F/\O F/\R F:=⟨F,S,T,V⟩
theorem de{K M:Type}{O:K->M->Prop}{R:K->M->Prop}(F:K)(a1:M)(S:O F a1)(T:R F a1):∃F,∃a1,O F a1/\R F a1:=⟨F,a1,S,T⟩
theorem xH{F:Prop}{K:Prop}{M:Prop}{O:Prop}{R:Prop}(S:F)(T:K)(V:M)(W:O)(X:R):F/\K/\M/\O/\R:=⟨S,T,V,W,X⟩
theorem eM{K:Type}{M:K->Prop}{O:K->Prop}{R:K->Prop}{S:K->Prop}(F:K)(T:M F)(V:O F)(W:R F)(X:S F):∃F,M F/\O F/\R F/\S F:=⟨F,T,V,W,X⟩
theorem hQ{K M:Type}{O:K->Prop}{R:K->Prop}{S:K->M->Prop}(F:K)(T:O F)(V:R F)(a1:M)(W:S F a1):∃F,O F/\R F/\∃a1,S F a1:=⟨F,T,V,a1,W⟩
theorem jJ{K M:Type}{O:K->Prop}{R:K->M->Prop}{S:K->M->Prop}(F:K)(T:O F)(a1:M)(V:R F a1)(W:S F a1):∃F,O F/\∃a1,R F a1/\S F a1:=⟨F,T,a1,V,W⟩
theorem cb{K M:Type}{O:K->M->Prop}{R:K->M->Prop}{S:K->M->Prop}(F:K)(a1:M)(T:O F a1)(V:R F a1)(W:S F a1):∃F,∃a1,O F a1/\R F a1/\S F a1:=⟨F,a1,T,V,W⟩
theorem c9{K M O:Type}{R:K->M->O->Prop}{S:K->M->O->Prop}(F:K)(a1:M)(a2:O)(T:R F a1 a2)(V:S F a1 a2):∃F,∃a1,∃a2,R F a1 a2/\S F a1 a2:=⟨F,a1,a2,T,V⟩
theorem t8{K M:Type}{O:Prop}{R:K->M->Prop}{S:K->M->Prop}{T:K->M->Prop}(V:O)(F:K)(a1:M)(W:R F a1)(X:S F a1)(a:T F a1):O/\∃F,∃a1,R F a1/\S F a1/\T F a1:=⟨V,F,a1,W,X,a⟩
theorem t9{K:Type}{M:K->Prop}{O:K->Prop}{R:K->Prop}{S:K->Prop}{T:K->Prop}(F:K)(V:M F)(W:O F)(X:R F)(a:S F)(b:T F):∃F,M F/\O F/\R F/\S F/\T F:=⟨F,V,W,X,a,b⟩
theorem fo{K M:Type}{O:K->M->Prop}{R:K->M->Prop}{S:K->M->Prop}{T:K->M->Prop}(F:K)(a1:M)(V:O F a1)(W:R F a1)(X:S F a1)(a:T F a1):∃F,∃a1,O F a1/\R F a1/\S F a1/\T F a1:=⟨F,a1,V,W,X,a⟩
theorem fK{K M O:Type}{R:K->M->O->Prop}{S:K->M->O->Prop}{T:K->M->O->Prop}(F:K)(a1:M)(a2:O)(V:R F a1 a2)(W:S F a1 a2)(X:T F a1 a2):∃F,∃a1,∃a2,R F a1 a2/\S F a1 a2/\T F a1 a2:=⟨F,a1,a2,V,W,X⟩
theorem xI{O R S T V:Type}{W:O->R->S->T->V->Prop}(F:O)(a1:R)(a2:S)(K:T)(M:V)(X:W F a1 a2 K M):∃F,∃a1,∃a2,∃K,∃M,W F a1 a2 K M:=⟨F,a1,a2,K,M,X⟩
theorem kx{K M O:Type}{R:K->M->O->Prop}{S:K->M->O->Prop}{T:K->M->O->Prop}{V:K->M->O->Prop}(F:K)(a1:M)(a2:O)(W:R F a1 a2)(X:S F a1 a2)(a:T F a1 a2)(b:V F a1 a2):∃F,∃a1,∃a2,R F a1 a2/\S F a1 a2/\T F a1 a2/\V F a1 a2:=⟨F,a1,a2,W,X,a,b⟩
theorem xJ{M O R S:Type}{T:M->O->R->S->Prop}{V:M->O->R->S->Prop}{W:M->O->R->S->Prop}(F:M)(a1:O)(a2:R)(K:S)(X:T F a1 a2 K)(a:V F a1 a2 K)(b:W F a1 a2 K):∃F,∃a1,∃a2,∃K,T F a1 a2 K/\V F a1 a2 K/\W F a1 a2 K:=⟨F,a1,a2,K,X,a,b⟩
theorem ri{K M:Type}{O:K->M->Prop}{R:K->M->Prop}{S:K->M->Prop}{T:K->M->Prop}{V:K->M->Prop}{W:K->M->Prop}(F:K)(a1:M)(X:O F a1)(a:R F a1)(b:S F a1)(c:T F a1)(d:V F a1)(e:W F a1):∃F,∃a1,O F a1/\R F a1/\S F a1/\T F a1/\V F a1/\W F a1:=⟨F,a1,X,a,b,c,d,e⟩
theorem nz{K M O:Type}{R:K->M->O->Prop}{S:K->M->O->Prop}{T:K->M->O->Prop}{V:K->M->O->Prop}{W:K->M->O->Prop}(F:K)(a1:M)(a2:O)(X:R F a1 a2)(a:S F a1 a2)(b:T F a1 a2)(c:V F a1 a2)(d:W F a1 a2):∃F,∃a1,∃a2,R F a1 a2/\S F a1 a2/\T F a1 a2/\V F a1 a2/\W F a1 a2:=⟨F,a1,a2,X,a,b,c,d⟩
theorem xK{M O R S:Type}{T:M->O->R->S->Prop}{V:M->O->R->S->Prop}{W:M->O->R->S->Prop}{X:M->O->R->S->Prop}(F:M)(a1:O)(a2:R)(K:S)(a:T F a1 a2 K)(b:V F a1 a2 K)(c:W F a1 a2 K)(d:X F a1 a2 K):∃F,∃a1,∃a2,∃K,T F a1 a2 K/\V F a1 a2 K/\W F a1 a2 K/\X F a1 a2 K:=⟨F,a1,a2,K,a,b,c,d⟩
theorem xL{K M O:Type}{R:K->M->O->Prop}{S:K->M->O->Prop}{T:K->M->O->Prop}{V:K->M->O->Prop}{W:K->M->O->Prop}{X:K->M->O->Prop}(F:K)(a1:M)(a2:O)(a:R F a1 a2)(b:S F a1 a2)(c:T F a1 a2)(d:V F a1 a2)(e:W F a1 a2)(f:X F a1 a2):∃F,∃a1,∃a2,R F a1 a2/\S F a1 a2/\T F a1 a2/\V F a1 a2/\W F a1 a2/\X F a1 a2:=⟨F,a1,a2,a,b,c,d,e,f⟩
theorem aN{F:Type _}{P:Prop}{x:F}(h:none=some x):P:=nomatch h
theorem cX{F:Type _}{P:Prop}{x:F}(h:some x=none):P:=nomatch h
theorem a9{P:Prop}(h:false=true):P:=nomatch h
theorem df{P:Prop}(h:true=false):P:=nomatch h
theorem dx{F:Type _}{P:Prop}{x:F}(h:x∈([]:List F)):P:=nomatch h
theorem mI{F:Type _}{P:Prop}{x:F}{l:List F}(h:x::l=[]):P:=nomatch h
@[elab_as_elim] theorem rE{F:Sort _}{a b:F}(h:a=b){P:F->Prop}(q:P b):P a:=h▸q
@[elab_as_elim] theorem rF{F:Sort _}{a b:F}(h:b=a){P:F->Prop}(q:P b):P a:=h▸q
@[elab_as_elim] theorem sE{F:Type _}{a b:F}(h:some a=some b){P:F->Prop}(q:P b):P a:=by injection h with h;exact h▸q
@[elab_as_elim] theorem sF{F:Type _}{a b:F}(h:some b=some a){P:F->Prop}(q:P b):P a:=by injection h with h;exact h▸q
theorem opE{F:Type _}{o:Option F}{P:Prop}(a:o=none->P)(b:∀x,o=some x->P):P:=by cases o;exact a rfl;exact b _ rfl
theorem Ed{d:Int}{k:Nat}(h:0<=d):(k:Int)+d=((d.toNat+k:Nat):Int):=by rw[oD,lw h];exact wf _ _
theorem n_5{d:Int}{n:Nat}(h:0<=d)(F:d<5)(e:n=d.toNat+1):n<=7:=e▸ah (dS (aO ((wg h).mpr F)) 1) (by decide)
theorem Oa{F:Int}(h:F<=3):F<1073741824:=jw h (by decide)
theorem acs{n x F:Nat}{d:Nat}(h:(x:Int)<(d:Int))(e:F=x+1):d - F<d - x:=e▸Nat.sub_succ_lt_self _ _ (aS.mp h)
theorem Ee{p k d i N:Nat}(M:1<=d)(O:d<=p)(F:p+k<=N)(K:i<k):p+i - d<N:=aV (fh _ _) (bn (gk K p) F)
theorem xM{a b N:Nat}:min a N - b<=N:=ah (fh _ _) (gI _ _)
theorem Oc{a w z:Nat}(h:a - w<=z):a - z<=w:=Nat.sub_le_iff_le_add.mpr (BH.mp h)
theorem Od{a N s i L:Nat}(F:a<N)(O:s<=L)(K:i<L+1 - s)(M:L<=N - a):a+(s+i)<=N:=ah (dy (dA (mK K)) a) (KP (aO F) M)
theorem Oe{a z:Nat}(h:z<a):a - (a - z)=z:=wh (aO h)
theorem Ef{n s d L:Nat}(e:L=n)(F:s<n)(K:d<=s):s - d=L - d - (L - s):=by rw[Nat.sub_right_comm,wh (e▸aO F)]
theorem Of{n s d L:Nat}(F:1<=d)(e:L=n)(M:s<n)(K:d<=s):L - d - (L - s)<s:=Ef e M K▸ly (bn F K) F
theorem Og{v D P:Nat}(h:v+(D - (D+v - P))=P):P - v<D+1:=wj (qu (h▸gJ D v▸dy (fh _ _) _))
theorem Oh{v D P:Nat}(h:v+(D - (D+v - P))=P):P - (P - v)=v:=wh (ah (cP _ _) (d8 h))
theorem Oi{i:Int}(h:0<=i):((i.toNat%2:Nat):Int)=i%2:=by rw[Int.natCast_emod,lw h];rfl
theorem Eg{n s:Nat}{P:Nat}(F:n<P)(h:s<257):n*256+(s - 1)<P*256:=bn (gk (wj (qu (dA h):s - 1<=255)) _) (Nat.succ_mul n 256▸Nat.mul_le_mul_right 256 F)
theorem Eh{a b x y:Nat}(F:y<257)(e:a*256+(x - 1)=b*256+(y - 1)):a<=b:=c6 λh=>gK _ (aV (cP (a*256) (x - 1)) (aV (d8 e) (Eg h F)))
theorem Oj{a b x y:Nat}(F:x<257)(K:y<257)(e:a*256+(x - 1)=b*256+(y - 1)):a=b:=fi (Eh K e) (Eh F e.symm)
theorem Ol{a x y:Nat}(F:0<x)(K:0<y)(e:a*256+(x - 1)=a*256+(y - 1)):x=y:=by rw[←mL F,Nat.add_left_cancel e,mL K]
theorem Ei{d m:Int}{k N:Nat}(h:0<=d)(F:d<m)(K:m.toNat+k<=N):d.toNat+k<N:=bn (wk ((wg h).mpr (by rw[lw (dT h (gM F))];exact F)) k) K
theorem xN{d m:Int}{k:Nat}(h:d<m)(e:m<=(k:Int)+1):d.toNat<=k:=sU.mpr (sV (fW h e))
theorem Om{k i m l D:Nat}(F:i<5)(K:k<=2+7*i+1)(e:l+1+m=D+1)(M:D<=4):k+1+m<=1000:=ah (jx (db (ah K (db (dy (mM 7 (aO F)) 2)))) (ah (gN m (l+1)) (ah (d8 e) (db M)))) (by decide)
theorem On{a m i D:Nat}(F:i<5)(K:a<=7*i)(e:m=D+1)(M:D<=4):a+m<=1000000:=e▸ah (jx (ah K (mM 7 (dA F))) (db M)) (by decide)
theorem Oo{k i m D:Nat}(F:k<=2+7*i+1)(e:m=D+1)(K:D<=4):k+1+m<=2+7*(i+1):=show k+1+m<=2+7*i+2+5 from jx (db F) (e▸db K)
theorem Op{l m D:Nat}(e:l+1+m=D+1)(F:D<=4):m<1000000:=aV (e▸gN m (l+1):m<=D+1) (aV (db F) (by decide))
theorem rj{i:Nat}(h:i<=5):2+7*i+1<=40:=ah (db (dy (mM 7 h) 2)) (by decide)
theorem ua{p F N:Nat}(h:p<=N):p+min F (N - p)<=N:=ah (dy (gI _ _) p) (d8 (BI h))
theorem Ej{p x d:Nat}(F:1<=d)(K:d<=p):p+x - d<p+x:=ly (bn F (ah K (cP p x))) F
theorem Ek{L d:Nat}(F:1<=d)(K:d<=L):L - d<L:=ly (bn F K) F
theorem rk{a d:Nat}(h:d<=a):(a:Int) - d=((a - d:Nat):Int):=(jy h).symm
theorem Oq{a N:Nat}{b:Nat}:min a N - b<=a:=ah (fh _ _) (eG _ _)
theorem ub{p w y:Nat}{v:Int}(e:v=y)(h:(p:Int) - v<=w):p - w<=y:=qu (bt.mp (by rw[oD,wf];exact KQ (e▸h)))
theorem act{L s:Nat}:L - s<L+1 - s\/L<s:=(BJ L s).symm.imp_left λh=>by rw[KR h];exact c7 _
theorem Os{L s:Nat}(h:s<=L):L - s<L+1 - s:=by rw[KR h];exact c7 _
theorem El{s i L:Nat}(F:s<=L)(h:i<L+1 - s):s+i<=L:=dA (gJ s i▸Nat.add_lt_of_lt_sub h)
theorem rm{x:Int}(h:-4611686018427387904<x/\x<4611686018427387904):-2^63<=x/\x<2^63:=⟨dT (by decide) (gM h.1),kf h.2 (by decide)⟩
theorem Ot{p s T:Nat}(F:0<s)(K:p+s<=T):T - (p+s)<T - p:=jA (bn (sW F) K) (sW F)
theorem Ou{p w:Nat}{z:Int}(h:z<=min (p:Int) w):(p:Int) - z=((((p:Int) - z).toNat:Nat):Int):=(lw (qv (dT h (Int.min_le_left _ _)))).symm
theorem Ov{p l:Nat}:((p:Int) - 1 - ((l:Int) - 1)).toNat=p - l:=by rw[show(p:Int) - 1 - ((l:Int) - 1)=(p:Int) - l by lia,sX]
theorem xO{k n i z:Nat}(F:k<=900)(K:n<=7)(M:i+(z+1)=n):k+3*i+2<=1000:=ah (dS (jx F (mM 3 (ah (M▸cP i _) K))) 2) (by decide)
theorem Em{v:Int}{y u T:Nat}(e:v=y)(h:v<u)(F:u<T):v.toNat<T:=by rw[e] at h ⊢;exact cZ (aS.mp h) F
theorem Ox{p w:Nat}{v:Int}(h:(p:Int) - v<=w):p - w<=v.toNat:=qu (bt.mp (by rw[oD];exact dT (KQ h) (by rw[wf];exact mN (KS v) _)))
theorem Oy{a c:Nat}(y:a<c):c - a=c - (a+1)+1:=by rw[Nat.sub_add_eq,mL (Nat.sub_pos_of_lt y)]
theorem Oz{s d L:Nat}(h:d<=L):(s:Int) - d+L=((s+L - d:Nat):Int):=by rw[jy (ah h (gN _ _)),oD,Int.sub_eq_add_neg,Int.add_right_comm];rfl
theorem OA{i:Int}{l:Nat}(F:0<=i)(K:i<100)(h:(l:Int)<=i.natAbs+2):l<=102:=by rw[BK F] at h;exact bt.mp (dT h (mN (gM K) 2))
theorem xP{k:Nat}(h:k<=100):0<=(k:Int)/\(k:Int)<1000000:=⟨b9 k,aS.mpr (aV h (by decide))⟩
theorem OC{L n s:Nat}(F:L=n)(K:s<n):L - s+min s L=n:=by rw[jC (F▸aO K),mL (F▸aO K),F]
theorem iY{a:Nat}(h:a<=100):a<1000000:=aV h (by decide)
theorem En{T p x f s:Nat}(F:T<=p+x)(K:x=f+1)(h:0<s):T<=p+s+f:=ah F (by rw[K,gJ f,←hB];exact dS (dy h p) f)
theorem OD{n c:Nat}(h:0<c):(n:Int)*256+((c:Int) - 1)=((n*256+(c - 1):Nat):Int):=by rw[oD,Int.natCast_mul,jy h];rfl
theorem Eo{p w:Nat}{v:Int}(z:¬(v≠-1/\(p:Int) - v<=w)):v<((p - w:Nat):Int):=(ab2 (v=-1)).elim (λe=>e▸fW (by decide) (b9 _)) λe=>fW (Int.lt_sub_left_of_add_lt (Int.add_lt_of_lt_sub_right (lz.mp λy=>z ⟨e,y⟩))) (sX p w▸KS _)
theorem rn{i:Int}{n l:Nat}(b:i<n)(F:n<=l)(K:l<=16777216):i<2^63:=fW b (dT (bt.mpr (ah F K)) (by decide))
theorem xQ{i:Int}{n l:Nat}(b:-(n:Int)<=i)(F:n<=l)(K:l<=16777216):-2^63<=i:=dT (Int.neg_le_neg (dT (bt.mpr (ah F K)) (by decide:((16777216:Nat):Int)<=2^63))) b
theorem OE{T p f:Nat}(F:T<=p+f)(z:(p:Int)<(T:Int)):f=f - 1+1:=(mL (KT λe=>by subst e;exact gK _ (bn (aS.mp z) F))).symm
theorem OF{l g m:Nat}(h:1<=l)(a:g=l - 1)(F:¬g<m):m<l:=aV (c6 F) (a▸ly h mO)
theorem OG{p T w:Nat}(F:p<T)(K:T<=100):max 0 ((p:Int) - w) - 1<1000000:=fW (KU _ (by decide)) (dT (Int.max_le.mpr ⟨b9 p,wm _ (b9 w)⟩) (bt.mpr (ah (aO F) (ah K (by decide)))))
theorem OH{p w:Nat}:-1000000<max 0 ((p:Int) - w) - 1:=fW (by decide:(-1000000:Int)<0 - 1) (BL (Int.le_max_left 0 _) 1)
theorem xR{p w:Nat}:max 0 ((p:Int) - w)=((p - w:Nat):Int):=by rw[Int.max_comm,←Int.ofNat_toNat,sX]
theorem OI{s g L:Nat}(h:s - 1<=g)(k:g<L):s<=L:=ah (Nat.le_add_of_sub_le h) k
theorem OJ{j n z:Nat}(F:0<j)(K:j<=n)(e:z=1):j - 1+z<=n:=by rw[e,mL F];exact K
theorem xS{x M:Int}{m:Nat}(e:M=m)(F:0<=x)(h:x<M):x.natAbs<m:=aS.mp (by rw[BK F,←e];exact h)
theorem OK{A x:Int}{k:Nat}(F:k<=1000)(b:x<=k)(c:A<2147483647):A+92959*(x+1)<1099511627776:=kf (KV c (KW (mN (dT b (bt.mpr F)) 1) (by decide))) (by decide)
theorem OL{A x:Int}{k:Nat}(F:k<=1000)(a:A<2147483648)(b:x<=k):A+40031*(x+1)+7<1099511627776:=kf (Int.add_lt_add_right (KV a (KW (mN (dT b (bt.mpr F)) 1) (by decide))) 7) (by decide)
theorem OM{a i:Nat}(F:i<5)(K:a<=7*i):(a:Int)<1073741824:=aS.mpr (aV (ah K (mM 7 (dA F))) (by decide))
theorem Ep{l T p:Nat}(F:1<=l)(h:l<=T - p):p+l<=T:=KP (aO (Nat.lt_of_sub_pos (bn F h))) h
theorem ON{k i:Nat}(F:i<5)(K:k<=2+7*i+1):k<=1000:=ah K (ah (rj (aO F)) (by decide))
theorem OO{a f s N:Nat}(F:0<s)(K:s<=f)(M:a+f<=N):a+1+(f - s)<=N:=ah (by rw[hB,gJ 1];exact dy (ly (bn F K) F) a) M
theorem OP{f s k:Nat}(F:0<s)(K:s<=f)(M:f<=k+1):f - s<=k:=dA (bn (ly (bn F K) F) M)
theorem Es{p:Nat}{z:Int}(h:1<=z):((p:Int) - z).toNat<=p:=sU.mpr (wm _ (dT (by decide) h))
theorem Et{a:Nat}(h:a<=901):-1000000<(a:Int)/\(a:Int)<1000000:=⟨fW (by decide) (b9 a),aS.mpr (aV h (by decide))⟩
theorem OQ{s a T:Nat}(h:s+a<=T)(F:¬s+a<T):a=T - s:=(Nat.sub_eq_of_eq_add' (fi (c6 F) h)).symm
theorem OR{w d:Nat}(h:w<=50)(l:(d:Int)<(w:Int)+2):d<100:=bn (aS.mp l:d<w+2) (ah (dS h 2) (by decide))
theorem OS{p u:Nat}{X:Int}(h:p<=u)(y:¬(p:Int)<=X):X<((min p u:Nat):Int):=(jC h).symm▸Int.lt_of_not_ge y
theorem OT{a b:Nat}(h:a<=10)(k:b<=10):(a:Int)+(b:Int)<1099511627776:=aS.mpr (aV (jx h k) (by decide):a+b<1099511627776)
theorem OU{w:Nat}(h:w<=50):(w:Int)+2<1073741824:=aS.mpr (aV (dS h 2) (by decide):w+2<1073741824)
theorem OV{T:Nat}(h:T<=100):(T:Int)+1<1073741824:=aS.mpr (aV (dS h 1) (by decide):T+1<1073741824)
theorem OW{p k:Nat}(h:2<=k):(p:Int)+max 1 (k:Int)=((p+k:Nat):Int):=by rw[show max 1 (k:Int)=k from KX (bt.mpr (d9 h))];rfl
theorem OX{a z i u:Nat}(h:a+i<=u)(e:z<i):a+1+z<=u:=ah (by rw[hB,gJ 1];exact dy e a) h
theorem OY{lo F:Int}(K:-4611686018427387904<lo/\lo<4611686018427387904)(M:-4611686018427387904<F/\F<4611686018427387904):-2^63<=lo - F/\lo - F<2^63:=⟨dT (by decide) (gM (KY K.1 M.2)),fW (KY K.2 M.1) (by decide)⟩
@[elab_as_elim] theorem xE{K F:Type _}{w:F}{f:K->F}{G:F->Prop}(h:∃t,w=f t)(k:∀t,G (f t)):G w:=h.elim λt e=>e▸k t
@[elab_as_elim] theorem xF{K F:Type _}{w:F}{f:K->F}{G:F->Prop}(h:∃t,f t=w)(k:∀t,G (f t)):G w:=h.elim λt e=>e▸k t
@[elab_as_elim] theorem xEA{K F:Type _}{w:F}{f:K->F}{P:K->Prop}{G:F->Prop}(h:∃t,w=f t/\P t)(k:∀t,P t->G (f t)):G w:=h.elim λt e=>e.1▸k t e.2
@[elab_as_elim] theorem rp{F:Type _}{w v:F}{P:Prop}{G:F->Prop}(h:w=v/\P)(k:P->G v):G w:=h.1▸k h.2
theorem lO{x:Int}(h:-1000000<x/\x<1000000):-4611686018427387904<x/\x<4611686018427387904:=⟨kf (by decide) h.1,kf h.2 (by decide)⟩
theorem xT{p k T j:Nat}(F:p+k<=T)(h:j+1<=k):p+j<T:=bn (gk h p) F
theorem Eu{d:Nat}(h:d<2):d=0\/d=1:=(fX (dA h)).imp qw.mp id
theorem uc{d:Nat}(h:d<3):d=0\/d=1\/d=2:=(fX (dA h)).elim (λh=>(Eu h).imp id .inl) λh=>.inr (.inr h)
theorem Ev{d:Nat}(h:d<4):d=0\/d=1\/d=2\/d=3:=(fX (dA h)).elim (λh=>(uc h).imp id λh=>h.imp id .inl) λh=>.inr (.inr (.inr h))
theorem jK{n b:Nat}(h:n<=b):(n:Int)<=(b:Int):=bt.mpr h
theorem jL{n b:Nat}(h:n<b):(n:Int)<(b:Int):=aS.mpr h
theorem ud{p w y:Nat}(h:y<w):p+1+y<=p+w:=by rw[hB,gJ 1];exact dy h p
theorem ab0{u m:Nat}(h:u+(m+200)+150<c):u+3+m+200<c:=aV (by rw[sY u 3 m,←hB u m 200];exact dy (show 203<=350 by decide) (u+m)) h
theorem abU{u m:Nat}(h:u+(m+6)+8<c):u+1+m+12<c:=aV (by rw[sY u 1 m,←hB u m 6];exact dy (show 13<=14 by decide) (u+m)) h
theorem abY{a u m:Nat}(h:a<=u+50):a+m+150<=u+m+200:=ah (dS (dS h m) 150) (d8 (by rw[sY u 50 m]))
theorem KO{lo F:Int}(h:lo<=F):F - lo=((F - lo).toNat:Int):=(lw (qv h)).symm
theorem KM{lo F:Int}(h:¬lo<F):0=((F - lo).toNat:Int):=congrArg sZ (Int.toNat_of_nonpos (Int.sub_nonpos_of_le (cz.mp h))).symm
theorem ab1{t p s i:Nat}(h:¬(t:Int)<(p:Int)+s)(F:i<s):p+i<t:=bn (gk F p) (bt.mp (cz.mp h))
theorem abV{v:Nat}(h:2<=v/\v<=10):0<=(v:Int) - 1/\(v:Int) - 1<=1000:=⟨qv (bt.mpr (ah (by decide) h.1)),dT (wm _ (by decide)) (bt.mpr (ah h.2 (by decide)))⟩
theorem abT{b:Nat}{z:Nat}(h:b<=z)(e:z=16777216):¬(b:Int)≥2^63:=lz.mpr (jw (bt.mpr (ah h (d8 e))) (by decide))
theorem n_3{d:Int}(F:0<=d)(K:d<3):d=0\/d=1\/d=2:=(KZ (sV (show d<2+1 from K))).elim (λh=>(KZ (sV (show d<1+1 from h))).elim (λh=>.inl (K0 (sV h) F)) λh=>.inr (.inl h)) λh=>.inr (.inr h)
theorem abX{w:Nat}(h:w<5)(a:¬(w:Int)=0)(b:¬(w:Int)=1)(c:¬(w:Int)=2):w=3\/w=4:=(fX (dA h)).elim (λh=>(Ev h).elim (λe=>(a (congrArg sZ e)).elim) λh=>h.elim (λe=>(b (congrArg sZ e)).elim) λh=>h.elim (λe=>(c (congrArg sZ e)).elim) .inl) .inr
theorem abZ{F p k c K:Int}(h:c<=F+p)(g:K<=c+k):K<=F+(p+k):=dT g (s5 F p k▸mN h k)
structure Nm where
 i:Nat
noncomputable def nb(a b:Nm):Bool:=aJ a.i b.i
theorem Nm.eq:∀ {a b:Nm},a.i=b.i->a=b
 |⟨_⟩,⟨_⟩,rfl=>rfl
theorem eO(h:nb a b=true):a=b:=Nm.eq (aC h)
theorem o7(a:Nm):nb a a=true:=qx a.i
theorem ue(h:nb a b=false):a≠b:=λe=>by rw[e,o7] at h;exact df h
noncomputable def er(x:Nm):List Nm->Bool
 |[]=>false
 |y::r=>(match nb y x with |true=>true |false=>er x r)
noncomputable def Nm.self:Nm:=⟨0⟩
noncomputable def Nm.ba:Nm:=⟨1⟩
noncomputable def Nm.size:Nm:=⟨2⟩
noncomputable def Nm.last:Nm:=⟨3⟩
noncomputable def Nm.before:Nm:=⟨4⟩
noncomputable def Nm.am:Nm:=⟨5⟩
noncomputable def Nm.number:Nm:=⟨6⟩
noncomputable def Nm.bM:Nm:=⟨7⟩
noncomputable def Nm.other:Nm:=⟨8⟩
noncomputable def Nm.least:Nm:=⟨9⟩
noncomputable def Nm.bX:Nm:=⟨10⟩
noncomputable def Nm.chain:Nm:=⟨11⟩
noncomputable def Nm.ahead:Nm:=⟨12⟩
noncomputable def Nm.«end»:Nm:=⟨13⟩
noncomputable def Nm.most:Nm:=⟨14⟩
noncomputable def Nm.limit:Nm:=⟨15⟩
noncomputable def Nm.known:Nm:=⟨16⟩
noncomputable def Nm.bb:Nm:=⟨17⟩
noncomputable def Nm.aQ:Nm:=⟨18⟩
noncomputable def Nm.row:Nm:=⟨19⟩
noncomputable def Nm.longest:Nm:=⟨20⟩
noncomputable def Nm.count:Nm:=⟨21⟩
noncomputable def Nm.roots:Nm:=⟨22⟩
noncomputable def Nm.smaller:Nm:=⟨23⟩
noncomputable def Nm.greater:Nm:=⟨24⟩
noncomputable def Nm.owner:Nm:=⟨25⟩
noncomputable def Nm.Ew:Nm:=⟨26⟩
noncomputable def Nm.steps:Nm:=⟨27⟩
noncomputable def Nm.low:Nm:=⟨28⟩
noncomputable def Nm.lQ:Nm:=⟨29⟩
noncomputable def Nm.iZ:Nm:=⟨30⟩
noncomputable def Nm.high:Nm:=⟨31⟩
noncomputable def Nm.lR:Nm:=⟨32⟩
noncomputable def Nm.i0:Nm:=⟨33⟩
noncomputable def Nm.rows:Nm:=⟨34⟩
noncomputable def Nm.tree:Nm:=⟨35⟩
noncomputable def Nm.way:Nm:=⟨36⟩
noncomputable def Nm.total:Nm:=⟨37⟩
noncomputable def Nm.ring:Nm:=⟨38⟩
noncomputable def Nm.spot:Nm:=⟨39⟩
noncomputable def Nm.told:Nm:=⟨40⟩
noncomputable def Nm.turn:Nm:=⟨41⟩
noncomputable def Nm.cL:Nm:=⟨42⟩
noncomputable def Nm.first:Nm:=⟨43⟩
noncomputable def Nm.second:Nm:=⟨44⟩
noncomputable def Nm.step:Nm:=⟨45⟩
noncomputable def Nm.rq:Nm:=⟨46⟩
noncomputable def Nm.made:Nm:=⟨47⟩
noncomputable def Nm.finder:Nm:=⟨48⟩
noncomputable def Nm.shortest:Nm:=⟨49⟩
noncomputable def Nm.length:Nm:=⟨50⟩
noncomputable def Nm.lS:Nm:=⟨51⟩
noncomputable def Nm.«at»:Nm:=⟨52⟩
noncomputable def Nm.cost:Nm:=⟨53⟩
noncomputable def Nm.there:Nm:=⟨54⟩
noncomputable def Nm.whole:Nm:=⟨55⟩
noncomputable def Nm.cm:Nm:=⟨56⟩
noncomputable def Nm.o8:Nm:=⟨57⟩
noncomputable def Nm.trail:Nm:=⟨58⟩
noncomputable def Nm.ways:Nm:=⟨59⟩
noncomputable def Nm.matches:Nm:=⟨60⟩
noncomputable def Nm.part:Nm:=⟨61⟩
noncomputable def Nm.taken:Nm:=⟨62⟩
noncomputable def Nm.value:Nm:=⟨63⟩
noncomputable def Nm.literal:Nm:=⟨64⟩
noncomputable def Nm.bit:Nm:=⟨65⟩
noncomputable def Nm.uf:Nm:=⟨66⟩
noncomputable def Nm.rr:Nm:=⟨67⟩
noncomputable def Nm.rx:Nm:=⟨68⟩
noncomputable def Nm.script:Nm:=⟨69⟩
noncomputable def Nm.under:Nm:=⟨70⟩
noncomputable def Nm.cell:Nm:=⟨71⟩
noncomputable def Nm.box:Nm:=⟨72⟩
noncomputable def Nm.many:Nm:=⟨73⟩
noncomputable def Nm.digit:Nm:=⟨74⟩
noncomputable def Nm.ry:Nm:=⟨75⟩
noncomputable def Nm.o9:Nm:=⟨76⟩
noncomputable def Nm.begin:Nm:=⟨77⟩
noncomputable def Nm.k:Nm:=⟨78⟩
noncomputable def Nm.text:Nm:=⟨79⟩
noncomputable def Nm.shape:Nm:=⟨80⟩
noncomputable def Nm.beyond:Nm:=⟨81⟩
noncomputable def Nm.due:Nm:=⟨82⟩
noncomputable def Nm.pair:Nm:=⟨83⟩
noncomputable def Nm.one:Nm:=⟨84⟩
noncomputable def Nm.call:Nm:=⟨85⟩
noncomputable def Nm.plain:Nm:=⟨86⟩
noncomputable def Nm.some:Nm:=⟨87⟩
noncomputable def Nm.narrow:Nm:=⟨88⟩
noncomputable def Nm.start:Nm:=⟨89⟩
noncomputable def Nm.key:Nm:=⟨90⟩
noncomputable def Nm.put:Nm:=⟨91⟩
noncomputable def Nm.newest:Nm:=⟨92⟩
noncomputable def Nm.enter:Nm:=⟨93⟩
noncomputable def Nm.rz:Nm:=⟨94⟩
noncomputable def Nm.alike:Nm:=⟨95⟩
noncomputable def Nm.jM:Nm:=⟨96⟩
noncomputable def Nm.«repeat»:Nm:=⟨97⟩
noncomputable def Nm.best:Nm:=⟨98⟩
noncomputable def Nm.candidates:Nm:=⟨99⟩
noncomputable def Nm.ky:Nm:=⟨100⟩
noncomputable def Nm.xU:Nm:=⟨101⟩
noncomputable def Nm.Ey:Nm:=⟨102⟩
noncomputable def Nm.clear:Nm:=⟨103⟩
noncomputable def Nm.«have»:Nm:=⟨104⟩
noncomputable def Nm.feed:Nm:=⟨105⟩
noncomputable def Nm.need:Nm:=⟨106⟩
noncomputable def Nm.copy:Nm:=⟨107⟩
noncomputable def Nm.xV:Nm:=⟨108⟩
noncomputable def Nm.cq:Nm:=⟨109⟩
noncomputable def Nm.«match»:Nm:=⟨110⟩
noncomputable def Nm.append:Nm:=⟨111⟩
noncomputable def Nm.get:Nm:=⟨112⟩
noncomputable def Nm.ug:Nm:=⟨113⟩
noncomputable def Nm.init:Nm:=⟨114⟩
noncomputable def Nm.f8:Nm:=⟨115⟩
noncomputable def Nm.pd:Nm:=⟨116⟩
set_option genCtorIdx true in
inductive Cl where
 |ix |lT |fL |fc |dQ |fq |jN |kz |i3
set_option genCtorIdx true in
inductive Ex where
 |ce |fu
structure Fn where
 i:Nat
noncomputable def Fn.xW:Fn:=⟨0⟩
noncomputable def Fn.Ez:Fn:=⟨1⟩
noncomputable def Fn.EA:Fn:=⟨2⟩
noncomputable def Fn.EB:Fn:=⟨3⟩
noncomputable def Fn.ED:Fn:=⟨4⟩
noncomputable def Fn.iy:Fn:=⟨5⟩
noncomputable def Fn.OZ:Fn:=⟨6⟩
noncomputable def Fn.rA:Fn:=⟨7⟩
noncomputable def Fn.lU:Fn:=⟨8⟩
noncomputable def Fn.pf:Fn:=⟨9⟩
noncomputable def Fn.lV:Fn:=⟨10⟩
noncomputable def Fn.rB:Fn:=⟨11⟩
noncomputable def Fn.rC:Fn:=⟨12⟩
noncomputable def Fn.O0:Fn:=⟨13⟩
noncomputable def Fn.rD:Fn:=⟨14⟩
noncomputable def Fn.xX:Fn:=⟨15⟩
noncomputable def Fn.EE:Fn:=⟨16⟩
noncomputable def Fn.EF:Fn:=⟨17⟩
noncomputable def Fn.uh:Fn:=⟨18⟩
noncomputable def Fn.xY:Fn:=⟨19⟩
noncomputable def Fn.EG:Fn:=⟨20⟩
noncomputable def Fn.EH:Fn:=⟨21⟩
noncomputable def Fn.EI:Fn:=⟨22⟩
noncomputable def Fn.rG:Fn:=⟨23⟩
noncomputable def Fn.xZ:Fn:=⟨24⟩
noncomputable def Fn.EK:Fn:=⟨25⟩
noncomputable def Fn.rH:Fn:=⟨26⟩
noncomputable def Fn.i4:Fn:=⟨27⟩
noncomputable def Fn.x7:Fn:=⟨28⟩
noncomputable def Fn.EL:Fn:=⟨29⟩
noncomputable def Fn.EM:Fn:=⟨30⟩
noncomputable def Fn.EN:Fn:=⟨31⟩
noncomputable def Fn.EO:Fn:=⟨32⟩
noncomputable def Fn.EP:Fn:=⟨33⟩
noncomputable def Fn.EQ:Fn:=⟨34⟩
noncomputable def Fn.ER:Fn:=⟨35⟩
noncomputable def Fn.ET:Fn:=⟨36⟩
noncomputable def Fn.EU:Fn:=⟨37⟩
noncomputable def Fn.EV:Fn:=⟨38⟩
noncomputable def Fn.EW:Fn:=⟨39⟩
noncomputable def Fn.step_size:Fn:=⟨40⟩
noncomputable def Fn.x8:Fn:=⟨41⟩
noncomputable def Fn.EX:Fn:=⟨42⟩
noncomputable def Fn.EY:Fn:=⟨43⟩
noncomputable def Fn.O1:Fn:=⟨44⟩
noncomputable def Fn.EZ:Fn:=⟨45⟩
noncomputable def Fn.E6:Fn:=⟨46⟩
noncomputable def Fn.x9:Fn:=⟨47⟩
noncomputable def Fn.E7:Fn:=⟨48⟩
noncomputable def Fn.least:Fn:=⟨49⟩
noncomputable def Fn.nA:Fn:=⟨50⟩
noncomputable def Fn.slot_of:Fn:=⟨51⟩
noncomputable def Fn.E8:Fn:=⟨52⟩
noncomputable def Fn.Fa:Fn:=⟨53⟩
noncomputable def Fn.Fb:Fn:=⟨54⟩
noncomputable def Fn.Fc:Fn:=⟨55⟩
noncomputable def Fn.bT:Fn:=⟨56⟩
noncomputable def Fn.ya:Fn:=⟨57⟩
noncomputable def Fn.ui:Fn:=⟨58⟩
noncomputable def Fn.ph:Fn:=⟨59⟩
noncomputable def Fn.yb:Fn:=⟨60⟩
noncomputable def Fn.rI:Fn:=⟨61⟩
noncomputable def Fn.yc:Fn:=⟨62⟩
noncomputable def Fn.uj:Fn:=⟨63⟩
noncomputable def Fn.lW:Fn:=⟨64⟩
noncomputable def Fn.uk:Fn:=⟨65⟩
noncomputable def Fn.yd:Fn:=⟨66⟩
noncomputable def Fn.rJ:Fn:=⟨67⟩
noncomputable def Fn.ul:Fn:=⟨68⟩
noncomputable def Fn.um:Fn:=⟨69⟩
noncomputable def Fn.rK:Fn:=⟨70⟩
noncomputable def Fn.law:Fn:=⟨71⟩
noncomputable def Fn.lam(j:Nat):Fn:=⟨Nat.add 100 j⟩
set_option genCtorIdx true in
inductive Bi where
 |len |min |max |abs |int |bytes |bytearray |tuple |range |str
set_option genCtorIdx true in
inductive V where
 |none |bool (b:Bool) |int (i:Int) |str (s:String) |txt (n:Nat) |bytes (b:List UInt8) |ref (a:Nat) |fM
abbrev M:=List (Nm×Option V)
set_option genCtorIdx true in
inductive O where
 |list (vs:List V) |tup (vs:List V) |dict (n:Nat) (f:Int->Option V) |bl (bs:List UInt8)
 |inst (c:Cl) (fs:M) |cell (v:Option V) |clos (f:Fn) (cs:List Nat) |range (lo hi st:Int)
 |ro (y:PySem.Obj) (vs:List V)
abbrev Hp:=Nat->Option O
@[irreducible] noncomputable def Hp.set(h:Hp)(a:Nat)(o:O):Hp:=λb=>if b=a then some o else h b
noncomputable def mget:M->Nm->Option V
 |[],_=>none
 |p::r,y=>match nb p.1 y with
  |true=>p.2
  |false=>mget r y
noncomputable def bu:M->Nm->V->M
 |[],x,v=>[(x,some v)]
 |p::r,x,v=>match nb p.1 x with
  |true=>(p.1,some v)::r
  |false=>p::bu r x v
noncomputable def m0:M:=[]
abbrev Cs:=List (Nm×Nat)
noncomputable def cF:Cs->Nm->Option Nat
 |[],_=>none
 |p::r,x=>match nb p.1 x with
  |true=>some p.2
  |false=>cF r x
set_option genCtorIdx true in
inductive jO where
 |add |sub |mul |fdiv |mod |pow |shr |band
set_option genCtorIdx true in
inductive iz where
 |eq |ne |lt |le |gt |ge |is |pi
inductive X where
 |none |bool (b:Bool) |int (i:Int) |str (s:String) |lX |absent
 |aa (x:Nm) |bh (x:Nm) |dF (x:Nm)
 |aD (f:Fn) (args:List X) |bN (c:Cl) (args:List X) |aB (b:Bi) (args:List X) |lY (x:Nm)
 |ay (o:X) (m:Nm) (args:List X) |jP (c:Cl) (args:List X)
 |aA (o:X) (f:Nm)
 |bin (op:jO) (a b:X) |neg (a:X) |not (a:X) |cmp (a:X) (op:iz) (b:X) |fN (a:X) (op:iz) (b:X) (op2:iz) (c:X)
 |and (a b:X) |or (a b:X) |ite (t a b:X)
 |sub (o i:X) |slice (o lo hi:X) |rev (o:X)
 |list (es:List X) |tup (es:List X) |jQ
 |comp (elt:X) (x:Nm) (it:X) (cond:X) |lam (i:Nat)
inductive S where
 |expr (e:X) |assign (x:Nm) (e:X) |setattr (o:X) (f:Nm) (e:X) |fv (o i e:X)
 |unpack (xs:List Nm) (e:X) |aug (x:Nm) (op:jO) (e:X) |i5 (o:X) (f:Nm) (op:jO) (e:X)
 |ite (c:X) (t e:List S) |while (c:X) (b:List S) |for (x:Nm) (it:X) (b:List S) |gU (x y:Nm) (it:X) (b:List S)
 |ret (e:X) |brk |cont |pass |raise (x:Ex) (msg:X) |try (b:List S) (x:Ex) (n:Nm) (k:Int)
structure aW where
 params:List Nm
 dG:List V:=[]
 vars:List Nm:=[]
 cB:List Nm:=[]
 frees:List Nm:=[]
 body:List S
abbrev PV:=V->Hp->M->Prop
abbrev PF:=Hp->M->Prop
abbrev PE:=Ex->Hp->M->Prop
abbrev bU:=Fn->List V->Hp->(V->Hp->Prop)->(Ex->Hp->Prop)->Prop
set_option genCtorIdx true in
inductive Kd where
 |aX (f:Fn) |prop (f:Fn) |const (v:V) |field |bad
inductive Rs where
 |val (v:V) |get (v:Option V) |new (o:O) |upd (a:Nat) (o:O) (v:V) |guard (p:Prop) (r:Rs) |ld (a:Nat) (K:O->Rs) |bad
def Rs.run:Rs->Hp->(V->Hp->Prop)->Prop
 |.val v,h,Q=>Q v h
 |.get v,h,Q=>∃w,v=.some w/\Q w h
 |.new o,h,Q=>∀a,h a=.none->Q (.ref a) (h.set a o)
 |.upd a o v,h,Q=>Q v (h.set a o)
 |.guard p r,h,Q=>p/\r.run h Q
 |.ld a K,h,Q=>∃o,h a=.some o/\(K o).run h Q
 |.bad,_,_=>False
noncomputable def un:Ex->Ex->Bool
 |.ce,.ce=>true
 |.fu,.fu=>true
 |_,_=>false
def br(b:Bool)(A B:Prop):Prop :=
 match b with
 |true=>A
 |false=>B
theorem O3(F:b=true->A)(K:b=false->B):br b A B:=by rcases b with ⟨⟩;exact K rfl;exact F rfl
@[irreducible] noncomputable def bB:Nat:=1000000
@[irreducible] noncomputable def iA:Nat:=2^4000
noncomputable def gV:V->Option Nat
 |.str s=>.some s.length
 |.txt n=>.some n
 |_=>.none
noncomputable def Fd(x y:Option Nat):Rs :=
 match x,y with
 |.some n,.some m=>.guard (n+m<=1000) (.val (.txt (n+m)))
 |_,_=>.bad
noncomputable def Fe(x y:O):Rs :=
 match x with
 |.list u=>(match y with
  |.list v=>.guard (u.length+v.length<=bB) (.new (.list (u++v)))
  |_=>.bad)
 |.bl u=>(match y with
  |.bl v=>.guard (u.length+v.length<=bB) (.new (.bl (u++v)))
  |_=>.bad)
 |_=>.bad
noncomputable def Ff(a b:V):Rs :=
 match a with
 |.int i=>(match b with
  |.int j=>.val (.int (i+j))
  |_=>.bad)
 |.bytes x=>(match b with
  |.bytes y=>.guard (x.length+y.length<=bB) (.val (.bytes (x++y)))
  |_=>.bad)
 |.ref x=>(match b with
  |.ref y=>.ld x λo=>.ld y λp=>Fe o p
  |_=>.bad)
 |_=>Fd (gV a) (gV b)
noncomputable def Fg(a b:V):Rs :=
 match b with
 |.int j=>(match a with
  |.int i=>.guard (i.natAbs<iA/\j.natAbs<iA) (.val (.int (i*j)))
  |.ref x=>.ld x λo=>(match o with
   |.list [v]=>.guard (0<=j/\j<=1000) (.new (.list (gm j.toNat v)))
   |_=>.bad)
  |_=>.bad)
 |_=>.bad
noncomputable def intOp(F:jO)(i j:Int):Rs :=
 match F with
 |.sub=>.val (.int (i - j))
 |.fdiv=>.guard (0<j/\j<1073741824) (.val (.int (i / j)))
 |.mod=>.guard (0<j) (.val (.int (i%j)))
 |.pow=>.guard (0<=j/\j<=100/\i.natAbs<iA) (.val (.int (i^j.toNat)))
 |.shr=>.guard (0<=j/\j<=1000) (.val (.int (i / 2^j.toNat)))
 |.band=>.guard (0<=i/\j=1) (.val (.int (i%2)))
 |_=>.bad
noncomputable def hU(a b:V)(f:Int->Int->Rs):Rs :=
 match a with
 |.int i=>(match b with
  |.int j=>f i j
  |_=>.bad)
 |_=>.bad
noncomputable def iS(F:jO)(a b:V):Rs :=
 match F with
 |.add=>Ff a b
 |.mul=>Fg a b
 |.sub=>hU a b (intOp .sub)
 |.fdiv=>hU a b (intOp .fdiv)
 |.mod=>hU a b (intOp .mod)
 |.pow=>hU a b (intOp .pow)
 |.shr=>hU a b (intOp .shr)
 |.band=>hU a b (intOp .band)
abbrev D0:=Bool×List Int
noncomputable def oB:List V->Option (List Int)
 |[]=>.some []
 |.int i::r=>(oB r).map (i::·)
 |_=>.none
noncomputable def itemOf(h:Hp):V->Option D0
 |.int i=>.some (false,[i])
 |.ref a=>(match h a with
  |.some (.tup b)=>(oB b).map λF=>(true,F)
  |_=>.none)
 |_=>.none
noncomputable def mJ(h:Hp):List V->Option (List D0)
 |[]=>.some []
 |v::r=>(itemOf h v).bind λd=>(mJ h r).map (d::·)
def rL(a b:V)(h:Hp)(Q:Bool->Prop):Prop :=
 match a with
 |.int i=>(match b with |.int j=>Q (decide (i=j)) |_=>False)
 |.bytes x=>(match b with |.bytes y=>Q (decide (x=y)) |_=>False)
 |.str x=>(match b with |.str y=>Q (decide (x=y)) |_=>False)
 |.ref x=>(match b with
  |.ref y=>∃o,h x=.some o/\∃c,h y=.some c/\(match o with
   |.tup u=>(match c with
    |.tup v=>∃p,oB u=.some p/\∃q,oB v=.some q/\Q (decide (p=q))
    |_=>False)
   |.list u=>(match c with
    |.list v=>∃p,mJ h u=.some p/\∃q,mJ h v=.some q/\Q (decide (p=q))
    |_=>False)
   |_=>False)
  |_=>False)
 |_=>False
def pj(a b:V)(P:Int->Int->Prop):Prop :=
 match a with
 |.int i=>(match b with
  |.int j=>P i j
  |_=>False)
 |_=>False
noncomputable def isNone:V->Bool
 |.none=>true
 |_=>false
def fO(F:iz)(h:Hp)(a b:V)(Q:Bool->Prop):Prop :=
 match F with
 |.eq=>rL a b h Q
 |.ne=>rL a b h λr=>Q (!r)
 |.lt=>pj a b λi j=>Q (decide (i<j))
 |.le=>pj a b λi j=>Q (decide (i<=j))
 |.gt=>pj a b λi j=>Q (decide (j<i))
 |.ge=>pj a b λi j=>Q (decide (j<=i))
 |.is=>isNone b=true/\Q (isNone a)
 |.pi=>isNone b=true/\Q (!isNone a)
noncomputable def lv(n:Nat)(i:Int):Option Nat:=kg i n
noncomputable def dr{F:Type}(l:List F)(i:Int):Option F:=(lv l.length i).bind (l[·]?)
noncomputable def aK(x:UInt8):V:=.int x.toNat
noncomputable def uq(o i:V):Rs :=
 match i with
 |.int i=>(match o with
  |.bytes b=>.get ((dr b i).map aK)
  |.fM=>.get (dr [V.int 2,V.int 3] i)
  |.ref a=>.ld a λo=>(match o with
   |.list c=>.get (dr c i)
   |.tup c=>.get (dr c i)
   |.bl b=>.get ((dr b i).map aK)
   |_=>.bad)
  |_=>.bad)
 |_=>.bad
noncomputable def bound(n dflt:Nat):V->Option Nat
 |.none=>.some dflt
 |.int i=>.some (bA n i)
 |_=>.none
noncomputable def cut{F:Type}(l:List F)(lo K:Nat):List F:=(l.take K).drop lo
noncomputable def rM{F:Type}(b:List F)(lo K:V)(f:List F->Rs):Rs :=
 match bound b.length 0 lo with
 |.some l=>(match bound b.length b.length K with
  |.some r=>f (cut b l r)
  |.none=>.bad)
 |.none=>.bad
noncomputable def ur(o lo F:V):Rs :=
 match o with
 |.bytes b=>rM b lo F λl=>.val (.bytes l)
 |.ref a=>.ld a λo=>(match o with
  |.list b=>rM b lo F λl=>.new (.list l)
  |.bl b=>rM b lo F λl=>.new (.bl l)
  |.ro _ b=>rM b lo F λl=>.new (.list l)
  |_=>.bad)
 |_=>.bad
noncomputable def gu(lo F st:Int):List V :=
 if st=1 then (eH (F - lo).toNat).map λ(k:Nat)=>.int (lo+(k:Int)) else (eH (lo - F).toNat).map λ(k:Nat)=>.int (lo - (k:Int))
inductive fP(h:Hp):V->List V->Prop
 |bytes (b:List UInt8):fP h (.bytes b) (b.map aK)
 |fM:fP h .fM [.int 2,.int 3]
 |list {a:Nat} {vs:List V}:h a=.some (.list vs)->fP h (.ref a) vs
 |tup {a:Nat} {vs:List V}:h a=.some (.tup vs)->fP h (.ref a) vs
 |range {a:Nat} {lo hi st:Int}:h a=.some (.range lo hi st)->fP h (.ref a) (gu lo hi st)
def gW(F:Hp)(v:V)(h:Hp):Prop :=
 match v with
 |.ref a=>h a=F a
 |_=>True
noncomputable def jR:List V->Option (List UInt8)
 |[]=>.some []
 |.int i::r=>if 0<=i/\i<256 then (jR r).map (dU i.toNat::·) else .none
 |_=>.none
noncomputable def rN(n:Nat):Nat:=if n=0 then 0 else iT n+1
def gw(i:Int):Prop:=-4611686018427387904<i/\i<4611686018427387904
noncomputable def a1(args:List V)(f:V->Rs):Rs :=
 match args with
 |[u]=>f u
 |_=>.bad
noncomputable def a2(args:List V)(f:V->V->Rs):Rs :=
 match args with
 |[u,v]=>f u v
 |_=>.bad
noncomputable def nB(a:V)(f:Int->Rs):Rs :=
 match a with
 |.int i=>f i
 |_=>.bad
noncomputable def Fh:V->Rs
 |.bytes x=>.val (.int x.length)
 |.ref a=>.ld a λo=>(match o with
  |.list x=>.val (.int x.length)
  |.bl x=>.val (.int x.length)
  |_=>.bad)
 |_=>.bad
noncomputable def Fi:V->Rs
 |.bytes x=>.val (.bytes x)
 |.ref a=>.ld a λo=>(match o with
  |.list x=>.get ((jR x).map .bytes)
  |.bl x=>.val (.bytes x)
  |_=>.bad)
 |_=>.bad
noncomputable def O4:V->Rs
 |.bool b=>.val (.int (if b=true then 1 else 0))
 |_=>.bad
noncomputable def O5:V->Rs
 |.ref a=>.ld a λo=>(match o with
  |.tup _=>.val (.ref a)
  |_=>.bad)
 |_=>.bad
noncomputable def Fj(args:List V):Rs :=
 match args with
 |[]=>.new (.bl [])
 |u::r=>(match u with
  |.bytes x=>(match r with
   |[]=>.new (.bl x)
   |_=>.bad)
  |_=>.bad)
noncomputable def Fk(args:List V):Rs :=
 match args with
 |[u]=>nB u λi=>.guard (gw i) (.new (.range 0 i 1))
 |[u,v]=>hU u v λi j=>.guard (gw i/\gw j) (.new (.range i j 1))
 |[u,v,w]=>hU u v λi j=>nB w λk=>.guard (k=-1/\gw i/\gw j) (.new (.range i j (-1)))
 |_=>.bad
noncomputable def kB(b:Bi)(args:List V):Rs :=
 match b with
 |.len=>a1 args Fh
 |.min=>a2 args λu v=>hU u v λi j=>.val (.int (min i j))
 |.max=>a2 args λu v=>hU u v λi j=>.val (.int (max i j))
 |.abs=>a1 args λu=>nB u λi=>.val (.int i.natAbs)
 |.int=>a1 args O4
 |.bytes=>a1 args Fi
 |.bytearray=>Fj args
 |.tuple=>a1 args O5
 |.range=>Fk args
 |.str=>a1 args λu=>nB u λi=>.guard (0<=i/\i<100) (.val (.txt 102))
inductive Bm where
 |iB (a:Nat) |i6 (a:Nat) |i7 (a:Nat) |kD (i:Int)
set_option genCtorIdx true in
inductive ye where
 |own (f:Fn) (a:Nat) |bi (m:Bm)
inductive eP(look:Cl->Nm->Kd):O->Nat->Nm->ye->Prop
 |own {c:Cl} {fs:M} {a:Nat} {m:Nm} {g:Fn}:look c m=.aX g->mget fs m=none->eP look (.inst c fs) a m (.own g a)
 |iB {l:List V} {a:Nat}:eP look (.list l) a .append (.bi (.iB a))
 |i6 {l:List UInt8} {a:Nat}:eP look (.bl l) a .append (.bi (.i6 a))
 |i7 {n:Nat} {f:Int->Option V} {a:Nat}:eP look (.dict n f) a .get (.bi (.i7 a))
noncomputable def i8(t:Bm)(args:List V):Rs :=
 match t with
 |.iB a=>a1 args λw=>.ld a λo=>(match o with
  |.list l=>.guard (l.length<bB) (.upd a (.list (l++[w])) .none)
  |_=>.bad)
 |.i6 a=>a1 args λw=>nB w λi=>.ld a λo=>(match o with
  |.bl l=>.guard (l.length<bB/\0<=i/\i<256) (.upd a (.bl (l++[dU i.toNat])) .none)
  |_=>.bad)
 |.i7 a=>a2 args λu d=>nB u λk=>.ld a λo=>(match o with
  |.dict n f=>.val ((f k).getD d)
  |_=>.bad)
 |.kD i=>(match args with
  |[]=>.val (.int (rN i.natAbs))
  |_=>.bad)
def nC(look:Cl->Nm->Kd)(v:V)(m:Nm)(h:Hp)(K:ye->Prop):Prop :=
 match v with
 |.int i=>m=.ug/\K (.bi (.kD i))
 |.ref a=>∃o,h a=some o/\∃t,eP look o a m t/\K t
 |_=>False
theorem O6(q:nC look v m h K):(∃i,v=.int i/\m=.ug/\K (.bi (.kD i)))\/∃a,v=.ref a/\∃o,h a=some o/\∃t,eP look o a m t/\K t:=by
 rcases v with _ |_<;>first |exact q.elim |exact .inl ⟨_,rfl,q⟩ |exact .inr ⟨_,rfl,q⟩
def methP(k:Kd)(P:Fn->Prop):Prop :=
 match k with
 |.aX f=>P f
 |_=>False
theorem Fm(q:methP k P):∃f,k=.aX f/\P f:=by
 rcases k with _ |_<;>first |exact q.elim |exact⟨_,rfl,q⟩
noncomputable def pk(o i v:V):Rs :=
 match i with
 |.int i=>(match o with
  |.ref a=>.ld a λo=>(match o with
   |.list c=>.guard (0<=i/\i<c.length) (.upd a (.list (c.set i.toNat v)) .none)
   |.dict n f=>.guard (n<bB) (.upd a (.dict (n+1) λk=>if k=i then .some v else f k) .none)
   |.bl b=>(match v with
    |.int x=>.guard (0<=i/\i<b.length/\0<=x/\x<256) (.upd a (.bl (b.set i.toNat (dU x.toNat))) .none)
    |_=>.bad)
   |_=>.bad)
  |_=>.bad)
 |_=>.bad
set_option genCtorIdx true in
inductive Fl where
 |next |brk |cont |ret (v:V)
def kE(cond:Hp->M->(Bool->Hp->M->Prop)->Prop)(F:Hp->M->(Fl->Hp->M->Prop)->Prop):Nat->Hp->M->(Fl->Hp->M->Prop)->Prop
 | 0,_,_,_=>False
 |n+1,h,m,Q=>cond h m λb h m=>br b
  (F h m λf h m=>match f with
   |.next=>kE cond F n h m Q
   |.cont=>kE cond F n h m Q
   |.brk=>Q .next h m
   |.ret v=>Q (.ret v) h m)
  (Q .next h m)
def hV(K:Hp->Prop)(F:V->Hp->M->(Fl->Hp->M->Prop)->Prop):List V->Hp->M->(Fl->Hp->M->Prop)->Prop
 |[],h,m,Q=>K h/\Q .next h m
 |v::a,h,m,Q=>K h/\F v h m λf h m=>match f with
   |.next=>hV K F a h m Q
   |.cont=>hV K F a h m Q
   |.brk=>Q .next h m
   |.ret v=>Q (.ret v) h m
def nD(K:Hp->Prop)(F:V->Hp->(Option V->Hp->Prop)->Prop):List V->Hp->List V->(List V->Hp->Prop)->Prop
 |[],h,a,Q=>K h/\Q a h
 |v::b,h,a,Q=>K h/\F v h λr h=>match r with
   |.some w=>a.length<bB/\nD K F b h (a++[w]) Q
   |.none=>nD K F b h a Q
def gX(c:Cs)(x:Nm)(v:V)(h:Hp)(m:M)(Q:Hp->M->Prop):Prop :=
 match cF c x with
 |.some a=>∃w,h a=.some (.cell w)/\Q (h.set a (.cell (.some v))) m
 |.none=>Q h (bu m x v)
def storeAll(c:Cs):List Nm->List V->Hp->M->(Hp->M->Prop)->Prop
 |[],[],h,m,Q=>Q h m
 |x::a,v::b,h,m,Q=>gX c x v h m λh m=>storeAll c a b h m Q
 |_,_,_,_,_=>False
noncomputable def bindAll:List Nm->List V->M->Option M
 |[],[],m=>.some m
 |x::a,v::b,m=>bindAll a b (bu m x v)
 |_,_,_=>.none
inductive iC(h:Hp):V->List V->Prop
 |list {a:Nat} {vs:List V}:h a=.some (.list vs)->iC h (.ref a) vs
 |tup {a:Nat} {vs:List V}:h a=.some (.tup vs)->iC h (.ref a) vs
def cD(v:V)(Q:Bool->Prop):Prop :=
 match v with
 |.bool b=>Q b
 |_=>False
noncomputable def nE(x:Nm):Option Int :=
 match nb x .f8 with
 |true=>.some (-1)
 |false=>(match nb x .pd with
  |true=>.some 2
  |false=>.none)
noncomputable def cells(c:Cs):List Nm->Option (List Nat)
 |[]=>.some []
 |x::r=>(cF c x).bind λa=>(cells c r).map (a::·)
set_option genCtorIdx true in
inductive At where
 |val (v:V) |prop (g:Fn)
inductive et(look:Cl->Nm->Kd):O->Nm->At->Prop
 |field {c:Cl} {fs:M} {f:Nm} {v:V}:look c f=.field->mget fs f=some v->et look (.inst c fs) f (.val v)
 |const {c:Cl} {fs:M} {f:Nm} {v:V}:look c f=.const v->mget fs f=none->et look (.inst c fs) f (.val v)
 |prop {c:Cl} {fs:M} {f:Nm} {g:Fn}:look c f=.prop g->et look (.inst c fs) f (.prop g)
def po(look:Cl->Nm->Kd)(v:V)(f:Nm)(h:Hp)(K:Nat->At->Prop):Prop :=
 match v with
 |.ref a=>∃o,h a=some o/\∃t,et look o f t/\K a t
 |_=>False
noncomputable def setAttr(look:Cl->Nm->Kd)(o:V)(f:Nm)(v:V):Rs :=
 match o with
 |.ref a=>.ld a λo=>(match o with
  |.inst b c=>(match look b f with
   |.field=>.guard (c.length<100) (.upd a (.inst b (bu c f v)) .none)
   |_=>.bad)
  |_=>.bad)
 |_=>.bad
def rO(v:V)(K:Int->Prop):Prop :=
 match v with
 |.int i=>K i
 |_=>False
def yf(v:Option V)(K:Int->Prop):Prop :=
 match v with
 |.some u=>rO u K
 |.none=>False
def Fo(t:At)(K:Int->Prop):Prop :=
 match t with
 |.val u=>rO u K
 |.prop _=>False
theorem ut(q:rO v K):∃i,v=.int i/\K i:=by
 rcases v with _ |_<;>first |exact q.elim |exact⟨_,rfl,q⟩
theorem O7(q:yf v K):∃i,v=.some (.int i)/\K i:=by
 induction v with
 |none=>exact q.elim
 |some u=>obtain⟨i,rfl,q⟩:=ut q;exact⟨i,rfl,q⟩
theorem O8(q:Fo t K):∃i,t=.val (.int i)/\K i:=by
 induction t with
 |prop _=>exact q.elim
 |val u=>obtain⟨i,rfl,q⟩:=ut q;exact⟨i,rfl,q⟩
theorem Fp(q:po look v f h K):∃a,v=.ref a/\∃o,h a=some o/\∃t,et look o f t/\K a t:=by
 rcases v with _ |_<;>first |exact q.elim |exact⟨_,rfl,q⟩
section
variable(look:Cl->Nm->Kd)(ac:Nat->List Nm)(C:bU)(c:Cs)
mutual
def ev:X->Hp->M->PV->PE->Prop
 |.none,h,m,Q,_=>Q .none h m
 |.absent,h,m,Q,_=>Q .none h m
 |.bool b,h,m,Q,_=>Q (.bool b) h m
 |.int i,h,m,Q,_=>Q (.int i) h m
 |.str s,h,m,Q,_=>Q (.str s) h m
 |.lX,h,m,Q,_=>Q (.bytes []) h m
 |.aa x,h,m,Q,_=>(match mget m x with |.some v=>Q v h m |.none=>False)
 |.bh x,h,m,Q,_=>(match cF c x with
  |.some a=>∃v,h a=.some (.cell (.some v))/\Q v h m
  |.none=>False)
 |.dF x,h,m,Q,_=>(match nE x with |.some i=>Q (.int i) h m |.none=>False)
 |.aD f args,h,m,Q,E=>cY args h m (λF h m=>C f F h (λv h=>Q v h m) λx h=>E x h m) E
 |.bN j args,h,m,Q,E=>methP (look j .init) λf=>cY args h m (λF h m=>∀a,h a=.none->C f (.ref a::F) (h.set a (.inst j m0)) (λv h=>v=.none/\Q (.ref a) h m) λx h=>E x h m) E
 |.aB b args,h,m,Q,E=>cY args h m (λF h m=>(kB b F).run h λv h=>Q v h m) E
 |.lY x,h,m,Q,E=>(match mget m x with
  |.some (.ref a)=>∃f k,h a=.some (.clos f k)/\C f (k.map .ref) h (λv h=>Q v h m) λx h=>E x h m
  |_=>False)
 |.ay o f args,h,m,Q,E=>ev o h m (λv h m=>nC look v f h λt=>match t with
  |.own f a=>cY args h m (λF h m=>C f (.ref a::F) h (λv h=>Q v h m) λx h=>E x h m) E
  |.bi t=>cY args h m (λF h m=>(i8 t F).run h λv h=>Q v h m) E) E
 |.jP j args,h,m,Q,E=>methP (look j .init) λf=>cY args h m (λF h m=>C f F h (λv h=>Q v h m) λx h=>E x h m) E
 |.aA o f,h,m,Q,E=>ev o h m (λv h m=>po look v f h λa t=>match t with
  |.val w=>Q w h m
  |.prop g=>C g [.ref a] h (λv h=>Q v h m) λK K=>False) E
 |.bin e a b,h,m,Q,E=>ev a h m (λv h m=>ev b h m (λw h m=>(iS e v w).run h λr h=>Q r h m) E) E
 |.neg a,h,m,Q,E=>ev a h m (λv h m=>match v with |.int i=>Q (.int (-i)) h m |_=>False) E
 |.not a,h,m,Q,E=>ev a h m (λv h m=>cD v λb=>Q (.bool (!b)) h m) E
 |.cmp a e b,h,m,Q,E=>ev a h m (λv h m=>ev b h m (λw h m=>fO e h v w λr=>Q (.bool r) h m) E) E
 |.fN a e b n d,h,m,Q,E=>ev a h m (λv h m=>ev b h m (λw h m=>fO e h v w λr=>br r
   (ev d h m (λu h m=>fO n h w u λr=>Q (.bool r) h m) E)
   (Q (.bool false) h m)) E) E
 |.and a b,h,m,Q,E=>ev a h m (λv h m=>cD v λr=>br r
   (ev b h m (λw h m=>cD w λr=>Q (.bool r) h m) E)
   (Q (.bool false) h m)) E
 |.or a b,h,m,Q,E=>ev a h m (λv h m=>cD v λr=>br r
   (Q (.bool true) h m)
   (ev b h m (λw h m=>cD w λr=>Q (.bool r) h m) E)) E
 |.ite t a b,h,m,Q,E=>ev t h m (λv h m=>cD v λr=>br r (ev a h m Q E) (ev b h m Q E)) E
 |.sub o i,h,m,Q,E=>ev o h m (λv h m=>ev i h m (λw h m=>(uq v w).run h λr h=>Q r h m) E) E
 |.slice o lo z,h,m,Q,E=>ev o h m (λv h m=>ev lo h m (λl h m=>ev z h m (λr h m=>(ur v l r).run h λu h=>Q u h m) E) E) E
 |.rev o,h,m,Q,E=>ev o h m (λv h m=>match v with
  |.ref a=>∃F,h a=.some (.list F)/\(Rs.new (.list F.reverse)).run h λu h=>Q u h m
  |_=>False) E
 |.list p,h,m,Q,E=>cY p h m (λF h m=>(Rs.new (.list F)).run h λu h=>Q u h m) E
 |.tup p,h,m,Q,E=>cY p h m (λF h m=>(Rs.new (.tup F)).run h λu h=>Q u h m) E
 |.jQ,h,m,Q,_=>(Rs.new (.dict 0 λK=>.none)).run h λu h=>Q u h m
 |.comp y x A cond,h,m,Q,E=>ev A h m (λv h m=>∃F,fP h v F/\nD (gW h v) (λw h q =>
    ev cond h (bu m0 x w) (λr h m=>cD r λb=>br b
     (ev y h m (λu h K=>q (.some u) h) λK K K=>False)
     (q .none h)) λK K K=>False) F h [] λO h=>(Rs.new (.list O)).run h λu h=>Q u h m) E
 |.lam i,h,m,Q,_=>(match cells c (ac i) with
  |.some k=>(Rs.new (.clos (.lam i) k)).run h λu h=>Q u h m
  |.none=>False)
def cY:List X->Hp->M->(List V->Hp->M->Prop)->PE->Prop
 |[],h,m,Q,_=>Q [] h m
 |e::r,h,m,Q,E=>ev e h m (λv h m=>cY r h m (λF h m=>Q (v::F) h m) E) E
end
mutual
def Fq:S->Hp->M->(Fl->Hp->M->Prop)->PE->Prop
 |.expr e,h,m,Q,E=>ev look ac C c e h m (λF h m=>Q .next h m) E
 |.assign x e,h,m,Q,E=>ev look ac C c e h m (λv h m=>gX c x v h m (Q .next)) E
 |.setattr o f e,h,m,Q,E=>ev look ac C c e h m (λv h m=>ev look ac C c o h m (λw h m =>
   (setAttr look w f v).run h λF h=>Q .next h m) E) E
 |.fv o i e,h,m,Q,E=>ev look ac C c e h m (λv h m=>ev look ac C c o h m (λw h m=>ev look ac C c i h m (λu h m =>
   (pk w u v).run h λF h=>Q .next h m) E) E) E
 |.unpack z e,h,m,Q,E=>ev look ac C c e h m (λv h m=>∃d,iC h v d/\storeAll c z d h m (Q .next)) E
 |.aug x g e,h,m,Q,E=>yf (mget m x) λi=>ev look ac C c e h m (λw h m=>rO w λj=>(iS g (.int i) (.int j)).run h λr h=>gX c x r h m (Q .next)) E
 |.i5 o f g e,h,m,Q,E=>ev look ac C c o h m (λo h m=>po look o f h λF t=>Fo t λi=>ev look ac C c e h m (λu h m=>rO u λj =>
   (iS g (.int i) (.int j)).run h λr h=>(setAttr look o f r).run h λF h=>Q .next h m) E) E
 |.ite t a b,h,m,Q,E=>ev look ac C c t h m (λv h m=>cD v λr=>br r (aE a h m Q E) (aE b h m Q E)) E
 |.while t b,h,m,Q,_=>∃n,kE (λh m q=>ev look ac C c t h m (λv h m=>cD v λr=>q r h m) λF F F=>False) (λh m q=>aE b h m q λF F F=>False) n h m Q
 |.for x l b,h,m,Q,E=>ev look ac C c l h m (λv h m=>∃d,fP h v d /\
   hV (gW h v) (λw h m q=>gX c x w h m λh m=>aE b h m q λF F F=>False) d h m Q) E
 |.gU x y l b,h,m,Q,E=>ev look ac C c l h m (λv h m=>∃d,fP h v d /\
   hV (gW h v) (λw h m q=>∃s,iC h w s/\storeAll c [x,y] s h m λh m=>aE b h m q λF F F=>False) d h m Q) E
 |.ret e,h,m,Q,E=>ev look ac C c e h m (λv h m=>Q (.ret v) h m) E
 |.brk,h,m,Q,_=>Q .brk h m
 |.cont,h,m,Q,_=>Q .cont h m
 |.pass,h,m,Q,_=>Q .next h m
 |.raise x p,h,m,_,E=>ev look ac C c p h m (λv h m=>(match gV v with |.some n=>n<=1000 |.none=>False)/\E x h m) E
 |.try b x n k,h,m,Q,_=>aE b h m Q λy h m=>(un y x=true/\(match mget m n with
   |.some (.int i)=>Q .next h (bu m n (.int (i+k)))
   |_=>False))
def aE:List S->Hp->M->(Fl->Hp->M->Prop)->PE->Prop
 |[],h,m,Q,_=>Q .next h m
 |s::r,h,m,Q,E=>Fq s h m (λf h m=>match f with
  |.next=>aE r h m Q E
  |.brk=>Q .brk h m
  |.cont=>Q .cont h m
  |.ret v=>Q (.ret v) h m) E
end
end
def nF(F:M):List Nm->Hp->Cs->(Hp->Cs->Prop)->Prop
 |[],h,c,Q=>Q h c
 |x::r,h,c,Q=>∀a,h a=.none->nF F r (h.set a (.cell (mget F x))) ((x,a)::c) Q
noncomputable def BC:List V->Option (List Nat)
 |[]=>.some []
 |.ref a::r=>(BC r).map (a::·)
 |_=>.none
noncomputable def uu:List Nm->List Nat->Option Cs
 |[],[]=>.some []
 |x::b,a::r=>(uu b r).map ((x,a)::·)
 |_,_=>.none
noncomputable def yg:Fl->V
 |.ret v=>v
 |_=>.none
abbrev fQ(Q:V->Hp->Prop)(f:Fl)(h:Hp)(_:M):Prop:=Q (yg f) h
abbrev fE(E:Ex->Hp->Prop)(x:Ex)(h:Hp)(_:M):Prop:=E x h
def i9(look:Cl->Nm->Kd)(ac:Nat->List Nm)(C:bU)(d:aW)(args:List V)(h:Hp)(Q:V->Hp->Prop)(E:Ex->Hp->Prop):Prop :=
 match d.frees with
 |[]=>(match bindAll d.params (args++d.dG.drop (d.dG.length+args.length - d.params.length)) m0 with
  |.some a=>(match d.cB with
   |[]=>aE look ac C [] d.body h (a++d.vars.map λx=>(x,none)) (fQ Q) (fE E)
   |cv=>nF a cv h [] λh c=>aE look ac C c d.body h ((a.map λp=>(p.1,match er p.1 cv with |true=>.none |false=>p.2))++d.vars.map λx=>(x,none)) (fQ Q) (fE E))
  |.none=>False)
 |fr=>(match (BC args).bind (uu fr) with
  |.some c=>aE look ac C c d.body h m0 (fQ Q) (fE E)
  |.none=>False)
noncomputable def Fs(look:Cl->Nm->Kd)(ac:Nat->List Nm)(prog:Fn->aW):Nat->bU
 | 0=>λF F F F F=>False
 |n+1=>λf args h Q E=>i9 look ac (Fs look ac prog n) (prog f) args h Q E
noncomputable def O9:List S :=
 [.ite (.cmp (.aa .size) .lt (.int 1))
  [.raise .ce (.str "a row of places needs one octet at least")]
  [],.setattr (.aa .self) .ba (.aa .ba),.setattr (.aa .self) .size (.aa .size),.setattr (.aa .self) .last .jQ,.setattr (.aa .self) .before (.bin .mul (.list [(.dF .f8)]) (.aB .len [(.aa .ba)]))]
noncomputable def O':aW:={params:=[.self,.ba,.size],body:=O9}
noncomputable def Pa:List S :=
 [.ite (.cmp (.bin .add (.aa .am) (.aA (.aa .self) .size)) .gt (.aB .len [(.aA (.aa .self) .ba)]))
  [.ret .none]
  [],.assign .number (.int 0),.for .bM (.slice (.aA (.aa .self) .ba) (.aa .am) (.bin .add (.aa .am) (.aA (.aa .self) .size)))
  [.assign .number (.bin .add (.bin .mul (.aa .number) (.int 256)) (.aa .bM))],.ret (.aa .number)]
noncomputable def Pb:aW:={params:=[.self,.am],vars:=[.number,.bM],body:=Pa}
noncomputable def Pc:List S :=
 [.assign .number (.ay (.aa .self) .key [(.aa .am)]),.ite (.cmp (.aa .number) .pi .none)
  [.fv (.aA (.aa .self) .before) (.aa .am) (.ay (.aA (.aa .self) .last) .get [(.aa .number),(.dF .f8)]),.fv (.aA (.aa .self) .last) (.aa .number) (.aa .am)]
  []]
noncomputable def Pd:aW:={params:=[.self,.am],vars:=[.number],body:=Pc}
noncomputable def Pe:List S :=
 [.assign .number (.ay (.aa .self) .key [(.aa .am)]),.ite (.cmp (.aa .number) .is .none)
  [.ret (.dF .f8)]
  [],.assign .other (.ay (.aA (.aa .self) .last) .get [(.aa .number),(.dF .f8)]),.while (.cmp (.aa .other) .ge (.aa .am))
  [.assign .other (.sub (.aA (.aa .self) .before) (.aa .other))],.ret (.aa .other)]
noncomputable def Pf:aW:={params:=[.self,.am],vars:=[.number,.other],body:=Pe}
noncomputable def Pg:List S :=
 [.ite (.cmp (.aa .least) .lt (.int 1))
  [.raise .ce (.str "a match has one octet at least")]
  [],.ite (.cmp (.aa .bX) .lt (.int 1))
  [.raise .ce (.str "a window has one octet at least")]
  [],.ite (.cmp (.aa .chain) .lt (.int 1))
  [.raise .ce (.str "one place at least has to be looked at")]
  [],.setattr (.aa .self) .ba (.aB .bytes [(.aa .ba)]),.setattr (.aa .self) .least (.aa .least),.setattr (.aa .self) .bX (.aa .bX),.setattr (.aa .self) .chain (.aa .chain),.setattr (.aa .self) .ahead (.int 0)]
noncomputable def Ph:aW:={params:=[.self,.ba,.least,.bX,.chain],body:=Pg}
noncomputable def Pj:List S :=
 [.ite (.or (.cmp (.aa .am) .lt (.aA (.aa .self) .ahead)) (.cmp (.aa .am) .ge (.aB .len [(.aA (.aa .self) .ba)])))
  [.raise .ce (.str "places are entered once each, ascending, within the octets")]
  [],.setattr (.aa .self) .ahead (.bin .add (.aa .am) (.int 1)),.expr (.ay (.aa .self) .enter [(.aa .am)])]
noncomputable def Pk:aW:={params:=[.self,.am],body:=Pj}
noncomputable def Pl:List S :=
 [.pass]
noncomputable def Pm:aW:={params:=[.self,.am],body:=Pl}
noncomputable def Pn:List S :=
 [.while (.cmp (.aA (.aa .self) .ahead) .lt (.aa .«end»))
  [.expr (.ay (.aa .self) .put [(.aA (.aa .self) .ahead)])]]
noncomputable def Po:aW:={params:=[.self,.«end»],body:=Pn}
noncomputable def Pp:List S :=
 [.ret (.aB .min [(.aa .most),(.bin .sub (.aB .len [(.aA (.aa .self) .ba)]) (.aa .am))])]
noncomputable def Pq:aW:={params:=[.self,.am,.most],body:=Pp}
noncomputable def Pr:List S :=
 [.ite (.not (.fN (.int 0) .le (.aa .other) .lt (.aa .am)))
  [.raise .ce (.str "octets are compared with those of a place ahead")]
  [],.ret (.ay (.aa .self) .alike [(.aa .am),(.aa .other),(.int 0),(.ay (.aa .self) .limit [(.aa .am),(.aa .most)])])]
noncomputable def Ps:aW:={params:=[.self,.am,.other,.most],body:=Pr}
noncomputable def Pu:List S :=
 [.assign .ba (.aA (.aa .self) .ba),.while (.and (.cmp (.aa .known) .lt (.aa .limit)) (.cmp (.sub (.aa .ba) (.bin .add (.aa .am) (.aa .known))) .eq (.sub (.aa .ba) (.bin .add (.aa .other) (.aa .known)))))
  [.aug .known .add (.int 1)],.ret (.aa .known)]
noncomputable def Pv:aW:={params:=[.self,.am,.other,.known,.limit],vars:=[.ba],body:=Pu}
noncomputable def Pw:List S :=
 [.ret (.and (.cmp (.aa .other) .ne (.dF .f8)) (.cmp (.bin .sub (.aa .am) (.aa .other)) .le (.aA (.aa .self) .bX)))]
noncomputable def Px:aW:={params:=[.self,.am,.other],body:=Pw}
noncomputable def Py:List S :=
 [.ite (.or (.cmp (.aa .bb) .lt (.int 1)) (.or (.cmp (.aa .bb) .gt (.aa .am)) (.cmp (.aa .bb) .gt (.aA (.aa .self) .bX))))
  [.ret (.int 0)]
  [],.ret (.ay (.aa .self) .length [(.aa .am),(.bin .sub (.aa .am) (.aa .bb)),(.aa .most)])]
noncomputable def Pz:aW:={params:=[.self,.am,.bb,.most],body:=Py}
noncomputable def PA:List S :=
 [.ret (.list [])]
noncomputable def PD:aW:={params:=[.self,.am,.most],body:=PA}
noncomputable def PG:List S :=
 [.assign .aQ (.ay (.aa .self) .cL [(.aa .am),(.aa .most)]),.ret (.ite (.cmp (.aB .len [(.aa .aQ)]) .gt (.int 0)) (.sub (.aa .aQ) (.neg (.int 1))) (.tup [(.int 0),(.int 0)]))]
noncomputable def PH:aW:={params:=[.self,.am,.most],vars:=[.aQ],body:=PG}
noncomputable def PI:List S :=
 [.expr (.jP .lT [(.aa .self),(.aa .ba),(.aa .least),(.aa .bX),(.aa .chain)]),.setattr (.aa .self) .row (.bN .ix [(.aA (.aa .self) .ba),(.aa .least)])]
noncomputable def PK:aW:={params:=[.self,.ba,.least,.bX,.chain],dG:=[.int 3,.int 32768,.int 32],body:=PI}
noncomputable def PM:List S :=
 [.expr (.ay (.aA (.aa .self) .row) .put [(.aa .am)])]
noncomputable def PN:aW:={params:=[.self,.am],body:=PM}
noncomputable def PO:List S :=
 [.assign .aQ (.list []),.assign .other (.ay (.aA (.aa .self) .row) .newest [(.aa .am)]),.while (.and (.ay (.aa .self) .jM [(.aa .am),(.aa .other)]) (.cmp (.aB .len [(.aa .aQ)]) .lt (.aA (.aa .self) .chain)))
  [.expr (.ay (.aa .aQ) .append [(.aa .other)]),.assign .other (.sub (.aA (.aA (.aa .self) .row) .before) (.aa .other))],.ret (.aa .aQ)]
noncomputable def PP:aW:={params:=[.self,.am],vars:=[.aQ,.other],body:=PO}
noncomputable def PQ:List S :=
 [.unpack [.aQ,.limit] (.tup [(.list []),(.ay (.aa .self) .limit [(.aa .am),(.aa .most)])]),.assign .longest (.bin .sub (.aA (.aa .self) .least) (.int 1)),.for .other (.ay (.aa .self) .candidates [(.aa .am)])
  [.ite (.cmp (.aa .longest) .ge (.aa .limit))
    [.brk]
    [],.ite (.cmp (.sub (.aA (.aa .self) .ba) (.bin .add (.aa .other) (.aa .longest))) .eq (.sub (.aA (.aa .self) .ba) (.bin .add (.aa .am) (.aa .longest))))
    [.assign .count (.ay (.aa .self) .alike [(.aa .am),(.aa .other),(.int 0),(.aa .limit)]),.ite (.cmp (.aa .count) .gt (.aa .longest))
     [.expr (.ay (.aa .aQ) .append [(.tup [(.aa .count),(.bin .sub (.aa .am) (.aa .other))])]),.assign .longest (.aa .count)]
     []]
    []],.ret (.aa .aQ)]
noncomputable def PR:aW:={params:=[.self,.am,.most],vars:=[.aQ,.limit,.longest,.other,.count],body:=PQ}
noncomputable def PT:List S :=
 [.expr (.jP .lT [(.aa .self),(.aa .ba),(.aa .least),(.aa .bX),(.aa .chain)]),.setattr (.aa .self) .row (.bN .ix [(.aA (.aa .self) .ba),(.aa .least)]),.setattr (.aa .self) .roots .jQ,.setattr (.aa .self) .smaller (.bin .mul (.list [(.dF .f8)]) (.aB .len [(.aA (.aa .self) .ba)])),.setattr (.aa .self) .greater (.bin .mul (.list [(.dF .f8)]) (.aB .len [(.aA (.aa .self) .ba)]))]
noncomputable def PU:aW:={params:=[.self,.ba,.least,.bX,.chain],dG:=[.int 3,.int 32768,.int 32],body:=PT}
noncomputable def PW:List S :=
 [.ite (.aa .Ew)
  [.fv (.aA (.aa .self) .greater) (.aa .owner) (.aa .am)]
  [.fv (.aA (.aa .self) .smaller) (.aa .owner) (.aa .am)]]
noncomputable def PX:aW:={params:=[.self,.owner,.Ew,.am],body:=PW}
noncomputable def PY:List S :=
 [.assign .number (.ay (.aA (.aa .self) .row) .key [(.aa .am)]),.ite (.cmp (.aa .number) .is .none)
  [.ret .none]
  [],.assign .other (.ay (.aA (.aa .self) .roots) .get [(.aa .number),(.dF .f8)]),.fv (.aA (.aa .self) .roots) (.aa .number) (.aa .am),.expr (.ay (.aa .self) .part [(.aa .am),(.aa .other)])]
noncomputable def PZ:aW:={params:=[.self,.am],vars:=[.number,.other],body:=PY}
noncomputable def P0:List S :=
 [.unpack [.limit,.steps] (.tup [(.bin .sub (.aB .len [(.aA (.aa .self) .ba)]) (.aa .am)),(.int 0)]),.unpack [.low,.lQ,.iZ] (.tup [(.aa .am),(.bool false),(.int 0)]),.unpack [.high,.lR,.i0] (.tup [(.aa .am),(.bool true),(.int 0)]),.while (.and (.ay (.aa .self) .jM [(.aa .am),(.aa .other)]) (.cmp (.aa .steps) .lt (.aA (.aa .self) .chain)))
  [.aug .steps .add (.int 1),.assign .count (.ay (.aa .self) .alike [(.aa .am),(.aa .other),(.aB .min [(.aa .iZ),(.aa .i0)]),(.aa .limit)]),.ite (.cmp (.aa .count) .eq (.aa .limit))
    [.expr (.ay (.aa .self) .ky [(.aa .low),(.aa .lQ),(.sub (.aA (.aa .self) .smaller) (.aa .other))]),.expr (.ay (.aa .self) .ky [(.aa .high),(.aa .lR),(.sub (.aA (.aa .self) .greater) (.aa .other))]),.ret .none]
    [],.ite (.cmp (.sub (.aA (.aa .self) .ba) (.bin .add (.aa .other) (.aa .count))) .lt (.sub (.aA (.aa .self) .ba) (.bin .add (.aa .am) (.aa .count))))
    [.expr (.ay (.aa .self) .ky [(.aa .low),(.aa .lQ),(.aa .other)]),.unpack [.low,.lQ,.iZ] (.tup [(.aa .other),(.bool true),(.aa .count)]),.assign .other (.sub (.aA (.aa .self) .greater) (.aa .other))]
    [.expr (.ay (.aa .self) .ky [(.aa .high),(.aa .lR),(.aa .other)]),.unpack [.high,.lR,.i0] (.tup [(.aa .other),(.bool false),(.aa .count)]),.assign .other (.sub (.aA (.aa .self) .smaller) (.aa .other))]],.expr (.ay (.aa .self) .ky [(.aa .low),(.aa .lQ),(.dF .f8)]),.expr (.ay (.aa .self) .ky [(.aa .high),(.aa .lR),(.dF .f8)])]
noncomputable def P1:aW:={params:=[.self,.am,.other],vars:=[.limit,.steps,.low,.lQ,.iZ,.high,.lR,.i0,.count],body:=P0}
noncomputable def P4:List S :=
 [.ite (.cmp (.aa .am) .lt (.aA (.aa .self) .ahead))
  [.raise .ce (.str "a tree is asked ahead of entering the place")]
  [],.assign .number (.ay (.aA (.aa .self) .row) .key [(.aa .am)]),.ite (.cmp (.aa .number) .is .none)
  [.ret (.list [])]
  [],.unpack [.aQ,.limit] (.tup [(.list []),(.ay (.aa .self) .limit [(.aa .am),(.aa .most)])]),.unpack [.longest,.steps] (.tup [(.bin .sub (.aA (.aa .self) .least) (.int 1)),(.int 0)]),.unpack [.iZ,.i0] (.tup [(.int 0),(.int 0)]),.assign .other (.ay (.aA (.aa .self) .roots) .get [(.aa .number),(.dF .f8)]),.while (.and (.ay (.aa .self) .jM [(.aa .am),(.aa .other)]) (.and (.cmp (.aa .steps) .lt (.aA (.aa .self) .chain)) (.cmp (.aa .longest) .lt (.aa .limit))))
  [.aug .steps .add (.int 1),.assign .count (.ay (.aa .self) .alike [(.aa .am),(.aa .other),(.aB .min [(.aa .iZ),(.aa .i0)]),(.aa .limit)]),.ite (.cmp (.aa .count) .gt (.aa .longest))
    [.expr (.ay (.aa .aQ) .append [(.tup [(.aa .count),(.bin .sub (.aa .am) (.aa .other))])]),.assign .longest (.aa .count)]
    [],.ite (.cmp (.aa .count) .lt (.aa .limit))
    [.ite (.cmp (.sub (.aA (.aa .self) .ba) (.bin .add (.aa .other) (.aa .count))) .lt (.sub (.aA (.aa .self) .ba) (.bin .add (.aa .am) (.aa .count))))
     [.unpack [.iZ,.other] (.tup [(.aa .count),(.sub (.aA (.aa .self) .greater) (.aa .other))])]
     [.unpack [.i0,.other] (.tup [(.aa .count),(.sub (.aA (.aa .self) .smaller) (.aa .other))])]]
    []],.ret (.aa .aQ)]
noncomputable def P6:aW:={params:=[.self,.am,.most],vars:=[.number,.aQ,.limit,.longest,.steps,.iZ,.i0,.other,.count],body:=P4}
noncomputable def P8:List S :=
 [.expr (.jP .lT [(.bh .self),(.aa .ba),(.sub (.aA (.bh .self) .xU) (.int 0)),(.aa .bX),(.aa .chain)]),.setattr (.bh .self) .rows (.comp (.bN .ix [(.aA (.bh .self) .ba),(.aa .size)]) .size (.aA (.bh .self) .xU) (.bool true)),.setattr (.bh .self) .tree (.bN .fc [(.aA (.bh .self) .ba),(.aA (.bh .self) .Ey),(.aa .bX),(.aa .chain)])]
noncomputable def P9:aW:={params:=[.self,.ba,.bX,.chain],dG:=[.int 32768,.int 32],cB:=[.self],body:=P8}
noncomputable def P':List S :=
 [.for .row (.aA (.aa .self) .rows)
  [.expr (.ay (.aa .row) .put [(.aa .am)])],.expr (.ay (.aA (.aa .self) .tree) .put [(.aa .am)])]
noncomputable def Qa:aW:={params:=[.self,.am],vars:=[.row],body:=P'}
noncomputable def Qb:List S :=
 [.assign .limit (.ay (.aa .self) .limit [(.aa .am),(.aa .most)]),.unpack [.aQ,.longest] (.tup [(.list []),(.bin .sub (.aA (.aa .self) .least) (.int 1))]),.for .row (.aA (.aa .self) .rows)
  [.assign .other (.ay (.aa .row) .newest [(.aa .am)]),.ite (.ay (.aa .self) .jM [(.aa .am),(.aa .other)])
    [.assign .count (.ay (.aa .self) .alike [(.aa .am),(.aa .other),(.int 0),(.aa .limit)]),.ite (.cmp (.aa .count) .gt (.aa .longest))
     [.expr (.ay (.aa .aQ) .append [(.tup [(.aa .count),(.bin .sub (.aa .am) (.aa .other))])]),.assign .longest (.aa .count)]
     []]
    []],.gU .count .bb (.ay (.aA (.aa .self) .tree) .cL [(.aa .am),(.aa .most)])
  [.ite (.cmp (.aa .count) .gt (.aa .longest))
    [.expr (.ay (.aa .aQ) .append [(.tup [(.aa .count),(.aa .bb)])]),.assign .longest (.aa .count)]
    []],.ret (.aa .aQ)]
noncomputable def Qc:aW:={params:=[.self,.am,.most],vars:=[.limit,.aQ,.longest,.row,.other,.count,.bb],body:=Qb}
noncomputable def Qd:List S :=
 [.ite (.cmp (.aa .way) .eq (.str "chain"))
  [.ret (.bN .fL [(.aa .ba),(.aa .least),(.aa .bX),(.aa .chain)])]
  [],.ite (.cmp (.aa .way) .eq (.str "tree"))
  [.ret (.bN .fc [(.aa .ba),(.aa .least),(.aa .bX),(.aa .chain)])]
  [],.ite (.cmp (.aa .way) .eq (.str "layers"))
  [.ret (.bN .dQ [(.aa .ba),(.aa .bX),(.aa .chain)])]
  [],.raise .ce (.str "a finder is chain, tree or layers")]
noncomputable def Qe:aW:={params:=[.way,.ba,.least,.bX,.chain],dG:=[.int 3,.int 32768,.int 32],body:=Qd}
noncomputable def Qf:List S :=
 [.ite (.cmp (.aa .size) .lt (.int 1))
  [.raise .ce (.str "a window has one octet at least")]
  [],.setattr (.aa .self) .size (.aa .size),.setattr (.aa .self) .total (.int 0),.expr (.ay (.aa .self) .clear [])]
noncomputable def Qg:aW:={params:=[.self,.size],body:=Qf}
noncomputable def Qh:List S :=
 [.setattr (.aa .self) .ring (.aB .bytearray []),.setattr (.aa .self) .spot (.int 0)]
noncomputable def Qi:aW:={params:=[.self],body:=Qh}
noncomputable def Qj:List S :=
 [.ret (.aB .len [(.aA (.aa .self) .ring)])]
noncomputable def Qk:aW:={params:=[.self],body:=Qj}
noncomputable def Ql:List S :=
 [.ite (.cmp (.aB .len [(.aA (.aa .self) .ring)]) .lt (.aA (.aa .self) .size))
  [.expr (.ay (.aA (.aa .self) .ring) .append [(.aa .bM)])]
  [.fv (.aA (.aa .self) .ring) (.aA (.aa .self) .spot) (.aa .bM)],.i5 (.aa .self) .spot .add (.int 1),.ite (.cmp (.aA (.aa .self) .spot) .eq (.aA (.aa .self) .size))
  [.setattr (.aa .self) .spot (.int 0)]
  [],.i5 (.aa .self) .total .add (.int 1)]
noncomputable def Qm:aW:={params:=[.self,.bM],body:=Ql}
noncomputable def Qn:List S :=
 [.for .bM (.aa .ba)
  [.expr (.ay (.aa .self) .put [(.aa .bM)])]]
noncomputable def Qo:aW:={params:=[.self,.ba],vars:=[.bM],body:=Qn}
noncomputable def Qp:List S :=
 [.ite (.or (.cmp (.aa .bb) .lt (.int 1)) (.cmp (.aa .bb) .gt (.aA (.aa .self) .«have»)))
  [.raise .fu (.bin .add (.bin .add (.bin .add (.bin .add (.str "a distance of ") (.aB .str [(.aa .bb)])) (.str " where ")) (.aB .str [(.aA (.aa .self) .«have»)])) (.str " octets are there"))]
  []]
noncomputable def Qq:aW:={params:=[.self,.bb],body:=Qp}
noncomputable def Qr:List S :=
 [.expr (.ay (.aa .self) .need [(.aa .bb)]),.assign .am (.bin .sub (.aA (.aa .self) .spot) (.aa .bb)),.ret (.sub (.aA (.aa .self) .ring) (.ite (.cmp (.aa .am) .ge (.int 0)) (.aa .am) (.bin .add (.aa .am) (.aB .len [(.aA (.aa .self) .ring)]))))]
noncomputable def Qs:aW:={params:=[.self,.bb],vars:=[.am],body:=Qr}
noncomputable def Qt:List S :=
 [.expr (.ay (.aa .self) .need [(.aa .bb)]),.assign .told (.aB .bytearray []),.for .turn (.aB .range [(.aa .length)])
  [.assign .bM (.ay (.aa .self) .«at» [(.aa .bb)]),.expr (.ay (.aa .self) .put [(.aa .bM)]),.expr (.ay (.aa .told) .append [(.aa .bM)])],.ret (.aB .bytes [(.aa .told)])]
noncomputable def Qu:aW:={params:=[.self,.bb,.length],vars:=[.told,.turn,.bM],body:=Qt}
noncomputable def Qv:List S :=
 [.ite (.cmp (.aA (.aa .self) .«have») .lt (.aA (.aa .self) .size))
  [.ret (.aB .bytes [(.aA (.aa .self) .ring)])]
  [],.ret (.aB .bytes [(.bin .add (.slice (.aA (.aa .self) .ring) (.aA (.aa .self) .spot) .absent) (.slice (.aA (.aa .self) .ring) .absent (.aA (.aa .self) .spot)))])]
noncomputable def Qw:aW:={params:=[.self],body:=Qv}
noncomputable def Qx:List S :=
 [.assign .cL (.ay (.aa .self) .ba []),.ret (.slice (.aa .cL) (.aB .max [(.int 0),(.bin .sub (.aB .len [(.aa .cL)]) (.aa .count))]) .absent)]
noncomputable def Qy:aW:={params:=[.self,.count],vars:=[.cL],body:=Qx}
noncomputable def Qz:List S :=
 [.gU .first .second (.aa .steps)
  [.ite (.and (.cmp (.aa .first) .eq (.int 0)) (.not (.fN (.int 0) .le (.aa .second) .le (.int 255))))
    [.raise .ce (.str "a literal that is no octet")]
    [],.ite (.and (.cmp (.aa .first) .ne (.int 0)) (.cmp (.aa .first) .lt (.dF .pd)))
    [.raise .ce (.str "a match of less than two octets")]
    []]]
noncomputable def QA:aW:={params:=[.steps],vars:=[.first,.second],body:=Qz}
noncomputable def QB:List S :=
 [.ite (.not (.fN (.int 0) .le (.aa .start) .le (.aB .len [(.aa .ba)])))
  [.raise .ce (.str "a parse begins outside of its octets")]
  [],.ite (.cmp (.aa .most) .lt (.int 0))
  [.raise .ce (.str "a longest match below 0")]
  []]
noncomputable def QC:aW:={params:=[.ba,.start,.most],body:=QB}
noncomputable def QD:List S :=
 [.ret (.ite (.cmp (.sub (.aa .step) (.int 0)) .eq (.int 0)) (.int 1) (.sub (.aa .step) (.int 0)))]
noncomputable def QE:aW:={params:=[.step],body:=QD}
noncomputable def QF:List S :=
 [.expr (.aD .EV [(.aa .steps)]),.assign .made (.aB .bytearray [(.aa .rq)]),.gU .first .second (.aa .steps)
  [.ite (.cmp (.aa .first) .eq (.int 0))
    [.expr (.ay (.aa .made) .append [(.aa .second)]),.cont]
    [],.ite (.not (.fN (.int 1) .le (.aa .second) .le (.aB .len [(.aa .made)])))
    [.raise .fu (.str "a match reaches back ahead of all octets")]
    [],.for .turn (.aB .range [(.aa .first)])
    [.expr (.ay (.aa .made) .append [(.sub (.aa .made) (.bin .sub (.aB .len [(.aa .made)]) (.aa .second)))])]],.ret (.aB .bytes [(.slice (.aa .made) (.aB .len [(.aa .rq)]) .absent)])]
noncomputable def QG:aW:={params:=[.steps,.rq],dG:=[.bytes []],vars:=[.made,.first,.second,.turn],body:=QF}
noncomputable def QH:List S :=
 [.setattr (.aa .self) .finder (.aa .finder),.setattr (.aa .self) .shortest (.aB .max [(.aA (.aa .finder) .least),(.dF .pd)]),.setattr (.aa .self) .known (.int 0)]
noncomputable def QI:aW:={params:=[.self,.finder],body:=QH}
noncomputable def QJ:List S :=
 [.while (.cmp (.aA (.aa .self) .known) .lt (.aa .am))
  [.expr (.ay (.aA (.aa .self) .finder) .put [(.aA (.aa .self) .known)]),.setattr (.aa .self) .known (.bin .add (.aA (.aa .self) .known) (.int 1))]]
noncomputable def QK:aW:={params:=[.self,.am],body:=QJ}
noncomputable def QL:List S :=
 [.expr (.ay (.aa .self) .xV [(.aa .am)]),.unpack [.length,.bb] (.ay (.aA (.aa .self) .finder) .best [(.aa .am),(.aa .most)]),.ret (.ite (.cmp (.aa .length) .lt (.aA (.aa .self) .shortest)) (.tup [(.int 0),(.int 0)]) (.tup [(.aa .length),(.aa .bb)]))]
noncomputable def QM:aW:={params:=[.self,.am,.most],vars:=[.length,.bb],body:=QL}
noncomputable def QN:List S :=
 [.expr (.ay (.bh .self) .xV [(.aa .am)]),.ret (.comp (.aa .«match») .«match» (.ay (.aA (.bh .self) .finder) .cL [(.aa .am),(.aa .most)]) (.cmp (.sub (.aa .«match») (.int 0)) .ge (.aA (.bh .self) .shortest)))]
noncomputable def QO:aW:={params:=[.self,.am,.most],cB:=[.self],body:=QN}
noncomputable def QP:List S :=
 [.setattr (.aa .self) .size (.aa .size),.setattr (.aa .self) .lS (.bin .add (.list [(.int 0)]) (.bin .mul (.list [.none]) (.aa .size))),.setattr (.aa .self) .steps (.bin .mul (.list [.none]) (.bin .add (.aa .size) (.int 1)))]
noncomputable def QQ:aW:={params:=[.self,.size],body:=QP}
noncomputable def QR:List S :=
 [.assign .there (.bin .add (.aa .«at») (.aD .step_size [(.aa .step)])),.ite (.cmp (.aa .there) .gt (.aA (.aa .self) .size))
  [.ret .none]
  [],.assign .whole (.bin .add (.sub (.aA (.aa .self) .lS) (.aa .«at»)) (.aa .cost)),.ite (.or (.cmp (.sub (.aA (.aa .self) .lS) (.aa .there)) .is .none) (.cmp (.aa .whole) .lt (.sub (.aA (.aa .self) .lS) (.aa .there))))
  [.fv (.aA (.aa .self) .lS) (.aa .there) (.aa .whole),.fv (.aA (.aa .self) .steps) (.aa .there) (.aa .step)]
  []]
noncomputable def QS:aW:={params:=[.self,.«at»,.step,.cost],vars:=[.there,.whole],body:=QR}
noncomputable def QT:List S :=
 [.unpack [.aQ,.«at»] (.tup [(.list []),(.aA (.aa .self) .size)]),.while (.cmp (.aa .«at») .gt (.int 0))
  [.expr (.ay (.aa .aQ) .append [(.sub (.aA (.aa .self) .steps) (.aa .«at»))]),.assign .«at» (.bin .sub (.aa .«at») (.aD .step_size [(.sub (.aA (.aa .self) .steps) (.aa .«at»))]))],.ret (.rev (.aa .aQ))]
noncomputable def QU:aW:={params:=[.self],vars:=[.aQ,.«at»],body:=QT}
noncomputable def QV:List S :=
 [.expr (.aD .EW [(.aa .ba),(.aa .start),(.aa .most)]),.unpack [.trail,.ways,.«at»] (.tup [(.bN .jN [(.aa .finder)]),(.bN .kz [(.bin .sub (.aB .len [(.aa .ba)]) (.aa .start))]),(.int 0)]),.while (.cmp (.aa .«at») .lt (.aA (.aa .ways) .size))
  [.assign .am (.bin .add (.aa .start) (.aa .«at»)),.assign .matches (.ay (.aa .trail) .cL [(.aa .am),(.aa .most)]),.expr (.ay (.aa .ways) .cq [(.aa .«at»),(.tup [(.int 0),(.sub (.aa .ba) (.aa .am))]),(.ay (.aa .cm) .literal [(.sub (.aa .ba) (.aa .am))])]),.gU .length .bb (.aa .matches)
    [.for .part (.aB .range [(.aA (.aa .trail) .shortest),(.bin .add (.aa .length) (.int 1))])
     [.expr (.ay (.aa .ways) .cq [(.aa .«at»),(.tup [(.aa .part),(.aa .bb)]),(.ay (.aa .cm) .«match» [(.aa .part),(.aa .bb)])])]],.assign .taken (.int 1),.ite (.and (.cmp (.aa .o8) .pi .none) (.and (.cmp (.aa .matches) .ne (.list [])) (.cmp (.sub (.sub (.aa .matches) (.neg (.int 1))) (.int 0)) .ge (.aa .o8))))
    [.assign .taken (.sub (.sub (.aa .matches) (.neg (.int 1))) (.int 0))]
    [],.assign .«at» (.bin .add (.aa .«at») (.aa .taken))],.ret (.ay (.aa .ways) .told [])]
noncomputable def QW:aW:={params:=[.ba,.start,.finder,.most,.cm,.o8],dG:=[.none],vars:=[.trail,.ways,.«at»,.am,.matches,.length,.bb,.part,.taken],body:=QV}
noncomputable def QX:List S :=
 [.assign .whole (.int 0),.gU .first .second (.aa .steps)
  [.assign .whole (.bin .add (.aa .whole) (.ite (.cmp (.aa .first) .eq (.int 0)) (.ay (.aa .cm) .literal [(.aa .second)]) (.ay (.aa .cm) .«match» [(.aa .first),(.aa .second)])))],.ret (.aa .whole)]
noncomputable def QY:aW:={params:=[.steps,.cm],vars:=[.whole,.first,.second],body:=QX}
noncomputable def QZ:List S :=
 [.ite (.cmp (.aa .value) .lt (.int 4))
  [.ret (.tup [(.aa .value),(.int 0)])]
  [],.assign .high (.bin .sub (.ay (.aa .value) .ug []) (.int 1)),.ret (.tup [(.bin .add (.bin .mul (.int 2) (.aa .high)) (.bin .band (.bin .shr (.aa .value) (.bin .sub (.aa .high) (.int 1))) (.int 1))),(.bin .sub (.aa .high) (.int 1))])]
noncomputable def Q0:aW:={params:=[.value],vars:=[.high],body:=QZ}
noncomputable def Q1:List S :=
 [.ite (.or (.cmp (.aa .literal) .lt (.int 0)) (.or (.cmp (.aa .«match») .lt (.int 0)) (.cmp (.aa .bit) .lt (.int 0))))
  [.raise .ce (.str "a price below 0")]
  [],.setattr (.aa .self) .uf (.aa .literal),.setattr (.aa .self) .rr (.aa .«match»),.setattr (.aa .self) .rx (.aa .bit)]
noncomputable def Q2:aW:={params:=[.self,.literal,.«match»,.bit],dG:=[.int 0],body:=Q1}
noncomputable def Q3:List S :=
 [.ret (.aA (.aa .self) .uf)]
noncomputable def Q4:aW:={params:=[.self,.bM],body:=Q3}
noncomputable def Q5:List S :=
 [.ite (.cmp (.aA (.aa .self) .rx) .eq (.int 0))
  [.ret (.aA (.aa .self) .rr)]
  [],.ret (.bin .add (.aA (.aa .self) .rr) (.bin .mul (.aA (.aa .self) .rx) (.bin .add (.sub (.aD .slot_of [(.bin .sub (.aa .length) (.dF .pd))]) (.int 1)) (.sub (.aD .slot_of [(.bin .sub (.aa .bb) (.int 1))]) (.int 1)))))]
noncomputable def Q6:aW:={params:=[.self,.length,.bb],body:=Q5}
noncomputable def Q7:List S :=
 [.unpack [.whole,.under] (.tup [(.int 0),(.int 0)]),.for .cell (.slice (.aa .script) .absent (.int 24))
  [.assign .whole (.bin .mod (.bin .add (.bin .mul (.aa .whole) (.int 1009)) (.aB .abs [(.aa .cell)])) (.bin .pow (.int 10) (.int 70))),.assign .under (.bin .add (.aa .under) (.aB .int [(.cmp (.aa .cell) .lt (.int 0))]))],.ret (.list [(.aB .max [(.int 0),(.bin .sub (.aa .whole) (.bin .pow (.int 10) (.int 18)))]),(.bin .mod (.bin .add (.bin .add (.aa .whole) (.bin .mul (.int 40031) (.aa .under))) (.int 37003)) (.int 2147483629)),(.int 0),(.sub (.list [(.int 4),(.int 14)]) (.aB .int [(.cmp (.aa .whole) .gt (.bin .pow (.int 10) (.int 6)))]))])]
noncomputable def Q8:aW:={params:=[.script],vars:=[.whole,.under,.cell],body:=Q7}
noncomputable def Q9:List S :=
 [.ite (.cmp (.sub (.aa .box) (.int 0)) .gt (.int 0))
  [.assign .digit (.bin .mod (.sub (.aa .box) (.int 0)) (.aa .many)),.fv (.aa .box) (.int 0) (.bin .fdiv (.sub (.aa .box) (.int 0)) (.aa .many)),.ret (.aa .digit)]
  [],.fv (.aa .box) (.int 2) (.bin .add (.sub (.aa .box) (.int 2)) (.int 1)),.assign .ry (.bin .mod (.bin .pow (.bin .add (.bin .add (.sub (.aa .box) (.int 1)) (.bin .mul (.int 40031) (.sub (.aa .box) (.int 2)))) (.int 7)) (.int 5)) (.int 2147483647)),.assign .ry (.bin .mod (.bin .pow (.bin .add (.aa .ry) (.bin .mul (.int 92959) (.sub (.aa .box) (.int 2)))) (.int 3)) (.int 2147483587)),.ret (.bin .mod (.bin .fdiv (.aa .ry) (.int 16)) (.aa .many))]
noncomputable def Q':aW:={params:=[.box,.many],vars:=[.digit,.ry],body:=Q9}
noncomputable def Ra:List S :=
 [.unpack [.o9,.aQ] (.tup [(.bin .add (.int 1) (.aD .bT [(.bh .box),(.int 3)])),(.list [])]),.for .turn (.aB .range [(.bin .add (.int 2) (.aD .bT [(.bh .box),(.int 4)]))])
  [.ite (.and (.cmp (.aa .aQ) .ne (.list [])) (.cmp (.aD .bT [(.bh .box),(.int 2)]) .eq (.int 0)))
    [.assign .begin (.aD .bT [(.bh .box),(.aB .len [(.aa .aQ)])]),.assign .aQ (.bin .add (.aa .aQ) (.slice (.aa .aQ) (.aa .begin) (.bin .add (.bin .add (.aa .begin) (.int 2)) (.aD .bT [(.bh .box),(.int 6)]))))]
    [.assign .aQ (.bin .add (.aa .aQ) (.comp (.sub (.list [(.int 0),(.int 255),(.int 1)]) (.aD .bT [(.bh .box),(.bh .o9)])) .k (.aB .range [(.bin .add (.int 1) (.aD .bT [(.bh .box),(.int 5)]))]) (.bool true)))]],.ite (.and (.cmp (.sub (.bh .box) (.int 3)) .gt (.int 4)) (.cmp (.aD .bT [(.bh .box),(.int 6)]) .eq (.int 5)))
  [.assign .aQ (.list [(.int 0),(.int 1),(.int 2),(.int 3),(.int 0),(.int 1),(.int 2),(.int 0),(.int 0),(.int 1),(.int 2),(.int 3)])]
  [],.ret (.aB .bytes [(.slice (.aa .aQ) .absent (.sub (.bh .box) (.int 3)))])]
noncomputable def Rb:aW:={params:=[.box],vars:=[.aQ,.turn,.begin],cB:=[.box,.o9],body:=Ra}
noncomputable def Rc:List S :=
 [.assign .aQ (.int 0),.while (.and (.cmp (.bin .add (.aa .am) (.aa .aQ)) .lt (.aB .len [(.aa .text)])) (.and (.cmp (.aa .aQ) .lt (.aa .most)) (.cmp (.sub (.aa .text) (.bin .add (.aa .am) (.aa .aQ))) .eq (.sub (.aa .text) (.bin .add (.aa .other) (.aa .aQ))))))
  [.assign .aQ (.bin .add (.aa .aQ) (.int 1))],.ret (.aa .aQ)]
noncomputable def Rd:aW:={params:=[.text,.am,.other,.most],vars:=[.aQ],body:=Rc}
noncomputable def Re:List S :=
 [.unpack [.shortest,.bX,.most] (.aa .shape),.assign .aQ (.list []),.for .other (.aB .range [(.bin .sub (.aa .am) (.int 1)),(.bin .sub (.aB .max [(.int 0),(.bin .sub (.aa .am) (.aa .bX))]) (.int 1)),(.neg (.int 1))])
  [.assign .length (.aD .ui [(.aa .text),(.aa .am),(.aa .other),(.aa .most)]),.ite (.and (.cmp (.aa .length) .ge (.aa .shortest)) (.or (.cmp (.aa .aQ) .eq (.list [])) (.cmp (.aa .length) .gt (.sub (.sub (.aa .aQ) (.neg (.int 1))) (.int 0)))))
    [.expr (.ay (.aa .aQ) .append [(.tup [(.aa .length),(.bin .sub (.aa .am) (.aa .other))])])]
    []],.ret (.aa .aQ)]
noncomputable def Rf:aW:={params:=[.text,.am,.shape],vars:=[.shortest,.bX,.most,.aQ,.other,.length],body:=Re}
noncomputable def Rh:List S :=
 [.assign .aQ (.int 0),.for .way (.aB .range [(.int 3)])
  [.try
    [.ite (.cmp (.aa .way) .eq (.int 0))
     [.expr (.ay (.aa .finder) .cL [(.aa .am),(.aa .most)])]
     [.expr (.ay (.aa .finder) .put [(.sub (.list [(.aa .am),(.aa .beyond)]) (.bin .sub (.aa .way) (.int 1)))])]]
    .ce .aQ 1],.ret (.cmp (.aa .aQ) .eq (.int 3))]
noncomputable def Ri:aW:={params:=[.finder,.am,.beyond,.most],vars:=[.aQ,.way],body:=Rh}
noncomputable def Rj:List S :=
 [.for .am (.aB .range [(.aB .len [(.aa .text)])])
  [.assign .due (.aD .ph [(.aa .text),(.aa .am),(.aa .shape)]),.ite (.cmp (.comp (.aB .tuple [(.aa .pair)]) .pair (.ay (.aa .finder) .cL [(.aa .am),(.sub (.aa .shape) (.int 2))]) (.bool true)) .ne (.aa .due))
    [.ret (.bool false)]
    [],.ite (.cmp (.aB .tuple [(.ay (.aa .finder) .best [(.aa .am),(.sub (.aa .shape) (.int 2))])]) .ne (.ite (.cmp (.aa .due) .ne (.list [])) (.sub (.aa .due) (.neg (.int 1))) (.tup [(.int 0),(.int 0)])))
    [.ret (.bool false)]
    [],.expr (.ay (.aa .finder) .put [(.aa .am)]),.ite (.not (.aD .yb [(.aa .finder),(.aa .am),(.aB .len [(.aa .text)]),(.sub (.aa .shape) (.int 2))]))
    [.ret (.bool false)]
    []],.ret (.bool true)]
noncomputable def Rk:aW:={params:=[.text,.finder,.shape],vars:=[.am,.due],body:=Rj}
noncomputable def Rm:List S :=
 [.for .am (.aB .range [(.aB .len [(.aa .text)])])
  [.ite (.cmp (.comp (.aB .tuple [(.aa .pair)]) .pair (.ay (.aa .finder) .cL [(.aa .am),(.sub (.aa .shape) (.int 2))]) (.bool true)) .ne (.slice (.aD .ph [(.aa .text),(.aa .am),(.aa .shape)]) .absent (.int 1)))
    [.ret (.bool false)]
    [],.expr (.ay (.aa .finder) .put [(.aa .am)])],.ret (.bool true)]
noncomputable def Rn:aW:={params:=[.text,.finder,.shape],vars:=[.am],body:=Rm}
noncomputable def Ro:List S :=
 [.assign .finder (.bN .fL [(.aa .text),(.sub (.aa .shape) (.int 0)),(.sub (.aa .shape) (.int 1)),(.bin .add (.aB .len [(.aa .text)]) (.int 1))]),.expr (.ay (.bh .finder) .rz [(.aB .len [(.aa .text)])]),.assign .am (.aD .bT [(.aa .box),(.aB .len [(.aa .text)])]),.ite (.cmp (.comp (.aB .tuple [(.aa .pair)]) .pair (.ay (.bh .finder) .cL [(.bh .am),(.sub (.aa .shape) (.int 2))]) (.bool true)) .ne (.aD .ph [(.aa .text),(.bh .am),(.aa .shape)]))
  [.ret (.bool false)]
  [],.for .bb (.list [(.int 0),(.int 1),(.aD .bT [(.aa .box),(.bin .add (.aB .len [(.aa .text)]) (.int 1))]),(.bh .am),(.bin .add (.bh .am) (.int 1))])
  [.assign .due (.ite (.fN (.int 1) .le (.aa .bb) .le (.aB .min [(.bh .am),(.sub (.aa .shape) (.int 1))])) (.aD .ui [(.aa .text),(.bh .am),(.bin .sub (.bh .am) (.aa .bb)),(.sub (.aa .shape) (.int 2))]) (.int 0)),.ite (.cmp (.ay (.bh .finder) .«repeat» [(.bh .am),(.aa .bb),(.sub (.aa .shape) (.int 2))]) .ne (.aa .due))
    [.ret (.bool false)]
    []],.ret (.aD .lW [(.lam 0),(.lam 1)])]
noncomputable def Rp:aW:={params:=[.box,.text,.shape],vars:=[.bb,.due],cB:=[.am,.finder],body:=Ro}
noncomputable def Rq:List S :=
 [.assign .aQ (.int 0),.for .call (.list [(.aa .one),(.aa .other)])
  [.try
    [.expr (.lY .call)]
    .ce .aQ 1],.ret (.cmp (.aa .aQ) .eq (.int 2))]
noncomputable def Rr:aW:={params:=[.one,.other],vars:=[.aQ,.call],body:=Rq}
noncomputable def Rt:List S :=
 [.ite (.cmp (.aa .way) .eq (.int 0))
  [.ret (.aD .lW [(.lam 2),(.lam 3)])]
  [],.ite (.cmp (.aa .way) .eq (.int 1))
  [.ret (.aD .lW [(.lam 4),(.lam 5)])]
  [],.ite (.cmp (.aa .way) .eq (.int 2))
  [.ret (.aD .lW [(.lam 6),(.lam 7)])]
  [],.assign .told (.ay (.aD .i4 [(.sub (.list [(.str "layers"),(.str "chain")]) (.bin .mod (.aa .way) (.int 2))),(.bh .text),(.int 2),(.int 40),(.int 9)]) .cL [(.int 0),(.int 9)]),.ret (.and (.cmp (.aa .told) .eq (.list [])) (.aD .lW [(.lam 8),(.lam 9)]))]
noncomputable def Ru:aW:={params:=[.text,.way],vars:=[.told],cB:=[.text],body:=Rt}
noncomputable def Rv:List S :=
 [.assign .told .lX,.gU .length .other (.aa .steps)
  [.ite (.cmp (.aa .length) .eq (.int 0))
    [.expr (.ay (.aa .ring) .put [(.aa .other)]),.assign .told (.bin .add (.aa .told) (.aB .bytes [(.list [(.aa .other)])]))]
    [.assign .told (.bin .add (.aa .told) (.ay (.aa .ring) .copy [(.aa .other),(.aa .length)]))]],.ret (.aa .told)]
noncomputable def Rw:aW:={params:=[.steps,.ring],vars:=[.told,.length,.other],body:=Rv}
noncomputable def Rx:List S :=
 [.unpack [.shortest,.bX,.most] (.aa .shape),.assign .chain (.bin .add (.aB .len [(.aa .text)]) (.int 1)),.assign .steps (.aD .least [(.aa .text),(.aa .start),(.bN .fL [(.aa .text),(.aa .shortest),(.aa .bX),(.aa .chain)]),(.aa .most),(.aa .cm)]),.ite (.cmp (.aD .least [(.aa .text),(.aa .start),(.aD .i4 [(.str "tree"),(.aa .text),(.aa .shortest),(.aa .bX),(.aa .chain)]),(.aa .most),(.aa .cm)]) .ne (.aa .steps))
  [.ret (.bool false)]
  [],.ite (.and (.cmp (.aa .shortest) .eq (.int 2)) (.cmp (.aD .least [(.aa .text),(.aa .start),(.bN .dQ [(.aa .text),(.aa .bX),(.aa .chain)]),(.aa .most),(.aa .cm)]) .ne (.aa .steps)))
  [.ret (.bool false)]
  [],.assign .ring (.bN .fq [(.aa .bX)]),.expr (.ay (.aa .ring) .feed [(.slice (.aa .text) .absent (.aa .start))]),.ite (.or (.cmp (.aD .yd [(.aa .steps),(.aa .ring)]) .ne (.slice (.aa .text) (.aa .start) .absent)) (.cmp (.aD .x8 [(.aa .steps),(.slice (.aa .text) .absent (.aa .start))]) .ne (.slice (.aa .text) (.aa .start) .absent)))
  [.ret (.bool false)]
  [],.unpack [.taken,.am] (.tup [(.list []),(.aa .start)]),.while (.cmp (.aa .am) .lt (.aB .len [(.aa .text)]))
  [.assign .due (.aD .ph [(.aa .text),(.aa .am),(.aa .shape)]),.expr (.ay (.aa .taken) .append [(.ite (.cmp (.aa .due) .ne (.list [])) (.sub (.aa .due) (.neg (.int 1))) (.tup [(.int 0),(.sub (.aa .text) (.aa .am))]))]),.assign .am (.bin .add (.aa .am) (.aB .max [(.int 1),(.sub (.sub (.aa .taken) (.neg (.int 1))) (.int 0))]))],.assign .cost (.aD .nA [(.aa .steps),(.aa .cm)]),.ret (.and (.cmp (.aa .cost) .le (.aD .nA [(.comp (.tup [(.int 0),(.aa .bM)]) .bM (.slice (.aa .text) (.aa .start) .absent) (.bool true)),(.aa .cm)])) (.cmp (.aa .cost) .le (.aD .nA [(.aa .taken),(.aa .cm)])))]
noncomputable def Ry:aW:={params:=[.text,.start,.shape,.cm],vars:=[.shortest,.bX,.most,.chain,.steps,.ring,.taken,.am,.due,.cost],body:=Rx}
noncomputable def Rz:List S :=
 [.assign .told (.list []),.for .k (.aB .range [(.aa .length)])
  [.expr (.ay (.aa .told) .append [(.sub (.aa .plain) (.bin .sub (.aB .len [(.aa .plain)]) (.aa .bb)))]),.assign .plain (.slice (.bin .add (.aa .plain) (.slice (.aa .told) (.neg (.int 1)) .absent)) (.neg (.aa .size)) .absent)],.ret (.tup [(.aa .plain),(.aa .told)])]
noncomputable def RA:aW:={params:=[.plain,.bb,.length,.size],vars:=[.told,.k],body:=Rz}
noncomputable def RB:List S :=
 [.assign .aQ (.int 0),.try
  [.expr (.ay (.aa .ring) .«at» [(.aa .bb)])]
  .fu .aQ 1,.try
  [.expr (.ay (.aa .ring) .copy [(.aa .bb),(.aa .length)])]
  .fu .aQ 1,.ret (.cmp (.aa .aQ) .eq (.int 2))]
noncomputable def RC:aW:={params:=[.ring,.bb,.length],vars:=[.aQ],body:=RB}
noncomputable def RD:List S :=
 [.assign .size (.bin .add (.int 1) (.aD .bT [(.aa .box),(.int 9)])),.unpack [.ring,.plain,.total] (.tup [(.bN .fq [(.aa .size)]),(.list []),(.int 0)]),.for .turn (.aB .range [(.bin .fdiv (.sub (.aa .box) (.int 3)) (.int 2))])
  [.unpack [.way,.bM,.bb] (.tup [(.aD .bT [(.aa .box),(.int 7)]),(.aD .bT [(.aa .box),(.int 256)]),(.aD .bT [(.aa .box),(.bin .add (.aa .size) (.int 2))])]),.ite (.cmp (.aa .way) .lt (.int 3))
    [.assign .some (.sub (.list [(.list [(.aa .bM)]),(.list [(.aa .bM),(.bin .sub (.int 255) (.aa .bM))]),(.list [(.int 7),(.aa .bM),(.int 0),(.int 255)])]) (.aa .way)),.expr (.ay (.aa .ring) .feed [(.aB .bytes [(.aa .some)])]),.unpack [.plain,.total] (.tup [(.slice (.bin .add (.aa .plain) (.aa .some)) (.neg (.aa .size)) .absent),(.bin .add (.aa .total) (.aB .len [(.aa .some)]))])]
    [.ite (.and (.cmp (.aa .way) .eq (.int 6)) (.cmp (.bin .mod (.aa .bM) (.int 3)) .eq (.int 0)))
     [.expr (.ay (.aa .ring) .clear []),.assign .plain (.list [])]
     [.ite (.not (.fN (.int 1) .le (.aa .bb) .le (.aB .len [(.aa .plain)])))
       [.ite (.not (.aD .um [(.aa .ring),(.aa .bb),(.bin .mod (.aa .bM) (.int 5))]))
        [.ret (.bool false)]
        []]
       [.ite (.cmp (.ay (.aa .ring) .«at» [(.aa .bb)]) .ne (.sub (.aa .plain) (.bin .sub (.aB .len [(.aa .plain)]) (.aa .bb))))
        [.ret (.bool false)]
        [],.unpack [.plain,.due] (.aD .ul [(.aa .plain),(.aa .bb),(.bin .mod (.aa .bM) (.int 12)),(.aa .size)]),.ite (.cmp (.ay (.aa .ring) .copy [(.aa .bb),(.bin .mod (.aa .bM) (.int 12))]) .ne (.aB .bytes [(.aa .due)]))
        [.ret (.bool false)]
        [],.assign .total (.bin .add (.aa .total) (.aB .len [(.aa .due)]))]]],.assign .count (.bin .mod (.aa .bM) (.int 4)),.ite (.or (.cmp (.ay (.aa .ring) .ba []) .ne (.aB .bytes [(.aa .plain)])) (.or (.cmp (.aA (.aa .ring) .«have») .ne (.aB .len [(.aa .plain)])) (.cmp (.aA (.aa .ring) .total) .ne (.aa .total))))
    [.ret (.bool false)]
    [],.ite (.cmp (.ay (.aa .ring) .newest [(.aa .count)]) .ne (.aB .bytes [(.slice (.aa .plain) (.aB .max [(.int 0),(.bin .sub (.aB .len [(.aa .plain)]) (.aa .count))]) .absent)]))
    [.ret (.bool false)]
    []],.ret (.bool true)]
noncomputable def RE:aW:={params:=[.box],vars:=[.size,.ring,.plain,.total,.turn,.way,.bM,.bb,.some,.due,.count],body:=RD}
noncomputable def RG:List S :=
 [.assign .box (.aD .Fc [(.aa .script)]),.assign .text (.aD .ya [(.aa .box)]),.assign .shape (.list [(.bin .add (.int 2) (.aD .bT [(.aa .box),(.int 3)])),(.sub (.list [(.int 3),(.int 6),(.int 40)]) (.aD .bT [(.aa .box),(.int 3)])),(.sub (.list [(.int 3),(.int 5),(.int 30)]) (.aD .bT [(.aa .box),(.int 3)]))]),.unpack [.start,.chain] (.tup [(.aD .bT [(.aa .box),(.bin .add (.aB .len [(.aa .text)]) (.int 1))]),(.bin .add (.aB .len [(.aa .text)]) (.int 1))]),.ite (.not (.aD .rI [(.aa .text),(.bN .fc [(.aa .text),(.sub (.aa .shape) (.int 0)),(.sub (.aa .shape) (.int 1)),(.aa .chain)]),(.aa .shape)]))
  [.ret (.bool false)]
  [],.ite (.not (.aD .rI [(.aa .text),(.bN .dQ [(.aa .text),(.sub (.aa .shape) (.int 1)),(.aa .chain)]),(.bin .add (.list [(.int 2)]) (.slice (.aa .shape) (.int 1) .absent))]))
  [.ret (.bool false)]
  [],.assign .narrow (.sub (.list [(.bN .fc [(.aa .text),(.sub (.aa .shape) (.int 0)),(.sub (.aa .shape) (.int 1)),(.int 1)]),(.bN .fL [(.aa .text),(.sub (.aa .shape) (.int 0)),(.sub (.aa .shape) (.int 1)),(.int 1)])]) (.aD .bT [(.aa .box),(.int 2)])),.ite (.or (.not (.aD .yc [(.aa .text),(.aa .narrow),(.aa .shape)])) (.not (.aD .uj [(.aa .box),(.aa .text),(.aa .shape)])))
  [.ret (.bool false)]
  [],.ite (.not (.aD .uk [(.aa .text),(.aD .bT [(.aa .box),(.int 5)])]))
  [.ret (.bool false)]
  [],.assign .cm (.bN .i3 [(.bin .add (.int 1) (.aD .bT [(.aa .box),(.int 9)])),(.bin .add (.int 1) (.aD .bT [(.aa .box),(.int 30)])),(.sub (.list [(.int 0),(.int 0),(.int 1),(.int 2)]) (.aD .bT [(.aa .box),(.int 4)]))]),.ret (.and (.aD .rJ [(.aa .text),(.aa .start),(.aa .shape),(.aa .cm)]) (.aD .rK [(.aa .box)]))]
noncomputable def RH:aW:={params:=[.script],vars:=[.box,.text,.shape,.start,.chain,.narrow,.cm],body:=RG}
noncomputable def RI:aW:={params:=[],frees:=[.am,.finder],body:=[.ret (.ay (.bh .finder) .length [(.bh .am),(.bh .am),(.int 3)])]}
noncomputable def RJ:aW:={params:=[],frees:=[.am,.finder],body:=[.ret (.ay (.bh .finder) .length [(.bh .am),(.neg (.int 1)),(.int 3)])]}
noncomputable def RK:aW:={params:=[],frees:=[.text],body:=[.ret (.bN .fL [(.bh .text),(.int 0)])]}
noncomputable def RL:aW:={params:=[],frees:=[.text],body:=[.ret (.bN .ix [(.bh .text),(.int 0)])]}
noncomputable def RM:aW:={params:=[],frees:=[.text],body:=[.ret (.bN .fc [(.bh .text),(.int 2),(.int 0)])]}
noncomputable def RN:aW:={params:=[],frees:=[],body:=[.ret (.bN .fq [(.int 0)])]}
noncomputable def RP:aW:={params:=[],frees:=[.text],body:=[.ret (.bN .dQ [(.bh .text),(.int 9),(.int 0)])]}
noncomputable def RQ:aW:={params:=[],frees:=[.text],body:=[.ret (.aD .i4 [(.str "heap"),(.bh .text)])]}
noncomputable def RR:aW:={params:=[],frees:=[],body:=[.ret (.bN .fq [(.neg (.int 1))])]}
noncomputable def RS:aW:={params:=[],frees:=[.text],body:=[.ret (.aD .i4 [(.str ""),(.bh .text)])]}
noncomputable def RT:List (List Nm):=[[.am,.finder],[.am,.finder],[.text],[.text],[.text],[],[.text],[.text],[],[.text]]
noncomputable def Ft:List (List Nm)->Nat->List Nm
 |[],_=>[]
 |d::_,0=>d
 |_::r,n+1=>Ft r n
noncomputable def ac(i:Nat):List Nm:=Ft RT i
noncomputable def RU:List aW:=[O',Pb,Pd,Pf,Ph,Pk,Pm,Po,Pq,Ps,Pv,Px,Pz,PD,PH,PK,PN,PP,PR,PU,PX,PZ,P1,P6,P9,Qa,Qc,Qe,Qg,Qi,Qk,Qm,Qo,Qq,Qs,Qu,Qw,Qy,QA,QC,QE,QG,QI,QK,QM,QO,QQ,QS,QU,QW,QY,Q0,Q2,Q4,Q6,Q8,Q',Rb,Rd,Rf,Ri,Rk,Rn,Rp,Rr,Ru,Rw,Ry,RA,RC,RE,RH]
noncomputable def RV:List aW:=[RI,RJ,RK,RL,RM,RN,RP,RQ,RR,RS]
noncomputable def yh:List aW->Nat->aW
 |[],_=>{params:=[],body:=[]}
 |d::_,0=>d
 |_::r,n+1=>yh r n
noncomputable def prog(f:Fn):aW:=match iU f.i 100 with |true=>yh RU f.i |false=>yh RV (Nat.sub f.i 100)
noncomputable def tab:Cl->List (Nm×Kd)
 |.ix=>[(.init,.aX .xW),(.key,.aX .Ez),(.put,.aX .EA),(.newest,.aX .EB),(.ba,.field),(.size,.field),(.last,.field),(.before,.field)]
 |.lT=>[(.init,.aX .ED),(.put,.aX .iy),(.enter,.aX .OZ),(.rz,.aX .rA),(.limit,.aX .lU),(.length,.aX .pf),(.alike,.aX .lV),(.jM,.aX .rB),(.«repeat»,.aX .rC),(.cL,.aX .O0),(.best,.aX .rD),(.ba,.field),(.least,.field),(.bX,.field),(.chain,.field),(.ahead,.field)]
 |.fL=>[(.init,.aX .xX),(.enter,.aX .EE),(.candidates,.aX .EF),(.cL,.aX .uh),(.row,.field),(.put,.aX .iy),(.rz,.aX .rA),(.limit,.aX .lU),(.length,.aX .pf),(.alike,.aX .lV),(.jM,.aX .rB),(.«repeat»,.aX .rC),(.best,.aX .rD),(.ba,.field),(.least,.field),(.bX,.field),(.chain,.field),(.ahead,.field)]
 |.fc=>[(.init,.aX .xY),(.ky,.aX .EG),(.enter,.aX .EH),(.part,.aX .EI),(.cL,.aX .rG),(.row,.field),(.roots,.field),(.smaller,.field),(.greater,.field),(.put,.aX .iy),(.rz,.aX .rA),(.limit,.aX .lU),(.length,.aX .pf),(.alike,.aX .lV),(.jM,.aX .rB),(.«repeat»,.aX .rC),(.best,.aX .rD),(.ba,.field),(.least,.field),(.bX,.field),(.chain,.field),(.ahead,.field)]
 |.dQ=>[(.xU,.const .fM),(.Ey,.const (.int 4)),(.init,.aX .xZ),(.enter,.aX .EK),(.cL,.aX .rH),(.rows,.field),(.tree,.field),(.put,.aX .iy),(.rz,.aX .rA),(.limit,.aX .lU),(.length,.aX .pf),(.alike,.aX .lV),(.jM,.aX .rB),(.«repeat»,.aX .rC),(.best,.aX .rD),(.ba,.field),(.least,.field),(.bX,.field),(.chain,.field),(.ahead,.field)]
 |.fq=>[(.init,.aX .x7),(.clear,.aX .EL),(.«have»,.prop .EM),(.put,.aX .EN),(.feed,.aX .EO),(.need,.aX .EP),(.«at»,.aX .EQ),(.copy,.aX .ER),(.ba,.aX .ET),(.newest,.aX .EU),(.size,.field),(.total,.field),(.ring,.field),(.spot,.field)]
 |.jN=>[(.init,.aX .EX),(.xV,.aX .EY),(.best,.aX .O1),(.cL,.aX .EZ),(.finder,.field),(.shortest,.field),(.known,.field)]
 |.kz=>[(.init,.aX .E6),(.cq,.aX .x9),(.told,.aX .E7),(.size,.field),(.lS,.field),(.steps,.field)]
 |.i3=>[(.init,.aX .E8),(.literal,.aX .Fa),(.«match»,.aX .Fb),(.uf,.field),(.rr,.field),(.rx,.field)]
noncomputable def kdOf:List (Nm×Kd)->Nm->Kd
 |[],_=>.bad
 |p::r,x=>match nb p.1 x with
  |true=>p.2
  |false=>kdOf r x
noncomputable def look(c:Cl)(x:Nm):Kd:=kdOf (tab c) x
@[irreducible] noncomputable def runs(n:Nat):bU:=Fs look ac prog n
end Mine.Internal
end
section
open PySem PySem.W PyProof.Rows PySem.Calls
set_option backward.match.sparseCases true
namespace Mine.Internal
noncomputable def uv:List String:=["bytearray.__contains__", "bytearray.__mod__", "bytearray.__rmod__", "_struct.pack_into.held", "bytearray.find.held"]++K2
set_option backward.match.sparseCases false in
noncomputable def hW:jD->Bool
 |.builtin id _=>uv.contains id
 |_=>false
def i'(F:Ctx):Prop:=hW F.code=false/\∀x∈F.below,hW x.1=false
def aj{K:Type}(M:cV)(A:bk)(t:Sem K)(Q:K->ag->Prop)(E:af->ag->Prop)(s:ag):Prop :=
 ∀b p,b.In A->i' b->BM M b t (λa O F=>Q a F) (λe O F=>E e F) p s
def cy(M:cV)(A:bk)(c:jD)(R:eI->ag->Prop)(s:ag):Prop :=
 ∀a p,a.code=c->a.Below A->i' a->wpCode M a R p s
theorem i'.enter{F:Ctx}(n:i' F){c:jD}(K:hW c=false)(h:Option af)(p:Pos):i' (F.enter c h p) :=
 ⟨K,λx hx=>by
  rcases cW.mp hx with rfl |hx
  ·exact n.1
  ·exact n.2 x hx⟩
theorem i'.goto{F:Ctx}(n:i' F){c:jD}(K:hW c=false):i' (F.goto c):=⟨K,n.2⟩
section
variable{α β:Type}{M:cV}{A:bk}{E:af->ag->Prop}{s:ag}
theorem bj{t:Sem α}{Q:α->ag->Prop}(h:aL M A t Q E s):aj M A t Q E s:=λF p hΓ a=>h F p hΓ
theorem acu{c:jD}{R:eI->ag->Prop}(h:s8 M A c R s):cy M A c R s:=λF p K hΓ a=>h F p K hΓ
theorem aI{a:α}{Q:α->ag->Prop}(h:Q a s):aj M A (a8 a) Q E s:=λF F F F=>h
theorem acv{e:af}{Q:α->ag->Prop}(h:E e s):aj M A (throw e:Sem α) Q E s:=λF F F F=>h
theorem aF{t:Sem α}{Q F:α->ag->Prop}{K:af->ag->Prop}(h:aj M A t Q E s)
  (R:∀a s,Q a s->F a s) (S:∀e s,E e s->K e s):aj M A t F K s :=
 λO p hΓ n=>kh M O t (λa T s=>R a s) (λe T s=>S e s) p s (h O p hΓ n)
theorem ar{m:Sem α}{f:α->Sem β}{Q:β->ag->Prop}(h:aj M A m (λa O=>aj M A (f a) Q E O) E s):
  aj M A (m>>=f) Q E s:=λF p hΓ n=>by
 rw[tc];exact kh M F m (λa S O K=>K F S hΓ n) (λR R R K=>K) p s (h F p hΓ n)
theorem a'{m:Sem α}{f:α->Sem β}{Q:β->ag->Prop}(h:aL M A m (λa F=>aj M A (f a) Q E F) E s):
  aj M A (m>>=f) Q E s:=ar (bj h)
theorem acw{m:Sem α}{f:α->β}{Q:β->ag->Prop}(h:aj M A m (λa F=>Q (f a) F) E s):aj M A (f <$> m) Q E s:=λK p hΓ n=>by
 rw[Sem.wp_map];exact h K p hΓ n
theorem acx{m:Sem α}{k:af->Sem α}{Q:α->ag->Prop}(h:aj M A m Q (λe O=>aj M A (k e) Q E O) s):
  aj M A (tryCatch m k) Q E s:=λF p hΓ n=>by
 rw[Sem.wp_tryCatch'];exact kh M F m (λR R R K=>K) (λe S O K=>K F S hΓ n) p s (h F p hΓ n)
theorem lZ{m:Sem α}{k:af->Sem Unit}{Q:α->ag->Prop}
  (h:aj M A m Q (λe S=>aj M A (k e) (λF K=>E e K) E S) s):aj M A (m.onRaise k) Q E s:=λO p hΓ n=>by
 rw[Sem.wp_onRaise];exact kh M O m (λF F F R=>R) (λe T S R=>R O T hΓ n) p s (h O p hΓ n)
theorem Fu{m:Sem α}{Q:Except af α->ag->Prop}(h:aj M A m (λa=>Q (.ok a)) (λe=>Q (.error e)) s):
  aj M A m.attempt Q E s:=λF p hΓ n=>by rw[Sem.wp_attempt];exact h F p hΓ n
theorem bO{F:List af}{m:Sem α}{Q:α->ag->Prop}(h:aj M A m Q E s):aj M A (hE F m) Q E s :=
 λK p hΓ n=>by rw[Sem.wp_holding];exact h K p hΓ n
theorem RW{F:List af}{m:Sem α}{Q:α->ag->Prop}(h:aj M A m Q E s):aj M A (m.keep F) Q E s :=
 λK p hΓ n=>by rw[Sem.wp_keep];exact h K p hΓ n
theorem nG{F:List af}{m:Sem af}{Q:af->ag->Prop}(h:aj M A m Q E s):aj M A (BN F m) Q E s :=
 λK p hΓ n=>by rw[Sem.wp_operate];exact h K p hΓ n
theorem iD{F:Pos}{Q:Unit->ag->Prop}(h:Q () s):aj M A (jE F) Q E s:=λK K K K=>h
theorem yi{F:String}{Q:Unit->ag->Prop}(h:Q () s):aj M A (rule F) Q E s:=λK K K K=>h
theorem yj{Q:Unit->ag->Prop}(h:Q () s):aj M A te Q E s:=λF F F F=>h
theorem cg{F:Pos}{f:Unit->Sem α}{Q:α->ag->Prop}(h:aj M A (f ()) Q E s):aj M A (jE F>>=f) Q E s:=ar (iD h)
theorem yk{F:Env}{x:az}{v:af}{Q:Unit->ag->Prop}(h:aj M A (storeName F x v) Q E s):aj M A (tf F x v) Q E s :=
 λK p hΓ n=>by rw[Sem.wp_bindName];exact h K p hΓ n
theorem ja{c:jD}{R F:eI->ag->Prop}(h:cy M A c R s)(K:∀r s,R r s->F r s):cy M A c F s :=
 λO p S hΓ n=>wpCode_mono K (h O p S hΓ n)
theorem Fv{c:jD}{h:Option af}{Q:ki->ag->Prop}(O:hW c=false)
  (R:cy M (A.mark h) c (λr K=>match r with |.ok f=>Q f K |.error e=>E e K) s) (F:h≠some byPass) :
  aj M A (run c h) Q E s :=
 λS p hΓ n=>by rw[Sem.wp_run];exact R _ p rfl (hΓ.enter c h p F) (n.enter O h p)
theorem Fw{c:jD}{Q:af->ag->Prop}(K:hW c=false)
  (O:cy M A c (λr F=>match r with |.ok (.ret v)=>Q v F |.ok _=>False |.error e=>E e F) s) :
  aj M A (runValue c) Q E s:=λR p hΓ n=>by rw[Sem.wp_runValue];exact O _ p rfl (hΓ.enter c none p (by intro x;exact aN x)) (n.enter K none p)
theorem kH{f:af}{F:List af}{K:List (az×af)}{Q:af->ag->Prop}
  (R:cy M A (.call f ⟨F,K⟩) (λr O=>match r with |.ok (.ret v)=>Q v O |.ok _=>False |.error e=>E e O) s) :
  aj M A (call f F K) Q E s:=Fw rfl R
def nH(M:cV)(A:bk)(R:eI->ag->Prop)(F:Fin)(s:ag):Prop :=
 match F with
 |.done f=>R (.ok f) s
 |.again c=>c.quiet=true/\hW c=false/\cy M A c R s
theorem fw{c:jD}{R:eI->ag->Prop}(h:aj M (A.under c) (M.den c) (nH M A R) (λe S=>R (.error e) S) s):cy M A c R s:=λK p T hΓ n=>by
 rw[wpCode_iff_wp,T];refine kh M K _ (λO W S F=>?_) (λV V V F=>F) p s (h K p (T▸hΓ.in) n);induction O with
 |done f=>exact F
 |again a=>exact⟨F.1,F.2.2 (K.goto a) W rfl (hΓ.goto a) (n.goto F.2.1)⟩
theorem acy{c:jD}{R:eI->ag->Prop}(V:c.quiet=true)(W:hW c=false)(I:Nat->ag->Prop)
  (K:∀n s,I n s->aj M (A.under c) (M.den c)
   (λF O=>match F with |.done f=>R (.ok f) O |.again a=>a=c/\∃m,m<n/\I m O) (λe O=>R (.error e) O) s)
  (n:Nat) (h:I n s):cy M A c R s:=by
 induction n using Nat.strongRecOn generalizing s with
 |ind n b =>
  refine fw (aF (K n s h) (λF O T=>?_) λX X d=>d);induction F with
  |done f=>exact T
  |again a=>refine tX T λS m g i=>?_;refine rE S ?_;exact(aH V W (b m g i))
theorem rP{b:Bool}{Q:Bool->ag->Prop}(q:Q b s):aj M A (mP (.bool b)) Q E s:=aI q
end
section
variable{pg:bJ}{w:bE}{A:bk}{R:eI->ag->Prop}{s:ag}
theorem yl{K:List bz}{F:Env}
  (h:aj (av pg w) (A.deeper F) (mQ K F) (λf O=>R (.ok (.ret (match f with |.ret v=>v |_=>.none))) O)
   (λe O=>aj (av pg w) (A.deeper F) (oE F e) (λT M=>R (.error e) M) (λV M=>R (.error V) M) O) s) :
  cy (av pg w) A (.func K F) R s:=by
 refine fw ?_;show aj _ (A.deeper F) (do te;match ←(mQ K F).onRaise (oE F) with |.ret v=>ret v |_=>ret .none) _ _ s;refine ar (yj (ar (lZ (aF h (λf O S=>?_) λT T S=>S))));rcases f with _ |_<;>exact aI S
theorem ym{a:ax}{args:qy}{o:Obj}{F:gO}{O:List bz}(V:A.depth<kj)
  (q:s.heap.get? a=some o)
  (f:o.data=.func F) (g:F.scope.isCoroutine=false) (X:F.scope.isGenerator=false) (W:F.body=.stmts O) (i:s.heap.CodeRec F.code F.qualname)
  (h:aL (av pg w) A.in1 (mR F args) (λK S =>
   aL (av pg w) A.in1 (BO F.scope F.globals F.closure K (F.qualname ++ ".<locals>.") (some a) F.code none F.builtins)
    (λb M=>M.heap.NoLimit/\cy (av pg w) A (.func O b) R M) (λe j=>R (.error e) j) S) (λe j=>R (.error e) j) s) :
  cy (av pg w) A (.call (.ref a) args) R s:=by
 refine fw ?_;show aj _ A.in1 (qz (.ref a) args) _ _ s;refine a' (hF q ?_);refine kv i λc u v x r k l t=>?_;refine rE f ?_;show aj _ A.in1 (wn a F args) _ _ s;unfold wn;rw[r] at h ⊢;refine rE W (rE X (rE g ?_));refine a' (m:=field (.ref c) 1) (jF k l t (ar (aI ?_)));exact a' (gn h (λK S d=>a' (gn d (λb M T=>a' (K3 T.1 V
  (aI (aH rfl rfl T.2)))) λn n p=>p)) λn n p=>p)
end
end Mine.Internal
end
section
open PySem PySem.W PyProof.Rows PySem.Calls
namespace Mine.Internal
theorem RX:i' ⟨.builtin "claim.caller" {},none,none,[],none⟩:=⟨by decide,λK F=>dx F⟩
theorem RY{M:cV}{A:bk}{F:Ctx}{t:Sem Fin}{R:eI->ag->Prop}{s:ag}(S:F.In A)(X:i' F)
  (h:aj M A t (λO K=>∃f,O=.done f/\R (.ok f) K) (λe K=>R (.error e) K) s) (p:Pos) :
  BM M F t (Sem.finPost M F R) (λe T K=>R (.error e) K) p s:=by
 refine kh M F t (λO b K V=>?_) (λT T T V=>V) p s (h F p S X);refine ak V λf W a=>?_;refine rE W ?_;exact a
theorem RZ{prog:bJ}{w:bE}{t:Sem Fin}{s:ag}{R:eI->ag->Prop}(K:s.asleep)
  (h:aj (av prog w) kk t (λT F=>∃f,T=.done f/\(R (.ok f) F/\BP F.gens=false)) (λe F=>R (.error e) F/\BP F.gens=false) s) :
  ∃n r F a,runN (denote table) prog w n s ⟨t,.builtin "claim.caller" {},default,[]⟩=.halted (outcomeOf r) F /\
   schedN (denote table) prog w n (.single s ⟨t,.builtin "claim.caller" {},default,[]⟩)=.halted (outcomeOf r) F/\F.forget=a.forget/\R r a:=by
 refine kv (wp_halts_full (M:=av prog w) (R:=R) K (RY (R:=λr F=>R r F/\BP F.gens=false) caller_in RX h default)) λn r O S W X V b=>?_;exact(xK n r S O X W V b)
theorem R0{c:ClaimW}{M:List af->Sem Fin}{w:bE}{s:ag}{g:ax->Prop}{j:Prop}{K:dp->Prop}(E:s.asleep)(V:s.gens=#[])
  (W:∀args,c.pre args=true->BQ args=true ->
   ∀ord:List jG->List jG,(∀l,(ord l).Perm l) ->
   ∃S a,layAllW c.records (qA s.heap) w.params ord args s=some (S,a) /\
    aj (av c.prog w) kk (M S) (λm F=>∃f,m=.done f/\(c.Ends s args S a (.ok f) F/\F.os=s.os/\AllBare F.gens/\K F.heap))
     (λe F=>c.Ends s args S a (.error e) F/\F.os=s.os/\AllBare F.gens/\K F.heap) a) :
  c.CallFrom (λS=>⟨M S,.builtin "claim.caller" {},default,[]⟩) w g j K s:=by
 intro args n p ord q;refine bZ (W args n p ord q) λS a O X=>de S a O ?_;have u:=K4 _ _ _ O;refine kv (RZ (prog:=c.prog) (w:=w) (t:=M S) (s:=a)
  (R:=λr F=>c.Ends s args S a r F/\F.os=s.os/\K F.heap)
  (Shared.asleep_of_life u.2.2.2 E)
  (aF X (λm F h=>h.elim λf h=>bG f h.1 (aH h.2.1 h.2.2.1 h.2.2.2.2) (leftWithCleanup_false_of_bare h.2.2.2.1))
   λe F h=>⟨aH h.1 h.2.1 h.2.2.2,leftWithCleanup_false_of_bare h.2.2.1⟩)) λk r F G z T B A=>?_
 have Z:=Shared.forget_eq B;exact xL k _ F T ((A.1.congr Z.1).imp (λh=>h.imp λv d=>⟨congrArg outcomeOf d.1,d.2.1,d.2.2.1,d.2.2.2.1,λb o y C=>d.2.2.2.2.1 b o y,d.2.2.2.2.2⟩) λh=>h.imp λe h=>h.imp λob h=>h.imp λH d=>⟨congrArg outcomeOf d.1,d.2.1,d.2.2.1,d.2.2.2.1,d.2.2.2.2.1,λb o y C=>d.2.2.2.2.2 b o y⟩)
  (λC i x D=>by rw[V] at D;simp at D) (by first |exact Z.1▸A.2.2 |(refine rE Z.1 ?_;exact A.2.2)) (by exact rE (runN_life _ _ _ z) (rE u.2.2.2 rfl)) (Shared.rest_eq (Z.2.2.2.1▸A.2.1))
abbrev R8(q:bJ)(O:List Str)(c:(Str->Option af)->dp->Prop)(f:bE->dp->Prop)(r:RowW)(d:wo)(R:List (Str×ao))(run:af->List af->Sem af):Prop :=
 ∀(w:bE) (K F:ag) (S g:Str->Option af),tg q O r.records c w K S g F.heap->f w F.heap->∀(a:ax) (o:Obj) (h W T X kV:af),F.heap.get? a=some o ->
  o.data=.func {docDef d.name d.params d.body d.scope h W T with defaults:=X,kwdefaults:=kV}->F.heap.CodeRec W d.name->Dflts S F.heap d.params R X kV->S d.name=some (.ref a)->F.gens=#[] ->
  ∀(args:List WData) (M:List af) (b:List ax),r.claim.pre args=true->BQ args=true->ReadsAllW r.records (qA K.heap) F.heap M args b->WellAll w.params F.heap M args->(∀a∈b,(a == oF)=false) ->
   aj (av r.prog w) kk (run (.ref a) M) (λv V=>qB r.claim (qA K.heap) (wq K.heap) args F (.ok (.ret v)) V)
    (λe V=>qB r.claim (qA K.heap) (wq K.heap) args F (.error e) V) F
theorem R9{r:RowW}{run:af->List af->Sem af}{tree:List af->Sem Fin}{q:bJ}{O i p:List Str}{V:Bool}{J:ag->Bool}{XP:(Str->Option af)->dp->Prop}{α:Type}{Yf:ag->α}{Ya:bE->α}{H:bE->dp->Prop}{N:Nat}
  (left:LeftO r.prog q O J Yf Ya N) (hY:∀w s,Yf s=Ya w->H w s.heap) (U:∀w h t,H w h->(∀b o,h.get? b=some o->t.get? b=some o)->H w t) (hX:∀s,J s=true->XP (s.heap.nsMap mainGlobals) s.heap) (Y:∀a h t,XP a h->(∀b o,h.get? b=some o->t.get? b=some o)->XP a t)
  (Z:∀s,J s=true->BR r.records s.heap) (u:(!V||r.records.isEmpty)=true) (ok:(chainsOk q&&opensWell r.prog&&(frees r&&r.within.isEmpty))=true) (hb:r.prog.bare) (hw:r.promised)
  (ht:∀W (w:bE) (s:ag) a f (Q:Fin->ag->Prop) (E:af->ag->Prop),s.heap.Ns mainGlobals a->a r.name=some f->aj (av r.prog w) kk (run f W) (λv d=>Q (.done (.ret v)) d) E s->aj (av r.prog w) kk (tree W) Q E s)
  (pin:∀w s,s.heap.isNs mainGlobals=true->tg q O [] XP w s (s.heap.nsMap mainGlobals) (s.heap.nsMap im) s.heap->∀n∈i,isTheDefsW r.prog s.heap n)
  (call:∀(w:bE) (K F:ag) (a mb:Str->Option af),tg q O r.records XP w K a mb F.heap->H w F.heap->∀(args:List WData) (W:List af) (I:List ax),r.claim.pre args=true->BQ args=true->Laid r.records w K F args W I->oF<K.heap.objs.size->∃f,a r.name=some f /\
    aj (av r.prog w) kk (run f W) (λv d=>qB r.claim (qA K.heap) (wq K.heap) args F (.ok (.ret v)) d)
     (λe d=>qB r.claim (qA K.heap) (wq K.heap) args F (.error e) d) F):r.claim.HoldsOpenBy (λW=>⟨tree W,.builtin "claim.caller" {},default,[]⟩) i p V:=by
 refine(wr.mp ok).elim λok k5=>?_;refine(wr.mp ok).elim λx o1=>?_;refine(wr.mp k5).elim λk5 k6=>?_;refine nu (frees_parts k5) λX hu ha hap hm=>?_;refine(aH (aH hb o1 (by show r.makers.map _=[];refine rE hm ?_;rfl)) hw.witness (λw=>⟨(left.behind hX x w).1,λd hs'=>?_⟩));refine N4 ((left.behind (XP:=λa h=>XP a h/\BR r.records h) (λs hs=>⟨hX s hs,Z s hs⟩) x w).2 d hs') λK hf hg0 s hT hz T hg M y=>?_;have G0:tg q O [] XP w s (s.heap.nsMap mainGlobals) (s.heap.nsMap im) s.heap:=⟨M.T,M.B,M.D,M.TE,M.TD,M.W,M.X.1,M.cls,M.has,M.apart,M.once,M.K⟩
 have RF:=M.X.2;have A:=hT;refine⟨K,hf,hg0,s,hT,pin w s hg G0,RF.1,RF.2.1,?_⟩;have T:s.gens=#[]:=Array.eq_empty_of_size_eq_zero (beq_iff_eq.mp T);have G:tg q O r.records XP w s _ _ s.heap:=RF.ground G0;refine R0 (c:=r.claim) hz T λargs j k ord l=>?_;obtain⟨⟨W,F⟩,R⟩:=BS.mp (layAllW_isSome (P:=w.params) (ord:=ord) G.has args r.args s (pre_splitW j).1);have S:=layAllW_keeps _ _ _ R;have B:=K4 _ _ _ R;refine cr (reads_layAllW l _ _ _ R k F.heap (λzz zz e=>e)) λI hrd hin C=>?_;have L:Laid r.records w s F args W I:=⟨(aq ord l R),hrd,hin,C,S,B.1.trans T,B.2.2.1⟩
 have m:=G.keeps Y S;refine ak (call w s F _ _ m (U _ _ _ (hY w s y) S) args W I j k L G.low) λf hf h=>?_;have hi:=ident_freeW hu ha hap;have D:r.claim.within=[]:=qC.mp k6;exact(de W F R (ht W w F _ f _ _ m.T.g hf (aF h (λv d g=>(aq _ rfl (have z:=g.laid (c:=r.claim) X D hi L;(dE z.1 z.2.1 z.2.2 (λq=>⟨namesKept_of A hg p S g.2.1.old,noTable u q⟩))))) λe d g=>have z:=g.laid (c:=r.claim) X D hi L;(dE z.1 z.2.1 z.2.2 (λq=>⟨namesKept_of A hg p S g.2.1.old,noTable u q⟩)))))
theorem PySem.W.holds_open{r:OpenRow}{q:bJ}{loose:List Str}{Xt:ag->Bool}{XP:(Str->Option af)->dp->Prop}{α:Type}{Yf:ag->α}{Ya:bE->α}{YP:bE->dp->Prop}{d:wo}{kwd:List (Str×ao)}{N:Nat}
  (left:LeftO r.prog q loose Xt Yf Ya N) (hY:∀w s,Yf s=Ya w->YP w s.heap) (hYk:∀w h h',YP w h->(∀b o,h.get? b=some o->h'.get? b=some o)->YP w h')
  (hX:∀s,Xt s=true->XP (s.heap.nsMap mainGlobals) s.heap) (hXk:∀mg h h',XP mg h->(∀b o,h.get? b=some o->h'.get? b=some o)->XP mg h')
  (hdef:defOf q r.name=some (d,kwd)) (hp:r.prog.theDef r.name=some (d.params,d.body,d.scope)) (hk:kwWritten? d.params.kwonlyargs d.params.kw_defaults=some kwd) (hRf:∀s,Xt s=true->BR r.records s.heap) (hwr:(!r.writes||r.records.isEmpty)=true)
  (k1:r.wellSaid=true) (ok:(chainsOk q&&opensWell r.prog&&(frees r.toRowW&&r.within.isEmpty))=true) (hb:r.prog.bare) (hw:r.toRowW.promised)
  (call:R8 q loose XP YP r.toRowW d kwd λf vs=>wt f vs):r.Holds:=by
 refine⟨k1,hw,R9 (r:=r.toRowW) (run:=λf vs=>wt f vs) (tree:=λvs=>do match ←nsGet mainNs r.name with
   |some f=>do ret (←wt f vs)
   |none=>BU "claim.caller:no-such-global") left hY hYk hX hXk hRf hwr ok hb hw
  (λvs w s mg f Q E hg hf h=>a' (wpAny_nsGet hg (by refine rE hf ?_;exact ar (aF h (λzz zz x=>aI x) λzz zz x=>x))))
  (λw s hg G n hn=>?_) λw s₀ s₁ mg mb G Y args vs as hpre hlay L low=>?_⟩
 ·obtain rfl:n=r.name:=by split at hn<;>simp_all
  exact pinned_of_view hg G hdef hp hk
 ·refine N6 (G.fn hdef) λa o pm cd doc dV kV h1 h2 h3 h4 h5=>?_;exact(aq (.ref a) h1 (call w s₀ s₁ mg mb G Y a o pm cd doc dV kV h2 h3 h4 h5 (defOf_name hdef▸h1) L.gens args vs as hpre hlay L.reads L.well (L.low low)))
end Mine.Internal
end
section
namespace Mine.Internal
noncomputable def cf(b:Bool)(k:b=true->Bool):Bool:=Bool.rec (motive:=λb=>(b=true->Bool)->Bool) (λF=>false) (λk=>k rfl) b k
theorem cj(h:cf b k=true):∃i,k i=true:=by
 rcases b with ⟨⟩
 ·exact a9 h
 ·exact⟨rfl,h⟩
section
variable{α:Type}
noncomputable def eu(l:List α)(f:α->Bool):Bool:=th (motive:=λF=>Bool) false (λa r F=>th (motive:=λF=>Bool) (f a) (λF F F=>false) r) l
theorem eQ{G:List α->Prop}(h:eu l f=true)(k:∀a,f a=true->G [a]):G l:=by
 induction l with
 |nil=>exact a9 h
 |cons a r =>
  induction r with
  |nil=>exact k a h
  |cons=>exact a9 h
noncomputable def dW(l:List α)(f:α->List α->Bool):Bool:=th (motive:=λF=>Bool) false (λa r F=>f a r) l
theorem ew{G:List α->Prop}(h:dW l f=true)(k:∀a r,f a r=true->G (a::r)):G l:=by
 induction l with
 |nil=>exact a9 h
 |cons a r=>exact k a r h
noncomputable def dt(l:List α)(b:Bool):Bool:=th (motive:=λF=>Bool) b (λF F F=>false) l
theorem dX{G:List α->Prop}(h:dt l b=true)(k:b=true->G []):G l:=by
 induction l with
 |nil=>exact k h
 |cons=>exact a9 h
noncomputable def ed(l:Option α)(f:α->Bool):Bool:=BV (motive:=λF=>Bool) false f l
theorem ey{G:Option α->Prop}(h:ed l f=true)(k:∀a,f a=true->G (some a)):G l:=by
 induction l with
 |none=>exact a9 h
 |some a=>exact k a h
noncomputable def nI(l:Option α)(b:Bool):Bool:=BV (motive:=λF=>Bool) b (λF=>false) l
theorem pq{G:Option α->Prop}(h:nI l b=true)(k:b=true->G none):G l:=by
 induction l with
 |none=>exact k h
 |some=>exact a9 h
end
noncomputable def l8(t:ao)(f:jH->Nat->dB->Bool):Bool:=cf (aJ t.ctorIdx 19) λh=>BW (motive_1:=λF=>Bool) t (aC h) f
theorem nJ{G:ao->Prop}(h:l8 t f=true)(k:∀a b c,f a b c=true->G (.Constant a b c)):G t:=by
 refine(cj h).elim λi h=>?_;exact BW (motive_1:=λt=>∀i:aJ t.ctorIdx 19=true,BW (motive_1:=λF=>Bool) t (aC i) f=true->G t) t (aC i) (λa b c F h=>k a b c h) i h
noncomputable def dH(t:ao)(f:az->dB->Bool):Bool:=cf (aJ t.ctorIdx 23) λh=>BX (motive_1:=λF=>Bool) t (aC h) f
theorem dY{G:ao->Prop}(h:dH t f=true)(k:∀a b,f a b=true->G (.Name a b)):G t:=by
 refine(cj h).elim λi h=>?_;exact BX (motive_1:=λt=>∀i:aJ t.ctorIdx 23=true,BX (motive_1:=λF=>Bool) t (aC i) f=true->G t) t (aC i) (λa b F h=>k a b h) i h
noncomputable def iE(t:ao)(f:ao->List ao->List K5->dB->Bool):Bool:=cf (aJ t.ctorIdx 16) λh=>BY (motive_1:=λF=>Bool) t (aC h) f
theorem jS{G:ao->Prop}(h:iE t f=true)(k:∀a b c d,f a b c d=true->G (.Call a b c d)):G t:=by
 refine(cj h).elim λi h=>?_;exact BY (motive_1:=λt=>∀i:aJ t.ctorIdx 16=true,BY (motive_1:=λF=>Bool) t (aC i) f=true->G t) t (aC i) (λa b c d F h=>k a b c d h) i h
noncomputable def kJ(t:ao)(f:ao->az->dB->Bool):Bool:=cf (aJ t.ctorIdx 20) λh=>BZ (motive_1:=λF=>Bool) t (aC h) f
theorem nK{G:ao->Prop}(h:kJ t f=true)(k:∀a b c,f a b c=true->G (.Attribute a b c)):G t:=by
 refine(cj h).elim λi h=>?_;exact BZ (motive_1:=λt=>∀i:aJ t.ctorIdx 20=true,BZ (motive_1:=λF=>Bool) t (aC i) f=true->G t) t (aC i) (λa b c F h=>k a b c h) i h
noncomputable def yn(t:ao)(f:ao->wu->ao->dB->Bool):Bool:=cf (aJ t.ctorIdx 2) λh=>B0 (motive_1:=λF=>Bool) t (aC h) f
theorem Fx{G:ao->Prop}(h:yn t f=true)(k:∀a b c d,f a b c d=true->G (.BinOp a b c d)):G t:=by
 refine(cj h).elim λi h=>?_;exact B0 (motive_1:=λt=>∀i:aJ t.ctorIdx 2=true,B0 (motive_1:=λF=>Bool) t (aC i) f=true->G t) t (aC i) (λa b c d F h=>k a b c d h) i h
noncomputable def ux(t:ao)(f:K6->ao->dB->Bool):Bool:=cf (aJ t.ctorIdx 3) λh=>B9 (motive_1:=λF=>Bool) t (aC h) f
theorem yo{G:ao->Prop}(h:ux t f=true)(k:∀a b c,f a b c=true->G (.UnaryOp a b c)):G t:=by
 refine(cj h).elim λi h=>?_;exact B9 (motive_1:=λt=>∀i:aJ t.ctorIdx 3=true,B9 (motive_1:=λF=>Bool) t (aC i) f=true->G t) t (aC i) (λa b c F h=>k a b c h) i h
noncomputable def uy(t:ao)(f:ao->List K7->List ao->dB->Bool):Bool:=cf (aJ t.ctorIdx 15) λh=>B' (motive_1:=λF=>Bool) t (aC h) f
theorem yp{G:ao->Prop}(h:uy t f=true)(k:∀a b c d,f a b c d=true->G (.Compare a b c d)):G t:=by
 refine(cj h).elim λi h=>?_;exact B' (motive_1:=λt=>∀i:aJ t.ctorIdx 15=true,B' (motive_1:=λF=>Bool) t (aC i) f=true->G t) t (aC i) (λa b c d F h=>k a b c d h) i h
noncomputable def uz(t:ao)(f:K8->List ao->dB->Bool):Bool:=cf (aJ t.ctorIdx 0) λh=>Ca (motive_1:=λF=>Bool) t (aC h) f
theorem yq{G:ao->Prop}(h:uz t f=true)(k:∀a b c,f a b c=true->G (.BoolOp a b c)):G t:=by
 refine(cj h).elim λi h=>?_;exact Ca (motive_1:=λt=>∀i:aJ t.ctorIdx 0=true,Ca (motive_1:=λF=>Bool) t (aC i) f=true->G t) t (aC i) (λa b c F h=>k a b c h) i h
noncomputable def Fy(t:ao)(f:ao->ao->ao->dB->Bool):Bool:=cf (aJ t.ctorIdx 5) λh=>Cb (motive_1:=λF=>Bool) t (aC h) f
theorem Sa{G:ao->Prop}(h:Fy t f=true)(k:∀a b c d,f a b c d=true->G (.IfExp a b c d)):G t:=by
 refine(cj h).elim λi h=>?_;exact Cb (motive_1:=λt=>∀i:aJ t.ctorIdx 5=true,Cb (motive_1:=λF=>Bool) t (aC i) f=true->G t) t (aC i) (λa b c d F h=>k a b c d h) i h
noncomputable def rQ(t:ao)(f:ao->ao->dB->Bool):Bool:=cf (aJ t.ctorIdx 21) λh=>Cc (motive_1:=λF=>Bool) t (aC h) f
theorem uA{G:ao->Prop}(h:rQ t f=true)(k:∀a b c,f a b c=true->G (.Subscript a b c)):G t:=by
 refine(cj h).elim λi h=>?_;exact Cc (motive_1:=λt=>∀i:aJ t.ctorIdx 21=true,Cc (motive_1:=λF=>Bool) t (aC i) f=true->G t) t (aC i) (λa b c F h=>k a b c h) i h
noncomputable def yr(t:ao)(f:Option ao->Option ao->Option ao->dB->Bool):Bool:=cf (aJ t.ctorIdx 26) λh=>Cd (motive_1:=λF=>Bool) t (aC h) f
theorem Fz{G:ao->Prop}(h:yr t f=true)(k:∀a b c d,f a b c d=true->G (.Slice a b c d)):G t:=by
 refine(cj h).elim λi h=>?_;exact Cd (motive_1:=λt=>∀i:aJ t.ctorIdx 26=true,Cd (motive_1:=λF=>Bool) t (aC i) f=true->G t) t (aC i) (λa b c d F h=>k a b c d h) i h
noncomputable def FA(t:ao)(f:List ao->dB->Bool):Bool:=cf (aJ t.ctorIdx 24) λh=>Ce (motive_1:=λF=>Bool) t (aC h) f
theorem Sb{G:ao->Prop}(h:FA t f=true)(k:∀a b,f a b=true->G (.List a b)):G t:=by
 refine(cj h).elim λi h=>?_;exact Ce (motive_1:=λt=>∀i:aJ t.ctorIdx 24=true,Ce (motive_1:=λF=>Bool) t (aC i) f=true->G t) t (aC i) (λa b F h=>k a b h) i h
noncomputable def rR(t:ao)(f:List ao->Nat->dB->Bool):Bool:=cf (aJ t.ctorIdx 25) λh=>Cf (motive_1:=λF=>Bool) t (aC h) f
theorem yt{G:ao->Prop}(h:rR t f=true)(k:∀a b c,f a b c=true->G (.Tuple a b c)):G t:=by
 refine(cj h).elim λi h=>?_;exact Cf (motive_1:=λt=>∀i:aJ t.ctorIdx 25=true,Cf (motive_1:=λF=>Bool) t (aC i) f=true->G t) t (aC i) (λa b c F h=>k a b c h) i h
noncomputable def FC(t:ao)(f:List (Option ao)->List ao->dB->Bool):Bool:=cf (aJ t.ctorIdx 6) λh=>Cg (motive_1:=λF=>Bool) t (aC h) f
theorem Sc{G:ao->Prop}(h:FC t f=true)(k:∀a b c,f a b c=true->G (.Dict a b c)):G t:=by
 refine(cj h).elim λi h=>?_;exact Cg (motive_1:=λt=>∀i:aJ t.ctorIdx 6=true,Cg (motive_1:=λF=>Bool) t (aC i) f=true->G t) t (aC i) (λa b c F h=>k a b c h) i h
noncomputable def FD(t:ao)(f:ao->List wv->dK->dB->Bool):Bool:=cf (aJ t.ctorIdx 8) λh=>Ch (motive_1:=λF=>Bool) t (aC h) f
theorem Sd{G:ao->Prop}(h:FD t f=true)(k:∀a b c d,f a b c d=true->G (.ListComp a b c d)):G t:=by
 refine(cj h).elim λi h=>?_;exact Ch (motive_1:=λt=>∀i:aJ t.ctorIdx 8=true,Ch (motive_1:=λF=>Bool) t (aC i) f=true->G t) t (aC i) (λa b c d F h=>k a b c d h) i h
noncomputable def FE(t:ao)(f:kl->ao->dK->dB->Bool):Bool:=cf (aJ t.ctorIdx 4) λh=>Ci (motive_1:=λF=>Bool) t (aC h) f
theorem Se{G:ao->Prop}(h:FE t f=true)(k:∀a b c d,f a b c d=true->G (.Lambda a b c d)):G t:=by
 refine(cj h).elim λi h=>?_;exact Ci (motive_1:=λt=>∀i:aJ t.ctorIdx 4=true,Ci (motive_1:=λF=>Bool) t (aC i) f=true->G t) t (aC i) (λa b c d F h=>k a b c d h) i h
noncomputable def nM(t:af)(f:ax->Bool):Bool:=cf (aJ t.ctorIdx 10) λh=>Cj (motive:=λF=>Bool) t (aC h) f
theorem pu{G:af->Prop}(h:nM t f=true)(k:∀a,f a=true->G (.ref a)):G t:=by
 refine(cj h).elim λi h=>?_;exact Cj (motive:=λt=>∀i:aJ t.ctorIdx 10=true,Cj (motive:=λF=>Bool) t (aC i) f=true->G t) t (aC i) (λa F h=>k a h) i h
noncomputable def yu(t:af)(f:String->Bool):Bool:=cf (aJ t.ctorIdx 8) λh=>Ck (motive:=λF=>Bool) t (aC h) f
theorem FG{G:af->Prop}(h:yu t f=true)(k:∀a,f a=true->G (.type a)):G t:=by
 refine(cj h).elim λi h=>?_;exact Ck (motive:=λt=>∀i:aJ t.ctorIdx 8=true,Ck (motive:=λF=>Bool) t (aC i) f=true->G t) t (aC i) (λa F h=>k a h) i h
noncomputable def yv(t:af)(f:String->Bool):Bool:=cf (aJ t.ctorIdx 9) λh=>Cm (motive:=λF=>Bool) t (aC h) f
theorem FH{G:af->Prop}(h:yv t f=true)(k:∀a,f a=true->G (.builtin a)):G t:=by
 refine(cj h).elim λi h=>?_;exact Cm (motive:=λt=>∀i:aJ t.ctorIdx 9=true,Cm (motive:=λF=>Bool) t (aC i) f=true->G t) t (aC i) (λa F h=>k a h) i h
noncomputable def pw(t:af)(f:Int->K9->Bool):Bool:=cf (aJ t.ctorIdx 4) λh=>Cn (motive:=λF=>Bool) t (aC h) f
theorem rS{G:af->Prop}(h:pw t f=true)(k:∀a b,f a b=true->G (.int a b)):G t:=by
 refine(cj h).elim λi h=>?_;exact Cn (motive:=λt=>∀i:aJ t.ctorIdx 4=true,Cn (motive:=λF=>Bool) t (aC i) f=true->G t) t (aC i) (λa b F h=>k a b h) i h
noncomputable def FI(t:af)(f:Array UInt8->K9->Bool):Bool:=cf (aJ t.ctorIdx 7) λh=>Co (motive:=λF=>Bool) t (aC h) f
theorem Sf{G:af->Prop}(h:FI t f=true)(k:∀a b,f a b=true->G (.bytes a b)):G t:=by
 refine(cj h).elim λi h=>?_;exact Co (motive:=λt=>∀i:aJ t.ctorIdx 7=true,Co (motive:=λF=>Bool) t (aC i) f=true->G t) t (aC i) (λa b F h=>k a b h) i h
noncomputable def FJ(t:qD)(f:La->Bool):Bool:=cf (aJ t.ctorIdx 8) λh=>Cp (motive:=λF=>Bool) t (aC h) f
theorem Sg{G:qD->Prop}(h:FJ t f=true)(k:∀a,f a=true->G (.cls a)):G t:=by
 refine(cj h).elim λi h=>?_;exact Cp (motive:=λt=>∀i:aJ t.ctorIdx 8=true,Cp (motive:=λF=>Bool) t (aC i) f=true->G t) t (aC i) (λa F h=>k a h) i h
noncomputable def uB(t:qD)(f:gO->Bool):Bool:=cf (aJ t.ctorIdx 7) λh=>Cq (motive:=λF=>Bool) t (aC h) f
theorem yw{G:qD->Prop}(h:uB t f=true)(k:∀a,f a=true->G (.func a)):G t:=by
 refine(cj h).elim λi h=>?_;exact Cq (motive:=λt=>∀i:aJ t.ctorIdx 7=true,Cq (motive:=λF=>Bool) t (aC i) f=true->G t) t (aC i) (λa F h=>k a h) i h
noncomputable def FL(t:qD)(f:Array af->Nat->Bool):Bool:=cf (aJ t.ctorIdx 2) λh=>Cr (motive:=λF=>Bool) t (aC h) f
theorem Sh{G:qD->Prop}(h:FL t f=true)(k:∀a b,f a b=true->G (.seq a b)):G t:=by
 refine(cj h).elim λi h=>?_;exact Cr (motive:=λt=>∀i:aJ t.ctorIdx 2=true,Cr (motive:=λF=>Bool) t (aC i) f=true->G t) t (aC i) (λa b F h=>k a b h) i h
noncomputable def yx(t:Ct)(f:af->Bool):Bool:=cf (aJ t.ctorIdx 0) λh=>Cu (motive:=λF=>Bool) t (aC h) f
theorem FM{G:Ct->Prop}(h:yx t f=true)(k:∀a,f a=true->G (.val a)):G t:=by
 refine(cj h).elim λi h=>?_;exact Cu (motive:=λt=>∀i:aJ t.ctorIdx 0=true,Cu (motive:=λF=>Bool) t (aC i) f=true->G t) t (aC i) (λa F h=>k a h) i h
noncomputable def FN(t:jH)(b:Bool):Bool:=cf (aJ t.ctorIdx 0) λF=>b
theorem Si{G:jH->Prop}(h:FN t b=true)(k:b=true->G .none):G t:=by
 refine(cj h).elim λi h=>?_;exact ab3 (motive:=G) t (aC i) (k h)
noncomputable def FO(t:jH)(f:Bool->Bool):Bool:=cf (aJ t.ctorIdx 1) λh=>Cv (motive:=λF=>Bool) t (aC h) f
theorem Sj{G:jH->Prop}(h:FO t f=true)(k:∀a,f a=true->G (.bool a)):G t:=by
 refine(cj h).elim λi h=>?_;exact Cv (motive:=λt=>∀i:aJ t.ctorIdx 1=true,Cv (motive:=λF=>Bool) t (aC i) f=true->G t) t (aC i) (λa F h=>k a h) i h
noncomputable def uC(t:jH)(f:Int->Bool):Bool:=cf (aJ t.ctorIdx 2) λh=>Cw (motive:=λF=>Bool) t (aC h) f
theorem yy{G:jH->Prop}(h:uC t f=true)(k:∀a,f a=true->G (.int a)):G t:=by
 refine(cj h).elim λi h=>?_;exact Cw (motive:=λt=>∀i:aJ t.ctorIdx 2=true,Cw (motive:=λF=>Bool) t (aC i) f=true->G t) t (aC i) (λa F h=>k a h) i h
noncomputable def FP(t:jH)(f:az->Bool):Bool:=cf (aJ t.ctorIdx 5) λh=>Cy (motive:=λF=>Bool) t (aC h) f
theorem Sk{G:jH->Prop}(h:FP t f=true)(k:∀a,f a=true->G (.str a)):G t:=by
 refine(cj h).elim λi h=>?_;exact Cy (motive:=λt=>∀i:aJ t.ctorIdx 5=true,Cy (motive:=λF=>Bool) t (aC i) f=true->G t) t (aC i) (λa F h=>k a h) i h
noncomputable def FQ(t:jH)(f:List UInt8->Bool):Bool:=cf (aJ t.ctorIdx 6) λh=>Cz (motive:=λF=>Bool) t (aC h) f
theorem Sl{G:jH->Prop}(h:FQ t f=true)(k:∀a,f a=true->G (.bytes a)):G t:=by
 refine(cj h).elim λi h=>?_;exact Cz (motive:=λt=>∀i:aJ t.ctorIdx 6=true,Cz (motive:=λF=>Bool) t (aC i) f=true->G t) t (aC i) (λa F h=>k a h) i h
noncomputable def yz(t:bz)(f:ao->dB->Bool):Bool:=cf (aJ t.ctorIdx 24) λh=>CA (motive_2:=λF=>Bool) t (aC h) f
theorem FT{G:bz->Prop}(h:yz t f=true)(k:∀a b,f a b=true->G (.Expr a b)):G t:=by
 refine(cj h).elim λi h=>?_;exact CA (motive_2:=λt=>∀i:aJ t.ctorIdx 24=true,CA (motive_2:=λF=>Bool) t (aC i) f=true->G t) t (aC i) (λa b F h=>k a b h) i h
noncomputable def nN(t:bz)(f:List ao->ao->dB->Bool):Bool:=cf (aJ t.ctorIdx 5) λh=>CB (motive_2:=λF=>Bool) t (aC h) f
theorem px{G:bz->Prop}(h:nN t f=true)(k:∀a b c,f a b c=true->G (.Assign a b c)):G t:=by
 refine(cj h).elim λi h=>?_;exact CB (motive_2:=λt=>∀i:aJ t.ctorIdx 5=true,CB (motive_2:=λF=>Bool) t (aC i) f=true->G t) t (aC i) (λa b c F h=>k a b c h) i h
noncomputable def yA(t:bz)(f:ao->wu->ao->dB->Bool):Bool:=cf (aJ t.ctorIdx 7) λh=>CC (motive_2:=λF=>Bool) t (aC h) f
theorem FU{G:bz->Prop}(h:yA t f=true)(k:∀a b c d,f a b c d=true->G (.AugAssign a b c d)):G t:=by
 refine(cj h).elim λi h=>?_;exact CC (motive_2:=λt=>∀i:aJ t.ctorIdx 7=true,CC (motive_2:=λF=>Bool) t (aC i) f=true->G t) t (aC i) (λa b c d F h=>k a b c d h) i h
noncomputable def FV(t:bz)(f:ao->List bz->List bz->dB->Bool):Bool:=cf (aJ t.ctorIdx 12) λh=>CD (motive_2:=λF=>Bool) t (aC h) f
theorem Sm{G:bz->Prop}(h:FV t f=true)(k:∀a b c d,f a b c d=true->G (.If a b c d)):G t:=by
 refine(cj h).elim λi h=>?_;exact CD (motive_2:=λt=>∀i:aJ t.ctorIdx 12=true,CD (motive_2:=λF=>Bool) t (aC i) f=true->G t) t (aC i) (λa b c d F h=>k a b c d h) i h
noncomputable def FW(t:bz)(f:ao->List bz->List bz->dB->Bool):Bool:=cf (aJ t.ctorIdx 11) λh=>CE (motive_2:=λF=>Bool) t (aC h) f
theorem Sn{G:bz->Prop}(h:FW t f=true)(k:∀a b c d,f a b c d=true->G (.While a b c d)):G t:=by
 refine(cj h).elim λi h=>?_;exact CE (motive_2:=λt=>∀i:aJ t.ctorIdx 11=true,CE (motive_2:=λF=>Bool) t (aC i) f=true->G t) t (aC i) (λa b c d F h=>k a b c d h) i h
noncomputable def yB(t:bz)(f:ao->ao->List bz->List bz->dB->Bool):Bool:=cf (aJ t.ctorIdx 9) λh=>CF (motive_2:=λF=>Bool) t (aC h) f
theorem FX{G:bz->Prop}(h:yB t f=true)(k:∀a b c d e,f a b c d e=true->G (.For a b c d e)):G t:=by
 refine(cj h).elim λi h=>?_;exact CF (motive_2:=λt=>∀i:aJ t.ctorIdx 9=true,CF (motive_2:=λF=>Bool) t (aC i) f=true->G t) t (aC i) (λa b c d e F h=>k a b c d e h) i h
noncomputable def FY(t:bz)(f:Option ao->dB->Bool):Bool:=cf (aJ t.ctorIdx 3) λh=>CG (motive_2:=λF=>Bool) t (aC h) f
theorem So{G:bz->Prop}(h:FY t f=true)(k:∀a b,f a b=true->G (.Return a b)):G t:=by
 refine(cj h).elim λi h=>?_;exact CG (motive_2:=λt=>∀i:aJ t.ctorIdx 3=true,CG (motive_2:=λF=>Bool) t (aC i) f=true->G t) t (aC i) (λa b F h=>k a b h) i h
noncomputable def FZ(t:bz)(f:dB->Bool):Bool:=cf (aJ t.ctorIdx 26) λh=>CH (motive_2:=λF=>Bool) t (aC h) f
theorem Sp{G:bz->Prop}(h:FZ t f=true)(k:∀a,f a=true->G (.Break a)):G t:=by
 refine(cj h).elim λi h=>?_;exact CH (motive_2:=λt=>∀i:aJ t.ctorIdx 26=true,CH (motive_2:=λF=>Bool) t (aC i) f=true->G t) t (aC i) (λa F h=>k a h) i h
noncomputable def F0(t:bz)(f:dB->Bool):Bool:=cf (aJ t.ctorIdx 27) λh=>CJ (motive_2:=λF=>Bool) t (aC h) f
theorem Sq{G:bz->Prop}(h:F0 t f=true)(k:∀a,f a=true->G (.Continue a)):G t:=by
 refine(cj h).elim λi h=>?_;exact CJ (motive_2:=λt=>∀i:aJ t.ctorIdx 27=true,CJ (motive_2:=λF=>Bool) t (aC i) f=true->G t) t (aC i) (λa F h=>k a h) i h
noncomputable def F4(t:bz)(f:dB->Bool):Bool:=cf (aJ t.ctorIdx 25) λh=>CK (motive_2:=λF=>Bool) t (aC h) f
theorem Sr{G:bz->Prop}(h:F4 t f=true)(k:∀a,f a=true->G (.Pass a)):G t:=by
 refine(cj h).elim λi h=>?_;exact CK (motive_2:=λt=>∀i:aJ t.ctorIdx 25=true,CK (motive_2:=λF=>Bool) t (aC i) f=true->G t) t (aC i) (λa F h=>k a h) i h
noncomputable def onRaise(t:bz)(f:Option ao->Option ao->dB->Bool):Bool:=cf (aJ t.ctorIdx 16) λh=>CL (motive_2:=λF=>Bool) t (aC h) f
theorem Ss{G:bz->Prop}(h:onRaise t f=true)(k:∀a b c,f a b c=true->G (.Raise a b c)):G t:=by
 refine(cj h).elim λi h=>?_;exact CL (motive_2:=λt=>∀i:aJ t.ctorIdx 16=true,CL (motive_2:=λF=>Bool) t (aC i) f=true->G t) t (aC i) (λa b c F h=>k a b c h) i h
noncomputable def F5(t:bz)(f:List bz->List PySem.ExceptHandler->List bz->List bz->dB->Bool):Bool:=cf (aJ t.ctorIdx 17) λh=>CN (motive_2:=λF=>Bool) t (aC h) f
theorem Su{G:bz->Prop}(h:F5 t f=true)(k:∀a b c d e,f a b c d e=true->G (.Try a b c d e)):G t:=by
 refine(cj h).elim λi h=>?_;exact CN (motive_2:=λt=>∀i:aJ t.ctorIdx 17=true,CN (motive_2:=λF=>Bool) t (aC i) f=true->G t) t (aC i) (λa b c d e F h=>k a b c d e h) i h
end Mine.Internal
end
section
open PySem PySem.W PyProof.Rows PySem.Calls
namespace Mine.Internal
noncomputable def kK:List String->Nat->az
 |[],i=>⟨#[0,i]⟩
 |s::_,0=>dD s
 |_::r,i+1=>kK r i
noncomputable def Sv:List String:=["self", "octets", "size", "last", "before", "place", "number", "octet", "other", "least", "window", "chain", "ahead", "end", "most", "limit", "known", "distance", "found", "row", "longest", "count", "roots", "smaller", "greater", "owner", "is_greater", "steps", "low", "low_is_greater", "low_count", "high", "high_is_greater", "high_count", "rows", "tree", "way", "total", "ring", "spot", "told", "turn", "every", "first", "second", "step", "history", "made", "finder", "shortest", "length", "costs", "at", "cost", "there", "whole", "price", "enough", "trail", "ways", "matches", "part", "taken", "value", "literal", "bit", "of_literal", "of_match", "of_bit", "script", "under", "cell", "box", "many", "digit", "blend", "letters", "begin", "k", "text", "shape", "beyond", "due", "pair", "one", "call", "plain", "some", "narrow", "start", "key", "put", "newest", "enter", "put_all", "alike", "is_near", "repeat", "best", "candidates", "hang", "LAYERS", "TREE", "clear", "have", "feed", "need", "copy", "up_to", "offer", "match", "append", "get", "bit_length", "__init__", "NOWHERE", "LEAST_MATCH"]
noncomputable def nm(x:Nm):az:=kK Sv x.i
noncomputable def F6:List Nat->Nat->Nat
 |[],_=>0
 |a::_,0=>a
 |_::r,i+1=>F6 r i
noncomputable def dL(f:Fn):ax:=F6 [73,80,87,94,115,122,129,136,143,150,157,164,171,178,185,207,214,221,228,248,255,262,269,276,295,302,309,322,336,343,350,358,365,372,379,386,393,400,414,421,428,436,450,457,464,469,490,497,504,519,526,533,548,555,562,576,583,588,595,602,609,614,619,624,631,638,645,650,657,664,671,678] f.i
noncomputable def bV:Cl->ax
 |.ix=>97 |.lT=>188 |.fL=>231 |.fc=>279 |.dQ=>312 |.fq=>403 |.jN=>472 |.kz=>507 |.i3=>565
noncomputable def ee:Ex->ax
 |.ce=>57 |.fu=>45
noncomputable def layA:ax:=289
noncomputable def dM:List (ax×ax):=[(637,633),(623,621)]
noncomputable def py(q:ax):az:=match aJ q 633 with |true => "_law_sizes_refused.<locals>.<lambda>" |false => "_law_late_right.<locals>.<lambda>"
noncomputable def rT:List (Nat×String):=[(27, "finder_for"),(38, "check_steps"),(39, "check_range"),(40, "step_size"),(41, "unparse"),(49, "least"),(50, "price_of"),(51, "slot_of"),(55, "_law_box"),(56, "_law_take"),(57, "_law_text"),(58, "_law_alike"),(59, "_law_all"),(60, "_law_refused"),(61, "_law_finder_right"),(62, "_law_narrow_right"),(63, "_law_late_right"),(64, "_law_refusals"),(65, "_law_sizes_refused"),(66, "_law_played"),(67, "_law_parse_right"),(68, "_law_copied"),(69, "_law_far"),(70, "_law_ring_right"),(71, "law")]
noncomputable def uD:List (Nat×String)->Nat->Option az
 |[],_=>none
 |p::r,i=>match aJ p.1 i with
  |true=>some (dD p.2)
  |false=>uD r i
noncomputable def qr(f:Fn):Option az:=uD rT f.i
noncomputable def l':Bi->az
 |.len => "len" |.min => "min" |.max => "max" |.abs => "abs" |.int => "int" |.bytes => "bytes" |.bytearray => "bytearray" |.tuple => "tuple" |.range => "range" |.str => "str"
noncomputable def yC:Bi->af
 |.len=>.builtin "len" |.min=>.builtin "min" |.max=>.builtin "max" |.abs=>.builtin "abs" |.int=>.type "int" |.bytes=>.type "bytes" |.bytearray=>.type "bytearray" |.tuple=>.type "tuple" |.range=>.type "range" |.str=>.type "str"
noncomputable def hZ:Ex->az
 |.ce => "BadArgument" |.fu => "BadDistance"
noncomputable def lu:Cl->az
 |.ix => "PlaceRow" |.lT => "Matcher" |.fL => "Finder" |.fc => "TreeFinder" |.dQ => "LayeredFinder"
 |.fq => "Window" |.jN => "Trail" |.kz => "Ways" |.i3 => "FlatPrice"
noncomputable def rU:jO->wu
 |.add=>.Add |.sub=>.Sub |.mul=>.Mult |.fdiv=>.FloorDiv |.mod=>.Mod |.pow=>.Pow |.shr=>.RShift |.band=>.BitAnd
noncomputable def dR:iz->K7
 |.eq=>.Eq |.ne=>.NotEq |.lt=>.Lt |.le=>.LtE |.gt=>.Gt |.ge=>.GtE |.is=>.Is |.pi=>.IsNot
noncomputable def seq(a b:az):Bool:=Fast.sEq a b
theorem seq_eq(h:seq a b=true):a=b:=Lc.mp h
theorem pz(a:az):seq a a=true:=Lc.mpr rfl
theorem an(h:(a&&b)=true):a=true/\b=true:=wr.mp h
theorem dn[d:Decidable p](h:decide p=true):p:=of_decide_eq_true h
noncomputable def ob{F:Type}(o:Option F)(f:F->Bool):Bool :=
 match o with
 |some x=>f x
 |none=>false
theorem acz(h:ob o f=true):∃x,f x=true:=by
 induction o with
 |none=>exact a9 h
 |some x=>exact⟨x,h⟩
structure gx where
 ok:Nat->kl->ao->dK->Bool
 cn:List Nm
 st:Bool
noncomputable def yD(F:gx):gx:=⟨λK K K K=>false,F.cn,false⟩
abbrev gj:=az->Option lA
noncomputable def iF(F:dK)(K:gj):gj:=λz=>(fY z F.names).map λq=>if q == .free&&K z == some .cell then .cell else q
noncomputable def nO(F:gj)(y x:az):Bool:=seq x y&&decide (F y=some .globalImplicit)
noncomputable def kL(K:K8)(rest:List ao)(F:Pos):ao :=
 match rest with
 |[q]=>q
 |rest=>.BoolOp K rest F
noncomputable def uE:X->Bool
 |.absent=>true
 |_=>false
noncomputable def md(q:ao):Bool:=!aJ q.ctorIdx 7
noncomputable def me(q:ao):Bool:=!iE q λf F K M=>dt K (dt F (aJ f.ctorIdx 23))
noncomputable def F7(q:ao):Bool:=!aJ q.ctorIdx 26
noncomputable def we(q:ao):Bool:=!aJ q.ctorIdx 22
noncomputable def KN:Pos->Pos->Pos->Nat->ao:=λp1 F K u=>.Slice none none (some (.UnaryOp .USub (.Constant (.int 1) u p1) F)) K
noncomputable def F8(w:ao)(b:Bool):Bool:=yr w λl u st F=>nI l (nI u (ed st λm=>ux m λo c F=>decide (o=.USub)&&l8 c λv F F=>uC v λj=>decide (j=1)&&b))
noncomputable def uF(l:Option ao)(f:ao->Bool)(b:Bool):Bool:=BV (motive:=λF=>Bool) b f l
noncomputable def F9(l:List ao)(f:ao->Bool)(b:Bool):Bool:=th (motive:=λF=>Bool) b (λd r F=>dt r (f d)) l
noncomputable def yE:X->Bool
 |.bool b=>b
 |_=>false
noncomputable def F':X->Bool
 |.none=>true
 |_=>false
noncomputable def yF(kd:gj)(F:gx)(x:Nm)(y:az)(q:ao)(K:dK):Bool :=
 seq (nm x) y&&(!er x F.cn&&(md q&&(decide (fY y K.names=some .local)&&(decide (K.kind=.function) &&
   K.names.all λr=>(r.2 != .local||(r.1 == y||r.1 == (".0" : az)))&&r.2 != .cell&&(r.2 != .free||kd r.1 == some .cell||kd r.1 == some .free)))))
mutual
noncomputable def bY(F:gx)(K:gj):X->ao->Bool
 |.none,pe=>l8 pe λv M M=>FN v true
 |.absent,_=>false
 |.bool b,pe=>l8 pe λv M M=>FO v λc=>decide (b=c)
 |.int i,pe=>l8 pe λv M M=>uC v λc=>decide (i=c)
 |.str s,pe=>l8 pe λv M M=>FP v λc=>seq (dD s) c
 |.lX,pe=>l8 pe λv M M=>FQ v λl=>dt l true
 |.aa x,pe=>dH pe λy M=>seq (nm x) y&&decide (K y=some .local)
 |.bh x,pe=>dH pe λy M=>seq (nm x) y&&decide (K y=some .cell\/K y=some .free)
 |.dF x,pe=>dH pe λy M=>nO K y (nm x)
 |.aD f R,pe=>iE pe λq O S M=>dt S (dH q λy M=>(decide (qr f=some y)&&decide (K y=some .globalImplicit))&&jb F K R O)
 |.bN c R,pe=>iE pe λq O S M=>dt S (dH q λy M=>nO K y (lu c)&&jb F K R O)
 |.aB b R,pe=>iE pe λq O S M=>dt S (dH q λy M=>nO K y (l' b)&&jb F K R O)
 |.lY x,pe=>iE pe λq O S M=>dt S (dt O (dH q λy M=>seq (nm x) y&&decide (K y=some .local)))
 |.ay o m R,pe=>iE pe λq O S p=>dt S (kJ q λu y p1=>(seq (nm m) y&&(decide (O.length<20)&&(decide (p1.endLine=p.line)&&me u)))&&(bY F K o u&&jb F K R O))
 |.jP c R,pe=>iE pe λq O S p=>dt S (kJ q λu y p1=>dH u λz M=>(seq (nm .init) y&&(decide (O.length<20)&&(decide (p1.endLine=p.line)&&nO K z (lu c))))&&jb F K R O)
 |.aA o f,pe=>kJ pe λq y M=>(seq (nm f) y&&me q)&&bY F K o q
 |.bin j a b,pe=>yn pe λT o V M=>decide (rU j=o)&&(bY F K a T&&bY F K b V)
 |.neg a,pe=>ux pe λo T M=>decide (o=.USub)&&bY F K a T
 |.not _,_=>false
 |.cmp a j b,pe=>uy pe λT os C M=>eu os λo=>eu C λV=>decide (dR j=o)&&(bY F K a T&&bY F K b V)
 |.fN _ _ _ _ _,_=>false
 |.and a b,pe=>uz pe λo D p=>decide (o=.And)&&dW D λT r=>dW r λV r=>bY F K a T&&bY F K b (kL .And (V::r) p)
 |.or _ _,_=>false
 |.ite t a b,pe=>Fy pe λE T V M=>jc F K t E&&(bY F K a T&&bY F K b V)
 |.sub o i,pe=>rQ pe λW A M=>F7 A&&(bY F K o W&&bY F K i A)
 |.slice o lo B,pe=>rQ pe λW w M=>yr w λl u st M=>nI st (bY F K o W&&(uF l (λe=>bY F K lo e) (uE lo)&&uF u (λe=>bY F K B e) (uE B)))
 |.rev o,pe=>rQ pe λW w M=>F8 w (bY F K o W)
 |.list k,pe=>FA pe λO M=>decide (O.length<100)&&jb F K k O
 |.tup k,pe=>rR pe λO M M=>decide (O.length<100)&&jb F K k O
 |.jQ,pe=>FC pe λa b M=>dt a (dt b true)
 |.comp n x G cond,pe=>FD pe λe H h M=>eu H λg=>decide (g.is_async=0)&&dH g.target λy M=>yF K F x y g.iter h &&
   (bY F K G g.iter&&(bY (yD F) (iF h K) n e&&F9 g.ifs (λd=>jc (yD F) (iF h K) cond d) (yE cond)))
 |.lam i,pe=>FE pe λR b h M=>F.ok i R b h
termination_by structural e=>e
noncomputable def jc(F:gx)(K:gj):X->ao->Bool
 |.not a,pe=>ux pe λo M R=>decide (o=.Not)&&jc F K a M
 |.fN a c b g d,pe=>uy pe λM os S R=>dW os λo os=>eu os λi=>dW S λO S=>eu S λj=>(decide (dR c=o)&&decide (dR g=i))&&(bY F K a M&&(bY F K b O&&bY F K d j))
 |.and a b,pe=>uz pe λo V p=>decide (o=.And)&&dW V λM r=>dW r λO r=>jc F K a M&&jc F K b (kL .And (O::r) p)
 |.or a b,pe=>uz pe λo V p=>decide (o=.Or)&&dW V λM r=>dW r λO r=>jc F K a M&&jc F K b (kL .Or (O::r) p)
 |.cmp a c b,pe=>uy pe λM os S R=>eu os λo=>eu S λO=>decide (dR c=o)&&(bY F K a M&&bY F K b O)
 |.ay o m h,pe=>iE pe λq T W p=>dt W (kJ q λu y p1=>(seq (nm m) y&&(decide (T.length<20)&&(decide (p1.endLine=p.line)&&me u)))&&(bY F K o u&&jb F K h T))
 |.aD f h,pe=>iE pe λq T W R=>dt W (dH q λy R=>(decide (qr f=some y)&&decide (K y=some .globalImplicit))&&jb F K h T)
 |.aa x,pe=>dH pe λy R=>seq (nm x) y&&decide (K y=some .local)
 |_,_=>false
termination_by structural e=>e
noncomputable def jb(F:gx)(K:gj):List X->List ao->Bool
 |[],a=>dt a true
 |e::b,a=>dW a λp r=>we p&&(bY F K e p&&jb F K b r)
termination_by structural b=>b
end
noncomputable def uG(K:List Nm):gx:=⟨λF F F F=>false,K,false⟩
noncomputable def rV(i:Nat):X :=
 match (prog (.lam i)).body with
 |[.ret e]=>e
 |_=>.absent
noncomputable def BD(p:kl):Bool:=p.posonlyargs.isEmpty&&(p.args.isEmpty&&(p.vararg.isNone&&(p.kwonlyargs.isEmpty&&p.kwarg.isNone)))
noncomputable def mf(i:Nat)(F:kl)(M:ao)(K:dK):Bool :=
 (iU i 10&&(BD F&&(!K.isCoroutine&&(!K.isGenerator&&decide (K.kind=.function)))))&&(K.names.all (λx=>x.2 != .cell&&(x.2 != .local&&(x.2 != .free||(ac i).any λy=>seq (nm y) x.1))) &&
  (decide ((K.names.filter (·.2 == .free)).map (·.1)=((ac i).map nm).reverse)&&bY (uG (ac i)) (λz=>K.names.lookup z) (rV i) M))
noncomputable def nP(q:ao):Bool:=!(aJ q.ctorIdx 8||(aJ q.ctorIdx 9||aJ q.ctorIdx 10))
noncomputable def v9(x:ao):Bool:=ab4 (λF=>Bool) x (λF F=>true) λF=>false
noncomputable def pA(K:gj)(l:Nat)(x:ao):Option az:=ab5 (λM=>Option az) x (λid F=>if (K id == some .local&&F.line == l)=true then some id else none) λM=>none
noncomputable def fR(K:gj)(F:List ao):List az:=F.filterMap (pA K ((F.head?.map (·.pos.line)).getD 0))
noncomputable def yG(F:gj)(ts vs:List ao):Option (Option (List az)) :=
 if (!(ts.length == 2||ts.length == 3)||vs.length != ts.length)=true then some none
 else if vs.any v9=true then some none
 else if ((fR F ts).length != ts.length||(fR F ts).eraseDups.length != (fR F ts).length)=true then some none
 else if vs.all (CO 8)=true then some none
 else if vs.all (CP 8)=true then none
 else some (some (fR F ts))
noncomputable def jd(F:gj)(x:Nm)(y:az):Bool:=seq (nm x) y&&decide (F y=some .local\/F y=some .cell)
noncomputable def rW(F:gj):List Nm->List ao->Bool
 |[],a=>dt a true
 |x::b,a=>dW a λt r=>(dH t λy K=>jd F x y)&&rW F b r
noncomputable def yH(F:gj)(K:List ao)(q:ao):Bool:=!aJ q.ctorIdx 25||rR q λM O O=>(yG F K M).isSome
noncomputable def BB:jO->Bool
 |.add=>true
 |_=>false
noncomputable def BG(y z:az)(j:Int)(u:Nat)(a b c d e f g:Pos):List ExceptHandler:=[.ExceptHandler (some (.Name y a)) none [.Assign [.Name z b] (.BinOp (.Name z c) .Add (.Constant (.int j) u d) e) f] g]
noncomputable def Ga(h:ExceptHandler)(f:Option ao->Option az->List bz->Bool):Bool:=match h with |.ExceptHandler t n b _=>f t n b
noncomputable def Gb(K:List ExceptHandler)(f:az->az->Int->Bool):Bool:=eu K λh=>Ga h λt n b=>nI n (ed t λt=>dH t λy F=>eu b λst=>nN st λM q F=>eu M λt=>dH t λz F =>
 yn q λa o c F=>decide (o=.Add)&&dH a λO F=>seq z O&&l8 c λv F F=>uC v λj=>f y z j)
mutual
noncomputable def Gc(F:gx)(K:gj):S->bz->Bool
 |.expr e,st=>yz st λq M=>nP q&&bY F K e q
 |.assign x e,st=>nN st λO q M=>eu O λt=>dH t λy M=>(jd K x y&&nP q)&&bY F K e q
 |.setattr o f e,st=>nN st λO q M=>eu O λt=>kJ t λu y M=>seq (nm f) y&&(bY F K o u&&bY F K e q)
 |.fv o i e,st=>nN st λO q M=>eu O λt=>rQ t λu w M=>F7 w&&(bY F K o u&&(bY F K i w&&bY F K e q))
 |.unpack k e,st=>nN st λO q M=>eu O λt=>rR t λT M M=>(rW K k T&&(nP q&&yH K T q))&&bY F K e q
 |.aug x d e,st=>yA st λt o q M=>decide (o=.Add)&&dH t λy M=>(seq (nm x) y&&(decide (K y=some .local)&&BB d))&&bY F K e q
 |.i5 o f d e,st=>yA st λt W q M=>decide (W=.Add)&&kJ t λu y M=>(seq (nm f) y&&BB d)&&(bY F K o u&&bY F K e q)
 |.ite t a b,st=>FV st λV X R M=>jc F K t V&&(je F K a X&&je F K b R)
 |.while t b,st=>FW st λV R e M=>dt e (jc F K t V&&je F K b R)
 |.for x g b,st=>yB st λt q R e M=>dt e (dH t λy M=>(jd K x y&&md q)&&(bY F K g q&&je F K b R))
 |.gU x y g b,st=>yB st λt q R e M=>dt e (rR t λT M M=>(rW K [x,y] T&&md q)&&(bY F K g q&&je F K b R))
 |.ret e,st=>FY st λo M=>uF o (λq=>bY F K e q) (F' e)
 |.brk,st=>FZ st λM=>true
 |.cont,st=>F0 st λM=>true
 |.pass,st=>F4 st λM=>true
 |.raise x h,st=>onRaise st λe c M=>nI c (ed e λe=>iE e λq l p M=>dt p (eu l λm=>dH q λy M=>(nO K y (hZ x)&&we m)&&bY F K h m))
 |.try b x n i,st=>F5 st λr v A B M=>dt A (dt B ((Gb v λy z j=>F.st&&(nO K y (hZ x)&&(seq (nm n) z&&(decide (K z=some .local)&&decide (i=j)))))&&je F K b r))
termination_by structural s=>s
noncomputable def je(F:gx)(K:gj):List S->List bz->Bool
 |[],a=>dt a true
 |s::b,a=>dW a λt r=>Gc F K s t&&je F K b r
termination_by structural b=>b
end
def VR:V->af->Prop
 |.none,v=>v=.none
 |.bool b,v=>v=.bool b
 |.int i,v=>∃t,v=.int i t
 |.str s,v=>∃t,v=.str (dD s) t
 |.txt n,v=>∃x t,v=.str x t/\x.length<=n
 |.bytes b,v=>∃t,v=.bytes b.toArray t/\b.length<=bB
 |.ref a,v=>v=.ref a
 |.fM,v=>v=.ref layA
inductive bf:List V->List af->Prop
 |nil:bf [] []
 |cons {v:V} {x:af} {vs:List V} {xs:List af}:VR v x->bf vs xs->bf (v::vs) (x::xs)
def jT:Option V->Option af->Prop
 |some v,o=>∃x,o=some x/\VR v x
 |none,o=>o=none
def MR(m:M)(F:az->Option af):Prop:=∀x v,mget m x=some v->∃a,F (nm x)=some a/\VR v a
inductive f9:M->List jG->Prop
 |nil:f9 [] []
 |cons {e:jG} {x:Nm} {v:V} {fs:M} {es:List jG} {t:Tok}:e.key=.str (nm x) t->VR v e.val->f9 fs es->f9 ((x,some v)::fs) (e::es)
structure DR(n:Nat)(f:Int->Option V)(es:Array jG):Prop where
 size:es.size<=n
 keys:IntKeys es
 get:∀i,jT (f i) (mT hG es i)
abbrev Wm:=ax->Option Obj
noncomputable def Wm.set(W:Wm)(a:ax)(o:Obj):Wm:=λb=>if b=a then some o else W b
structure Pt where
 ex:Wm
 fr:List (ax×Obj)
noncomputable def Pt.set(p:Pt)(a:ax)(o:Obj):Pt:=⟨p.ex.set a o,p.fr⟩
def nQ(F:List (ax×Obj))(g:dp)(L:ax)(K:dp):Prop:=∀q∈F,(∃a,K.get? q.1=some {q.2 with slots:=a})/\q.1≠L/\g.get? q.1=none
def rX(r:Wm)(c:ax)(F:az):Prop:=∃a b t,r c=some a/\a.data=.fields b/\b[1]?=some (.str F t)
set_option genCtorIdx true in
inductive ik where
 |o |d (a:Nat) |p |r |t
structure Ow where
 W:Wm
 r:Wm
 δ:Nat->Nat
 T:Nat->Option ik
structure Sw(r:Wm)(x:Obj)(f:Fn)(cs:List Nat)(i:Nat)(name qual:az)(params:kl)(body:ao)(scope:dK)(pm ctv:af)(c:ax):Prop where
 f:f=.lam i
 len:cs.length=(ac i).length
 x:x=CQ name qual params body scope (((ac i).map nm).zip cs) pm c ctv
 code:rX r c qual
def OB(r:Wm)(a:Nat)(x:Obj):O->Prop
 |.list g=>∃h n,x={cls:=.type "list",data:=.seq h n}/\bf g h.toList/\g.length<=bB
 |.tup g=>∃h n,x={cls:=.type "tuple",data:=.seq h n}/\bf g h.toList/\g.length<=bB
 |.dict n f=>∃m q,x={cls:=.type "dict",data:=.dict m q}/\DR n f m/\n<=bB/\a≠oF
 |.bl b=>x={cls:=.type "bytearray",data:=.bytearray b.toArray 0}/\b.length<=bB
 |.inst c A=>False
 |.cell v=>∃o,x.data=.cell o/\jT v o
 |.clos f s=>∃i name k d j e t l c,mf i d j e=true/\Sw r x f s i name k d j e t l c
 |.range lo p st=>∃u w z,x={cls:=.type "range",data:=.fields #[.int lo u,.int p w,.int st z]}/\gw lo/\gw p/\(st=1\/st=-1)
 |.ro y g=>x=y/\∃h n,x={cls:=.type "list",data:=.seq h n}/\bf g h.toList/\g.length<=bB
noncomputable def O.jU:O->Bool
 |.inst _ _=>true
 |_=>false
structure HR(p:Wm)(h:Hp)(w:Ow):Prop where
 obj:∀a o,h a=some o->o.jU=false->∃x,w.W a=some x/\OB w.r a x o
 ins:∀a c fs,h a=some (.inst c fs)->∃es n,w.W a=some (go (bV c) (w.δ a))/\w.W (w.δ a)=some (io es n)/\f9 fs es/\w.T (w.δ a)=some (.d a)
 to:∀a o,h a=some o->w.T a=some .o
 tp:∀a o,p a=some o->w.T a=some .p/\w.W a=some o
 tr:∀a o,w.r a=some o->w.T a=some .r/\w.W a=some o
 tw:∀a t,w.T a=some t->(w.W a).isSome=true
 tabs:∀q∈dM,∃ps,w.W q.2=some (iq ps)/\ww ps.toList/\(∀pos cv,mU pos ps.toList=some cv->∃c,cv=.ref c/\rX w.r c (py q.2))/\w.T q.2=some .t
structure d7(s₀ s:ag):Prop where
 gens:s.gens=s₀.gens
 os:s.os=s₀.os
 drawn:s.drawn=s₀.drawn
structure Cx where
 g:dp
 L:ax
 D:ax
 p:Pt
 s₀:ag
structure ez(x:Cx)(h:Hp)(s:ag)(w:Ow):Prop where
 own:∀a o,w.W a=some o->s.heap.get? a=some o/\a≠x.L/\x.g.get? a=none
 hr:HR x.p.ex h w
 fn:∀q∈x.p.fr,w.W q.1=none
structure ai(x:Cx)(h:Hp)(m:M)(s:ag):Prop where
 fr:∃ μ,Fr x.g x.L s.heap μ
 aa:∃ μ,s.heap.Ns x.D μ/\MR m μ
 dist:x.D=x.L\/∃o,x.p.ex x.D=some o
 own:∃w,ez x h s w
 frs:nQ x.p.fr x.g x.L s.heap
 ef:d7 x.s₀ s
theorem bf.length(r:bf a b):a.length=b.length:=by
 induction r with
 |nil=>rfl
 |cons _ _ c=>exact congrArg (·+1) c
theorem bf.append(r:bf b c)(q:bf d e):bf (b++d) (c++e):=by
 induction r with
 |nil=>exact q
 |cons a _ f=>exact .cons a f
theorem bf.get(r:bf b c):∀ {i:Nat} {v:V},b[i]?=some v->∃x,c[i]?=some x/\VR v x:=by
 induction r with
 |nil=>intro i v e;exact aN e
 |cons a _ d =>
  intro i v e;induction i with
  |zero=>refine sF e ?_;exact(aq _ rfl a)
  |succ i=>exact d e
theorem bf.set(r:bf b c){v:V}{x:af}(q:VR v x):∀(i:Nat),bf (b.set i v) (c.set i x):=by
 induction r with
 |nil=>intro i;exact .nil
 |cons a d e =>
  intro i;induction i with
  |zero=>exact .cons q d
  |succ i=>exact .cons a (e i)
theorem bf.take(r:bf b c):∀(i:Nat),bf (b.take i) (c.take i):=by
 induction r with
 |nil=>intro i;rcases i with _ |_<;>exact .nil
 |cons a _ d =>
  intro i;induction i with
  |zero=>exact .nil
  |succ i=>exact .cons a (d i)
theorem bf.drop(r:bf b c):∀(i:Nat),bf (b.drop i) (c.drop i):=by
 induction r with
 |nil=>intro i;rcases i with _ |_<;>exact .nil
 |cons a d e =>
  intro i;induction i with
  |zero=>exact .cons a d
  |succ i=>exact e i
theorem bf.reverse(r:bf b c):bf b.reverse c.reverse:=by
 induction r with
 |nil=>exact .nil
 |cons a _ d=>refine rE wx (rE wx ?_);exact d.append (.cons a .nil)
theorem bf.replicate(q:VR v x):∀n,bf (gm n v) (gm n x)
 | 0=>.nil
 |n+1=>.cons q (bf.replicate q n)
theorem nR:∀(m:M),mget (bu m x v) y=(match nb x y with |true=>some v |false=>mget m y)
 |[]=>by
  refine(?_:(match nb x y with |true=>some v |false=>none)=_);rfl
 |p::r=>by
  have F:=nR (v:=v) (x:=x) (y:=y) r;refine(?_:mget (match nb p.1 x with |true=>(p.1,some v)::r |false=>p::bu r x v) y=(match nb x y with |true=>some v |false=>(match nb p.1 y with |true=>p.2 |false=>mget r y)));induction a:nb p.1 x with
  |true =>
   have e:=eO a;refine(?_:(match nb p.1 y with |true=>some v |false=>mget r y)=_);rw[e];cases nb x y<;>rfl
  |false =>
   refine(?_:(match nb p.1 y with |true=>p.2 |false=>mget (bu r x v) y)=_);rw[F];induction b:nb p.1 y with
   |true =>
    have K:nb x y=false:=by
     induction c:nb x y with
     |false=>rfl
     |true=>rw[eO b,←eO c,o7] at a;exact df a
    rw[K]
   |false=>rfl
theorem bC(W:Wm)(a:ax)(o:Obj):W.set a o a=some o:=if_pos rfl
theorem bv(W:Wm){a b:ax}(o:Obj)(e:b≠a):W.set a o b=W b:=if_neg e
theorem Sx(h:Hp)(a:Nat)(o:O):h.set a o a=some o:=by unfold Hp.set;exact if_pos rfl
theorem Gd(h:Hp){a b:Nat}(o:O)(e:b≠a):h.set a o b=h b:=by unfold Hp.set;exact if_neg e
theorem kO{h:Hp}{a b:Nat}{o y:O}(e:h.set a o b=some y):(b=a/\y=o)\/(b≠a/\h b=some y):=by
 by_cases z:b=a
 ·subst z;rw[Sx] at e;exact .inl ⟨rfl,(bq e).symm⟩
 ·rw[Gd _ _ z] at e;exact .inr ⟨z,e⟩
theorem d7.refl(s:ag):d7 s s:=⟨rfl,rfl,rfl⟩
theorem d7.trans(x:d7 a b)(y:d7 b c):d7 a c:=⟨y.gens.trans x.gens,y.os.trans x.os,y.drawn.trans x.drawn⟩
theorem nQ.keeps(x:nQ c g L d)(K:∀b o,d.get? b=some o->a.get? b=some o):nQ c g L a :=
 λq F=>⟨(x q F).1.imp λM e=>K _ _ e,(x q F).2⟩
theorem nQ.lt(x:nQ a g L b){q:ax×Obj}(F:q∈a):q.1<b.objs.size:=(x q F).1.elim λK e=>fB e
section
variable{x:Cx}{h:Hp}{m:M}{s s':ag}{w:Ow}
theorem HR.has(H:HR p h w){a:Nat}{o:O}(e:h a=some o):∃y,w.W a=some y:=BS.mp (H.tw a _ (H.to a o e))
theorem ez.lt(o:ez x h s w){a:ax}{y:Obj}(e:w.W a=some y):a<s.heap.objs.size:=fB (o.own a y e).1
theorem ez.none(o:ez x h s w){q:ax}(F:s.heap.objs.size<=q):w.W q=none:=by
 induction e:w.W q with
 |none=>rfl
 |some y=>exact absurd (o.lt e) (c8.mpr F)
theorem ai.lt(R:ai x h m s){a:Nat}{o:O}(e:h a=some o):a<s.heap.objs.size:=by
 refine R.own.elim λw O=>?_;refine(O.hr.has e).elim λy F=>?_;exact O.lt F
theorem ai.jV(R:ai x h m s){q:ax}(F:s.heap.objs.size<=q):h q=none:=by
 induction e:h q with
 |none=>rfl
 |some o=>exact absurd (R.lt e) (c8.mpr F)
theorem Fr.kP(F:Fr g L a b){q:ax}(K:a.objs.size<=q):g.get? q=none:=by
 induction e:g.get? q with
 |none=>rfl
 |some x=>exact absurd (fB (F.keep q x e)) (c8.mpr K)
theorem ai.grow(R:ai x h m s)(K:∀b o,s.heap.get? b=some o->s'.heap.get? b=some o)(st:d7 s s'):ai x h m s' :=
 ⟨R.fr.imp λM F=>F.keeps K,R.aa.imp λM N=>⟨N.1.keeps K,N.2⟩,R.dist,R.own.imp λM o=>⟨λa y e=>⟨K _ _ (o.own a y e).1,(o.own a y e).2⟩,o.hr,o.fn⟩,R.frs.keeps K,R.ef.trans st⟩
theorem ai.toks(R:ai x h m s)(t:Nat):ai x h m {s with toks:=t}:=R.grow (λF F e=>e) ⟨rfl,rfl,rfl⟩
theorem pB{T:Nat->Option ik}{a b:Nat}{t u:ik}(F:T a=some t)(K:T b=some u)(h:t≠u):a≠b:=λe=>h (bq (by exact rF F (rF K (rE e rfl))))
theorem HR.put{p:Wm}(H:HR p h w){q:Nat}{o:O}{y:Obj}(hq:w.T q=none/\w.W q=none\/w.T q=some .o/\∀c d,h q≠some (.inst c d))(V:o.jU=false)(W:OB w.r q y o):
  HR p (h.set q o) ⟨w.W.set q y,w.r,w.δ,λb=>if b=q then some .o else w.T b⟩:=by
 have M:∀b t,w.T b=some t->t≠.o->b≠q:=λb t e n z=>by
  subst z;rcases hq with hq |hq
  ·rw[hq.1] at e;exact aN e
  ·rw[hq.1] at e;exact n (bq e).symm
 have F:∀b t,w.T b=some t->t≠.o->(if b=q then some ik.o else w.T b)=some t:=λb t e n=>by refine rE (if_neg (M b t e n)) ?_;exact e
 refine⟨λa z e X=>?_,λa c d e=>?_,λa z e=>?_,λa z e=>?_,λa z e=>?_,λa t e=>?_,λt f=>?_⟩
 ·rcases kO e with ⟨rfl,rfl⟩ |⟨n,e⟩
  ·exact(aq y (bC ..) W)
  ·refine ak (H.obj a z e X) λx K R=>?_;exact(aq x ((bv _ _ n).trans K) R)
 ·rcases kO e with ⟨rfl,rfl⟩ |⟨n,e⟩
  ·exact df V
  ·refine eb (H.ins a c d e) λg k K R i S=>?_;exact(fo g k ((bv _ _ n).trans K) ((bv _ _ (M _ _ S (λz=>nomatch z))).trans R) i (F _ _ S λz=>nomatch z))
 ·rcases kO e with ⟨rfl,rfl⟩ |⟨n,e⟩
  ·exact if_pos rfl
  ·exact(if_neg n).trans (H.to a z e)
 ·have K:=H.tp a z e;exact⟨F _ _ K.1 (λz=>nomatch z),(bv _ _ (M _ _ K.1 λz=>nomatch z)).trans K.2⟩
 ·have K:=H.tr a z e;exact⟨F _ _ K.1 (λz=>nomatch z),(bv _ _ (M _ _ K.1 λz=>nomatch z)).trans K.2⟩
 ·refine(?_:((w.W.set q y) a).isSome=true);by_cases z:a=q
  ·rw[z,bC];rfl
  ·refine rE (bv _ _ z) ?_;exact H.tw a t (by refine rF e ?_;exact(if_neg z).symm)
 ·refine fm (H.tabs t f) λj a1 a2 l T=>?_;exact(eM j ((bv _ _ (M _ _ T λz=>nomatch z)).trans a1) a2 l (F _ _ T λz=>nomatch z))
theorem HR.Sy{p:Wm}(H:HR p h w){q:Nat}{F:Cl}{K O:M}{T:List jG}{n:Nat}(V:h q=some (.inst F K))(j:f9 O T):
  HR p (h.set q (.inst F O)) ⟨w.W.set (w.δ q) (io T n),w.r,w.δ,w.T⟩:=by
 refine eb (H.ins q F K V) λl B o C D d=>?_;have S:∀b t,w.T b=some t->t≠.d q->b≠w.δ q:=λb t e n=>pB e d n;refine⟨λa z e f=>?_,λa c r e=>?_,λa z e=>?_,λa z e=>?_,λa z e=>?_,λa t e=>?_,λt u=>?_⟩
 ·rcases kO e with ⟨rfl,rfl⟩ |⟨n,e⟩
  ·exact df f
  ·refine ak (H.obj a z e f) λx R W=>?_;exact(aq x ((bv _ _ (S a _ (H.to a z e) λz=>nomatch z)).trans R) W)
 ·rcases kO e with ⟨rfl,z⟩ |⟨n,e⟩
  ·cases z;exact(fo T n ((bv _ _ (S a _ (H.to _ _ V) λz=>nomatch z)).trans o) (bC ..) j d)
  ·refine eb (H.ins a c r e) λX k R W v g=>?_;exact(fo X k ((bv _ _ (S a _ (H.to _ _ e) λz=>nomatch z)).trans R) ((bv _ _ (S _ _ g λz=>n (by injection z))).trans W) v g)
 ·rcases kO e with ⟨rfl,rfl⟩ |⟨n,e⟩
  ·exact H.to _ _ V
  ·exact H.to a z e
 ·have R:=H.tp a z e;exact⟨R.1,(bv _ _ (S _ _ R.1 λz=>nomatch z)).trans R.2⟩
 ·have R:=H.tr a z e;exact⟨R.1,(bv _ _ (S _ _ R.1 λz=>nomatch z)).trans R.2⟩
 ·refine(?_:((w.W.set (w.δ q) (io T n)) a).isSome=true);by_cases z:a=w.δ q
  ·rw[z,bC];rfl
  ·refine rE (bv _ _ z) ?_;exact H.tw a t e
 ·refine fm (H.tabs t u) λy a1 a2 A i=>?_;exact(eM y ((bv _ _ (S _ _ i λz=>nomatch z)).trans a1) a2 A i)
theorem ai.Ge(R:ai x h m s){o:O}{y:Obj}(S:o.jU=false)(T:y.isFreed=false)(V:∀w,ez x h s w->OB w.r s.heap.objs.size y o):
  ai x (h.set s.heap.objs.size o) m {s with heap:=s.heap.push y}:=by
 have K:∀b o,s.heap.get? b=some o->(s.heap.push y).get? b=some o:=λb o e=>dC _ e;refine R.fr.elim λW F=>?_;refine R.own.elim λw O=>?_;refine⟨⟨W,F.keeps K⟩,R.aa.imp λX N=>⟨N.1.keeps K,N.2⟩,R.dist,⟨_,⟨λa z e=>?_,O.hr.put (.inl ⟨?_,O.none (a6 _)⟩) S (V _ O),λq M=>?_⟩⟩,R.frs.keeps K,R.ef.trans ⟨rfl,rfl,rfl⟩⟩
 ·by_cases q:a=s.heap.objs.size
  ·subst q;rw[show z=y from (bq ((bC ..).symm.trans e)).symm];exact(aH (mV _ T) (gp F.ns.lt) (Fr.kP F (a6 _)))
  ·have e:=(bv _ _ q).symm.trans e;exact⟨K _ _ (O.own a z e).1,(O.own a z e).2⟩
 ·induction e:w.T s.heap.objs.size with
  |none=>rfl
  |some t=>have:=O.hr.tw _ _ e;rw[O.none (a6 _)] at this;exact a9 this
 ·exact(bv _ _ (cK (R.frs.lt M))).trans (O.fn q M)
theorem ai.push(R:ai x h m s){o:O}{y:Obj}(F:o.jU=false)(K:y.isFreed=false)(M:∀r,OB r s.heap.objs.size y o):
  ai x (h.set s.heap.objs.size o) m {s with heap:=s.heap.push y}:=R.Ge F K λw S=>M w.r
theorem ai.change(R:ai x h m s){q:Nat}{K o:O}{y:Obj}(W:h q=some K)(M:K.jU=false)(j:o.jU=false)
  (same:∀b z,b≠q->s.heap.get? b=some z->s'.heap.get? b=some z) (k:s'.heap.get? q=some y) (st:d7 s s')
  (l:∀r,OB r q y o):ai x (h.set q o) m s':=by
 refine R.fr.elim λn F=>?_;refine ak R.aa λp N r=>?_;refine R.own.elim λw O=>?_;refine(O.hr.has W).elim λz f=>?_;have X:=O.own q z f;have g:x.D≠q:=by
  rcases R.dist with d |⟨B,d⟩
  ·refine rE d ?_;exact X.2.1.symm
  ·exact pB (O.hr.tp _ _ d).1 (O.hr.to _ _ W) λz=>nomatch z
 have V:ti q s.heap s'.heap:=λb y u e=>same b y u e;refine⟨⟨n,F.ns.extBut V X.2.1.symm,λb y e=>same b y (λv=>by rw[v,X.2.2] at e;exact aN e) (F.keep b y e),F.above⟩,(aq p (N.extBut V g) r),R.dist,⟨_,⟨λa z e=>?_,O.hr.put (.inr ⟨O.hr.to _ _ W,λc C e=>by rw[W] at e;obtain rfl:=bq e;exact df M⟩) j (l _),λt T=>?_⟩⟩,λt T=>⟨?_,(R.frs t T).2⟩,R.ef.trans st⟩
 ·by_cases i:a=q
  ·subst i;rw[show z=y from (bq ((bC ..).symm.trans e)).symm];exact⟨k,X.2⟩
  ·have e:=(bv _ _ i).symm.trans e;exact⟨same _ _ i (O.own a z e).1,(O.own a z e).2⟩
 ·have S:t.1≠q:=λe=>by have:=O.fn t T;rw[e,f] at this;exact cX this
  exact(bv _ _ S).trans (O.fn t T)
 ·have S:t.1≠q:=λe=>by have:=O.fn t T;rw[e,f] at this;exact cX this
  refine((R.frs t T).1).elim λA e=>?_;exact⟨A,same _ _ S e⟩
end
section
variable{α β:Type}{M:cV}{A:bk}{E:af->ag->Prop}{s:ag}
theorem rY(h:Q () s):aj M A (release a b) Q E s:=λK p F F=>by rw[Sem.wp_release];exact h
theorem Gf[Decidable c]{a b:Sem α}{Q:α->ag->Prop}(F:c->aj M A a Q E s)(K:¬c->aj M A b Q E s):aj M A (if c then a else b) Q E s:=by
 exact wy (λe=>rE (if_pos e) (F e)) λe=>rE (if_neg e) (K e)
theorem acA{f:α->β}{Q:β->ag->Prop}(h:aj M A m (λa K=>Q (f a) K) E s):aj M A (m>>=λa=>a8 (f a)) Q E s:=ar (aF h (λF F q=>aI q) λF F e=>e)
def fx(dg:List ao):Prop:=∀e∈dg,v9 e=false
noncomputable def dZ(F:Env)(dg:List ao):List (Bool×Sem af):=dg.map λe=>(false,eval e F)
theorem Gg:∀ {dg:List ao},fx dg->wz dg env=dZ env dg
 |[],_=>rfl
 |e::r,h=>by
  have F:=h e (.head _);have K:=Gg (env:=env) (dg:=r) λx O=>h x (.tail _ O);rcases e with _ |_<;>first |(exact df F;done) |skip
  all_goals (show _::wz r env=_::_;refine rE K ?_;rfl)
theorem Sz(dg:List ao):wA b (dZ a dg)=dZ a dg:=by
 unfold wA dZ;refine rE oG ?_;rfl
theorem yI(h:fx dg):wA b (wz dg a)=dZ a dg:=by
 rw[Gg h,Sz]
theorem yJ(h:Q [] s):aj M A (lC (dZ a [])) Q E s:=aI h
theorem uH{Q:List af->ag->Prop}
  (h:aj M A (eval e a) (λv F=>aj M A (lC (dZ a r)) (λT K=>Q (v::T) K) E F) E s):aj M A (lC (dZ a (e::r))) Q E s:=by
 show aj M A (lC ((false,eval e a)::dZ a r)) Q E s;rw[lC];refine ar (aF h (λv F O=>?_) λS S x=>x);simp only[wB,if_false];exact ar (aI (ar (bO (aF O (λT K R=>aI R) λS S x=>x))))
theorem SA{Q:qy->ag->Prop}
  (h:aj M A (lC (dZ a dg)) (λO R=>Q ⟨O,[]⟩ R) E s):aj M A (evalArgs f true (dZ a dg) []) Q E s:=by
 unfold evalArgs;cases dg with
 |nil=>exact ar (aF h (λO R F=>bO (ar (aI (ar (aI (aI F)))))) λK K e=>e)
 |cons e r =>
  cases r with
  |nil=>exact ar (aF h (λO R F=>bO (ar (aI (ar (aI (aI F)))))) λK K e=>e)
  |cons b r=>exact ar (aF h (λO R F=>bO (ar (aI (ar (aI (aI F)))))) λK K e=>e)
def kQ(M:cV)(A:bk)(f:af)(s:ag):Prop:=∀E:af->ag->Prop,aL M A (CR f) (λK F=>F=s) E s
theorem kY{id:String}:kQ M A (.builtin id) s:=λE=>wpAny_pure rfl
theorem pC:kQ M A (.type t) s:=λE=>wpAny_pure rfl
theorem Gh(F:s.heap.get? a=some o)(K:o.data=.func b):kQ M A (.ref a) s:=λE=>by
 unfold CR;refine aw (hF F ?_);refine rE K ?_;exact wpAny_pure rfl
theorem uI{Q:af->ag->Prop}
  (h:aj M A (lC (dZ a dg)) (λT K=>kQ M A f K/\aj M A (call f (first++T) []) Q E K) E s) :
  aj M A (oH b f first (dZ a dg) []) Q E s:=by
 unfold oH;refine ar (bO (SA (aF h (λT K O=>ar (iD ?_)) λF F e=>e)));have X:(dZ a dg).any (·.1)=false:=by
  unfold dZ;refine rE List.any_map ?_;exact Ld.mpr λF F=>by simp
 refine rE X ?_;refine a' (gn (O.1 E) (λc R e=>?_) λF F e=>e);subst e;have S:aj M A (call f (first++T) []) (λr V=>aj M A (hE [r] te>>=λF=>a8 r) Q E V) E R :=
  aF O.2 (λr V q=>ar (bO (yj (aI q)))) λF F e=>e
 have W:∀mk:af,aj M A (callMarked mk f (first++T) []) (λr V=>aj M A (hE [r] te>>=λF=>a8 r) Q E V) E R:=λmk=>RW S;rcases c with _ |_<;>dsimp only
 ·exact Gf (λF=>ar S) (λF=>ar (W _))
 ·exact Gf (λF=>ar S) (λF=>ar (W _))
 ·exact ar S
 ·exact ar (nG S)
end
section
variable{pg:bJ}{w:bE}{A:bk}{R:eI->ag->Prop}{s:ag}
theorem uJ{id:String}{args:qy}{b:CS}(F:gq table id=some b)
  (h:aj (av pg w) (A.under (.builtin id args)) (b args) (nH (av pg w) A R) (λe K=>R (.error e) K) s):cy (av pg w) A (.builtin id args) R s:=by
 refine fw ?_;show aj _ _ (match gq table id with |some b=>b args |none=>BU ((withoutEnding? id "#data").getD id)) _ _ s;refine rE F ?_;exact h
theorem yK{id:String}{args:qy}{b:CS}(S:plainId id=true)(T:hW (.builtin id args)=false)(V:gq table id=some b)
  (h:aL (av pg w) A.in1 (checkBuiltinCall id args) (λM F=>aj (av pg w) A.in1 (b args) (nH (av pg w) A R) (λe O=>R (.error e) O) F) (λe O=>R (.error e) O) s) :
  cy (av pg w) A (.call (.builtin id) args) R s:=by
 refine fw ?_;show aj _ A.in1 (do checkBuiltinCall id args;again (.builtin id args)) _ _ s;exact a' (gn h (λM F K=>aI (aH (plainId_quiet S args) T (uJ V (by refine rE (CT S args) ?_;exact K)))) λM M e=>e)
def mh(Q:af->ag->Prop)(E:af->ag->Prop):eI->ag->Prop:=λr F=>match r with |.ok (.ret v)=>Q v F |.ok _=>False |.error e=>E e F
end
noncomputable def Cx.bw(x:Cx)(a:ax)(o:Obj):Cx:={x with p:=x.p.set a o}
def f'(x:Cx)(y:Ex)(e:af)(h:Hp)(m:M)(s:ag):Prop :=
 ∃a b c,e=.ref a/\b.cls=.ref (ee y)/\b.data=.fields c/\x.p.ex a=none /\
  ((c[1]?=some .none/\ai (x.bw a b) h m s) \/
  (∃T d f,c[1]?=some (.ref T)/\T≠a/\d.data=.fields f/\f[3]?=some .none/\x.p.ex T=none/\ai ((x.bw a b).bw T d) h m s))
def jg(x:Cx)(Q:PV)(v:af)(s:ag):Prop:=∃u h m,VR u v/\ai x h m s/\Q u h m
def yL(x:Cx)(N:Nat)(Q:List V->Hp->M->Prop)(F:List af)(s:ag):Prop:=∃a h m,bf a F/\a.length=N/\ai x h m s/\Q a h m
def eR(x:Cx)(E:PE)(e:af)(s:ag):Prop:=∃y h m,f' x y e h m s/\E y h m
def PB(x:Cx)(Q:Bool->Hp->M->Prop)(r:Bool)(s:ag):Prop:=∃h m,ai x h m s/\Q r h m
def cS(x:Cx)(m:M)(Q:V->Hp->Prop)(v:af)(s:ag):Prop:=∃u h,VR u v/\ai x h m s/\Q u h
theorem fS(u:V)(h:Hp)(m:M)(a:VR u v)(b:ai x h m s)(c:Q u h m):jg x Q v s:=⟨u,h,m,a,b,c⟩
theorem eS{X:Prop}(w:jg x Q v s)(k:∀u h m,VR u v->ai x h m s->Q u h m->X):X:=fJ w k
theorem Gi(u:List V)(h:Hp)(m:M)(a:bf u v)(n:u.length=N)(b:ai x h m s)(c:Q u h m):yL x N Q v s:=⟨u,h,m,a,n,b,c⟩
theorem yM{X:Prop}(w:yL x N Q v s)(k:∀u h m,bf u v->u.length=N->ai x h m s->Q u h m->X):X:=iw w k
theorem SC(y:Ex)(h:Hp)(m:M)(a:f' x y e h m s)(c:E y h m):eR x E e s:=⟨y,h,m,a,c⟩
theorem SD{X:Prop}(w:eR x E e s)(k:∀y h m,f' x y e h m s->E y h m->X):X:=c4 w k
theorem jB(h:Hp)(m:M)(b:ai x h m s)(c:Q r h m):PB x Q r s:=⟨h,m,b,c⟩
theorem lB{X:Prop}(w:PB x Q r s)(k:∀h m,ai x h m s->Q r h m->X):X:=let ⟨h,m,b,c⟩:=w;k h m b c
theorem c5(u:V)(h:Hp)(a:VR u v)(b:ai x h m s)(c:Q u h):cS x m Q v s:=⟨u,h,a,b,c⟩
theorem Gj{X:Prop}(w:cS x m Q v s)(k:∀u h,VR u v->ai x h m s->Q u h->X):X:=bL w k
structure eE(K:bc):Prop where
 dF:∀x i,nE x=some i->∃t,nsIn K mainGlobals (nm x)=some (some (.int i t))
 Gk:∀f y,qr f=some y->nsIn K mainGlobals y=some (some (.ref (dL f)))
 rT:∀f y,qr f=some y->(y == ("__debug__" : az))=false/\iU f.i 72=true
 Gl:∀c,nsIn K mainGlobals (lu c)=some (some (.ref (bV c)))
 Gm:∀x,nsIn K mainGlobals (hZ x)=some (some (.ref (ee x)))
 SF:∀b,nsIn K mainGlobals (l' b)=some none
 lay:∃t1 t2 n,K.lookup layA=some {cls:=.type "tuple",data:=.seq #[.int 2 t1,.int 3 t2] n}
 get:∀c,plainGet K (bV c) "" = true
 hd:∀c,hasDictIn K (bV c)=true
 set:∀c,fC K (.ref (bV c)) "__setattr__" = some (some (.builtin "object.__setattr__"))
 over:∀c,plainOver K (bV c)=true
 field:∀c f,look c f=.field->fC K (.ref (bV c)) (nm f)=some none
 const:∀c f v,look c f=.const v->∃a,fC K (.ref (bV c)) (nm f)=some (some a)/\VR v a/\km K a "__get__" = some none/\Le.contains (nm f)=false
 aX:∀c f g,look c f=.aX g->fC K (.ref (bV c)) (nm f)=some (some (.ref (dL g)))/\isFn K (.ref (dL g))=true/\iU g.i 72=true
 make:∀c f,look c .init=.aX f->wC K (bV c)=true
 ga:∀c,km K (.ref (bV c)) "__getattribute__" = some (some (.builtin "type.__getattribute__"))
 cls:∀c f,look c .init=.aX f->∃mc,typeIn K (.ref (bV c))=some mc/\CU K (bV c) mc=true/\findCls K (.ref (bV c)) mc "__init__" = some (.val (.ref (dL f)))
 prop:∀c f g,look c f=.prop g->iU g.i 72=true/\∃p rest,fC K (.ref (bV c)) (nm f)=some (some (.ref p))/\km K (.ref p) "__get__" = some (some (.builtin "property.__get__"))/\CV K (.ref p)=some true /\
  wD K p "property" = some (.ref (dL g)::rest)
 fns:∀f,iU f.i 72=true->∃o fd,K.lookup (dL f)=some o/\o.data=.func fd
theorem pD(F:∀i,seq (⟨#[0,i]⟩:az) y=false):∀ {l:List String},(l.all λz=>!seq (dD z) y)=true->∀i,seq (kK l i) y=false
 |[],_,i=>F i
 |a::l,h,0=>by
  rw[Lf] at h;exact lD _▸(an h).1
 |a::l,h,i+1=>by
  rw[Lf] at h;exact pD F (an h).2 i
theorem SG(h:a≠b):seq a b=false:=by
 induction e:seq a b with
 |false=>rfl
 |true=>exact absurd (seq_eq e) h
theorem rZ(F:y.cps[0]?≠some 0)(i:Nat):seq (⟨#[0,i]⟩:az) y=false:=SG λe=>F (by refine rF e ?_;rfl)
theorem r4(x:Nm):(nm x == ("__debug__" : az))=false:=by
 have:seq (nm x) "__debug__" = false:=pD (rZ (by decide +kernel)) (by kernel_rfl) x.i;exact beq_eq_false_iff_ne.mpr λe=>by rw[e,pz] at this;exact df this
theorem SH(x:Nm):nm x≠(".0" : az):=λe=>by
 have:seq (nm x) ".0" = false:=pD (rZ (by decide +kernel)) (by kernel_rfl) x.i;rw[e,pz] at this;exact df this
theorem SI(x:Nm):(nm x == ("__classdict__" : az))=false:=by
 have:seq (nm x) "__classdict__" = false:=pD (rZ (by decide +kernel)) (by kernel_rfl) x.i;exact beq_eq_false_iff_ne.mpr λe=>by rw[e,pz] at this;exact df this
structure Zx where
 K:bc
 pg:bJ
 w:bE
 lam:gx
 n:Nat
 c:Cs
 A:bk
 env:Env
 x:Cx
noncomputable abbrev Zx.M(Z:Zx):cV:=av Z.pg Z.w
def Gn(F:Option (List Env))(x:Cx):Prop:=∃a,F=some a/\a≠[]/\∀e∈a,e.scope.kind=.function/\(e.frame=some x.L\/∃q∈x.p.fr,e.frame=some q.1/\∀b,q.2.data≠.fields b)
structure gY(K:bc)(n:Nat)(A:bk)(x:Cx):Prop where
 X:K.In x.g
 T:∃p loose mean mg mb,Top p loose mean mg mb x.g
 nS:Gn A.frames x
 depth:A.depth+6*n+8<kj
 units:A.units+200*n+150<kn
 handled:A.handled=none
structure bg(Z:Zx):Prop where
 kind:Z.env.scope.kind=.function
 locs:Z.env.locals=Z.x.D
 glob:Z.env.globals=mainGlobals
 jh:Z.env.builtins=im
 cells:∀x a,cF Z.c x=some a->Z.env.kindOf (nm x)=some .cell\/Z.env.kindOf (nm x)=some .free->Z.env.cells.lookup (nm x)=some a
 kinds:∀x,Z.env.kindOf (nm x)=some .local->cF Z.c x=none
 mi:∀x,Z.env.kindOf (nm x)=some .cell->∃a,cF Z.c x=some a
 X:Z.K.In Z.x.g
 T:∃p loose mean mg mb,Top p loose mean mg mb Z.x.g
 nS:Gn Z.A.frames Z.x
 depth:Z.A.depth+6*Z.n+12<kj
 units:Z.A.units+200*Z.n+200<kn
 handled:Z.A.handled=none
 yN:∀y,Z.env.kindOf y=some .cell\/Z.env.kindOf y=some .free->∃a,Z.env.cells.lookup y=some a
 cn:∀x a,cF Z.c x=some a->er x Z.lam.cn=true
 pE:∀i as b sc,Z.lam.ok i as b sc=true->∃q∈dM,Z.env.code=.ref q.1/\CodeHd Z.x.g q.1 q.2/\py q.2=Z.env.qual++("<lambda>" : az)/\mf i as b sc=true/\Lg as Z.env=([],[]) /\
  (sc.names.filter (·.2 == .free)).map (·.1)=((ac i).map nm).reverse/\(∀x∈ac i,Z.env.kindOf (nm x)=some .cell\/Z.env.kindOf (nm x)=some .free)/\mainGlobals≠q.2/\∃mg,Z.x.g.Ns mainGlobals mg/\Z.x.g.BuiltinsAt mg q.2
 top:Z.lam.st=true->Z.env.frame=some Z.x.L/\∃fs,Z.A.frames=some (Z.env::fs)
 FK:eE Z.K
def SE(Z:Zx)(e:X)(pe:ao):Prop:=∀ {s:ag} {h:Hp} {m:M} {Q:PV} {E:PE},ai Z.x h m s->ev look ac (runs Z.n) Z.c e h m Q E ->
 aj Z.M Z.A (eval pe Z.env) (jg Z.x Q) (eR Z.x E) s
def gy(Z:Zx)(F:List X)(K:List ao):Prop:=∀ {s:ag} {h:Hp} {m:M} {Q:List V->Hp->M->Prop} {E:PE},ai Z.x h m s->cY look ac (runs Z.n) Z.c F h m Q E ->
 aj Z.M Z.A (lC (dZ Z.env K)) (yL Z.x F.length Q) (eR Z.x E) s
def SB(Z:Zx)(e:X)(pe:ao):Prop:=∀ {s:ag} {h:Hp} {m:M} {Q:Bool->Hp->M->Prop} {E:PE},ai Z.x h m s->ev look ac (runs Z.n) Z.c e h m (λv h m=>cD v λr=>Q r h m) E ->
 aj Z.M Z.A (isTrue pe Z.env (eval pe Z.env)) (PB Z.x Q) (eR Z.x E) s
section
variable{Z:Zx}
theorem bg.uK(F:bg Z):Z.A.units+100<kn:=aV (ah (dy (show 100<=200 by decide) _) (dS (cP _ _) 200)) F.units
theorem bg.room(F:bg Z){K:bk}(M:K.frames=Z.A.frames)(O:K.handled=Z.A.handled)(R:K.depth<=Z.A.depth+4)(S:K.units<=Z.A.units+50):gY Z.K Z.n K Z.x :=
 ⟨F.X,F.T,by refine rE M ?_;exact F.nS,aV (by rw[sY];exact ah (dS (dS R 8) _) (by lia)) F.depth,aV (abY S) F.units,by rw[O];exact F.handled⟩
theorem bg.name(F:bg Z){h:Hp}{m:M}{s:ag}(R:ai Z.x h m s){y:az}{v:af}{K:Pos}{Q E:af->ag->Prop}(V:Z.env.kindOf y=some .globalImplicit)
  (W:nsIn Z.K mainGlobals y=some (some v)) (X:(y == ("__debug__" : az))=false) (q:Q v s):aj Z.M Z.A (eval (.Name y K) Z.env) Q E s:=by
 refine ku F.T λa O S b c T=>?_;obtain⟨d,Fr⟩:=R.fr;exact bj (wE F.kind V (Lh (by refine rE F.glob ?_;exact T.g.keeps Fr.keep) (wF F.X T.g W) q) X)
theorem Go(q:cD v Q):∃b,v=.bool b/\Q b:=by
 rcases v with _ |_<;>first |exact(aq _ rfl q) |exact q.elim
theorem uL(q:br b P a):(b=true/\P)\/(b=false/\a):=by
 rcases b with ⟨⟩
 ·exact .inr ⟨rfl,q⟩
 ·exact .inl ⟨rfl,q⟩
theorem jg.test{s:ag}(z:jg x (λv h m=>cD v λr=>Q r h m) v s):∃r,v=.bool r/\PB x Q r s:=by
 refine eS z λu h m r R q=>?_;refine ak (Go q) λb F q=>?_;subst F;exact⟨b,r,h,m,R,q⟩
theorem SJ:SE Z .none (.Constant .none u a):=λ{s h m Q E} R b=>bj (wpAny_Constant_none (fS .none h m rfl R b))
theorem SK:SE Z (.bool b) (.Constant (.bool b) u a):=λ{s h m Q E} R c=>bj (wpAny_Constant_bool (fS (.bool b) h m rfl R c))
theorem SL{b:Int}{u:Nat}:SE Z (.int b) (.Constant (.int b) u a):=λ{s h m Q E} R c=>bj (CW (fS (.int b) h m ⟨_,rfl⟩ (R.toks _) c))
theorem SM:SE Z (.str b) (.Constant (.str (dD b)) u a):=λ{s h m Q E} R c=>bj (Constant_str (fS (.str b) h m ⟨_,rfl⟩ (R.toks _) c))
theorem SN:SE Z .lX (.Constant (.bytes []) u a):=λ{s h m Q E} R b =>
 (show aj _ _ (mkTextBytes #[]) _ _ _ from λF F F F=>(fS (.bytes []) h m (aq _ rfl (ca _)) (R.toks _) b))
theorem SO(F:bg Z){x:Nm}{M:Pos}(O:Z.env.kindOf (nm x)=some .local):SE Z (.aa x) (.Name (nm x) M):=by
 intro s h m Q E R K;refine ak R.aa λW N r=>?_;have K:(match mget m x with |.some v=>Q v h m |.none=>False):=K;induction a:mget m x with
 |none=>rw[a] at K;exact K.elim
 |some v =>
  rw[a] at K;refine ak (r x v a) λS T V=>?_;exact bj (tj (tm F.kind O (by refine rE F.locs ?_;exact N) T (fS v h m V R K)) (r4 x))
theorem ai.cell(R:ai x h m s){a:Nat}{v:Option V}(F:h a=some (.cell v)):∃b,s.heap.IsCell a b/\jT v b:=by
 refine R.own.elim λw O=>?_;refine o4 (O.hr.obj a _ F rfl) λy K b M S=>?_;exact(aq b (aq y ((O.own a y K).1) M) S)
theorem SQ(F:bg Z){x:Nm}{O:Pos}(V:Z.env.kindOf (nm x)=some .cell\/Z.env.kindOf (nm x)=some .free):SE Z (.bh x) (.Name (nm x) O):=by
 intro s h m Q E R M;have M:(match cF Z.c x with |.some a=>∃v,h a=.some (.cell (.some v))/\Q v h m |.none=>False):=M;induction b:cF Z.c x with
 |none=>rw[b] at M;exact M.elim
 |some a =>
  rw[b] at M;refine ak M λv W M=>?_;refine o4 (R.cell W) λc K X S T=>?_;subst S;refine bj (tj ?_ (r4 x));rcases V with h2 |h2
  ·exact wpAny_loadName_cell F.kind h2 (F.cells x a b (.inl h2)) K (fS v h m T R M)
  ·exact wpAny_loadName_free F.kind h2 (F.cells x a b (.inr h2)) K (fS v h m T R M) (SI x)
theorem SR(F:bg Z){x:Nm}{M:Pos}(O:Z.env.kindOf (nm x)=some .globalImplicit):SE Z (.dF x) (.Name (nm x) M):=by
 intro s h m Q E R K;have K:(match nE x with |.some i=>Q (.int i) h m |.none=>False):=K;induction a:nE x with
 |none=>rw[a] at K;exact K.elim
 |some i =>
  rw[a] at K;refine(F.FK.dF x i a).elim λt e=>?_;exact F.name R O e (r4 x) (fS (.int i) h m ⟨_,rfl⟩ R K)
theorem Gp{M:cV}{A:bk}{E:af->ag->Prop}{s:ag}{K:Env}{S:K6}{x:ao}{R:Pos}{Q:af->ag->Prop}
  (h:aj M A (eval x K) (λv F=>aj M A (unaryOp S v) Q E F) E s):aj M A (eval (.UnaryOp S x R) K) Q E s:=by
 rw[arm_eval_UnaryOp];exact ar (aF h (λv F O=>cg (bO O)) λT T e=>e)
theorem SU(F:SE Z a c):SE Z (.neg a) (.UnaryOp .USub c d):=by
 intro s h m Q E R K;refine Gp (aF (F R K) ?_ λM M e=>e);rintro O S ⟨u,f,g,j,k,b⟩;induction u with
 |int i =>
  obtain⟨t,rfl⟩:=j;exact bj (Li (fS (.int (-i)) f g ⟨_,rfl⟩ (k.toks _) b))
 |_=>exact b.elim
theorem SV(K:SB Z a b):SB Z (.not a) (.UnaryOp .Not b c):=by
 intro s h m Q E R M;rw[arm_isTrue_UnaryOp];exact ar (aF (K (Q:=λr h m=>Q (!r) h m) R M) (λF F q=>aI q) λF F e=>e)
end
theorem SW(h:dD a=dD b):a=b:=by
 rw[CX,CX] at h;injection h with h;have h:=congrArg Lj h;rw[qE,qE] at h;have h:a.toList=b.toList:=CY (f:=Lk) (λx y e=>Char.toNat_inj.mp e) |>.mp h
 exact String.ext_iff.mpr h
noncomputable def ji(d:D0):Dat :=
 match d.1 with
 |true=>.tuple (d.2.map .int)
 |false=>.int d.2.head!
theorem Gq{a b:List Int}(h:a.map iV=b.map iV):a=b:=(CY λF F=>Ll).mp h
theorem pF(F:List Int)(n:Nat):kqdOk (n+2) (.tuple (F.map iV))=true:=by
 show(F.map iV).all (kqdOk (n+1))=true;refine rE List.all_map ?_;exact eX.mpr λx K=>rfl
structure mH(d:D0):Prop where
 one:d.1=false->∃i,d.2=[i]
theorem SX(F:mH a)(K:mH b)(h:ji a=ji b):a=b:=by
 obtain⟨M,O⟩:=a;obtain⟨R,S⟩:=b;rcases M with _ |_<;>rcases R with ⟨⟩
 ·obtain⟨i,rfl⟩:=F.one rfl;obtain⟨j,rfl⟩:=K.one rfl;have e:i=j:=Ll h;exact rE e rfl
 ·rcases h with ⟨⟩
 ·rcases h with ⟨⟩
 ·have e:O=S:=Gq (Lm h);exact rE e rfl
theorem SY{a:List D0}:∀ {b:List D0},(∀d∈a,mH d)->(∀d∈b,mH d)->a.map ji=b.map ji->a=b:=by
 induction a with
 |nil=>exact λF K h=>(Ln.mp h.symm).symm
 |cons x a c =>
  intro b F K h;induction b with
  |nil=>exact mI h
  |cons y b =>
   exact rE (SX (F _ (.head _)) (K _ (.head _)) (Lo h).1) (rE (c (λd M=>F d (.tail _ M)) (λd M=>K d (.tail _ M)) (Lo h).2) rfl)
theorem uM(F:List D0):∀d∈F.map ji,kqdOk 8 d=true:=by
 intro d K;obtain⟨⟨t,M⟩,_,rfl⟩:=eo.mp K;rcases t with ⟨⟩
 ·rfl
 ·exact pF M 6
noncomputable def jk(W:Wm)(n:Nat):List (ax×Obj):=(eH n).filterMap λa=>(W a).map λo=>(a,o)
theorem yO:(a,o)∈jk W n<->a<n/\W a=some o:=by
 unfold jk;rw[wG];constructor
 ·rintro⟨b,F,e⟩;refine ak (hH.mp e) λR K z=>?_;cases z;exact⟨lE.mp F,K⟩
 ·rintro⟨M,O⟩;exact(aq a (lE.mpr M) (by refine rE O ?_;rfl))
section
variable{x:Cx}{h:Hp}{m:M}{s:ag}{w:Ow}
theorem ez.news(o:ez x h s w)(n:Nat):News x.g x.L s.heap (jk w.W n):=by
 rintro⟨a,y⟩ F;exact o.own a y (yO.mp F).2
theorem ez.mem(o:ez x h s w){a:ax}{y:Obj}(e:w.W a=some y):(a,y)∈jk w.W s.heap.objs.size:=yO.mpr ⟨o.lt e,e⟩
theorem yP{K:List V}{M:List af}(r:bf K M):∀ {F:List Int},oB K=some F->qF a M (F.map iV):=by
 induction r with
 |nil=>intro F e;refine sF e ?_;exact .nil
 | @cons v x K M r c b =>
  intro F e;induction v with
  |int i =>
   obtain⟨t,rfl⟩:=r;refine ak (hH.mp e) λS R O=>?_;subst O;exact .cons (.int i t) (b R)
  |_=>exact aN e
theorem SZ(H:ez x h s w){v:V}{y:af}{d:D0}(r:VR v y)(e:itemOf h v=some d):DatIn (jk w.W s.heap.objs.size) y (ji d)/\mH d:=by
 cases v with
 |int i=>cases e;obtain⟨t,rfl⟩:=r;exact⟨.int i t,⟨λS=>⟨i,rfl⟩⟩⟩
 |ref a =>
  cases r;have e:(match h a with |.some (.tup c)=>(oB c).map λK=>(true,K) |_=>.none)=some d:=e;cases b:h a with
  |none=>rw[b] at e;cases e
  |some o =>
   rw[b] at e;rcases o with _ |_<;>first |cases e |skip
   refine ak (hH.mp e) λK M F=>?_;refine rF F ?_;obtain⟨y,O,⟨T⟩,W,rfl,R,_⟩:=H.hr.obj a _ b rfl;exact⟨.tuple (H.mem O) (yP R M),⟨λz=>df z⟩⟩
 |_=>cases e
theorem Gr(H:ez x h s w){M:List V}{O:List af}(r:bf M O):∀ {F:List D0},mJ h M=some F->qF (jk w.W s.heap.objs.size) O (F.map ji)/\∀d∈F,mH d:=by
 induction r with
 |nil=>intro F e;refine sF e ?_;exact⟨.nil,λb h=>dx h⟩
 |cons r c a =>
  intro F e;refine ak (wH.mp e) λd T e=>?_;refine ak (hH.mp e) λf W K=>?_;refine rF K ?_;have R:=SZ H r T;have S:=a W;exact⟨.cons R.1 S.1,λd X=>(cW.mp X).elim (λz=>z▸R.2) λz=>S.2 d z⟩
structure yQ(M:cV)(A:bk)(a b:af)(Er:af->ag->Prop)(s:ag)(r:Bool):Prop where
 eq:∀ {P:af->ag->Prop},P (.bool r) s->aL M A (lF .Eq a b) P Er s
 ne:∀ {P:af->ag->Prop},P (.bool (!r)) s->aL M A (lF .NotEq a b) P Er s
theorem uN[BEq c][LawfulBEq c][DecidableEq c]{a b:c}:(a == b)=decide (a=b):=by
 by_cases z:a=b
 ·rw[decide_eq_true z,z,beq_self_eq_true]
 ·refine rE (decide_eq_false z) ?_;exact beq_eq_false_iff_ne.mpr z
theorem Gs[BEq c][LawfulBEq c][DecidableEq c]{a b:c}:(a != b)=!(decide (a=b)):=congrArg _ uN
theorem S0{a b:Nat}{S T:Nat}{p q:List Int}(H:ez x h s w)(K:A.units+100<kn)
  (V:w.W a=some {cls:=.type "tuple",data:=.seq ⟨c⟩ S}) (W:w.W b=some {cls:=.type "tuple",data:=.seq ⟨d⟩ T})
  (X:qF (jk w.W s.heap.objs.size) c (p.map iV)) (e:qF (jk w.W s.heap.objs.size) d (q.map iV)):yQ (av f g) A (.ref a) (.ref b) i s (decide (p=q)):=by
 have N:=H.news s.heap.objs.size;refine(kqd_in N 9 (.tuple (H.mem V) X) (pF p 7)).elim λj M=>?_;refine(kqd_in N 9 (.tuple (H.mem W) e) (pF q 7)).elim λn O=>?_;have F:∀r:List Int,Lp (kqdP (.tuple (r.map iV)))=true:=λr=>by
  have l:=kqd_lay 9 _ (pF r 7);unfold Lp;rw[l.1,Bool.true_and];exact decide_eq_true (ah l.2 (by decide))
 have R:PyData.eqv (kqdP (.tuple (p.map iV))) (kqdP (.tuple (q.map iV)))=decide (p=q):=by
  have k:=kqd_eqv 9 (.tuple (p.map iV)) (.tuple (q.map iV)) 9 (pF p 7) (pF q 7);by_cases z:p=q
  ·rw[decide_eq_true z,k,z]
  ·refine rE (decide_eq_false z) ?_;exact wI.mpr λy=>z (Gq (Lm (k.mp y)))
 exact⟨λk=>eq_dataH M O (F p) (F q) (by exact aV (dy (by decide) _) K) (by refine rE R ?_;exact k),λk=>ne_dataH M O (F p) (F q) (by exact aV (dy (by decide) _) K) (by refine rE R ?_;exact k)⟩
theorem S5{p q:List D0}(H:ez x h s w)(O:A.units+100<kn)
  (R:w.W a=some {cls:=.type "list",data:=.seq ⟨c⟩ f}) (S:w.W b=some {cls:=.type "list",data:=.seq ⟨e⟩ g})
  (F:qF (jk w.W s.heap.objs.size) c (p.map ji)/\∀d∈p,mH d) (K:qF (jk w.W s.heap.objs.size) e (q.map ji)/\∀d∈q,mH d):yQ (av j l) A (.ref a) (.ref b) n s (decide (p=q)):=by
 have N:=H.news s.heap.objs.size;have T:∀i:Decidable (p.map ji=q.map ji),@decide _ i=decide (p=q):=λi=>by
  by_cases z:p=q
  ·refine rE (decide_eq_true z) ?_;exact decide_eq_true (by exact rE z rfl)
  ·refine rE (decide_eq_false z) ?_;exact decide_eq_false λy=>z (SY F.2 K.2 y)
 exact⟨λk=>kqd_eq N (H.mem R) rfl rfl F.1 (λM x=>x) (H.mem S) rfl rfl K.1 (λM x=>x) (uM p) (uM q) (by exact aV (dy (by decide) _) O) (by rw[T];exact k),λk=>kqd_ne N (H.mem R) rfl rfl F.1 (λM x=>x) (H.mem S) rfl rfl K.1 (λM x=>x) (uM p) (uM q) (by exact aV (dy (by decide) _) O) (by rw[T];exact k)⟩
set_option tactic.hygienic true in
theorem Gu{Q:Bool->Prop}(R:ai x h m s)(d:A.units+100<kn)(K:VR u a)(M:VR v b)(q:rL u v h Q):
  ∃r,Q r/\yQ (av I J) A a b L s r:=by
 rcases u with _ |_<;>first |exact q.elim |skip
 ·rcases v with _ |_<;>first |exact q.elim |skip
  obtain⟨t,rfl⟩:=K;obtain⟨f,rfl⟩:=M;exact⟨_,q,λk=>eq_int (by refine rE uN ?_;exact k),λk=>ne_int (by refine rE Gs ?_;exact k)⟩
 ·rcases v with _ |_<;>first |exact q.elim |skip
  obtain⟨t,rfl⟩:=K;obtain⟨f,rfl⟩:=M;rename_i a b;have g:(dD a == dD b)=decide (a=b):=by
   by_cases z:a=b
   ·rw[decide_eq_true z,z,beq_self_eq_true]
   ·refine rE (decide_eq_false z) ?_;exact beq_eq_false_iff_ne.mpr λe=>z (SW e)
  have O:(dD a != dD b)=!decide (a=b):=congrArg Bool.not g;exact⟨_,q,λk=>eq_str (by refine rE g ?_;exact k),λk=>ne_str (by refine rE O ?_;exact k)⟩
 ·rcases v with _ |_<;>first |exact q.elim |skip
  refine ak K λt F n=>?_;refine rE F ?_;refine ak M λf F n=>?_;subst F;exact⟨_,q,λk=>eq_bytes (by refine rE qE (rE qE (rE uN ?_));exact k),λk=>ne_bytes (by refine rE qE (rE qE (rE Gs ?_));exact k)⟩
 ·rcases v with _ |_<;>first |exact q.elim |skip
  cases K;cases M;refine o4 q λo i j l q=>?_;refine R.own.elim λw H=>?_;rcases o with _ |_<;>first |exact q.elim |skip
  ·rcases j with _ |_<;>first |exact q.elim |skip
   refine o4 q λp S B T q=>?_;obtain⟨y,V,⟨C⟩,D,rfl,W,_⟩:=H.hr.obj _ _ i rfl;obtain⟨y,X,⟨E⟩,G,rfl,c,_⟩:=H.hr.obj _ _ l rfl;exact(aq _ q (S5 H d V X (Gr H W S) (Gr H c T)))
  ·rcases j with _ |_<;>first |exact q.elim |skip
   refine o4 q λp S B T q=>?_;obtain⟨y,V,⟨C⟩,D,rfl,W,_⟩:=H.hr.obj _ _ i rfl;obtain⟨y,X,⟨E⟩,G,rfl,c,_⟩:=H.hr.obj _ _ l rfl;exact(aq _ q (S0 H d V X (yP W S) (yP c T)))
def PC(s:ag)(Q:Bool->Prop)(F:af)(K:ag):Prop:=∃r,F=.bool r/\K=s/\Q r
theorem Gv(F:VR u a):(a == eY)=isNone u:=by
 rcases u with _ |_<;>first |(cases F;rfl) |(obtain⟨t,rfl⟩:=F;rfl) |(obtain⟨t,rfl,_⟩:=F;rfl) |(refine bZ F λt M K O=>?_;subst K;rfl)
theorem uO(R:ai x h m s)(V:A.units+100<kn)(S:VR u a)(T:VR v b)(q:fO c h u v Q):
  aL (av d f) A (lF (dR c) a b) (PC s Q) g s:=by
 have M:∀ {P:Int->Int->Prop},pj u v P->∃i j t O,a=.int i t/\b=.int j O/\P i j:=λ{P} q=>by
  rcases u with _ |_<;>first |exact q.elim |skip
  rcases v with _ |_<;>first |exact q.elim |skip
  refine S.elim λt e=>?_;refine T.elim λO W=>?_;exact(xJ _ _ t O e W q)
 have none:isNone v=true->b=.none:=λq=>by
  rcases v with _ |_<;>first |exact T |exact a9 q
 rcases c with ⟨⟩
 ·obtain⟨r,q,e⟩:=Gu R V S T q;exact e.eq (bG r rfl rfl q)
 ·obtain⟨r,q,e⟩:=Gu (Q:=λr=>Q (!r)) R V S T q;exact e.ne (bG (!r) rfl rfl q)
 ·refine lN (M q) λi j t O F K q=>?_;refine rE F ?_;subst K;exact lt_int (bG _ rfl rfl q)
 ·refine lN (M q) λi j t O F K q=>?_;refine rE F ?_;subst K;exact le_int (bG _ rfl rfl q)
 ·refine lN (M q) λi j t O F K q=>?_;refine rE F ?_;subst K;exact gt_int (bG _ rfl rfl q)
 ·refine lN (M q) λi j t O F K q=>?_;refine rE F ?_;subst K;exact ge_int (bG _ rfl rfl q)
 ·refine rE (none q.1) ?_;exact is_none_gen (bG _ rfl rfl (by refine rE (Gv S) ?_;exact q.2))
 ·refine rE (none q.1) ?_;exact isnot_none_gen (bG _ rfl rfl (by refine rE (Gv S) ?_;exact q.2))
end
theorem yR:Lq (dR a) r=false:=by
 rcases r with _ |_<;>first |rfl |skip
 rcases a with _ |_<;>(unfold Lq dR;simp)
section
variable{M:cV}{A:bk}{E:af->ag->Prop}{s:ag}{env:Env}{op op2:iz}{l r q:ao}{pos:Pos}
theorem S8{Q:af->ag->Prop}
  (h:aj M A (eval l env) (λa F=>aj M A (eval r env) (λb K=>aj M A (lF (dR op) a b) Q E K) E F) E s) :
  aj M A (eval (.Compare l [dR op] [r] pos) env) Q E s:=by
 rw[eval_Compare1,CZ yR];exact ar (aF h (λa F O=>ar (bO (aF O (λb K R=>cg (nG R)) λS S e=>e))) λS S e=>e)
theorem S9{Q:Bool->ag->Prop}
  (h:aj M A (eval l env) (λa F=>aj M A (eval r env) (λb K=>aj M A (lF (dR op) a b) (λc O=>aj M A (mP c) Q E O) E K) E F) E s) :
  aj M A (isTrue (.Compare l [dR op] [r] pos) env d) Q E s:=by
 rw[isTrue_Compare1,CZ yR];exact ar (aF h (λa F R=>ar (bO (aF R (λb K S=>cg (ar (nG (aF S (λc O T=>bO T) λV V e=>e)))) λV V e=>e))) λV V e=>e)
theorem S'{Q:Bool->ag->Prop}
  (h:aj M A (eval l env) (λa K=>aj M A (eval r env) (λb R=>aj M A (lF (dR op) a b) (λv F=>∃t,v=.bool t /\
   (t=true->aj M A (eval q env) (λd S=>aj M A (lF (dR op2) b d) (λc T=>aj M A (mP c) Q E T) E S) E F)/\(t=false->Q false F)) E R) E K) E s) :
  aj M A (isTrue (.Compare l [dR op,dR op2] [r,q] pos) env n) Q E s:=by
 rw[arm_isTrue_Compare];refine ar (aF h (λa K W=>?_) λO O e=>e);show aj M A (do
  let V ←hE [a] (eval r env)
  jE pos
  let c ←hE [a,V] (lF (dR op) a V)
  release [a,V] [c]
  if ←hE [c,V] (mP c) then testChain pos V [dR op2] [Lr (dR op2) q (eval q env)] else a8 false) Q E K
 refine ar (bO (aF W (λb R X=>ar (iD ?_)) λO O e=>e));refine ar (bO (aF X (λv F f=>?_) λO O e=>e));refine cr f λt j k m=>?_;refine rE j ?_;refine ar (rY (ar (bO (rP ?_))));induction t with
 |false=>exact aI (m rfl)
 |true =>
  show aj M A (do let V ←hE [b] (Lr (dR op2) q (eval q env));jE pos;let c ←BN [b,V] (lF (dR op2) b V);hE [c] (mP c)) Q E F;refine rE (CZ yR) ?_;exact ar (bO (aF (k rfl) (λd S g=>cg (ar (nG (aF g (λc T i=>bO i) λO O e=>e)))) λO O e=>e))
end
section
variable{Z:Zx}
theorem two(ha:SE Z a pa)(hb:SE Z b pb){s:ag}{h:Hp}{m:M}{E:PE}{P:V->V->Hp->M->Prop}{G:af->af->ag->Prop}(R:ai Z.x h m s)
  (hq:ev look ac (runs Z.n) Z.c a h m (λv h m=>ev look ac (runs Z.n) Z.c b h m (P v) E) E)
  (k:∀ {u v x y h m s},VR u x->VR v y->ai Z.x h m s->P u v h m->G x y s) :
  aj Z.M Z.A (eval pa Z.env) (λx s₁=>aj Z.M Z.A (eval pb Z.env) (G x) (eR Z.x E) s₁) (eR Z.x E) s :=
 aF (ha R hq) (λ_ _ z=>fJ z λ_ _ _ r1 R1 q1=>aF (hb R1 q1) (λ_ _ z=>fJ z λ_ _ _ r2 R2 q2=>k r1 r2 R2 q2) λzz zz e=>e) λzz zz e=>e
theorem Ta(F:bg Z){a b:X}{O:iz}{S T:ao}{K:Pos}(W:SE Z a S)(c:SE Z b T):SE Z (.cmp a O b) (.Compare S [dR O] [T] K) :=
 λR d=>S8 (two W c R d λf g V h=>aF (bj (uO V F.uK f g h)) (λM M i=>cr i λr j k q=>⟨.bool r,_,_,j,k▸V,q⟩) λM M e=>e)
theorem Tb(F:bg Z){a b:X}{O:iz}{S T:ao}{K:Pos}(W:SE Z a S)(c:SE Z b T):SB Z (.cmp a O b) (.Compare S [dR O] [T] K) :=
 λR d=>S9 (two W c R d λf g V h=>aF (bj (uO V F.uK f g h)) (λM M i=>cr i λr j k q=>j▸rP ⟨_,_,k▸V,q⟩) λM M e=>e)
theorem Tc(F:bg Z){a b d:X}{V M:iz}{W c f:ao}{O:Pos}(k:SE Z a W)(l:SE Z b c)(n:SE Z d f):SB Z (.fN a V b M d) (.Compare W [dR V,dR M] [c,f] O):=by
 intro s h m Q E R o;refine S' (two k l R o λp g S t=>aF (bj (uO S F.uK p g t)) ?_ λK K e=>e);rintro u z ⟨r,rfl,rfl,i⟩;refine(bG r rfl (λe=>?_) (λe=>?_))
 ·subst e;exact aF (n S i) (λK K T=>eS T λK K K v j w=>aF (bj (uO j F.uK g v w)) (λK K T=>cr T λr x y q=>x▸rP ⟨_,_,y▸j,q⟩) λK K e=>e) λK K e=>e
 ·subst e;exact(jB _ _ S i)
theorem yS(M:isTrue pe Z.env (eval pe Z.env)=(do let v ←eval pe Z.env;jE pe.pos;hE [v] (mP v)))(h:SE Z e pe):SB Z e pe:=by
 intro s V m Q E R O;refine rE M ?_;exact ar (aF (h R O) (λv K z=>by
  refine ak z.test λr F S=>?_;refine rE F ?_;exact ar (iD (bO (rP S)))) λT T e=>e)
theorem Td:∀ {F:List ao} {K:Pos} {M:Env},eval (kL a (q::F) K) M=C0 K a (C1 (q::F) M)
 |[],_,_=>rfl
 |_::_,_,_=>rfl
theorem Gw{M:cV}{A:bk}{E:af->ag->Prop}{s:ag}{Q:Bool->ag->Prop}:∀ {F:List ao},aj M A (isTrue (kL c (q::F) d) a (eval (kL c (q::F) d) a)) Q E s->aj M A (allTrue c (q::F) a) Q E s
 |[],h=>by
  rw[C2];refine ar (aF h (λb R K=>?_) λO O e=>e);rcases c with _ |_<;>rcases b with _ |_<;>exact aI K
 |r::t,h=>h
set_option backward.match.sparseCases true in
theorem Te(O:SE Z a i)(S:SE Z b (kL .And (f::c) d)):SE Z (.and a b) (.BoolOp .And (i::f::c) d):=by
 intro s h m Q E R T;rw[arm_eval_BoolOp];show aj _ _ (eval i Z.env>>=λv=>jE d>>=λM=>hE [v] (mP v)>>=λt=>match ab6,t with
  |.And,false |.Or,true=>a8 v
  |_,_=>C0 d .And (C1 (f::c) Z.env)) _ _ _
 refine ar (aF (O R T) ?_ λM M e=>e);rintro V o ⟨u,g,k,l,j,F⟩;refine ak (Go F) λp K F=>?_;subst K;cases l;refine ar (iD (ar (bO (rP ?_))));rcases uL F with ⟨rfl,F⟩ |⟨rfl,F⟩
 ·show aj _ _ (C0 d .And (C1 (f::c) Z.env)) _ _ _;rw[←Td];refine aF (S j F) (λv q z=>?_) λM M e=>e;refine tY z.test λr K W X n f=>?_;refine rE K ?_;exact(fS (.bool r) W X rfl n f)
 ·exact aI (fS (.bool false) g k rfl j F)
theorem Tf(K:SB Z a i)(M:SB Z b (kL .And (j::c) d)):SB Z (.and a b) (.BoolOp .And (i::j::c) d):=by
 intro s h m Q E R O;rw[Ls,C2];refine ar (aF (K (Q:=λr h m=>br r (ev look ac (runs Z.n) Z.c b h m (λw h m=>cD w λr=>Q r h m) E) (Q false h m)) R O) ?_ λS S e=>e);rintro r T ⟨f,k,g,F⟩;rcases uL F with ⟨rfl,F⟩ |⟨rfl,F⟩
 ·exact Gw (M g F)
 ·exact aI (de f k g F)
theorem Tg(K:SB Z a i)(M:SB Z b (kL .Or (j::c) d)):SB Z (.or a b) (.BoolOp .Or (i::j::c) d):=by
 intro s h m Q E R O;rw[Ls,C2];refine ar (aF (K (Q:=λr h m=>br r (Q true h m) (ev look ac (runs Z.n) Z.c b h m (λw h m=>cD w λr=>Q r h m) E)) R O) ?_ λS S e=>e);rintro r T ⟨f,k,g,F⟩;rcases uL F with ⟨rfl,F⟩ |⟨rfl,F⟩
 ·exact aI (jB f k g F)
 ·exact Gw (M g F)
theorem Th(K:SB Z t d)(M:SE Z a f)(O:SE Z b g):SE Z (.ite t a b) (.IfExp d f g i):=by
 intro s h m Q E R S;rw[arm_eval_IfExp];refine ar (aF (K (Q:=λr h m=>br r (ev look ac (runs Z.n) Z.c a h m Q E) (ev look ac (runs Z.n) Z.c b h m Q E)) R S) ?_ λT T e=>e);rintro r V ⟨j,k,c,F⟩;rcases uL F with ⟨rfl,F⟩ |⟨rfl,F⟩
 ·exact M c F
 ·exact O c F
end
theorem nT:Lu.lookup (Lv ['y','a','r','r','a','e','t','y','b'].reverse)=some Manifest.sig_bytearray:=by kernel_rfl
theorem Gx:mW "bytearray" "__len__" "bytearray.__len__" :=
 .of (owner := "bytearray") (n := "__len__") (by rw[eJ,eK];kernel_rfl) (by decide +kernel) (by decide +kernel) (by decide +kernel)
  (by first |exact .inl (by decide +kernel) |exact .inr (by decide +kernel)) (by rw[lG];kernel_rfl)
theorem Ti:gq table "bytearray.__len__" = some Builtin.«bytearray.__len__»:=qG (by kernel_rfl)
theorem Tj(a:af):fD "bytearray.__len__" ⟨[a],[]⟩:=by
 unfold fD;refine rE (mX (id := "bytearray.__len__") (n:=['_','_','n','e','l','_','_']) (o:=['y','a','r','r','a','e','t','y','b']) (by kernel_rfl) nT) ?_;kernel_rfl
theorem uP:mW "bytearray" "__getitem__" "bytearray.__getitem__" :=
 .of (owner := "bytearray") (n := "__getitem__") (by rw[eJ,eK];kernel_rfl) (by decide +kernel) (by decide +kernel) (by decide +kernel)
  (by first |exact .inl (by decide +kernel) |exact .inr (by decide +kernel)) (by rw[lG];kernel_rfl)
theorem Gy:gq table "bytearray.__getitem__" = some Builtin.«bytearray.__getitem__»:=qG (by kernel_rfl)
theorem Gz(a b:af):fD "bytearray.__getitem__" ⟨[a,b],[]⟩:=by
 unfold fD;refine rE (mX (id := "bytearray.__getitem__") (n:=['_','_','m','e','t','i','t','e','g','_','_']) (o:=['y','a','r','r','a','e','t','y','b']) (by kernel_rfl) nT) ?_;kernel_rfl
theorem GA:mW "bytearray" "__setitem__" "bytearray.__setitem__" :=
 .of (owner := "bytearray") (n := "__setitem__") (by rw[eJ,eK];kernel_rfl) (by decide +kernel) (by decide +kernel) (by decide +kernel)
  (by first |exact .inl (by decide +kernel) |exact .inr (by decide +kernel)) (by rw[lG];kernel_rfl)
theorem Tk:gq table "bytearray.__setitem__" = some Builtin.«bytearray.__setitem__»:=qG (by kernel_rfl)
theorem Tl(a b c:af):fD "bytearray.__setitem__" ⟨[a,b,c],[]⟩:=by
 unfold fD;refine rE (mX (id := "bytearray.__setitem__") (n:=['_','_','m','e','t','i','t','e','s','_','_']) (o:=['y','a','r','r','a','e','t','y','b']) (by kernel_rfl) nT) ?_;kernel_rfl
theorem yT:mW "bytearray" (dunder "add") "bytearray.__add__" :=
 .of (owner := "bytearray") (n := "__add__") (by rw[eJ,eK];kernel_rfl) (by decide +kernel) (by decide +kernel) (by decide +kernel)
  (by first |exact .inl (by decide +kernel) |exact .inr (by decide +kernel)) (by rw[lG];kernel_rfl)
theorem Tm:gq table "bytearray.__add__" = some Builtin.«bytearray.__add__»:=qG (by kernel_rfl)
theorem Tn(a b:af):fD "bytearray.__add__" ⟨[a,b],[]⟩:=by
 unfold fD;refine rE (mX (id := "bytearray.__add__") (n:=['_','_','d','d','a','_','_']) (o:=['y','a','r','r','a','e','t','y','b']) (by kernel_rfl) nT) ?_;kernel_rfl
theorem yU:mW "bytearray" "append" "bytearray.append" :=
 .of (owner := "bytearray") (n := "append") (by rw[eJ,eK];kernel_rfl) (by decide +kernel) (by decide +kernel) (by decide +kernel)
  (by first |exact .inl (by decide +kernel) |exact .inr (by decide +kernel)) (by rw[lG];kernel_rfl)
theorem To:gq table "bytearray.append" = some Builtin.«bytearray.append»:=qG (by kernel_rfl)
theorem Tp(a b:af):fD "bytearray.append" ⟨[a,b],[]⟩:=by
 unfold fD;refine rE (mX (id := "bytearray.append") (n:=['d','n','e','p','p','a']) (o:=['y','a','r','r','a','e','t','y','b']) (by kernel_rfl) nT) ?_;kernel_rfl
theorem Tq:fZ (.type "bytearray") (dunderR "add")=a8 none:=by rw[eJ,eK];kernel_rfl
theorem Tr:fillsNumberSlot (.type "bytearray") "add" = a8 false:=PySem.fillsNumberSlot_seq (id := "bytearray.__add__") (r:=none) yT.lookup (by decide +kernel) Tq rfl
theorem Tt:seqSlot? (.type "bytearray") "__add__" = a8 (some (.builtin "bytearray.__add__")):=PySem.seqSlot_of yT.lookup (by decide +kernel)
theorem yV:fZ (.type "bytearray") "__buffer__" = a8 (some (.builtin "bytearray.__buffer__")):=by rw[eJ,eK];kernel_rfl
theorem Tu:fZ (.type "bytearray") "__release_buffer__" = a8 (some (.builtin "bytearray.__release_buffer__")):=by rw[eJ,eK];kernel_rfl
open PySem.Builtin
def dh(h:dp)(l:ax)(b:Array UInt8):Prop:=h.get? l=some {cls:=.type "bytearray",data:=.bytearray b 0}
theorem GB:isSubtype (.type "bytearray") (.type "bytearray")=a8 true:=F.sub_bytearray_bytearray
section
variable{M:cV}{A:bk}{E:af->ag->Prop}{s:ag}{l:ax}{b:Array UInt8}
theorem dh.typeIs(F:dh s.heap l b):s.TypeIs (.ref l) "bytearray" := (aq _ F rfl)
theorem r5(F:dh s.heap l b)(h:Q b s):aL M A (wJ (.ref l)) Q E s:=by
 unfold wJ C3;exact aw (aw (hF F (wpAny_pure (wpAny_pure h))))
theorem ba_payload?(F:dh s.heap l b)(h:Q (some b) s):aL M A (C3 (.ref l)) Q E s:=by
 unfold C3;exact aw (hF F (wpAny_pure h))
theorem GC{name:String}{id:String}{Q:Bool->ag->Prop}(F:dh s.heap l b)(K:fZ (.type "bytearray") name=a8 (some (.builtin id)))
  (O:(!id.endsWith ("." ++ name))=false) (R:id.dropRight (name.length+1) = "bytearray") (h:Q true s):aL M A (Lw (.ref l) name) Q E s:=by
 unfold Lw;refine aw (gP F.typeIs K ?_);show aL M A (if (!id.endsWith ("." ++ name))=true then _ else _) _ _ _;refine rE O (rE R ?_);exact Lx F.typeIs GB h
theorem yW{Q:Bool->ag->Prop}(F:dh s.heap l b)(h:Q false s):aL M A (Ly (.ref l)) Q E s:=by
 unfold Ly;exact aw (GC F Tu (by decide +kernel) (by decide +kernel) (wpAny_pure h))
theorem ba_buffer?{id:String}{F:Bool}{Q:Option (Array UInt8)->ag->Prop}(K:dh s.heap l b)(h:Q (some b) s):aL M A (oI id (.ref l) F) Q E s:=by
 unfold oI;refine aw (gP K.typeIs yV ?_);refine aw (GC K yV (by decide +kernel) (by decide +kernel) ?_);refine aw (gP K.typeIs yV ?_);refine aw (yW K ?_);exact aw (r5 K (wpAny_pure h))
theorem ba_quiet?{id:String}{Q:Option (Array UInt8)->ag->Prop}(F:dh s.heap l b)(h:Q (some b) s):aL M A (C4 id (.ref l)) Q E s:=by
 unfold C4;exact aw (wpAny_attempt (ba_buffer? F (wpAny_pure h)))
theorem GD(F:b.size<=eZ)(h:Q (.ref s.heap.objs.size) {s with heap:=s.heap.push {cls:=.type "bytearray",data:=.bytearray b 0}}):
  aL M A (Lz b) Q E s:=by
 unfold Lz;exact C5 h F
end
section
variable{prog:bJ}{w:bE}{A:bk}{E:af->ag->Prop}{s:ag}{l l2:ax}{b c:Array UInt8}
theorem Tv(F:b.size+c.size<=16777216):qH («bytearray.__add__» ⟨[.ref l,.ref l2],[]⟩) (λS R s=>dh s.heap l b/\dh s.heap l2 c /\
  R (.ok (.ret (.ref s.heap.objs.size))) {s with heap:=s.heap.push {cls:=.type "bytearray",data:=.bytearray (b++c) 0}}):=by
 refine .of_wp λprog w A R s M=>?_;refine nq M λO K h=>?_;show aL _ _ (oI "bytearray.__add__" (.ref l)>>=λr=>_) _ _ s;refine aw (ba_buffer? O ?_);show aL _ _ (C4 "bytearray.__add__" (.ref l2)>>=λr=>_) _ _ s;refine aw (ba_quiet? K ?_);show aL _ _ (if Bytes.tooLong (b.size+c.size)=true then _ else _) _ _ s;refine rE (KBy.tooLong_not F) ?_;exact aw (GD (by refine rE LB (rE qI ?_);exact F) (wpAny_pure (aq _ rfl h)))
theorem Tw{Q:af->ag->Prop}(M:dh s.heap l b)(F:dh s.heap l2 c)(K:b.size+c.size<=16777216)
  (h:Q (.ref s.heap.objs.size) {s with heap:=s.heap.push {cls:=.type "bytearray",data:=.bytearray (b++c) 0}}):aL (av prog w) A (lH .Add (.ref l) (.ref l2)) Q E s :=
 concat_meets M.typeIs F.typeIs Tr Tt yT Tm (Tn _ _) (Tv K) (aH M F h)
theorem Tx{i:Int}(K:mY i=true)(M:(kg i b.size).bind (b[·]?)=some x):qH («bytearray.__getitem__» ⟨[.ref l,.int i u],[]⟩) (λT R s=>dh s.heap l b /\
  ∀t k,R (.ok (.ret (.int x.toNat t))) {s with toks:=k}):=by
 refine .of_wp λprog w A R s O=>?_;refine O.elim λS h=>?_;show aL _ _ (qJ (.int i u)>>=λr=>_) _ _ s;refine aw ?_;unfold qJ;refine aw (gP (tn s i u) F.slot_int_index.lookup ?_);show aL _ _ (if (!mY i)=true then _ else a8 (some i)) _ _ s;refine rE K ?_;refine wpAny_pure ?_;show aL _ _ (wJ (.ref l)>>=λr=>_) _ _ s;refine aw (r5 S ?_);show aL _ _ (match (kg i b.size).bind (b[·]?) with |some x=>retInt x.toNat |none=>_) _ _ s;refine rE M ?_;exact aw (C6 (wpAny_pure (aq _ rfl (h _ _))))
theorem Tz{i:Int}(F:dh s.heap l b)(K:mY i=true)(M:(kg i b.size).bind (b[·]?)=some x)
  (h:∀t k,Q (.int x.toNat t) {s with toks:=k}):aL (av prog w) A (wK (.ref l) (.int i u)) Q E s :=
 C7 F.typeIs (by decide) uP Gy (Gz _ _) (Tx K M) ⟨F,λt k=>h t k⟩
theorem TA{lo K:Option Int}(W:mZ d lo)(X:mZ f K):qH («bytearray.__getitem__» ⟨[.ref l,.ref a],[]⟩) (λu R s=>dh s.heap l b/\s.heap.IsSliceOf a d f .none /\
  (tq b lo K).size<=eZ/\R (.ok (.ret (.ref s.heap.objs.size))) {s with heap:=s.heap.push {cls:=.type "bytearray",data:=.bytearray (tq b lo K) 0}}):=by
 refine .of_wp λprog w A R s g=>?_;obtain⟨j,⟨o,M,m,O⟩,S,h⟩:=g;have V:s.TypeIs (.ref a) "slice" := (aq o M m);show aL _ _ (qJ (.ref a)>>=λr=>_) _ _ s;refine aw ?_;unfold qJ;refine aw (gP V slice_no_index (wpAny_pure ?_));refine aw (LD V ?_);show aL _ _ (LF (.ref a)>>=λr=>_) _ _ s;have F:∀ {v:af} {k:Option Int} {Q:af->ag->Prop},mZ v k->Q (rawPart k) s->aL (av prog w) A.in1 (do
   if v == .none then return .none
   if (←wL v "__index__").isNone then
    rule "bytes.slice.part-no-index";raiseError "TypeError" "slice indices must be integers or None or have an __index__ method"
   return rawInt (←C8 v)) Q (λe n=>R (.error e) n) s:=by
  intro v k Q p q;induction p with
  |none=>exact wpAny_pure q
  |int i t =>
   refine rE (if_neg (show ¬((qK i t == eY)=true) from ko)) ?_;refine aw (gP (T := "int") (tn s i t) int_index ?_);simp only[Option.isNone_some,wB,if_false];exact aw (cR (a:=i) rfl (wpAny_pure q))
 refine aw ?_;unfold LF;refine aw (jF (x:=.none) M O rfl (aw (F .none ?_)));refine rE (if_neg (show ¬((rawPart none == rawInt 0)=true) from ko)) ?_;refine aw (jF (x:=d) M O rfl (aw (F W ?_)));refine aw (jF (x:=f) M O rfl (aw (F X (wpAny_pure ?_))));refine aw (r5 j ?_);refine aw (cR (sliceIndices_raw lo K none b.size (λe=>aN e)) ?_);exact aw (GD S (wpAny_pure (aq _ rfl h)))
theorem TB{lo F:Option Int}{Q:af->ag->Prop}(O:mZ d lo)(R:mZ e F)(M:dh s.heap l b)(S:s.heap.IsSliceOf a d e .none)
  (K:(tq b lo F).size<=eZ) (h:Q (.ref s.heap.objs.size) {s with heap:=s.heap.push {cls:=.type "bytearray",data:=.bytearray (tq b lo F) 0}}) :
  aL (av prog w) A (wK (.ref l) (.ref a)) Q E s :=
 C7 M.typeIs (by decide) uP Gy (Gz _ _) (TA O R) (dE M S K h)
theorem TC:qH («bytearray.__len__» ⟨[.ref l],[]⟩) (λM R s=>dh s.heap l b/\∀t k,R (.ok (.ret (.int b.size t))) {s with toks:=k}):=by
 refine .of_wp λprog w A R s F=>?_;refine F.elim λK h=>?_;show aL _ _ (wJ (.ref l)>>=λr=>_) _ _ s;exact aw (r5 K (aw (C6 (wpAny_pure (aq _ rfl (h _ _))))))
end
open PySem.Builtin
theorem GF:wM (.type "bytearray")=a8 [.type "bytearray",.type "object"]:=by rw[mroOf_type];kernel_rfl
theorem TF:fZ (.type "bytearray") "__new__" = a8 (some (.builtin "bytearray.__new__")):=by rw[eJ,eK];kernel_rfl
theorem TG:mW "bytearray" "__init__" "bytearray.__init__" :=
 .of (owner := "bytearray") (n := "__init__") (by rw[eJ,eK];kernel_rfl) (by decide +kernel) (by decide +kernel) (by decide +kernel)
  (by first |exact .inl (by decide +kernel) |exact .inr (by decide +kernel)) (by rw[lG];kernel_rfl)
theorem GG:LG "bytearray" "bytearray.__new__" "bytearray.__init__" :=
 ⟨by decide +kernel,by decide +kernel,(nv _ _ GF),madeBy_type GF TF (by decide +kernel),by decide +kernel,by rw[lG];kernel_rfl,TG⟩
theorem TH:C9 "bytearray" ⟨[],[]⟩=a8 ():=by kernel_rfl
theorem TJ(a:af):C9 "bytearray" ⟨[a],[]⟩=a8 ():=by kernel_rfl
theorem TK:checkBuiltinCall "bytearray.__new__" ⟨[.type "bytearray"],[]⟩=a8 ():=by kernel_rfl
theorem TL(a:af):checkBuiltinCall "bytearray.__new__" ⟨[.type "bytearray",a],[]⟩=a8 ():=by kernel_rfl
theorem TM:gq table "bytearray.__new__" = some Builtin.«list.__new__» :=
 wN (id' := "list.__new__") (by kernel_rfl) (by decide +kernel) (by decide +kernel) (by rw[fastTable_eq_tree];kernel_rfl)
theorem GH:plainId "bytearray.__new__" = true:=by decide +kernel
theorem GI:gq table "bytearray.__init__" = some Builtin.«bytearray.__init__»:=qG (by kernel_rfl)
set_option maxRecDepth 1000000 in
set_option maxHeartbeats 4000000 in
theorem TN:("bytearray.__new__".splitOn ".__new__").headD "" = "bytearray" := by simp +decide [wO,wP]
section
variable{prog:bJ}{w:bE}{A:bk}{E:af->ag->Prop}{s:ag}
theorem GJ(O:checkBuiltinCall "bytearray.__new__" ⟨.type "bytearray" :: a,[]⟩=a8 ()){F:af->ag->Prop}
  (h:F (.ref s.heap.objs.size) {s with heap:=s.heap.push {cls:=.type "bytearray",data:=.bytearray #[] 0}}) :
  s8 (av prog w) A (.call (.builtin "bytearray.__new__") ⟨.type "bytearray" :: a,[]⟩) (wants F E) s:=by
 refine codeAny_of_tree ?_;show aL _ A.in1 (do checkBuiltinCall "bytearray.__new__" ⟨.type "bytearray" :: a,[]⟩;again (.builtin "bytearray.__new__" ⟨.type "bytearray" :: a,[]⟩)) _ _ s;refine aw (cR O (wpAny_pure ⟨plainId_quiet GH _,codeAny_builtin_stack TM rfl λp st=>?_⟩));refine rE (CT GH _) ?_;have M:=GB;have K:=TN;obtain⟨R,g,d,S,os⟩:=s;simp only[K];wp_walk;exact h
end
open PySem.Builtin
section
variable{prog:bJ}{w:bE}{A:bk}{E:af->ag->Prop}{s:ag}
theorem jl{M:cV}{c:Prop}[Decidable c]{a b:Sem d}{Q:d->ag->Prop}(F:¬c)(h:aj M A b Q E s):aj M A (if c then a else b) Q E s:=by refine rE (if_neg F) ?_;exact h
theorem GK{Bi:Builtin}{args:List af}{Q Q₁:af->ag->Prop}(O:LG T g b)
  (l:C9 T ⟨args,[]⟩=a8 ()) (S:gq table b=some Bi)
  (X:s8 (av prog w) A.in1 (.call (.builtin g) ⟨.type T::args,[]⟩) (wants Q₁ E) s) (q:∀a,hW (.builtin b a)=false)
  (V:∀d f,Q₁ d f->f.TypeIs d T/\fD b ⟨d::args,[]⟩ /\
   aj (av prog w) A.in1.in1 (Bi ⟨d::args,[]⟩) (nH (av prog w) A.in1 (mh (λr K=>r=.none/\Q d K) E))
    (λe t=>mh (λr K=>r=.none/\Q d K) E (.error e) t) f) :
  aj (av prog w) A (call (.type T) args) Q E s:=by
 refine hO O.mro λc z i=>?_;have W:=O.made;have j:=O.sub;refine kH (fw ?_);show aj _ _ (qz (.type T) _) _ _ _;refine aI (aH (wQ _ (by decide +kernel)) rfl (uJ F.entry_type_call ?_));refine rE (Around.under_plain (weight_type_call_type T args []) rfl) ?_;have u:=O.notType;have v:=O.canCreate;unfold Builtin.«type.__call__»;dsimp only;refine jl (by refine rE u ?_;decide) ?_;refine jl (by refine rE v ?_;decide) ?_;refine a' (cR l ?_);refine a' (cR i ?_);refine jl (by simp) ?_;refine a' (cR W ?_);refine ar (aI ?_);refine a' (gQ (wR (codeAny_mono X λr f m=>?_)));induction r with
 |error e=>exact m
 |ok x =>
  induction x with
  |ret d =>
   refine nq (V _ _ m) λn o p=>?_;refine a' (Lx n j ?_);refine jl (by decide) ?_;refine ar (bO ?_);unfold wS;refine a' (gP n O.init.lookup ?_);dsimp only;refine bO (a' (cR (O.init.bind d) ?_));refine ar (kH (ja (yK (R:=mh (λr K=>r=.none/\Q d K) E) O.init.plain (q _) S (O.init.check _ _ _ _ _ _ _ _ n o p)) λk K M=>?_));induction k with
   |error e=>exact M
   |ok h =>
    induction h with
    |ret r =>
     refine rp M λy=>?_
     exact aI (jl (by decide) (aI y))
    |_=>exact M.elim
  |_=>exact m.elim
theorem TO(K:∀c p,hW c=false->f (c,p)=false){F:Ctx}(n:i' F)(p:Pos):((F.code,p)::F.below).any f=false:=by
 rw[LH,K _ _ n.1,C'];exact Ld.mpr λx M=>by rw[K x.1 x.2 (n.2 x M)];decide
theorem yX(h:Q false s):aj (av prog w) A (Bytes.exported (.ref l)) Q E s:=by
 intro O p hΓ n;show Q (List.any ((O.code,p)::O.below) _) s;rw[TO ?_ n p]
 ·exact h
 ·intro c q K;induction c with
  |builtin id a =>
   have K:uv.contains id=false:=K;have F:∀x,uv.contains x=true->id≠x:=λx R e=>by rw[←e,K] at R;exact a9 R
   delta ab7
   refine(dif_neg (F "bytearray.__contains__" (by decide +kernel))).trans ?_;refine(dif_neg (F "bytearray.__mod__" (by decide +kernel))).trans ?_;refine(dif_neg (F "bytearray.__rmod__" (by decide +kernel))).trans ?_;refine(dif_neg (F "_struct.pack_into.held" (by decide +kernel))).trans ?_;refine(dif_neg (F "bytearray.find.held" (by decide +kernel))).trans ?_;have S:K2.contains id=false:=wI.mpr λe=>by
    refine absurd ?_ (wI.mp K);unfold uv;rw[Db] at e ⊢;exact oJ _ e
   obtain⟨M,T⟩:=a;induction M with
   |nil=>rfl
   |cons v r=>show(_&&_)=false;rw[S,Bool.and_false]
  |_=>rfl
theorem TP(F:dh s.heap l b)(h:Q () s):aj (av prog w) A (LI (.ref l)) Q E s:=by
 unfold LI;refine ar (ar (yX ?_));refine a' (m:=qL (.ref l)) ?_;unfold qL;refine aw (hF F (wpAny_pure ?_));exact aI (aI h)
theorem r8(K:dh s.heap l b)(M:(f b).size<=eZ)
  (h:Q () {s with heap:=s.heap.update l (m5 f)}):aL (av prog w) A (Bytes.write (.ref l) f) Q E s:=by
 show aL _ _ (LK l f) _ _ _;unfold LK;refine aw (hF K ?_);show aL _ _ (update l (m5 f)>>=λO=>lookBehind l) _ _ _;refine aw (wpAny_update K ?_);have F:(s.heap.update l (m5 f)).get? l=some {cls:=.type "bytearray",data:=.bytearray (f b) 0} :=
  hJ (m5 f) K rfl
 refine LL F ?_ h;show(if (f b).size > eZ then some "bytearray:memory" else none)=none;exact rE (if_neg (c8.mpr M)) rfl
theorem TQ{i:Int}(F:dh s.heap l b)(K:0<=i)(M:i<256)(O:b.size<eZ)
  (h:Q .none {s with heap:=s.heap.update l (m5 (·.push i.toNat.toUInt8))}):aj (av prog w) A (call (.builtin "bytearray.append") [.ref l,.int i t]) Q E s:=by
 refine kH (yK yU.plain rfl To (yU.check _ _ _ _ _ _ _ _ F.typeIs (Tp _ _) ?_));unfold Builtin.«bytearray.append»;refine a' (m:=selfAndOne "bytearray.append" _) (wpAny_pure ?_);refine a' (m:=wT _) ?_;unfold wT;refine aw (cR (rfl:C8 (.int i t)=a8 i) ?_);refine kr (by simp only[Dc,decide_eq_false_iff_not];exact⟨cz.mpr K,lz.mpr M⟩) (wpAny_pure ?_);refine ar (TP F ?_);exact a' (r8 F (by show(b.push _).size<=_;rw[LM];assumption) (aI h))
end
open PySem.Builtin
theorem TR(a:af):fD "bytearray.__init__" ⟨[a],[]⟩:=by
 unfold fD;refine rE (mX (id := "bytearray.__init__") (n:=['_','_','t','i','n','i','_','_']) (o:=['y','a','r','r','a','e','t','y','b']) (by kernel_rfl) nT) ?_;kernel_rfl
theorem TS(a b:af):fD "bytearray.__init__" ⟨[a,b],[]⟩:=by
 unfold fD;refine rE (mX (id := "bytearray.__init__") (n:=['_','_','t','i','n','i','_','_']) (o:=['y','a','r','r','a','e','t','y','b']) (by kernel_rfl) nT) ?_;kernel_rfl
theorem TT:LN "bytearray.__init__" "bytearray" ["source", "encoding", "errors"] [] []=a8 [none,none,none]:=by kernel_rfl
theorem TU(v:af):LN "bytearray.__init__" "bytearray" ["source", "encoding", "errors"] [v] []=a8 [some v,none,none]:=by kernel_rfl
theorem TV:fZ (.type "bytes") "__index__" = a8 none:=by rw[eJ,eK];kernel_rfl
theorem TW{id:String}:oI id (.bytes b t) true=a8 (some b):=by
 unfold oI;refine rE (KBy.special_eq KBy.look_buffer) (rE KBy.own_buffer (rE KBy.own_release ?_));kernel_rfl
section
variable{prog:bJ}{w:bE}{A:bk}{E:af->ag->Prop}{s:ag}
theorem TX(F:dh s.heap l #[])(h:∀c,c.get? l=some {cls:=.type "bytearray",data:=.bytearray #[] 0}->(∀b o,b≠l->s.heap.get? b=some o->c.get? b=some o)->R (.ok (.ret .none)) {s with heap:=c}):
  aj (av prog w) A (Builtin.«bytearray.__init__» ⟨[.ref l],[]⟩) (nH (av prog w) d R) (λe K=>R (.error e) K) s:=by
 unfold Builtin.«bytearray.__init__»;refine a' (yW F ?_);refine jl (by decide) ?_;refine a' (cR TT ?_);refine a' (cR (a:=()) rfl ?_);refine a' (cR (a:=()) rfl ?_);refine ar (ar (yX ?_));refine a' (m:=qL (.ref l)) ?_;unfold qL;refine aw (hF F (wpAny_pure ?_));refine aI ?_;refine jl (by decide) ?_;refine a' (r8 F (ca _) ?_);exact ar (aI (aI (h _ (hJ _ F rfl) (tt ..).extBut)))
theorem TY{R:eI->ag->Prop}(K:dh s.heap l #[])(O:x.size<=eZ)(h:∀c,c.get? l=some {cls:=.type "bytearray",data:=.bytearray x 0}->(∀b o,b≠l->s.heap.get? b=some o->c.get? b=some o)->R (.ok (.ret .none)) {s with heap:=c}):
  aj (av prog w) A (Builtin.«bytearray.__init__» ⟨[.ref l,.bytes x t],[]⟩) (nH (av prog w) d R) (λe S=>R (.error e) S) s:=by
 unfold Builtin.«bytearray.__init__»;refine a' (yW K ?_);refine jl (by decide) ?_;refine a' (cR (TU _) ?_);refine a' (cR (a:=()) rfl ?_);refine a' (cR (a:=()) rfl ?_);refine ar (ar (yX ?_));refine a' (m:=qL (.ref l)) ?_;unfold qL;refine aw (hF K (wpAny_pure ?_));refine aI ?_;refine jl (by decide) ?_;refine a' (r8 K (ca _) ?_);have F:dh (s.heap.update l (m5 λT=>#[])) l #[]:=hJ _ K rfl;have V:∀b o,b≠l->s.heap.get? b=some o->(s.heap.update l (m5 λT=>#[])).get? b=some o:=(tt ..).extBut;refine a' (cR (a:=none) rfl ?_);refine jl (by decide) ?_;refine ar (aI ?_);refine a' (gP (lI _ _ _) TV ?_);refine jl (by decide) ?_;refine a' (cR TW ?_);refine ar (yi ?_);refine a' (r8 F O ?_);exact aI (h _ (hJ _ F rfl) λb o M e=>(tt ..).extBut b o M (V b o M e))
theorem TZ(h:∀a,a.get? s.heap.objs.size=some {cls:=.type "bytearray",data:=.bytearray #[] 0}->(∀b o,s.heap.get? b=some o->a.get? b=some o)->Q (.ref s.heap.objs.size) {s with heap:=a}):
  aj (av prog w) A (call (.type "bytearray") []) Q E s:=by
 refine GK (Q₁:=λK F=>K=.ref s.heap.objs.size/\F={s with heap:=s.heap.push {cls:=.type "bytearray",data:=.bytearray #[] 0}}) GG TH GI
  (GJ TK ⟨rfl,rfl⟩) (λO=>rfl) ?_
 rintro K F ⟨rfl,rfl⟩;have M:dh (s.heap.push {cls:=.type "bytearray",data:=.bytearray #[] 0}) s.heap.objs.size #[]:=mV _ rfl;exact(aH (aq _ M rfl) (TR _) (TX M λa g k=>⟨rfl,h a g λb o e=>k b o (cK (fB e)) (dC _ e)⟩))
theorem T0(O:x.size<=eZ)(h:∀a,a.get? s.heap.objs.size=some {cls:=.type "bytearray",data:=.bytearray x 0}->(∀b o,s.heap.get? b=some o->a.get? b=some o)->Q (.ref s.heap.objs.size) {s with heap:=a}):
  aj (av prog w) A (call (.type "bytearray") [.bytes x t]) Q E s:=by
 refine GK (Q₁:=λK F=>K=.ref s.heap.objs.size/\F={s with heap:=s.heap.push {cls:=.type "bytearray",data:=.bytearray #[] 0}}) GG (TJ _) GI
  (GJ (TL _) ⟨rfl,rfl⟩) (λR=>rfl) ?_
 rintro K F ⟨rfl,rfl⟩;have M:dh (s.heap.push {cls:=.type "bytearray",data:=.bytearray #[] 0}) s.heap.objs.size #[]:=mV _ rfl;exact(aH (aq _ M rfl) (TS _ _) (TY M O λa g k=>⟨rfl,h a g λb o e=>k b o (cK (fB e)) (dC _ e)⟩))
theorem T1{i x:Int}{u t:Tok}{Q:Unit->ag->Prop}(K:dh s.heap l b)(O:0<=i)(R:i<b.size)(M:b.size<=eZ)(S:0<=x)(T:x<256)
  (h:Q () {s with heap:=s.heap.update l (m5 (·.setIfInBounds i.toNat x.toNat.toUInt8))}):aL (av prog w) A (oK (.ref l) (.int i u) (.int x t)) Q E s:=by
 have V:=qI;unfold oK;refine gQ ?_;refine aw (Dd K.typeIs (by decide) ?_);refine aw (wU (name:=dD "__setitem__") K.typeIs GA
  (wV GA K.typeIs Tk ?_ (Tl _ _ _)))
 unfold Builtin.«bytearray.__setitem__»;refine kr rfl ?_;refine aw (m:=qJ _) ?_;unfold qJ;refine aw (gP (tn s i u) F.slot_int_index.lookup ?_);have W:mY i=true:=by simp only[mY,De,decide_eq_true_eq];exact⟨dT (by decide) O,rn R M (d8 V)⟩
 show aL _ _ (if (!mY i)=true then _ else a8 (some i)) _ _ s;refine rE W ?_;refine wpAny_pure ?_;refine aw (m:=wT _) ?_;unfold wT;refine aw (cR (rfl:C8 (.int x t)=a8 x) ?_);refine kr (by simp only[Dc,decide_eq_false_iff_not];exact⟨cz.mpr S,lz.mpr T⟩) (wpAny_pure ?_);refine aw (r5 K ?_);have X:kg i b.size=some i.toNat:=by
  have a:¬i<0:=by exact LO O
  simp[kg,a,O,R]
 refine rE X ?_;refine aw (r8 K (by show(b.setIfInBounds _ _).size<=_;refine rE Array.size_setIfInBounds ?_;exact M) ?_);exact wpAny_pure (aq _ rfl (wpAny_pure h))
theorem T2(F:dh s.heap l b)(K:b.size<=eZ)(h:∀t k,Q (.int b.size t) {s with toks:=k}):aL (av prog w) A (call (.builtin "len") [.ref l]) Q E s:=by
 have M:=qI;refine Calls.call_function_entry PySem.kind_len PySem.plain_len PySem.entry_len (PySem.args_len1 _) ?_;unfold ab8;refine aw (m:=oneArg "len" _) (wpAny_pure ?_);refine aw (m:=wS (.ref l) (dD "__len__")) (wU (name:=dD "__len__") F.typeIs Gx
  (tv Gx F.typeIs Ti (Tj _) TC ⟨F,λt k=>?_⟩))
 refine aw (gQ (wpAny_pure ?_));refine aw (wpAny_letGo ?_);show aL _ _ (if ((b.size:Nat):Int)<0 then _ else _) _ _ _;refine rE (if_neg (Int.not_ofNat_neg b.size)) ?_;show aL _ _ (if ((b.size:Nat):Int)≥2^63 then _ else _) _ _ _;refine rE (if_neg (abT K qI)) ?_;exact aw (C6 (wpAny_pure (aq _ rfl (h _ _))))
end
open PySem.Builtin
theorem T3:fZ (.type "bytearray") "__bytes__" = a8 none:=by rw[eJ,eK];kernel_rfl
theorem T4:fZ (.type "bytearray") "__index__" = a8 none:=by rw[eJ,eK];kernel_rfl
theorem T5:fZ (.type "bytes") "__bytes__" = a8 (some (.builtin "bytes.__bytes__")):=by rw[eJ,eK];kernel_rfl
section
variable{prog:bJ}{w:bE}{A:bk}{E:af->ag->Prop}{s:ag}
theorem T6(M:b.size<=eZ):qH («bytes.__new__» ⟨[.type "bytes",.ref l],[]⟩) (λS R s=>dh s.heap l b/\∀t k,R (.ok (.ret (.bytes b t))) {s with toks:=k}):=by
 refine .of_wp λprog w A R s O=>?_;refine O.elim λK h=>?_;unfold Builtin.«bytes.__new__»;refine aw (cR (a:=true) rfl ?_);refine kr rfl ?_;refine aw (cR F.bm_sub ?_);refine kr rfl ?_;refine aw (cR (F.bm_bind _) ?_);refine aw (cR (a:=()) rfl ?_);refine aw (cR (a:=()) rfl ?_);refine kr rfl ?_;refine aw (gP K.typeIs T3 ?_);refine aw (aw ?_);show aL _ _ (load l>>=_) _ _ _;refine aw (hF K ?_);refine wpAny_pure (wpAny_pure ?_);refine kr rfl ?_;refine aw (gP K.typeIs T4 ?_);refine wW rfl ?_
 first
  |show aL _ _ (oI "bytes.__new__" (.ref l) true>>=_) _ _ _
  |(refine aw ?_;show aL _ _ (oI "bytes.__new__" (.ref l) true>>=_) _ _ _)
 refine aw (ba_buffer? K ?_);refine aw (wX ?_);refine aw (wpAny_mkBytes ?_ M);show aL _ _ (if (m6 "bytes" == m6 "bytes")=true then _ else _) _ _ _;refine wW (by decide) ?_
 first
  |exact wpAny_pure (aq _ rfl (h _ _))
  |exact aw (wpAny_pure ⟨_,rfl,h _ _⟩)
  |exact aw (wpAny_pure (wpAny_pure ⟨_,rfl,h _ _⟩))
theorem T7:qH («bytes.__new__» ⟨[.type "bytes",.bytes x t],[]⟩) (λK R s=>R (.ok (.ret (.bytes x t))) s):=by
 refine .of_wp λprog w A R s h=>?_;unfold Builtin.«bytes.__new__»;refine aw (cR (a:=true) rfl ?_);refine kr rfl ?_;refine aw (cR F.bm_sub ?_);refine kr rfl ?_;refine aw (cR (F.bm_bind _) ?_);refine aw (cR (a:=()) rfl ?_);refine aw (cR (a:=()) rfl ?_);refine kr rfl ?_;refine aw (gP (lI _ _ _) T5 ?_);refine aw (wX ?_);refine aw (LD (lI _ _ _) ?_);refine wW (by decide) ?_;show aL _ _ (if (m6 "bytes" == m6 "bytes")=true then _ else _) _ _ _;refine wW (by decide) ?_
 first
  |exact wpAny_pure (aq _ rfl h)
  |exact aw (wpAny_pure ⟨_,rfl,h⟩)
  |exact aw (wpAny_pure (wpAny_pure ⟨_,rfl,h⟩))
theorem T8(O:dh s.heap l b)(K:b.size<=eZ)(h:∀t k,Q (.bytes b t) {s with toks:=k}):aL (av prog w) A (call (.type "bytes") [.ref l]) Q E s :=
 LP F.bm_called (by decide) (F.bm_typeCall _) (F.bm_newCall _) (λM=>F.args_object_init_2 M _) F.bm_entry (T6 K) ⟨O,λt k=>⟨lI _ _ _,h t k⟩⟩
theorem T9(h:Q (.bytes x t) s):aL (av prog w) A (call (.type "bytes") [.bytes x t]) Q E s :=
 LP F.bm_called (by decide) (F.bm_typeCall _) (F.bm_newCall _) (λK=>F.args_object_init_2 K _) F.bm_entry T7 ⟨lI _ _ _,h⟩
end
theorem fT:bB<=16777216:=by unfold bB;decide
theorem GN:bB<=eZ:=by refine rE qI ?_;exact fT
theorem yY:bB=1000000:=by unfold bB;rfl
theorem kZ(h:n<=bB):n<=eZ:=ah h GN
theorem acB(h:n<=bB):n<4611686018427387904:=aV (ah h fT) (by decide)
section
variable{x:Cx}{h:Hp}{m:M}{s:ag}
theorem ai.list(R:ai x h m s){a:Nat}{F:List V}(e:h a=some (.list F)):∃b n,s.heap.get? a=some {cls:=.type "list",data:=.seq b n}/\bf F b.toList/\F.length<=bB:=by
 refine R.own.elim λw H=>?_;refine tY (H.hr.obj _ _ e rfl) λy k b n K r=>?_;subst K;exact(de b n ((H.own _ _ k).1) r)
theorem ai.Ua(R:ai x h m s){a:Nat}{y:Obj}{F:List V}(e:h a=some (.ro y F)):∃b n,s.heap.get? a=some {cls:=.type "list",data:=.seq b n}/\bf F b.toList/\F.length<=bB:=by
 refine R.own.elim λw H=>?_;refine NZ (H.hr.obj _ _ e rfl) λy k z b n K r=>?_;exact(de b n (by refine rF K ?_;exact(H.own _ _ k).1) r)
theorem ai.Ub(R:ai x h m s){a:Nat}{y:Obj}{F:List V}(e:h a=some (.ro y F)):s.heap.get? a=some y:=by
 refine R.own.elim λw H=>?_;refine cr (H.hr.obj _ _ e rfl) λx k z K=>?_;refine rF z ?_;exact(H.own _ _ k).1
theorem ai.tup(R:ai x h m s){a:Nat}{F:List V}(e:h a=some (.tup F)):∃b n,s.heap.get? a=some {cls:=.type "tuple",data:=.seq b n}/\bf F b.toList/\F.length<=bB:=by
 refine R.own.elim λw H=>?_;refine tY (H.hr.obj _ _ e rfl) λy k b n K r=>?_;subst K;exact(de b n ((H.own _ _ k).1) r)
theorem ai.dict(R:ai x h m s){a n:Nat}{f:Int->Option V}(e:h a=some (.dict n f)):∃b c,s.heap.get? a=some {cls:=.type "dict",data:=.dict b c}/\DR n f b/\n<=bB/\a≠oF:=by
 refine R.own.elim λw H=>?_;refine tY (H.hr.obj _ _ e rfl) λy k K n F r=>?_;subst F;exact(de K n ((H.own _ _ k).1) r)
theorem ai.bl(R:ai x h m s){a:Nat}{b:List UInt8}(e:h a=some (.bl b)):dh s.heap a b.toArray/\b.length<=bB:=by
 refine R.own.elim λw H=>?_;refine cr (H.hr.obj _ _ e rfl) λy k F r=>?_;subst F;exact⟨(H.own _ _ k).1,r⟩
theorem ai.inst(R:ai x h m s){a:Nat}{c:Cl}{F:M}(e:h a=some (.inst c F)):∃d b n,s.heap.get? a=some (go (bV c) d)/\s.heap.get? d=some (io b n)/\f9 F b:=by
 refine R.own.elim λw H=>?_;refine eb (H.hr.ins _ _ _ e) λb n K O S T=>?_;exact(fK _ b n ((H.own _ _ K).1) ((H.own _ _ O).1) S)
theorem ai.range(R:ai x h m s){a:Nat}{lo F st:Int}(e:h a=some (.range lo F st)):
  (∃b c d,s.heap.get? a=some {cls:=.type "range",data:=.fields #[.int lo b,.int F c,.int st d]})/\gw lo/\gw F/\(st=1\/st=-1):=by
 refine R.own.elim λw H=>?_;refine N0 (H.hr.obj _ _ e rfl) λy k b c d K r=>?_;subst K;exact⟨⟨b,c,d,(H.own _ _ k).1⟩,r⟩
theorem bf.size{F:Array af}(r:bf a F.toList):a.length=F.size:=r.length.trans Array.length_toList
theorem ai.newList(R:ai x h m s){vs:List V}{xs:Array af}{n:Nat}{Q:V->Hp->Prop}(r:bf vs xs.toList)(F:vs.length<=bB)(q:(Rs.new (.list vs)).run h Q):
  cS x m Q (.ref s.heap.objs.size) {s with heap:=s.heap.push {cls:=.type "list",data:=.seq xs n}} :=
 (c5 (.ref s.heap.objs.size) _ rfl (R.push (o:=.list vs) rfl rfl λK=>(cb xs n rfl r F)) (q _ (R.jV (a6 _))))
theorem ai.Uc(R:ai x h m s){F:List V}{xs:Array af}{n:Nat}{Q:V->Hp->Prop}(r:bf F xs.toList)(K:F.length<=bB)(q:(Rs.new (.tup F)).run h Q):
  cS x m Q (.ref s.heap.objs.size) {s with heap:=s.heap.push {cls:=.type "tuple",data:=.seq xs n}} :=
 (c5 (.ref s.heap.objs.size) _ rfl (R.push (o:=.tup F) rfl rfl λM=>(cb xs n rfl r K)) (q _ (R.jV (a6 _))))
theorem ai.GO(R:ai x h m s){b:List UInt8}{Q:V->Hp->Prop}(F:b.length<=bB)(q:(Rs.new (.bl b)).run h Q):
  cS x m Q (.ref s.heap.objs.size) {s with heap:=s.heap.push {cls:=.type "bytearray",data:=.bytearray b.toArray 0}} :=
 (c5 (.ref s.heap.objs.size) _ rfl (R.push (o:=.bl b) rfl rfl λK=>⟨rfl,F⟩) (q _ (R.jV (a6 _))))
theorem cS.ok(z:cS x m (λv h=>Q v h m) v s):jg x Q v s:=by
 refine Gj z λu h r R q=>?_;exact(fS u h m r R q)
end
theorem ofString_length(x:String):(dD x).length=x.length:=by
 rw[CX];show(x.toList.map Lk).toArray.size=_;rw[fG,dq,String.length_toList]
theorem yZ{i:Int}(h:i.natAbs<iA):tx i<=4000:=by
 unfold iA at h;unfold tx;by_cases q:i.natAbs=0
 ·refine rE (if_pos (beq_iff_eq.mpr (LQ.mp q))) ?_;exact ca _
 ·refine rE (if_neg (λe=>q (by rw[beq_iff_eq.mp e];rfl))) ?_;exact(LR q).mpr h
theorem GQ{a b:Int}(h:0<b):a.fdiv b=a / b:=Int.fdiv_eq_ediv_of_nonneg a (gM h)
theorem Ud{a b:Int}(h:0<b):a.fmod b=a%b:=Int.fmod_eq_emod_of_nonneg a (gM h)
section
variable{x:Cx}{h:Hp}{m:M}{s:ag}{pg:bJ}{w:bE}{A:bk}{Er:af->ag->Prop}{Q:V->Hp->Prop}
theorem Ue{i j:Int}{t u:Tok}(R:ai x h m s)(q:(intOp a i j).run h Q):aL (av pg w) A (lH (rU a) (.int i t) (.int j u)) (cS x m Q) Er s:=by
 have K:∀ {k:Int} {t:Tok} {n:Nat},Q (.int k) h->cS x m Q (.int k t) {s with toks:=n}:=λq=>(c5 (.int _) h ⟨_,rfl⟩ (R.toks _) q)
 induction a with
 |add=>exact q.elim
 |mul=>exact q.elim
 |sub=>exact ab9 (K q)
 |fdiv =>
  obtain⟨⟨F,M⟩,q⟩:=q;exact floordiv_int (Df F) (by refine rE (GQ F) ?_;exact K q) (Or.inl (PyProof.noPylong_small (by exact xS rfl (gM F) M)))
 |mod =>
  refine q.elim λF q=>?_;exact mod_int' (Df F) (by refine rE (Ud F) ?_;exact K q)
 |pow =>
  obtain⟨⟨F,M,O⟩,q⟩:=q;refine pow_int F ?_ (K q);have S:(tx i:Int)*j<=4000*100:=Int.mul_le_mul (bt.mpr (yZ O)) M F (by decide);exact dT S (by decide)
 |shr =>
  obtain⟨⟨F,M⟩,q⟩:=q;exact rshift_int F (by refine rE (GQ (Dg (by decide))) ?_;exact K q)
 |band =>
  obtain⟨⟨F,M⟩,q⟩:=q;refine rE M ?_;refine and_int ?_;have e:LU i 1=i%2:=by
   unfold LU;refine rE (decide_eq_true F) ?_;show((i.toNat&&& (1:Int).toNat:Nat):Int)=i%2;rw[show(1:Int).toNat=1 from rfl,Nat.and_one_is_mod];exact Oi F
  refine rE e ?_;exact K q
theorem VR.gV(r:VR v y)(e:gV v=some n):∃z t,y=.str z t/\z.length<=n:=by
 rcases v with _ |_<;>first |cases e |skip
 ·obtain⟨t,rfl⟩:=r;exact(de _ t rfl (d8 (ofString_length _)))
 ·exact r
theorem Uf(R:ai x h m s)(M:VR u y)(O:VR v z)(q:(Fd (gV u) (gV v)).run h Q):aL (av pg w) A (lH .Add y z) (cS x m Q) Er s:=by
 induction c:gV u with
 |none=>rw[c] at q;cases gV v<;>exact q.elim
 |some e =>
  induction d:gV v with
  |none=>rw[c,d] at q;exact q.elim
  |some f =>
   rw[c,d] at q;refine bZ (M.gV c) λa t F S=>?_;refine rE F ?_;refine bZ (O.gV d) λb W F T=>?_;subst F;have K:=jx S T;refine aca (λV X=>(c5 (.txt (e+f)) h (de _ _ rfl ?_) (R.toks _) q.2)) (ah K (ah q.1 (by decide)));show(a.cps++b.cps).size<=_;refine rE LB ?_;exact K
theorem Ug(R:ai x h m s)(K:h a=some o)(M:h b=some p)(q:(Fe o p).run h Q):aL (av pg w) A (lH .Add (.ref a) (.ref b)) (cS x m Q) Er s:=by
 rcases o with _ |_<;>first |exact q.elim |skip
 ·rcases p with _ |_<;>first |exact q.elim |skip
  refine q.elim λF q=>?_;refine bL (R.list K) λX T V O c=>?_;refine bL (R.list M) λd n2 W S e=>?_;refine PySem.P.add_list (n:=T) (n2:=n2) V W (R.newList (by refine rE wY ?_;exact O.append S) (by refine rE cA ?_;exact F) q) ?_;refine rF O.size (rF S.size ?_);exact kZ F
 ·rcases p with _ |_<;>first |exact q.elim |skip
  refine q.elim λF q=>?_;refine Tw (R.bl K).1 (R.bl M).1 (by refine rE fG (rE fG ?_);exact ah F fT) ?_;rw[LV];exact R.GO (by rw[cA];exact F) q
theorem Uh(R:ai x h m s)(K:VR u y)(M:VR v z)(q:(Ff u v).run h Q):aL (av pg w) A (lH .Add y z) (cS x m Q) Er s:=by
 rcases u with _ |_<;>first |exact Uf R K M q |skip
 ·rcases v with _ |_<;>first |exact q.elim |skip
  obtain⟨t,rfl⟩:=K;obtain⟨S,rfl⟩:=M;exact PySem.P.add_int (c5 (.int _) h ⟨_,rfl⟩ (R.toks _) q)
 ·rcases v with _ |_<;>first |exact q.elim |skip
  refine ak K λt F T=>?_;refine rE F ?_;refine ak M λS F T=>?_;subst F;exact KBy.add_bytes (by refine rE fG (rE fG ?_);exact ah q.1 fT) λO X=>(c5 (.bytes _) h (aq O (by rw[LV]) (by rw[cA];exact q.1)) (R.toks _) q.2)
 ·rcases v with _ |_<;>first |exact q.elim |skip
  cases K;cases M;refine o4 q λo V p W q=>?_;exact Ug R V W q
set_option tactic.hygienic true in
theorem Ui(R:ai x h m s)(V:VR u y)(b:VR v z)(q:(Fg u v).run h Q):aL (av pg w) A (lH .Mult y z) (cS x m Q) Er s:=by
 rcases v with _ |_<;>first |exact q.elim |skip
 obtain⟨O,rfl⟩:=b;rcases u with _ |_<;>first |exact q.elim |skip
 ·obtain⟨t,rfl⟩:=V;exact acb (c5 (.int _) h ⟨_,rfl⟩ (R.toks _) q.2) (IntMulOk.of_bits (ah (yZ q.1.1) (by decide)) (ah (yZ q.1.2) (by decide)))
 ·rename_i j a;rcases V with ⟨⟩;refine ak q λo c q=>?_;rcases o with _ |_<;>first |exact q.elim |skip
  rename_i vs;obtain⟨v,rfl⟩:∃v,vs=[v]:=by
   induction vs with
   |nil=>exact q.elim
   |cons v r=>induction r with
    |nil=>exact⟨v,rfl⟩
    |cons=>exact q.elim
  obtain⟨⟨d,W⟩,q⟩:=q;obtain⟨⟨l⟩,X,M,S,n⟩:=R.list c;cases S with
  |cons f S =>
  rcases S with ⟨⟩;rename_i K;refine wpAny_binaryOp_repeat_ref (T := "list") (U := "int") (by decide) (aq _ M rfl) (λg=>tn g j O) noFill_list_mul F.fills_int_mul F.slot_int_rmul repeat_list F.slot_int_index.lookup
   (tv F.slot_int_rmul (tn s j O) F.entry_int_rmul (F.args_int_rmul_2 _ _) (int___rmul___int_list j O a #[K] X)
    ⟨M,rfl,(aq _ M rfl),tv F.slot_list_mul (aq _ M rfl) F.entry_list_mul (F.args_list_mul_2 _ _)
     (acd a #[K] X j O (by unfold ace;simp;exact⟨dT (by decide) d,jw W (by decide)⟩) (by simp;lia) (by simp[acf,eZ];lia)) ⟨M,?_⟩⟩)
  refine R.newList (vs:=gm j.toNat v) ?_ (by rw[qM,yY];exact ah (sU.mpr W) (by decide)) q;have e:(List.foldl (λi k=>i++k) #[] (gm (if (#[K]:Array af).isEmpty=true then 0 else j.toNat) #[K])).toList=gm j.toNat K:=by
   rw[if_neg (show ¬(#[K]:Array af).isEmpty=true from ko),listMul_foldl];show[]++(gm j.toNat [K]).flatten=_;rw[LW,List.flatten_replicate_singleton]
  refine rE e ?_;exact bf.replicate f _
theorem GS(R:ai x h m s)(O:VR u y)(S:VR v z)(q:(iS op u v).run h Q):aL (av pg w) A (lH (rU op) y z) (cS x m Q) Er s:=by
 have K:∀ {f:Int->Int->Rs},(hU u v f).run h Q->∃i j t M,y=.int i t/\z=.int j M/\(f i j).run h Q:=λ{f} q=>by
  rcases u with _ |_<;>first |exact q.elim |skip
  rcases v with _ |_<;>first |exact q.elim |skip
  refine O.elim λt e=>?_;refine S.elim λM W=>?_;exact(xJ _ _ t M e W q)
 have F:∀ {op:jO},(hU u v (intOp op)).run h Q->aL (av pg w) A (lH (rU op) y z) (cS x m Q) Er s:=λ{op} q=>by
  refine lN (K q) λi j t M T V q=>?_;refine rE T ?_;subst V;exact Ue R q
 rcases op with ⟨⟩
 ·exact Uh R O S q
 ·exact F q
 ·exact Ui R O S q
 ·exact F q
 ·exact F q
 ·exact F q
 ·exact F q
 ·exact F q
end
section
variable{Z:Zx}
theorem Uj{M:cV}{A:bk}{E:af->ag->Prop}{s:ag}{O:Env}{W:wu}{l r:ao}{T:Pos}{Q:af->ag->Prop}
  (h:aj M A (eval l O) (λa F=>aj M A (eval r O) (λb K=>aj M A (lH W a b) Q E K) E F) E s):aj M A (eval (.BinOp l W r T) O) Q E s:=by
 rw[arm_eval_BinOp];exact ar (aF h (λa F R=>ar (bO (aF R (λb K S=>cg (nG S)) λV V e=>e))) λV V e=>e)
theorem Uk(K:SE Z a c)(M:SE Z b d):SE Z (.bin f a b) (.BinOp c (rU f) d g) :=
 λR O=>Uj (two K M R O λS T V W=>aF (bj (GS V S T W)) (λF F z=>z.ok) λF F e=>e)
end
theorem za{n:Nat}{i:Int}{j:Nat}(h:lv n i=some j):-(n:Int)<=i/\i<n/\j<n/\(0<=i->j=i.toNat)/\(i<0->j=(i+n).toNat):=by
 have h:(if (decide (0<=(if i<0 then i+(n:Int) else i))&&decide ((if i<0 then i+(n:Int) else i)<n))=true then some (if i<0 then i+(n:Int) else i).toNat else none)=some j:=h;by_cases c:i<0
 ·simp only[if_pos c] at h;split at h
  ·rename_i d;have F:=dn (an d).1;have K:=dn (an d).2;refine sF h ?_;exact⟨by exact Int.add_nonneg_iff_neg_le.mp F,fW c (b9 n),(wg F).mpr K,λz=>absurd c (cz.mpr z),λM=>rfl⟩
  ·exact aN h
 ·simp only[if_neg c] at h;split at h
  ·rename_i d;have F:=dn (an d).1;have K:=dn (an d).2;refine sF h ?_;exact⟨dT (Int.neg_nonpos_of_nonneg (b9 n)) (cz.mp c),K,(wg F).mpr K,λM=>rfl,λz=>absurd z c⟩
  ·exact aN h
theorem zc{i:Int}(h:dr l i=some x):∃j,lv l.length i=some j/\l[j]?=some x:=wH.mp h
section
variable{prog:bJ}{w:bE}{A:bk}{E:af->ag->Prop}{s:ag}
set_option tactic.hygienic true in
theorem Ul(F:ao)(o i:af):∃l,LX F false o i=BN l (wK o i):=by
 rcases F with _ |_<;>first |exact⟨_,rfl⟩ |skip
 rename_i st _;rcases st with _ |_<;>exact⟨_,rfl⟩
theorem k7{T id:String}{Q:af->ag->Prop}(O:s.TypeIs o T)
  (S:fZ (.type T) "__getitem__" = a8 (some (.builtin id))) (h:aL (av prog w) A (wK o i) Q E s):aL (av prog w) A (oM b a o i) Q E s:=by
 unfold oM;refine aw ?_;refine rE (getitemInPython_of_ne O.not_modules) ?_;refine aw (gP O S ?_);refine(Ul a o i).elim λl V=>?_;have K:aL (av prog w) A (LX a false o i) (λr F=>aL (av prog w) A (letTemporaryGo b o r>>=λR=>a8 r) Q E F) E s:=by
  refine rE V ?_;exact wpAny_operating (gn h (λr F M=>aw (LY (wpAny_pure M))) λR R x=>x)
 first
  |exact wpAny_pure (aw K)
  |exact aw (wpAny_pure (aw K))
  |exact aw K
end
section
variable{x:Cx}{h:Hp}{m:M}{s:ag}{pg:bJ}{w:bE}{A:bk}{Er:af->ag->Prop}{Q:V->Hp->Prop}{value slice:ao}
theorem Um{n:Nat}{i:Int}(R:ai x h m s)
  (e:s.heap.get? a=some {cls:=.type "list",data:=.seq c n}) (r:bf d c.toList) (M:d.length<=bB) (W:dr d i=some u) (q:Q u h) :
  aL (av pg w) A (oM value slice (.ref a) (.int i t)) (cS x m Q) Er s:=by
 have O:=fT;refine ak (zc W) λj X f=>?_;refine nu (za X) λS g p k l=>?_;refine ak (r.get f) λy o T=>?_;have K:s.heap.IsList a c:=(hQ _ e rfl n rfl)
 have V:=r.size;have F:c[j]?=some y:=by refine rF (qN) ?_;exact o
 refine k7 K.typeIs wZ ?_;by_cases b:0<=i
 ·rw[k b] at F;exact wpAny_getItem_list K b (by exact rn g M O) F (c5 u h T R q)
 ·rw[l (lz.mp b),V] at F;exact wpAny_getItem_list_neg K (lz.mp b) (le_of_eq_of_le (congrArg Neg.neg (congrArg LZ (id (ir V)))) S) (by exact xQ S M O) F (c5 u h T R q)
theorem GU{n:Nat}{i:Int}(R:ai x h m s)
  (e:s.heap.get? a=some {cls:=.type "tuple",data:=.seq b n}) (r:bf vs b.toList) (F:vs.length<=bB) (S:dr vs i=some u) (q:Q u h) :
  aL (av pg w) A (oM value slice (.ref a) (.int i t)) (cS x m Q) Er s:=by
 have K:=fT;refine ak (zc S) λj M T=>?_;refine tW (za M) λV W d f=>?_;refine ak (r.get T) λy X c=>?_;have O:IsTup s.heap a b:=(hQ _ e rfl n rfl)
 exact k7 O.typeIs acg.lookup (ach O (by exact xQ V F K) (by exact rn W F K) (by refine rF r.size ?_;exact M) (by refine rF (qN) ?_;exact X) (c5 u h c R q))
theorem GV{n:Nat}{i:Int}{j:Nat}(h:lv n i=some j)(F:n<=bB):mY i=true:=by
 have K:=fT;refine tW (za h) λM O R S=>?_;unfold mY;rw[De,decide_eq_true_eq,decide_eq_true_eq];exact⟨xQ M F K,rn O F K⟩
theorem KL{i:Int}(e:(dr b i).map aK=some u):∃c j,u=.int c.toNat/\lv b.length i=some j/\((kg i b.toArray.size).bind λj=>b.toArray[j]?)=some c:=by
 refine ak (hH.mp e) λc M F=>?_;refine rF F ?_;refine ak (zc M) λj K O=>?_;refine(cb c j rfl K ?_);rw[fG,show kg i b.length=some j from K];show b.toArray[j]?=some c;refine rE (Dh) ?_;exact O
theorem Un{K:bc}{u v:V}{y z:af}(i:eE K)(X:K.In x.g)(R:ai x h m s)(T:VR u y)(k:VR v z)(q:(uq u v).run h Q):
  aL (av pg w) A (oM value slice y z) (cS x m Q) Er s:=by
 rcases v with _ |_<;>first |exact q.elim |skip
 obtain⟨t,rfl⟩:=k;rcases u with _ |_<;>first |exact q.elim |skip
 ·refine ak T λW a l=>?_;subst a;refine ak q λu e q=>?_;refine bL (KL e) λc j M O b=>?_;subst M;exact k7 (lI _ _ _) w0.lookup (getItem_gives (lI s _ W) (by decide) w0 L0 (L6 _ _) (gives_bytes_getitem _ _ W t c (GV O l) b) (c5 (.int c.toNat) h ⟨_,rfl⟩ (R.toks _) q))
 ·cases T;refine ak q λo d q=>?_;rcases o with _ |_<;>first |exact q.elim |skip
  ·refine ak q λu e q=>?_;refine bL (R.list d) λp n O f S=>?_;exact Um R O f S e q
  ·refine ak q λu e q=>?_;refine bL (R.tup d) λp n O f S=>?_;exact GU R O f S e q
  ·refine ak q λu e q=>?_;refine bL (KL e) λc j M O b=>?_;subst M;obtain⟨g,S⟩:=R.bl d;exact k7 g.typeIs uP.lookup (Tz g (GV O S) b λW B=>(c5 (.int c.toNat) h ⟨_,rfl⟩ (R.toks _) q))
 ·cases T;refine ak q λu e q=>?_;refine iu i.lay λC D n r=>?_;obtain⟨E,F⟩:=R.fr;exact GU R (F.keep _ _ (X _ _ r)) (vs:=[.int 2,.int 3]) (.cons ⟨_,rfl⟩ (.cons ⟨_,rfl⟩ .nil)) (by refine rE yY ?_;decide) e q
theorem zd(l:List c)(a b:Nat):(l.drop a).take (b - a)=cut l a b:=List.drop_take.symm
theorem part_of{n dflt:Nat}{v:V}{y:af}{l:Nat}(r:VR v y)(e:bound n dflt v=some l):∃o,mZ y o/\o.elim dflt (bA n)=l:=by
 rcases v with _ |_<;>first |rcases e with ⟨⟩ |skip
 ·rcases r with ⟨⟩;exact(aq none .none rfl)
 ·obtain⟨t,rfl⟩:=r;exact(aq _ (.int _ t) rfl)
theorem bf.cut(r:bf c d)(a b:Nat):bf (Internal.cut c a b) (Internal.cut d a b):=(r.take b).drop a
theorem uQ(l:List c)(a b:Nat):(cut l a b).length<=l.length:=by
 unfold cut;refine rE gR (rE fj ?_);exact xM
theorem uR(F:VR e j)(K:VR g k)(q:(rM b e g f).run h Q):
  ∃l r a c,mZ j a/\mZ k c/\a.elim 0 (bA b.length)=l/\c.elim b.length (bA b.length)=r/\(f (cut b l r)).run h Q:=by
 have q:(match bound b.length 0 e with |.some l=>(match bound b.length b.length g with |.some r=>f (cut b l r) |.none=>.bad) |.none=>.bad:Rs).run h Q:=q;induction d:bound b.length 0 e with
 |none=>rw[d] at q;exact q.elim
 |some l =>
  induction i:bound b.length b.length g with
  |none=>rw[d,i] at q;exact q.elim
  |some r =>
   rw[d,i] at q;refine ak (part_of F d) λa p1 M=>?_;refine ak (part_of K i) λc O R=>?_;exact⟨l,r,a,c,p1,O,M,R,q⟩
theorem uS{l r:Nat}(F:a.elim 0 (bA b.length)=l)(K:c.elim b.length (bA b.length)=r):tq b.toArray a c=(cut b l r).toArray:=by
 rw[KBc.picked_eq,fG,F,K,zd]
theorem Uo(R:ai x h m s)(j:VR u y)(b:VR p t)(c:VR v B)(q:(ur u p v).run h Q)(d:s.heap.IsSliceOf C t B .none):
  aL (av pg w) A (oM value slice y (.ref C)) (cS x m Q) Er s:=by
 rcases u with _ |_<;>first |exact q.elim |skip
 ·refine ak j λD e E=>?_;refine rE e ?_;refine t7 (uR (f:=λl=>.val (.bytes l)) b c q) λl r V W p1 M F K q=>?_;refine k7 (lI _ _ _) w0.lookup ?_;have X:=ah (uQ _ l r) E;refine C7 (lI _ _ _) (by decide) w0 L0 (L6 _ _) (KBc.meets_slice2 _ D _ p1 M) (aH d ?_ (λG H=>?_))
  ·refine rE (uS F K) (rE fG ?_);exact ah X fT
  ·refine rE (uS F K) ?_;exact(c5 (.bytes _) h (aq _ rfl X) (R.toks _) q)
 ·cases j;refine ak q λo g q=>?_;rcases o with _ |_<;>first |exact q.elim |skip
  ·refine t7 (uR (f:=λl=>.new (.list l)) b c q) λl r V W p1 M F K q=>?_;refine bL (R.list g) λO n i S T=>?_;have a:s.heap.IsList _ O:=(hQ _ i rfl n rfl)
   refine k7 a.typeIs wZ (Di a d p1 M .none (by intro z;exact aN z) ?_ (by refine rF S.size ?_;exact kZ T));rw[show slicePick O V W none=(cut O.toList l r).toArray by rw[L7,←S.size,F,K,zd]];exact R.newList (S.cut l r) (ah (uQ _ l r) T) q
  ·refine t7 (uR (f:=λl=>.new (.bl l)) b c q) λl r V W p1 M F K q=>?_;refine(R.bl g).elim λk T=>?_;have X:=ah (uQ _ l r) T;refine k7 k.typeIs uP.lookup (TB p1 M k d ?_ ?_)
   ·refine rE (uS F K) (rE fG ?_);exact ah X fT
   ·refine rE (uS F K) ?_;exact R.GO X q
  ·refine t7 (uR (f:=λl=>.new (.list l)) b c q) λl r V W p1 M F K q=>?_;refine bL (R.Ua g) λO n i S T=>?_;have a:s.heap.IsList _ O:=(hQ _ i rfl n rfl)
   refine k7 a.typeIs wZ (Di a d p1 M .none (by intro z;exact aN z) ?_ (by refine rF S.size ?_;exact kZ T));rw[show slicePick O V W none=(cut O.toList l r).toArray by rw[L7,←S.size,F,K,zd]];exact R.newList (S.cut l r) (ah (uQ _ l r) T) q
end
section
variable{Z:Zx}
section
variable{M:cV}{A:bk}{E:af->ag->Prop}{s:ag}{env:Env}{value slice:ao}{Q:af->ag->Prop}
theorem ze{S:Pos}
  (h:aj M A (eval value env) (λo F=>aj M A (eval slice env) (λi K=>aj M A (oM value slice o i) Q E K) E F) E s):aj M A (eval (.Subscript value slice S) env) Q E s:=by
 rw[eval_Subscript];exact ar (aF h (λo F O=>ar (bO (aF O (λi K R=>ar (iD R)) λT T x=>x))) λT T x=>x)
theorem GW{K O step:Option ao}{a:Pos}
  (h:aj M A (w5 K env) (λl R=>aj M A (w5 O env) (λu S=>aj M A (w5 step env) (λst F =>
   Q (.ref F.heap.objs.size) {F with heap:=F.heap.push {cls:=.type "slice",data:=.fields #[l,u,st]}}) E S) E R) E s) :
  aj M A (eval (.Slice K O step a) env) Q E s:=by
 rw[arm_eval_Slice];exact ar (aF h (λl R T=>ar (bO (aF T (λu S V=>ar (bO (aF V (λst F W=>bj (C5 W)) λX X x=>x))) λX X x=>x))) λX X x=>x)
end
theorem Up(F:bg Z){o i:X}{O S:ao}{K:Pos}(T:SE Z o O)(V:SE Z i S):SE Z (.sub o i) (.Subscript O S K) :=
 λR W=>ze (two T V R W λa b c d=>aF (bj (Un F.FK F.X c a b d)) (λM M z=>z.ok) λM M e=>e)
def SP(Z:Zx)(lo:X)(l:Option ao):Prop:=∀ {s:ag} {h:Hp} {m:M} {Q:PV} {E:PE},ai Z.x h m s->ev look ac (runs Z.n) Z.c lo h m Q E->aj Z.M Z.A (w5 l Z.env) (jg Z.x Q) (eR Z.x E) s
theorem Uq{lo:X}{l:ao}(h:SE Z lo l):SP Z lo (some l):=λR F=>h R F
theorem Ur:SP Z .absent none:=λR F=>aI (fS .none _ _ rfl R F)
theorem Us{o lo O:X}{S:ao}{l u:Option ao}{p1 V:Pos}(W:SE Z o S)(K:SP Z lo l)(M:SP Z O u):SE Z (.slice o lo O) (.Subscript S (.Slice l u none p1) V):=by
 intro s h m Q E R a;refine ze (aF (W R a) (λy A c=>?_) λF F e=>e);refine eS c λu B d f g i=>?_;refine GW (aF (K g i) (λC D j=>?_) λF F e=>e);refine eS j λG H k n p q=>?_;refine aF (M p q) (λI T r=>?_) λF F e=>e;refine eS r λJ L t v w x=>?_;exact aI (aF (bj (Uo (s:={T with heap:=T.heap.push _}) (w.grow (λb o e=>dC _ e) ⟨rfl,rfl,rfl⟩) f n v x (L9 ..))) (λF F z=>z.ok) λF F e=>e)
theorem Ut(V:SE Z o a):SE Z (.rev o) (.Subscript a (KN p1 l p u) q):=by
 intro s h m Q E R W;refine ze (aF (V R W) (λy F X=>?_) λc c e=>e);refine eS X λu r d f M K=>?_;rcases u with _ |_<;>first |exact K.elim |skip
 cases f;refine ak K λt g K=>?_;refine bL (M.list g) λi n j O S=>?_;refine GW (aI (aI (show aj _ _ (eval (.UnaryOp .USub (.Constant (.int 1) _ _) _) _) _ _ _ from Gp (bj (CW (bj (Li ?_)))))));have T:(F.heap.push {cls:=.type "slice",data:=.fields #[.none,.none,.int (-1) (F.toks+1)]}).IsList _ i:=aci (hQ _ j rfl n rfl) _;refine bj (k7 (acj (s:={F with heap:=_,toks:=_}) T) wZ (Di (s:={F with heap:=_,toks:=_}) T (L9 ..) .none .none (.int _ _) (by intro z;exact nomatch z) ?_ (by refine rF O.size ?_;exact kZ S)));rw[krv_pick];have k:=M.grow (s':={F with heap:=F.heap.push {cls:=.type "slice",data:=.fields #[.none,.none,.int (-1) (F.toks+1)]},toks:=F.toks+1+1}) (λb o e=>dC _ e) ⟨rfl,rfl,rfl⟩;exact(k.newList O.reverse (by rw[w6];exact S) K).ok
theorem Uu:gy Z [] []:=λR F=>aI (Gi [] _ _ .nil rfl R F)
theorem Uv(O:SE Z e pe)(F:gy Z a b):gy Z (e::a) (pe::b):=by
 intro s h m Q E R S;refine uH (aF (O R S) (λy n T=>?_) λK K e=>e);refine eS T λu V o W X c=>?_;refine aF (F X c) (λp q d=>?_) λK K e=>e;refine yM d λf M g i j k l=>?_;exact(Gi (u::f) M g (.cons W i) (congrArg (·+1) j) k l)
theorem GX(O:fx b)(K:gy Z c b){s:ag}{h:Hp}{m:M}{E:PE}{Q:List V->Hp->M->Prop}{G:List af->ag->Prop}(R:ai Z.x h m s)
  (S:cY look ac (runs Z.n) Z.c c h m Q E) (k:∀ {a xs h m s},bf a xs->a.length=c.length->ai Z.x h m s->Q a h m->G xs s) :
  aj Z.M Z.A (lC (wA d (wz b Z.env))) G (eR Z.x E) s:=by
 refine rE (yI O) ?_;exact aF (K R S) (λF F T=>yM T λF F F r W R q=>k r W R q) λF F e=>e
theorem v'(h:n<100)(e:k=n):k<=bB:=by refine rE yY ?_;exact e▸ah (aO h) (by decide)
theorem Uw(M:fx a)(K:b.length<100)(F:gy Z b a):SE Z (.list b) (.List a d):=by
 intro s h m Q E R O;rw[arm_eval_List];exact ar (iD (ar (GX M F R O λ{g xs h m s} r c e f=>bj (Ma (e.newList (xs:=xs.toArray) (Q:=λv h=>Q v h m) r (v' K c) f).ok (by refine rF r.length ?_;exact kZ (v' K c))))))
theorem Ux(M:fx a)(K:b.length<100)(F:gy Z b a):SE Z (.tup b) (.Tuple a u d):=by
 intro s h m Q E R O;rw[arm_eval_Tuple];exact ar (iD (ar (GX M F R O λ{g xs h m s} r c e f=>bj (wpAny_newTuple (e.Uc (xs:=xs.toArray) (Q:=λv h=>Q v h m) r (v' K c) f).ok (by rw[←r.length];exact kZ (v' K c))))))
theorem Uy(F:bg Z){M:Pos}:SE Z .jQ (.Dict [] [] M):=by
 intro s h m Q E R V;have K:s.heap.objs.size≠oF:=by
  refine ku F.T λX O S a b T=>?_;obtain⟨c,Fr⟩:=R.fr;exact λe=>absurd e (gp (cZ (show oF<mainGlobals by decide) (T.g.keeps Fr.keep).lt))
 exact bj (wpAny_Dict_empty (fS (.ref _) _ m rfl (R.push (o:=.dict 0 λW=>none) rfl rfl λd=>(fo _ _ rfl ⟨a6 _,λW h=>absurd h (Array.not_mem_empty _),λi=>rfl⟩ (ca _) K)) (V _ (R.jV (a6 _)))))
end
structure Uz(b:Bi):Prop where
 boot:Mb (l' b)=some (yC b)
 name:l' b ≠ "__name__"
 UA:(l' b == ("__debug__" : az))=false
theorem zf:∀b,Uz b
 |.len=>⟨by decide +kernel,by decide +kernel,by decide +kernel⟩
 |.min=>⟨by decide +kernel,by decide +kernel,by decide +kernel⟩
 |.max=>⟨by decide +kernel,by decide +kernel,by decide +kernel⟩
 |.abs=>⟨by decide +kernel,by decide +kernel,by decide +kernel⟩
 |.int=>⟨by decide +kernel,by decide +kernel,by decide +kernel⟩
 |.bytes=>⟨by decide +kernel,by decide +kernel,by decide +kernel⟩
 |.bytearray=>⟨by decide +kernel,by decide +kernel,by decide +kernel⟩
 |.tuple=>⟨by decide +kernel,by decide +kernel,by decide +kernel⟩
 |.range=>⟨by decide +kernel,by decide +kernel,by decide +kernel⟩
 |.str=>⟨by decide +kernel,by decide +kernel,by decide +kernel⟩
section
variable{x:Cx}{h:Hp}{m:M}{s:ag}{pg:bJ}{w:bE}{A:bk}{Er:af->ag->Prop}{Q:V->Hp->Prop}
theorem UB{K:List V}{M:List af}(r:bf K M):∀ {F:List UInt8},jR K=some F->∃a:List Int,Dj M a/\(∀n∈a,0<=n/\n<256)/\byteArr a=F.toArray:=by
 induction r with
 |nil=>intro F e;refine sF e ?_;exact(bG [] .nil (λd h=>(dx h)) rfl)
 | @cons v x K M r f c =>
  intro F e;rcases v with _ |_<;>first |exact aN e |skip
  rename_i i;obtain⟨t,rfl⟩:=r;have e:(if 0<=i/\i<256 then (jR K).map (dU i.toNat::·) else .none)=some F:=e;by_cases b:0<=i/\i<256
  ·rw[if_pos b] at e;refine ak (hH.mp e) λO S R=>?_;subst R;refine cr (c S) λa a1 a2 T=>?_;refine(bG (i::a) (.cons i t a1) (λn W=>(cW.mp W).elim (λz=>z▸b) (a2 n)) ?_);have X:a.map (λn=>dU n.toNat)=O:=congrArg Lj T;show(dU i.toNat::a.map λn=>dU n.toNat).toArray=_;exact rE X rfl
  ·rw[if_neg b] at e;exact aN e
theorem ai.alloc(R:ai x h m s){o:O}{y:Obj}{q:ax}(K:s.heap.objs.size<=q)(M:∀b o,s.heap.get? b=some o->c.heap.get? b=some o)(T:c.heap.get? q=some y)(st:d7 s c)
  (V:o.jU=false) (W:∀r,OB r q y o):ai x (h.set q o) m c:=by
 refine R.fr.elim λX F=>?_;refine R.own.elim λw O=>?_;refine⟨⟨X,F.keeps M⟩,R.aa.imp λf N=>⟨N.1.keeps M,N.2⟩,R.dist,⟨_,⟨λa z e=>?_,O.hr.put (.inl ⟨?_,O.none K⟩) V (W _),λt S=>?_⟩⟩,R.frs.keeps M,R.ef.trans st⟩
 ·by_cases d:a=q
  ·subst d;rw[show z=y from (bq ((bC ..).symm.trans e)).symm];exact(aH T (gp (bn F.ns.lt K)) (Fr.kP F K))
  ·have e:=(bv _ _ d).symm.trans e;exact⟨M _ _ (O.own a z e).1,(O.own a z e).2⟩
 ·induction e:w.T q with
  |none=>rfl
  |some t=>have:=O.hr.tw _ _ e;rw[O.none K] at this;exact a9 this
 ·exact(bv _ _ (cK (bn (R.frs.lt S) K))).trans (O.fn t S)
theorem mj(r:bf b c)(q:(a1 b f).run h Q):∃v y,c=[y]/\VR v y/\(f v).run h Q:=by
 induction r with
 |nil=>exact q.elim
 |cons a r =>
  induction r with
  |nil=>exact(cb _ _ rfl a q)
  |cons _ _=>exact q.elim
theorem zg(r:bf c d)(q:(a2 c f).run h Q):∃v u y z,d=[y,z]/\VR v y/\VR u z/\(f v u).run h Q:=by
 induction r with
 |nil=>exact q.elim
 |cons a r =>
  induction r with
  |nil=>exact q.elim
  |cons b r =>
   induction r with
   |nil=>exact(xK _ _ _ _ rfl a b q)
   |cons _ _=>exact q.elim
theorem qt(r:VR v y)(q:(nB v f).run h Q):∃i t,y=.int i t/\(f i).run h Q:=by
 rcases v with _ |_<;>first |exact q.elim |skip
 refine r.elim λt e=>?_;exact(de _ t e q)
theorem uT(r:VR v y)(F:VR u z)(q:(hU v u f).run h Q):∃i j t a,y=.int i t/\z=.int j a/\(f i j).run h Q:=by
 rcases v with _ |_<;>first |exact q.elim |skip
 rcases u with _ |_<;>first |exact q.elim |skip
 refine r.elim λt e=>?_;refine F.elim λa K=>?_;exact(xJ _ _ t a e K q)
theorem UC(R:ai x h m s)(r:VR v y)(q:(Fh v).run h Q):aL (av pg w) A (call (.builtin "len") [y]) (cS x m Q) Er s:=by
 rcases v with _ |_<;>first |exact q.elim |skip
 ·refine ak r λt F S=>?_;refine rE F ?_;exact PySem.W.len_bytes (by refine rE fG ?_;exact ah S (ah fT (by decide))) (c5 (.int _) h ⟨_,rfl⟩ (R.toks _) q)
 ·cases r;refine ak q λo M q=>?_;rcases o with _ |_<;>first |exact q.elim |skip
  ·refine bL (R.list M) λW n T O K=>?_;exact Calls.call_len_list (hQ _ T rfl n rfl) (by refine rF O.size ?_;have:=fT;exact jw (bt.mpr (ah K this)) (by decide)) (c5 (.int _) h ⟨_,by exact rE O.size rfl⟩ (R.toks _) q)
  ·refine(R.bl M).elim λV K=>?_;exact T2 V (by refine rE fG ?_;exact kZ K) λt X=>(c5 (.int _) h ⟨_,rfl⟩ (R.toks _) q)
theorem UD(R:ai x h m s)(W:A.handled=none)(r:VR v y)(q:(Fi v).run h Q):aL (av pg w) A (call (.type "bytes") [y]) (cS x m Q) Er s:=by
 rcases v with _ |_<;>first |exact q.elim |skip
 ·refine ak r λt M X=>?_;refine rE M ?_;exact T9 (c5 (.bytes _) h (aq t rfl X) R q)
 ·cases r;refine ak q λo T q=>?_;rcases o with _ |_<;>first |exact q.elim |skip
  ·refine ak q λu e q=>?_;refine ak (hH.mp e) λa b O=>?_;subst O;refine bL (R.list T) λc n d S K=>?_;refine cr (UB S b) λf a1 a2 V=>?_;have F:=byteArr_size f;rw[V,←a1.length,fG,←S.length] at F;exact call_bytes_ints (vs:=c.toList) (hQ _ d rfl n rfl) a1 a2 (by refine rF S.length ?_;exact ah K (ah fT (by decide))) W λk t g i=>(c5 (.bytes a) h (aq t (by exact rE V rfl) (by rw[F];exact K)) (R.grow i ⟨rfl,rfl,rfl⟩) q)
  ·refine(R.bl T).elim λj K=>?_;exact T8 j (by refine rE fG ?_;exact ah K fT) λt g=>(c5 (.bytes _) h (aq t rfl K) (R.toks _) q)
theorem UE(R:ai x h m s)(r:bf b c)(q:(Fj b).run h Q):aj (av pg w) A (call (.type "bytearray") c) (cS x m Q) Er s:=by
 induction r with
 |nil=>exact TZ λS F K=>(c5 (.ref s.heap.objs.size) _ rfl (R.alloc (o:=.bl []) (a6 _) K F ⟨rfl,rfl,rfl⟩ rfl λT=>⟨rfl,ca _⟩) (q _ (R.jV (a6 _))))
 | @cons v y b c a r =>
  rcases v with _ |_<;>first |exact q.elim |skip
  refine ak a λt M O=>?_;refine rE M ?_;induction r with
  |nil=>exact T0 (by refine rE fG ?_;exact ah O fT) λS F K=>(c5 (.ref s.heap.objs.size) _ rfl (R.alloc (o:=.bl _) (a6 _) K F ⟨rfl,rfl,rfl⟩ rfl λT=>⟨rfl,O⟩) (q _ (R.jV (a6 _))))
  |cons _ _=>exact q.elim
theorem UF(R:ai x h m s)(r:bf d e)(q:(Fk d).run h Q):aL (av pg w) A (call (.type "range") e) (cS x m Q) Er s:=by
 have F:∀ {lo O st:Int} {W X f:Tok} {n:Nat},gw lo->gw O->(st=1\/st=-1)->(Rs.new (.range lo O st)).run h Q ->
   cS x m Q (.ref s.heap.objs.size) {s with heap:=s.heap.push {cls:=.type "range",data:=.fields #[.int lo W,.int O X,.int st f]},toks:=n} :=
  λg l p q=>(c5 (.ref s.heap.objs.size) _ rfl ((R.push (o:=.range _ _ _) rfl rfl λv=>(kx _ _ _ rfl g l p)).toks _) (q _ (R.jV (a6 _))))
 cases r with
 |nil=>exact q.elim
 |cons a r =>
  cases r with
  |nil =>
   refine bL (qt a q) λi t S M q=>?_;refine rE S ?_;exact call_range_1 (F (by unfold gw;decide) M (.inl rfl) q)
  |cons b r =>
   cases r with
   |nil =>
    obtain⟨i,j,t,u,rfl,rfl,⟨M,K⟩,q⟩:=uT a b q;exact call_range_2 (F M K (.inl rfl) q)
   |cons c r =>
    cases r with
    |nil =>
     refine lN (uT a b q) λi j t u T V q=>?_;refine rE T ?_;subst V;obtain⟨k,t,rfl,⟨rfl,M,K⟩,q⟩:=qt c q;exact call_range_3 (by decide) (F M K (.inr rfl) q) (Or.inl (PyProof.noPylong_of_log2 (by decide +kernel)))
    |cons _ _=>exact q.elim
theorem UG(R:ai x h m s)(O:A.handled=none)(r:bf d a)(q:(kB b d).run h Q):aj (av pg w) A (call (yC b) a) (cS x m Q) Er s:=by
 induction b with
 |len=>obtain⟨v,y,rfl,r,q⟩:=mj r q;exact bj (UC R r q)
 |min =>
  refine kv (zg r q) λu v y z F S T q=>?_;refine rE F ?_;refine lN (uT S T q) λi j t X F K q=>?_;subst F;subst K;refine bj (min_two_ints O λe W V=>(c5 (.int (min i j)) h ?_ (R.grow V ⟨rfl,rfl,rfl⟩) q));by_cases c:j<i
  ·refine rE (if_pos c) (rE (Mc (gM c)) ?_);exact⟨_,rfl⟩
  ·refine rE (if_neg c) (rE (Md (cz.mp c)) ?_);exact⟨_,rfl⟩
 |max =>
  refine kv (zg r q) λu v y z F S T q=>?_;refine rE F ?_;refine lN (uT S T q) λi j t X F K q=>?_;subst F;subst K;refine bj (max_two_ints O λe W V=>(c5 (.int (max i j)) h ?_ (R.grow V ⟨rfl,rfl,rfl⟩) q));by_cases c:j > i
  ·refine rE (if_pos c) (rE (KX (gM c)) ?_);exact⟨_,rfl⟩
  ·refine rE (if_neg c) (rE (Me (cz.mp c)) ?_);exact⟨_,rfl⟩
 |abs =>
  obtain⟨v,y,rfl,r,q⟩:=mj r q;obtain⟨i,t,rfl,q⟩:=qt r q;refine bj (ack λu W=>(c5 (.int i.natAbs) h ⟨u,?_⟩ (R.toks _) q));exact wy (λc=>(congrArg (qK · _) (if_pos c)).trans (congrArg (qK · _) (Int.ofNat_natAbs_of_nonpos (gM c)).symm)) λc=>(congrArg (qK · _) (if_neg c)).trans (congrArg (qK · _) (BK (cz.mp c)).symm)
 |int =>
  refine bL (mj r q) λv y M r q=>?_;refine rE M ?_;rcases v with _ |_<;>first |exact q.elim |skip
  rcases r with ⟨⟩;exact bj (call_int_bool (c5 (.int _) h ⟨_,rfl⟩ (R.toks _) q))
 |bytes=>obtain⟨v,y,rfl,r,q⟩:=mj r q;exact bj (UD R O r q)
 |bytearray=>exact UE R r q
 |tuple =>
  refine bL (mj r q) λv y M r q=>?_;refine rE M ?_;rcases v with _ |_<;>first |exact q.elim |skip
  rcases r with ⟨⟩;refine ak q λo f q=>?_;rcases o with _ |_<;>first |exact q.elim |skip
  refine bL (R.tup f) λa n g p B=>?_;exact bj (call_tuple_tup (hQ _ g rfl n rfl) (c5 (.ref _) h rfl R q))
 |range=>exact bj (UF R r q)
 |str =>
  obtain⟨v,y,rfl,r,q⟩:=mj r q;obtain⟨i,t,rfl,⟨k,l⟩,q⟩:=qt r q;refine bj (str_of_int_fit (N:=100) (by split<;>omega) (Int.le.intro_sub (4611686018427387904 - w7 99) rfl) λC=>(c5 (.txt 102) h (de _ _ rfl ?_) (R.toks _) q));have:=len_str_of_int i;exact OA k l this
end
section
variable{Z:Zx}
theorem r9{M:cV}{A:bk}{E:af->ag->Prop}{s:ag}{F:Env}{id:az}{R K:Pos}{dg:List ao}{Q:af->ag->Prop}(S:fx dg)
  (h:aj M A (eval (.Name id R) F) (λf O=>aj M A (oH K f [] (dZ F dg) []) Q E O) E s):aj M A (eval (.Call (.Name id R) dg [] K) F) Q E s:=by
 rw[arm_eval_Call_Name',yI S];exact ar h
theorem uU(K:gy Z c d){s:ag}{h:Hp}{m:M}{E:PE}{Q:af->ag->Prop}{P:List V->Hp->M->Prop}(R:ai Z.x h m s)
  (O:cY look ac (runs Z.n) Z.c c h m P E)
  (k:∀ {a b h m s},bf a b->ai Z.x h m s->P a h m->kQ Z.M Z.A f s/\aj Z.M Z.A (call f (first++b) []) Q (eR Z.x E) s) :
  aj Z.M Z.A (oH g f first (dZ Z.env d) []) Q (eR Z.x E) s :=
 uI (aF (K R O) (λF F S=>yM S λF F F r F R q=>k r R q) λF F e=>e)
theorem UH{M:cV}{A:bk}{s:ag}:∀ {b:Bi},kQ M A (yC b) s
 |.len=>kY |.min=>kY |.max=>kY |.abs=>kY |.int=>pC |.bytes=>pC |.bytearray=>pC |.tuple=>pC |.range=>pC |.str=>pC
theorem UI(F:bg Z){b:Bi}{V:List X}{K:List ao}{p1 a:Pos}(c:Z.env.kindOf (l' b)=some .globalImplicit)(d:fx K)(M:gy Z V K):SE Z (.aB b V) (.Call (.Name (l' b) p1) K [] a):=by
 intro s h m Q E R f;refine r9 d ?_;refine ku F.T λk O W l n T=>?_;refine R.fr.elim λo Fr=>?_;exact bj (wE F.kind c (Mf (by refine rE F.glob ?_;exact T.g.keeps Fr.keep) (Mg F.X T.g (F.FK.SF b)) (by refine rE F.jh ?_;exact T.b.keeps Fr.keep) ((T.builtins _ (zf b).name).trans (zf b).boot)
  (uU M R f λg i j=>⟨UH,aF (UG i F.handled g j) (λS S z=>z.ok) λS S e=>e⟩)) (zf b).UA)
end
noncomputable def KJ:List String->Bool
 |[]=>true
 |a::r=>(decide ((dD a).cps[0]?≠some 0)&&r.all λz=>!seq (dD z) (dD a))&&KJ r
theorem GY:∀ {l:List String},KJ l=true->∀ {i j:Nat},kK l i=kK l j->i=j
 |[],_,i,j,e=>by
  have e:(⟨#[0,i]⟩:az)=⟨#[0,j]⟩:=e;injection e with e;injection e with e;injection e with _ e;injection e
 |a::r,_,0,0,_=>rfl
 |a::r,h,0,j+1,e=>by
  have:=pD (rZ (dn (an (an h).1).1)) (an (an h).1).2 j;rw[show kK r j=dD a from e.symm,pz] at this;exact df this
 |a::r,h,i+1,0,e=>by
  have:=pD (rZ (dn (an (an h).1).1)) (an (an h).1).2 i;rw[show kK r i=dD a from e,pz] at this;exact df this
 |a::r,h,i+1,j+1,e=>congrArg (·+1) (GY (an h).2 (show kK r i=kK r j from e))
theorem k8(h:nm x=nm y):x=y:=Nm.eq (GY (by kernel_rfl) h)
theorem GZ:(Value.str (nm x) t).isStr (nm y)=nb x y:=by
 show(nm x == nm y)=_;induction q:nb x y with
 |true=>refine rE (eO q) ?_;exact beq_self_eq_true _
 |false=>exact beq_eq_false_iff_ne.mpr λe=>ue q (k8 e)
theorem f9.length(H:f9 a b):b.length=a.length:=by
 induction H with
 |nil=>rfl
 |cons _ _ _ c=>exact congrArg (·+1) c
theorem UJ(h:e.key=.str (nm x) t):w8 (nm y) (e::a)=(match nb x y with |true=>some (some e.val) |false=>w8 (nm y) a):=by
 unfold w8;have F:e.refKey=false:=by unfold acl;exact rE h rfl
 rw[List.find?_cons,h,GZ,LH,F,C'];cases nb x y<;>rfl
theorem f9.getL(H:f9 a b)(y:Nm):∃o,w8 (nm y) b=some o/\jT (mget a y) o:=by
 induction H with
 |nil=>exact(aq none rfl rfl)
 | @cons e x v a b t k r _ c =>
  refine rE (UJ k) ?_;show ∃o,_/\jT (match nb x y with |true=>some v |false=>mget a y) o;induction nb x y with
  |true=>exact(jJ _ rfl _ rfl r)
  |false=>exact c
theorem f9.put(H:f9 b a)(y:Nm)(F:Int)(t:Tok){u:V}{v:af}(r:VR u v):f9 (bu b y u) (putL (nm y) F (.str (nm y) t) v a):=by
 induction H with
 |nil=>exact .cons rfl r .nil
 | @cons e x w b a f k c H d =>
  have K:putL (nm y) F (.str (nm y) t) v (e::a)=(match nb x y with |true=>⟨e.hash,e.key,v⟩::a |false=>e::putL (nm y) F (.str (nm y) t) v a):=by
   show(if e.key.isStr (nm y) then _ else _)=_;refine rE k (rE GZ ?_);cases nb x y<;>rfl
  refine rE K ?_;show f9 (match nb x y with |true=>(x,some u)::b |false=>(x,some w)::bu b y u) _;induction q:nb x y with
  |true=>exact .cons k r H
  |false=>exact .cons k c d
theorem G1:∀(m:M),(bu m x v).length<=m.length+1
 |[]=>a6 _
 |p::r=>by
  show(match nb p.1 x with |true=>(p.1,some v)::r |false=>p::bu r x v).length<=_;induction nb p.1 x with
  |true=>exact dc _
  |false=>exact db (G1 r)
theorem Ns.uniq{h K:dp}{a:ax}{O R:az->Option af}(N:h.Ns a R)(M:h.Ns a O)(W:K.Ns a O):K.Ns a R:=by
 refine iw N λo S T X b l c=>?_;refine iw M λm d e V F p f=>?_;rw[X] at V;obtain rfl:=bq V;rw[b] at F;injection F with F;subst F;refine iw W λo S T g i j k=>?_;exact(kx o S T g i j (λn=>by rw[k,←f,c]))
theorem Ns.same{h F:dp}{a:ax}{K:az->Option af}(N:h.Ns a K)(e:h.get? a=F.get? a):F.Ns a K:=by
 refine c4 N λo M O R S=>?_;exact(c9 o M O (by refine rF e ?_;exact R) S)
section
variable{K:bc}{pg:bJ}{w:bE}{A:bk}{x:Cx}{h:Hp}{m:M}{s:ag}{Er:af->ag->Prop}
theorem VR.handed(r:VR v y):handedIn y=true:=by
 rcases v with _ |_<;>first |(exact dx r;rfl) |(obtain⟨t,rfl⟩:=r;rfl) |(obtain⟨t,rfl,_⟩:=r;rfl) |(refine bZ r λt u F M=>?_;subst F;rfl)
theorem ai.uV(R:ai x h m s){a:Nat}{c:Cl}{F:M}(e:h a=some (.inst c F)):∃d b n,InstAt s.heap a (go (bV c) d) (bV c) (some (io b n))/\f9 F b:=by
 obtain⟨d,b,n,O,S,T⟩:=R.inst e;exact(c9 d b n ⟨O,rfl,rfl,S⟩ T)
theorem UK(C:eE K)(X:K.In x.g)(R:ai x h m s)(O:h a=some (.inst c e))(S:look c f=.field)(T:mget e f=some u)(q:Q u h):
  aL (av pg w) A (oN (.ref a) (nm f) b) (cS x m Q) Er s:=by
 refine R.fr.elim λW F=>?_;refine c4 (R.uV O) λd g n I H=>?_;refine ak (H.getL f) λo V M=>?_;rw[T] at M;obtain⟨v,rfl,M⟩:=M;exact get_own F X I (C.get c) (C.hd c) (C.field c f S) rfl V (VR.handed M) (cb u h M (R.toks _) q)
theorem UL(C:eE K)(X:K.In x.g)(R:ai x h m s)(S:h a=some (.inst c e))(T:look c f=.const u)(V:mget e f=none)(q:Q u h):
  aL (av pg w) A (oN (.ref a) (nm f) b) (cS x m Q) Er s:=by
 obtain⟨k,F⟩:=R.fr;refine c4 (R.uV S) λd l n I H=>?_;refine ak (H.getL f) λo W M=>?_;rw[V] at M;cases M;refine fm (C.const c f u T) λv g O i j=>?_;exact get_cls F X I (C.get c) (C.hd c) g i (VR.handed O) j W (cb u h O (R.toks _) q)
noncomputable def restOf(x:Cx)(w:Ow)(s:ag)(d:ax):List (ax×Obj):=(jk w.W s.heap.objs.size).filter (·.1 != d)++x.p.fr.filterMap λq=>(s.heap.get? q.1).map λo=>(q.1,o)
theorem UM(O:ez x h s o)(e:o.W b=some y)(F:b≠d):(b,y)∈restOf x o s d:=oO _ (ty.mpr ⟨O.mem e,bne_iff_ne.mpr F⟩)
theorem UN(F:q∈x.p.fr)(e:s.heap.get? q.1=some y):(q.1,y)∈restOf x o s d:=oJ _ (wG.mpr (aq q F (by refine rE e ?_;rfl)))
theorem G2(O:ez x h s o)(R:nQ x.p.fr x.g x.L s.heap)(F:∃z,o.W d=some z)(hm:(b,y)∈restOf x o s d):b≠d/\s.heap.get? b=some y/\b≠x.L/\x.g.get? b=none:=by
 rcases Mh.mp hm with hm |hm
 ·have:=ty.mp hm;exact⟨bne_iff_ne.mp this.2,O.own _ _ (yO.mp this.1).2⟩
 ·refine ak (wG.mp hm) λq M e=>?_;refine ak (hH.mp e) λV S T=>?_;cases T;exact(aH (λe=>by refine F.elim λz F=>?_;have:=O.fn q M;rw[e,F] at this;cases this) S ((R q M).2))
theorem G3{u:V}{v:af}{Q:Hp->Prop}(C:eE K)(X:K.In x.g)(R:ai x h m s)(l:h a=some (.inst c g))(H:look c f=.field)(J:g.length<100)(r:VR u v)
  (q:Q (h.set a (.inst c (bu g f u)))):aL (av pg w) A (PySem.setAttr (.ref a) (nm f) v) (λL P=>∃h,ai x h m P/\Q h) Er s:=by
 refine R.fr.elim λU F=>?_;refine ak R.aa λp N Y=>?_;refine R.own.elim λo O=>?_;refine eb (O.hr.ins _ _ _ l) λT n Z M t e4=>?_;have I:InstAt s.heap a (go (bV c) (o.δ a)) (bV c) (some (io T n)):=⟨(O.own _ _ Z).1,rfl,rfl,(O.own _ _ M).1⟩
 refine ak (t.getL f) λog eg L=>?_;have B:=t.put f (Mi w.params (nm f)) (s.toks+1) r;have hN:News x.g x.L s.heap ((o.δ a,io T n)::restOf x o s (o.δ a)):=λq W=>(cW.mp W).elim (λe=>by refine rE e ?_;exact O.own _ _ M) λW=>(G2 O R.frs ⟨_,M⟩ W).2
 refine set_dict F X hN I rfl (C.set c) (C.over c) (by unfold w9;refine rE (C.field c f H) ?_;rfl) (C.hd c) (by refine rE eg ?_;rfl) rfl (.head λq S=>(G2 O R.frs ⟨_,M⟩ S).1) ?_ λD E i=>?_
 ·refine rE B.length ?_;exact ah (G1 g) (ah J (by decide))
 have G:∀b y,(o.W.set (o.δ a) (io (putL (nm f) (Mi w.params (nm f)) (.str (nm f) (s.toks+1)) v T) (putN (nm f) T n))) b=some y->D.get? b=some y/\b≠x.L/\x.g.get? b=none:=by
  intro b y e;by_cases j:b=o.δ a
  ·subst j;rw[show y=_ from (bq ((bC ..).symm.trans e)).symm];exact i _ (.head _)
  ·exact i (b,y) (.tail _ (UM O ((bv _ _ j).symm.trans e) j))
 have hD:D.Ns x.D p:=by
  rcases R.dist with d |⟨ob,d⟩
  ·rw[d] at N ⊢;exact Ns.uniq N F.ns E.ns
  ·have k:=O.hr.tp _ _ d;exact Ns.same N ((O.own _ _ k.2).1.trans (G x.D ob ((bv _ _ (pB k.1 e4 λz=>nomatch z)).trans k.2)).1.symm)
 refine(aq _ ⟨⟨U,E⟩,(aq p hD Y),R.dist,⟨_,G,O.hr.Sy l B,λq S=>?_⟩,λq S=>?_,R.ef.trans ⟨rfl,rfl,rfl⟩⟩ q)
 ·exact(bv _ _ λe=>by have:=O.fn q S;rw[e,M] at this;exact cX this).trans (O.fn q S)
 ·obtain⟨⟨sl,e⟩,M⟩:=R.frs q S;exact⟨⟨sl,(i (q.1,_) (.tail _ (UN S e))).1⟩,M⟩
end
section
variable{prog:bJ}{w:bE}{A:bk}{E:af->ag->Prop}{s:ag}
theorem UO{l:ax}{F:Array af}{n:Nat}{i:Int}{t:Tok}{v:af}{Q:Unit->ag->Prop}(M:s.heap.get? l=some {cls:=.type "list",data:=.seq F n})
  (S:0<=i) (K:i<2^63) (T:i<F.size) (h:Q () {s with heap:=s.heap.update l (Dk (·.setIfInBounds i.toNat v))}) :
  aL (av prog w) A (oK (.ref l) (.int i t) v) Q E s:=by
 have O:s.heap.IsList l F:=(hQ _ M rfl n rfl)
 unfold oK;refine gQ (aw (Dd O.typeIs (by decide) ?_));refine aw (wU (name:=dD "__setitem__") O.typeIs Mj
  (wV Mj O.typeIs PySem.entry_list_setitem ?_ (PySem.args_list_setitem _ _ _)))
 refine(?_:aL _ _ (acm (.int i t)>>=_) _ _ s);refine aw (wpAny_listSubscript_int (fitsIndex_of S K) ?_);clear K;obtain⟨j,rfl⟩:=Mk S;have R:F[j]?=some F[j]:=Array.getElem?_eq_getElem (aS.mp T);refine(?_:aL _ _ ((seqItemAt l j>>=λr=>a8 (r.map (j,·)))>>=_) _ _ s);refine aw (aw (wpAny_seqItemAt M rfl (wpAny_pure ?_)));refine rE R ?_;refine(?_:aL _ _ (setSeqItemAt l j v>>=_) _ _ s);refine aw (wpAny_setSeqItemAt M rfl ?_)
 first
  |exact aw (wpAny_pure (wpAny_pure (aq .none rfl (wpAny_pure h))))
  |exact wpAny_pure ⟨.none,rfl,wpAny_pure h⟩
theorem zh(i:Int)(t:Tok)(y:Int):hG y (.int i t)=decide (y=i):=by
 refine(?_:(i == y)=_);refine rE uN ?_;by_cases h:y=i
 ·exact rE (decide_eq_true h) (rE (decide_eq_true h.symm) rfl)
 ·exact rE (decide_eq_false h) (rE (decide_eq_false λe=>h e.symm) rfl)
theorem UP{d:ax}{K:Array jG}{R:Nat}{i:Int}{t:Tok}{v:af}{Q:Unit->ag->Prop}(M:s.heap.get? d=some {cls:=.type "dict",data:=.dict K R})
  (S:w' K) (hz:K.size<eZ)
  (h:∀(T:dp) (F:Array jG) (V:Nat),T.get? d=some {cls:=.type "dict",data:=.dict F V}->w' F->F.size<=K.size+1->(∀x,mT hG F x=if x=i then some v else mT hG K x) ->
   (∀b o,b≠d->s.heap.get? b=some o->T.get? b=some o)->Q () {s with heap:=T,toks:=s.toks+1}) :
  aL (av prog w) A (oK (.ref d) (.int i t) v) Q E s:=by
 have O:s.TypeIs (.ref d) "dict" := (aq _ M rfl);unfold oK;refine gQ (aw (Dd O (by decide) ?_));refine aw (wU (name:=dD "__setitem__") O Ml
  (wV Ml O PySem.entry_dict_setitem ?_ (PySem.args_dict_setitem _ _ _)))
 refine(?_:aL _ _ (acn "__setitem__" ⟨[.ref d,.int i t,v],[]⟩>>=_) _ _ s);refine aw (wpAny_notOrdered_dict O ?_);refine(?_:aL _ _ (dictSet d (.int i t) v>>=_) _ _ s);refine aw ?_;unfold dictSet;refine gQ (aw (wpAny_pyHash_int ?_));unfold dictSetHashed;refine gQ (aw (wpAny_dictFind_int (s:={s with toks:=s.toks+1}) M rfl S ?_));induction a:K.findIdx? λe=>hG i e.key with
 |some j =>
  refine aw (wX (aw (wpAny_updateDict (s:={s with toks:=s.toks+1}) M rfl (wpAny_point (wpAny_pure (aq _ rfl (wpAny_pure (h _ _ R (hJ _ M rfl) (S.modify _ _) ?_ (λx=>?_) (tt ..).extBut))))))))
  ·refine rE Array.size_modify ?_;exact dc _
  ·exact rE (findBy_modify hG Value.isInt_inj K i x v j a) rfl
 |none =>
  refine aw (wX (wpAny_updateDictKeys (hz:=aO hz) (s:={s with toks:=s.toks+1}) M rfl (wpAny_pure (aq _ rfl (wpAny_pure (h _ _ (R+1) (hJ _ M rfl) (S.push _ _ _) ?_ (λx=>?_) (tt ..).extBut))))))
  ·rw[LM];exact a6 _
  ·exact rE (findBy_push hG K i x _ _ v (λy=>by rw[zh]) a) rfl
theorem UQ{d:ax}{F:Array jG}{K:Nat}{i:Int}{t:Tok}{v:af}{Q:af->ag->Prop}(O:s.heap.get? d=some {cls:=.type "dict",data:=.dict F K})
  (R:w' F) (S:(d == oF)=false) (h:Q ((mT hG F i).getD v) {s with toks:=s.toks+1}):aL (av prog w) A (call (.builtin "dict.get") [.ref d,.int i t,v]) Q E s:=by
 have M:s.heap.MapOf (intKind prog w) d (λx=>mT hG F x):=⟨_,F,K,O,(aH rfl rfl rfl),rfl,λe T=>by
  refine bZ (R e T) λk t V W=>?_;exact(aq k (by show hG k e.key=true;rw[V,zh];exact decide_eq_true rfl) W),λX=>rfl⟩
 exact call_meetsIn Mm M.typeIs PySem.F.entry_dict_get (PySem.F.args_dict_get_3 _ _ _) (meets_dict_get_default (intKind prog w) d (k:=i) (by show hG i (.int i t)=true;rw[zh];exact decide_eq_true rfl) S v) (aq _ M h)
end
section
variable{pg:bJ}{wd:bE}{A:bk}{x:Cx}{h:Hp}{m:M}{s s':ag}{Er:af->ag->Prop}{w:Ow}
theorem DR.put{n:Nat}{f:Int->Option V}{K F:Array jG}{i:Int}{u:V}{v:af}(H:DR n f K)(r:VR u v)(M:w' F)(O:F.size<=K.size+1)
  (R:∀x,mT hG F x=if x=i then some v else mT hG K x):DR (n+1) (λx=>if x=i then some u else f x) F:=by
 refine⟨ah O (db H.size),M,λx=>?_⟩;refine rE (R x) ?_;by_cases e:x=i
 ·refine rE (if_pos e) (rE (if_pos e) ?_);exact(aq v rfl r)
 ·refine rE (if_neg e) (rE (if_neg e) ?_);exact H.get x
theorem ai.update(R:ai x h m s){q:Nat}{F o:O}{y z:Obj}{f:Obj->Obj}{toks:Nat}(M:h q=some F)(K:F.jU=false)(S:o.jU=false)(T:s.heap.get? q=some y)(V:f y=z)(W:(f y).isFreed=false)
  (X:∀r,OB r q z o):ai x (h.set q o) m {s with heap:=s.heap.update q f,toks:=toks} :=
 R.change M K S (λb y a e=>(lJ _ _ (fH a)).trans e) (by refine rF V ?_;exact hJ _ T W) ⟨rfl,rfl,rfl⟩ X
theorem UR{o i u:V}{y z v:af}{Q:Hp->Prop}(R:ai x h m s)(c:VR o y)(d:VR i z)(T:VR u v)(q:(pk o i u).run h λe h=>Q h):
  aL (av pg wd) A (oK y z v) (λe s'=>∃h,ai x h m s'/\Q h) Er s:=by
 have f:=fT;rcases i with _ |_<;>first |exact q.elim |skip
 obtain⟨t,rfl⟩:=d;rcases o with _ |_<;>first |exact q.elim |skip
 rcases c with ⟨⟩;refine ak q λo K q=>?_;rcases o with _ |_<;>first |exact q.elim |skip
 ·obtain⟨⟨W,O⟩,q⟩:=q;refine bL (R.list K) λE n F a M=>?_;have S:=a.size;exact UO F W (by exact rn O M f) (lt_of_lt_of_eq O (congrArg LZ S)) (aq _ (R.update (o:=.list _) K rfl rfl F rfl rfl λb=>(cb _ _ rfl (by refine rE Array.toList_setIfInBounds ?_;exact a.set T _) (by refine rE oP ?_;exact M))) q)
 ·obtain⟨S,q⟩:=q;refine eb (R.dict K) λG I F H M X=>?_;exact UP F H.keys (aV H.size (bn S GN)) λJ g j k l p r B=>(aq _ (R.change (o:=.dict _ _) K rfl rfl B k ⟨rfl,rfl,rfl⟩ λb=>(fo _ _ rfl (H.put T l p r) S X)) q)
 ·rcases u with _ |_<;>first |exact q.elim |skip
  obtain⟨L,rfl⟩:=T;obtain⟨⟨W,O,C,D⟩,q⟩:=q;obtain⟨F,M⟩:=R.bl K;exact T1 F W (by refine rE fG ?_;exact O) (by refine rE fG ?_;exact ah M fT) C D (aq _ (R.update (o:=.bl _) K rfl rfl F (by show xa _ _ (.bytearray (Mn _ |>.setIfInBounds _ _) 0) _=_;rw[List.setIfInBounds_toArray]) rfl λb=>⟨rfl,by rw[oP];exact M⟩) q)
noncomputable def uW:Bm->af
 |.iB _=>.builtin "list.append"
 |.i6 _=>.builtin "bytearray.append"
 |.i7 _=>.builtin "dict.get"
 |.kD _=>.builtin "int.bit_length"
noncomputable def zi:Bm->V
 |.iB a=>.ref a
 |.i6 a=>.ref a
 |.i7 a=>.ref a
 |.kD i=>.int i
theorem US(i:Int):(tx i:Int)=rN i.natAbs:=by
 unfold tx rN;by_cases e:i=0
 ·refine rE e ?_;rfl
 ·exact rE (if_neg (λz=>e (LQ.mp z))) (rE (if_neg λz=>e (beq_iff_eq.mp z)) rfl)
theorem UT{t:Bm}{j:List V}{y:af}{k:List af}{Q:V->Hp->Prop}(R:ai x h m s)(T:VR (zi t) y)(r:bf j k)(q:(i8 t j).run h Q):
  aj (av pg wd) A (call (uW t) (y::k)) (cS x m Q) Er s:=by
 induction t with
 |iB a =>
  rcases T with ⟨⟩;refine N2 (mj r q) λu z F S o M q=>?_;refine rE F ?_;rcases o with _ |_<;>first |exact q.elim |skip
  obtain⟨W,q⟩:=q;refine bL (R.list M) λp n K l X=>?_;exact bj (tv Dl (aq _ K rfl) Mo (Mp _ _) (Mq _ p n _ (by refine rF l.size ?_;exact kZ X))
   (t8 K .none _ rfl (R.update (o:=.list _) M rfl rfl K rfl rfl λv=>(cb _ _ rfl (by refine rE Mr ?_;exact l.append (.cons S .nil)) (by refine rE cA ?_;exact W))) q))
 |i6 a =>
  rcases T with ⟨⟩;refine bL (mj r q) λu z F S q=>?_;refine rE F ?_;refine Ea (qt S q) λi t F o M q=>?_;subst F;rcases o with _ |_<;>first |exact q.elim |skip
  obtain⟨⟨W,B,C⟩,q⟩:=q;obtain⟨K,X⟩:=R.bl M;exact TQ K B C (by refine rE fG ?_;exact bn W fT) (c5 .none _ rfl (R.update (o:=.bl _) M rfl rfl K (by show xa _ _ (.bytearray (Mn _ |>.push _) 0) _=_;rw[List.push_toArray]) rfl λv=>⟨rfl,by rw[cA];exact W⟩) q)
 |i7 a =>
  rcases T with ⟨⟩;refine kv (zg r q) λu d y z c S D q=>?_;refine rE c ?_;refine Ea (qt S q) λi t F o M q=>?_;subst F;rcases o with _ |_<;>first |exact q.elim |skip
  rename_i n f;refine eb (R.dict M) λE G K H X g=>?_;refine bj (UQ K H.keys (beq_eq_false_iff_ne.mpr g) (c5 ((f i).getD d) h ?_ (R.toks _) q));have O:=H.get i;induction b:f i with
  |none=>rw[b] at O;rw[show mT hG E i=none from O];exact D
  |some u=>rw[b] at O;refine ak O λy e O=>?_;refine rE e ?_;exact O
 |kD i =>
  obtain⟨t,rfl⟩:=T;induction r with
  |cons _ _=>exact q.elim
  |nil=>exact bj (aco (c5 (.int _) h ⟨_,by rw[US]⟩ (R.toks _) q))
theorem HR.guard{p:Wm}(H:HR p h w){q:ax}{y:Obj}(hq:w.T q=none\/w.T q=some .p):HR (p.set q y) h ⟨w.W.set q y,w.r,w.δ,λb=>if b=q then some .p else w.T b⟩:=by
 have R:∀b t,w.T b=some t->t≠.p->b≠q:=λb t e n z=>by
  subst z;rcases hq with hq |hq
  ·rw[hq] at e;exact nomatch e
  ·rw[hq] at e;exact n (bq e).symm
 have F:∀b t,w.T b=some t->t≠.p->(if b=q then some ik.p else w.T b)=some t:=λb t e n=>by refine rE (if_neg (R b t e n)) ?_;exact e
 have M:∀b t o,w.T b=some t->t≠.p->w.W b=some o->w.W.set q y b=some o:=λb t o e n z=>(bv _ _ (R b t e n)).trans z;refine⟨λa z e V=>?_,λa c W e=>?_,λa z e=>F _ _ (H.to a z e) (λz=>nomatch z),λa z e=>?_,λa z e=>?_,λa t e=>?_,λt X=>?_⟩
 ·refine ak (H.obj a z e V) λo K O=>?_;exact(aq o (M _ _ _ (H.to a z e) (λz=>nomatch z) K) O)
 ·refine eb (H.ins a c W e) λd k K O f S=>?_;exact(fo d k (M _ _ _ (H.to a _ e) (λz=>nomatch z) K) (M _ _ _ S (λz=>nomatch z) O) f (F _ _ S λz=>nomatch z))
 ·by_cases c:a=q
  ·subst c;exact⟨if_pos rfl,(bC ..).trans ((bC ..).symm.trans e)⟩
  ·have K:=H.tp a z ((bv _ _ c).symm.trans e);exact⟨(if_neg c).trans K.1,(bv _ _ c).trans K.2⟩
 ·have K:=H.tr a z e;exact⟨F _ _ K.1 (λz=>nomatch z),M _ _ _ K.1 (λz=>nomatch z) K.2⟩
 ·refine(?_:((w.W.set q y) a).isSome=true);by_cases z:a=q
  ·rw[z,bC];rfl
  ·refine rE (bv _ _ z) ?_;exact H.tw a t (by refine rF e ?_;exact(if_neg z).symm)
 ·refine fm (H.tabs t X) λg a1 a2 i T=>?_;exact(eM g (M _ _ _ T (λz=>nomatch z) a1) a2 i (F _ _ T λz=>nomatch z))
theorem HR.release{p:Wm}{q:ax}{y:Obj}(H:HR (p.set q y) h w)(V:p q=none):HR p h ⟨λb=>if b=q then none else w.W b,w.r,w.δ,λb=>if b=q then none else w.T b⟩:=by
 have W:=(H.tp q y (bC ..)).1;have R:∀b t,w.T b=some t->t≠.p->b≠q:=λb t e n=>pB e W n;have F:∀b t,w.T b=some t->t≠.p->(if b=q then none else w.T b)=some t:=λb t e n=>by refine rE (if_neg (R b t e n)) ?_;exact e
 have M:∀b t o,w.T b=some t->t≠.p->w.W b=some o->(if b=q then none else w.W b)=some o:=λb t o e n z=>(if_neg (R b t e n)).trans z;refine⟨λa z e X=>?_,λa c d e=>?_,λa z e=>F _ _ (H.to a z e) (λz=>nomatch z),λa z e=>?_,λa z e=>?_,λa t e=>?_,λt f=>?_⟩
 ·refine ak (H.obj a z e X) λo K O=>?_;exact(aq o (M _ _ _ (H.to a z e) (λz=>nomatch z) K) O)
 ·refine eb (H.ins a c d e) λg k K O i S=>?_;exact(fo g k (M _ _ _ (H.to a _ e) (λz=>nomatch z) K) (M _ _ _ S (λz=>nomatch z) O) i (F _ _ S λz=>nomatch z))
 ·have c:a≠q:=λc=>by rw[c,V] at e;exact aN e
  have K:=H.tp a z ((bv _ _ c).trans e);exact⟨(if_neg c).trans K.1,(if_neg c).trans K.2⟩
 ·have K:=H.tr a z e;exact⟨F _ _ K.1 (λz=>nomatch z),M _ _ _ K.1 (λz=>nomatch z) K.2⟩
 ·refine(?_:(if a=q then none else w.W a).isSome=true);by_cases z:a=q
  ·exact absurd (show(if a=q then none else w.T a)=some t from e) (by refine rE (if_pos z) ?_;exact λz=>aN z)
  ·refine rE (if_neg z) ?_;exact H.tw a t (by refine rF e ?_;exact(if_neg z).symm)
 ·refine fm (H.tabs t f) λj a1 a2 l T=>?_;exact(eM j (M _ _ _ T (λz=>nomatch z) a1) a2 l (F _ _ T λz=>nomatch z))
theorem eA{a b:ax}(o:Obj)(e:b≠a):(x.bw a o).p.ex b=x.p.ex b:=bv _ _ e
theorem ez.G4(O:ez x h s w){q:ax}(F:s.heap.objs.size<=q):x.p.ex q=Ms:=by
 induction e:x.p.ex q with
 |none=>rfl
 |some o=>have:=(O.hr.tp q o e).2;rw[O.none F] at this;exact aN this
theorem ez.pG(O:ez x h s w){q:ax}(F:s.heap.objs.size<=q):w.T q=Ms:=by
 induction e:w.T q with
 |none=>rfl
 |some t=>have:=O.hr.tw _ _ e;rw[O.none F] at this;exact a9 this
theorem ai.r'(R:ai x h m s){y:Obj}{q:ax}(K:s.heap.objs.size<=q)(S:∀b o,s.heap.get? b=some o->s'.heap.get? b=some o)(V:s'.heap.get? q=some y)(st:d7 s s'):
  ai (x.bw q y) h m s'/\x.p.ex q=none:=by
 refine R.fr.elim λW F=>?_;refine R.own.elim λw O=>?_;have M:=O.G4 K;refine⟨⟨⟨W,F.keeps S⟩,R.aa.imp λX N=>⟨N.1.keeps S,N.2⟩,?_,⟨_,λa z e=>?_,O.hr.guard (.inl (O.pG K)),λt T=>?_⟩,R.frs.keeps S,R.ef.trans st⟩,M⟩
 ·rcases R.dist with d |⟨o,d⟩
  ·exact .inl d
  ·exact .inr ⟨o,(eA _ λ(e:x.D=q)=>by rw[e,M] at d;exact aN d).trans d⟩
 ·by_cases c:a=q
  ·subst c;rw[show z=y from (bq ((bC ..).symm.trans e)).symm];exact(aH V (gp (bn F.ns.lt K)) (Fr.kP F K))
  ·have e:=(bv _ _ c).symm.trans e;exact⟨S _ _ (O.own a z e).1,(O.own a z e).2⟩
 ·exact(bv _ _ (cK (bn (R.frs.lt T) K))).trans (O.fn t T)
theorem ai.pH{y z:Obj}{q:ax}(R:ai (x.bw q y) h m s)(f:x.p.ex q=none)(T:x.D≠q)(same:∀b o,b≠q->s.heap.get? b=some o->s'.heap.get? b=some o)(g:s'.heap.get? q=some z)(st:d7 s s'):
  ai (x.bw q z) h m s':=by
 refine R.fr.elim λi F=>?_;refine ak R.aa λj N r=>?_;refine R.own.elim λw O=>?_;have X:=O.hr.tp q y (bC ..);have V:=O.own q y X.2;have M:∀t∈x.p.fr,t.1≠q:=λt K e=>by have:=O.fn t K;rw[e,X.2] at this;exact cX this
 have S:ti q s.heap s'.heap:=λb y k e=>same b y k e;have l:=(O.hr.release f).guard (q:=q) (y:=z) (.inl (if_pos rfl));refine⟨⟨i,F.ns.extBut S V.2.1.symm,λb y e=>same b y (λn=>by subst n;exact absurd ((show some y=none from e.symm.trans V.2.2)) (λz=>cX z)) (F.keep b y e),F.above⟩,(aq j (N.extBut S T) r),?_,⟨_,λa W e=>?_,l,λt K=>?_⟩,λt K=>⟨?_,(R.frs t K).2⟩,R.ef.trans st⟩
 ·rcases R.dist with d |⟨o,d⟩
  ·exact .inl d
  ·exact .inr ⟨o,(eA _ T).trans ((eA _ T).symm.trans d)⟩
 ·by_cases c:a=q
  ·subst c;rw[show W=z from (bq ((bC ..).symm.trans e)).symm];exact⟨g,V.2⟩
  ·have e:=(bv _ _ c).symm.trans e;have e:=(show(if a=q then none else w.W a)=w.W a from if_neg c).symm.trans e;exact⟨same _ _ c (O.own a W e).1,(O.own a W e).2⟩
 ·exact(bv _ _ (M t K)).trans ((show(if t.1=q then none else w.W t.1)=w.W t.1 from if_neg (M t K)).trans (O.fn t K))
 ·refine((R.frs t K).1).elim λp e=>?_;exact⟨p,same _ _ (M t K) e⟩
theorem ai.uX{y:Obj}{q:ax}(R:ai (x.bw q y) h m s)(X:x.p.ex q=none)(T:x.D≠q)(same:∀b o,b≠q->s.heap.get? b=some o->s'.heap.get? b=some o)(st:d7 s s'):ai x h m s':=by
 refine R.fr.elim λf F=>?_;refine ak R.aa λg N r=>?_;refine R.own.elim λw O=>?_;have V:=O.hr.tp q y (bC ..);have W:=O.own q y V.2;have M:∀t∈x.p.fr,t.1≠q:=λt K e=>by have:=O.fn t K;rw[e,V.2] at this;exact cX this
 have S:ti q s.heap s'.heap:=λb y i e=>same b y i e;refine⟨⟨f,F.ns.extBut S W.2.1.symm,λb y e=>same b y (λj=>by subst j;exact absurd ((show some y=none from e.symm.trans W.2.2)) (λz=>cX z)) (F.keep b y e),F.above⟩,(aq g (N.extBut S T) r),?_,⟨_,λa z e=>?_,O.hr.release X,λt K=>?_⟩,λt K=>⟨?_,(R.frs t K).2⟩,R.ef.trans st⟩
 ·rcases R.dist with d |⟨o,d⟩
  ·exact .inl d
  ·exact .inr ⟨o,(eA _ T).symm.trans d⟩
 ·by_cases c:a=q
  ·exact absurd ((show(if a=q then none else w.W a)=none from if_pos c).symm.trans e) (λz=>aN z)
  ·have e:=(show(if a=q then none else w.W a)=w.W a from if_neg c).symm.trans e;exact⟨same _ _ c (O.own a z e).1,(O.own a z e).2⟩
 ·exact(show(if t.1=q then none else w.W t.1)=w.W t.1 from if_neg (M t K)).trans (O.fn t K)
 ·refine((R.frs t K).1).elim λk e=>?_;exact⟨k,same _ _ (M t K) e⟩
theorem ai.release{y:Obj}{q:ax}(R:ai (x.bw q y) h m s)(K:x.p.ex q=none)(M:x.D≠q):ai x h m s:=R.uX K M (λF F F e=>e) (d7.refl s)
theorem ai.eT(R:ai x h m s){q:ax}{y:Obj}(e:x.p.ex q=some y):s.heap.get? q=some y/\q≠x.L/\x.g.get? q=none:=by
 refine R.own.elim λw O=>?_;exact O.own _ _ (O.hr.tp _ _ e).2
theorem ai.zj(R:ai x h m s):x.D<s.heap.objs.size:=by
 refine ak R.aa λF N K=>?_;exact N.lt
end
structure uY(x:af)(c:String)(i:Nat)(o:Obj):Prop where
 cls:o.cls=.type c
 data:o.data=.fields #[x,.int i 0]
inductive It(h:Hp)(x:af):V->List V->(Nat->Obj->Prop)->Prop
 |bytes (b:List UInt8):It h x (.bytes b) (b.map aK) (uY x "bytes_iterator")
 |fM:It h x .fM [.int 2,.int 3] (uY x "tuple_iterator")
 |list {a:Nat} {vs:List V}:h a=.some (.list vs)->It h x (.ref a) vs (uY x "list_iterator")
 |tup {a:Nat} {vs:List V}:h a=.some (.tup vs)->It h x (.ref a) vs (uY x "tuple_iterator")
 |range {a:Nat} {lo hi st:Int}:h a=.some (.range lo hi st) ->
   It h x (.ref a) (gu lo hi st) (λi o=>o={cls:=.type "range_iterator",data:=.fields #[rawInt (lo+st*i),rawInt ((gu lo hi st).length - i),rawInt st]})
theorem fP.it(x:af)(e:fP h v a):∃P,It h x v a P:=by
 induction e with
 |bytes b=>exact⟨_,.bytes b⟩
 |fM=>exact⟨_,.fM⟩
 |list h=>exact⟨_,.list h⟩
 |tup h=>exact⟨_,.tup h⟩
 |range h=>exact⟨_,.range h⟩
theorem G5(lo F:Int):Mt lo F (-1)=if lo > F then lo - F else 0:=by
 show(if (-1:Int) > 0 then _ else if lo > F then (lo - F - 1) / 1+1 else 0)=_;rw[if_neg (by decide),Int.ediv_one];by_cases c:lo > F
 ·rw[if_pos c,if_pos c];exact Int.sub_add_cancel (lo - F) 1
 ·exact rE (if_neg c) (rE (if_neg c) rfl)
theorem UU{lo F st:Int}(h:st=1\/st=-1):Mt lo F st=((gu lo F st).length:Int):=by
 unfold gu;rcases h with rfl |rfl
 ·rw[rangeSize_one,if_pos rfl,dq,m7];exact wy (λc=>(if_pos c).trans (KO (gM c))) λc=>(if_neg c).trans (KM c)
 ·rw[G5,if_neg (show ¬((-1:Int)=1) by decide),dq,m7];exact wy (λc=>(if_pos c).trans (KO (gM c))) λc=>(if_neg c).trans (KM c)
theorem UV{lo K st:Int}(h:st=1\/st=-1){i:Nat}{u:V}(e:(gu lo K st)[i]?=some u):u=.int (lo+st*i):=by
 have key:∀ {n:Nat} {f:Nat->V},((eH n).map f)[i]?=some u->u=f i:=λ{n f} e=>by
  rw[oQ] at e;refine ak (hH.mp e) λj M O=>?_;refine(qO.mp M).elim λR F=>?_;rw[Mu] at F;exact rF O (rF F rfl)
 unfold gu at e;rcases h with rfl |rfl
 ·rw[if_pos rfl] at e;rw[key e,Int.one_mul]
 ·rw[if_neg (by decide)] at e;rw[key e];congr 1;lia
theorem UW{lo M st:Int}(K:gw lo)(F:gw M)(h:st=1\/st=-1):Mv lo M st=true:=by
 unfold gw at K F;rcases h with rfl |rfl
 ·exact small_one (by exact gM K.1) (by exact K.2) (by exact gM F.1) (by exact F.2)
 ·unfold Mv;rw[G5];simp only[acp,De,Bool.or_eq_true,decide_eq_true_eq,beq_iff_eq,show ¬((-1:Int) > 0) by decide,if_false];split
  ·exact⟨⟨⟨⟨rm K,rm F⟩,by decide⟩,OY K F⟩,.inr (by rw[show(-1:Int)+1=0 from rfl,xb];exact rm F)⟩
  ·exact⟨⟨⟨⟨rm K,rm F⟩,by decide⟩,by decide⟩,.inl rfl⟩
section
variable{K:bc}{pg:bJ}{w:bE}{A:bk}{x:Cx}{h:Hp}{m:M}{s:ag}{Er:af->ag->Prop}
theorem ai.layAt(M:eE K)(X:K.In x.g)(R:ai x h m s):∃a b,s.heap.IsTuple layA #[.int 2 a,.int 3 b]:=by
 refine iu M.lay λa b n O=>?_;refine R.fr.elim λS F=>?_;exact⟨a,b,_,F.keep _ _ (X _ _ O),rfl,n,rfl⟩
theorem zk{Q:af->ag->Prop}(T:eE K)(X:K.In x.g)(R:ai x h m s)(r:VR v y)(e:It h y v l P)
  (F:∀o,o.isFreed=false->P 0 o->Q (.ref s.heap.objs.size) {s with heap:=s.heap.push o}):aL (av pg w) A (tz y) Q Er s:=by
 induction e with
 |bytes b=>refine ak r λt O p=>?_;subst O;exact KBw.pyIter_bytes (F _ rfl ⟨rfl,rfl⟩)
 |fM =>
  rcases r with ⟨⟩;refine hO (R.layAt T X) λV W d=>?_;exact Mw d (F _ rfl ⟨rfl,rfl⟩)
 |list c =>
  rcases r with ⟨⟩;refine bL (R.list c) λf n M g i=>?_;exact wpAny_pyIter_list (hQ _ M rfl n rfl) (F _ rfl ⟨rfl,rfl⟩)
 |tup c =>
  rcases r with ⟨⟩;refine bL (R.tup c) λf n M g i=>?_;exact Mw (hQ _ M rfl n rfl) (F _ rfl ⟨rfl,rfl⟩)
 | @range a lo q st c =>
  rcases r with ⟨⟩;obtain⟨⟨V,W,u,M⟩,j,k,S⟩:=R.range c;refine wpAny_pyIter_range M (UW j k S) (F _ rfl ?_);show xa _ _ _ _=xa _ _ (.fields #[rawInt (lo+st*0),rawInt (_ - 0),rawInt st]) _;rw[UU S,Int.mul_zero,xb,Int.sub_zero]
theorem zl{Q:Option af->ag->Prop}(H:eE K)(X:K.In x.g)(R:ai x h m s)(r:VR v y)(e:It l y v J P)(z:gW l v h)
  (V:s.heap.get? I=some o) (O:P i o) (F:J[i]?=some u)
  (W:∀f g d L,VR u d->P (i+1) g->f.get? I=some g->(∀b y,b≠I->s.heap.get? b=some y->f.get? b=some y)->Q (some d) {s with heap:=f,toks:=L}) :
  aL (av pg w) A (Dm (.ref I)) Q Er s:=by
 induction e with
 |bytes b =>
  refine ak r λt B N=>?_;subst B;rw[oQ] at F;refine ak (hH.mp F) λc T C=>?_;subst C;exact KBw.next_item ⟨o,V,O.1,O.2⟩ (c:=c) (by refine rE (Dh) ?_;exact T) λf ⟨g,M,j,k⟩ S=>W f g _ _ ⟨_,rfl⟩ ⟨j,k⟩ M S.extBut
 |fM =>
  rcases r with ⟨⟩;refine hO (R.layAt H X) λU Y Z=>?_;have hv:∃d,(#[qK 2 U,.int 3 Y]:Array af)[i]?=some d/\VR u d:=by
   match i,F with
   | 0,F=>refine sF F ?_;exact⟨_,rfl,_,rfl⟩
   | 1,F=>refine sF F ?_;exact⟨_,rfl,_,rfl⟩
  refine ak hv λd T p=>?_;exact Mx ⟨o,V,O.1,O.2⟩ Z T λf ⟨g,M,j,k⟩ S=>W f g _ s.toks p ⟨j,k⟩ M S.extBut
 |list q =>
  rcases r with ⟨⟩;refine bL (R.list (tA z q)) λxs n T D l1=>?_;refine ak (D.get F) λd E p=>?_;exact wpAny_pyNext_list_item ⟨o,V,O.1,O.2⟩ ⟨_,T,rfl,n,rfl⟩ (by refine rF (qN) ?_;exact E) λf ⟨g,M,j,k⟩ S=>W f g _ s.toks p ⟨j,k⟩ M S.extBut
 |tup q =>
  rcases r with ⟨⟩;refine bL (R.tup (tA z q)) λxs n T D l1=>?_;refine ak (D.get F) λd E p=>?_;exact Mx ⟨o,V,O.1,O.2⟩ ⟨_,T,rfl,n,rfl⟩ (by refine rF (qN) ?_;exact E) λf ⟨g,M,j,k⟩ S=>W f g _ s.toks p ⟨j,k⟩ M S.extBut
 | @range a lo G st q =>
  rcases r with ⟨⟩;refine tW (R.range (tA z q)) λN f1 f2 f3=>?_;have hlt:=(qO.mp F).1;subst O;refine wpAny_pyNext_range_item V (by lia) λf M S=>W f _ _ _ (by refine rE (UV f3 F) ?_;exact⟨_,rfl⟩) rfl ?_ S.extBut;rw[show lo+st*(i:Int)+st=lo+st*((i+1:Nat):Int) by rw[Int.natCast_succ,Int.mul_add,Int.mul_one,s5],show((gu lo G st).length:Int) - (i:Int) - 1=((gu lo G st).length:Int) - ((i+1:Nat):Int) by lia] at M;exact M
theorem zm(g:eE K)(X:K.In x.g)(M:A.handled=none)(R:ai x h m s)(r:VR v y)(e:It a y v i P)(d:gW a v h)
  (O:s.heap.get? I=some o) (F:P i.length o) (S:∀f,(∀b y,b≠I->s.heap.get? b=some y->f.get? b=some y)->Q none {s with heap:=f}) :
  aL (av pg w) A (Dm (.ref I)) Q Er s:=by
 induction e with
 |bytes b =>
  refine ak r λt T p=>?_;subst T;rw[dq] at F;exact KBw.next_end M (bG o O F.1 F.2) (by refine rE (Dh) ?_;exact qP (a6 _)) S
 |fM =>
  rcases r with ⟨⟩;refine hO (R.layAt g X) λq u j=>?_;exact My M (bG o O F.1 F.2) j rfl S
 |list c =>
  rcases r with ⟨⟩;refine bL (R.list (tA d c)) λk n V W l=>?_;exact wpAny_pyNext_list_end M (bG o O F.1 F.2) (hQ _ V rfl n rfl) (by refine rF (qN) (rE W.length ?_);exact qP (a6 _)) S
 |tup c =>
  rcases r with ⟨⟩;refine bL (R.tup (tA d c)) λk n V W l=>?_;exact My M (bG o O F.1 F.2) (hQ _ V rfl n rfl) (by refine rF (qN) (rE W.length ?_);exact qP (a6 _)) S
 |range c =>
  rcases r with ⟨⟩;subst F;exact wpAny_pyNext_range_end M O (by lia) S
end
inductive nU:Fl->ki->Prop
 |next:nU .next .next
 |brk:nU .brk .brk
 |cont:nU .cont .cont
 |ret {v:V} {x:af}:VR v x->nU (.ret v) (.ret x)
def jW(x:Cx)(Q:Fl->Hp->M->Prop)(f:ki)(s:ag):Prop:=∃a h m,nU a f/\ai x h m s/\Q a h m
def ml(x:Cx)(Q:Hp->M->Prop)(s:ag):Prop:=∃h m,ai x h m s/\Q h m
theorem eB{x:Cx}{Q:Fl->Hp->M->Prop}{f:ki}{s:ag}(u:Fl)(h:Hp)(m:M)(a:nU u f)(b:ai x h m s)(c:Q u h m):jW x Q f s:=⟨u,h,m,a,b,c⟩
theorem uZ{x:Cx}{Q:Fl->Hp->M->Prop}{f:ki}{s:ag}{X:Prop}(w:jW x Q f s)(k:∀u h m,nU u f->ai x h m s->Q u h m->X):X:=fJ w k
theorem G6{x:Cx}{Q:Hp->M->Prop}{s:ag}(h:Hp)(m:M)(b:ai x h m s)(c:Q h m):ml x Q s:=⟨h,m,b,c⟩
theorem UX{x:Cx}{Q:Hp->M->Prop}{s:ag}{X:Prop}(w:ml x Q s)(k:∀h m,ai x h m s->Q h m->X):X:=let ⟨h,m,b,c⟩:=w;k h m b c
def SS(Z:Zx)(e:S)(st:bz):Prop:=∀ {s:ag} {h:Hp} {m:M} {Q:Fl->Hp->M->Prop} {E:PE},ai Z.x h m s->Fq look ac (runs Z.n) Z.c e h m Q E ->
 aj Z.M Z.A (exec st Z.env) (jW Z.x Q) (eR Z.x E) s
def iG(Z:Zx)(K:List S)(F:List bz):Prop:=∀ {s:ag} {h:Hp} {m:M} {Q:Fl->Hp->M->Prop} {E:PE},ai Z.x h m s->aE look ac (runs Z.n) Z.c K h m Q E ->
 aj Z.M Z.A (mQ F Z.env) (jW Z.x Q) (eR Z.x E) s
theorem ml.next{x:Cx}{Q:Fl->Hp->M->Prop}{s:ag}(z:ml x (Q .next) s):jW x Q .next s:=by
 refine UX z λh m R q=>?_;exact(eB .next h m .next R q)
section
variable{Z:Zx}
theorem G7{F:Env}(h:F.scope.kind=.function):Mz F=false:=by unfold Mz;refine rE h ?_;rfl
theorem G8{F:Env}(h:F.scope.kind=.function):(F.scope.kind == .class||(F.scope.kind == .module&&F.locals != F.globals))=false:=by refine rE h ?_;rfl
theorem pJ{q:ao}{t:Option ao}{l:Nat}{F:Env}(h:nP q=true):oR q t l F=a8 false:=by
 rcases q with _ |_<;>first |rfl |exact a9 h
theorem ai.bound{x:Cx}{h h':dp}{d:Hp}{m:M}{s F:ag}{y:Nm}{u:V}{v:af}{f:az->Option af}(i:x.D=x.L)(R:ai x d m s)(j:MR m f)(r:VR u v)
  (g:F.heap.Ns x.L λz=>if z=nm y then some v else f z) (K:∀b,b≠x.L->F.heap.get? b=s.heap.get? b) (st:d7 s F):ai x d (bu m y u) F:=by
 refine R.fr.elim λn Fr=>?_;refine⟨⟨_,g,λb o e=>?_,Fr.above⟩,(aq _ (by refine rE i ?_;exact g) (λz w e=>?_)),R.dist,R.own.imp λw O=>⟨λa S e=>⟨(K a (O.own a S e).2.1).trans (O.own a S e).1,(O.own a S e).2⟩,O.hr,O.fn⟩,λt T=>⟨(R.frs t T).1.imp λp e=>(K _ (R.frs t T).2.1).trans e,(R.frs t T).2⟩,R.ef.trans st⟩
 ·have:b≠x.L:=λW=>by
   subst W;exact absurd (bn (fB e) Fr.above) (gK _)
  exact(K b this).trans (Fr.keep b o e)
 ·rw[nR] at e;induction c:nb y z with
  |true =>
   rw[c] at e;refine sF e ?_;exact(aq v (if_pos (by exact rE (eO c) rfl)) r)
  |false =>
   rw[c] at e;refine ak (j z w e) λX k l=>?_;exact(aq X ((if_neg λW=>ue c (k8 W.symm)).trans k) l)
theorem zn(S:Z.x.D=Z.x.L){s:ag}{h:Hp}{m:M}{y:Nm}{u:V}{v:af}{Q:Hp->M->Prop}{b:af->ag->Prop}
  (hk:Z.env.kindOf (nm y)=some .local\/Z.env.kindOf (nm y)=some .cell) (F:bg Z) (R:ai Z.x h m s) (r:VR u v) (q:gX Z.c y u h m Q) :
  aL Z.M Z.A (storeName Z.env (nm y) v) (λc d=>ml Z.x Q d) b s:=by
 have q:(match cF Z.c y with |.some a=>∃w,h a=.some (.cell w)/\Q (h.set a (.cell (.some u))) m |.none=>Q h (bu m y u)):=q;rcases hk with hk |hk
 ·rw[F.kinds y hk] at q;refine ak R.aa λj N e=>?_;refine MA hk (by refine rE F.locs ?_;exact N) (λh' T O=>?_) (G8 F.kind);rw[F.locs,S] at T O;exact(G6 h _ (R.bound (h:=h') (h':=h') S e r T O.2 ⟨rfl,rfl,rfl⟩) q)
 ·refine(F.mi y hk).elim λa W=>?_;rw[W] at q;refine ak q λk X q=>?_;refine ak (R.cell X) λl K c=>?_;exact wpAny_storeName_cell F.kind hk (F.cells y a W (.inl hk)) K λh' ⟨f,g,i⟩ O=>⟨_,m,R.change (o:=.cell (some u)) X rfl rfl O.extBut g ⟨rfl,rfl,rfl⟩ λn=>⟨_,i,_,rfl,r⟩,q⟩
theorem u0(O:Z.x.D=Z.x.L){s:ag}{h:Hp}{m:M}{y:Nm}{z:az}{u:V}{v:af}{Q:Hp->M->Prop}{S:af->ag->Prop}
  (T:jd Z.env.kindOf y z=true) (F:bg Z) (R:ai Z.x h m s) (r:VR u v) (q:gX Z.c y u h m Q) :
  aj Z.M Z.A (tf Z.env z v) (λX W=>ml Z.x Q W) S s:=by
 have K:=an T;refine rF (seq_eq K.1) ?_;exact yk (bj (zn O (by refine rE (seq_eq K.1) ?_;exact dn K.2) F R r q))
theorem UY:iG Z [] []:=λR F=>aI (eB .next _ _ .next R F)
theorem UZ{e:S}{W:List S}{st:bz}{K:List bz}(X:SS Z e st)(T:iG Z W K):iG Z (e::W) (st::K):=by
 intro s h m Q E R a;rw[xc];refine ar (aF (X R a) (λf g z=>?_) λb b e=>e);refine uZ z λi F V c M O=>?_;induction c with
 |next=>exact T M O
 |brk=>exact aI (eB .brk F V .brk M O)
 |cont=>exact aI (eB .cont F V .cont M O)
 |ret d=>exact aI (eB (.ret _) F V (.ret d) M O)
theorem U0{p:Pos}:SS Z .brk (.Break p):=λR F=>cg (aI (eB .brk _ _ .brk R F))
theorem U1{p:Pos}:SS Z .cont (.Continue p):=λR F=>cg (aI (eB .cont _ _ .cont R F))
theorem U2{p:Pos}:SS Z .pass (.Pass p):=λR F=>cg (aI (eB .next _ _ .next R F))
theorem U3(F:bg Z){e:X}{q:ao}{p:Pos}(M:nP q=true)(O:SE Z e q):SS Z (.expr e) (.Expr q p):=by
 intro s h m Q E R S;rw[MC,G7 F.kind,pJ M];exact cg (ar (aI (ar (aF (O R S) (λK K T=>eS T λK K K K V W=>bj (MD ⟨.next,_,_,.next,V,W⟩)) λK K e=>e))))
theorem U4{e:X}{q:ao}{p:Pos}(K:SE Z e q):SS Z (.ret e) (.Return (some q) p):=by
 intro s h m Q E R M;rw[exec_Return_some];exact cg (ar (aF (K R M) (λF F O=>eS O λF F F S T V=>aI ⟨.ret _,_,_,.ret S,T,V⟩) λF F e=>e))
theorem U5{p:Pos}:SS Z (.ret .none) (.Return none p):=by
 intro s h m Q E R F;rw[exec_Return_none];exact cg (aI (eB (.ret .none) h m (.ret rfl) R F))
theorem U6{t:X}{a b:List S}{F:ao}{K M:List bz}{p:Pos}(V:SB Z t F)(W:iG Z a K)(c:iG Z b M):SS Z (.ite t a b) (.If F K M p):=by
 intro s h m Q E R d;rw[arm_exec_If];refine cg (ar (aF (V (Q:=λr h m=>br r (aE look ac (runs Z.n) Z.c a h m Q E) (aE look ac (runs Z.n) Z.c b h m Q E)) R d) (λr i z=>?_) λf f e=>e));refine lB z λg j O T=>?_;induction r with
 |true=>exact W O T
 |false=>exact c O T
theorem sa{M:cV}{A:bk}{E:af->ag->Prop}{s:ag}{F:Env}{t q:ao}{p:Pos}{Q:ki->ag->Prop}(S:∀l,oR q (some t) l F=a8 false)(T:oS [t] q F=a8 none)(V:∀v,Dn v ((lK [t] F).map (·.2))=assign t F v)
  (h:aj M A (eval q F) (λv O=>aj M A (assign t F v) (λK R=>Q .next R) E O) E s):aj M A (exec (.Assign [t] q p) F) Q E s:=by
 rw[Do];refine cg (a' (cR (a:=false) (S _) ?_));show aj _ _ (do
  let v ←eval q F
  Dp F v (←oS [t] q F) ((lK [t] F).map (·.2))) _ _ _
 refine ar (aF h (λv W z=>a' (cR (a:=none) T ?_)) λK K e=>e);show aj _ _ (do Dn v ((lK [t] F).map (·.2));a8 Dq) _ _ _;refine ar ?_;rw[V];exact aF z (λK K z=>aI z) λK K e=>e
theorem U7(M:Z.x.D=Z.x.L)(F:bg Z){x:Nm}{e:X}{y:az}{p1 O:Pos}{q:ao}(S:jd Z.env.kindOf x y=true)(T:nP q=true)(V:SE Z e q):SS Z (.assign x e) (.Assign [.Name y p1] q O):=by
 intro s h m Q E R W;refine sa (λl=>pJ T) rfl (λK=>rfl) (aF (V R W) (λv f z=>?_) λK K e=>e);refine eS z λu a g b c d=>?_;rw[tB];exact cg (aF (u0 M S F c b d) (λK K z=>z.next) λK K e=>e)
theorem G9{q t:ao}{y:az}{p1:Pos}{l:Nat}{F:Env}:oR q (some (.Attribute t y p1)) l F=a8 false:=by rcases q with _ |_<;>rfl
theorem U8{q t u:ao}{p1:Pos}{l:Nat}{F:Env}:oR q (some (.Subscript t u p1)) l F=a8 false:=by rcases q with _ |_<;>rfl
theorem acC{q:ao}{K:List ao}{b:Nat}{p1:Pos}{l:Nat}{F:Env}:oR q (some (.Tuple K b p1)) l F=a8 false:=by rcases q with _ |_<;>rfl
set_option tactic.hygienic true in
theorem G'{h:Hp}{o:V}{f:Nm}{v:V}{Q:V->Hp->Prop}(q:(setAttr look o f v).run h Q):∃a b c,o=.ref a/\h a=some (.inst b c)/\look b f=.field/\c.length<100/\Q .none (h.set a (.inst b (bu c f v))):=by
 rcases o with _ |_<;>first |exact q.elim |skip
 refine ak q λo F q=>?_;rcases o with _ |_<;>first |exact q.elim |skip
 rename_i b c;have q:(match look b f with |.field=>Rs.guard (c.length<100) (.upd _ (.inst b (bu c f v)) .none) |_=>.bad:Rs).run h Q:=q;rcases d:look b f with _ |_<;>rw[d] at q<;>first |exact q.elim |skip
 exact(kx _ _ _ rfl F d q)
theorem U9(F:bg Z){o:X}{f:Nm}{e:X}{t q:ao}{p1 T:Pos}(V:SE Z o t)(W:SE Z e q):SS Z (.setattr o f e) (.Assign [.Attribute t (nm f) p1] q T):=by
 intro s h m Q E R b;refine sa (λl=>G9) rfl (λK=>rfl) (aF (W R b) (λv C z=>?_) λK K e=>e);refine eS z λu c D d g i=>?_;rw[MF];refine ar (bO (aF (V g i) (λG H j=>?_) λK K e=>e));refine eS j λI k S n p M=>?_;obtain⟨a,J,L,rfl,r,w,x,M⟩:=G' M;cases n;exact cg (ar (bO (aF (bj (G3 F.FK F.X p r w x d (Q:=λh=>Q .next h S) M)) (λK K y=>ak y λO A B=>rY ⟨.next,O,S,.next,A,B⟩) λK K e=>e)))
theorem U'{o i e:X}{t u q:ao}{p1 O:Pos}(S:SE Z o t)(T:SE Z i u)(V:SE Z e q):SS Z (.fv o i e) (.Assign [.Subscript t u p1] q O):=by
 intro s h m Q E R W;refine sa (λl=>U8) rfl (λF=>rfl) (aF (V R W) (λv D z=>?_) λF F e=>e);refine eS z λG a H b c d=>?_;rw[arm_assign_Subscript];refine ar (bO (aF (S c d) (λI J f=>?_) λF F e=>e));refine eS f λL g N j k n=>?_;refine ar (bO (aF (T k n) (λP U p=>?_) λF F e=>e));refine eS p λY r M w x y=>?_;exact cg (ar (bO (aF (bj (UR x j w b (Q:=λh=>Q .next h M) y)) (λF F A=>ak A λK B C=>rY ⟨.next,K,M,.next,B,C⟩) λF F e=>e)))
end
section
variable{K:bc}{pg:bJ}{w:bE}{A:bk}{x:Cx}{h:Hp}{m:M}{Er:af->ag->Prop}
theorem zo{M:List a}{i:Nat}{u:a}{F:List a}(O:M.drop i=u::F):M[i]?=some u/\M.drop (i+1)=F/\i+1<=M.length:=by
 have R:M[i]?=some u:=by refine rF (List.head?_drop) (rE O ?_);rfl
 exact(aH R (by refine rF MG (rE O ?_);rfl) ((qO.mp R).1))
theorem Ha:gW h v h:=by rcases v with _ |_<;>first |rfl |trivial
theorem iC.iter(e:iC h v b):fP h v b:=by
 induction e with
 |list a=>exact .list a
 |tup a=>exact .tup a
theorem Hb{y:af}{M:List V}{P:Nat->Obj->Prop}{I:ax}(T:eE K)(X:K.In x.g)(r:VR v y)(e:It h y v M P)(W:x.p.ex I=none)(g:x.D≠I):
  ∀(F:List V) (i:Nat) (o:Obj) (s:ag),i<=M.length->M.drop i=F->ai (x.bw I o) h m s->P i o ->
   aL (av pg w) A (draw (.ref I) F.length) (λj l=>bf F j/\∃a,ai (x.bw I a) h m l/\P M.length a) Er s
 |[],i,o,s,k,c,R,f=>wpAny_pure (xG .nil o R ((fi k (oT.mp c))▸f))
 |u::F,i,o,s,k,c,R,f=>by
  have d:=zo c;refine(?_:aL _ _ (Dm (.ref I)>>=_) _ _ _);refine aw (zl (x:=x.bw I o) T X R r e Ha (R.eT (bC ..)).1 f d.1 λn a p q t O S B=>?_);have C:ai (x.bw I a) h m {s with heap:=n,toks:=q}:=R.pH W g (λb y D e=>B b y D e) S ⟨rfl,rfl,rfl⟩;exact aw (gQ (gn (Hb T X r e W g F (i+1) a _ d.2.2 d.2.1 C O) (λj G z=>wpAny_pure ⟨.cons t z.1,z.2⟩) λE E e=>e))
theorem Hc(M:eE K)(X:K.In x.g)(j:A.handled=none)(R:ai x h m s)(r:VR v y)(e:iC h v a):
  aL (av pg w) A (Dr y a.length none) (λF s'=>bf a F/\ai x h m s') Er s:=by
 refine(e.iter.it y).elim λP O=>?_;unfold Dr;have S:∀ {Q:Bool->ag->Prop},Q false s->aL (av pg w) A (notIterableAtAll y) Q Er s:=by
  intro Q q;induction e with
  |list c =>
   rcases r with ⟨⟩;refine bZ (R.list c) λF n V W=>?_;exact aw (gP (T := "list") (aq _ V rfl) PySem.slot_list_iter.lookup (wpAny_pure q))
  |tup c =>
   rcases r with ⟨⟩;refine bZ (R.tup c) λF n V W=>?_;exact aw (gP (T := "tuple") (aq _ V rfl) PySem.F.slot_tuple_iter.lookup (wpAny_pure q))
 refine aw (S ?_);refine rE (if_neg ko) ?_;refine aw (gQ (zk M X R r O λo k l=>?_));have P:=R.r' (s':={s with heap:=s.heap.push o}) (a6 _) (λb y e=>dC _ e) (mV _ k) ⟨rfl,rfl,rfl⟩;have g:x.D≠s.heap.objs.size:=cK R.zj;refine aw (gQ (gn (Hb M X r O P.2 g a 0 o _ (ca _) rfl P.1 l) (λF u z=>?_) λW W e=>e));refine tX z λi p d f=>?_;refine rE (if_neg (by rw[←i.length];exact gK _)) ?_;refine aw (gQ (zm (x:=x.bw _ p) M X j d r O Ha (d.eT (bC ..)).1 f λB t=>?_));exact wpAny_pure ⟨i,d.uX P.2 g t ⟨rfl,rfl,rfl⟩⟩
theorem ai.Va(R:ai x h m s)(e:∀z,mget a z=mget m z):ai x h a s:=⟨R.fr,R.aa.imp λF N=>⟨N.1,λz v q=>N.2 z v ((e z).symm.trans q)⟩,R.dist,R.own,R.frs,R.ef⟩
noncomputable def pK(F:List (Nm×V))(m:M):M:=F.foldl (λm p=>bu m p.1 p.2) m
theorem Vb(m:M)(x:Nm)(u:V):mget (bu m x u) x=some u:=by rw[nR,o7]
theorem Vc(m:M){x z:Nm}(u:V)(e:x≠z):mget (bu m x u) z=mget m z:=by
 rw[nR];induction q:nb x z with
 |true=>exact absurd (eO q) e
 |false=>rfl
theorem u6:∀(F:List (Nm×V)) (m:M) (z:Nm),(∀q∈F,q.1≠z)->mget (pK F m) z=mget m z
 |[],_,_,_=>rfl
 |q::F,m,z,h=>(u6 F _ z λr O=>h r (.tail _ O)).trans (Vc m q.2 (h q (.head _)))
theorem Hd(F:List (Nm×V)):∀(m:M) (q:Nm×V),q∈F->(F.map (·.1)).Nodup->mget (pK F m) q.1=some q.2:=by
 induction F with
 |nil=>intro m q hq;exact(tC hq).elim
 |cons p F a =>
  intro m q hq O;have O:=tD.mp O;rcases cW.mp hq with rfl |hq
  ·exact(u6 F _ _ λr R e=>O.1 (eo.mpr (aq r R e))).trans (Vb m _ _)
  ·exact a _ q hq O.2
theorem Vd(F:List (Nm×V))(m:M)(h:(F.map (·.1)).Nodup)(z:Nm):mget (pK F m) z=mget (pK F.reverse m) z:=by
 by_cases c:∃q∈F,q.1=z
 ·refine ak c λq O R=>?_;refine rF R ?_;exact rE (Hd F m q O h) (rE (Hd F.reverse m q (m8.mpr O) (by rw[tE];exact(List.pairwise_reverse.mpr (h.imp λe=>fH e)))) rfl)
 ·rw[u6 F m z λq O e=>c (aq q O e),u6 F.reverse m z λq O e=>c (aq q (m8.mp O) e)]
end
section
variable{Z:Zx}
theorem Ve(q:gX c x v h m Q):∃h m,Q h m:=by
 have q:(match cF c x with |.some a=>∃w,h a=.some (.cell w)/\Q (h.set a (.cell (.some v))) m |.none=>Q h (bu m x v)):=q;induction e:cF c x with
 |none=>rw[e] at q;exact(nv _ _ q)
 |some a=>rw[e] at q;refine ak q λw F q=>?_;exact(nv _ _ q)
theorem He{K:List Nm}:∀ {F:List V} {h:Hp} {m:M} {Q:Hp->M->Prop},storeAll c K F h m Q->K.length=F.length:=by
 induction K with
 |nil =>
  intro F h m Q q;induction F with
  |nil=>rfl
  |cons _ _=>exact q.elim
 |cons x K a =>
  intro F h m Q q;induction F with
  |nil=>exact q.elim
  |cons u F=>exact hO (Ve q) λO R q=>congrArg (·+1) (a q)
theorem Vf{F:List Nm}:∀ {us:List V} {h:Hp} {m:M} {Q:Hp->M->Prop},(∀x∈F,cF c x=none)->storeAll c F us h m Q->Q h (pK (F.zip us) m):=by
 induction F with
 |nil =>
  intro us h m Q K q;induction us with
  |nil=>exact q
  |cons _ _=>exact q.elim
 |cons x F b =>
  intro us h m Q K q;induction us with
  |nil=>exact q.elim
  |cons u us =>
   have q:(match cF c x with |.some a=>_ |.none=>storeAll c F us h (bu m x u) Q:Prop):=q;rw[K x (.head _)] at q;exact b (us:=us) (λy O=>K y (.tail _ O)) q
inductive Ts(kd:gj):List Nm->List ao->Prop
 |nil:Ts kd [] []
 |cons {x:Nm} {xs:List Nm} {y:az} {p:Pos} {ts:List ao}:jd kd x y=true->Ts kd xs ts->Ts kd (x::xs) (.Name y p::ts)
theorem Ts.of:∀ {F:List Nm} {K:List ao},rW a F K=true->Ts a F K
 |[],[],_=>.nil
 |x::F,t::K,h=>by
  have h:=an (show((dH t λy O=>jd a x y)&&rW a F K)=true from h);exact dY (G:=λt=>Ts a (x::F) (t::K)) h.1 λy p M=>.cons M (Ts.of h.2)
 |[],_::_,h=>a9 h
 |_::_,[],h=>a9 h
theorem Ts.len(h:Ts d a b):a.length=b.length:=by
 induction h with
 |nil=>rfl
 |cons _ _ c=>exact congrArg (·+1) c
theorem Ts.each(h:Ts a.kindOf d b):lK b a=b.map λt=>(false,assign t a):=by
 induction h with
 |nil=>rfl
 |cons _ _ c =>
  refine(?_:_::lK _ a=_::_);exact rE c rfl
theorem Vg(a:Z.x.D=Z.x.L)(F:bg Z){b:af->ag->Prop}{W:List Nm}{X:List ao}(T:Ts Z.env.kindOf W X):∀ {O:List V} {S:List af} {h:Hp} {m:M} {s:ag} {Q:Hp->M->Prop},ai Z.x h m s->bf O S->storeAll Z.c W O h m Q ->
   aj Z.M Z.A (tF (X.map λt=>assign t Z.env) S) (λK c=>ml Z.x Q c) b s:=by
 induction T with
 |nil =>
  intro O S h m s Q R r q;induction r with
  |nil=>exact aI (G6 h m R q)
  |cons _ _=>exact q.elim
 |cons d _ f =>
  intro O S h m s Q R r q;induction r with
  |nil=>exact q.elim
  |cons g r =>
   show aj _ _ (do hE _ (assign _ Z.env _);tF _ _) _ _ _;rw[tB];exact ar (bO (cg (aF (u0 a d F R g q) (λK K i=>bZ i λK K j k=>f j r k) λK K e=>e)))
theorem Hf(a:Z.x.D=Z.x.L)(F:bg Z){b:af->ag->Prop}{W:List Nm}{K:List ao}{X:List V}{v:V}{y:af}{h:Hp}{m:M}{s:ag}{Q:Hp->M->Prop}(T:Ts Z.env.kindOf W K)(R:ai Z.x h m s)(r:VR v y)(e:iC h v X)(q:storeAll Z.c W X h m Q):
  aj Z.M Z.A (unpack y (lK K Z.env)) (λO c=>ml Z.x Q c) b s:=by
 unfold unpack;refine rE T.each ?_;have d:(K.map λt=>(false,assign t Z.env)).findIdx? (·.1)=none:=by
  rw[List.findIdx?_eq_none_iff];intro y f;refine ak (eo.mp f) λt O S=>?_;refine rF S ?_;rfl
 rw[d,dq,←T.len,He q,oG];exact a' (gQ (gn (Hc F.FK F.X F.handled R r e) (λg i z=>Vg a F T z.2 z.1 q) λO O e=>e))
theorem Vh(T:Ts a d b):(b.filterMap (pA a l)).length=b.length->b.filterMap (pA a l)=d.map nm/\∀x∈d,a (nm x)=some .local:=by
 induction T with
 |nil=>intro _;exact⟨rfl,λR h=>dx h⟩
 | @cons x d y p b f _ g =>
  intro F;have M:=List.length_filterMap_le (pA a l) b;by_cases c:(a y == some .local&&p.line == l)=true
  ·have K:pA a l (.Name y p)=some y:=if_pos c;rw[List.filterMap_cons_some K] at F ⊢;have i:=g (qQ F);have e:=seq_eq (an f).1;refine rE i.1 (rE oU (rE e ?_));exact⟨rfl,λz O=>(cW.mp O).elim (λq=>by refine rE q (rE e ?_);exact beq_iff_eq.mp (an c).1) (i.2 z)⟩
  ·have K:pA a l (.Name y p)=none:=if_neg c;rw[List.filterMap_cons_none K,qR] at F;lia
theorem Hg(W:Z.x.D=Z.x.L)(F:bg Z){d:af->ag->Prop}{h:Hp}:∀ {xs:List Nm} {us:List V} {K:List af} {m:M} {s:ag},(∀x∈xs,Z.env.kindOf (nm x)=some .local)->xs.length=us.length->ai Z.x h m s->bf us K ->
   aj Z.M Z.A (tF (xs.map λx=>tf Z.env (nm x)) K) (λO f=>ai Z.x h (pK (xs.zip us) m) f) d s
 |[],[],K,m,s,_,_,R,r=>by cases r;exact aI R
 |x::xs,u::us,K,m,s,c,b,R,r=>by
  cases r with
  |cons g r =>
   show aj _ _ (do hE _ (tf Z.env _ _);tF _ _) _ _ _;have X:=c x (.head _);refine ar (bO (yk (aF (bj (zn (y:=x) (Q:=λi j=>i=h/\j=bu m x u) W (.inl X) F R g ?_)) (λO n z=>?_) λO O e=>e)))
   ·refine(?_:(match cF Z.c x with |.some a=>_ |.none=>h=h/\bu m x u=bu m x u:Prop));refine rE (F.kinds x X) ?_;exact⟨rfl,rfl⟩
   ·refine bL z λo p k S T=>?_;refine rF S ?_;subst T;exact Hg W F (λy l=>c y (.tail _ l)) (qQ b) k r
 |[],_::_,_,_,_,_,b,_,_=>nomatch b
 |_::_,[],_,_,_,_,b,_,_=>nomatch b
theorem Hh[BEq c]:∀(n:Nat) (l:List c),l.length<=n->l.eraseDups.length<=l.length
 |_,[],_=>by refine rE List.eraseDups_nil ?_;exact a6 _
 | 0,_::_,h=>nomatch h
 |n+1,a::d,h=>by
  refine rE MH ?_;have F:=MI (λb=>!b == a) d;exact db (ah (Hh n _ (ah F (Nat.le_of_succ_le_succ h))) F)
theorem Hi[BEq d][LawfulBEq d]:∀(l:List d),l.eraseDups.length=l.length->l.Nodup
 |[],_=>MJ
 |a::c,h=>by
  rw[MH] at h;have h:=qQ h;have K:=MI (λb=>!b == a) c;have M:=Hh _ (c.filter λb=>!b == a) (a6 _);have F:c.filter (λb=>!b == a)=c:=MK.mpr (List.length_filter_eq_length_iff.mp (fi K (h▸M)));rw[F] at h;refine tD.mpr ⟨λO=>?_,Hi c h⟩;have:=MK.mp F a O;rw[beq_self_eq_true] at this;exact a9 this
set_option tactic.hygienic true in
theorem Vi{a:Nat}{p1:Pos}(K:env.scope.kind=.function)(h:yH env.kindOf ts q=true):
  oS [.Tuple ts a p1] q env=a8 none\/(oS [.Tuple ts a p1] q env=a8 (some (fR env.kindOf ts))/\(fR env.kindOf ts).length=ts.length/\(fR env.kindOf ts).eraseDups.length=(fR env.kindOf ts).length):=by
 rcases q with _ |_<;>first |exact .inl rfl |skip
 rename_i vs b M;have h:(yG env.kindOf ts vs).isSome=true:=h;have O:(env.blockKind != .function)=false:=by unfold Env.blockKind;refine rE K ?_;rfl
 have e:oS [.Tuple ts a p1] (.Tuple vs b M) env=(
   if (!(ts.length == 2||ts.length == 3)||vs.length != ts.length||env.blockKind != .function)=true then a8 none
   else if vs.any v9=true then a8 none
   else if ((fR env.kindOf ts).length != ts.length||(fR env.kindOf ts).eraseDups.length != (fR env.kindOf ts).length)=true then a8 none
   else if vs.all (CO 8)=true then a8 none
   else if vs.all (CP 8)=true then (do BU "assign.tuple-of-constant-expressions:order-of-the-stores";a8 (some (fR env.kindOf ts)))
   else a8 (some (fR env.kindOf ts))):=rfl
 rw[e,O,Bool.or_false];unfold yG at h;by_cases c:(!(ts.length == 2||ts.length == 3)||vs.length != ts.length)=true
 ·rw[if_pos c];exact .inl rfl
 rw[if_neg c] at h ⊢;by_cases d:vs.any v9=true
 ·refine rE (if_pos d) ?_;exact .inl rfl
 rw[if_neg d] at h ⊢;by_cases F:((fR env.kindOf ts).length != ts.length||(fR env.kindOf ts).eraseDups.length != (fR env.kindOf ts).length)=true
 ·refine rE (if_pos F) ?_;exact .inl rfl
 rw[if_neg F] at h ⊢;by_cases f:vs.all (CO 8)=true
 ·refine rE (if_pos f) ?_;exact .inl rfl
 rw[if_neg f] at h ⊢;by_cases g:vs.all (CP 8)=true
 ·rw[if_pos g] at h;exact a9 h
 refine rE (if_neg g) ?_;have F:=Dc.mp (wI.mpr F);exact .inr (aH rfl (bne_eq_false_iff_eq.mp F.1) (bne_eq_false_iff_eq.mp F.2))
theorem Vj(p:Z.x.D=Z.x.L)(F:bg Z){xs:List Nm}{e:X}{M:List ao}{a:Nat}{p1 r:Pos}{q:ao}(T:Ts Z.env.kindOf xs M)(t:nP q=true)
  (B:yH Z.env.kindOf M q=true) (w:SE Z e q):SS Z (.unpack xs e) (.Assign [.Tuple M a p1] q r):=by
 intro s h m Q E R y;rcases Vi (a:=a) (p1:=p1) F.kind B with c |⟨c,C,D⟩
 ·refine sa (λl=>pJ t) c (λK=>rfl) (aF (w R y) (λv G z=>?_) λK K e=>e);refine t5 z λu V H d g us i W=>?_;rw[ML];exact cg (aF (Hf p F T g d i W) (λK K z=>z.next) λK K e=>e)
 ·rw[Do];refine cg (a' (cR (a:=false) (show oR q (some (.Tuple M a p1)) r.line Z.env=a8 false from pJ t) ?_));show aj _ _ (do
   let v ←eval q Z.env
   Dp Z.env v (←oS [.Tuple M a p1] q Z.env) ((lK [.Tuple M a p1] Z.env).map (·.2))) _ _ _
  refine ar (aF (w R y) (λv G z=>a' (cR c ?_)) λK K e=>e);refine t5 z λu V H d g us i W=>?_;have f:=Vh (l:=(M.head?.map (·.pos.line)).getD 0) T (by exact C);have I:fR Z.env.kindOf M=xs.map nm:=f.1;have O:=Hi _ D;rw[I] at O ⊢;have j:xs.Nodup:=by
   rw[MM,MN] at O;exact O.imp λk e=>k (by rw[e])
  have b:=He W;have J:=Vf (λx o=>F.kinds x (f.2 x o)) W;show aj _ _ (do rule "assign.swapped-stores";let S ←Dr v (xs.map nm).length none;tF ((xs.map nm).reverse.map λn=>tf Z.env n) S.reverse;a8 Dq) _ _ _;rw[dq,b];refine ar (yi (a' (gn (Hc F.FK F.X F.handled g d i) (λN P z=>?_) λK K e=>e)));rw[←tE,oG];refine ar (aF (Hg p F (xs:=xs.reverse) (us:=us.reverse) (λx o=>f.2 x (m8.mp o)) (by rw[w6,w6];exact b) z.2 z.1.reverse) (λK U A=>?_) λK K e=>e);have L:xs.reverse.zip us.reverse=(xs.zip us).reverse:=by
   unfold List.zip;rw[List.reverse_zipWith b]
  rw[L] at A;exact aI (eB .next V _ .next (A.Va (Vd _ _ (by rw[List.map_fst_zip (d8 b)];exact j))) J)
end
noncomputable def Cx.pt(x:Cx)(p:Pt):Cx:={x with p:=p}
noncomputable def Zx.pt(Z:Zx)(p:Pt):Zx:={Z with x:=Z.x.pt p}
theorem bg.pt(F:bg Z){p:Pt}(e:p.fr=Z.x.p.fr):bg (Z.pt p) :=
 {kind:=F.kind,locs:=F.locs,glob:=F.glob,jh:=F.jh,cells:=F.cells,kinds:=F.kinds,mi:=F.mi,X:=F.X,T:=F.T,nS:=by refine cr F.nS λO R S K=>?_;exact(bG O R S (λa M=>⟨(K a M).1,(K a M).2.imp id λz=>by refine ak z λq V z=>?_;exact(aq q (show q∈p.fr from e▸V) z)⟩)),depth:=F.depth,units:=F.units,handled:=F.handled,yN:=F.yN,cn:=F.cn,pE:=F.pE,top:=F.top,FK:=F.FK}
theorem pL(h:eR x (λF F F=>False) e s):False:=by
 refine SD h λF F F F q=>?_;exact q
section
variable{Z:Zx}
theorem Hj{K:bc}{T:bJ}{w:bE}{A:bk}{x:Cx}{h:Hp}{m:M}{s:ag}{W:af->ag->Prop}{a:Nat}{f:Nm}{F:Bool}{o:O}{u:V}{Q:V->Hp->Prop}(C:eE K)(X:K.In x.g)(R:ai x h m s)
  (S:h a=some o) (e:et look o f (.val u)) (q:Q u h):aL (av T w) A (oN (.ref a) (nm f) F) (cS x m Q) W s:=by
 cases e with
 |field b e=>exact UK C X R S b e q
 |const b e=>exact UL C X R S b e q
theorem Vk(W:Z.x.D=Z.x.L)(F:bg Z){y:Nm}{e:X}{p1 a:Pos}{q:ao}(V:Z.env.kindOf (nm y)=some .local)(b:SE Z e q):SS Z (.aug y .add e) (.AugAssign (.Name (nm y) p1) .Add q a):=by
 intro s h m Q E R M;refine ak (O7 M) λi c M=>?_;rw[arm_exec_AugAssign];refine ak R.aa λo N d=>?_;refine D8 (d y _ c) λf g t O=>?_;subst O;refine cg (a' (tm F.kind V (by refine rE F.locs ?_;exact N) g ?_));refine ar (bO (aF (b R M) (λv p z=>?_) λK K e=>e));refine eS z λu k r l n S=>?_;refine ak (ut S) λj T S=>?_;subst T;obtain⟨w,rfl⟩:=l;refine cg (ar (nG (bj (MO ?_))));exact cg (ar (yk (aF (bj (zn (y:=y) (u:=.int (i+j)) W (.inl V) F (n.toks _) ⟨_,rfl⟩ S)) (λK K z=>aI z.next) λK K e=>e)))
theorem Vl(F:bg Z){o:X}{f:Nm}{e:X}{t q:ao}{p1 n:Pos}(p:SE Z o t)(r:SE Z e q):SS Z (.i5 o f .add e) (.AugAssign (.Attribute t (nm f) p1) .Add q n):=by
 intro s h m Q E R w;rw[arm_exec_AugAssign_2];refine cg (ar (aF (p R w) (λov s1 z=>?_) λM M e=>e));refine eS z λuo T m1 x y O=>?_;refine Eb (Fp O) λa K o1 A t1 B O=>?_;subst K;refine ak (O8 O) λi K O=>?_;subst K;cases x;refine ar (bO (cg (a' (gn (Hj F.FK F.X y A B (Q:=λv h=>v=.int i/\h=T) ⟨rfl,rfl⟩) (λC s2 z=>?_) λM M e=>e))));refine eb z λu D G H V W=>?_;subst V;subst W;obtain⟨t,rfl⟩:=G;refine ar (bO (aF (r H O) (λv s3 z=>?_) λM M e=>e));refine eS z λu I l J L S=>?_;refine ak (ut S) λj K S=>?_;subst K;obtain⟨t',rfl⟩:=J;refine tZ (G' S) λb N P c d g U S=>?_;injection c with c;subst c;refine cg (nG (bj (MO ?_)));exact cg (ar (bO (aF (bj (G3 F.FK F.X (L.toks _) d g U (show VR (.int (i+j)) _ from ⟨_,rfl⟩) (Q:=λh=>Q .next h l) S)) (λM M Y=>ak Y λk R4 q4=>ar (rY (aI ⟨.next,k,l,.next,R4,q4⟩))) λM M e=>e)))
theorem Vm{M:cV}{A:bk}{E:af->ag->Prop}{s:ag}{a:Sem e}{b:Sem c}{f:c->Sem d}{Q:d->ag->Prop}
  (h:aj M A (a>>=λF=>b) (λx O=>aj M A (f x) Q E O) E s):aj M A (a>>=λF=>b>>=f) Q E s:=by
 intro K p hΓ n;have S:=h K p hΓ n;rw[tc] at S ⊢;refine kh _ K _ (λF T O q=>?_) (λF F F q=>q) p s S;rw[tc];exact kh _ K _ (λx R V W=>W K R hΓ n) (λF F F q=>q) T O q
def k9(P:ki->ag->Prop):eI->ag->Prop:=λr F=>match r with |.ok f=>P f F |.error e=>False
theorem Hk{M:cV}{c:jD}{F:Env}{s:ag}{Q:ki->ag->Prop}{E:af->ag->Prop}(K:hW c=false)(h:cy M (A.mark none) c (k9 Q) s):aj M A (runOwn c F) Q E s:=by
 unfold runOwn;refine lZ (Fv K (ja h λr O q=>?_) aN);induction r with
 |ok f=>exact q
 |error e=>exact q.elim
theorem pM{M:cV}{s:ag}{t:Sem Fin}{Q:Fin->ag->Prop}{E:af->ag->Prop}{x:af->Sem Unit}(h:aj M A t Q (λF F=>False) s):aj M A (t.onRaise x) Q E s :=
 lZ (aF h (λF F q=>q) λF F q=>q.elim)
theorem Vn(q:R (.ok .next) s):cy (av b w) A (.block [] a) R s:=by
 refine fw ?_;show aj _ A ((do return Fin.done (←(mQ [] a).onRaise (λx=>do m9 x a;qS x))):Sem Fin) _ _ s;exact ar (lZ (aI (aI q)))
theorem zq{T:Hp}{Q:Fl->Hp->M->Prop}
  {W:V->Hp->M->(Fl->Hp->M->Prop)->Prop} (F:bg Z) (r:VR v y) (e:It T y v C P) (j:Z.x.p.ex I=none) (k:Z.x.D≠I)
  (X:∀ {S:af} {s:ag} {o:Obj} {i:Nat} {Q:Unit->ag->Prop} {E:af->ag->Prop},s.heap.get? I=some o->P i o->Q () s->aL Z.M Z.A (Ds a (.ref I) S) Q E s)
  (O:∀ {p':Pt} {u:V} {S:af} {h:Hp} {m:M} {s:ag} {q:Fl->Hp->M->Prop},p'.fr=Z.x.p.fr->ai (Z.x.pt p') h m s->VR u S->W u h m q ->
   aj Z.M Z.A (assign a Z.env S>>=λn=>mQ D Z.env) (jW (Z.x.pt p') q) (λn n=>False) s) :
  ∀(K:List V) (i:Nat) (o:Obj) (h:Hp) (m:M) (s:ag),i<=C.length->C.drop i=K->ai (Z.x.bw I o) h m s->P i o ->
   hV (gW T v) W K h m Q->cy Z.M Z.A (.forLoop a (.ref I) D [] Z.env) (k9 (jW Z.x Q)) s
 |[],i,o,h,m,s,U,G,R,H,c=>by
  obtain⟨J,c⟩:=c;have hi:i=C.length:=fi U (oT.mp G);subst hi;refine fw ?_;show aj _ Z.A ((forTurn a (.ref I) D [] Z.env).onRaise (λx=>do m9 x Z.env;qS x)) _ _ s;refine pM ?_;simp only[forTurn];exact cg (ar (lZ (bj (zm (x:=Z.x.bw I o) F.FK F.X F.handled R r e J (R.eT (bC ..)).1 H λY L=>aI (aH rfl rfl (Vn (eB .next h m .next (R.uX j k L ⟨rfl,rfl,rfl⟩) c)))))))
 |u::K,i,o,h,m,s,U,G,R,H,c=>by
  obtain⟨J,c⟩:=c;have d:=zo G;refine fw ?_;show aj _ Z.A ((forTurn a (.ref I) D [] Z.env).onRaise (λx=>do m9 x Z.env;qS x)) _ _ s;refine pM ?_;simp only[forTurn];refine cg (ar (lZ (bj (zl (x:=Z.x.bw I o) F.FK F.X R r e J (R.eT (bC ..)).1 H d.1 λY p S tk N g l L=>?_))));have R1:ai (Z.x.bw I p) h m {s with heap:=Y,toks:=tk}:=R.pH j k (λb y hb e=>L b y hb e) l ⟨rfl,rfl,rfl⟩;refine a' (X l g (Vm (aF (O (p':=Z.x.p.set I p) rfl R1 N c) (λf s2 z=>?_) λn n e=>e)));refine uZ z λfl t w r2 A B=>?_;induction r2 with
  |next=>exact aI (aH rfl rfl (zq F r e j k X O K (i+1) p t w s2 d.2.2 d.2.1 A g B))
  |cont=>exact aI (aH rfl rfl (zq F r e j k X O K (i+1) p t w s2 d.2.2 d.2.1 A g B))
  |brk=>exact aI (eB .next t w .next (A.release j k) B)
  |ret N=>exact aI (eB (.ret _) t w (.ret N) (A.release j k) B)
theorem Hl(h:md q=true):MP q a x=a8 x:=by
 rcases q with _ |_<;>first |rfl |exact a9 h
theorem It.kind(e:It h y v a P){i:Nat}{o:Obj}(F:P i o):
  ∃T a,o.cls=.type T/\o.data=.fields a/\["enumerate", "zip", "dict_itemiterator", "dict_reverseitemiterator", "odict_iterator", "itertools.zip_longest", "itertools.pairwise"].contains T=false:=by
 induction e with
 |bytes b=>exact(cb _ _ F.1 F.2 (by decide))
 |fM=>exact(cb _ _ F.1 F.2 (by decide))
 |list c=>exact(cb _ _ F.1 F.2 (by decide))
 |tup c=>exact(cb _ _ F.1 F.2 (by decide))
 |range c=>subst F;exact(cb _ _ rfl rfl (by decide))
set_option backward.match.sparseCases true in
theorem Vo{M:cV}{E:af->ag->Prop}{s:ag}{T:String}{O:Array af}{K:af}{o:Obj}{I:ax}{F:ao}{Q:Unit->ag->Prop}(R:s.heap.get? I=some o)
  (S:o.cls=.type T) (V:o.data=.fields O) (W:["enumerate", "zip", "dict_itemiterator", "dict_reverseitemiterator", "odict_iterator", "itertools.zip_longest", "itertools.pairwise"].contains T=false)
  (q:Q () s):aL M A (Ds F (.ref I) K) Q E s:=by
 unfold Ds;have X:aL M A (do
  let (.ref r,.ref a):=(e' I,K) |return
  let o ←load r
  match o.cls,o.data with
  |.type n,.fields O =>
   if ["enumerate", "zip", "dict_itemiterator", "dict_reverseitemiterator", "odict_iterator", "itertools.zip_longest", "itertools.pairwise"].contains n&&O[0]? == some (rawInt a) then
    rule "for.unpacks-the-owned-tuple"
    updateField r 0 .none
  |_,_=>a8 ()) Q E s:=by
  rcases K with _ |_<;>first |exact wpAny_pure q |skip
  refine aw (hF R ?_);refine rE S (rE V ?_);dsimp only;rw[W,Bool.false_and];exact wpAny_pure q
 rcases F with _ |_<;>first |exact wpAny_pure q |exact X
theorem Hm(F:bg Z){e:X}{t q:ao}{k:List bz}{c:Pos}{s:ag}{h:Hp}{m:M}{Q:Fl->Hp->M->Prop}{E:PE}{K:V->Hp->M->(Fl->Hp->M->Prop)->Prop}(p:md q=true)(r:SE Z e q)(R:ai Z.x h m s)
  (w:ev look ac (runs Z.n) Z.c e h m (λv h m=>∃a,fP h v a/\hV (gW h v) K a h m Q) E)
  (O:∀ {d:Pt} {u:V} {S:af} {h:Hp} {m:M} {s:ag} {q:Fl->Hp->M->Prop},d.fr=Z.x.p.fr->ai (Z.x.pt d) h m s->VR u S->K u h m q ->
   aj Z.M Z.A (assign t Z.env S>>=λW=>mQ k Z.env) (jW (Z.x.pt d) q) (λW W=>False) s) :
  aj Z.M Z.A (exec (.For t q k [] c) Z.env) (jW Z.x Q) (eR Z.x E) s:=by
 rw[arm_exec_For];refine cg (ar (aF (r R w) (λv l z=>?_) λW W e=>e));refine t5 z λu f x n g a A B=>?_;obtain⟨P,i⟩:=A.it v;refine a' (cR (Hl p) (cg (a' (gQ (zk F.FK F.X g n i λo C j=>?_)))));have P:=g.r' (s':={l with heap:=l.heap.push o}) (a6 _) (λb y e=>dC _ e) (mV _ C) ⟨rfl,rfl,rfl⟩;exact Hk rfl (zq F n i P.2 (cK g.zj) (λD j q=>by refine bL (i.kind j) λT a G H I=>?_;exact Vo D G H I q) O a 0 o f x _ (ca _) rfl P.1 j B)
theorem Vp(T:Z.x.D=Z.x.L)(F:bg Z){x:Nm}{e:X}{b:List S}{y:az}{q:ao}{O:List bz}{p1 M:Pos}(V:jd Z.env.kindOf x y=true)(W:md q=true)(f:SE Z e q)(g:∀a,a.fr=Z.x.p.fr->iG (Z.pt a) b O):
  SS Z (.for x e b) (.For (.Name y p1) q O [] M):=by
 intro s h m Q E R i;refine Hm F W f R i λ{a u j h m s q} d k l c=>?_;rw[tB];exact ar (cg (aF (u0 (Z:=Z.pt a) T V (F.pt d) k l c) (λK K n=>bZ n λK K o p=>aF (g a d o p) (λK K q=>q) λK K q=>(pL q).elim) λK K e=>e))
theorem Vq(d:Z.x.D=Z.x.L)(F:bg Z){x y:Nm}{e:X}{b:List S}{V:List ao}{u:Nat}{q:ao}{W:List bz}{p1 O:Pos}(T:Ts Z.env.kindOf [x,y] V)(f:md q=true)(g:SE Z e q)(i:∀a,a.fr=Z.x.p.fr->iG (Z.pt a) b W):
  SS Z (.gU x y e b) (.For (.Tuple V u p1) q W [] O):=by
 intro s h m Q E R j;refine Hm F f g R j λ{a u k h m s q} c l n M=>?_;refine ak M λv o M=>?_;rw[ML];exact ar (cg (aF (Hf (Z:=Z.pt a) d (F.pt c) T l n o M) (λK K p=>bZ p λK K r t=>aF (i a c r t) (λK K q=>q) λK K q=>(pL q).elim) λK K e=>e))
theorem zr(T:SB Z t q)(V:iG Z b c){Q:Fl->Hp->M->Prop}:∀(f:Nat) {h:Hp} {m:M} {s:ag},ai Z.x h m s ->
   kE (λh m q=>ev look ac (runs Z.n) Z.c t h m (λv h m=>cD v λr=>q r h m) λF F F=>False) (λh m q=>aE look ac (runs Z.n) Z.c b h m q λF F F=>False) f h m Q ->
   cy Z.M Z.A (.whileLoop q c [] Z.env) (k9 (jW Z.x Q)) s
 | 0,_,_,_,_,a=>a.elim
 |f+1,h,m,s,R,a=>by
  refine fw ?_;show aj _ Z.A ((whileTurn q c [] Z.env).onRaise (λx=>do m9 x Z.env;qS x)) _ _ s;refine pM ?_;unfold whileTurn;refine ar (aF (T (Q:=λr h m=>br r (aE look ac (runs Z.n) Z.c b h m (λX h m=>match X with
    |.next=>kE (λh m q=>ev look ac (runs Z.n) Z.c t h m (λv h m=>cD v λr=>q r h m) λF F F=>False) (λh m q=>aE look ac (runs Z.n) Z.c b h m q λF F F=>False) f h m Q
    |.cont=>kE (λh m q=>ev look ac (runs Z.n) Z.c t h m (λv h m=>cD v λr=>q r h m) λF F F=>False) (λh m q=>aE look ac (runs Z.n) Z.c b h m q λF F F=>False) f h m Q
    |.brk=>Q .next h m
    |.ret v=>Q (.ret v) h m) λF F F=>False) (Q .next h m)) R a) (λr l z=>?_) λF F q=>(pL q).elim)
  refine lB z λW i d e=>?_;induction r with
  |true =>
   refine ar (aF (V d e) (λX n z=>?_) λF F q=>(pL q).elim);refine uZ z λo K g j O S=>?_;induction j with
   |next=>exact aI (aH rfl rfl (zr T V f O S))
   |cont=>exact aI (aH rfl rfl (zr T V f O S))
   |brk=>exact aI (eB .next K g .next O S)
   |ret k=>exact aI (eB (.ret _) K g (.ret k) O S)
  |false=>exact ar (aI (aI (eB .next W i .next d e)))
theorem Vr{t:X}{b:List S}{q:ao}{M:List bz}{F:Pos}(O:SB Z t q)(T:iG Z b M):SS Z (.while t b) (.While q M [] F):=by
 intro s h m Q E R K;refine K.elim λf K=>?_;rw[arm_exec_While];exact cg (Hk rfl (zr O T f R K))
end
end Mine.Internal
end
section
open PySem PySem.W PyProof.Rows PySem.Calls
set_option maxHeartbeats 1000000
namespace Mine.Internal
open PySem.Builtin
section
variable{prog:bJ}{w:bE}{A:bk}{R:eI->ag->Prop}{s:ag}
theorem Hn{id:String}{args:qy}{b:CS}(S:(Code.builtin id args).quiet=true)(T:hW (.builtin id args)=false)(V:gq table id=some b)
  (h:aL (av prog w) A.in1 (checkBuiltinCall id args) (λM F=>aj (av prog w) (A.under (.builtin id args)) (b args) (nH (av prog w) A R) (λe O=>R (.error e) O) F) (λe O=>R (.error e) O) s) :
  cy (av prog w) A (.call (.builtin id) args) R s:=by
 refine fw ?_;show aj _ A.in1 (do checkBuiltinCall id args;again (.builtin id args)) _ _ s;exact a' (gn h (λM F K=>aI (aH S T (uJ V K))) λM M e=>e)
theorem la{M:cV}{E:af->ag->Prop}{c:Prop}[Decidable c]{a b:Sem d}{Q:d->ag->Prop}(F:¬c)(h:aj M A b Q E s):aj M A (if c then a else b) Q E s:=by refine rE (if_neg F) ?_;exact h
theorem Vs(Y:Makes (av prog w) s.heap C)(M:f0 (av prog w) s.heap (fZ (.ref C) "__init__") (some (.ref f)))
  (V:∀c,f0 (av prog w) s.heap (MQ (.ref f) c) (.ref f,[c]))
  (W:cy (av prog w) (A.under (.builtin "type.__call__" ⟨.ref C::i,[]⟩)) (.call (.ref f) ⟨.ref (s.heap.objs.size+1)::i,[]⟩) (InitBack (s.heap.objs.size+1) R) {s with heap:=(s.heap.push qT).push (go C s.heap.objs.size)}) :
  cy (av prog w) A (.call (.ref C) ⟨i,[]⟩) R s:=by
 obtain⟨h,g,d,t,os⟩:=s;have X:=Y;obtain⟨⟨B,D,j,E,O,G,H,l⟩,F,S,c,n,call,K⟩:=Y;refine fw ?_;show aj _ _ (qz (.ref C) _) _ _ _;refine a' (m:=load C) (hF O ?_);show aj _ _ (xd (.ref C) _) _ _ _;unfold xd;refine a' (call.at ?_);dsimp only;rw[tc_bind];refine ar (aI (ar (aI ?_)));refine aI (a:=MT (.call (.builtin "type.__call__") ⟨.ref C::i,[]⟩)) (aH rfl rfl ?_);refine Hn (wQ _ (by decide +kernel)) rfl MU (Dt tc_kind tc_split K (tc_args _ _ _) ?_);unfold Builtin.«type.__call__»;have p:f0 (av prog w) h (wM (.ref C)) j.mro:=((qU (part:=none) O).andThen .now).andThen .now;dsimp only;refine la (show ¬((e' C == m6 "type")=true) from ko) ?_;refine a' (p.here ?_);refine la (by refine rE l ?_;decide) ?_;refine a' (F.here ?_);refine ar (aI ?_);refine a' (gQ (wR (new_K X M (.inl rfl) ?_)));have k:∀b o,h.get? b=some o->((h.push qT).push (go C h.objs.size)).get? b=some o:=λb o e=>dC _ (dC _ e);have q:((h.push qT).push (go C h.objs.size)).get? (h.objs.size+1)=some (go C h.objs.size):=by heap_get
 have T:f0 (av prog w) ((h.push qT).push (go C h.objs.size)) (tG (.ref (h.objs.size+1))) (.ref C):=(qU q).andThen .now;have u:=c.keeps k;have x:=M.keeps k;have y:=(V (.ref (h.objs.size+1))).keeps k;unfold qV wS wL;refine a' (aw (T.here (u.here ?_)));refine la (by decide) ?_;refine ar (bO ?_);refine a' (aw (T.here (x.here ?_)));dsimp only;refine bO (a' (y.here ?_));refine ar (kH (ja W λr I z=>?_));rcases r with e |(v |_ |_ |_)<;>first |exact z |exact z.elim |skip
 refine rp z λz=>?_
 exact aI (la (by decide) (aI z))
end
end Mine.Internal
end
section
open PySem PySem.W PyProof.Rows PySem.Calls PySem.Builtin PySem.Builtin.ObjectAttr PySem.Builtin.Getset_descriptor
namespace Mine.Internal
theorem Vt:PlainAttrs "bytearray" :=
 ⟨(aq ("bytearray.__getattribute__") (by rw[eJ,eK];kernel_rfl) (by decide +kernel)),by rw[eJ,eK];kernel_rfl⟩
theorem Vu:tG (.builtin "bytearray.append")=a8 (.type "method_descriptor"):=by show builtinType _=_;refine rE builtinType_eq_fast ?_;kernel_rfl
def u7(x:Cx)(m:M)(E:Ex->Hp->Prop)(e:af)(s:ag):Prop:=∃y h,f' x y e h m s/\E y h
def qq(f:Fn):Prop:=iU f.i 72=true
def jX(K:bc)(R:bJ)(w:bE)(n:Nat):Prop :=
 ∀ {f:Fn} {A:bk} {x:Cx} {s:ag} {h:Hp} {m:M} {F:List V} {O:List af} {Q:V->Hp->Prop} {E:Ex->Hp->Prop},qq f ->
  gY K n A x->ai x h m s->bf F O->runs n f F h Q E->cy (av R w) A (.call (.ref (dL f)) ⟨O,[]⟩) (mh (cS x m Q) (u7 x m E)) s
set_option tactic.hygienic true in
theorem Ho(h:me q=true):attributeBase q b c a=a:=by
 rcases q with _ |_<;>first |rfl |skip
 rename_i f args F K;rcases f with _ |_<;>first |rfl |skip
 rcases args with _ |_<;>first |rfl |skip
 rcases F with _ |_<;>first |rfl |exact a9 h
section
variable{pg:bJ}{w:bE}{A:bk}{E:af->ag->Prop}{s:ag}{env:Env}
theorem Vv(S:me a=true)
  (h:aj (av pg w) A (eval a env) (λo F=>aj (av pg w) A (oN o b true) Q E F) E s):aj (av pg w) A (eval (.Attribute a b c) env) Q E s:=by
 rw[arm_eval_Attribute,Ho S];exact ar (aF h (λo F K=>cg (ar (bO (aF K (λr R M=>a' (LY (aI M))) λO O e=>e)))) λO O e=>e)
theorem zt{M:cV}{o:ao}{name:az}{K F:Pos}{args:List ao}{Q:af->ag->Prop}(g:me o=true)(c:fx args)
  (V:args.length<20) (S:K.endLine=F.line)
  (h:aj M A (eval o env) (λf O=>∀i,aj M A (xe f name i) (λr R=>aj M A (oH F r.1 r.2 (dZ env args) []) Q E R) E O) E s) :
  aj M A (eval (.Call (.Attribute o name K) args [] F) env) Q E s:=by
 rw[arm_eval_Call,Ho g,yI c];refine ar (aF h (λf O W=>?_) λb b e=>e);refine ar (iD ?_);have T:MV (args.length+([]:List K5).length) (dZ env args) (backToKw F (keywordEach [] env))=true:=by
  unfold MV;have j:(dZ env args).all (λx=>!x.1)=true:=by
   rw[eX];intro x k;refine ak (eo.mp k) λy b d=>?_;refine rF d ?_;rfl
  rw[j];show(true&&true&&decide (args.length+0+0<30))=true;rw[show decide (args.length+0+0<30)=true from decide_eq_true (cZ V (by decide))];rfl
 have X:MW true o env K F=a8 F:=by unfold MW;rw[S,beq_self_eq_true];rfl
 unfold methodCall;rw[T,X];exact ar (bO (aF (W _) (λr R a=>ar (aI a)) λb b e=>e))
end
section
variable{K:bc}{pg:bJ}{w:bE}{n:Nat}{Z:Zx}
theorem Vw(F:eE K)(M:qq f)(X:K.In x.g)(R:ai x h m s):kQ (av pg w) A (.ref (dL f)) s:=by
 refine bZ (F.fns f M) λo T O S=>?_;obtain⟨V,Fr⟩:=R.fr;exact Gh (Fr.keep _ _ (X _ _ O)) S
theorem post_of{m:M}{E:PE}
  (h:cy (av pg w) A (.call f ⟨a,[]⟩) (mh (cS x m λv h=>Q v h m) (u7 x m λy h=>E y h m)) s):aj (av pg w) A (call f a []) (jg x Q) (eR x E) s:=by
 refine kH (ja h ?_);intro r S q
 match r,q with
 |.ok (.ret v),q=>exact q.ok
 |.error e,q=>refine bZ q λy F O R=>?_;exact(c9 y F m O R)
theorem bg.Hq(F:bg Z):gY Z.K Z.n Z.A Z.x:=F.room rfl rfl (cP _ _) (cP _ _)
theorem zu(F:bg Z)(d:jX Z.K Z.pg Z.w Z.n){f:Fn}(T:qq f){W:List X}{a:List ao}{O:Pos}{first:List af}{b:List V}(e:bf b first)(S:gy Z W a){s:ag}{h:Hp}{m:M}{Q:PV}{E:PE}(R:ai Z.x h m s)
  (g:cY look ac (runs Z.n) Z.c W h m (λi h m=>runs Z.n f (b++i) h (λv h=>Q v h m) λy h=>E y h m) E) :
  aj Z.M Z.A (oH O (.ref (dL f)) first (dZ Z.env a) []) (jg Z.x Q) (eR Z.x E) s :=
 uU S R g λj c k=>⟨Vw F.FK T F.X c,post_of (d T F.Hq c (e.append j) k)⟩
theorem Vx(F:bg Z)(V:jX Z.K Z.pg Z.w Z.n){f:Fn}{y:az}{T:List X}{M:List ao}{p1 W:Pos}(O:qr f=some y)(a:Z.env.kindOf y=some .globalImplicit)(b:fx M)(S:gy Z T M):SE Z (.aD f T) (.Call (.Name y p1) M [] W) :=
 λR c=>r9 b (F.name R a (F.FK.Gk f y O) (F.FK.rT f y O).1 (zu F V (F.FK.rT f y O).2 .nil S R c))
theorem Hr:∀c,(lu c == ("__debug__" : az))=false
 |.ix=>by decide +kernel |.lT=>by decide +kernel |.fL=>by decide +kernel |.fc=>by decide +kernel |.dQ=>by decide +kernel
 |.fq=>by decide +kernel |.jN=>by decide +kernel |.kz=>by decide +kernel |.i3=>by decide +kernel
theorem Vy(F:bg Z)(d:jX Z.K Z.pg Z.w Z.n){c:Cl}{V:List X}{O:List ao}{p1 W a:Pos}(e:Z.env.kindOf (lu c)=some .globalImplicit)(g:fx O)(i:O.length<20)(M:W.endLine=a.line)(S:gy Z V O):
  SE Z (.jP c V) (.Call (.Attribute (.Name (lu c) p1) (nm .init) W) O [] a):=by
 intro s h m Q E R T;refine ak (Fm T) λf b T=>?_;refine cr (F.FK.cls _ _ b) λo j k l=>?_;obtain⟨p,Fr⟩:=R.fr;refine zt rfl g i M (F.name R e (F.FK.Gl c) (Hr c) λq=>?_);exact bj (method_of_cls Fr F.X (F.FK.ga c) (cls_val Fr F.X j k l rfl (zu F d (F.FK.aX _ _ _ b).2.2 .nil S (R.toks _) T)))
theorem Hs(F:bg Z){h:Hp}{m:M}{s:ag}(R:ai Z.x h m s){o:O}{a:Nat}{f:Nm}{t:Bm}{pl:Sem Bool}{E:af->ag->Prop}{Q:af×List af->ag->Prop}(T:h a=some o)(V:eP look o a f (.bi t))(q:Q (uW t,[.ref a]) s):
  zi t=.ref a/\aL Z.M Z.A (xe (.ref a) (nm f) pl) Q E s:=by
 cases V with
 |iB =>
  refine bZ (R.list T) λb c S W=>?_;exact⟨rfl,getMethod_builtin (aq _ S rfl) PySem.F.plainAttrs_list Dl PySem.F.type_list_append (λa e=>by injection e with e;refine rF e ?_;exact(aq _ S rfl)) q⟩
 |i6 =>
  have S:=(R.bl T).1;exact⟨rfl,getMethod_builtin S.typeIs Vt yU Vu (λa e=>by injection e with e;refine rF e ?_;exact(aq _ S rfl)) q⟩
 |i7 =>
  refine bZ (R.dict T) λX d S W=>?_;exact⟨rfl,getMethod_builtin (aq _ S rfl) PySem.F.plainAttrs_dict Mm PySem.F.type_dict_get (λa e=>by injection e with e;refine rF e ?_;exact(aq _ S rfl)) q⟩
theorem Vz{M:cV}{A:bk}{s:ag}:∀ {t:Bm},kQ M A (uW t) s
 |.iB _=>kY |.i6 _=>kY |.i7 _=>kY |.kD _=>kY
theorem Hu(F:bg Z){t:Bm}{y:af}(W:VR (zi t) y){T:List X}{V:List ao}{pos:Pos}(O:gy Z T V){s:ag}{h:Hp}{m:M}{Q:PV}{E:PE}(R:ai Z.x h m s)
  (a:cY look ac (runs Z.n) Z.c T h m (λb h m=>(i8 t b).run h λv h=>Q v h m) E) :
  aj Z.M Z.A (oH pos (uW t) [y] (dZ Z.env V) []) (jg Z.x Q) (eR Z.x E) s :=
 uU O R a λc d f=>⟨Vz,aF (UT d W c f) (λS S z=>z.ok) λS S e=>e⟩
theorem VA(F:bg Z)(B:jX Z.K Z.pg Z.w Z.n){o:X}{f:Nm}{x:List X}{q:ao}{V:List ao}{p1 j:Pos}(C:me q=true)(D:fx V)(l:V.length<20)(M:p1.endLine=j.line)(G:SE Z o q)(O:gy Z x V):
  SE Z (.ay o f x) (.Call (.Attribute q (nm f) p1) V [] j):=by
 intro s h m Q E R J;refine zt C D l M (aF (G R J) (λy U z pl=>?_) λT T e=>e);refine eS z λu Y m1 p S L=>?_;rcases O6 L with ⟨i,rfl,rfl,W⟩ |⟨a,rfl,o,r,t,v,W⟩
 ·have k:=Hu (pos:=j) F (t:=.kD i) p O S W;obtain⟨t',rfl⟩:=p;exact bj (getMethod_int_bit_length k)
 ·rcases p with ⟨⟩;induction t with
  |bi t =>
   exact bj (Hs F S r v (Hu F (by refine rE ((Hs (Q:=λT T=>True) (pl:=pl) (E:=λT T=>True) F S r v tT).1) ?_;rfl) O S W)).2
  |own g b =>
   cases v with
   |own l N =>
    obtain⟨μ,Fr⟩:=S.fr;refine c4 (S.uV r) λd eL nL I H=>?_;refine ak (H.getL f) λog P A=>?_;rw[N] at A;rcases A with ⟨⟩;have c:=F.FK.aX _ _ _ l;exact bj (method_inst Fr F.X I (F.FK.get _) c.1 c.2.1 P (zu F B c.2.2 (.cons (show VR (.ref a) (.ref a) from rfl) .nil) O S W))
end
section
variable{x:Cx}{h:Hp}{m:M}{s:ag}{w:Ow}
theorem HR.VB(H:HR p h w){q q₁:Nat}{c:Cl}(j:w.T q=none/\w.W q=none)(K:w.T q₁=none/\w.W q₁=none)(O:q≠q₁):
  HR p (h.set q₁ (.inst c m0)) ⟨(w.W.set q (io [] 0)).set q₁ (go (bV c) q),w.r,λb=>if b=q₁ then q else w.δ b,λb=>if b=q₁ then some .o else if b=q then some (.d q₁) else w.T b⟩:=by
 have R:∀ {b t},w.T b=some t->b≠q₁/\b≠q:=λ{b t} e=>⟨(λz=>by rw[z,K.1] at e;exact aN e),(λz=>by rw[z,j.1] at e;exact aN e)⟩
 have F:∀ {b t},w.T b=some t->(if b=q₁ then some ik.o else if b=q then some (.d q₁) else w.T b)=some t:=λ{b t} e=>by rw[if_neg (R e).1,if_neg (R e).2];exact e
 have M:∀ {b t o},w.T b=some t->w.W b=some o->((w.W.set q (io [] 0)).set q₁ (go (bV c) q)) b=some o:=λ{b t o} e z=>((bv _ _ (R e).1).trans (bv _ _ (R e).2)).trans z;refine⟨λa z e W=>?_,λa X f e=>?_,λa z e=>?_,λa z e=>⟨F (H.tp a z e).1,M (H.tp a z e).1 (H.tp a z e).2⟩,λa z e=>⟨F (H.tr a z e).1,M (H.tr a z e).1 (H.tr a z e).2⟩,λa t e=>?_,λt l=>?_⟩
 ·rcases kO e with ⟨rfl,rfl⟩ |⟨n,e⟩
  ·exact df W
  ·refine ak (H.obj a z e W) λy T V=>?_;exact(aq y (M (H.to a z e) T) V)
 ·show ∃S n,_=some (go (bV X) (if a=q₁ then q else w.δ a))/\((w.W.set q (io [] 0)).set q₁ (go (bV c) q)) (if a=q₁ then q else w.δ a)=some (io S n)/\f9 f S/\(λb=>if b=q₁ then some ik.o else if b=q then some (.d q₁) else w.T b) (if a=q₁ then q else w.δ a)=some (.d a);rcases kO e with ⟨rfl,z⟩ |⟨n,e⟩
  ·cases z;rw[if_pos rfl];exact(fo [] 0 (bC ..) ((bv _ _ O).trans (bC ..)) .nil ((if_neg O).trans (if_pos rfl)))
  ·rw[if_neg n];refine eb (H.ins a X f e) λS k T V r g=>?_;exact(fo S k (M (H.to a _ e) T) (M g V) r (F g))
 ·rcases kO e with ⟨rfl,rfl⟩ |⟨n,e⟩
  ·exact if_pos rfl
  ·exact F (H.to a z e)
 ·show(((w.W.set q (io [] 0)).set q₁ (go (bV c) q)) a).isSome=true;by_cases z:a=q₁
  ·rw[z,bC];rfl
  ·rw[bv _ _ z];by_cases d:a=q
   ·rw[d,bC];rfl
   ·rw[bv _ _ d];exact H.tw a t (by rw[←e];show w.T a=if a=q₁ then some ik.o else if a=q then some (.d q₁) else w.T a;rw[if_neg z,if_neg d])
 ·refine fm (H.tabs t l) λu a1 a2 v i=>?_;exact(eM u (M i a1) a2 v (F i))
theorem ai.VC(R:ai x h m s)(c:Cl):
  ai x (h.set (s.heap.objs.size+1) (.inst c m0)) m {s with heap:=(s.heap.push qT).push (go (bV c) s.heap.objs.size)}:=by
 have K:∀b o,s.heap.get? b=some o->((s.heap.push qT).push (go (bV c) s.heap.objs.size)).get? b=some o:=λb o e=>dC _ (dC _ e);refine R.fr.elim λS F=>?_;refine R.own.elim λw O=>?_;refine⟨⟨S,F.keeps K⟩,R.aa.imp λT N=>⟨N.1.keeps K,N.2⟩,R.dist,⟨_,λa y e=>?_,O.hr.VB (q:=s.heap.objs.size) (q₁:=s.heap.objs.size+1) (c:=c) ⟨O.pG (a6 _),O.none (a6 _)⟩ ⟨O.pG (dc _),O.none (dc _)⟩ (cK (c7 _)),λq M=>?_⟩,R.frs.keeps K,R.ef.trans ⟨rfl,rfl,rfl⟩⟩
 ·by_cases d:a=s.heap.objs.size+1
  ·subst d;rw[show y=_ from (bq ((bC ..).symm.trans e)).symm];exact(aH (by heap_get) (gp (f6 F.ns.lt)) (Fr.kP F (dc _)))
  ·have e:=(bv _ _ d).symm.trans e;by_cases q:a=s.heap.objs.size
   ·subst q;rw[show y=_ from (bq ((bC ..).symm.trans e)).symm];exact(aH (by heap_get) (gp F.ns.lt) (Fr.kP F (a6 _)))
   ·have e:=(bv _ _ q).symm.trans e;exact⟨K _ _ (O.own a y e).1,(O.own a y e).2⟩
 ·have:=R.frs.lt M;exact((bv _ _ (cK (f6 this))).trans (bv _ _ (cK this))).trans (O.fn q M)
end
section
variable{K:bc}{pg:bJ}{w:bE}{n:Nat}{Z:Zx}
theorem VD(T:wC K C=true)(X:K.In x.g)(R:ai x h m s):kQ (av pg w) A (.ref C) s:=λE=>by
 obtain⟨b,Fr⟩:=R.fr;obtain⟨⟨c,d,e,f,V,g,i,j⟩,F,O,S,W,call,a⟩:=makes_of (M:=av pg w) (X.keeps Fr.keep) T;unfold CR;exact aw (hF V (aw (call.here (wpAny_pure rfl))))
theorem VE:nm .init = "__init__" := by decide +kernel
theorem VF(F:bg Z)(l:jX Z.K Z.pg Z.w Z.n){c:Cl}{j:List X}{T:List ao}{p1 o:Pos}(p:Z.env.kindOf (lu c)=some .globalImplicit)(q:fx T)(V:gy Z j T):SE Z (.bN c j) (.Call (.Name (lu c) p1) T [] o):=by
 intro s h m Q E R W;refine ak (Fm W) λf k W=>?_;refine r9 q (F.name R p (F.FK.Gl c) (Hr c) (uU V R W λ{G H I t J} x a y=>?_));have M:=F.FK.make c f k;have S:=F.FK.aX _ _ _ k;rw[VE] at S;refine⟨VD M F.X a,post_of (m:=t) ?_⟩;obtain⟨A,b⟩:=a.fr;have d:=F.X.keeps b.keep;refine Vs (makes_of d M) (tH d S.1) (λO=>bind_fn d O (beq_iff_eq.mp S.2.1)) ?_;refine ja (l S.2.2 (F.room rfl rfl (dy (show 1<=4 by decide) _) (dy (show 1<=50 by decide) _)) (a.VC c) (.cons (show VR (.ref _) (.ref _) from rfl) x) (y _ (a.jV (dc _)))) ?_;intro r L z
 match r,z with
 |.ok (.ret v),z =>
  refine eb z λu g B C i D=>?_;subst i;cases B;exact(t8 rfl (.ref _) g rfl C D)
 |.error e,z=>exact z
theorem VG{prog:bJ}{w:bE}{A:bk}{E:af->ag->Prop}{s:ag}{K:bc}{x C:ax}{V:Obj}{S:Option Obj}{name:az}{F:Bool}{Q:af->ag->Prop}{g a:af}(X:K.In s.heap)(I:InstAt s.heap x V C S)(O:fC K (.ref C) "__getattribute__" = some (some (.builtin "object.__getattribute__")))
  (W:findObj K C S name=some (.bind g a)) (c:fC K (.ref C) "__getattr__" = some none)
  (h:∀b:bk,b.frames=A.frames->b.handled=A.handled->b.depth<=A.depth+2->b.units<=A.units+30->aj (av prog w) b (call g [a,.ref x,.ref C]) (λv R=>handedIn v=true/\Q v R) (λe R=>False) {s with toks:=s.toks+1}) :
  aj (av prog w) A (oN (.ref x) name F) Q E s:=by
 obtain⟨i,j,d,t,os⟩:=s;have T:=I.type (M:=av prog w);unfold oN getAttrBy;refine a' (wpAny_mkText (bO (a' (T.at (a' ((tH (M:=av prog w) X O).at ?_))))));show aj _ _ (getAttrEveryday _ _ _) _ _ _;refine ar (lZ (Fw rfl (uJ PySem.F.plainObj_entry_getattr_hooked ?_)));rw[CT (by decide +kernel)];refine ar (aI (a' (T.at (a' ((looks_find (M:=av prog w) X I W).at (a' ((tH (M:=av prog w) X c).at ?_)))))));show aj _ _ (hE [a] (call g [a,.ref x,.ref C])>>=ret) _ _ _;refine ar (bO (aF (h _ rfl rfl (cP _ 2) (dy (show 1<=30 by decide) _)) (λv R z=>aI ?_) λf f z=>z.elim));show aj _ _ (handedOut v) _ _ _;refine rE (MX z.1) ?_;exact aI z.2
theorem VH{prog:bJ}{w:bE}{A:bk}{s:ag}{K:bc}{x:ax}{R:eI->ag->Prop}{p:ax}{F:ax}{M:List af}{S:af}(X:K.In s.heap)(T:wD K p "property" = some (.ref F::M))
  (h:cy (av prog w) A (.call (.ref F) ⟨[.ref x],[]⟩) R s):cy (av prog w) A (.call (.builtin "property.__get__") ⟨[.ref p,.ref x,S],[]⟩) R s:=by
 refine hO (rec_of X T) λd V O=>?_;obtain⟨W,g,a,t,os⟩:=s;refine yK MY.plain rfl KF.entry_prop (MY.check _ _ _ _ _ _ _ _ (aq _ O rfl) (KF.args_prop _ _ _) ?_);unfold Builtin.«property.__get__»;dsimp only at O;rw[dga_obj];refine ar (aI ?_);dsimp only;refine a' ((looks_field O 0 (v:=.ref F) rfl).at ?_);exact la (show ¬(e' F == eY)=true by simp) (aI (aH rfl rfl h))
theorem VI(F:eE K)(g:jX K pg w n)
  (S:∀b:bk,b.frames=A.frames->b.handled=A.handled->b.depth<=A.depth+4->b.units<=A.units+50->gY K n b x) (R:ai x h m s) (i:h a=some (.inst c G)) (j:look c f=.prop k) (q:runs n k [.ref a] h Q (λT T=>False)) :
  aj (av pg w) A (oN (.ref a) (nm f) true) (cS x m Q) J s:=by
 refine NY (F.prop _ _ _ j) λl L V a1 a2 o p=>?_;refine c4 (R.uV i) λd N P I H=>?_;obtain⟨U,Fr⟩:=R.fr;have X:=(S A rfl rfl (cP _ _) (cP _ _)).X.keeps Fr.keep;refine VG X I (MZ (F.get c)).1 (findObj_data (by refine ak (any_some (F.hd c)) λY t T=>?_;refine rE t ?_;rfl) a1 a2 o) (MZ (F.get c)).2 λb y B C D=>?_;refine kH (VH (s:={s with toks:=s.toks+1}) X p (ja (g l (S b y B (ah C (dy (by decide) _)) (ah D (dy (by decide) _))) (R.toks _) (.cons (show VR (.ref a) (.ref a) from rfl) .nil) q) λr s' z=>?_))
 match r,z with
 |.ok (.ret v),z =>
  refine Gj z λu W M E O=>?_;exact(t8 (VR.handed M) u W M E O)
 |.error e,z=>refine bZ z λx W M O=>?_;exact O.elim
theorem VJ(F:bg Z)(d:jX Z.K Z.pg Z.w Z.n){o:X}{f:Nm}{q:ao}{p:Pos}(i:me q=true)(j:SE Z o q):SE Z (.aA o f) (.Attribute q (nm f) p):=by
 intro s h m Q E R k;refine Vv i (aF (j R k) (λy D z=>?_) λM M e=>e);refine eS z λu S T l V r=>?_;refine Eb (Fp r) λa O o W t b c=>?_;subst O;rcases l with ⟨⟩;induction t with
 |val u=>exact aF (bj (Hj F.FK F.X V W b (Q:=λv h=>Q v h T) c)) (λM M z=>z.ok) λM M e=>e
 |prop g =>
  cases b with
  |prop x=>exact aF (VI F.FK d (λG S A B C=>F.room S A B C) V W x (Q:=λv h=>Q v h T) c) (λM M z=>z.ok) λM M e=>e
end
end Mine.Internal
end
section
open PySem PySem.W PyProof.Rows PySem.Calls
namespace Mine.Internal
theorem VK{a b:Int}(l:List af)(h:ww l)(F:mU d (l++[rawInt a,rawInt b,c])=some e):mU d l=some e\/e=c:=by
 fun_induction ww l with
 |case1 =>
  simp only[LW,rawInt,mU] at F;split at F
  ·refine sF F ?_;exact .inr rfl
  ·exact aN F
 |case2 a t b u x f g =>
  simp only[List.cons_append,mU] at F ⊢;split at F
  ·rename_i K;refine rE (if_pos K) ?_;exact .inl F
  ·rename_i K;refine rE (if_neg K) ?_;exact g h F
 |case3 l i j=>exact h.elim
theorem Hv{f:az->ax}(l:List (az×lA))(M:∀q∈l,q.2=.free->env.cells.lookup q.1=some (f q.1))(F:List (az×ax)):
  (forIn l F (λx r=>match x with |(name,b)=>(if b == jI then (do let a ←Du env name;a8 (qW ((name,a)::r))) else a8 (qW r):Sem (ForInStep (List (az×ax)))))) =
   a8 (((l.filter (·.2 == .free)).map λq=>(q.1,f q.1)).reverse++F):=by
 induction l generalizing F with
 |nil=>rfl
 |cons q r d =>
  have K:=λF=>d (λx O=>M x (.tail _ O)) F;obtain⟨name,b⟩:=q;rw[M0];by_cases c:b=.free
  ·subst c;have R:=M _ (.head _) rfl;have S:Du env name=a8 (f name):=by unfold Du;exact rE R rfl
   simp only[beq_self_eq_true,if_true,S,pure_bind];rw[K];simp
  ·have:(b == jI)=false:=by simpa using c
   simp only[this,wB,if_false,pure_bind];rw[K];simp[this]
theorem zv:∀ {l:List Nm} {F:List Nat},cells c l=some F->(F=l.map λx=>(cF c x).getD 0)/\∀x∈l,∃a,cF c x=some a
 |[],F,h=>by refine sF h ?_;exact⟨rfl,λR h=>dx h⟩
 |x::r,F,h=>by
  refine ak (wH.mp (show((cF c x).bind λa=>(cells c r).map (a::·))=some F from h)) λa e h=>?_;refine ak (hH.mp h) λS M K=>?_;refine rF K ?_;have i:=zv M;exact⟨by refine rE oU (rE e (rF i.1 ?_));rfl,λy O=>(cW.mp O).elim (λz=>⟨a,z▸e⟩) (i.2 y)⟩
theorem VL{sc:dK}(V:∀x a,cF c x=some a->env.kindOf (nm x)=some .cell\/env.kindOf (nm x)=some .free->env.cells.lookup (nm x)=some a)(K:∀x∈l,env.kindOf (nm x)=some .cell\/env.kindOf (nm x)=some .free)(e:cells c l=some b)
  (M:(sc.names.filter (·.2 == .free)).map (·.1)=(l.map nm).reverse):tI sc env=a8 ((l.map nm).zip b):=by
 have O:=zv e;let f:az->ax:=λy=>(env.cells.lookup y).getD 0;have R:∀x∈l,env.cells.lookup (nm x)=some (f (nm x))/\f (nm x)=(cF c x).getD 0:=λx F=>by
  refine(O.2 x F).elim λa S=>?_;have:=V x a S (K x F);exact⟨by show _=some (Dv _ _);rw[this];rfl,by show Dv _ _=_;rw[this,S]⟩
 have W:∀q∈sc.names,q.2=.free->env.cells.lookup q.1=some (f q.1):=λq X d=>by
  have T:q.1∈(sc.names.filter (·.2 == .free)).map (·.1):=eo.mpr (aq q (ty.mpr ⟨X,by rw[d];rfl⟩) rfl);rw[M,m8] at T;refine ak (eo.mp T) λx F g=>?_;rw[←g];exact(R x F).1
 have:=Hv (env:=env) (f:=f) sc.names W [];have h:((sc.names.filter (·.2 == .free)).map λq=>(q.1,f q.1)).reverse=(l.map nm).zip b:=by
  rw[show((sc.names.filter (·.2 == .free)).map λq=>(q.1,f q.1))=((sc.names.filter (·.2 == .free)).map (·.1)).map λy=>(y,f y) by rw[oG];rfl,M,tE,List.reverse_reverse,oG,O.1,List.zip_map',M1];intro x F;show(nm x,f (nm x))=(nm x,_)
  rw[(R x F).2]
 unfold tI;rw[fk,h] at this;simp only[bind_pure];exact this
section
variable{x:Cx}{h:Hp}{m:M}{s s':ag}{w:Ow}
theorem HR.record(H:HR p h w){c:ax}{oc:Obj}(n:w.T c=none/\w.W c=none):HR p h ⟨w.W.set c oc,w.r.set c oc,w.δ,λb=>if b=c then some .r else w.T b⟩:=by
 have X:∀ {b t},w.T b=some t->b≠c:=λ{b t} e z=>by rw[z,n.1] at e;exact aN e
 have F:∀ {b t},w.T b=some t->(if b=c then some ik.r else w.T b)=some t:=λ{b t} e=>by refine rE (if_neg (X e)) ?_;exact e
 have T:∀ {b t o},w.T b=some t->w.W b=some o->w.W.set c oc b=some o:=λ{b t o} e z=>(bv _ _ (X e)).trans z;have j:∀ {q K},rX w.r q K->rX (w.r.set c oc) q K:=λ{q K} z=>by
  refine c4 z λo r t a1 a2=>?_;exact(c9 o r t ((bv _ _ (X (H.tr _ _ a1).1)).trans a1) a2)
 refine⟨λa z e u=>?_,λa v A e=>?_,λa z e=>F (H.to a z e),λa z e=>⟨F (H.tp a z e).1,T (H.tp a z e).1 (H.tp a z e).2⟩,λa z e=>?_,λa t e=>?_,λt B=>?_⟩
 ·refine ak (H.obj a z e u) λy O W=>?_;refine(aq y (T (H.to a z e) O) ?_);rcases z with _ |_<;>first |exact W |skip
  refine N5 W λi name K M V R C d c f S=>?_;exact⟨i,name,K,M,V,R,C,d,c,f,S.f,S.len,S.x,j S.code⟩
 ·refine eb (H.ins a v A e) λD k O W f S=>?_;exact(fo D k (T (H.to a _ e) O) (T S W) f (F S))
 ·by_cases q:a=c
  ·subst q;exact⟨if_pos rfl,(bC ..).trans ((bC ..).symm.trans e)⟩
  ·have O:=H.tr a z ((bv _ _ q).symm.trans e);exact⟨F O.1,T O.1 O.2⟩
 ·show((w.W.set c oc) a).isSome=true;by_cases z:a=c
  ·rw[z,bC];rfl
  ·refine rE (bv _ _ z) ?_;exact H.tw a t (by refine rF e ?_;exact(if_neg z).symm)
 ·refine fm (H.tabs t B) λE a1 a2 G l=>?_;exact(eM E (T l a1) a2 (λg I e=>(G g I e).imp λJ z=>⟨z.1,j z.2⟩) (F l))
theorem HR.tab(H:HR p h w){q:ax×ax}(g:q∈dM){O:Array af}{a b:Int}{c:ax}(W:w.W q.2=some (iq O))(i:rX w.r c (py q.2)):HR p h ⟨w.W.set q.2 (iq (O++#[rawInt a,rawInt b,.ref c])),w.r,w.δ,w.T⟩:=by
 refine fm (H.tabs q g) λF j X l d=>?_;have:F=O:=by rw[j] at W;cases W;rfl
 subst this;have K:∀ {z t o},w.T z=some t->t≠.t->w.W z=some o->w.W.set q.2 (iq (F++#[rawInt a,rawInt b,.ref c])) z=some o:=λ{_ t o} e n z=>(bv _ _ (pB e d n)).trans z;refine⟨λa z e r=>?_,λa v A e=>?_,H.to,λa z e=>⟨(H.tp a z e).1,K (H.tp a z e).1 (λz=>nomatch z) (H.tp a z e).2⟩,λa z e=>⟨(H.tr a z e).1,K (H.tr a z e).1 (λz=>nomatch z) (H.tr a z e).2⟩,λx t e=>?_,λu B=>?_⟩
 ·refine ak (H.obj a z e r) λy R S=>?_;exact(aq y (K (H.to a z e) (λz=>nomatch z) R) S)
 ·refine eb (H.ins a v A e) λC k R S D f=>?_;exact(fo C k (K (H.to a _ e) (λz=>nomatch z) R) (K f (λz=>nomatch z) S) D f)
 ·show((w.W.set q.2 _) x).isSome=true;by_cases z:x=q.2
  ·rw[z,bC];rfl
  ·refine rE (bv _ _ z) ?_;exact H.tw x t e
 ·by_cases z:u.2=q.2
  ·refine rE z ?_;refine(eM _ (bC ..) (by refine rE wY ?_;exact TriplesOk_snoc _ _ _ _ X) (λT E M=>?_) d);rw[wY] at M;rcases VK _ X M with e |e
   ·exact l T E e
   ·exact(aq c e i)
  ·refine ak (H.tabs u B) λV G I=>?_;exact(aq V ((bv _ _ z).trans G) I)
theorem ai.table(R:ai x h m s){q:ax×ax}(A:q∈dM){i:Array af}{a b:Int}{S:ax}(B:s.heap.get? q.2=some (iq i))
  (V:ti q.2 s.heap s'.heap) (K:s.heap.objs.size<=S) (W:s'.heap.CodeRec (.ref S) (py q.2)) (j:s'.heap.get? q.2=some (iq (i++#[rawInt a,rawInt b,.ref S]))) (st:d7 s s'):ai x h m s':=by
 refine R.fr.elim λD F=>?_;refine ak R.aa λE N r=>?_;refine R.own.elim λw O=>?_;refine fm (O.hr.tabs q A) λk g Q U G=>?_;have X:=O.own _ _ g;have:k=i:=by rw[X.1] at B;cases B;rfl
 subst this;refine kv W λY oc I J T l n o=>?_;injection T with T;subst T;have f:∀t∈x.p.fr,t.1≠q.2:=λt M e=>by have:=O.fn t M;rw[e,g] at this;exact cX this
 have p:x.D≠q.2:=by
  rcases R.dist with d |⟨Z,d⟩
  ·refine rE d ?_;exact X.2.1.symm
  ·exact pB (O.hr.tp _ _ d).1 G λz=>nomatch z
 have u:q.2≠S:=cK (bn (O.lt g) K);have H:=(O.hr.record (c:=S) (oc:=oc) ⟨O.pG K,O.none K⟩).tab A (a:=a) (b:=b) (c:=S) ((bv _ _ u).trans g) (fK oc I J (bC ..) n o);refine⟨⟨D,F.ns.extBut V X.2.1.symm,λb y e=>V b y (λL=>by subst L;exact absurd ((show some y=none from e.symm.trans X.2.2)) (λz=>cX z)) (F.keep b y e),F.above⟩,(aq E (N.extBut V p) r),R.dist,⟨_,λz y e=>?_,H,λt M=>?_⟩,λt M=>⟨?_,(R.frs t M).2⟩,R.ef.trans st⟩
 ·by_cases v:z=q.2
  ·subst v;rw[show y=_ from (bq ((bC ..).symm.trans e)).symm];exact⟨j,X.2⟩
  ·have e:=(bv _ _ v).symm.trans e;by_cases C:z=S
   ·subst C;rw[show y=_ from (bq ((bC ..).symm.trans e)).symm];exact(aH l (gp (bn F.ns.lt K)) (Fr.kP F K))
   ·have e:=(bv _ _ C).symm.trans e;exact⟨V _ _ v (O.own z y e).1,(O.own z y e).2⟩
 ·exact((bv _ _ (f t M)).trans (bv _ _ (cK (bn (R.frs.lt M) K)))).trans (O.fn t M)
 ·refine((R.frs t M).1).elim λP e=>?_;exact⟨P,V _ _ (f t M) e⟩
theorem ai.clos(R:ai x h m s){a:Nat}{f:Fn}{K:List Nat}(e:h a=some (.clos f K)):
  ∃i name g b j d l k c y,mf i b j d=true/\f=.lam i/\K.length=(ac i).length/\y=CQ name g b j d (((ac i).map nm).zip K) l c k/\s.heap.get? a=some y/\s.heap.CodeRec (.ref c) g:=by
 refine R.own.elim λw O=>?_;refine N9 (O.hr.obj a _ e rfl) λy M i name g b j d l k c S F=>?_;refine c4 F.code λT V t W X=>?_;exact⟨i,name,g,b,j,d,l,k,c,y,S,F.f,F.len,F.x,(O.own _ _ M).1,c,T,V,t,rfl,(O.own _ _ (O.hr.tr _ _ W).2).1,X⟩
end
def u8(K:bc)(O:bJ)(w:bE)(n:Nat):Prop :=
 ∀ {f:Fn} {A:bk} {x:Cx} {s:ag} {h:Hp} {m:M} {a:Nat} {F:List Nat} {Q:V->Hp->Prop} {E:Ex->Hp->Prop},gY K n A x->ai x h m s->h a=some (.clos f F)->runs n f (F.map .ref) h Q E->cy (av O w) A (.call (.ref a) ⟨[],[]⟩) (mh (cS x m Q) (u7 x m E)) s
section
variable{Z:Zx}
theorem VM(F:bg Z)(e:u8 Z.K Z.pg Z.w Z.n){y:Nm}{p1 g:Pos}(j:Z.env.kindOf (nm y)=some .local):SE Z (.lY y) (.Call (.Name (nm y) p1) [] [] g):=by
 intro s h m Q E R K;have K:(match mget m y with |.some (.ref a)=>∃f T,h a=.some (.clos f T)/\runs Z.n f (T.map .ref) h (λv h=>Q v h m) λx h=>E x h m |_=>False):=K;refine ak R.aa λq N r=>?_;induction b:mget m y with
 |none=>rw[b] at K;exact K.elim
 |some v =>
  rw[b] at K;rcases v with _ |_<;>first |exact K.elim |skip
  refine bZ K λf T W K=>?_;refine ak (r y _ b) λk l n=>?_;rcases n with ⟨⟩;refine r9 (λO h=>dx h) (bj (tj (tm F.kind j (by refine rE F.locs ?_;exact N) l (uI (yJ ?_))) (r4 y)));refine Ec (R.clos W) λi name X S d V t o c y O O O M p O=>?_;subst M;exact⟨Gh p rfl,post_of (e F.Hq R W K)⟩
theorem VN(F:bg Z){i:Nat}{f:kl}{b:ao}{sc:dK}{K:Pos}(hm:Z.lam.ok i f b sc=true):SE Z (.lam i) (.Lambda f b sc K):=by
 intro s h m Q E R X;refine N8 (F.pE i f b sc hm) λq T I J L l4 l5 l6 lk l7 mg N l9=>?_;have X:(match cells Z.c (ac i) with |.some g=>(Rs.new (.clos (.lam i) g)).run h λu h=>Q u h m |.none=>False):=X;induction a:cells Z.c (ac i) with
 |none=>rw[a] at X;exact X.elim
 |some g =>
 rw[a] at X;refine R.fr.elim λμ Fr=>?_;have j:=VL (sc:=sc) F.cells lk a l6;have k:g.length=(ac i).length:=by rw[(zv a).1,dq]
 have c:∃V,s.heap.get? q.2=some (iq V)/\ww V.toList/\∀K d,mU K V.toList=some d->∃S,d=.ref S:=by
  refine R.own.elim λw O=>?_;refine fm (O.hr.tabs q T) λV y P A U=>?_;exact(bG V ((O.own _ _ y).1) P (λK d e=>(A K d e).imp λU z=>z.1))
 refine cr c λV c B C=>?_;have l:∀ {s':ag} {W:Array af} {S:ax} {M D:af} {n:Tok},ai Z.x h m s'->s'.heap.get? q.2=some (iq W)->mU K W.toList=some (.ref S) ->
   jg Z.x Q (.ref s'.heap.objs.size) {s' with heap:=s'.heap.push (CQ "<lambda>" (Z.env.qual++("<lambda>" : az)) f b sc (((ac i).map nm).zip g) D S M),toks:=n}:=by
  intro s' W S M D n Y e1 e2;refine(fS (.ref _) _ m rfl ((Y.Ge (o:=.clos (.lam i) g) rfl rfl λw O=>?_).toks n) (X _ (Y.jV (a6 _))));refine fm (O.hr.tabs q T) λps0 y P A U=>?_;have:=(O.own _ _ y).1;rw[e1] at this;rcases this with ⟨⟩;refine ak (A K _ e2) λc1 G e4=>?_;injection G with G;subst G;rw[L] at e4;exact⟨i,_,_,f,b,sc,D,M,S,l4,rfl,k,rfl,e4⟩
 rw[arm_eval_Lambda,l5];refine ar (aI (ar (bO (aI ?_))));have p:s.heap.BuiltinsAt mg q.2:=by
  refine xD l9 λbm o b1 b2 b3 b4 b5 b6=>?_;exact(ri bm o b1 b2 b3 b4 (Fr.keep _ _ b5) b6)
 induction r:mU K V.toList with
 |some d =>
  obtain⟨S,rfl⟩:=C K d r;exact bj (kla_makeFunctionHit j F.glob (N.keeps Fr.keep) I (J.keeps Fr.keep) c B r p λM x n hk hsz=>l (s':={s with heap:=x}) (R.grow hk ⟨rfl,rfl,rfl⟩) (hk _ _ c) r)
 |none =>
  refine bj (kla_makeFunction j F.glob (N.keeps Fr.keep) I (J.keeps Fr.keep) c B r l7 p λS M x n hx H hlt t v=>?_);exact l (s':={s with heap:=x}) (R.table T (s':={s with heap:=x}) c hx H (L▸t) v ⟨rfl,rfl,rfl⟩) v (by refine rE wY ?_;exact codeAmong_snoc _ B r)
end
theorem zw{K F:dp}{L:ax}{o:Obj}{R:Array (Option af)}{M:az->Option af}(e:K.get? L=some o)(S:F.get? L=some {o with slots:=R})(N:K.Ns L M):F.Ns L M:=by
 refine fJ N λa T V O W X=>?_;rw[e] at O;obtain rfl:=bq O;exact(fK _ T V S W X)
section
variable{x:Cx}{h:Hp}{m:M}{s s':ag}
noncomputable def Cx.sub(x:Cx)(K:Obj)(F:ax)(s':ag):Cx:=⟨x.g,F,F,⟨x.p.ex,(x.L,K)::x.p.fr⟩,s'⟩
theorem ai.enter(R:ai x h m s){W:Obj}(d:s.heap.get? x.L=some W){X:ax}{m':M}{K:az->Option af}(T:∀b o,s.heap.get? b=some o->s'.heap.get? b=some o)
  (V:s.heap.objs.size<=X) (c:s'.heap.Ns X K) (f:MR m' K):ai (x.sub W X s') h m' s':=by
 refine R.fr.elim λg F=>?_;refine R.own.elim λw O=>?_;have S:=F.ns.lt;refine⟨⟨K,c,λb o e=>T _ _ (F.keep b o e),ah F.above (ah (aO S) V)⟩,(aq K c f),.inl rfl,⟨w,λa y e=>(aH (T _ _ (O.own a y e).1) (cK (bn (O.lt e) V)) ((O.own a y e).2.2)),O.hr,λq hq=>?_⟩,λq hq=>?_,.refl _⟩
 ·rcases cW.mp hq with rfl |hq
  ·induction e:w.W x.L with
   |none=>rfl
   |some y=>exact absurd rfl (O.own x.L y e).2.1
  ·exact O.fn q hq
 ·rcases cW.mp hq with rfl |hq
  ·refine(aH ⟨W.slots,T _ _ d⟩ (cK (bn S V)) ?_);induction e:x.g.get? x.L with
   |none=>first |rfl |exact e
   |some y=>exact absurd (fB e) (c8.mpr F.above)
  ·exact(aH ((R.frs q hq).1.imp λi e=>T _ _ e) (cK (bn (R.frs.lt hq) V)) ((R.frs q hq).2.2))
theorem ai.back{s₁ K:ag}{i:M}{x':Cx}{ex':Wm}(R:ai x h m s){V:Obj}(X:s.heap.get? x.L=some V)(b:x'.g=x.g)(j:x'.p=⟨ex',(x.L,V)::x.p.fr⟩)(hex:∀a o,x.p.ex a=some o->ex' a=some o)
  (T:ai x' k i K) (st:d7 s x'.s₀):ai {x with p:=⟨ex',x.p.fr⟩} k m K:=by
 obtain⟨I,J,L,P,l⟩:=x';subst b j;obtain⟨n,F⟩:=R.fr;refine ak R.aa λc N r=>?_;obtain⟨w,O⟩:=R.own;obtain⟨t,u⟩:=T.fr;obtain⟨v,S⟩:=T.own;obtain⟨⟨Q,f⟩,A,b⟩:=T.frs (x.L,V) (.head _);refine⟨⟨n,zw X f F.ns,u.keep,F.above⟩,(aq c ?_ r),R.dist.imp id λz=>z.imp λo=>hex _ o,⟨v,λa y e=>(aH ((S.own a y e).1) (λq=>?_) ((S.own a y e).2.2)),S.hr,λq W=>S.fn q (.tail _ W)⟩,λq W=>⟨(T.frs q (.tail _ W)).1,(R.frs q W).2⟩,(R.ef.trans st).trans T.ef⟩
 ·rcases R.dist with d |⟨o,d⟩
  ·show K.heap.Ns x.D c;rw[d] at N ⊢;exact zw X f N
  ·have B:=(O.own x.D o (O.hr.tp x.D o d).2).1;have C:=(S.own x.D o (S.hr.tp x.D o (hex _ _ d)).2).1;refine fJ N λU D E g G H=>?_;rw[B] at g;obtain rfl:=bq g;exact(fK _ D E C G H)
 ·have:=S.fn (x.L,V) (.head _);rw[q] at e;exact absurd (e.symm.trans this) (λz=>cX z)
end
theorem VO:mW "bytes_iterator" "__iter__" "bytes_iterator.__iter__" :=
 .of (owner := "bytes_iterator") (n := "__iter__") (by rw[eJ,eK];kernel_rfl) (by decide +kernel) (by decide +kernel) (by decide +kernel)
  (by first |exact .inl (by decide +kernel) |exact .inr (by decide +kernel)) (by rw[lG];kernel_rfl)
theorem VP:Lu.lookup (Lv ['r','o','t','a','r','e','t','i','_','s','e','t','y','b'].reverse)=some Manifest.sig_bytes_iterator:=by kernel_rfl
theorem VQ:fZ (.type "bytes_iterator") "__next__" = a8 (some (.builtin "bytes_iterator.__next__")):=by rw[eJ,eK];kernel_rfl
theorem Hw:fZ (.type "tuple_iterator") "__next__" = a8 (some (.builtin "tuple_iterator.__next__")):=by rw[eJ,eK];kernel_rfl
theorem VS:fZ (.type "range_iterator") "__next__" = a8 (some (.builtin "range_iterator.__next__")):=by rw[eJ,eK];kernel_rfl
theorem VT:gq table "bytes_iterator.__iter__" = some Builtin.«dict_keyiterator.__iter__» :=
 wN (id' := "dict_keyiterator.__iter__") (by kernel_rfl) (by first |rfl |decide +kernel |(unfold wO;simp +decide [wP])) (by decide +kernel) (by kernel_rfl)
theorem Hx:gq table "tuple_iterator.__iter__" = some Builtin.«dict_keyiterator.__iter__» :=
 wN (id' := "dict_keyiterator.__iter__") (by kernel_rfl) (by first |rfl |decide +kernel |(unfold wO;simp +decide [wP])) (by decide +kernel) (by kernel_rfl)
theorem VU:gq table "range_iterator.__iter__" = some Builtin.«dict_keyiterator.__iter__» :=
 wN (id' := "dict_keyiterator.__iter__") (by kernel_rfl) (by first |rfl |decide +kernel |(unfold wO;simp +decide [wP])) (by decide +kernel) (by kernel_rfl)
theorem VV(a:af):fD "bytes_iterator.__iter__" ⟨[a],[]⟩:=by
 unfold fD;refine rE (mX (id := "bytes_iterator.__iter__") (n:=['_','_','r','e','t','i','_','_']) (o:=['r','o','t','a','r','e','t','i','_','s','e','t','y','b']) (by kernel_rfl) VP) ?_;kernel_rfl
section
variable{pg:bJ}{w:bE}{A:bk}{s:ag}{Er:af->ag->Prop}
theorem sd{T id F:String}{Q:af->ag->Prop}(O:s.heap.get? I=some o)(e:o.cls=.type T)(M:mW T "__iter__" id)(R:gq table id=some Builtin.«dict_keyiterator.__iter__»)(S:fD id ⟨[.ref I],[]⟩)
  (V:fZ (.type T) "__next__" = a8 (some (.builtin F))) (q:Q (.ref I) s):aL (av pg w) A (tz (.ref I)) Q Er s:=by
 have K:s.TypeIs (.ref I) T:=(aq o O e)
 refine wpAny_pyIter_slot K M (wV M K R ?_ S);show aL _ _ (ret (.ref I)) _ _ s;exact wpAny_pure ⟨_,rfl,T,_,K,V,q⟩
theorem VW{I:ax}{Q:af->ag->Prop}(M:It h y v c P)(F:s.heap.get? I=some o)(K:P i o)(q:Q (.ref I) s):aL (av pg w) A (tz (.ref I)) Q Er s:=by
 induction M with
 |bytes b=>exact sd F K.1 VO VT (VV _) VQ q
 |fM=>exact sd F K.1 M2 Hx (M3 _) Hw q
 |list a=>exact sd F K.1 slot_listiter_iter entry_listiter_iter (args_listiter_iter _) slot_listiter_next.lookup q
 |tup a=>exact sd F K.1 M2 Hx (M3 _) Hw q
 |range a=>exact sd F (by exact rE K rfl) PySem.F.slot_range_iterator_iter VU (PySem.F.args_range_iterator_iter_1 _) VS q
end
section
variable{x:Cx}{h:Hp}{m:M}{s s':ag}
theorem ai.adopt(R:ai (x.bw q y) h m s)(M:x.p.ex q=none)(S:o.jU=false)(T:x.D≠q)(V:∀r,OB r q y o):ai x (h.set q o) m s:=by
 refine R.own.elim λw O=>?_;have F:=(O.hr.tp q y (bC ..)).2;refine⟨R.fr,R.aa,?_,⟨_,λa z e=>?_,(O.hr.release M).put (q:=q) (y:=y) (o:=o) (.inl ⟨if_pos rfl,if_pos rfl⟩) S (V _),λt K=>?_⟩,R.frs,R.ef⟩
 ·rcases R.dist with d |⟨b,d⟩
  ·exact .inl d
  ·exact .inr ⟨b,(eA _ T).symm.trans d⟩
 ·by_cases c:a=q
  ·subst c;rw[show z=y from (bq ((bC ..).symm.trans e)).symm];exact O.own a y F
  ·have e:=(bv _ _ c).symm.trans e;exact O.own a z ((show(if a=q then none else w.W a)=w.W a from if_neg c).symm.trans e)
 ·have c:t.1≠q:=λe=>by have:=O.fn t K;rw[e,F] at this;exact cX this
  exact(bv _ _ c).trans ((show(if t.1=q then none else w.W t.1)=w.W t.1 from if_neg c).trans (O.fn t K))
theorem ai.forget(R:ai x h m s):ai x h m0 s:=⟨R.fr,R.aa.imp λF N=>⟨N.1,λx v e=>aN e⟩,R.dist,R.own,R.frs,R.ef⟩
theorem ai.sameBut(T:x.D=x.L)(R:ai x h m s){K:az->Option af}(M:Dw x.L s.heap s'.heap)(N:s'.heap.Ns x.L K)(st:d7 s s'):ai x h m0 s':=by
 refine R.fr.elim λV F=>?_;refine⟨⟨K,F.set N M⟩,(aq K (by refine rE T ?_;exact N) (λx v e=>aN e)),R.dist,R.own.imp λw O=>⟨λa y e=>⟨(M.2 a (O.own a y e).2.1).trans (O.own a y e).1,(O.own a y e).2⟩,O.hr,O.fn⟩,λq W=>?_,R.ef.trans st⟩;obtain⟨⟨X,e⟩,S,b⟩:=R.frs q W;exact(aH ⟨X,(M.2 _ S).trans e⟩ S b)
end
theorem VX{M:cV}{A:bk}{E:af->ag->Prop}{s:ag}{c:Prop}[Decidable c]{F:Pos}{k:PUnit->Sem a}{Q:a->ag->Prop}(h:aj M A (k ()) Q E s):
  aj M A (if c then (jE F>>=k) else k ()) Q E s:=by
 split
 ·exact ar (iD h)
 ·exact h
theorem VY{M:cV}{A:bk}{E:af->ag->Prop}{s:ag}{F:Env}{e:ao}{scope:dK}{n:Pos}{first:Sem af}{g:wv}{y:List wv}{u:List (az×ax)}{Q:af->ag->Prop}
  (o:clausesOf e=g::y) (z:∀x,MP g.iter F x=a8 x) (W:tI scope F=a8 u)
  (X:scope.kind=.function) (K:∀x∈scope.names,x.1≠(".0" : az)->x.2=.local->scope.names.lookup x.1=some .local)
  (h:aj M A first (λx O=>aj M A (tz x) (λv R=>aj M A (newList []) (λb S =>
   aj M A (BO scope F.globals u [] F.qual none .none (some F)) (λcenv T =>
    cy M (A.mark none) (.compStart e 0 v b {cenv with scope:=xf scope F}) (k9 λV c=>∃m,c.heap.Ns cenv.locals m/\∀a p,a.Ns cenv.locals p->Dw cenv.locals c.heap a->Q b {c with heap:=a}) T) E S) E R) E O) E s) :
  aj M A (M4 e scope F n (newList []) false first) Q E s:=by
 unfold M4;refine rE W (rE o ?_);refine ar (aF h (λx O d=>ar (iD (a' (cR (z x) ?_)))) λV V a=>a);refine ar (bO (aF d (λv R i=>VX (ar (aF i (λb S j=>ar (aI (ar (aF j (λcenv T k=>?_) λV V a=>a)))) λV V a=>a))) λV V a=>a));dsimp only;have B:∀x∈(scope.names.filter λx=>(x.2 == .local||x.2 == .cell)&&x.1 != (".0" : az)).reverse,x.2=.local ->
   Env.kindOf {cenv with scope:=xf scope F} x.1=some .local:=λx w C=>lookup_relabel_local (K x (ty.mp (m8.mp w)).1 (bne_iff_ne.mp (an (ty.mp (m8.mp w)).2).2) C)
 refine bO (ar (Fu (bO (Fv (h:=none) rfl (ja k λr c l=>?_) aN))));induction r with
 |ok f =>
  refine ak l λm D l=>?_;exact ar (bO (bj (wpAny_comp_letGo (cenv:={cenv with scope:=xf scope F}) X _ c m B D λa p q t=>aI (l a p q t))))
 |error x=>exact l.elim
theorem VZ{M:bJ}{w:bE}{A:bk}{R:eI->ag->Prop}{s:ag}{T F iter:ao}{V:List ao}{O:List wv}{K:dK}{W:Pos}{a X:af}{S:Env}
  (h:∀ {Q:af->ag->Prop} {c:af->ag->Prop},Q a s->aL (av M w) A (tz a) Q c s)
  (b:cy (av M w) A (.compLoop (.ListComp T (⟨F,iter,V,0⟩::O) K W) 0 a X S) R s) :
  cy (av M w) A (.compStart (.ListComp T (⟨F,iter,V,0⟩::O) K W) 0 a X S) R s:=by
 refine fw ?_;show aj _ A ((compStart (.ListComp T (⟨F,iter,V,0⟩::O) K W) 0 a X S).onRaise (λx=>do m9 x S;jE theWindowsPlace)) _ _ s;refine pM ?_;unfold compStart;show aj _ _ (ask>>=_) _ _ s;refine a' (wpAny_askSetting ?_);split
 ·first
   |exact ar (aI (aI (Dx rfl ⟨rfl,b⟩)))
   |exact aI (Dx rfl ⟨rfl,b⟩)
 ·refine ar (yi ?_);show aj _ _ (jE iter.pos>>=_) _ _ s;exact ar (iD (a' (h (aI (Dx rfl ⟨rfl,b⟩)))))
theorem zx(x:Cx){a b:ax}(y z:Obj)(h:a≠b):(x.bw a y).bw b z=(x.bw b z).bw a y:=by
 unfold Cx.bw Pt.set;congr 2;funext c;show(if c=b then some z else if c=a then some y else x.p.ex c)=(if c=a then some y else if c=b then some z else x.p.ex c)
 by_cases d:c=a
 ·subst d;exact rE (if_neg h) (rE (if_pos rfl) (rE (if_pos rfl) rfl))
 ·exact rE (if_neg d) (rE (if_neg d) rfl)
noncomputable abbrev dj(F:Array af)(n:Nat):Obj:={cls:=.type "list",data:=.seq F n}
section
variable{Z:Zx}
def zy(Z:Zx)(K:Hp)(v:V)(O:X)(x:Nm)(R:X)(M:List V)(h:Hp)(S:List V)(T:List V->Hp->Prop):Prop :=
 nD (gW K v) (λw h q=>ev look ac (runs Z.n) Z.c O h (bu m0 x w) (λr h m=>cD r λb=>br b (ev look ac (runs Z.n) Z.c R h m (λu h F=>q (.some u) h) λF F F=>False) (q .none h)) λF F F=>False) M h S T
def V0(Z:Zx)(F:Hp)(v:V)(T:X)(x:Nm)(O:X)(K:List V)(R:List V)(W:List V->Hp->Prop)(b:Bool)(h:Hp)(m:M):Prop :=
 br b (ev look ac (runs Z.n) Z.c O h m (λu h S=>R.length<bB/\zy Z F v T x O K h (R++[u]) W) λS S S=>False) (zy Z F v T x O K h R W)
theorem zA{K':List V->Hp->Prop}
  (hD:Z.x.D=Z.x.L) (F:bg Z) (r:VR v xv) (U:It p xv v vs P) (Y:Z.x.D≠I) (j:Z.x.D≠f) (T:I≠f) (l:Z.x.p.ex I=none) (t:Z.x.p.ex f=none)
  (hy:jd Z.env.kindOf x y=true) (A:cF Z.c x=none) (he:∀H,H.fr=Z.x.p.fr->SE (Z.pt H) ex B)
  (hc:∀H,H.fr=Z.x.p.fr->∀ {s:ag} {h:Hp} {w:V} {Q:Bool->Hp->M->Prop},ai (Z.x.pt H) h (bu m0 x w) s->ev look ac (runs Z.n) Z.c cx h (bu m0 x w) (λr h m=>cD r λb=>Q b h m) (λX X X=>False) ->
   aj Z.M Z.A (forIn C true λc r=>if r=true then do let J ←isTrue c Z.env (eval c Z.env);a8 (qW J) else a8 (qW r)) (PB (Z.x.pt H) Q) (λX X=>False) s) :
  ∀(O:List V) (i:Nat) (o:Obj) (K:Array af) (S:Nat) (W:List V) (h:Hp) (s:ag),i<=vs.length->vs.drop i=O->ai ((Z.x.bw f (dj K S)).bw I o) h m0 s->P i o ->
   bf W K.toList->W.length<=bB->zy Z p v cx x ex O h W K' ->
   cy Z.M Z.A (.compLoop (.ListComp B [⟨.Name y ps,q,C,0⟩] sc L) 0 (.ref I) (.ref f) Z.env) (k9 λX s'=>∃D W K S,ai (Z.x.bw f (dj K S)) D m0 s'/\bf W K.toList/\W.length<=bB/\K' W D) s
 |[],i,o,K,S,W,h,s,hl,hd,R,it,k,g,E=>by
  obtain⟨J,E⟩:=E;have hi:i=vs.length:=fi hl (oT.mp hd);subst hi;refine fw ?_;show aj _ Z.A ((compTurn (.ListComp B [⟨.Name y ps,q,C,0⟩] sc L) 0 (.ref I) (.ref f) Z.env).onRaise (λx=>do m9 x Z.env;qS x)) _ _ s;refine pM ?_;rw[M5];exact cg (ar (bj (zm (x:=(Z.x.bw f (dj K S)).bw I o) F.FK F.X F.handled R r U J (R.eT (bC ..)).1 it λD hk=>aI (xK h W K S (R.uX ((eA _ T).trans l) Y hk ⟨rfl,rfl,rfl⟩) k g E))))
 |u::O,i,o,K,S,W,h,s,hl,hd,R,it,k,g,E=>by
  obtain⟨J,E⟩:=E;have d:=zo hd;refine fw ?_;show aj _ Z.A ((compTurn (.ListComp B [⟨.Name y ps,q,C,0⟩] sc L) 0 (.ref I) (.ref f) Z.env).onRaise (λx=>do m9 x Z.env;qS x)) _ _ s;refine pM ?_;rw[M5];refine cg (ar (bj (zl (x:=(Z.x.bw f (dj K S)).bw I o) F.FK F.X R r U J (R.eT (bC ..)).1 it d.1 λD n val tk rv N hI' hk=>?_)));have R1:ai ((Z.x.bw f (dj K S)).bw I n) h m0 {s with heap:=D,toks:=tk}:=R.pH ((eA _ T).trans l) Y (λb y hb e=>hk b y hb e) hI' ⟨rfl,rfl,rfl⟩;have F1:bg (Z.pt ((Z.x.bw f (dj K S)).bw I n).p):=F.pt rfl;refine ar (aI ?_);rw[tB];refine ar (cg (aF (u0 (Z:=Z.pt ((Z.x.bw f (dj K S)).bw I n).p) hD hy F1 R1 rv (Q:=λD m'=>D=h/\m'=bu m0 x u) ?_) (λX s2 z=>?_) λX X e=>e))
  ·show(match cF Z.c x with |.some a=>_ |.none=>h=h/\bu m0 x u=bu m0 x u:Prop);rw[A];exact⟨rfl,rfl⟩
  refine bL z λh2 m2 R2 z3z z4z=>?_;subst z3z;subst z4z;refine ar (aF (hc ((Z.x.bw f (dj K S)).bw I n).p rfl (Q:=V0 Z p v cx x ex O W K') R2 E) (λb s3 z=>?_) λX X e=>e.elim);refine bZ z λh3 m3 R3 q3=>?_;induction b with
  |true =>
   refine ar (ar (aF (he ((Z.x.bw f (dj K S)).bw I n).p rfl R3 q3) (λxw s4 z=>?_) λX X e=>(pL e).elim));refine iw z λuw h4 m4 rw4 R4 hlt q4=>?_;have G:=(R4.eT (q:=f) (y:=dj K S) ((eA _ T.symm).trans (bC ..))).1;refine ar (bj (tv Dl (aq _ G rfl) Mo (Mp _ _) (Mq _ K S _ (by rw[←k.size];exact kZ g)) ⟨G,?_⟩));have e0:∃n',Dk (λx=>x.push xw) (dj K S)=dj (K.push xw) n':=⟨_,rfl⟩
   obtain⟨n',e0⟩:=e0;have R5:ai ((Z.x.bw f (dj (K.push xw) n')).bw I n) h4 m4 {s4 with heap:=s4.heap.update f (Dk λx=>x.push xw)}:=by
    rw[←zx Z.x _ _ T];have R4:ai ((Z.x.bw I n).bw f (dj K S)) h4 m4 s4:=by rw[zx Z.x _ _ T];exact R4
    exact R4.pH ((eA _ T.symm).trans t) j (λb y hb e=>(lJ _ _ (fH hb)).trans e) (e0▸hJ _ G rfl) ⟨rfl,rfl,rfl⟩
   exact aI (aI (aH rfl rfl (zA hD F r U Y j T l t hy A he hc O (i+1) n _ _ (W++[uw]) h4 _ d.2.2 d.2.1 R5.forget N (by rw[Mr];exact k.append (.cons rw4 .nil)) (by rw[cA];exact hlt) q4)))
  |false=>exact aI (aH rfl rfl (zA hD F r U Y j T l t hy A he hc O (i+1) n K S W h3 s3 d.2.2 d.2.1 R3.forget N k g q3))
end
theorem Hy{F:Env}(K:F.scope.kind=.function)(z:az):∀(l:List (az×lA)),(l.map λ(n,k)=>if (k == jI&&F.scope.kind == .function&&F.kindOf n == some .cell) then (n,Dy) else (n,k)).lookup z =
   (l.lookup z).map λq=>if q == .free&&F.kindOf z == some .cell then .cell else q
 |[]=>rfl
 |(n,a)::r=>by
  have M:=Hy K z r;show fY z ((if (a == jI&&F.scope.kind == .function&&F.kindOf n == some .cell)=true then (n,Dy) else (n,a))::_)=_;have O:∀(b:Bool) (l:List (az×lA)),fY z ((if b=true then (n,Dy) else (n,a))::l)=if (z == n)=true then some (if b=true then .cell else a) else fY z l:=λb l=>by
   rcases b with _ |_<;>rcases c:z == n with _ |_<;>(refine rE nd ?_;show(match z == n with |true=>_ |false=>_)=_;refine rE c ?_;rfl)
  rw[O,nd];induction c:z == n with
  |true =>
   rw[beq_iff_eq.mp c,K];rcases a with _ |_<;>cases F.kindOf n == some .cell<;>rfl
  |false=>exact M
theorem mem_of_lookup:∀ {l:List (az×lA)},l.lookup y=some q->(y,q)∈l
 |[],h=>aN h
 |(n,k)::r,h=>by
  rw[nd] at h;induction a:y == n with
  |true=>rw[a] at h;refine rE (beq_iff_eq.mp a) (rF (bq h) ?_);exact .head _
  |false=>rw[a] at h;exact .tail _ (mem_of_lookup h)
theorem zB{f:az->ax}{y:az}:∀ {l:List (az×lA)} {r:List (az×ax)},(y,jI)∈l\/fY y r=some (f y) ->
  fY y (((l.filter (·.2 == .free)).map λq=>(q.1,f q.1)).reverse++r)=some (f y)
 |[],r,h=>h.elim (λz=>dx z) id
 |(n,b)::l,r,h=>by
  have key:(y,jI)=(n,b)\/(y,jI)∈l\/fY y r=some (f y):=h.elim (λz=>(cW.mp z).elim .inl λz=>.inr (.inl z)) λz=>.inr (.inr z);induction c:b == .free with
  |true =>
   rw[List.filter_cons_of_pos (p:=λx:az×lA=>x.2 == .free) (a:=(n,b)) c,oU,wx,gS];refine zB ?_;show _\/fY y ((n,f n)::r)=_;refine rE nd ?_;induction d:y == n with
   |true=>refine rE (beq_iff_eq.mp d) ?_;exact .inr rfl
   |false=>exact key.elim (λe=>by rw[←(M6 e).1,beq_self_eq_true] at d;exact df d) id
  |false =>
   refine rE (List.filter_cons_of_neg (p:=λx:az×lA=>x.2 == .free) (a:=(n,b)) (by show ¬((b == jI)=true);rw[c];exact ko)) ?_;exact zB (key.elim (λe=>by rw[←(M6 e).2] at c;exact df c) id)
theorem V1(h:iF a b y=some .local):fY y a.names=some .local:=by
 unfold iF at h;refine ak (hH.mp h) λq e h=>?_;refine rE e ?_;rcases q with _ |_<;>first |rfl |(revert h;cases b y == some .cell<;>exact λz=>nomatch z)
theorem zC(F:z≠.local/\z≠.globalImplicit/\z≠.globalExplicit)(h:iF a b y=some z)(M:∀r∈a.names,r.2≠.cell):(y,jI)∈a.names/\(z=.cell->b y=some .cell):=by
 unfold iF at h;refine ak (hH.mp h) λq e h=>?_;have K:=mem_of_lookup e;have:=M _ K;induction q with
 |free =>
  refine⟨K,λe=>?_⟩;subst e;induction c:b y == some .cell with
  |true=>exact beq_iff_eq.mp c
  |false=>rw[c] at h;exact nomatch h
 |cell=>exact absurd rfl this
 |_=>exact absurd h.symm (by first |exact F.1 |exact F.2.1 |exact F.2.2)
noncomputable def u9(K:dK)(F:Env):List (az×ax):=((K.names.filter (·.2 == .free)).map λq=>(q.1,(F.cells.lookup q.1).getD 0)).reverse
noncomputable def compEnv(K:dK)(F:Env)(C:ax):Env:={tJ K C F.globals (u9 K F) F.qual none .none (some F) im with scope:=xf K F}
noncomputable def Zx.sub(Z:Zx)(F:dK)(K:Obj)(C:ax)(M:ag):Zx:={Z with lam:=yD Z.lam,env:=compEnv F Z.env C,x:=Z.x.sub K C M}
theorem zD{C:ax}(F:a.scope.kind=.function)(z:az):(compEnv b a C).kindOf z=iF b a.kindOf z:=Hy F z b.names
structure pN(Z:Zx)(sc:dK)(x:Nm):Prop where
 kind:sc.kind=.function
 cn:er x Z.lam.cn=false
 cell:∀r∈sc.names,r.2≠.cell
 aa:∀r∈sc.names,r.2=.local->r.1=nm x\/r.1=(".0" : az)
 free:∀r∈sc.names,r.2=.free->Z.env.kindOf r.1=some .cell\/Z.env.kindOf r.1=some .free
section
variable{Z:Zx}
theorem bg.Hz(F:bg Z){x:Nm}(h:er x Z.lam.cn=false):cF Z.c x=none:=by
 induction e:cF Z.c x with
 |none=>rfl
 |some a=>rw[F.cn x a e] at h;exact df h
theorem bg.V2(F:bg Z){K:dK}{x:Nm}(S:pN Z K x):tI K Z.env=a8 (u9 K Z.env):=by
 have M:∀q∈K.names,q.2=.free->Z.env.cells.lookup q.1=some ((Z.env.cells.lookup q.1).getD 0):=λq O e=>by
  refine(F.yN q.1 (S.free q O e)).elim λa R=>?_;refine rE R ?_;rfl
 have:=Hv (env:=Z.env) (f:=λy=>(Z.env.cells.lookup y).getD 0) K.names M [];rw[fk] at this;unfold tI;rw[bind_pure];exact this
theorem bg.sub(F:bg Z){K:dK}{x:Nm}{O:Obj}{C:ax}{X:ag}(S:pN Z K x)(T:∀g,O.data≠.fields g):bg (Z.sub K O C X):=by
 have V:∀z,(compEnv K Z.env C).kindOf z=iF K Z.env.kindOf z:=zD F.kind;have b:∀y,(compEnv K Z.env C).kindOf y=some .cell\/(compEnv K Z.env C).kindOf y=some .free->(y,jI)∈K.names:=λy h=>by
  rw[V] at h;exact h.elim (λh=>(zC (z:=.cell) (aH (nofun) (nofun) (nofun)) h S.cell).1) λh=>(zC (z:=.free) (aH (nofun) (nofun) (nofun)) h S.cell).1
 have lk:∀y,(y,jI)∈K.names->(compEnv K Z.env C).cells.lookup y=some ((Z.env.cells.lookup y).getD 0):=λy R=>by
  show fY y (u9 K Z.env)=_;unfold u9;refine rF (fk (M7 _)) ?_;exact zB (f:=λy=>(Z.env.cells.lookup y).getD 0) (.inl R)
 refine⟨S.kind,rfl,F.glob,F.jh,λM a e h=>?_,λM h=>?_,λM h=>?_,F.X,F.T,?_,F.depth,F.units,F.handled,λy h=>⟨_,lk _ (b _ h)⟩,F.cn,λW W W W h=>(nomatch h),λh=>(nomatch h),F.FK⟩
 ·have R:=b _ h;rw[show(Z.sub K O C X).env.cells.lookup (nm M)=_ from lk _ R,F.cells M a e (S.free _ R rfl)];rfl
 ·have h:iF K Z.env.kindOf (nm M)=some .local:=(V _).symm.trans h;refine rE (k8 ((S.aa _ (mem_of_lookup (V1 h)) rfl).resolve_right (SH _))) ?_;exact F.Hz S.cn
 ·have h:iF K Z.env.kindOf (nm M)=some .cell:=(V _).symm.trans h;exact F.mi M ((zC (z:=.cell) (aH (nofun) (nofun) (nofun)) h S.cell).2 rfl)
 ·refine cr F.nS λi j k c=>?_;refine(bG i j k (λe d=>⟨(c e d).1,(c e d).2.elim (λh=>.inr (bG (Z.x.L,O) (.head _) h T)) λh=>?_⟩));refine ak h λq l h=>?_;exact .inr (aq q (.tail _ l) h)
end
inductive pO(Z:Zx):X->List ao->Prop
 |all:pO Z (.bool true) []
 |one {c:X} {d:ao}:SB Z c d->pO Z c [d]
theorem V3(T:pO Z d a){s:ag}{h:Hp}{m:M}{Q:Bool->Hp->M->Prop}(R:ai Z.x h m s)(K:ev look ac (runs Z.n) Z.c d h m (λr h m=>cD r λb=>Q b h m) (λF F F=>False)):
  aj Z.M Z.A (forIn a true λc r=>if r=true then do let O ←isTrue c Z.env (eval c Z.env);a8 (qW O) else a8 (qW r)) (PB Z.x Q) (λF F=>False) s:=by
 induction T with
 |all=>exact aI (jB h m R K)
 |one T =>
  rw[M0];exact ar (ar (aF (T R K) (λb S z=>aI (aI z)) λF F e=>(pL e).elim))
theorem zE(h:(!b)=true):b=false:=by rcases b with ⟨⟩;rfl;rcases h with ⟨⟩
theorem nV(h:(a||b)=true):a=true\/b=true:=by rcases a with ⟨⟩;exact .inr h;exact .inl rfl
theorem pN.of(h:yF Z.env.kindOf Z.lam x y q a=true):pN Z a x/\md q=true/\nm x=y/\fY y a.names=some .local:=by
 have O:=an h;have R:=an O.2;have S:=an R.2;have T:=an S.2;have V:=an T.2;have K:∀r∈a.names,((r.2 != .local||(r.1 == y||r.1 == (".0" : az)))&&r.2 != .cell&&(r.2 != .free||Z.env.kindOf r.1 == some .cell||Z.env.kindOf r.1 == some .free))=true:=eX.mp V.2;have e:=seq_eq O.1;refine(dE ⟨dn V.1,zE R.1,λr F=>?_,λr F M=>?_,λr F M=>?_⟩ S.1 e (dn T.1))
 ·exact bne_iff_ne.mp (an (an (K r F)).1).2
 ·refine rE e ?_;exact(nV (an (an (K r F)).1).1).elim (λz=>absurd M (bne_iff_ne.mp z)) λz=>(nV z).imp beq_iff_eq.mp beq_iff_eq.mp
 ·exact(nV (an (K r F)).2).elim (λz=>(nV z).elim (λz=>absurd M (bne_iff_ne.mp z)) λz=>.inl (beq_iff_eq.mp z)) λz=>.inr (beq_iff_eq.mp z)
section
variable{Z:Zx}
theorem ai.u'(R:ai x h m s):∃a,s.heap.get? x.L=some a/\∀b,a.data≠.fields b:=by
 refine R.fr.elim λO F=>?_;refine fJ F.ns λo S T K M V=>?_;exact(aq o K (λb e=>by rw[M] at e;exact nomatch e))
theorem k9.to(z:k9 P r s)(h:∀ {f},P f s->a f s):k9 a r s:=by
 induction r with
 |ok f=>exact h z
 |error e=>exact z
theorem ai.V4(R:ai x h m s){q:ax}{y:Obj}(e:x.p.ex q=some y):h q=none:=by
 refine R.own.elim λw O=>?_;induction a:h q with
 |none=>rfl
 |some o=>have:=(O.hr.tp q y e).1.symm.trans (O.hr.to q o a);exact nomatch this
structure Sub(Z:Zx)(sc:dK)(x:Nm)(o oL:Obj)(I acc C:ax)(h:Hp)(s:ag):Prop where
 F:bg (Z.sub sc oL C s)
 R:ai (((Z.sub sc oL C s).x.bw acc (dj #[] 0)).bw I o) h m0 s
 CI:C≠I
 V5:C≠acc
 Ia:I≠acc
 pI:Z.x.p.ex I=none
 pa:Z.x.p.ex acc=none
 Da:Z.x.D≠acc
theorem Sub.of(q:Z.x.D=Z.x.L)(F:bg Z){d:dK}{x:Nm}(S:pN Z d x){h:Hp}{m:M}{s:ag}{T:dp}{o X:Obj}(f:ai Z.x h m s)(j:o.isFreed=false)(k:s.heap.get? Z.x.L=some X)(a:∀l,X.data≠.fields l){n:az->Option af}
  {z:Obj} (W:T.Ns ((s.heap.push o).push (dj #[] 0)).objs.size n) (c:Dw ((s.heap.push o).push (dj #[] 0)).objs.size (((s.heap.push o).push (dj #[] 0)).push z) T) :
  Sub Z d x o X s.heap.objs.size (s.heap.push o).objs.size ((s.heap.push o).push (dj #[] 0)).objs.size h {s with heap:=T}:=by
 have g:=f.r' (s':={s with heap:=s.heap.push o}) (a6 _) (λb y e=>dC _ e) (mV _ j) ⟨rfl,rfl,rfl⟩;have i:=g.1.r' (s':={s with heap:=(s.heap.push o).push (dj #[] 0)}) (y:=dj #[] 0) (a6 _) (λb y e=>dC _ e) (mV _ rfl) ⟨rfl,rfl,rfl⟩;have O:(s.heap.push o).objs.size=s.heap.objs.size+1:=Dz ..;have R:((s.heap.push o).push (dj #[] 0)).objs.size=s.heap.objs.size+2:=by rw[Dz,O]
 have V:∀b y,((s.heap.push o).push (dj #[] 0)).get? b=some y->T.get? b=some y:=λb y e=>(c.2 b (cK (fB e))).trans (dC _ e);have K:s.heap.objs.size≠(s.heap.push o).objs.size:=by refine rE O ?_;exact cK (c7 _)
 refine⟨F.sub S a,?_,by refine rE R ?_;exact gp (f6 (c7 _)),by refine rE R (rE O ?_);exact gp (c7 _),K,g.2,(eA _ K.symm).symm.trans i.2,by refine rE O ?_;exact cK (f6 f.zj)⟩;have p:ai ((((Z.x.bw s.heap.objs.size o).bw (s.heap.push o).objs.size (dj #[] 0))).sub X ((s.heap.push o).push (dj #[] 0)).objs.size {s with heap:=T}) h m0 {s with heap:=T} :=
  i.1.enter (s':={s with heap:=T}) (m':=m0) (dC _ (dC _ k)) V (a6 _) W (λx v e=>aN e)
 refine rE (zx _ _ _ K.symm) ?_;exact p
theorem V6(hD:Z.x.D=Z.x.L)(F:bg Z){O it cond:X}{x:Nm}{e q:ao}{y:az}{p1 B:Pos}{T:List ao}{K:dK}(hm:yF Z.env.kindOf Z.lam x y q K=true)(D:SE Z it q)
  (V:∀c C s' b,b.fr=(Z.sub K c C s').x.p.fr->bg ((Z.sub K c C s').pt b)->SE ((Z.sub K c C s').pt b) O e)
  (hc:∀c C s' b,b.fr=(Z.sub K c C s').x.p.fr->bg ((Z.sub K c C s').pt b)->pO ((Z.sub K c C s').pt b) cond T):SE Z (.comp O x it cond) (.ListComp e [⟨.Name y p1,q,T,0⟩] K B):=by
 intro s h m Q E R hq;refine tW (pN.of hm) λS G W d=>?_;rw[eval_ListComp];refine VY rfl (λzz=>Hl G) (F.V2 S) S.kind (λr f n e=>by rw[(S.aa r f e).resolve_right n,W];exact d) (aF (D R hq) (λv M z=>?_) λzz zz e=>e);refine t5 z λu h1 H r1 A vs g q1=>?_;obtain⟨P,g⟩:=g.it v;refine bj (zk F.FK F.X A r1 g λo hf i=>bj (Ma (bj (DA (s:={M with heap:=(M.heap.push o).push (dj #[] 0)}) (λr f=>S.cell r f) (λr f=>dx f) (λI j J=>?_) S.kind))));refine ak A.u' λc eL L=>?_;have U:=Sub.of hD F S A hf eL L j J;have hA:Z.A.mark none=Z.A:=by rcases Z.A with ⟨⟩;rfl
 rw[hA];have N:jd (compEnv K Z.env ((M.heap.push o).push (dj #[] 0)).objs.size).kindOf x y=true:=by
  unfold jd;rw[zD F.kind,W,pz];unfold iF;rw[d];rfl
 refine VZ (VW g (U.R.eT (bC ..)).1 i) (ja (zA (Z:=Z.sub K c _ {M with heap:=I}) (K':=λY h=>(Rs.new (.list Y)).run h λu h=>Q u h H) rfl U.F r1 g U.CI U.V5 U.Ia U.pI U.pa N (F.Hz S.cn)
  (λb k=>V _ _ _ b k (U.F.pt k)) (λb k=>V3 (Z:=(Z.sub K c _ {M with heap:=I}).pt b) (hc _ _ _ b k (U.F.pt k))) vs 0 o #[] 0 [] h1 _ (ca _) rfl U.R i .nil (ca _) q1) λr s' z=>?_)
 refine k9.to z λz=>?_
 refine kv z λh2 us ys nn R3 hus l kq=>?_;obtain⟨⟨μ3,F3⟩,_⟩:=id R3;refine(aq μ3 F3.ns (λp m'' t w=>?_));have R4:=R3.sameBut (s':={s' with heap:=p}) rfl w t ⟨rfl,rfl,rfl⟩;have R5:ai (Z.x.bw (M.heap.push o).objs.size (dj ys nn)) h2 H {s' with heap:=p}:=A.back (s₁:=M) (x':=(Z.sub K c ((M.heap.push o).push (dj #[] 0)).objs.size {M with heap:=I}).x.bw (M.heap.push o).objs.size (dj ys nn)) eL rfl rfl (λa y e=>(eA _ (λz=>by rw[z,U.pa] at e;exact aN e)).trans e) R4 ⟨rfl,rfl,rfl⟩;exact(fS (.ref _) _ H rfl (R5.adopt (o:=.list us) U.pa rfl U.Da λr=>(cb _ _ rfl hus l)) (kq _ (R5.V4 (bC ..))))
end
section
variable{kd:az->Option lA}
theorem V7{F:List Nm}:∀ {vs:List V} {m K:M},bindAll F vs m=some K->vs.length=F.length:=by
 induction F with
 |nil =>
  intro vs m K e;induction vs with
  |nil=>rfl
  |cons _ _=>exact aN e
 |cons y F a =>
  intro vs m K e;induction vs with
  |nil=>exact aN e
  |cons u vs=>exact congrArg w7 (a (vs:=vs) e)
theorem HA(h:mget (bu m x v) y=some w):(x=y/\w=v)\/mget m y=some w:=by
 rw[nR] at h;induction e:nb x y with
 |true=>rw[e] at h;exact .inl ⟨eO e,(bq h).symm⟩
 |false=>rw[e] at h;exact .inr h
theorem V8{F:List Nm}:∀ {vs:List V} {m K:M},bindAll F vs m=some K->∀ {x:Nm} {v:V},mget K x=some v->mget m x=some v\/x∈F:=by
 induction F with
 |nil =>
  intro vs m K e x v h;induction vs with
  |nil=>refine sE e ?_;exact .inl h
  |cons _ _=>exact aN e
 |cons y F a =>
  intro vs m K e x v h;induction vs with
  |nil=>exact aN e
  |cons u vs=>exact(a (vs:=vs) e h).elim (λO=>(HA O).elim (λz=>.inr (z.1▸.head _)) .inl) λO=>.inr (.tail _ O)
inductive Bd:List Nm->List af->M->M->Prop
 |nil {m:M}:Bd [] [] m m
 |cons {y:Nm} {ps:List Nm} {xs:List af} {m m':M} {u:V} {val:af}:VR u val->Bd ps xs (bu m y u) m'->Bd (y::ps) (val::xs) m m'
theorem Bd.of(r:bf a b):∀ {F:List Nm} {m K:M},bindAll F a m=some K->Bd F b m K:=by
 induction r with
 |nil =>
  intro F m K e;induction F with
  |nil=>refine rE (bq (show some m=some K from e)) ?_;exact .nil
  |cons y F=>exact aN e
 |cons r _ c =>
  intro F m K e;induction F with
  |nil=>exact aN e
  |cons y F=>exact .cons r (c e)
theorem HB(b:Bd ps xs m d):∀ {μ:az->Option af},(∀x v,mget m x=some v->kd (nm x)=some .local->∃a,μ (nm x)=some a/\VR v a) ->
  ∀x v,mget d x=some v->kd (nm x)=some .local->∃a,bindL kd ((ps.map nm).zip xs) μ (nm x)=some a/\VR v a:=by
 induction b with
 |nil=>exact id
 | @cons y ps xs m d u a f _ g =>
  intro μ h x v R K;refine g (μ:=if kd (nm y)=some .local then λz=>if z=nm y then some a else μ z else μ) (λx v M K=>?_) x v R K;by_cases z:nm x=nm y
  ·refine rF z (rE (if_pos K) ?_);rw[k8 z,nR,o7] at M;exact(aq a (if_pos rfl) (bq M▸f))
  ·refine ak (h x v ((HA M).resolve_left λe=>z (congrArg nm e.1.symm)) K) λF O S=>?_;refine(aq F ?_ S);by_cases c:kd (nm y)=some .local
   ·refine rE (if_pos c) ?_;exact(if_neg z).trans O
   ·refine rE (if_neg c) ?_;exact O
theorem V9(b:Bd d f m g):∀ {γ:az->Option af},(∀x,kd (nm x)≠some .local->jT (mget m x) (γ (nm x)))->∀x,kd (nm x)≠some .local->jT (mget g x) (bindC kd ((d.map nm).zip f) γ (nm x)):=by
 induction b with
 |nil=>exact id
 | @cons y d f m g u a i _ j =>
  intro γ h x F;refine j (γ:=if kd (nm y)=some .local then γ else λz=>if z=nm y then some a else γ z) (λx F=>?_) x F;rw[nR];induction z:nb y x with
  |true =>
   rw[←eO z] at F ⊢;rw[if_neg F];exact(aq a (if_pos rfl) i)
  |false =>
   by_cases c:kd (nm y)=some .local
   ·rw[if_pos c];exact h x F
   ·rw[if_neg c];show jT (mget m x) (if nm x=nm y then some a else γ (nm x));rw[if_neg λe=>ue z (k8 e).symm];exact h x F
end
noncomputable def pP(F vars:List Nm)(m:M):M:=(m.map λp=>(p.1,match er p.1 F with |true=>none |false=>p.2))++vars.map λx=>(x,none)
theorem zF:∀ {vars:List Nm},mget (vars.map λx=>(x,(none:Option V))) x=none
 |[]=>rfl
 |y::r=>by
  show(match nb y x with |true=>none |false=>mget (r.map λx=>(x,none)) x)=_;refine rE zF ?_;cases nb y x<;>rfl
theorem HC:∀ {m:M},mget (pP a vars m) x=some v->mget m x=some v/\er x a=false
 |[],h=>by
  have h:mget (vars.map λx=>(x,(none:Option V))) x=some v:=h;rw[zF] at h;exact aN h
 |p::r,h=>by
  have h:(match nb p.1 x with |true=>(match er p.1 a with |true=>none |false=>p.2) |false=>mget (pP a vars r) x)=some v:=h;show(match nb p.1 x with |true=>p.2 |false=>mget r x)=some v/\_;induction e:nb p.1 x with
  |true =>
   rw[e] at h;refine rF (eO e) ?_;induction b:er p.1 a with
   |true=>rw[b] at h;exact aN h
   |false=>rw[b] at h;exact⟨h,rfl⟩
  |false=>rw[e] at h;exact HC h
theorem V'(F:d.frees=[])(q:i9 look ac (runs n) d b h Q E):
  ∃a,bindAll d.params (b++d.dG.drop (d.dG.length+b.length - d.params.length)) m0=some a /\
   nF a d.cB h [] λh c=>aE look ac (runs n) c d.body h (pP d.cB d.vars a) (fQ Q) (fE E):=by
 unfold i9 at q;rw[F] at q;have q:(match bindAll d.params (b++d.dG.drop (d.dG.length+b.length - d.params.length)) m0 with
  |.some a=>(match d.cB with
   |[]=>aE look ac (runs n) [] d.body h (a++d.vars.map λx=>(x,none)) (fQ Q) (fE E)
   |cv=>nF a cv h [] λh c=>aE look ac (runs n) c d.body h ((a.map λp=>(p.1,match er p.1 cv with |true=>.none |false=>p.2))++d.vars.map λx=>(x,none)) (fQ Q) (fE E))
  |.none=>False):=q
 induction e:bindAll d.params (b++d.dG.drop (d.dG.length+b.length - d.params.length)) m0 with
 |none=>rw[e] at q;exact q.elim
 |some a =>
  rw[e] at q;refine(aq a rfl ?_);induction f:d.cB with
  |nil =>
   rw[f] at q;show aE _ _ _ _ _ _ (pP [] d.vars a) _ _;rw[show pP [] d.vars a=a++d.vars.map λx=>(x,none) from congrArg (·++_) (List.map_id _)];exact q
  |cons x r=>rw[f] at q;exact q
noncomputable def va(F:M):List (Nm×ax)->Hp->Hp
 |[],h=>h
 |(x,a)::r,h=>va F r (h.set a (.cell (mget F x)))
theorem Wa{F:List Nm}:∀ {h:Hp} {c:Cs} {Q:Hp->Cs->Prop},nF d F h c Q->(∀x∈F,h (f x)=none)->(F.map f).Nodup ->
  Q (va d (F.map λx=>(x,f x)) h) ((F.map λx=>(x,f x)).reverse++c):=by
 induction F with
 |nil=>intro h c Q q K M;exact q
 |cons x r g =>
  intro h c Q q K M;have q:∀a,h a=.none->nF d r (h.set a (.cell (mget d x))) ((x,a)::c) Q:=q;refine(tD.mp M).elim λR S=>?_;rw[oU,wx,gS];exact g (q (f x) (K x (.head _))) (λb O=>(Gd _ _ (λe=>R (eo.mpr (aq b O e)))).trans (K b (.tail _ O))) S
theorem HR.cells{hp:dp}{binds:M}{cs:List (Nm×ax)}:∀ {h:Hp} {w:Ow},HR p h w ->
  (∀x∈cs,w.T x.2=none/\w.W x.2=none/\∃ob c,hp.get? x.2=some ob/\ob.data=.cell c/\jT (mget binds x.1) c)->(cs.map (·.2)).Nodup ->
  ∃d,HR p (va binds cs h) d/\∀b y,d.W b=some y->w.W b=some y\/(b∈cs.map (·.2)/\hp.get? b=some y):=by
 induction cs with
 |nil=>exact λ{h w} H K S=>(aq w H (λb y e=>.inl e))
 |cons f g i =>
  intro h w H K S;obtain⟨x,a⟩:=f;refine NX (K _ (.head _)) λt V ob c W X j=>?_;obtain⟨k,l⟩:=tD.mp S;have T:∀y∈g,y.2≠a:=λy F e=>k (eo.mpr (aq y F e));obtain⟨d,m,R⟩:=i (H.put (q:=a) (o:=.cell (mget binds x)) (y:=ob) (.inl ⟨t,V⟩) rfl (aq c X j)) (λy F =>
   (aH ((if_neg (T y F)).trans (K y (.tail _ F)).1) ((bv _ _ (T y F)).trans (K y (.tail _ F)).2.1) ((K y (.tail _ F)).2.2))) l
  refine(aq d m (λb y e=>(R b y e).elim (λO=>?_) λO=>.inr ⟨.tail _ O.1,O.2⟩));by_cases z:b=a
  ·subst z;exact .inr ⟨.head _,(bq ((bC ..).symm.trans O))▸W⟩
  ·exact .inl ((bv _ _ z).symm.trans O)
section
variable{x:Cx}{h:Hp}{m:M}{s s':ag}
theorem ai.Wb(R:ai x h m s){g:Obj}(v:s.heap.get? x.L=some g){T:ax}{j binds:M}{W:az->Option af}{cs:List (Nm×ax)}(n:∀b o,s.heap.get? b=some o->s'.heap.get? b=some o)
  (k:s.heap.objs.size<=T) (A:s'.heap.Ns T W) (B:MR j W) (p:∀y∈cs,T<y.2/\∃ob r,s'.heap.get? y.2=some ob/\ob.data=.cell r/\jT (mget binds y.1) r) (C:(cs.map (·.2)).Nodup) :
  ai (x.sub g T s') (va binds cs h) j s':=by
 have X:ai (x.sub g T s') h j s':=R.enter v n k A B;refine R.own.elim λw O=>?_;refine R.fr.elim λH F=>?_;obtain⟨i,c⟩:∃i:Ow,ez (x.sub g T s') h s' i/\(∀b,s.heap.objs.size<=b->i.T b=none/\i.W b=none):=by
  refine(aq w ⟨λa y e=>(aH (n _ _ (O.own a y e).1) (cK (bn (O.lt e) k)) ((O.own a y e).2.2)),O.hr,λq hq=>?_⟩ (λb V=>⟨O.pG V,O.none V⟩));rcases cW.mp hq with rfl |hq
  ·induction e:w.W x.L with
   |none=>rfl
   |some y=>exact absurd rfl (O.own x.L y e).2.1
  ·exact O.fn q hq
 refine c.elim λc t=>?_;have S:∀ {b:ax},b∈cs.map (·.2)->T<b:=λV=>by refine ak (eo.mp V) λy d l=>?_;refine rF l ?_;exact(p y d).1
 have K:∀ {b:ax},b∈cs.map (·.2)->s.heap.objs.size<=b:=λV=>ah k (aO (S V));refine ak (c.hr.cells (hp:=s'.heap) (binds:=binds) (cs:=cs) (λy d=>(aH ((t _ (K (eo.mpr (aq y d rfl)))).1) ((t _ (K (eo.mpr (aq y d rfl)))).2) ((p y d).2))) C) λu D f=>?_;refine⟨X.fr,X.aa,X.dist,⟨u,λa y e=>?_,D,λq hq=>?_⟩,X.frs,X.ef⟩
 ·rcases f a y e with e |⟨e,E⟩
  ·exact c.own a y e
  ·refine(aH E (gp (S e)) ?_);exact Internal.Fr.kP F (K e)
 ·induction e:u.W q.1 with
  |none=>rfl
  |some y =>
   rcases f q.1 y e with e |⟨e,_⟩
   ·rw[c.fn q hq] at e;exact aN e
   ·have G:q.1<s.heap.objs.size:=(cW.mp hq).elim (λz=>by refine rE z ?_;exact F.ns.lt) λhq=>R.frs.lt hq;exact absurd G (c8.mpr (K e))
end
def zG(K:bc)(S:bJ)(w:bE):Prop :=
 ∀ {A:bk} {F:Env} {x:Cx} {s:ag} {h:Hp} {m:M} {y:Ex} {e:af} {O:List Env},K.In x.g->x.D=x.L->F.frame=some x.L->A.frames=some (F::O)->(∀e∈F::O,e.scope.kind=.function/\(e.frame=some x.L\/∃q∈x.p.fr,e.frame=some q.1/\∀a,q.2.data≠.fields a))->A.handled=none ->
  f' x y e h m s->aj (av S w) A (oE F e) (λR T=>f' x y e h m T) (λR R=>False) s
theorem f'.back{s s₁ F:ag}(R:ai x h m s)(S:s.heap.get? x.L=some c)
  (X:f' (x.sub c d s₁) y e f t F) (st:d7 s s₁):f' x y e f m F:=by
 refine tZ X λa M g i j k V X=>?_;have ext:∀b z,x.p.ex b=some z->(x.p.set a M).ex b=some z:=λb z K=>(bv _ _ (λz=>by rw[z,show x.p.ex a=none from V] at K;exact aN K)).trans K;refine(nz a M g i j k V (X.imp (λz=>?_) λz=>?_))
 ·exact⟨z.1,R.back (s₁:=s₁) (x':=(x.sub c d s₁).bw a M) (ex':=(x.p.set a M).ex) S rfl rfl ext z.2 st⟩
 ·refine N3 z λT O l n o p q W r=>?_;exact(xL T O l n o p q W (R.back (s₁:=s₁) (x':=((x.sub c d s₁).bw a M).bw T O) (ex':=((x.p.set a M).set T O).ex) S rfl rfl (λb z K=>(bv _ _ (λz=>by rw[z,show x.p.ex T=none from W] at K;exact aN K)).trans (ext b z K)) r st))
def HD(g:dp)(F:Env)(i:Nat)(K:kl)(b:ao)(M:dK):Prop :=
 ∃q∈dM,F.code=.ref q.1/\CodeHd g q.1 q.2/\py q.2=F.qual++("<lambda>" : az)/\mf i K b M=true/\Lg K F=([],[]) /\
  (M.names.filter (·.2 == .free)).map (·.1)=((ac i).map nm).reverse/\(∀x∈ac i,F.kindOf (nm x)=some .cell\/F.kindOf (nm x)=some .free)/\mainGlobals≠q.2/\∃a,g.Ns mainGlobals a/\g.BuiltinsAt a q.2
structure mm(K:bc)(f:Fn)(lam:gx)(o:Obj)(fd:gO)(body:List bz):Prop where
 frees:(prog f).frees=[]
 cn:∀x∈(prog f).cB,er x lam.cn=true
 look:K.lookup (dL f)=some o
 data:o.data=.func fd
 co:fd.scope.isCoroutine=false
 gen:fd.scope.isGenerator=false
 kind:fd.scope.kind=.function
 stmts:fd.body=.stmts body
 glob:fd.globals=mainGlobals
 jh:fd.builtins=im
 clos:fd.closure=[]
 code:∀h:dp,K.In h->h.CodeRec fd.code fd.qualname
 HE:∀y,fd.scope.names.lookup y≠some .free
 se:∀p∈(prog f).params,fd.scope.names.lookup (nm p)=some .local\/fd.scope.names.lookup (nm p)=some .cell
 same:je lam (λz=>fd.scope.names.lookup z) (prog f).body body=true
 args:∀(vs:List V) (xs:List af),bf vs xs->(vs++(prog f).dG.drop ((prog f).dG.length+vs.length - (prog f).params.length)).length=(prog f).params.length->∃ds,bf ((prog f).dG.drop ((prog f).dG.length+vs.length - (prog f).params.length)) ds /\
   ∀S,tK K S (mR fd ⟨xs,[]⟩)=some (((prog f).params.map nm).zip (xs++ds))
 mi:∀x∈(prog f).cB,fd.scope.names.lookup (nm x)=some .cell
 cells:∀y,fd.scope.names.lookup y=some .cell->∃x∈(prog f).cB,y=nm x
 nodup:(prog f).cB.Nodup
 laid:∀n y,fd.scope.names.lookup y=some .cell->((DB n fd.scope.names []).lookup y).isSome=true
 pE:∀(g:dp) (env:Env),K.In g->(∃p loose mean mg mb,Top p loose mean mg mb g)->env.scope=fd.scope->env.code=fd.code->env.qual=fd.qualname ++ ".<locals>." -> ∀i as b sc,lam.ok i as b sc=true->HD g env i as b sc
theorem vb{f:Nm->ax}{x:Nm}{a:ax}:∀ {F:List Nm},cF (F.map λx=>(x,f x)) x=some a->x∈F/\a=f x
 |[],h=>aN h
 |y::r,h=>by
  have h:(match nb y x with |true=>some (f y) |false=>cF (r.map λx=>(x,f x)) x)=some a:=h;induction e:nb y x with
  |true=>rw[e] at h;refine rF (eO e) ?_;exact⟨.head _,(bq h).symm⟩
  |false=>rw[e] at h;exact⟨.tail _ (vb h).1,(vb h).2⟩
theorem HF{f:Nm->ax}{x:Nm}:∀ {F:List Nm},x∈F->cF (F.map λx=>(x,f x)) x=some (f x)
 |[],h=>dx h
 |y::r,h=>by
  show(match nb y x with |true=>some (f y) |false=>cF (r.map λx=>(x,f x)) x)=_;induction e:nb y x with
  |true=>exact rE (eO e) rfl
  |false=>exact HF ((cW.mp h).resolve_left λz=>by rw[z,o7] at e;exact df e)
theorem wc:∀ {l:List (az×ax)},l.lookup y=some a->(y,a)∈l
 |[],h=>aN h
 |(n,k)::r,h=>by
  rw[nd] at h;induction b:y == n with
  |true=>rw[b] at h;refine rE (beq_iff_eq.mp b) (rF (bq h) ?_);exact .head _
  |false=>rw[b] at h;exact .tail _ (wc h)
theorem Wc{l:List (az×ax)}(h:l.Pairwise λx y=>x.2≠y.2){y z:az}{a:ax}(h1:(y,a)∈l)(h2:(z,a)∈l):y=z:=by
 induction h with
 |nil=>exact dx h1
 |cons b _ c =>
  rcases cW.mp h1 with F |h1<;>rcases cW.mp h2 with K |h2
  ·exact congrArg gT (F.trans K.symm)
  ·exact(b (z,a) h2 (by exact rF F rfl)).elim
  ·exact(b (y,a) h1 (by exact rF K rfl)).elim
  ·exact c h1 h2
noncomputable def cellAt(F:Env)(x:Nm):ax:=(F.cells.lookup (nm x)).getD 0
noncomputable def oA(F:Env)(K:List Nm):Cs:=(K.map λx=>(x,cellAt F x)).reverse
def qp(x:Cx)(l:List Env):Prop:=∀e∈l,e.scope.kind=.function/\(e.frame=some x.L\/∃q∈x.p.fr,e.frame=some q.1/\∀a,q.2.data≠.fields a)
theorem gY.vc{K:bc}{n:Nat}{A:bk}{x:Cx}(S:gY K n A x){M:Obj}(O:∀b,M.data≠.fields b){env:Env}{L':ax}{s':ag}(T:env.scope.kind=.function)(V:env.frame=some L'):
  ∃a,(A.deeper env).frames=some (env::a)/\qp (x.sub M L' s') (env::a):=by
 refine cr S.nS λa R W F=>?_;refine(aq a ?_ (λe he=>?_))
 ·show A.frames.map _=_;refine rE R ?_;rfl
 ·rcases cW.mp he with rfl |he
  ·exact⟨T,.inl V⟩
  ·exact⟨(F e he).1,(F e he).2.elim (λh=>.inr (bG (x.L,M) (.head _) h O)) λz=>z.elim λq z=>.inr (aq q (.tail _ z.1) z.2)⟩
theorem gY.deep{K:bc}{n:Nat}{A:bk}{x:Cx}(M:gY K (n+1) A x){F:Env}:(A.deeper F).depth+6*n+12<kj/\(A.deeper F).units+200*n+200<kn:=by
 have O:=M.depth;have R:=M.units;refine⟨?_,?_⟩
 ·show A.depth+1+6*n+12<kj;exact abU (m:=6*n) O
 ·show A.units+3+200*n+200<kn;exact ab0 (m:=200*n) R
theorem gY.HG{K:bc}{n:Nat}{A:bk}{x:Cx}(F:gY K n A x):A.depth<kj:=aV (ah (cP _ (6*n)) (cP _ 8)) F.depth
noncomputable def Zx.fn(K:bc)(O:bJ)(w:bE)(F:gx)(n:Nat)(c:Cs)(A:bk)(M:Env)(x:Cx):Zx:=⟨K,O,w,F,n,c,A,M,x⟩
section
variable{K:bc}{pg:bJ}{w:bE}{n:Nat}{f:Fn}{lam:gx}{o:Obj}{fd:gO}{body:List bz}
theorem mm.zH(k:eE K)(O:mm K f lam o fd body){A:bk}{x:Cx}(T:gY K (n+1) A x){i:Obj}(d:∀l,i.data≠.fields l){L a:ax}{s':ag}{F:Env}
  (V:F={tJ fd.scope L mainGlobals (DB (L+1) fd.scope.names []) (fd.qualname ++ ".<locals>.") (some a) fd.code none im with})
  (X:∀x∈(prog f).cB,F.cells.lookup (nm x)=some (cellAt F x)):bg (Zx.fn K pg w lam n (oA F (prog f).cB) (A.deeper F) F (x.sub i L s')):=by
 have W:F.scope=fd.scope:=by refine rE V ?_;rfl
 have M:F.frame=some L:=by refine rE V ?_;rfl
 have R:∀z,F.kindOf z=fd.scope.names.lookup z:=λz=>by refine rE V ?_;rfl
 refine ak (T.vc (s':=s') d (W▸O.kind) M) λr b c=>?_;have S:∀ {x a},cF (oA F (prog f).cB) x=some a->x∈(prog f).cB/\a=cellAt F x:=λ{x a} e=>by
  unfold oA at e;rw[←tE] at e;exact⟨m8.mp (vb e).1,(vb e).2⟩
 refine⟨W▸O.kind,by refine rE V ?_;rfl,by refine rE V ?_;rfl,by refine rE V ?_;rfl,λx a e m=>?_,λx e=>?_,λx e=>?_,T.X,T.T,(bG _ b (mI) c),T.deep.1,T.deep.2,T.handled,λy e=>?_,λx a e=>O.cn x (S e).1,O.pE _ F T.X T.T W (by refine rE V ?_;rfl) (by refine rE V ?_;rfl),λm=>(o6 M _ b),k⟩
 ·refine rE ((S e).2) ?_;exact X x (S e).1
 ·induction j:cF (oA F (prog f).cB) x with
  |none=>exact j
  |some a =>
   have:=(R (nm x)).symm.trans e;rw[O.mi x (S j).1] at this;exact nomatch this
 ·refine ak (O.cells _ ((R _).symm.trans e)) λy g p=>?_;refine rE (k8 p) ?_;refine⟨cellAt F y,?_⟩;show cF (oA F (prog f).cB) y=_;unfold oA;refine rF tE ?_;exact HF (m8.mpr g)
 ·rcases e with e |e
  ·refine ak (O.cells _ ((R _).symm.trans e)) λq g h=>?_;refine rE h ?_;exact⟨_,X q g⟩
  ·exact absurd ((R _).symm.trans e) (O.HE y)
end
theorem vd:∀ {l:List Nm},x∈l->er x l=true
 |[],h=>dx h
 |y::r,h=>by
  show(match nb y x with |true=>true |false=>er x r)=true;induction e:nb y x with
  |true=>rfl
  |false=>exact vd ((cW.mp h).resolve_left λz=>by rw[z,o7] at e;exact df e)
section
variable{K:bc}{pg:bJ}{w:bE}{n:Nat}{f:Fn}{lam:gx}{o:Obj}{fd:gO}{body:List bz}
theorem mm.enter(O:mm K f lam o fd body){x:Cx}{h:Hp}{m binds:M}{s:ag}{g:dp}{tk:Nat}{H:List V}{t:List af}{I:Obj}{F:Env}{C:Hp->Cs->Prop}(R:ai x h m s)(P:s.heap.get? x.L=some I)
  (i:bindAll (prog f).params H m0=some binds) (r:bf H t) (S:∀x∈(prog f).cB,F.cells.lookup (nm x)=some (cellAt F x))
  (u:g.Ns s.heap.objs.size (bindL (λz=>fd.scope.names.lookup z) (((prog f).params.map nm).zip t) λl=>none)) (c:∀b y,s.heap.get? b=some y->g.get? b=some y)
  (d:∀y a,F.cells.lookup y=some a->g.IsCell a (bindC (λz=>fd.scope.names.lookup z) (((prog f).params.map nm).zip t) (λl=>none) y)) (T:F.cells.Pairwise λx y=>x.2≠y.2) (W:∀y a,(y,a)∈F.cells->s.heap.objs.size<a)
  (q:nF binds (prog f).cB h [] C):∃J,ai (x.sub I s.heap.objs.size {s with heap:=g,toks:=tk}) J (pP (prog f).cB (prog f).vars binds) {s with heap:=g,toks:=tk}/\C J (oA F (prog f).cB):=by
 have A:=HB (kd:=λz=>fd.scope.names.lookup z) (μ:=λl=>none) (.of r i) (λx v e=>aN e);have B:=V9 (kd:=λz=>fd.scope.names.lookup z) (γ:=λl=>none) (.of r i) (λx l=>rfl);have j:((prog f).cB.map (cellAt F)).Nodup:=by
  rw[MM,MN];exact O.nodup.imp_of_mem λ{a b} D i E e=>E (k8 (Wc T (wc (S a D)) (by rw[e];exact wc (S b i))))
 have X:∀x∈(prog f).cB,s.heap.objs.size<cellAt F x:=λx Q=>W _ _ (wc (S x Q));have L:=Wa (f:=cellAt F) q (λa D=>R.jV (aO (X a D))) j;rw[fk] at L;refine(aq _ (R.Wb (s':={s with heap:=g,toks:=tk}) (binds:=binds) P c (a6 _) u (λx v p=>?_) (λz U=>?_) (by refine rE oG ?_;exact j)) L)
 ·refine(HC p).elim λp N=>?_;have Y:=(V8 i p).resolve_left λe=>aN e;refine A x v p ((O.se x Y).resolve_right λe=>?_);refine ak (O.cells _ e) λy k Z=>?_;rw[k8 Z,vd k] at N;exact df N
 ·refine ak (eo.mp U) λy k G=>?_;refine rF G ?_;refine ak (d _ _ (S y k)) λob o1 o2=>?_;exact(t8 (X y k) ob _ o1 o2 (B y (by show fY _ _≠_;refine rE (O.mi y k) ?_;nofun)))
theorem Wd(FK:eE K)(C:zG K pg w)(O:mm K f lam o fd body){A:bk}{x:Cx}{s:ag}{h:Hp}{m:M}{D:List V}{G:List af}{Q:V->Hp->Prop}{E:Ex->Hp->Prop}
  (hb:∀c A env x,bg (Zx.fn K pg w lam n c A env x)->x.D=x.L->(∀z,env.kindOf z=fd.scope.names.lookup z)->iG (Zx.fn K pg w lam n c A env x) (prog f).body body)
  (g:gY K (n+1) A x) (R:ai x h m s) (r:bf D G) (q:i9 look ac (runs n) (prog f) D h Q E) :
  cy (av pg w) A (.call (.ref (dL f)) ⟨G,[]⟩) (mh (cS x m Q) (u7 x m E)) s:=by
 refine ak (V' O.frees q) λH F q=>?_;obtain⟨μ,Fr⟩:=R.fr;have X:=g.X.keeps Fr.keep;refine ku g.T λpp I mean mg mb T=>?_;refine ak R.u' λoL J k=>?_;refine ak (O.args D G r (V7 F)) λds rd L=>?_;refine ym g.HG (X _ _ O.look) O.data O.co O.gen O.stmts (O.code _ X) ((DC (M:=av pg w) X (L _)).here ?_);refine rE O.glob (rE O.jh (rE O.clos ?_));refine M8 O.kind (λx N=>?_) (λenv i s1 hI=>?_)
 ·refine ak (eo.mp (M9 N).1) λp hp ep=>?_;refine rF ep ?_;exact(O.se p hp).imp id λh=>⟨h,O.laid _ _ h⟩
 have l:env.locals=s.heap.objs.size:=by refine rE i ?_;rfl
 have t:env.kindOf=λz=>fd.scope.names.lookup z:=by refine rE i ?_;rfl
 have u:∀x∈(prog f).cB,env.cells.lookup (nm x)=some (cellAt env x):=λx N=>by
  have:=O.laid (s.heap.objs.size+1) _ (O.mi x N);rw[←show env.cells=DB (s.heap.objs.size+1) fd.scope.names [] by refine rE i ?_;rfl] at this;obtain⟨a,ea⟩:=BS.mp this;show _=some (Dv _ _);refine rE ea ?_;rfl
 rw[t,l] at hI;obtain⟨⟨⟨P,tk,rfl⟩,U,S,hfr0⟩,j,W,d⟩:=hI;refine ak (O.enter (tk:=tk) R J F (r.append rd) u U S j W d q) λh1 R1 q1=>?_;refine⟨T.nolimit.keeps λb y e=>S b y (Fr.keep b y e),?_⟩;refine ak (g.vc (s':={s with heap:=P,toks:=tk}) k (env:=env) (L':=s.heap.objs.size) (by refine rE i ?_;exact O.kind) (by refine rE i ?_;rfl)) λfs Y v=>?_;refine yl (aF (hb _ _ _ _ (O.zH FK g k i u) rfl (λz=>congrFun t z) R1 q1) (λfl s2 z=>?_) (λe s2 z=>?_))
 ·refine fJ z λZ h2 m2 rf R2 q2=>?_;exact(cb (yg Z) h2 (by cases rf<;>first |rfl |assumption) (R.back (s₁:=s) (x':=x.sub oL s.heap.objs.size {s with heap:=P,toks:=tk}) J rfl rfl (λB B e=>e) R2 ⟨rfl,rfl,rfl⟩) q2)
 ·refine c4 z λy h2 m2 X2 q2=>?_;exact aF (C (x:=x.sub oL s.heap.objs.size {s with heap:=P,toks:=tk}) g.X rfl (by refine rE i ?_;rfl) Y v g.handled X2) (λB s3 X3=>(de y h2 (X3.back R J ⟨rfl,rfl,rfl⟩) q2)) λB B e=>e.elim
end
theorem HH:runs (n+1) f a h Q E=i9 look ac (runs n) (prog f) a h Q E:=by unfold runs;rfl
theorem HI:runs 0 f a h Q E=False:=by unfold runs;rfl
theorem HJ:∀(F:List Nat),BC (F.map .ref)=some F
 |[]=>rfl
 |a::r=>congrArg (Na (a::·)) (HJ r)
theorem HK:∀ {F:List Nm} {K:List Nat},K.length=F.length->uu F K=some (F.zip K)
 |[],[],_=>rfl
 |x::F,a::K,h=>congrArg (Na ((x,a)::·)) (HK (qQ h))
 |[],_::_,h=>nomatch h
 |_::_,[],h=>nomatch h
structure zI(i:Nat):Prop where
 body:(prog (.lam i)).body=[.ret (rV i)]
 frees:(prog (.lam i)).frees=ac i
 params:(prog (.lam i)).params=[]
 dG:(prog (.lam i)).dG=[]
 cB:(prog (.lam i)).cB=[]
 vars:(prog (.lam i)).vars=[]
theorem We:∀i,iU i 10=true->zI i
 | 0,_ | 1,_ | 2,_ | 3,_ | 4,_ | 5,_ | 6,_ | 7,_ | 8,_ | 9,_=>⟨rfl,rfl,rfl,rfl,rfl,rfl⟩
 |n+10,h=>by rw[Nat.blt_eq] at h;exact absurd h (c8.mpr (gN _ _))
theorem Wf(F:a.length=(ac i).length)(S:zI i)
  (q:i9 look ac (runs n) (prog (.lam i)) (a.map .ref) h Q E):ev look ac (runs n) ((ac i).zip a) (rV i) h m0 (λv h K=>Q v h) λx h K=>E x h:=by
 have key:aE look ac (runs n) ((ac i).zip a) (prog (.lam i)).body h m0 (fQ Q) (fE E):=by
  unfold i9 at q;rw[S.frees] at q;induction b:ac i with
  |nil =>
   rw[b] at q F;induction a with
   |nil=>rw[S.params,S.dG,S.cB,S.vars] at q;exact q
   |cons=>exact nomatch F
  |cons x r =>
   rw[b] at q F;rw[HJ] at q;have q:(match uu (x::r) a with |.some c=>aE look ac (runs n) c (prog (.lam i)).body h m0 (fQ Q) (fE E) |.none=>False):=q;rw[HK F] at q;exact q
 rw[S.body] at key;exact key
section
variable{pg:bJ}{w:bE}{A:bk}{R:eI->ag->Prop}{s:ag}
theorem Wg{F:Env}
  (h:aj (av pg w) (A.deeper F) (eval e F) (λv M=>R (.ok (.ret v)) M)
   (λT M=>aj (av pg w) (A.deeper F) (oE F T) (λV K=>R (.error T) K) (λO K=>R (.error O) K) M) s) :
  cy (av pg w) A (.expr e F) R s:=by
 refine fw ?_;show aj _ (A.deeper F) (do te;ret (←(eval e F).onRaise (oE F))) _ _ s;exact ar (yj (ar (lZ (aF h (λv M S=>aI S) λV V S=>S))))
theorem Wh(S:A.depth<kj)
  (r:s.heap.get? a=some o)
  (f:o.data=.func b) (g:b.scope.isCoroutine=false) (V:b.scope.isGenerator=false) (T:b.body=.expr d) (i:s.heap.CodeRec b.code b.qualname)
  (h:aL (av pg w) A.in1 (mR b args) (λF M =>
   aL (av pg w) A.in1 (BO b.scope b.globals b.closure F (b.qualname ++ ".<locals>.") (some a) b.code none b.builtins)
    (λW K=>K.heap.NoLimit/\cy (av pg w) A (.expr d W) R K) (λe j=>R (.error e) j) M) (λe j=>R (.error e) j) s) :
  cy (av pg w) A (.call (.ref a) args) R s:=by
 refine fw ?_;show aj _ A.in1 (qz (.ref a) args) _ _ s;unfold qz;refine a' (hF r ?_);refine kv i λc u v x q k l t=>?_;dsimp only;refine rE f ?_;show aj _ _ (wn a b args) _ _ s;unfold wn;rw[q] at h;rw[g,V,T,q];refine a' (m:=field (.ref c) 1) (jF k l t (ar (aI ?_)));exact a' (gn h (λF M X=>a' (gn X (λW K O=>a' (K3 O.1 S
  (aI (aH rfl rfl O.2)))) λn n p=>p)) λn n p=>p)
end
theorem Wi(h:BD k.params=true)(F:k.defaults=.none)(K:k.kwdefaults=.none):mR k ⟨[],[]⟩=a8 []:=by
 obtain⟨a,b,c,d,e,f,g,i,j,l,m,n,o,p,q⟩:=k;rcases F with ⟨⟩;rcases K with ⟨⟩;obtain⟨p1,M,O,R,T,S,V⟩:=c;induction p1 with
 |cons=>exact a9 h
 |nil=>induction M with
  |cons=>exact a9 h
  |nil=>induction O with
   |some=>exact a9 h
   |none=>induction R with
    |cons=>exact a9 h
    |nil=>induction S with
     |some=>exact a9 h
     |none=>rfl
theorem zJ:∀ {K:List Nm} {F:List Nat},cF (K.zip F) x=some a->((K.map nm).zip F).lookup (nm x)=some a/\er x K=true
 |[],_,h=>aN h
 |y::r,[],h=>aN h
 |y::r,b::F,h=>by
  have h:(match nb y x with |true=>some b |false=>cF (r.zip F) x)=some a:=h;show fY (nm x) ((nm y,b)::(r.map nm).zip F)=some a/\(match nb y x with |true=>true |false=>er x r)=true;refine rE nd ?_;induction e:nb y x with
  |true=>rw[e] at h;rw[eO e,beq_self_eq_true];exact⟨h,rfl⟩
  |false =>
   rw[e] at h;refine rE (beq_eq_false_iff_ne.mpr λM=>ue e (k8 M).symm) ?_;exact zJ h
theorem HL:∀ {K:List Nm} {F:List Nat},F.length=K.length->x∈K->∃a,((K.map nm).zip F).lookup (nm x)=some a
 |[],_,_,h=>dx h
 |y::r,[],c,h=>nomatch c
 |y::r,b::F,c,h=>by
  show ∃a,fY (nm x) ((nm y,b)::(r.map nm).zip F)=some a;refine rE nd ?_;induction d:nm x == nm y with
  |true=>exact⟨b,rfl⟩
  |false=>exact HL (qQ c) ((cW.mp h).resolve_left λe=>by rw[e,beq_self_eq_true] at d;exact df d)
structure sf(i:Nat)(params:kl)(body:ao)(sc:dK):Prop where
 shape:zI i
 se:BD params=true
 co:sc.isCoroutine=false
 gen:sc.isGenerator=false
 kind:sc.kind=.function
 vf:∀x∈sc.names,x.2≠.cell
 Wj:∀x∈sc.names,x.2≠.local
 free:∀y,sc.names.lookup y=some .free->∃x∈ac i,y=nm x
 same:bY (uG (ac i)) (λz=>sc.names.lookup z) (rV i) body=true
theorem sf.of(h:mf i a b c=true):sf i a b c:=by
 unfold mf at h;have M:=an h;have O:=an M.1;have R:=an O.2;have S:=an R.2;have T:=an S.2;have V:=an M.2;have W:=an V.2;have K:∀x∈c.names,(x.2 != .cell&&(x.2 != .local&&(x.2 != .free||(ac i).any λy=>seq (nm y) x.1)))=true:=eX.mp V.1;refine⟨We i O.1,R.1,zE S.1,zE T.1,dn T.2,λx F=>bne_iff_ne.mp (an (K x F)).1,λx F=>bne_iff_ne.mp (an (an (K x F)).2).1,λy X=>?_,W.2⟩;rcases nV (an (an (K _ (mem_of_lookup X))).2).2 with z |z
 ·exact absurd rfl (bne_iff_ne.mp z)
 ·refine ak (DD.mp z) λx F e=>?_;exact(aq x F ((seq_eq e).symm))
section
variable{K:bc}{pg:bJ}{w:bE}{n:Nat}
theorem sf.zH(r:eE K){i:Nat}{R:kl}{b:ao}{M:dK}(O:sf i R b M){A:bk}{x:Cx}(X:gY K (n+1) A x){p:Obj}(l:∀s,p.data≠.fields s){L a:ax}{s':ag}{F:Env}{j:List Nat}{d:az}{c:af}
  (t:j.length=(ac i).length) (V:F=tJ M L mainGlobals (((ac i).map nm).zip j) d (some a) c none im):bg (Zx.fn K pg w (uG (ac i)) n ((ac i).zip j) (A.deeper F) F (x.sub p L s')):=by
 have S:F.frame=some L:=by refine rE V ?_;rfl
 have f:F.scope=M:=by refine rE V ?_;rfl
 have T:F.cells=((ac i).map nm).zip j:=by refine rE V ?_;rfl
 have W:∀z,F.kindOf z=M.names.lookup z:=λz=>by refine rE V ?_;rfl
 refine ak (X.vc (s':=s') l (f▸O.kind) S) λv m g=>?_;have q:∀ {z},F.kindOf z≠some .cell:=λ{z} e=>O.vf _ (mem_of_lookup ((W z).symm.trans e)) rfl;refine⟨f▸O.kind,by refine rE V ?_;rfl,by refine rE V ?_;rfl,by refine rE V ?_;rfl,λx a e k=>(show F.cells.lookup (nm x)=some a by refine rE T ?_;exact(zJ e).1),λx e=>absurd rfl (O.Wj _ (mem_of_lookup ((W _).symm.trans e))),λx e=>absurd e q,X.X,X.T,(bG _ m (mI) g),X.deep.1,X.deep.2,X.handled,λy e=>?_,λx a e=>(zJ e).2,λk k k k h=>(a9 h),λh=>(a9 h),r⟩;refine ak (O.free _ ((W _).symm.trans (e.resolve_left q))) λx u o=>?_;refine rE o ?_;show ∃a,F.cells.lookup (nm x)=some a;refine rE T ?_;exact HL t u
theorem Wk(FK:eE K)(D:zG K pg w)(hs:∀Z e pe,Z.K=K->Z.pg=pg->Z.w=w->Z.n=n->bg Z->Z.x.D=Z.x.L->bY Z.lam Z.env.kindOf e pe=true->SE Z e pe):u8 K pg w (n+1):=by
 intro f A x s h m a Y Q E X R ha q;refine Ec (R.clos ha) λi name d t g M pm ctv c y hk j V k ho l=>?_;subst j;subst k;have O:=sf.of hk;rw[HH] at q;have q:=Wf V O.shape q;obtain⟨μ,Fr⟩:=R.fr;refine ku X.T λpp G mean mg mb T=>?_;refine ak R.u' λB H o=>?_;refine Wh X.HG ho rfl O.co O.gen rfl l ?_;refine rE (Wi O.se rfl rfl) ?_;refine wpAny_pure ?_;refine DA (λx I=>O.vf x I) (λx I=>dx I) (λW J L=>?_) O.kind;have S:∀b y,s.heap.get? b=some y->W.get? b=some y:=λb y e=>(L.2 b (cK (fB e))).trans (dC _ e);refine⟨T.nolimit.keeps λb y e=>S b y (Fr.keep b y e),?_⟩;have R1:ai (x.sub B s.heap.objs.size {s with heap:=W,toks:=s.toks+0}) h m0 {s with heap:=W,toks:=s.toks+0}:=R.enter H S (a6 _) J (λx v e=>aN e);generalize p:tJ M s.heap.objs.size mainGlobals (((ac i).map nm).zip Y) (d ++ ".<locals>.") (some a) (.ref c) none im=env;have F:=O.zH (pg:=pg) (w:=w) (s':={s with heap:=W,toks:=s.toks+0}) FK X o V p.symm;refine ak (X.vc (s':={s with heap:=W,toks:=s.toks+0}) o (env:=env) (L':=s.heap.objs.size) (by refine rF p ?_;exact O.kind) (by refine rF p ?_;rfl)) λfs N r=>?_;refine Wg (aF (hs _ (rV i) g rfl rfl rfl rfl F rfl (by rw[show(Zx.fn K pg w (uG (ac i)) n ((ac i).zip Y) (A.deeper env) env (x.sub B s.heap.objs.size {s with heap:=W,toks:=s.toks+0})).env.kindOf=λz=>M.names.lookup z by rw[←p];rfl];exact O.same) R1 q) (λv s2 z=>?_) (λe s2 z=>?_))
 ·refine fJ z λu P m2 rv R2 U=>?_;exact(cb u P rv (R.back (s₁:=s) (x':=x.sub B s.heap.objs.size {s with heap:=W,toks:=s.toks+0}) H rfl rfl (λC C e=>e) R2 ⟨rfl,rfl,rfl⟩) U)
 ·refine c4 z λy P m2 X2 U=>?_;exact aF (D (x:=x.sub B s.heap.objs.size {s with heap:=W,toks:=s.toks+0}) X.X rfl (by refine rF p ?_;rfl) N r X.handled X2) (λC s3 X3=>(de y P (X3.back R H ⟨rfl,rfl,rfl⟩) U)) λC C e=>e.elim
end
section
variable{x:Cx}{s s':ag}{h:Hp}{m:M}
theorem ai.gL(R:ai x h m s):x.g.get? x.L=none:=by
 refine R.fr.elim λK F=>?_;induction e:x.g.get? x.L with
 |none=>rfl
 |some y=>exact absurd (fB e) (c8.mpr F.above)
theorem ai.slots(i:x.D=x.L)(R:ai x h m s){S:List ax}{K:dp}(V:Nb S s.heap K)(d:∀b∈S,b=x.L\/∃q∈x.p.fr,b=q.1):ai x h m {s with heap:=K}:=by
 refine R.fr.elim λM F=>?_;refine ak R.aa λj N r=>?_;refine R.own.elim λw O=>?_;have k:∀b y,x.g.get? b=some y->b∉S:=λb y e W=>(d b W).elim (λz=>by rw[z,R.gL] at e;exact aN e) λz=>by
  refine ak z λq T z=>?_;rw[z,(R.frs q T).2.2] at e;exact aN e
 have l:∀b y,w.W b=some y->b∉S:=λb y e W=>(d b W).elim (λz=>(O.own _ y e).2.1 z) λz=>by
  refine ak z λq T z=>?_;rw[z,O.fn q T] at e;exact aN e
 have f:∀ {M},s.heap.Ns x.L M->K.Ns x.L M:=λ{M} N=>by
  refine c4 (id N) λo u v g A=>?_;refine(V.2.2 x.L o g).elim λn X=>?_;exact zw g X N
 refine⟨⟨M,f F.ns,λb y e=>(V.2.1 b (k b y e)).trans (F.keep b y e),F.above⟩,(aq j (by rw[i] at N ⊢;exact f N) r),R.dist,⟨w,λa y e=>⟨(V.2.1 a (l a y e)).trans (O.own a y e).1,(O.own a y e).2⟩,O.hr,O.fn⟩,λq T=>?_,R.ef.trans ⟨rfl,rfl,rfl⟩⟩;obtain⟨⟨n,e⟩,p,t⟩:=R.frs q T;refine(V.2.2 _ _ e).elim λc X=>?_;exact(aH ⟨c,X⟩ p t)
theorem ai.Wl(R:ai x h m s){l:List Env}(M:qp x l):s.heap.FunFrames x.g l:=by
 induction l with
 |nil=>trivial
 |cons e r a =>
  refine(M e (.head _)).elim λO F=>?_;refine(aH (by refine rE O ?_;decide) ?_ (a λe S=>M e (.tail _ S)));rcases F with F |⟨q,b,F,c⟩
  ·refine ak R.u' λT V K=>?_;exact(fo x.L T F R.gL V K)
  ·obtain⟨⟨d,W⟩,f,X⟩:=R.frs q b;exact(fo q.1 _ F X W c)
end
section
variable{M':cV}{A:bk}{E:af->ag->Prop}{s:ag}
theorem Wn(vs:List af)(pl:List af)(h:vs.length=5):3<(vs++pl).toArray.size:=by
 refine rE fG (rE cA (rE h ?_));exact bn (by decide) (cP 5 _)
noncomputable abbrev HM(F:af)(L:ax)(K:List af):Obj:={cls:=.type "traceback",dict:=none,data:=.fields ([F,.ref L,.none,rawInt L,.none]++(if K.isEmpty then gm 6 eY else K)).toArray}
theorem Wo{Q:Unit->ag->Prop}
  (m:A.frames=some (f::d)) (w:s.heap.FunFrames y (f::d)) (I:f.frame=some L)
  (B:s.heap.get? e=some n) (p:n.data=.fields q) (V:1<q.size)
  (h:∀c k i C,Nb ((f::d).filterMap (·.frame)) s.heap c->(∀b o,b≠e->c.get? b=some o->k.get? b=some o)->k.get? e=some i->i.cls=n.cls->i.data=.fields (q.setIfInBounds 1 (.ref c.objs.size)) ->
   k.get? c.objs.size=some C->(∃D,C.data=.fields D/\D[3]?=some .none)->Q () {s with heap:=k}) :
  aL M' A (do let a ←frameOf f;let T ←Nc L j;let b ←DE g a .none (rawInt L) .none T;setField (.ref e) 1 b) (λJ N=>aL M' A (qX (.ref e) none) Q E N) E s:=by
 have W:e∉(f::d).filterMap (·.frame):=λP=>by
  refine tX (w.mem P) λJ o l r=>?_;rw[B] at l;injection l with l;subst l;exact r q p
 refine aw (wpAny_frameOf_fun m w I λc K=>?_);refine aw (wpAny_entryPlaceOf λT t=>?_);unfold DE newFields;refine aw (C5 ?_ (t.sizeOk5 _ _ _ _ _));have M:c.get? e=some n:=(K.2.1 e W).trans B;have O:=dC (h:=c) (HM g L T) M;refine xg O p V ?_;have X:c.objs.size≠e:=gp (fB M);have F:=tL p (·.setIfInBounds 1 (e' c.objs.size));have R:=hJ (oW (·.setIfInBounds 1 (e' c.objs.size))) O (xh F);have S:=(lJ (c.push (HM g L T)) (oW (·.setIfInBounds 1 (e' c.objs.size))) (fH X)).trans (mV c rfl);unfold qX;refine aw (jF R F (x:=.ref c.objs.size) (xi V) ?_);refine rE (if_pos (show(e' c.objs.size != eY)=true from bne_iff_ne.mpr (λz=>nomatch z))) ?_;have G:3<([g,.ref L,.none,rawInt L,.none]++(if T.isEmpty then gm 6 eY else T)).toArray.size:=Wn _ _ rfl;refine xg S rfl G ?_;refine h c _ _ _ K (λb o u H=>?_) ((lJ _ _ X).trans R) (Obj.cls_mapFields _ _) F (hJ _ S (xh (tL rfl _))) (aq _ (tL rfl _) (xi G));have v:c.objs.size≠b:=gp (fB H);refine rE (lJ _ _ v) (rE (lJ _ _ (fH u)) ?_);exact dC _ H
end
section
variable{x:Cx}{s s':ag}{h:Hp}{m:M}
theorem ai.entry(R:ai (x.bw q o) h m s)(j:x.p.ex q=none)(V:x.D≠q)(same:∀b o,b≠q->s.heap.get? b=some o->s'.heap.get? b=some o)(k:s'.heap.get? q=some y)
  (l:s'.heap.get? s.heap.objs.size=some z) (st:d7 s s'):ai ((x.bw q y).bw s.heap.objs.size z) h m s'/\s.heap.objs.size≠q/\x.p.ex s.heap.objs.size=none:=by
 refine R.fr.elim λn F=>?_;refine ak R.aa λp N r=>?_;refine R.own.elim λw O=>?_;have W:=O.hr.tp q o (bC ..);have X:=O.own q o W.2;have M:s.heap.objs.size≠q:=gp (O.lt W.2);have S:∀t∈x.p.fr,t.1≠q:=λt K e=>by have:=O.fn t K;rw[e,W.2] at this;exact cX this
 have T:ti q s.heap s'.heap:=λb y v e=>same b y v e;have f:x.p.ex s.heap.objs.size=none:=(eA _ M).symm.trans (O.G4 (a6 _));have A:=((O.hr.release j).guard (q:=q) (y:=y) (.inl (if_pos rfl))).guard (q:=s.heap.objs.size) (y:=z) (.inl ((if_neg M).trans ((if_neg M).trans (O.pG (a6 _)))));refine(aH ⟨⟨n,F.ns.extBut T X.2.1.symm,λb y e=>same b y (λB=>by subst B;exact absurd ((show some y=none from e.symm.trans X.2.2)) (λz=>cX z)) (F.keep b y e),F.above⟩,(aq p (N.extBut T V) r),?_,⟨_,λa u e=>?_,A,λt K=>?_⟩,λt K=>⟨?_,(R.frs t K).2⟩,R.ef.trans st⟩ M f)
 ·rcases R.dist with d |⟨g,d⟩
  ·exact .inl d
  ·have d:x.p.ex x.D=some g:=(eA _ V).symm.trans d;exact .inr ⟨g,(eA _ λ(e:x.D=s.heap.objs.size)=>by rw[e,f] at d;exact aN d).trans ((eA _ V).trans d)⟩
 ·by_cases i:a=s.heap.objs.size
  ·rw[i] at e ⊢;rw[show u=z from (bq ((bC ..).symm.trans e)).symm];exact(aH l (gp F.ns.lt) (Internal.Fr.kP F (a6 _)))
  ·have e:=(bv _ _ i).symm.trans e;by_cases c:a=q
   ·rw[c] at e ⊢;rw[show u=y from (bq ((bC ..).symm.trans e)).symm];exact⟨k,X.2⟩
   ·have e:=(show(if a=q then none else w.W a)=w.W a from if_neg c).symm.trans ((bv _ _ c).symm.trans e);exact⟨same _ _ c (O.own a u e).1,(O.own a u e).2⟩
 ·exact(bv _ _ (cK (R.frs.lt K))).trans ((bv _ _ (S t K)).trans ((show(if t.1=q then none else w.W t.1)=w.W t.1 from if_neg (S t K)).trans (O.fn t K)))
 ·refine((R.frs t K).1).elim λC e=>?_;exact⟨C,same _ _ (S t K) e⟩
theorem qp.mem(K:qp x l):∀b∈l.filterMap (·.frame),b=x.L\/∃q∈x.p.fr,b=q.1:=by
 intro b M;refine ak (wG.mp M) λe O F=>?_;rcases(K e O).2 with h |⟨q,a,h,_⟩
 ·exact .inl (bq (F.symm.trans h))
 ·exact .inr (aq q a (bq (F.symm.trans h)))
end
section
variable{K:bc}{pg:bJ}{w:bE}
theorem HN(n:x.D=x.L)(r:d.frame=some x.L)(T:A.frames=some (d::s))(F:qp x (d::s))
  (p:x.p.ex a=none) (V:ai (x.bw a c) h m g) (t:c.cls=.ref (ee y)) (u:c.data=.fields i) (M:1<i.size) :
  aL (av pg w) A (do let v ←frameOf d;let z ←Nc x.L f;let b ←DE q v .none (rawInt x.L) .none z;setField (.ref a) 1 b) (λO s'=>aL (av pg w) A (qX (.ref a) none) (λO s'=>f' x y (.ref a) h m s') (λO O=>False) s') (λO O=>False) g:=by
 have R:=V.eT (bC ..);refine Wo T (ai.Wl V F) r R.1 u M λS B W C D same X E G H j=>?_;refine ak j λI k l=>?_;have J:ai (x.bw a c) h m {g with heap:=S}:=ai.slots (x:=x.bw a c) n V D (qp.mem (x:=x.bw a c) F);obtain⟨L,N,P⟩:=J.entry (s':={g with heap:=B}) p (n▸R.2.1.symm) (λb o Q e=>same b o Q e) X H ⟨rfl,rfl,rfl⟩;exact(nz a W _ rfl (E.trans t) G p (.inr (xL _ C I (xi M) N k l P L)))
theorem zK:zG K pg w:=by
 intro A t x s h m y e E X d g V F G i;obtain⟨a,j,H,rfl,l,f,n,i⟩:=i;unfold oE;refine bj (aw ?_);unfold m9;refine rE g ?_;rcases i with ⟨W,R⟩ |⟨T,I,u,W,o,k,p,v,R⟩
 ·have M:=R.eT (bC ..);refine aw (jF M.1 f W ?_);exact HN d g V F n R l f (xj.mp W).1
 ·have M:=R.eT (q:=a) (y:=j) ((eA _ o.symm).trans (bC ..));have c:=R.eT (bC ..);refine aw (jF M.1 f W ?_);refine(?_:aL _ _ (if (e' T != eY)=true then _ else _) _ _ _);refine rE (if_pos (show(e' T != eY)=true from bne_iff_ne.mpr (λz=>nomatch z))) ?_;refine aw (jF c.1 k p ?_);refine(?_:aL _ _ (if (eY == rawInt x.L)=true then _ else _) _ _ _);refine rE (if_neg (show ¬(eY == rawInt x.L)=true from λz=>nomatch beq_iff_eq.mp z)) ?_;have B:3<u.size:=(xj.mp p).1;refine aw (xg c.1 k B ?_);have O:=tL k (·.setIfInBounds 3 eY);have S:=hJ (oW (·.setIfInBounds 3 eY)) c.1 (xh O);have r:(x.bw a j).p.ex T=none:=(eA _ o).trans v;have C:ai (x.bw a j) h m {s with heap:=s.heap.update T (oW (·.setIfInBounds 3 eY))}:=(R.pH (s':={s with heap:=s.heap.update T (oW (·.setIfInBounds 3 eY))}) r (d▸c.2.1.symm) (λb y D e=>(lJ _ _ (fH D)).trans e) S ⟨rfl,rfl,rfl⟩).release r (d▸c.2.1.symm);exact HN d g V F n C l f (xj.mp W).1
end
end Mine.Internal
end
section
open PySem PySem.W PyProof.Rows PySem.Calls
set_option maxHeartbeats 1000000
namespace Mine.Internal
section
variable{M:cV}{A:bk}{E:af->ag->Prop}{env:Env}
variable{n₀ q:az}{C N:ax}{bs bm:List af}{hdct:Bool}{sn:List az}{sub:List af}{ab:Bool}{col:Option Bool}{dd:Option ax}{k0 k1 k2 k3 k5:Option af}{newId:String}
theorem Wp(K:bm.contains (.type "BaseException")=true)(V:A.handled=none)
  (h:aj M A x (λv F=>∃e t a,v=.ref e/\F.heap.get? C=some (lL n₀ q C N bs bm hdct sn sub ab col dd k0 k1 k2 k3 k5 newId) /\
   F.heap.get? e=some {cls:=.ref C,dict:=a,data:=.fields #[.ref t,.none,.none,.none,.bool false,.none]}/\E (.ref e) F) E s) :
  aj M A (DF env (some x) none) Q E s:=by
 have R:(e' C::bm).contains (.type "BaseException")=true:=by rw[ng,K,tM]
 unfold DF;refine ar (aF h (λv F O=>?_) λW W x=>x);refine iw O λe t a S T X b=>?_;refine rE S ?_;obtain⟨c,g,d,f,os⟩:=F;refine bj ?_
 repeat (first |with_reducible refine qY X ?_ |with_reducible refine qY T ?_ |(with_reducible refine tN T ?_;refine rE R ?_) |wp_step)
 exact wpAny_raiseNew_none V b
end
open PySem.Builtin
def nW(F K:List af):Prop:=∀X b,F.contains (.type X)=b->K.contains (.type X)=b
section
variable{M:cV}{A:bk}{E:af->ag->Prop}{h:dp}{g:Array GenState}{d:Drawn}{t:Nat}{os:OsState}
variable{n₀ q:az}{C N:ax}{bs bm bmB:List af}{hdct:Bool}{sn:List az}{sub:List af}{ab:Bool}{col:Option Bool}{dd:Option ax}{k0 k1 k2 k3 k5:Option af}{B Bn newId nid initId inN:String}{bmN:List af}
theorem Wq(Fn:oX Bn newId inN bmN)(O:bmB.contains (.type Bn)=true)(T:nW bmB bm){F:List af}{Q:Unit->ag->Prop}
  (K:h.get? C=some (lL n₀ q C N bs bm hdct sn sub ab col dd k0 k1 k2 k3 k5 newId)) (V:Q () ⟨h,g,d,t,os⟩):aL M A (checkBuiltinCall newId ⟨.ref C::F,[]⟩) Q E ⟨h,g,d,t,os⟩:=by
 have R:(e' C::bm).contains (.type Bn)=true:=by rw[ng,T _ _ O,tM]
 have S:=Fn.noStar;simp only[checkBuiltinCall,Fn.newKind,Fn.newSplit,Fn.newRow]
 repeat (first |refine qY K ?_ |(refine tN K ?_;refine rE R ?_) |refine wpAny_staticBase_exc K ?_ |refine Nd K ?_ |simp only[bne_self_eq_false,wB,if_false] |wp_step)
 exact V
theorem Wr(F:oX B nid initId bmB)(T:nW bmB bm){e:ax}{S:Obj}{K:List af}{Q:Unit->ag->Prop}
  (V:h.get? C=some (lL n₀ q C N bs bm hdct sn sub ab col dd k0 k1 k2 k3 k5 newId)) (X:h.get? e=some S) (O:S.cls=.ref C) (c:Q () ⟨h,g,d,t,os⟩) :
  aL M A (checkBuiltinCall initId ⟨.ref e::K,[]⟩) Q E ⟨h,g,d,t,os⟩:=by
 have R:(e' C::bm).contains (.type B)=true:=by rw[ng,T _ _ F.hasB,tM]
 have W:=F.noStar;simp only[checkBuiltinCall,F.initKind,F.initSplit,F.initRow]
 repeat (first |(with_reducible refine qY X ?_;refine rE O ?_) |with_reducible refine qY V ?_ |(with_reducible refine tN V ?_;refine rE R ?_) |wp_step)
 refine wpAny_onRaise ?_;rw[show ∀(a b:String) (n:Nat),Bind.check ⟨.positional, "*",B,.self,[⟨"args",.varPos,false⟩]⟩ a b n (DG (λx=>x.fst) ({pos:=e' e::K}:qy).kw)=a8 () from
  λa b n=>check_star_args _ _ _ _ _ _]
 exact wpAny_pure c
variable{prog:bJ}{w:bE}{R:eI->ag->Prop}
theorem Ws(Fn:oX Bn newId inN bmN)(O:bmB.contains (.type Bn)=true)(F:oX B nid initId bmB)(T:nW bmB bm){K:List af}
  (S:h.get? C=some (lL n₀ q C N bs bm hdct sn sub ab col dd k0 k1 k2 k3 k5 newId))
  (a:R (.ok (.ret (.ref (h.objs.size+1)))) ⟨(h.push {cls:=.type "tuple",data:=.seq K.toArray}).push
   {cls:=.ref C,data:=.fields #[.ref h.objs.size,.none,.none,.none,.bool false,.none]},g,d,t,os⟩) (V:K.length<=eZ) :
  s8 (av prog w) A (.builtin newId ⟨.ref C::K,[]⟩) R ⟨h,g,d,t,os⟩:=by
 have X:=Fn.ends;have b:(e' C::bm).contains (.type Bn)=true:=by rw[ng,T _ _ O,tM]
 have c:(e' C::bm).contains (.type "AttributeError")=false:=by rw[ng,T _ _ F.noAttr];rfl
 have e:(e' C::bm).contains (.type "NameError")=false:=by rw[ng,T _ _ F.noName];rfl
 refine codeAny_builtinAt Fn.entry ?_;unfold Builtin.«BaseException.__new__»;refine Nf ?_;show PySem.wpAt _ _ _ (stack>>=_) _ _ _;refine Nf (PySem.wpAt_stack λp W=>Ng ?_);wp_walk;refine Ng ?_;rw[Fn.owner]
 repeat (first |with_reducible refine wpAny_madeHere_exc Fn.canon S ?_ |with_reducible refine qY S ?_ |(with_reducible refine tN S ?_;first |rw[b] |rw[c] |rw[e]) |wp_step)
 show R _ _;rw[Dz];exact a
end
section
variable{prog:bJ}{w:bE}{A:bk}{R:eI->ag->Prop}
variable{n₀ q:az}{C N:ax}{bs bm bmB:List af}{hdct:Bool}{sn:List az}{sub:List af}{ab:Bool}{col:Option Bool}{dd:Option ax}{k0 k1 k2 k3 k5:Option af}{B Bn newId nid initId inN:String}{bmN:List af}
theorem Wt(Fn:oX Bn newId inN bmN)(S:bmB.contains (.type Bn)=true)(F:oX B nid initId bmB)(T:nW bmB bm)
  (O:s.heap.get? C=some (lL n₀ q C N bs bm hdct sn sub ab col dd k0 k1 k2 k3 k5 newId)) (call:f0 (av prog w) s.heap (wL (.ref C) "__call__") (some (.builtin "type.__call__")))
  (W:f0 (av prog w) s.heap (qV (.ref C) (.type "type")) true) (l:f0 (av prog w) s.heap (fZ (.ref C) "__init__") (some (.ref f)))
  (n:∀i,f0 (av prog w) s.heap (MQ (.ref f) i) (.ref f,[i])) (K:c.length<=eZ)
  (p:cy (av prog w) (A.under (.builtin "type.__call__" ⟨.ref C::c,[]⟩)) (.call (.ref f) ⟨.ref (s.heap.objs.size+1)::c,[]⟩) (InitBack (s.heap.objs.size+1) R)
   {s with heap:=(s.heap.push {cls:=.type "tuple",data:=.seq c.toArray}).push {cls:=.ref C,data:=.fields #[.ref s.heap.objs.size,.none,.none,.none,.bool false,.none]}}) :
  cy (av prog w) A (.call (.ref C) ⟨c,[]⟩) R s:=by
 obtain⟨h,g,d,t,os⟩:=s;refine fw ?_;show aj _ _ (qz (.ref C) _) _ _ _;refine a' (m:=load C) (hF O ?_);show aj _ _ (xd (.ref C) _) _ _ _;unfold xd;refine a' (call.at ?_);dsimp only;rw[tc_bind];refine ar (aI (ar (aI ?_)));refine aI (a:=MT (.call (.builtin "type.__call__") ⟨.ref C::c,[]⟩)) (aH rfl rfl ?_);refine Hn (wQ _ (by decide +kernel)) rfl MU (Dt tc_kind tc_split W (tc_args _ _ _) ?_);unfold Builtin.«type.__call__»;dsimp only;refine la (show ¬((e' C == m6 "type")=true) from ko) ?_;have u:f0 (av prog w) h (wM (.ref C)) (.ref C::bm):=((qU (part:=none) O).andThen .now).andThen .now;refine a' (u.here ?_);refine la (by simp) ?_;refine a' (Nd O ?_);refine ar (aI ?_);refine a' (gQ (wR (codeAny_call_builtin_code (wQ _ Fn.quiet) (Wq Fn S T O (Ws Fn S F T O ?_ K)))));have k:∀b o,h.get? b=some o->((h.push {cls:=.type "tuple",data:=.seq c.toArray}).push {cls:=.ref C,data:=.fields #[.ref h.objs.size,.none,.none,.none,.bool false,.none]}).get? b=some o:=λb o e=>dC _ (dC _ e);have V:((h.push {cls:=.type "tuple",data:=.seq c.toArray}).push {cls:=.ref C,data:=.fields #[.ref h.objs.size,.none,.none,.none,.bool false,.none]}).get? (h.objs.size+1)=some
   {cls:=.ref C,data:=.fields #[.ref h.objs.size,.none,.none,.none,.bool false,.none]}:=by heap_get
 have j:f0 (av prog w) ((h.push {cls:=.type "tuple",data:=.seq c.toArray}).push {cls:=.ref C,data:=.fields #[.ref h.objs.size,.none,.none,.none,.bool false,.none]}) (tG (.ref (h.objs.size+1))) (.ref C):=(qU V).andThen .now;have x:=l.keeps k;have y:=(n (.ref (h.objs.size+1))).keeps k;have M:=k _ _ O;have X:(e' C::bm).contains (.ref C)=true:=by simp
 unfold qV wS wL;refine a' (aw (j.here (tN M ?_)));refine rE X ?_;refine la (by decide) ?_;refine ar (bO ?_);refine a' (aw (j.here (x.here ?_)));dsimp only;refine bO (a' (y.here ?_));refine ar (kH (ja p λr D z=>?_));rcases r with e |(v |_ |_ |_)<;>first |exact z |exact z.elim |skip
 refine rp z λz=>?_
 exact aI (la (by decide) (aI z))
end
section
variable{prog:bJ}{w:bE}{A:bk}{E:af->ag->Prop}{h:dp}{g:Array GenState}{d:Drawn}{t:Nat}{os:OsState}
variable{n₀ q:az}{C N:ax}{bs bm bmB:List af}{hdct:Bool}{sn:List az}{sub:List af}{ab:Bool}{col:Option Bool}{dd:Option ax}{k0 k1 k2 k3 k5:Option af}{B newId nid initId:String}
theorem Wu(F:oX B nid initId bmB)(T:nW bmB bm)
  (O:h.get? C=some (lL n₀ q C N bs bm hdct sn sub ab col dd k0 k1 k2 k3 k5 newId)) (M:h.get? e=some {cls:=.ref C,data:=.fields #[.ref f,.none,.none,.none,.bool false,.none]}) (K:a.length<=eZ)
  (R:∀c,(∀b o,b≠e->h.get? b=some o->c.get? b=some o)->c.get? e=some {cls:=.ref C,data:=.fields #[.ref h.objs.size,.none,.none,.none,.bool false,.none]}->Q .none ⟨c,g,d,t,os⟩) :
  aL (av prog w) A (call (.builtin initId) (.ref e::a) []) Q E ⟨h,g,d,t,os⟩:=by
 refine wR (Nh F.init.plain F.initEntry (Wr F T O M rfl ?_));wp_walk;refine R _ (λb o S V=>?_) ?_
 ·refine rE (lJ _ _ (fH S)) ?_;exact dC _ V
 ·refine rE (hJ _ (dC _ M) rfl) ?_;rfl
end
end Mine.Internal
end
section
open PySem PySem.W PyProof.Rows PySem.Calls PySem.Builtin PySem.Builtin.ObjectAttr
namespace Mine.Internal
theorem zL:1<=eZ:=by refine rE qI ?_;exact DH rfl
inductive ia:List af->Prop
 |base:ia [.type "ValueError",.type "Exception",.type "BaseException",.type "object"]
 |own {a:ax} {r:List af}:ia r->ia (.ref a::r)
theorem Wv(F:af):Ni F "__setattr__" [.type "ValueError",.type "Exception",.type "BaseException",.type "object"]=a8 ():=by kernel_rfl
theorem Ww(F:af){l:List af}(h:ia l):Ni F "__setattr__" l=a8 ():=by
 induction h with
 |base=>exact Wv F
 |own _ a=>rw[refuseLoop_ref];exact a
theorem ia.obj(h:ia l):l.contains (.type "object")=true:=by
 induction h with
 |base=>decide +kernel
 |own _ a=>rw[ng,a,tM]
theorem ia.ne(h:ia l):l.isEmpty=false:=by cases h<;>rfl
section
variable{K:bc}{prog:bJ}{w:bE}{A:bk}{R:eI->ag->Prop}{s:ag}
theorem Wx(X:K.In s.heap)(S:s.heap.get? x=some ⟨.ref C,none,.fields i,j⟩)(z:xk K C=some k)(D:ia k.mro)
  (E:w9 K C name=some none) (G:k.hasDict=true) (sub:f0 (av prog w) s.heap (qV (.ref x) (.type "object")) true)
  (h:∀c f,(∀b o,b≠x->s.heap.get? b=some o->c.get? b=some o)->c.get? x=some ⟨.ref C,some s.heap.objs.size,.fields i,j⟩->R (.ok (.ret .none)) {s with heap:=c,toks:=f}) :
  s8 (av prog w) A (.call (.builtin "object.__setattr__") ⟨[.ref x,.str name f,v],[]⟩) R s:=by
 have I:InstAt s.heap x ⟨.ref C,none,.fields i,j⟩ C none:=⟨S,rfl,rfl,tT⟩
 have T:=PySem.F.store_object;refine Nh T.slot.plain T.entry (@Dt (av prog w) _ _ s "object.__setattr__" "object" "__setattr__" (.ref x) [.str name f,v] [] _ T.kind T.split sub (T.args (.ref x) (.str name f) v) ?_);refine ak (wH.mp E) λO H J=>?_;have L:f0 (av prog w) s.heap (wM (.ref C)) k.mro:=(Nj X z).andThen .now;have N:f0 (av prog w) s.heap (storeTaker? O) none:=by
  induction O with
  |none=>exact .now
  |some a =>
   refine ak (hH.mp J) λb W l=>?_;refine(looks_takesIn X W).andThen ?_;rcases b with _ |_<;>first |exact .now |exact cX l
 rw[osa_eq,refuse_eq];refine aw (aw (I.type.here (aw (L.here ?_))));refine rE (Ww _ D) ?_;refine wpAny_pure (aw (I.type.here (aw ((tH X H).here (aw (N.here ?_))))));refine aw (wpAny_pure (aw (aw (wpAny_loadPart S (aw ((Nj X z).here ?_))))));refine rE G ?_;obtain⟨M,g,d,t,os⟩:=s;have S:M.get? x=some ⟨.ref C,none,.fields i,j⟩:=S;have F:(M.push {cls:=.type "dict",data:=.dict #[]}).get? x=some ⟨.ref C,none,.fields i,j⟩:=dC _ S;have V:x≠M.objs.size:=cK (fB S);refine aw (aw (wpAny_alloc' (wpAny_pure ?_)));refine aw (wpAny_update' F (wpAny_pure ?_));have m:((M.push {cls:=.type "dict",data:=.dict #[]}).update x λo=>{cls:=o.cls,dict:=some M.objs.size,data:=o.data,slots:=o.slots}).get? M.objs.size
   = some {cls:=.type "dict",data:=.dict #[]} :=
  (Nk _ _ _ _ V.symm).trans (Heap.get?_push_at rfl rfl)
 have n:((M.push {cls:=.type "dict",data:=.dict #[]}).update x λo=>{cls:=o.cls,dict:=some M.objs.size,data:=o.data,slots:=o.slots}).Ns M.objs.size (λP=>none) :=
  (kx _ (#[]) _ m rfl (λe Q=>absurd Q (tC∘Array.mem_toList_iff.mpr)) (λP=>rfl))
 show aL _ _ (Nl M.objs.size (.str name f) name v) _ _ _;unfold Nl newKeyGuard;refine aw (wpAny_pure (aw (wpAny_nsSet1 (Heap.Ns1.of_empty n) λc p B=>?_)));refine fJ (p.count (Within.cons name v Within.nil)) λZ U Y q r u=>?_;refine aw (LL q (by refine rE r ?_;exact pastItsLine_dict (ah u (ks zL))) (wpAny_pure (h c _ (λb ob y W=>?_) ?_)))
 ·exact(B.2 b (cK (fB W))).trans ((Nk _ _ _ _ y).trans (dC _ W))
 ·exact(B.2 x V).trans (hJ _ F rfl)
end
theorem Wz:tG (.type "ValueError")=a8 (.type "type"):=by
 show(a8 (m6 ((Manifest.find? "ValueError").elim "type" (·.metatype))):Sem af)=a8 (.type "type");refine rE (find?_eq_fast) ?_;kernel_rfl
theorem WA:fZ (.type "type") "__getattribute__" = a8 (some (.builtin "type.__getattribute__")):=by rw[eJ,eK];kernel_rfl
theorem WC:DJ (.type "ValueError")=a8 none:=by
 unfold DJ;dsimp only;rw[show Manifest.isStub "ValueError" = false by decide +kernel];rfl
theorem WD:Mb "ValueError" = some (.type "ValueError"):=by decide +kernel
noncomputable def zM(F K p1 M O R S T V W:Pos):List bz :=
 [.Expr (.Call (.Attribute (.Name "ValueError" p1) "__init__" F) [.Name "self" M,.Name "reason" O] [] K) R,.Assign [.Attribute (.Name "self" S) "reason" T] (.Name "reason" V) W]
structure vg(K:bc)(fI:ax)(o:Obj)(fd:gO)(body:List bz):Prop where
 look:K.lookup fI=some o
 data:o.data=.func fd
 co:fd.scope.isCoroutine=false
 gen:fd.scope.isGenerator=false
 kind:fd.scope.kind=.function
 stmts:fd.body=.stmts body
 glob:fd.globals=mainGlobals
 jh:fd.builtins=im
 clos:fd.closure=[]
 code:∀h:dp,K.In h->h.CodeRec fd.code fd.qualname
 vf:∀x∈fd.scope.names,x.2≠.cell
 self:fd.scope.names.lookup ("self" : az)=some NameKind.local
 reason:fd.scope.names.lookup ("reason" : az)=some NameKind.local
 ve:fd.scope.names.lookup ("ValueError" : az)=some NameKind.globalImplicit
 body:∃ap cp p1 p2 p3 p4 p5 p6 p7 p8,body=zM ap cp p1 p2 p3 p4 p5 p6 p7 p8/\ap.endLine=cp.line
 args:∀e v S,tK K S (mR fd ⟨[e,v],[]⟩)=some [(("self" : az),e),(("reason" : az),v)]
 WF:nsIn K mainGlobals "ValueError" = some none
 find:findCls K (.type "ValueError") (.type "type") "__init__" = some (.val (.builtin "ValueError.__init__"))
structure sg(K:bc)(C fI:ax):Prop where
 ex:∃n₀ q N bs bm sn sub ab col dd k0 k1 k2 k3 k5,K.lookup C=some (lL n₀ q C N bs bm true sn sub ab col dd k0 k1 k2 k3 k5 "ValueError.__new__") /\
  nW [.type "ValueError",.type "Exception",.type "BaseException",.type "object"] bm/\ia (.ref C::bm)
 set:fC K (.ref C) "__setattr__" = some (some (.builtin "object.__setattr__"))
 take:w9 K C "reason" = some none
 init:fC K (.ref C) "__init__" = some (some (.ref fI))
 fn:typeIn K (.ref fI)=some (.type "function")
 call:km K (.ref C) "__call__" = some (some (.builtin "type.__call__"))
section
variable{K:bc}{pg:bJ}{w:bE}{A:bk}{s:ag}
theorem WG(X:K.In s.heap)(e:findCls K (.type "ValueError") (.type "type") "__init__" = some (.val (.builtin "ValueError.__init__")))
  (h:Q (.builtin "ValueError.__init__",[]) {s with toks:=s.toks+1}):aL (av pg w) A (xe (.type "ValueError") "__init__" a) Q E s:=by
 have O:f0 (av pg w) s.heap (DJ (.type "ValueError")) none:=xl WC;have M:f0 (av pg w) s.heap (tG (.type "ValueError")) (.type "type"):=xl Wz;have R:fC K (.type "type") "__getattribute__" = some (some (.builtin "type.__getattribute__")):=by kernel_rfl
 unfold xe;refine aw ((M.andThen (xl WA)).here ?_);dsimp only;refine rE (if_pos canon_tga) ?_;refine aw (gn (Q:=λv S=>Q (v,[]) S) ?_ (λF F z=>wpAny_pure z) λF F z=>z);refine cls_open X O M R (looks_hook X (r:=none) (by rfl)) (by show subIn K _ _=_;rfl) e ?_;refine wpAny_pure ?_;show aL _ _ (handedOut _) _ _ _;refine rE (MX (by decide +kernel)) ?_;exact wpAny_pure h
theorem WH{M:cV}{C e:ax}{O:La}{R:Obj}(X:K.In s.heap)(T:xk K C=some O)(V:s.heap.get? e=some R)(F:R.cls=.ref C)(S:ia O.mro):f0 M s.heap (qV (.ref e) (.type "object")) true:=by
 refine Nn (a:=.ref C) ?_ (looks_mroIn X (by unfold mroIn;rw[T,Option.bind_some,if_neg (by rw[S.ne];decide),S.obj]));refine rF F ?_;exact(qU V).andThen .now
end
noncomputable def pQ(e v:af):az->Option af:=λx=>fY x (M7 [(("self" : az),e),(("reason" : az),v)])
theorem HO(e v:af):pQ e v "self" = some e:=by
 show fY _ [(("reason" : az),v),(("self" : az),e)]=_;rw[nd,show(("self" : az) == ("reason" : az))=false by decide +kernel];exact No
theorem HP(e v:af):pQ e v "reason" = some v:=No
structure vh(fd:gO)(L:ax)(env:Env):Prop where
 kd:∀z,env.kindOf z=fd.scope.names.lookup z
 kind:env.scope.kind=.function
 aa:env.locals=L
 glob:env.globals=mainGlobals
 jh:env.builtins=im
theorem vi{M:cV}{A:bk}{K:gO}{L:ax}{F:Env}{s:ag}(I:vh K L F){e v:af}{x:az}{O:Pos}{u:af}{Q:af->ag->Prop}{E:af->ag->Prop}(R:K.scope.names.lookup x=some .local)(S:(x == ("__debug__" : az))=false)
  (N:s.heap.Ns L (pQ e v)) (T:pQ e v x=some u) (z:Q u s):aj M A (eval (.Name x O) F) Q E s :=
 bj (tj (tm I.kind ((I.kd x).trans R) (by refine rE I.aa ?_;exact N) T z) S)
theorem HQ:(("self" : az) == ("__debug__" : az))=false:=by decide +kernel
theorem HS:(("reason" : az) == ("__debug__" : az))=false:=by decide +kernel
section
variable{K:bc}{pg:bJ}{w:bE}{A:bk}{s:ag}{R:eI->ag->Prop}
noncomputable abbrev mn(C F:ax)(M:Option ax):Obj:={cls:=.ref C,dict:=M,data:=.fields #[.ref F,.none,.none,.none,.bool false,.none]}
theorem WI{O:List bz}{L:ax}{S:Env}{h i p1 n r t:Pos}{Q:ki->ag->Prop}{E:af->ag->Prop}(V:vg K u o z O)(B:sg K C u)(X:K.In g)(T:∃p a c j k,Top p a c j k g)
  (F:∀b o,g.get? b=some o->s.heap.get? b=some o) (I:vh z L S) (W:s.heap.Ns L (pQ (.ref e) v)) (M:h.endLine=i.line) (D:s.heap.get? e=some (mn C Z none))
  (G:∀d H,(∀b y,b≠e->s.heap.get? b=some y->d.get? b=some y)->d.get? e=some (mn C s.heap.objs.size none)->Q .next {s with heap:=d,toks:=H}) :
  aj (av pg w) A (exec (.Expr (.Call (.Attribute (.Name "ValueError" p1) "__init__" h) [.Name "self" n,.Name "reason" r] [] i) t) S) Q E s:=by
 refine rh B.ex λl q N bs bm sn sub ab J dd k0 k1 m k3 k5 P U c3=>?_;refine ku T λpp a c j k T=>?_;have Y:=xm;rw[MC,G7 I.kind,pJ rfl];refine cg (ar (aI (ar ?_)));refine zt rfl (λx hx=>?_) (by show 2<20;decide) M ?_
 ·rcases cW.mp hx with rfl |hx
  ·rfl
  ·refine rE (tO.mp hx) ?_;rfl
 refine bj (wE I.kind ((I.kd _).trans V.ve) (Mf (by refine rE I.glob ?_;exact T.g.keeps F) (Mg X T.g V.WF) (by refine rE I.jh ?_;exact T.b.keeps F) ((T.builtins _ (by decide +kernel)).trans WD) ?_) (by decide +kernel));intro pl;refine bj (WG (X.keeps F) V.find ?_);refine uI (uH (vi I V.self HQ W (HO _ _) (uH (vi I V.reason HS W (HP _ _) (yJ ⟨kY,bj ?_⟩)))));refine Wu Y U (X.keeps F _ _ P) D (by exact zL) λd m f=>?_;exact bj (MD (G _ _ m f))
theorem WJ{v:af}{F:List bz}{L:ax}{M:Env}{j k m n:Pos}{Q:ki->ag->Prop}{E:af->ag->Prop}(W:vg K p o r F)(S:sg K C p)(X:K.In s.heap)(I:vh r L M)
  (O:s.heap.Ns L (pQ (.ref e) v)) (T:s.heap.get? e=some (mn C t none))
  (u:∀c x z,(∀b y,b≠e->s.heap.get? b=some y->c.get? b=some y)->c.get? e=some (mn C t z)->Q .next {s with heap:=c,toks:=x}) :
  aj (av pg w) A (exec (.Assign [.Attribute (.Name "self" j) "reason" k] (.Name "reason" m) n) M) Q E s:=by
 refine rh S.ex λf q N J P U sub Y B Z k0 k1 k2 g k5 D c2 G=>?_;refine sa (λl=>G9) rfl (λzz=>rfl) (vi I W.reason HS O (HP _ _) ?_);rw[MF];refine ar (bO (vi I W.self HQ O (HO _ _) ?_));obtain⟨a,h,i,d⟩:∃a,xk K C=some a/\ia a.mro/\a.hasDict=true:=by unfold xk;refine rE D ?_;exact(bG _ rfl G rfl)
 refine cg (ar (bO (bj (set_plain X (⟨T,rfl,rfl,tT⟩:InstAt s.heap e _ C none) S.set (Wx X T h i S.take d (WH X h T rfl i) λh3 H g V=>?_)))));exact rY (u _ _ _ g V)
theorem WK{C j e tp:ax}(F:vg K j o k H)(J:sg K C j)(X:K.In g)(T:∃p a c L N,Top p a c L N g)(P:∀b o,g.get? b=some o->s.heap.get? b=some o)(n:g.get? e=none)(V:A.depth<kj)
  (Q:s.heap.get? e=some (mn C tp none))
  (hq:∀l U t,(∀b o,b≠e->s.heap.get? b=some o->l.heap.get? b=some o)->l.heap.get? e=some (mn C t U)->d7 s l->R (.ok (.ret .none)) l) :
  cy (av pg w) A (.call (.ref j) ⟨[.ref e,v],[]⟩) R s:=by
 refine N7 F.body λap cp p1 p2 p3 p4 p5 p6 p7 p8 m W=>?_;have T':=T;refine ku T' λpp a c L N T=>?_;have q:=X.keeps P;refine ym V (q _ _ F.look) F.data F.co F.gen F.stmts (F.code _ q) ((DC (M:=av pg w) q (F.args _ _ _)).here ?_);rw[F.glob,F.jh,F.clos];refine DA F.vf (λx hx=>?_) (λY f r=>?_) F.kind
 ·rcases cW.mp hx with rfl |hx
  ·exact F.self
  ·rw[tO.mp hx];exact F.reason
 have S:∀b y,s.heap.get? b=some y->Y.get? b=some y:=λb y e=>(r.2 b (cK (fB e))).trans (dC _ e);have d:∀b o,g.get? b=some o->Y.get? b=some o:=λb o e=>S _ _ (P _ _ e);refine⟨T.nolimit.keeps d,?_⟩;generalize O:tJ k.scope s.heap.objs.size mainGlobals [] (k.qualname ++ ".<locals>.") (some j) k.code none im=h;have I:vh k s.heap.objs.size h:=⟨λz=>by rw[←O];rfl,by rw[←O];exact F.kind,by rw[←O];rfl,by rw[←O];rfl,by rw[←O];rfl⟩
 have u:e≠s.heap.objs.size:=cK (fB Q);rw[m];refine yl ?_;unfold zM;rw[xc];refine ar (WI F J X (xI _ _ _ _ _ T) (by exact d) I f W (S _ _ Q) λZ tk B D=>?_);show aj _ _ (mQ [_] h) _ _ _;have i:∀b o,g.get? b=some o->Z.get? b=some o:=λb o E=>B _ _ (λz=>by rw[z,n] at E;exact aN E) (d _ _ E);rw[xc];refine ar (WJ (v:=v) F J (s:={s with heap:=Z,toks:=tk}) (X.keeps i) I ?_ D λh3 tk3 U k3 G=>?_)
 ·refine c4 f λoo a2 a3 a4 a5=>?_;exact(c9 oo a2 a3 (B _ _ u.symm a4) a5)
 ·exact aI (hq _ _ _ (λb y m e=>k3 _ _ m (B _ _ m (S _ _ e))) G ⟨rfl,rfl,rfl⟩)
end
end Mine.Internal
end
section
open PySem PySem.W PyProof.Rows PySem.Calls PySem.Builtin
namespace Mine.Internal
def nX(K:bc):Prop:=∃b o c a,vg K b o c a/\∀x,sg K (ee x) b
theorem HT:∀x,(hZ x == ("__debug__" : az))=false
 |.ce=>by decide +kernel
 |.fu=>by decide +kernel
theorem WL{M:cV}{C:ax}{h:dp}{K:Obj}(O:h.get? C=some K)(F:K.cls=.type "type"):f0 M h (qV (.ref C) (.type "type")) true:=by
 refine Nn (a:=.type "type") ?_ (xl (by rw[lG];kernel_rfl));refine rF F ?_;exact(qU O).andThen .now
theorem HU:fx []:=λz F=>dx F
theorem HV(h:we q=true)(F:fx a):fx (q::a):=λz K=>(cW.mp K).elim (λe=>by refine rE e ?_;rcases q with _ |_<;>first |rfl |exact a9 h) (F z)
section
variable{Z:Zx}
theorem bg.ex(F:bg Z){h:Hp}{m:M}{s:ag}(R:ai Z.x h m s){x:Ex}{K:Pos}{Q E:af->ag->Prop}(O:Z.env.kindOf (hZ x)=some .globalImplicit)(q:Q (.ref (ee x)) s):aj Z.M Z.A (eval (.Name (hZ x) K) Z.env) Q E s :=
 F.name R O (F.FK.Gm x) (HT x) q
theorem WM(F:bg Z)(k:nX Z.K){x:Ex}{h:Hp}{m:M}{s:ag}{v:af}{E:PE}{A:bk}(l:A.depth+4<kj)(R:ai Z.x h m s)(q:E x h m){Q:af->ag->Prop}
  (n:∀a e t c,d7 s a->(∀b o,s.heap.get? b=some o->a.heap.get? b=some o)->a.heap.get? e=some (mn (ee x) t c)->eR Z.x E (.ref e) a->Q (.ref e) a) :
  cy Z.M A (.call (.ref (ee x)) ⟨[v],[]⟩) (mh Q λp p=>False) s:=by
 refine rg k λG o H f r O=>?_;have O:=O x;refine rh O.ex λg I N J L P sub U u Y k0 k1 X k3 k5 w y c3=>?_;have i:=xm;obtain⟨z,S⟩:=R.fr;have W:=F.X.keeps S.keep;have j:=W _ _ w;refine Wt i (by decide +kernel) i y j (looks_specialIn W O.call) (WL j rfl) (tH W O.init) (λT=>bind_fn W T O.fn) (by exact zL) ?_;have K:∀(b:ax) (o:Obj),s.heap.get? b=some o->((s.heap.push {cls:=.type "tuple",data:=.seq [v].toArray}).push (mn (ee x) s.heap.objs.size none)).get? b=some o:=λb o e=>dC _ (dC _ e);refine WK (tp:=s.heap.objs.size) r O F.X F.T (λb o e=>K _ _ (S.keep _ _ e)) (Internal.Fr.kP S (dc _)) (aV (dy (show 1<=4 by decide) _) l) (by heap_get) λd c t B V st=>?_;have X:∀b o,s.heap.get? b=some o->d.heap.get? b=some o:=λb o e=>B _ _ (cK (f6 (fB e))) (K _ _ e);have st:d7 s d:=⟨st.gens,st.os,st.drawn⟩
 obtain⟨C,D⟩:=R.r' (dc _) X V st;exact⟨rfl,n d _ t c st X V (SC x h m (nz _ _ _ rfl rfl rfl D (.inl ⟨rfl,C⟩)) q)⟩
theorem WN(F:bg Z)(b:nX Z.K){x:Ex}{M:X}{q:ao}{p1 c g:Pos}(w:Z.env.kindOf (hZ x)=some .globalImplicit)(y:we q=true)(S:SE Z M q):SS Z (.raise x M) (.Raise (some (.Call (.Name (hZ x) p1) [q] [] c)) none g):=by
 intro s h m Q E R O;have O:ev look ac (runs Z.n) Z.c M h m (λv h m=>(match gV v with |.some n=>n<=1000 |.none=>False)/\E x h m) E:=O;have T:=b;refine rg T λP o U i Y A=>?_;refine rh ((A x).ex) λn₀ j N bs bm sn sub ab col dd k0 k1 k2 k3 k5 B D c3=>?_;rw[arm_exec_Raise];refine cg ?_;show aj _ _ (DF Z.env (some (do let v ←eval (.Call (.Name (hZ x) p1) [q] [] c) Z.env;jE g;a8 v)) none) _ _ _;refine Wp (C:=ee x) (n₀:=n₀) (q:=j) (N:=N) (bs:=bs) (bm:=bm) (hdct:=true) (sn:=sn) (sub:=sub) (ab:=ab) (col:=col) (dd:=dd) (k0:=k0) (k1:=k1) (k2:=k2) (k3:=k3) (k5:=k5) (newId := "ValueError.__new__") (D _ _ xm.hasBase) F.handled ?_;refine ar (aF (r9 (HV y HU) (F.ex R w (uI (uH (aF (S R O) (λv G z=>?_) λV V z=>z))))) (λv K z=>cg (aI z)) λV V z=>z);obtain⟨u,H,m1,r1,l,⟨_,I⟩⟩:=z;obtain⟨J,W⟩:=l.fr;have p:=F.X.keeps W.keep _ _ B;refine yJ ⟨λE=>?_,kH (ja (WM F b (E:=E) (aV (ah (dy (show 4<=12 by decide) _) (dS (cP _ _) 12)) F.depth) l I (Q:=λv K=>∃e t a,v=.ref e/\K.heap.get? (ee x)=some (lL n₀ j (ee x) N bs bm true sn sub ab col dd k0 k1 k2 k3 k5 "ValueError.__new__") /\
   K.heap.get? e=some {cls:=.ref (ee x),dict:=a,data:=.fields #[.ref t,.none,.none,.none,.bool false,.none]}/\eR Z.x E (.ref e) K) λL e t a st k S z=>(kx e t a rfl (k _ _ p) S z)) λr L z=>?_)⟩
 ·obtain⟨hp,gg,d,tk,os⟩:=G;exact wpAny_keeperOf_exc p rfl
 ·induction r with
  |ok f=>rcases f with _ |_<;>first |exact z |exact z.elim
  |error e=>exact z.elim
end
theorem WO:∀ {a b:Ex},un a b=true->a=b
 |.ce,.ce,_=>rfl
 |.fu,.fu,_=>rfl
section
variable{x:Cx}{s:ag}{h:Hp}{m:M}{y:Ex}{e:af}
theorem WP{l:af->ag->Prop}
  (n:x.D=x.L) (V:f' x y e h m s) (q:∀s',f' x y e h m s'->Q () s'):aL t A (qX e none) Q l s:=by
 obtain⟨a,W,d,rfl,f,S,g,V⟩:=V;unfold qX;rcases V with ⟨O,R⟩ |⟨T,u,o,O,X,i,p,j,R⟩
 ·have K:=R.eT (bC ..);refine aw (jF K.1 S O ?_);refine rE (if_neg (show ¬(eY != eY)=true by decide)) ?_;exact wpAny_pure (q _ (nz a W d rfl f S g (.inl ⟨O,R⟩)))
 ·have K:=R.eT (q:=a) (y:=W) ((eA _ X.symm).trans (bC ..));have c:=R.eT (bC ..);refine aw (jF K.1 S O ?_);refine rE (if_pos (show(e' T != eY)=true from bne_iff_ne.mpr (λz=>nomatch z))) ?_;have k:3<o.size:=(xj.mp p).1;refine xg c.1 i k ?_;have F:=tL i (·.setIfInBounds 3 eY);have M:=hJ (oW (·.setIfInBounds 3 eY)) c.1 (xh F);exact q _ ⟨a,W,d,rfl,f,S,g,.inr ⟨T,_,_,O,X,F,xi k,j,R.pH (s':={s with heap:=s.heap.update T (oW (·.setIfInBounds 3 eY))}) ((eA _ X).trans j) (n▸c.2.1.symm) (λb y r e=>(lJ _ _ (fH r)).trans e) M ⟨rfl,rfl,rfl⟩⟩⟩
theorem f'.drop(F:x.D=x.L)(K:f' x y e h m s):ai x h m s:=by
 obtain⟨a,S,b,rfl,c,d,M,K⟩:=K;rcases K with ⟨V,R⟩ |⟨T,f,g,V,W,i,j,X,R⟩
 ·exact R.release M (F▸(R.eT (bC ..)).2.1.symm)
 ·have O:ai (x.bw a S) h m s:=R.release ((eA _ W).trans X) (F▸(R.eT (bC ..)).2.1.symm);exact O.release M (F▸(O.eT (bC ..)).2.1.symm)
theorem f'.at(F:f' x y e h m s):∃a b,e=.ref a/\s.heap.get? a=some b/\b.cls=.ref (ee y):=by
 obtain⟨a,b,S,rfl,K,V,W,F⟩:=F;rcases F with ⟨M,R⟩ |⟨T,X,c,M,O,d,f,g,R⟩
 ·exact(cb a b rfl ((R.eT (bC ..)).1) K)
 ·exact(cb a b rfl ((R.eT (q:=a) (y:=b) ((eA _ O.symm).trans (bC ..))).1) K)
end
section
variable{Z:Zx}
theorem WQ(d:Z.x.D=Z.x.L)(F:bg Z){A:bk}{s:ag}{h:Hp}{m:M}{z:Nm}{i j:Int}{p1 K O S e:Pos}{T:Nat}{E:af->ag->Prop}(g:Z.env.kindOf (nm z)=some .local)
  (R:ai Z.x h m s) (o:mget m z=some (.int i)) :
  aL Z.M A (mQ [.Assign [.Name (nm z) p1] (.BinOp (.Name (nm z) K) .Add (.Constant (.int j) T O) S) e] Z.env) (λf p=>f=.next/\ai Z.x h (bu m z (.int (i+j))) p) E s:=by
 rw[xc];refine aw ?_;rw[Do];refine aw (Np (aw (cR (a:=false) (show oR (.BinOp (.Name (nm z) K) .Add (.Constant (.int j) T O) S) (some (.Name (nm z) p1)) e.line Z.env=a8 false from pJ rfl) ?_)));show aL _ _ (do
  let v ←eval (.BinOp (.Name (nm z) K) .Add (.Constant (.int j) T O) S) Z.env
  Dp Z.env v (←oS [.Name (nm z) p1] (.BinOp (.Name (nm z) K) .Add (.Constant (.int j) T O) S) Z.env) ((lK [.Name (nm z) p1] Z.env).map (·.2))) _ _ _
 refine ak R.aa λG N q=>?_;refine D8 (q z _ o) λr y t V=>?_;subst V;refine aw (wpAny_BinOp (tj (tm F.kind g (by rw[F.locs];exact N) y (CW (gn (GS (op:=.add) (u:=.int i) (v:=.int j) (Q:=λv h'=>v=.int (i+j)/\h'=h) (R.toks (s.toks+1)) ⟨_,rfl⟩ ⟨_,rfl⟩ ⟨rfl,rfl⟩) (λH I w=>?_) λB B x=>x))) (r4 z)));refine eb w λv J C k W X=>?_;subst W;subst X;obtain⟨b,rfl⟩:=C;refine aw (cR (a:=none) rfl ?_);show aL _ _ (do Dn (.int (i+j) b) ((lK [.Name (nm z) p1] Z.env).map (·.2));a8 Dq) _ _ _;refine aw ?_;show aL _ _ (assign (.Name (nm z) p1) Z.env (.int (i+j) b)) _ _ _;rw[tB];refine ak k.aa λL D c=>?_;refine aw (Np (wpAny_bindName (MA g (by rw[F.locs];exact D) (λh' l n=>?_) (G8 F.kind))));rw[F.locs,d] at l n;exact wpAny_pure (wpAny_pure ⟨rfl,k.bound (u:=.int (i+j)) (h:=h') (h':=h') d c ⟨b,rfl⟩ l n.2 ⟨rfl,rfl,rfl⟩⟩)
theorem WR(W:Z.x.D=Z.x.L)(F:bg Z)(RO:nX Z.K){b:List S}{x:Ex}{z:Nm}{i:Int}{D:List bz}{u:Nat}{p1 n p3 p4 p5 p6 p7 p8:Pos}(p:Z.lam.st=true)(hk:Z.env.kindOf (hZ x)=some .globalImplicit)(hz:Z.env.kindOf (nm z)=some .local)(hb:iG Z b D):
  SS Z (.try b x z i) (.Try D (BG (hZ x) (nm z) i u p1 n p3 p4 p5 p6 p7) [] [] p8):=by
 intro s h m Q E R r;have r:aE look ac (runs Z.n) Z.c b h m Q λy h m=>(un y x=true/\(match mget m z with |.some (.int d)=>Q .next h (bu m z (.int (d+i))) |_=>False)):=r;unfold BG;rw[arm_exec_Try];refine cg ?_;unfold tryStmt;rw[if_pos (show([]:List bz).isEmpty=true from rfl)];refine ar (Fu (aF (hb R r) (λf s1 w=>?_) (λe s1 w=>?_)))
 ·refine uZ w λfl K V rf k O=>?_;induction rf with
  |next=>exact aI (eB .next K V .next k O)
  |brk=>exact aI (eB .brk K V .brk k O)
  |cont=>exact aI (eB .cont K V .cont k O)
  |ret rv=>exact aI (eB (.ret _) K V (.ret rv) k O)
 ·refine fJ w λy K V G hs O=>?_;rw[WO hs] at G;induction c:mget V z with
  |none=>rw[c] at O;exact O.elim
  |some iv =>
  rw[c] at O;rcases iv with _ |_<;>first |exact O.elim |skip
  refine tV (F.top p) λt fs H=>?_;refine cr F.nS λfs' v M X=>?_;cases H.symm.trans v;have g:=zK (pg:=Z.pg) (w:=Z.w) F.X W t H X F.handled G;unfold oE at g;intro l I hΓ J;have g:=g l I hΓ J;rw[tc] at g ⊢;refine kh _ l _ (λM p' s' q=>?_) (λM M M q=>q.elim) I _ g;show BM _ _ (qX e none>>=λM=>handleBy e Z.env _) _ _ _ _;rw[tc];refine kh _ l _ (λM n L A=>?_) (λM M M q=>q.elim) p' s' q;refine rg RO λfI o fd P IF EC=>?_;refine rh ((EC x).ex) λU q' N bs bm sn sub ab col dd k0 k1 k2 k3 k5 c1 c2 c3=>?_;refine bL A.at λa oe B he j=>?_;subst B;obtain⟨μ,Fr⟩:=(A.drop W).fr;have hC:=Fr.keep _ _ (F.X _ _ c1);refine ku F.T λppp C Y mg mb T=>?_;refine(bj ?_:aj Z.M Z.A (handleBy (.ref a) Z.env _) _ _ L) l n hΓ J;refine wpAny_handleBy_cons (codeAny_handlers_test ?_) (by intro q;rcases q with ⟨⟩);refine wE F.kind hk (Lh (by rw[F.glob];exact T.g.keeps Fr.keep) (wF F.X T.g (F.FK.Gm x)) ?_) (HT x);obtain⟨hh,gg,dd',tk,os⟩:=L;refine wpAny_excMatches_sub_self hC he j (c2 _ _ xm.hasBase) (codeAny_handlers_suite ?_);refine WP W A λs3 X3=>?_;exact gn (WQ W F hz (X3.drop W) c) (λf s4 w=>by refine rp w λR4=>?_;exact(eB .next _ _ .next R4 O)) λM M z=>z
end
end Mine.Internal
end
section
open PySem PySem.W PyProof.Rows PySem.Calls
namespace Mine.Internal
structure Ctx(Z:Zx):Prop where
 F:bg Z
 hD:Z.x.D=Z.x.L
 hC:jX Z.K Z.pg Z.w Z.n
 hL:u8 Z.K Z.pg Z.w Z.n
 RO:nX Z.K
structure WE(Z:Zx)(e:X)(pe:ao):Prop where
 run:SE Z e pe
structure WB(Z:Zx)(e:X)(pe:ao):Prop where
 run:SB Z e pe
structure zN(Z:Zx)(es:List X)(ps:List ao):Prop where
 run:gy Z es ps
def ME(e:X):Prop:=∀ {Z:Zx} {pe:ao},Ctx Z->bY Z.lam Z.env.kindOf e pe=true->WE Z e pe
def MB(e:X):Prop:=∀ {Z:Zx} {pe:ao},Ctx Z->jc Z.lam Z.env.kindOf e pe=true->WB Z e pe
def ib(K:List X):Prop:=∀ {Z:Zx} {F:List ao},Ctx Z->jb Z.lam Z.env.kindOf K F=true->zN Z K F/\fx F/\K.length=F.length
theorem gb(h:nO a y x=true):x=y/\a y=some .globalImplicit:=⟨seq_eq (an h).1,dn (an h).2⟩
theorem WT:ME .none:=λC F=>nJ F λv u p h=>Si (G:=λv=>WE _ _ (.Constant v u p)) h λK=>⟨SJ⟩
theorem WU:ME (.bool b):=λC F=>nJ F λv u p h=>Sj (G:=λv=>WE _ _ (.Constant v u p)) h λc h=>dn h▸⟨SK⟩
theorem WV{i:Int}:ME (.int i):=λC F=>nJ F λv u p h=>yy (G:=λv=>WE _ _ (.Constant v u p)) h λc h=>dn h▸⟨SL⟩
theorem WW:ME (.str s):=λC F=>nJ F λv u p h=>Sk (G:=λv=>WE _ _ (.Constant v u p)) h λc h=>seq_eq h▸⟨SM⟩
theorem WX:ME .lX:=λC F=>nJ F λv u p h=>Sl (G:=λv=>WE _ _ (.Constant v u p)) h λl h=>dX (G:=λl=>WE _ _ (.Constant (.bytes l) u p)) h λK=>⟨SN⟩
theorem HW:ME (.aa x):=λC F=>dY F λy p h=>by
 refine rF (seq_eq (an h).1) ?_;exact⟨λ{c d e f g} b a=>SO C.F (by refine rE (seq_eq (an h).1) ?_;exact dn (an h).2) b a⟩
theorem WY:ME (.bh x):=λC F=>dY F λy p h=>by
 refine rF (seq_eq (an h).1) ?_;exact⟨λ{c d e f g} b a=>SQ C.F (by refine rE (seq_eq (an h).1) ?_;exact dn (an h).2) b a⟩
theorem WZ:ME (.dF x):=λC F=>dY F λy p h=>by
 refine rF ((gb h).1) ?_;exact⟨λ{c d e f g} b a=>SR C.F (by refine rE ((gb h).1) ?_;exact(gb h).2) b a⟩
theorem HX(F:ib j):ME (.aD f j):=λC O=>jS O λq K M p h=>dX (G:=λM=>WE _ _ (.Call q K M p)) h λh=>dY (G:=λq=>WE _ _ (.Call q K [] p)) h λy p1 h =>
 ⟨λ{c d e g i} b a=>Vx C.F C.hC (dn (an (an h).1).1) (dn (an (an h).1).2) (F C (an h).2).2.1 (F C (an h).2).1.run b a⟩
theorem W0(F:ib j):ME (.bN c j):=λC O=>jS O λq K M p h=>dX (G:=λM=>WE _ _ (.Call q K M p)) h λh=>dY (G:=λq=>WE _ _ (.Call q K [] p)) h λy p1 h=>by
 refine rF ((gb (an h).1).1) ?_;exact⟨λ{d e f g i} b a=>VF C.F C.hC (by refine rE ((gb (an h).1).1) ?_;exact(gb (an h).1).2) (F C (an h).2).2.1 (F C (an h).2).1.run b a⟩
theorem W1(F:ib j):ME (.aB b j):=λC O=>jS O λq K M p h=>dX (G:=λM=>WE _ _ (.Call q K M p)) h λh=>dY (G:=λq=>WE _ _ (.Call q K [] p)) h λy p1 h=>by
 refine rF ((gb (an h).1).1) ?_;exact⟨λ{d e f g i} c a=>UI C.F (by refine rE ((gb (an h).1).1) ?_;exact(gb (an h).1).2) (F C (an h).2).2.1 (F C (an h).2).1.run c a⟩
theorem W3:ME (.lY x):=λC M=>jS M λq F K p h=>dX (G:=λK=>WE _ _ (.Call q F K p)) h λh=>dX (G:=λF=>WE _ _ (.Call q F [] p)) h λh=>dY (G:=λq=>WE _ _ (.Call q [] [] p)) h λy p1 h=>by
 refine rF (seq_eq (an h).1) ?_;exact⟨λ{c d e f g} b a=>VM C.F C.hL (by refine rE (seq_eq (an h).1) ?_;exact dn (an h).2) b a⟩
theorem HY(V:ME o)(F:ib k):ME (.ay o f k):=λC W=>jS W λq K M p h=>dX (G:=λM=>WE _ _ (.Call q K M p)) h λh=>nK (G:=λq=>WE _ _ (.Call q K [] p)) h λu y p1 h=>by
 have O:=an h;have R:=an O.1;have S:=an R.2;have T:=an S.2;have g:=an O.2;refine rF (seq_eq R.1) ?_;exact⟨λ{c d e i j} b a=>VA C.F C.hC T.2 (F C g.2).2.1 (dn S.1) (dn T.1) (V C g.1).run (F C g.2).1.run b a⟩
theorem W5(M:ib k):ME (.jP c k):=λC V=>jS V λq F O p h=>dX (G:=λO=>WE _ _ (.Call q F O p)) h λh=>nK (G:=λq=>WE _ _ (.Call q F [] p)) h λu y p1 h =>
 dY (G:=λu=>WE _ _ (.Call (.Attribute u y p1) F [] p)) h λz W h=>by
 have K:=an h;have R:=an K.1;have S:=an R.2;have T:=an S.2;have g:=gb T.2;refine rF (seq_eq R.1) (rF g.1 ?_);exact⟨λ{d e f i j} b a=>Vy C.F C.hC (by refine rE g.1 ?_;exact g.2) (M C K.2).2.1 (dn S.1) (dn T.1) (M C K.2).1.run b a⟩
theorem W6(M:ME o):ME (.aA o f):=λC O=>nK O λq y p h=>by
 have F:=an h;have K:=an F.1;refine rF (seq_eq K.1) ?_;exact⟨λ{c d e g i} b a=>VJ C.F C.hC K.2 (M C F.2).run b a⟩
theorem W7(F:ME a)(K:ME b):ME (.bin k a b):=λC M=>Fx M λO o R p h=>by
 refine rF (dn (an h).1) ?_;exact⟨λ{e f g i j} d c=>Uk (F C (an (an h).2).1).run (K C (an (an h).2).2).run d c⟩
theorem W8(F:ME a):ME (.neg a):=λC K=>yo K λo M p h=>by
 refine rE (dn (an h).1) ?_;exact⟨λ{d e f g i} c b=>SU (F C (an h).2).run c b⟩
theorem W9(M:ME a)(O:ME b):ME (.cmp a k b):=λC R=>yp R λK os F p h=>eQ (G:=λos=>WE _ _ (.Compare K os F p)) h λo h=>eQ (G:=λF=>WE _ _ (.Compare K [o] F p)) h λS h=>by
 refine rF (dn (an h).1) ?_;exact⟨λ{e f g i j} d c=>Ta C.F (M C (an (an h).2).1).run (O C (an (an h).2).2).run d c⟩
theorem W'(K:ME a)(M:ME b):ME (.and a b):=λC O=>yq O λo F p h=>by
 refine rE (dn (an h).1) ?_;exact ew (G:=λF=>WE _ _ (.BoolOp .And F p)) (an h).2 λR r h=>ew (G:=λr=>WE _ _ (.BoolOp .And (R::r) p)) h λS r h=>⟨λ{e f g i j} d c=>Te (K C (an h).1).run (M C (an h).2).run d c⟩
theorem Xa(F:MB t)(K:ME a)(M:ME b):ME (.ite t a b):=λC O=>Sa O λR S T p h=>⟨λ{e f g i j} d c=>Th (F C (an h).1).run (K C (an (an h).2).1).run (M C (an (an h).2).2).run d c⟩
theorem Xb(F:ME o)(K:ME i):ME (.sub o i):=λC M=>uA M λO R p h=>⟨λ{c d e f g} b a=>Up C.F (F C (an (an h).2).1).run (K C (an (an h).2).2).run b a⟩
theorem Xc(h:uE x=true):x=.absent:=by rcases x with _ |_<;>first |rfl |exact a9 h
theorem HZ(F:ME x){Z:Zx}(C:Ctx Z){l:Option ao}(h:uF l (λe=>bY Z.lam Z.env.kindOf x e) (uE x)=true):SP Z x l:=by
 induction l with
 |none=>rw[Xc h];exact Ur
 |some e=>exact Uq (F C h).run
theorem Xd{o lo M:X}(R:ME o)(F:ME lo)(K:ME M):ME (.slice o lo M):=λC S=>uA S λO w p h=>Fz (G:=λw=>WE _ _ (.Subscript O w p)) h λl u st p1 h=>pq (G:=λst=>WE _ _ (.Subscript O (.Slice l u st p1) p)) h λh =>
 ⟨λ{c d e f g} b a=>Us (R C (an h).1).run (HZ F C (an (an h).2).1) (HZ K C (an (an h).2).2) b a⟩
theorem Xe{G:ao->Prop}(h:F8 w b=true)(k:b=true->∀p1 d a u,G (KN p1 d a u)):G w:=Fz h λl u st a h=>pq (G:=λl=>G (.Slice l u st a)) h λh=>pq (G:=λu=>G (.Slice none u st a)) h λh =>
 ey (G:=λst=>G (.Slice none none st a)) h λm h=>yo (G:=λm=>G (.Slice none none (some m) a)) h λo c d h=>by
  refine rE (dn (an h).1) ?_;exact nJ (G:=λc=>G (.Slice none none (some (.UnaryOp .USub c d)) a)) (an h).2 λv u p1 h=>yy (G:=λv=>G (.Slice none none (some (.UnaryOp .USub (.Constant v u p1) d)) a)) h λj h=>by
   refine rE (dn (an h).1) ?_;exact k (an h).2 p1 d a u
theorem Xf{o:X}(F:ME o):ME (.rev o):=λC K=>uA K λM w p h=>Xe (G:=λw=>WE _ _ (.Subscript M w p)) h λh p1 O R u=>⟨λ{c d e f g} b a=>Ut (F C h).run b a⟩
theorem Xg(F:ib i):ME (.list i):=λC K=>Sb K λM p h=>⟨λ{c d e f g} b a=>Uw (F C (an h).2).2.1 ((F C (an h).2).2.2▸dn (an h).1) (F C (an h).2).1.run b a⟩
theorem Xh(F:ib i):ME (.tup i):=λC K=>yt K λM u p h=>⟨λ{c d e f g} b a=>Ux (F C (an h).2).2.1 ((F C (an h).2).2.2▸dn (an h).1) (F C (an h).2).1.run b a⟩
theorem Xi:ME .jQ:=λC F=>Sc F λa b p h=>dX (G:=λa=>WE _ _ (.Dict a b p)) h λh=>dX (G:=λb=>WE _ _ (.Dict [] b p)) h λK=>⟨λ{e f g i j} d c=>Uy C.F d c⟩
theorem Xj:ME (.lam i):=λC F=>Se F λK b M p h=>⟨λ{d e f g j} c a=>VN C.F h c a⟩
theorem Xk:ib []:=λC K=>dX (G:=λF=>zN _ [] F/\fx F/\0=F.length) K λM=>(aH ⟨λ{c d e f g} b a=>Uu b a⟩ HU rfl)
theorem Xl(M:ME e)(F:ib c):ib (e::c):=λC O=>ew (G:=λK=>zN _ (e::c) K/\fx K/\c.length+1=K.length) O λq K h =>
 (aH ⟨λ{d f g i j} b a=>Uv (M C (an (an h).2).1).run (F C (an (an h).2).2).1.run b a⟩ (HV (an h).1 (F C (an (an h).2).2).2.1) (congrArg w7 (F C (an (an h).2).2).2.2))
theorem Ctx.pt(C:Ctx Z){p:Pt}(e:p.fr=Z.x.p.fr):Ctx (Z.pt p):=⟨C.F.pt e,C.hD,C.hC,C.hL,C.RO⟩
theorem Xm(F:MB a):MB (.not a):=λC K=>yo K λo M p h=>by
 refine rE (dn (an h).1) ?_;exact⟨λ{d e f g i} c b=>SV (F C (an h).2).run c b⟩
theorem Xn(M:ME a)(O:ME b):MB (.cmp a k b):=λC R=>yp R λK os F p h=>eQ (G:=λos=>WB _ _ (.Compare K os F p)) h λo h=>eQ (G:=λF=>WB _ _ (.Compare K [o] F p)) h λS h=>by
 refine rF (dn (an h).1) ?_;exact⟨λ{e f g i j} d c=>Tb C.F (M C (an (an h).2).1).run (O C (an (an h).2).2).run d c⟩
theorem Xo(O:ME a)(R:ME b)(S:ME d):MB (.fN a m b l d):=λC T=>yp T λF os K p h=>ew (G:=λos=>WB _ _ (.Compare F os K p)) h λo r h=>eQ (G:=λr=>WB _ _ (.Compare F (o::r) K p)) h λM h =>
 ew (G:=λK=>WB _ _ (.Compare F [o,M] K p)) h λV r h=>eQ (G:=λr=>WB _ _ (.Compare F [o,M] (V::r) p)) h λW h=>by
 refine rF (dn (an (an h).1).1) (rF (dn (an (an h).1).2) ?_);exact⟨λ{f g i j k} e c=>Tc C.F (O C (an (an h).2).1).run (R C (an (an (an h).2).2).1).run (S C (an (an (an h).2).2).2).run e c⟩
theorem Xp(K:MB a)(M:MB b):MB (.and a b):=λC O=>yq O λo F p h=>by
 refine rE (dn (an h).1) ?_;exact ew (G:=λF=>WB _ _ (.BoolOp .And F p)) (an h).2 λR r h=>ew (G:=λr=>WB _ _ (.BoolOp .And (R::r) p)) h λS r h=>⟨λ{e f g i j} d c=>Tf (K C (an h).1).run (M C (an h).2).run d c⟩
theorem Xq(K:MB a)(M:MB b):MB (.or a b):=λC O=>yq O λo F p h=>by
 refine rE (dn (an h).1) ?_;exact ew (G:=λF=>WB _ _ (.BoolOp .Or F p)) (an h).2 λR r h=>ew (G:=λr=>WB _ _ (.BoolOp .Or (R::r) p)) h λS r h=>⟨λ{e f g i j} d c=>Tg (K C (an h).1).run (M C (an h).2).run d c⟩
def zO(F:Env)(pe:ao):Prop:=isTrue pe F (eval pe F)=(do let v ←eval pe F;jE pe.pos;hE [v] (mP v))
theorem Xr(K:ME o)(M:ib j):MB (.ay o f j):=λ{Z} _ C c=>⟨λ{d e g h i} b a=>yS (jS (G:=zO Z.env) c λF F F F F=>rfl) (HY K M C c).run b a⟩
theorem Xs(K:ib j):MB (.aD f j):=λ{Z} _ C c=>⟨λ{d e g h i} b a=>yS (jS (G:=zO Z.env) c λF F F F F=>rfl) (HX K C c).run b a⟩
theorem Xu:MB (.aa x):=λ{Z} _ C c=>⟨λ{d e f g h} b a=>yS (dY (G:=zO Z.env) c λF F F=>rfl) (HW C c).run b a⟩
theorem Xv(h:yE x=true):x=.bool true:=by rcases x with _ |_<;>first |(cases h;rfl) |cases h
theorem Xw(C:Ctx Z){cond:X}(K:MB cond){F:List ao}(h:F9 F (λd=>jc Z.lam Z.env.kindOf cond d) (yE cond)=true):pO Z cond F:=by
 induction F with
 |nil=>refine rE (Xv h) ?_;exact .all
 |cons d r=>exact dX (G:=λr=>pO Z cond (d::r)) h λh=>.one (K C h).run
theorem Ctx.sub(C:Ctx Z){K:dK}{M:Obj}{L:ax}{O:ag}{R:Pt}(F:bg ((Z.sub K M L O).pt R)):Ctx ((Z.sub K M L O).pt R):=⟨F,rfl,C.hC,C.hL,C.RO⟩
theorem H0(F:bg Z){K:dK}{M:Obj}{L:ax}{O:ag}{R:Pt}:((Z.sub K M L O).pt R).env.kindOf=iF K Z.env.kindOf:=funext (zD F.kind)
theorem Xx{K O cond:X}{x:Nm}(W:ME K)(l:ME O)(m:MB cond):ME (.comp K x O cond):=λC n=>Sd n λe R S p h=>eQ (G:=λR=>WE _ _ (.ListComp e R S p)) h λg h=>by
 obtain⟨t,q,M,a⟩:=g;rw[show a=0 from dn (an h).1];refine dY (G:=λt=>WE _ _ (.ListComp e [⟨t,q,M,0⟩] S p)) (an h).2 λy p1 h=>?_;have T:=an (an h).2;have V:=an T.2;exact⟨λ{d f i j k} c b=>V6 C.hD C.F (an h).1 (l C T.1).run (λo L r s u F=>(W (C.sub F) (by refine rE (H0 C.F) ?_;exact V.1)).run) (λo L r s u F=>Xw (C.sub F) m (by refine rE (H0 C.F) ?_;exact V.2)) c b⟩
structure WS(Z:Zx)(e:S)(st:bz):Prop where
 run:SS Z e st
structure zP(Z:Zx)(es:List S)(sts:List bz):Prop where
 run:iG Z es sts
def MS(e:S):Prop:=∀ {Z:Zx} {st:bz},Ctx Z->Gc Z.lam Z.env.kindOf e st=true->WS Z e st
def jY(K:List S):Prop:=∀ {Z:Zx} {F:List bz},Ctx Z->je Z.lam Z.env.kindOf K F=true->zP Z K F
theorem H1(h:BB o=true):o=.add:=by rcases o with _ |_<;>first |rfl |exact a9 h
theorem Xy(F:ME e):MS (.expr e):=λC K=>FT K λq p h=>⟨λ{c d f g i} b a=>U3 C.F (an h).1 (F C (an h).2).run b a⟩
theorem Xz(K:ME e):MS (.assign x e):=λC M=>px M λF q p h=>eQ (G:=λF=>WS _ _ (.Assign F q p)) h λt h=>dY (G:=λt=>WS _ _ (.Assign [t] q p)) h λy p1 h =>
 ⟨λ{c d f g i} b a=>U7 C.hD C.F (an (an h).1).1 (an (an h).1).2 (K C (an h).2).run b a⟩
theorem XA(K:ME o)(M:ME e):MS (.setattr o f e):=λC O=>px O λF q p h=>eQ (G:=λF=>WS _ _ (.Assign F q p)) h λt h=>nK (G:=λt=>WS _ _ (.Assign [t] q p)) h λu y p1 h=>by
 refine rF (seq_eq (an h).1) ?_;exact⟨λ{c d g i j} b a=>U9 C.F (K C (an (an h).2).1).run (M C (an (an h).2).2).run b a⟩
theorem XB(K:ME o)(M:ME i)(O:ME e):MS (.fv o i e):=λC R=>px R λF q p h=>eQ (G:=λF=>WS _ _ (.Assign F q p)) h λt h=>uA (G:=λt=>WS _ _ (.Assign [t] q p)) h λu w p1 h =>
 ⟨λ{c d f g j} b a=>U' (K C (an (an h).2).1).run (M C (an (an (an h).2).2).1).run (O C (an (an (an h).2).2).2).run b a⟩
theorem XC(K:ME e):MS (.unpack k e):=λC M=>px M λF q p h=>eQ (G:=λF=>WS _ _ (.Assign F q p)) h λt h=>yt (G:=λt=>WS _ _ (.Assign [t] q p)) h λO a p1 h =>
 ⟨λ{d f g i j} c b=>Vj C.hD C.F (Ts.of (an (an h).1).1) (an (an (an h).1).2).1 (an (an (an h).1).2).2 (K C (an h).2).run c b⟩
theorem XD(O:ME e):MS (.aug x j e):=λC R=>FU R λt o q p h=>by
 refine rE (dn (an h).1) ?_;refine dY (G:=λt=>WS _ _ (.AugAssign t .Add q p)) (an h).2 λy p1 h=>?_;have K:=an h;have F:=an K.1;have M:=an F.2;refine rF (seq_eq F.1) (rE (H1 M.2) ?_);exact⟨λ{c d f g i} b a=>Vk C.hD C.F (by refine rE (seq_eq F.1) ?_;exact dn M.1) (O C K.2).run b a⟩
theorem XE(M:ME o)(O:ME e):MS (.i5 o f k e):=λC R=>FU R λt S q p h=>by
 refine rE (dn (an h).1) ?_;refine nK (G:=λt=>WS _ _ (.AugAssign t .Add q p)) (an h).2 λu y p1 h=>?_;have F:=an h;have K:=an F.1;refine rF (seq_eq K.1) (rE (H1 K.2) ?_);exact⟨λ{c d g i j} b a=>Vl C.F (M C (an F.2).1).run (O C (an F.2).2).run b a⟩
theorem XF(F:MB t)(K:jY a)(M:jY b):MS (.ite t a b):=λC O=>Sm O λR S T p h=>⟨λ{e f g i j} d c=>U6 (F C (an h).1).run (K C (an (an h).2).1).run (M C (an (an h).2).2).run d c⟩
theorem XG(F:MB t)(K:jY b):MS (.while t b):=λC M=>Sn M λO R e p h=>dX (G:=λe=>WS _ _ (.While O R e p)) h λh=>⟨λ{d f g i j} c a=>Vr (F C (an h).1).run (K C (an h).2).run c a⟩
theorem XH(K:ME k)(M:jY b):MS (.for x k b):=λC O=>FX O λt q F e p h=>dX (G:=λe=>WS _ _ (.For t q F e p)) h λh=>dY (G:=λt=>WS _ _ (.For t q F [] p)) h λy p1 h =>
 ⟨λ{d f g i j} c a=>Vp C.hD C.F (an (an h).1).1 (an (an h).1).2 (K C (an (an h).2).1).run (λR e=>(M (C.pt e) (an (an h).2).2).run) c a⟩
theorem XI(K:ME l)(M:jY b):MS (.gU x y l b):=λC O=>FX O λt q F e p h=>dX (G:=λe=>WS _ _ (.For t q F e p)) h λh=>yt (G:=λt=>WS _ _ (.For t q F [] p)) h λR a p1 h =>
 ⟨λ{f g i j k} d c=>Vq C.hD C.F (Ts.of (an (an h).1).1) (an (an h).1).2 (K C (an (an h).2).1).run (λS e=>(M (C.pt e) (an (an h).2).2).run) d c⟩
theorem XJ(h:F' x=true):x=.none:=by rcases x with _ |_<;>first |rfl |exact a9 h
theorem XK(F:ME e):MS (.ret e):=λC K=>So K λo p h=>by
 induction o with
 |none=>refine rE (XJ h) ?_;exact⟨λ{c d f g i} b a=>U5 b a⟩
 |some q=>exact⟨λ{c d f g i} b a=>U4 (F C h).run b a⟩
theorem XM:MS .brk:=λC F=>Sp F λp K=>⟨λ{c d e f g} b a=>U0 b a⟩
theorem XN:MS .cont:=λC F=>Sq F λp K=>⟨λ{c d e f g} b a=>U1 b a⟩
theorem XO:MS .pass:=λC F=>Sr F λp K=>⟨λ{c d e f g} b a=>U2 b a⟩
theorem XQ(M:ME d):MS (.raise x d):=λC O=>Ss O λe c p h=>pq (G:=λc=>WS _ _ (.Raise e c p)) h λh=>ey (G:=λe=>WS _ _ (.Raise e none p)) h λe h=>jS (G:=λe=>WS _ _ (.Raise (some e) none p)) h λq F K p1 h =>
 dX (G:=λK=>WS _ _ (.Raise (some (.Call q F K p1)) none p)) h λh=>eQ (G:=λF=>WS _ _ (.Raise (some (.Call q F [] p1)) none p)) h λm h=>dY (G:=λq=>WS _ _ (.Raise (some (.Call q [m] [] p1)) none p)) h λy R h=>by
 refine rF ((gb (an (an h).1).1).1) ?_;exact⟨λ{f g i j k} b a=>WN C.F C.RO (by refine rE ((gb (an (an h).1).1).1) ?_;exact(gb (an (an h).1).1).2) (an (an h).1).2 (M C (an h).2).run b a⟩
theorem XR{G:ExceptHandler->Prop}(e:Ga h f=true)(k:∀t n b p,f t n b=true->G (.ExceptHandler t n b p)):G h:=by
 cases h with
 |ExceptHandler t n b p=>exact k t n b p e
theorem XS{G:List ExceptHandler->Prop}(h:Gb p f=true)(k:∀y z j u p1 g l m i e d,f y z j=true->G (BG y z j u p1 g l m i e d)):G p :=
 eQ h λF h=>XR (G:=λF=>G [F]) h λt n b d h=>pq (G:=λn=>G [.ExceptHandler t n b d]) h λh=>ey (G:=λt=>G [.ExceptHandler t none b d]) h λt h=>dY (G:=λt=>G [.ExceptHandler (some t) none b d]) h λy p1 h =>
 eQ (G:=λb=>G [.ExceptHandler (some (.Name y p1)) none b d]) h λst h=>px (G:=λst=>G [.ExceptHandler (some (.Name y p1)) none [st] d]) h λK q e h=>eQ (G:=λK=>G [.ExceptHandler (some (.Name y p1)) none [.Assign K q e] d]) h λt h =>
 dY (G:=λt=>G [.ExceptHandler (some (.Name y p1)) none [.Assign [t] q e] d]) h λz g h=>Fx (G:=λq=>G [.ExceptHandler (some (.Name y p1)) none [.Assign [.Name z g] q e] d]) h λa o c i h=>by
  refine rE (dn (an h).1) ?_;refine dY (G:=λa=>G [.ExceptHandler (some (.Name y p1)) none [.Assign [.Name z g] (.BinOp a .Add c i) e] d]) (an h).2 λM l h=>?_;refine rF (seq_eq (an h).1) ?_;exact nJ (G:=λc=>G [.ExceptHandler (some (.Name y p1)) none [.Assign [.Name z g] (.BinOp (.Name z l) .Add c i) e] d]) (an h).2 λv u m h=>yy (G:=λv=>G [.ExceptHandler (some (.Name y p1)) none [.Assign [.Name z g] (.BinOp (.Name z l) .Add (.Constant v u m) i) e] d]) h λj h=>k y z j u p1 g l m i e d h
theorem XT{i:Int}(W:jY b):MS (.try b x z i):=λC X=>Su X λM F S O p h=>dX (G:=λS=>WS _ _ (.Try M F S O p)) h λh=>dX (G:=λO=>WS _ _ (.Try M F [] O p)) h λh =>
 XS (G:=λF=>WS _ _ (.Try M F [] [] p)) (an h).1 λy m j u p1 n o q r s t g=>by
  have T:=an g;have K:=an T.2;have R:=an K.2;have V:=an R.2;refine rF ((gb K.1).1) (rF (seq_eq R.1) (rF (dn V.2) ?_));exact⟨λ{d e f k l} c a=>WR C.hD C.F C.RO T.1 (by refine rE ((gb K.1).1) ?_;exact(gb K.1).2) (by refine rE (seq_eq R.1) ?_;exact dn V.1) (W C (an h).2).run c a⟩
theorem XU:jY []:=λC F=>dX (G:=λK=>zP _ [] K) F λM=>⟨λ{c d e f g} b a=>UY b a⟩
theorem XV(K:MS e)(F:jY c):jY (e::c):=λC M=>ew (G:=λO=>zP _ (e::c) O) M λt r h=>⟨λ{d f g i j} b a=>UZ (K C (an h).1).run (F C (an h).2).run b a⟩
mutual
theorem bK:∀e:X,ME e/\MB e
 |.none=>⟨WT,(λC F=>a9 F)⟩
 |.absent=>⟨(λC F=>a9 F),(λC F=>a9 F)⟩
 |.bool b=>⟨WU,(λC F=>a9 F)⟩
 |.int i=>⟨WV,(λC F=>a9 F)⟩
 |.str s=>⟨WW,(λC F=>a9 F)⟩
 |.lX=>⟨WX,(λC F=>a9 F)⟩
 |.aa x=>⟨HW,Xu⟩
 |.bh x=>⟨WY,(λC F=>a9 F)⟩
 |.dF x=>⟨WZ,(λC F=>a9 F)⟩
 |.aD f g=>⟨HX (jZ g),Xs (jZ g)⟩
 |.bN c g=>⟨W0 (jZ g),(λC F=>a9 F)⟩
 |.aB b g=>⟨W1 (jZ g),(λC F=>a9 F)⟩
 |.lY x=>⟨W3,(λC F=>a9 F)⟩
 |.ay o f g=>⟨HY (bK o).1 (jZ g),Xr (bK o).1 (jZ g)⟩
 |.jP c g=>⟨W5 (jZ g),(λC F=>a9 F)⟩
 |.aA o f=>⟨W6 (bK o).1,(λC F=>a9 F)⟩
 |.bin k a b=>⟨W7 (bK a).1 (bK b).1,(λC F=>a9 F)⟩
 |.neg a=>⟨W8 (bK a).1,(λC F=>a9 F)⟩
 |.not a=>⟨(λC F=>a9 F),Xm (bK a).2⟩
 |.cmp a k b=>⟨W9 (bK a).1 (bK b).1,Xn (bK a).1 (bK b).1⟩
 |.fN a k b l d=>⟨(λC F=>a9 F),Xo (bK a).1 (bK b).1 (bK d).1⟩
 |.and a b=>⟨W' (bK a).1 (bK b).1,Xp (bK a).2 (bK b).2⟩
 |.or a b=>⟨(λC F=>a9 F),Xq (bK a).2 (bK b).2⟩
 |.ite t a b=>⟨Xa (bK t).2 (bK a).1 (bK b).1,(λC F=>a9 F)⟩
 |.sub o i=>⟨Xb (bK o).1 (bK i).1,(λC F=>a9 F)⟩
 |.slice o lo m=>⟨Xd (bK o).1 (bK lo).1 (bK m).1,(λC F=>a9 F)⟩
 |.rev o=>⟨Xf (bK o).1,(λC F=>a9 F)⟩
 |.list h=>⟨Xg (jZ h),(λC F=>a9 F)⟩
 |.tup h=>⟨Xh (jZ h),(λC F=>a9 F)⟩
 |.jQ=>⟨Xi,(λC F=>a9 F)⟩
 |.comp j x n cond=>⟨Xx (bK j).1 (bK n).1 (bK cond).2,(λC F=>a9 F)⟩
 |.lam i=>⟨Xj,(λC F=>a9 F)⟩
termination_by structural e=>e
theorem jZ:∀a:List X,ib a
 |[]=>Xk
 |e::a=>Xl (bK e).1 (jZ a)
termination_by structural a=>a
end
mutual
theorem XW:∀e:S,MS e
 |.expr e=>Xy (bK e).1
 |.assign x e=>Xz (bK e).1
 |.setattr o f e=>XA (bK o).1 (bK e).1
 |.fv o i e=>XB (bK o).1 (bK i).1 (bK e).1
 |.unpack h e=>XC (bK e).1
 |.aug x g e=>XD (bK e).1
 |.i5 o f g e=>XE (bK o).1 (bK e).1
 |.ite t a b=>XF (bK t).2 (lb a) (lb b)
 |.while t b=>XG (bK t).2 (lb b)
 |.for x c b=>XH (bK c).1 (lb b)
 |.gU x y c b=>XI (bK c).1 (lb b)
 |.ret e=>XK (bK e).1
 |.brk=>XM
 |.cont=>XN
 |.pass=>XO
 |.raise x d=>XQ (bK d).1
 |.try b x z i=>XT (lb b)
termination_by structural e=>e
theorem lb:∀a:List S,jY a
 |[]=>XU
 |e::a=>XV (XW e) (lb a)
termination_by structural a=>a
end
theorem zQ{K:bc}{pg:bJ}{w:bE}(M:eE K)(S:nX K)(u:∀f,qq f->∃g o t d,mm K f g o t d):∀n,jX K pg w n/\u8 K pg w n
 | 0=>⟨λv T R r q=>by rw[HI] at q;exact q.elim,λT R L q=>by rw[HI] at q;exact q.elim⟩
 |n+1=>by
  refine(zQ (pg:=pg) (w:=w) M S u n).elim λy B=>?_;refine⟨λ{f A x s h m N P Q E} v T R r q=>?_,Wk M zK λZ e pe C D G H F V I=>?_⟩
  ·rw[HH] at q;refine D9 (u f v) λg o t d O=>?_;refine Wd M zK O (λc A W x F V J=>?_) T R r q;have X:(Zx.fn K pg w g n c A W x).env.kindOf=λz=>t.scope.names.lookup z:=funext J;exact λ{i j k l p} b a=>(lb (prog f).body ⟨F,V,y,B,S⟩ (by refine rE X ?_;exact O.same)).run b a
  ·subst C D G H;exact λ{i j k l p} b a=>((bK e).1 ⟨F,V,y,B,S⟩ I).run b a
noncomputable def isVal(o:Option (Option af))(v:af):Bool:=o == some (some v)
theorem jm(h:isVal o v=true):o=some (some v):=eq_of_beq h
noncomputable def vj(o:Option (Option af))(i:Int):Bool:=ed o λz=>ed z λv=>pw v λj F=>decide (j=i)
theorem H2{i:Int}(h:vj o i=true):∃t,o=some (some (.int i t)):=by
 unfold vj at h;apply ey h;intro z h;apply ey h;intro v h;apply rS h;intro j t h;refine⟨t,?_⟩;exact rE (of_decide_eq_true h) rfl
noncomputable def vk:List Cl:=[.ix,.lT,.fL,.fc,.dQ,.fq,.jN,.kz,.i3]
noncomputable def H3:List Bi:=[.len,.min,.max,.abs,.int,.bytes,.bytearray,.tuple,.range,.str]
theorem H4(c:Cl):c∈vk:=Nq (i:=c.ctorIdx) (by rcases c with _ |_<;>rfl)
theorem XX(c:Bi):c∈H3:=Nq (i:=c.ctorIdx) (by rcases c with _ |_<;>rfl)
noncomputable def H5(v:V)(a:af):Bool:=match v with
  |.fM=>a == .ref layA
  |.int i=>pw a λj F=>decide (j=i)
  |_=>false
theorem XY(h:H5 v a=true):VR v a:=by
 induction v with
 |fM=>exact eq_of_beq h
 |int i=>exact rS (G:=λa=>VR (.int i) a) h λj t h=>⟨t,by exact rE (of_decide_eq_true h) rfl⟩
 |_=>exact a9 h
noncomputable def zR(K:bc)(v:V)(o:Option (Option af)):Bool:=ed o λz=>ed z λa=>(km K a "__get__" == some none)&&H5 v a
theorem XZ{K:bc}{v:V}{o:Option (Option af)}(h:zR K v o=true):∃a,o=some (some a)/\VR v a/\km K a "__get__" = some none:=by
 unfold zR at h;apply ey h;intro z h;apply ey h;intro a h;refine(bG a rfl (XY (an h).2) (eq_of_beq (an h).1))
noncomputable def zS(g:ax)(o:Option (List af)):Bool:=ed o λl=>dW l λv K=>nM v λF=>aJ F g
theorem X0(h:zS g o=true):∃a,o=some (.ref g::a):=by
 unfold zS at h;apply ey h;intro l h;apply ew h;intro v r h;apply pu h;intro F h;refine⟨r,?_⟩;exact rE (aC h) rfl
noncomputable def zT(K:bc)(g:ax)(o:Option (Option af)):Bool:=ed o λz=>ed z λv=>nM v λp =>
 isVal (km K (.ref p) "__get__") (.builtin "property.__get__")&&(CV K (.ref p) == some true&&zS g (wD K p "property"))
theorem X1{K:bc}{g:ax}{o:Option (Option af)}(h:zT K g o=true):∃p a,o=some (some (.ref p))/\km K (.ref p) "__get__" = some (some (.builtin "property.__get__"))/\CV K (.ref p)=some true/\wD K p "property" = some (.ref g::a):=by
 unfold zT at h;apply ey h;intro z h;apply ey h;intro v h;apply pu h;intro p h;refine(X0 (an (an h).2).2).elim λr e=>?_;exact(fo p r rfl (jm (an h).1) (eq_of_beq (an (an h).2).1) e)
noncomputable def vl(K:bc)(c:Cl)(p:Nm×Kd):Bool :=
 match p.2 with
 |.field=>fC K (.ref (bV c)) (nm p.1) == some none
 |.const v=>zR K v (fC K (.ref (bV c)) (nm p.1))&&!Le.contains (nm p.1)
 |.aX g=>isVal (fC K (.ref (bV c)) (nm p.1)) (.ref (dL g))&&(isFn K (.ref (dL g))&&iU g.i 72)
 |.prop g=>iU g.i 72&&zT K (dL g) (fC K (.ref (bV c)) (nm p.1))
 |.bad=>true
theorem H6:∀ {l:List (Nm×Kd)},kdOf l x=.bad\/(x,kdOf l x)∈l
 |[]=>.inl rfl
 |p::r=>by
  show(match nb p.1 x with |true=>p.2 |false=>kdOf r x)=.bad\/(x,match nb p.1 x with |true=>p.2 |false=>kdOf r x)∈p::r;induction e:nb p.1 x with
  |true=>refine rF (eO e) ?_;exact .inr (.head _)
  |false=>exact(H6 (l:=r)).imp id λh=>.tail _ h
theorem X4{K:bc}(h:(vk.all λc=>(tab c).all (vl K c))=true)(c:Cl)(f:Nm):look c f=.bad\/vl K c (f,look c f)=true :=
 (H6 (l:=tab c) (x:=f)).imp id λm=>eX.mp (eX.mp h c (H4 c)) _ m
noncomputable def zU(K:bc)(c:Cl)(f:Fn):Bool :=
 wC K (bV c)&&ed (typeIn K (.ref (bV c))) λF=>CU K (bV c) F&&ed (findCls K (.ref (bV c)) F "__init__") λr=>yx r λv=>nM v λg=>aJ g (dL f)
theorem H7{K:bc}{c:Cl}{f:Fn}(h:zU K c f=true):wC K (bV c)=true/\∃a,typeIn K (.ref (bV c))=some a/\CU K (bV c) a=true/\findCls K (.ref (bV c)) a "__init__" = some (.val (.ref (dL f))):=by
 refine(an h).imp id λh=>?_
 generalize typeIn K (.ref (bV c))=z at h ⊢;apply ey h;intro a h;refine(bG a rfl (an h).1 ?_);generalize findCls K (.ref (bV c)) a "__init__" = z at h ⊢;apply ey (an h).2;intro r h;apply FM h;intro v h;apply pu h;intro g h;exact rE (aC h) rfl
noncomputable def H8(K:bc)(c:Cl):Bool :=
 match look c .init with
 |.aX f=>zU K c f
 |_=>true
noncomputable def zV(K:bc):Bool:=ed (K.lookup layA) λo=>yu o.cls λt=>nI o.dict (FL o.data λM F=>dt o.slots.toList (dW M.toList λx l=>eu l λy=>pw x λi F=>pw y λj F=>t == "tuple" && (decide (i=2)&&decide (j=3))))
theorem X5{K:bc}(h:zV K=true):∃a b n,K.lookup layA=some {cls:=.type "tuple",data:=.seq #[.int 2 a,.int 3 b] n}:=by
 unfold zV at h;generalize K.lookup layA=z at h ⊢;apply ey h;intro o h;obtain⟨c,d,M,⟨O⟩⟩:=o;apply FG (t:=c) h;intro t h;apply pq (l:=d) h;intro h;apply Sh (t:=M) h;intro F n h;apply dX (l:=O) h;intro h;obtain⟨F⟩:=F;apply ew (l:=F) h;intro x l h;apply eQ h;intro y h;apply rS h;intro i a h;apply rS h;intro j b h;refine⟨a,b,n,?_⟩;exact rE (eq_of_beq (an h).1) (rE (of_decide_eq_true (an (an h).2).1) (rE (of_decide_eq_true (an (an h).2).2) rfl))
noncomputable def zW(K:bc)(a:ax):Bool:=ed (K.lookup a) λo=>uB o.data λF=>true
theorem X6{K:bc}{a:ax}(h:zW K a=true):∃o b,K.lookup a=some o/\o.data=.func b:=by
 unfold zW at h;generalize K.lookup a=z at h ⊢;apply ey h;intro o h;obtain⟨c,d,F,M⟩:=o;apply yw (t:=F) h;intro b h;exact(de _ b rfl rfl)
theorem H9:∀ {l:List (Nat×String)},uD l i=some y->∃p∈l,p.1=i/\dD p.2=y
 |[],h=>aN h
 |p::r,h=>by
  have h:(match aJ p.1 i with |true=>some (dD p.2) |false=>uD r i)=some y:=h;induction e:aJ p.1 i with
  |true=>rw[e] at h;exact(bG p (.head _) (aC e) (bq h))
  |false =>
   rw[e] at h;refine ak (H9 h) λq F z=>?_;exact(aq q (.tail _ F) z)
noncomputable def X7(y:az):Bool:=!(y == ("__debug__" : az))
noncomputable def H'(K:bc):Bool :=
 ((vj (nsIn K mainGlobals (nm .f8)) (-1)&&vj (nsIn K mainGlobals (nm .pd)) 2) &&
 (rT.all (λp=>isVal (nsIn K mainGlobals (dD p.2)) (.ref (dL ⟨p.1⟩))&&(X7 (dD p.2)&&iU p.1 72)) &&
 (H3.all (λb=>nsIn K mainGlobals (l' b) == some none)&&(isVal (nsIn K mainGlobals (hZ .ce)) (.ref (ee .ce))&&isVal (nsIn K mainGlobals (hZ .fu)) (.ref (ee .fu)))))) &&
 ((zV K&&(eH 72).all λi=>zW K (dL ⟨i⟩)) &&
 (vk.all (λc=>(isVal (nsIn K mainGlobals (lu c)) (.ref (bV c))&&(plainGet K (bV c) "" && hasDictIn K (bV c)))&&((isVal (fC K (.ref (bV c)) "__setattr__") (.builtin "object.__setattr__")&&plainOver K (bV c)) &&
  (isVal (km K (.ref (bV c)) "__getattribute__") (.builtin "type.__getattribute__")&&H8 K c))) &&
 vk.all λc=>(tab c).all (vl K c)))
theorem Ib{K:bc}(h:H' K=true):eE K:=by
 refine(an h).elim λS o=>?_;refine(an S).elim λa1 S=>?_;refine(an S).elim λa2 S=>?_;refine(an S).elim λq l=>?_;refine(an o).elim λd j=>?_;refine(an d).elim λd r=>?_;refine(an j).elim λj s=>?_;have E:=X4 s;have m:∀f y,qr f=some y->nsIn K mainGlobals y=some (some (.ref (dL f)))/\(y == ("__debug__" : az))=false/\iU f.i 72=true:=λf y e=>by
  refine cr (H9 e) λp t O R=>?_;refine(an (eX.mp a2 p t)).elim λn X=>?_;refine(an X).elim λX u=>?_;rw[R,O] at n;rw[R] at X;exact(aH (jm n) (lD _▸X) (O▸u))
 have M:∀c:Cl,_:=λc=>eX.mp j c (H4 c);have T:∀c f,look c .init=.aX f->zU K c f=true:=λc f e=>by
  have:=(an (an (an (M c)).2).2).2;unfold H8 at this;rw[e] at this;exact this
 have F:∀ {c f k},look c f=k->k≠.bad->vl K c (f,k)=true:=λ{c f k} e w=>by
  have:=(E c f).resolve_left (by refine rE e ?_;exact w);rw[e] at this;exact this
 refine⟨λx i e=>?_,λf y e=>(m f y e).1,λf y e=>(m f y e).2,λc=>jm (an (an (M c)).1).1,λx=>?_,λb=>eq_of_beq (eX.mp q b (XX b)),X5 d,λc=>(an (an (an (M c)).1).2).1,λc=>(an (an (an (M c)).1).2).2,λc=>jm (an (an (an (M c)).2).1).1,λc=>(an (an (an (M c)).2).1).2,λc f e=>eq_of_beq (F e nofun),λc f v e=>?_,λc f g e=>?_,λc f e=>(H7 (T c f e)).1,λc=>jm (an (an (an (M c)).2).2).1,λc f e=>(H7 (T c f e)).2,λc f g e=>?_,λf z=>?_⟩
 ·unfold nE at e;induction O:nb x .f8 with
  |true=>rw[O] at e;refine rE (eO O) (rF (bq e) ?_);exact H2 (an a1).1
  |false =>
   rw[O] at e;induction R:nb x .pd with
   |true=>rw[R] at e;refine rE (eO R) (rF (bq e) ?_);exact H2 (an a1).2
   |false=>rw[R] at e;exact aN e
 ·rcases x with ⟨⟩
  ·exact jm (an l).1
  ·exact jm (an l).2
 ·refine(an (F e nofun)).elim λV W=>?_;refine cr (XZ V) λa A B C=>?_;exact(eM a A B C (lD _▸W))
 ·refine(an (F e nofun)).elim λV W=>?_;exact⟨jm V,an W⟩
 ·refine(an (F e nofun)).elim λV W=>?_;exact⟨V,X1 W⟩
 ·exact X6 (eX.mp r f.i (lE.mpr (DH z)))
noncomputable def vm(f:Fn):Bool:=aJ f.i 63||aJ f.i 65
noncomputable def vn(f:Fn):gx:=⟨λi F b K=>vm f&&(mf i F b K&&(F.defaults.isEmpty&&(F.kw_defaults.isEmpty&&(ac i).all λx=>er x (prog f).cB))),(prog f).cB,true⟩
theorem Ic:∀ {l:List Nm},er x l=true->x∈l
 |[],h=>a9 h
 |y::r,h=>by
  have h:(match nb y x with |true=>true |false=>er x r)=true:=h;induction e:nb y x with
  |true=>refine rE (eO e) ?_;exact .head _
  |false=>rw[e] at h;exact .tail _ (Ic h)
noncomputable def gl(g:Nat->af)(n:Nat):List af:=(eH n).map g
theorem X8(F:List af):gl (λi=>F.getD i .none) F.length=F:=by
 refine List.ext_getElem (by simp[gl]) λi M K=>?_;simp[gl,List.getD_eq_getElem?_getD,K]
noncomputable def fdOf{F:Type}(o:Option Obj)(k:gO->F)(d:F):F :=
 match o with
 |some ⟨_,_,.func a,_⟩=>k a
 |_=>d
noncomputable def BF(K:bc)(v:af):List af :=
 match v with
 |.ref a=>(match K.lookup a with
  |some ⟨_,_,.seq l _,_⟩=>l.toList
  |_=>[])
 |_=>[]
noncomputable def zX:List (Nat×Nat):=(eH 72).flatMap λi=>(eH ((prog ⟨i⟩).dG.length+1)).map λj=>(i,(prog ⟨i⟩).params.length - j)
noncomputable def zY(K:bc)(g:Nat->af)(S:Setting)(p:Nat×Nat):Option (List (az×af)) :=
 fdOf (K.lookup (dL ⟨p.1⟩)) (λF=>tK K S (mR F ⟨gl g p.2,[]⟩)) none
noncomputable def zZ(K:bc)(g:Nat->af)(p:Nat×Nat):Option (List (az×af)) :=
 fdOf (K.lookup (dL ⟨p.1⟩)) (λF=>some (((prog ⟨p.1⟩).params.map nm).zip (gl g p.2++(BF K F.defaults).drop ((prog ⟨p.1⟩).dG.length+p.2 - (prog ⟨p.1⟩).params.length)))) (some [])
def z4(K:bc):Prop:=∀g S,zX.map (zY K g S)=zX.map (zZ K g)
noncomputable def Ie(v:V)(x:af):Bool :=
 match v with
 |.int i=>pw x λj F=>decide (j=i)
 |.none=>x == .none
 |.bytes l=>dt l (FI x λb F=>dt b.toList true)
 |_=>false
theorem X9(h:Ie v x=true):VR v x:=by
 induction v with
 |int i=>exact rS (G:=λx=>VR (.int i) x) h λj t h=>⟨t,rE (of_decide_eq_true h) rfl⟩
 |none=>exact eq_of_beq h
 |bytes l =>
  apply dX h;intro h;apply Sf h;intro b t h;rcases b with ⟨b⟩;apply dX (l:=b) h;intro h;exact(aq _ rfl (ca _))
 |_=>exact a9 h
noncomputable def z5:List V->List af->Bool
 |[],[]=>true
 |v::a,x::b=>Ie v x&&z5 a b
 |_,_=>false
theorem Ig:∀ {F:List V} {K:List af},z5 F K=true->bf F K
 |[],[],_=>.nil
 |_::_,_::_,h=>.cons (X9 (an h).1) (Ig (an h).2)
 |[],_::_,h=>a9 h
 |_::_,[],h=>a9 h
noncomputable def vo(K:bc)(P:ax):Bool:=ed (nsIn K mainGlobals "__builtins__") λz=>ed z λv=>nM v λb=>!aJ b P
theorem Yb{K:bc}{P:ax}(h:vo K P=true):∃b,nsIn K mainGlobals "__builtins__" = some (some (.ref b))/\b≠P:=by
 unfold vo at h;generalize nsIn K mainGlobals "__builtins__" = z at h ⊢;apply ey h;intro z h;apply ey h;intro v h;apply pu h;intro b h;exact(aq b rfl (λz=>by rw[z,qx] at h;exact a9 h))
noncomputable def Ih(K:bc)(F:gO)(q:ax×ax):Bool :=
 F.code == .ref q.1&&(codeHdIn K q.1 q.2&&(seq (py q.2) (F.qualname ++ ".<locals>." ++ ("<lambda>" : az))&&(vo K q.2&&!aJ mainGlobals q.2)))
noncomputable def z6:List Nm->Bool
 |[]=>true
 |x::r=>!er x r&&z6 r
theorem Ii:∀ {l:List Nm},z6 l=true->l.Nodup
 |[],_=>MJ
 |x::r,h=>tD.mpr ⟨λm=>(by have:=(an h).1;rw[vd m] at this;exact a9 this),Ii (an h).2⟩
noncomputable def z7(f:Fn)(F:gO):Bool :=
 Nr (motive:=λK=>Bool) F.body (λb=>je (vn f) (λz=>F.scope.names.lookup z) (prog f).body b) λK=>false
theorem Yc(h:z7 f a=true):∃b,a.body=.stmts b/\je (vn f) (λz=>a.scope.names.lookup z) (prog f).body b=true:=by
 unfold z7 at h;induction e:a.body with
 |stmts b=>rw[e] at h;exact(aq b rfl h)
 |_=>rw[e] at h;exact a9 h
noncomputable def Ij(K:bc)(f:Fn)(fd:gO):Bool :=
 (((prog f).frees.isEmpty&&(!fd.scope.isCoroutine&&!fd.scope.isGenerator))&&(decide (fd.scope.kind=.function)&&(decide (fd.globals=mainGlobals)&&decide (fd.builtins=im)))) &&
 (((fd.closure.isEmpty&&codeIn K fd.code fd.qualname)&&(fd.scope.names.all (λx=>x.2 != .free)&&(prog f).params.all λp=>fd.scope.names.lookup (nm p) == some .local||fd.scope.names.lookup (nm p) == some .cell)) &&
 ((z7 f fd&&(z5 (prog f).dG (BF K fd.defaults)&&(prog f).cB.all λx=>fd.scope.names.lookup (nm x) == some .cell)) &&
 ((fd.scope.names.all (λx=>x.2 != .cell||(prog f).cB.any λy=>seq (nm y) x.1)&&z6 (prog f).cB)&&(!vm f||dM.any (Ih K fd)))))
noncomputable def vp(K:bc)(i:Nat):Bool:=ed (K.lookup (dL ⟨i⟩)) λo=>uB o.data λF=>Ij K ⟨i⟩ F
theorem Yd{K:bc}{i:Nat}(h:vp K i=true):∃c d a b,K.lookup (dL ⟨i⟩)=some ⟨c,d,.func a,b⟩/\Ij K ⟨i⟩ a=true:=by
 unfold vp at h;generalize K.lookup (dL ⟨i⟩)=z at h ⊢;apply ey h;intro o h;rcases o with ⟨c,d,F,b⟩;apply yw (t:=F) h;intro a h;exact⟨c,d,a,b,rfl,h⟩
theorem Ye{K:bc}{g:dp}{P:ax}(X:K.In g)(c:vo K P=true){p:bJ}{F:List az}{O:xo->Option af}{R d:az->Option af}(T:Top p F O R d g):g.BuiltinsAt R P:=by
 refine xD T.bmain λf ob M h S i j V=>?_;refine⟨f,ob,M,h,λe=>?_,λe=>?_,S,i,j,V⟩
 ·refine fJ T.g λo m n W a q=>?_;rw[←e,S] at W;rw[←bq W,V] at a;exact nomatch a
 ·refine ak (Yb c) λb k l=>?_;rw[wF X T.g k] at M;injection M with M;injection M with M;exact l (M.trans e)
theorem Yg{K:bc}{f:Fn}{R:gO}(W:(!vm f||dM.any (Ih K R))=true)(M:∀x∈(prog f).cB,R.scope.names.lookup (nm x)=some .cell)(g:dp)(F:Env)(X:K.In g)(T:∃p j l m n,Top p j l m n g)
  (y:F.scope=R.scope) (A:F.code=R.code) (B:F.qual=R.qualname ++ ".<locals>.") (i:Nat) (O:kl) (b:ao) (S:dK) (h:(vn f).ok i O b S=true):HD g F i O b S:=by
 have o:=an (show(vm f&&(mf i O b S&&(O.defaults.isEmpty&&(O.kw_defaults.isEmpty&&(ac i).all λx=>er x (prog f).cB))))=true from h);have V:=an o.2;have r:=an V.2;have s:=an r.2;rw[o.1] at W;refine ak (DD.mp W) λq C z=>?_;have t:=an z;have u:=an t.2;have v:=an u.2;have w:=an v.2;refine ku T λp j l m n T=>?_;refine⟨q,C,by refine rE A ?_;exact eq_of_beq t.1,codeHd_of_K X u.1,by refine rE B ?_;exact seq_eq v.1,V.1,?_,dn (an (an (an V.1).2).2).1,λx D=>?_,λe=>?_,m,T.g,Ye X w.1 T⟩
 ·obtain⟨a,b,c,d,E,k,G⟩:=O;obtain rfl:G=[]:=qC.mp r.1;obtain rfl:E=[]:=qC.mp s.1;rfl
 ·have:=Ic (eX.mp s.2 x D);exact .inl (by show F.scope.names.lookup _=_;refine rE y ?_;exact M x this)
 ·have:=w.2;rw[e,qx] at this;exact a9 this
theorem Ik{K:bc}(h:((eH 72).all (vp K))=true)(B:z4 K)(f:Fn)(H:qq f):∃l o e a,mm K f l o e a:=by
 have E:f.i<72:=DH H;refine rg (Yd (eX.mp h f.i (lE.mpr E))) λc d e sl G W=>?_;refine(an W).elim λa1 W=>?_;refine(an a1).elim λI m=>?_;refine(an m).elim λa2 s=>?_;refine(an s).elim λs J=>?_;refine(an I).elim λL t=>?_;refine(an t).elim λt N=>?_;refine(an W).elim λu W=>?_;refine(an u).elim λu P=>?_;refine(an u).elim λQ U=>?_;refine(an P).elim λY Z=>?_;refine(an W).elim λv W=>?_;refine(an v).elim λv w=>?_;refine(an w).elim λw d3=>?_;refine(an W).elim λA e2=>?_;refine(an A).elim λA e3=>?_;refine ak (Yc v) λa hb hm=>?_;have M:∀x∈(prog f).cB,e.scope.names.lookup (nm x)=some .cell:=λx R=>eq_of_beq (eX.mp d3 x R);refine⟨vn f,_,e,a,qC.mp L,λx R=>vd R,G,rfl,lD _▸t,lD _▸N,dn a2,hb,dn s,dn J,qC.mp Q,λh X=>Nt X U,λy j=>?_,λp hp=>?_,hm,λC O r F=>?_,M,λy j=>?_,Ii e3,λn y j=>cellsFrom_some _ _ _ (.inl j),λg D X T z1 z2 z3 i as b sc z=>Yg e2 M g D X T z1 z2 z3 i as b sc z⟩
 ·exact absurd rfl (bne_iff_ne.mp (eX.mp Y _ (mem_of_lookup j)))
 ·exact(nV (eX.mp Z p hp)).imp eq_of_beq eq_of_beq
 ·have V:=Ig w;refine(aq ((BF K e.defaults).drop ((prog f).dG.length+C.length - (prog f).params.length)) (V.drop _) (λS=>?_));have R:O.length=C.length:=r.length.symm;have k:(f.i,O.length)∈zX:=by
   refine DK.mpr (aq f.i (lE.mpr E) (eo.mpr (aq ((prog f).params.length - C.length) (lE.mpr ?_) ?_)))
   ·rw[cA,gR] at F;exact Og F
   ·rw[cA,gR] at F;refine rE R ?_;exact congrArg (Nu f.i) (Oh F)
  have key:zY K (λi=>O.getD i .none) S (f.i,O.length)=zZ K (λi=>O.getD i .none) (f.i,O.length):=M1.mp (B (λi=>O.getD i .none) S) _ k;unfold zY zZ at key;rw[G] at key;have key:tK K S (mR e ⟨gl _ O.length,[]⟩)=some _:=key;rw[X8 O,R] at key;exact key
 ·have:=eX.mp A _ (mem_of_lookup j);refine ak (DD.mp ((nV this).resolve_left λq=>absurd rfl (bne_iff_ne.mp q))) λx R z=>?_;exact(aq x R ((seq_eq z).symm))
noncomputable def z8:List af:=[.type "ValueError",.type "Exception",.type "BaseException",.type "object"]
noncomputable def z9(C:ax)(l:List af):Bool:=dW l λv r=>nM v λc=>dW r λw r=>nM w λF=>aJ c C&&r == z8
theorem Yh(h:z9 C l=true):∃a,l=.ref C::.ref a::z8:=by
 unfold z9 at h;apply ew h;intro v r h;apply pu h;intro c h;apply ew h;intro w r h;apply pu h;intro a h;refine⟨a,?_⟩;exact rE (aC (an h).1) (rE (eq_of_beq (an h).2) rfl)
noncomputable def z'(K:bc)(C:ax):Bool :=
 ed (K.lookup C) λo=>yu o.cls λt=>FJ o.data λM=>dW o.slots.toList λF l=>dW l λF l=>dW l λF l=>dW l λF l=>dW l λk l=>eu l λF=>ed k λv=>yv v λx =>
  (t == "type" && x == "ValueError.__new__")&&(M.hasDict&&(!M.hasDel&&z9 C M.mro))
def Yi(C:ax)(z:Option Obj):Prop:=∃a q N d b e sub f c g h i j k l,z=some (lL a q C N d b true e sub f c g h i j k l "ValueError.__new__") /\
  nW [.type "ValueError",.type "Exception",.type "BaseException",.type "object"] b/\ia (.ref C::b)
theorem Yj{K:bc}{C:ax}(h:z' K C=true):Yi C (K.lookup C):=by
 unfold z' at h;generalize K.lookup C=z at h ⊢;apply ey h;intro o h;obtain⟨c,S,T,⟨V⟩⟩:=o;apply FG (t:=c) h;intro t h;apply Sg (t:=T) h;intro W h;apply ew (l:=V) h;intro d l h;apply ew h;intro e l h;apply ew h;intro f l h;apply ew h;intro g l h;apply ew h;intro k l h;apply eQ h;intro i h;apply ey h;intro v h;apply FH h;intro x h;obtain⟨R,j⟩:=an h;obtain⟨m,n⟩:=an j;obtain⟨p,r⟩:=an n;obtain⟨a,s⟩:=Yh r;obtain⟨M,u,w,N,q,y,A,sub,B,O,F⟩:=W;obtain rfl:y=true:=m;obtain rfl:F=false:=lD _▸p;subst s;refine rE (eq_of_beq (an R).1) (rE (eq_of_beq (an R).2) ?_);refine⟨M,q,N,u,.ref a::z8,A,sub,B,O,S,d,e,f,g,i,rfl,λX b D=>?_,.own (.own .base)⟩;rw[ng,show(m6 X == e' a)=false from beq_eq_false_iff_ne.mpr nofun,C'];exact D
noncomputable def Aa(b:List bz):Bool :=
 dW b λs r=>eu r λM=>yz s λe F=>iE e λf K O R=>kJ f λS n T=>dH S λa F=>dW K λV K=>eu K λW=>dH V λc F=>dH W λd F=>dt O (nN M λX v F=>eu X λt=>kJ t λh f F=>dH h λe F=>dH v λg F =>
  ((seq a "ValueError" && seq n "__init__")&&(seq c "self" && seq d "reason"))&&((seq e "self" && seq f "reason")&&(seq g "reason" && decide (T.endLine=R.line))))
def Il(b:List bz):Prop:=∃a c p1 d e f g h i j,b=zM a c p1 d e f g h i j/\a.endLine=c.line
theorem Yk(h:Aa b=true):Il b:=by
 unfold Aa at h;apply ew h;intro s r h;apply eQ h;intro O h;apply FT h;intro e _ h;apply jS h;intro f M R S h;apply nK h;intro T n V h;apply dY h;intro a _ h;apply ew h;intro W M h;apply eQ h;intro X h;apply dY h;intro c _ h;apply dY h;intro d _ h;apply dX h;intro h;apply px h;intro i v _ h;apply eQ h;intro t h;apply nK h;intro j f _ h;apply dY h;intro e _ h;apply dY h;intro g _ h;obtain⟨F,K⟩:=an h;rw[seq_eq (an (an F).1).1,seq_eq (an (an F).1).2,seq_eq (an (an F).2).1,seq_eq (an (an F).2).2,seq_eq (an (an K).1).1,seq_eq (an (an K).1).2,seq_eq (an (an K).2).1];exact⟨_,_,_,_,_,_,_,_,_,_,rfl,of_decide_eq_true (an (an K).2).2⟩
noncomputable def Ab(F:gO):Bool:=Nr (motive:=λK=>Bool) F.body (λb=>Aa b) λK=>false
theorem Yl(h:Ab a=true):∃b,a.body=.stmts b/\Il b:=by
 unfold Ab at h;induction e:a.body with
 |stmts b=>rw[e] at h;exact(aq b rfl (Yk h))
 |_=>rw[e] at h;exact a9 h
noncomputable def Ac(o:Option Ct)(s:String):Bool:=ed o λc=>yx c λv=>yv v λt=>t == s
theorem Ym(h:Ac o s=true):o=some (.val (.builtin s)):=by
 unfold Ac at h;apply ey h;intro c h;apply FM h;intro v h;apply FH h;intro t h;exact rE (eq_of_beq h) rfl
noncomputable def Im(K:bc)(F:gO):Bool :=
 (((!F.scope.isCoroutine&&!F.scope.isGenerator)&&(decide (F.scope.kind=.function)&&(decide (F.globals=mainGlobals)&&decide (F.builtins=im)))) &&
 ((F.closure.isEmpty&&codeIn K F.code F.qualname)&&(F.scope.names.all (λx=>x.2 != .cell)&&Ab F))) &&
 ((F.scope.names.lookup ("self" : az) == some .local&&F.scope.names.lookup ("reason" : az) == some .local)&&((F.scope.names.lookup ("ValueError" : az) == some .globalImplicit&&nsIn K mainGlobals "ValueError" == some none) &&
  Ac (findCls K (.type "ValueError") (.type "type") "__init__") "ValueError.__init__"))
noncomputable def mq(K:bc):ax :=
 match fC K (.ref (ee .ce)) "__init__" with
 |some (some (.ref a))=>a
 |_=>0
noncomputable def Ad(K:bc):Bool:=ed (K.lookup (mq K)) λo=>uB o.data λF=>Im K F
noncomputable def Ae(K:bc)(x:Ex):Bool :=
 (z' K (ee x)&&(isVal (fC K (.ref (ee x)) "__setattr__") (.builtin "object.__setattr__")&&w9 K (ee x) "reason" == some none)) &&
 (isVal (fC K (.ref (ee x)) "__init__") (.ref (mq K))&&(typeIn K (.ref (mq K)) == some (.type "function")&&isVal (km K (.ref (ee x)) "__call__") (.builtin "type.__call__")))
noncomputable def Io(K:bc):Bool:=Ad K&&(Ae K .ce&&Ae K .fu)
def Af(K:bc):Prop:=∀e v S,fdOf (K.lookup (mq K)) (λF=>tK K S (mR F ⟨[e,v],[]⟩)) none=some [(("self" : az),e),(("reason" : az),v)]
theorem Ip{K:bc}{x:Ex}(h:Ae K x=true):sg K (ee x) (mq K):=by
 refine(an h).elim λF M=>?_;refine(an F).elim λF O=>?_;refine(an O).elim λO S=>?_;refine(an M).elim λM R=>?_;refine(an R).elim λR T=>?_;exact⟨Yj F,jm O,eq_of_beq S,jm M,eq_of_beq R,jm T⟩
theorem Yn{K:bc}(h:Ad K=true):∃c d a b,K.lookup (mq K)=some ⟨c,d,.func a,b⟩/\Im K a=true:=by
 unfold Ad at h;generalize K.lookup (mq K)=z at h ⊢;apply ey h;intro o h;rcases o with ⟨c,d,F,b⟩;apply yw (t:=F) h;intro a h;exact⟨c,d,a,b,rfl,h⟩
theorem Iq{K:bc}(h:Io K=true)(B:Af K):nX K:=by
 refine(an h).elim λM R=>?_;refine rg (Yn M) λc d V D T M=>?_;refine(an M).elim λa1 a2=>?_;refine(an a1).elim λa1 W=>?_;refine(an a1).elim λa1 a=>?_;refine(an a1).elim λb f=>?_;refine(an a).elim λg O=>?_;refine(an O).elim λO i=>?_;refine(an W).elim λj k=>?_;refine(an j).elim λl m=>?_;refine(an k).elim λn o=>?_;refine(an a2).elim λp q=>?_;refine(an p).elim λr s=>?_;refine(an q).elim λt u=>?_;refine(an t).elim λw y=>?_;refine ak (Yl o) λF z A=>?_;refine⟨mq K,_,V,F,⟨T,rfl,lD _▸b,lD _▸f,dn g,z,dn O,dn i,qC.mp l,λh X=>Nt X m,λx C=>bne_iff_ne.mp (eX.mp n x C),eq_of_beq r,eq_of_beq s,eq_of_beq w,A,λe v S=>?_,eq_of_beq y,Ym u⟩,λx=>?_⟩
 ·have:=B e v S;rw[T] at this;exact this
 ·rcases x with ⟨⟩
  ·exact Ip (an R).1
  ·exact Ip (an R).2
noncomputable def Ir(K:bc):Bool:=H' K&&((eH 72).all (vp K)&&Io K)
theorem acD{K:bc}{F:bJ}{w:bE}(h:Ir K=true)(B:z4 K)(M:Af K)(n:Nat):jX K F w n :=
 (zQ (Ib (an h).1) (Iq (an (an h).2).2 M) (λf O=>Ik (an (an h).2).1 B f O) n).1
noncomputable def Iu(K:bc):Bool:=K.all λp=>!(p.2.cls == .type "list")
section
variable{H:dp}{l:List ax}{p:bJ}{loose:List az}{mean:xo->Option af}{mg mb:az->Option af}{K:bc}
theorem Yo(S:∀b∈l,∀o,H.get? b=some o->(∀c f,o.data≠.dict c f)/\o.data≠.plain)(T:Top p loose mean mg mb H):
  Top topProg (loose++(recsOf p).map (·.name)++(litsOf p).map (·.1)++(clssOf p loose).map (·.name)) mean mg mb (tP H l):=by
 have M:∀ {a:ax} {V:az->Option af},H.Ns a V->(tP H l).Ns a V:=λx =>
  fJ x λo c f e F r=>(fK o c f (xp _ e λq=>(S _ q _ e).1 _ _ F) F r)
 exact {
  g:=M T.g
  b:=M T.b
  nolimit:=ak T.nolimit λR a r=>(aq R (M a) r)
  nodigits:=ak T.nodigits λR a r=>(aq R (M a) r)
  fn:=λd F=>absurd (show d∈([]:List wo) from F) tC
  own:=λo i=>absurd (show o∈([]:List OwnSpec) from i) tC
  const:=λx d e=>by cases (show(none:Option PyData)=some d from e)
  free:=λx j O W W W=>T.free x j (λq=>O (oO _ (oO _ (oO _ q))))
   (λq=>O (oO _ (oO _ (oJ _ q)))) (λq=>O (oO _ (oJ _ q))) λq=>O (oJ _ q)
  builtins:=T.builtins
  tab:=λd F=>absurd (show d∈([]:List wo) from F) tC
  bmain:=xD T.bmain λk ob a1 a2 X m n h=>(ri k ob a1 a2 (xp _ X (λq=>(S _ q _ X).2 h)) m n h)
  seer:=λe=>absurd (show false=true from e) ko}
end
noncomputable def pR(F:ax)(y:Obj)(K:List V):Hp:=λb=>match aJ b F with |true=>some (.ro y K) |false=>none
theorem Iv:pR a y b a=some (.ro y b):=by unfold pR;rw[qx]
theorem Ah(h:pR a y c b=some o):b=a/\o=.ro y c:=by
 unfold pR at h;induction e:aJ b a with
 |true=>rw[e] at h;exact⟨aC e,(bq h).symm⟩
 |false=>rw[e] at h;exact aN h
noncomputable def jn:List ax:=dM.map (·.2)
noncomputable def Yp(F:ax)(y:Obj):Ow where
 W b:=match aJ b F with |true=>some y |false=>(match jn.contains b with |true=>some (iq #[]) |false=>none)
 r _:=none
 δ _:=0
 T b:=match aJ b F with |true=>some .o |false=>(match jn.contains b with |true=>some .t |false=>none)
theorem Yq(K:xq dM H)(M:q∈dM)(O:H.get? a=some y)(F:y.cls=.type "list"):aJ q.2 a=false:=by
 induction e:aJ q.2 a with
 |false=>rfl
 |true =>
  have:=(K q M).2;rw[aC e,O] at this;rw[bq this] at F;exact nomatch F
theorem Yr{s s₂:ag}{F:ax}{y:Obj}{W:Array af}{n:Nat}{X:List V}{T:az->Option af}{m:M}(d:xq dM s.heap)(f:s.heap.get? F=some y)(g:y={cls:=.type "list",data:=.seq W n})(r:bf X W.toList)(j:X.length<=bB)
  (i:∀b o,s.heap.get? b=some o->s₂.heap.get? b=some o) (N:s₂.heap.Ns s.heap.objs.size T) (k:MR m T) :
  ai ⟨tP s.heap (F::dM.map (·.2)),s.heap.objs.size,s.heap.objs.size,⟨λS=>none,[]⟩,s₂⟩ (pR F y X) m s₂:=by
 have a:∀ {b},jn.contains b=true->∃q∈dM,q.2=b:=λh=>eo.mp (Db.mp h);refine⟨⟨T,N,λb o e=>i b o (of_hideAll _ e),d8 (hideAll_size _ _)⟩,(aq T N k),.inl rfl,⟨Yp F y,λb o e=>?_,⟨λb o e S=>?_,λb c l e=>(by have z:=(Ah e).2;exact nomatch z),λb o e=>?_,(λS S e=>nomatch e),(λS S e=>nomatch e),λb t e=>?_,λq K=>?_⟩,(λq K=>nomatch K)⟩,(λq K=>nomatch K),.refl _⟩
 ·have e:(match aJ b F with |true=>some y |false=>(match jn.contains b with |true=>some (iq #[]) |false=>none))=some o:=e;have key:s.heap.get? b=some o/\b∈F::dM.map (·.2):=by
   induction O:aJ b F with
   |true =>
    rw[O] at e;rw[aC O,←bq e];exact⟨f,.head _⟩
   |false =>
    rw[O] at e;induction R:jn.contains b with
    |true =>
     rw[R] at e;refine ak (a R) λq K z=>?_;rw[←bq e,←z];exact⟨(d q K).2,.tail _ (Nv K)⟩
    |false=>rw[R] at e;exact aN e
  exact(aH (i _ _ key.1) (cK (fB key.1)) (hideAll_none _ key.2))
 ·obtain⟨rfl,rfl⟩:=Ah e;exact⟨y,by show(match aJ b b with |true=>some y |false=>_)=_;rw[qx],rfl,W,n,g,r,j⟩
 ·obtain⟨rfl,rfl⟩:=Ah e;show(match aJ b b with |true=>some ik.o |false=>_)=_;rw[qx]
 ·have e:(match aJ b F with |true=>some ik.o |false=>(match jn.contains b with |true=>some .t |false=>none))=some t:=e;show(match aJ b F with |true=>some y |false=>(match jn.contains b with |true=>some (iq #[]) |false=>none)).isSome=true;induction O:aJ b F with
  |true=>rfl
  |false =>
   rw[O] at e;induction R:jn.contains b with
   |true=>rfl
   |false=>rw[R] at e;exact aN e
 ·have O:=Yq d K f (by rw[g]);have R:jn.contains q.2=true:=Db.mpr (Nv K);refine(eM (#[]) ?_ trivial (λS S e=>aN (show none=some _ from e)) ?_)
  ·show(match aJ q.2 F with |true=>some y |false=>(match jn.contains q.2 with |true=>some (iq #[]) |false=>none))=_;rw[O,R]
  ·show(match aJ q.2 F with |true=>some ik.o |false=>(match jn.contains q.2 with |true=>some ik.t |false=>none))=_;rw[O,R]
theorem Ys{K:bc}{pg:bJ}{w:bE}{p:bJ}{l:List az}{H:xo->Option af}{mg mb:az->Option af}{s:ag}{S:ax}{y:Obj}{xs:Array af}{n N:Nat}{Y:List V}{Q:V->Hp->Prop}
  (FK:eE K) (RO:nX K) (FF:∀f,qq f->∃d o g i,mm K f d o g i) (X:K.In s.heap) (nt:noTabs K=true) (nl:Iu K=true) (hT:xq dM s.heap) (T:Top p l H mg mb s.heap) (ha:s.heap.get? S=some y)
  (hy:y={cls:=.type "list",data:=.seq xs n}) (r:bf Y xs.toList) (hl:Y.length<=bB) (hN:N<=40) (q:i9 look ac (runs N) (prog .law) [.ref S] (pR S y Y) Q λW W=>False) :
  cy (av pg w) kk (.call (.ref (dL .law)) ⟨[.ref S],[]⟩) (λr I=>∃v u h,r=.ok (.ret v)/\VR u v/\Q u h/\(∀b o,b∉S::dM.map (·.2)->s.heap.get? b=some o->I.heap.get? b=some o) /\
   (h S=some (.ro y Y)->I.heap.get? S=some y)/\(∀t∈dM,GrownAt t.2 I.heap)/\I.os=s.os/\I.gens=s.gens) s:=by
 refine D9 (FF .law rfl) λd o g i O=>?_;refine ak (O.args [.ref S] [.ref S] (.cons rfl .nil) rfl) λds rd hpk=>?_;have hds:ds=[]:=by
  have:=rd.length;exact Nw.mp this.symm
 refine rE hds ?_;have hL:∀b∈S::dM.map (·.2),∀o,s.heap.get? b=some o->(∀es ep,o.data≠.dict es ep)/\o.data≠.plain:=λb hb o e=>by
  rcases cW.mp hb with rfl |hb
  ·rw[ha] at e;refine rF (bq e) (rE hy ?_);exact⟨nofun,nofun⟩
  ·refine ak (eo.mp hb) λt J A=>?_;subst A;rw[(hT t J).2] at e;refine rF (bq e) ?_;exact⟨nofun,nofun⟩
 have T':=Yo hL T;have X':K.In (tP s.heap (S::dM.map (·.2))):=λb o e=>xp _ (X b o e) λhb=>by
  have z:=mem_of_lookupK e;rcases cW.mp hb with rfl |hb
  ·have L:=eX.mp nl _ z;have B:=X _ _ e;rw[ha] at B;rw[←bq B,hy] at L;exact a9 L
  ·refine ak (eo.mp hb) λt J A=>?_;subst A;have L:=eX.mp nt _ z;have B:=X _ _ e;rw[(hT t J).2] at B;rw[←bq B] at L;exact a9 L
 have nc:∀y,g.scope.names.lookup y≠some .cell:=λy e=>by
  refine ak (O.cells y e) λx hx W=>?_;exact dx hx
 refine ym (by decide) (X _ _ O.look) O.data O.co O.gen O.stmts (O.code _ X) ((DC (M:=av pg w) X (hpk _)).here ?_);refine rE O.glob (rE O.jh (rE O.clos ?_));have Z:∀p∈(prog .law).params,g.scope.names.lookup (nm p)=some .local:=λp Z=>(O.se p Z).resolve_right (nc _);refine M8 O.kind (λx hx=>.inl ?_) (λR j s1 hI=>?_)
 ·refine ak (eo.mp (M9 hx).1) λp hp' ep=>?_;refine rF ep ?_;exact Z p hp'
 have k:R.locals=s.heap.objs.size:=by refine rE j ?_;rfl
 have C:R.kindOf=λz=>g.scope.names.lookup z:=by refine rE j ?_;rfl
 rw[C,k] at hI;obtain⟨⟨⟨h',tk,rfl⟩,hns,c,hfr0⟩,_⟩:=hI;have hm:MR ((Nm.script,some (V.ref S))::(prog .law).vars.map λx=>(x,none)) (bindL (λz=>g.scope.names.lookup z) (((prog .law).params.map nm).zip ([.ref S]++[])) λW=>none):=λx v e=>by
  have e:(match nb .script x with |true=>some (V.ref S) |false=>mget ((prog .law).vars.map λx=>(x,none)) x)=some v:=e;induction G:nb .script x with
  |false=>rw[G,zF] at e;exact aN e
  |true =>
   rw[G] at e;refine HB (ps:=[.script]) (xs:=[.ref S]) (m:=m0) (.cons (u:=.ref S) rfl .nil) (λx v e=>aN e) x v ?_ ?_
   ·refine rF (eO G) ?_;exact e
   ·refine rF (eO G) ?_;exact Z _ (.head _)
 have R1:=Yr (s₂:={s with heap:=h',toks:=tk}) hT ha hy r hl c hns hm;refine⟨T.nolimit.keeps c,?_⟩;have D:R.scope=g.scope:=by refine rE j ?_;rfl
 have P:R.frame=some s.heap.objs.size:=by refine rE j ?_;rfl
 have E:∀z,R.kindOf z=g.scope.names.lookup z:=λz=>congrFun C z;have F:bg (Zx.fn K pg w d N [] (kk.deeper R) R ⟨tP s.heap (S::dM.map (·.2)),s.heap.objs.size,s.heap.objs.size,⟨λW=>none,[]⟩,{s with heap:=h',toks:=tk}⟩):=by
  refine⟨D▸O.kind,k,by refine rE j ?_;rfl,by refine rE j ?_;rfl,λx a e W=>(aN e),λx e=>rfl,λx e=>absurd ((E _).symm.trans e) (nc _),X',(xI _ _ _ _ _ T'),(bG [R] rfl (mI) (λe he'=>?_)),?_,?_,rfl,λy e=>?_,λx a e=>(nomatch e),O.pE _ R X' (xI _ _ _ _ _ T') D (by refine rE j ?_;rfl) (by refine rE j ?_;rfl),λW=>(o6 P [] rfl),FK⟩
  ·refine rE (tO.mp he') ?_;exact⟨D▸O.kind,.inl P⟩
  ·exact aV (dS (dy (mM 6 hN) _) 12) (show 302+6*40+12<kj by decide)
  ·exact aV (dS (dy (mM 200 hN) _) 200) (show 7+200*40+200<kn by decide)
  ·exact e.elim (λe=>absurd ((E _).symm.trans e) (nc _)) λe=>absurd ((E _).symm.trans e) (O.HE _)
 refine(zQ (pg:=pg) (w:=w) FK RO FF N).elim λhC hL'=>?_;refine yl (aF ((lb (prog .law).body ⟨F,rfl,hC,hL',RO⟩ (by rw[show(Zx.fn K pg w d N [] (kk.deeper R) R _).env.kindOf=λz=>g.scope.names.lookup z from C];exact O.same)).run R1 q) (λfl s2 z=>?_) (λe s2 z=>?_))
 ·refine fJ z λfl' B m2 rf U q2=>?_;refine U.fr.elim λμ2 F2=>?_;refine U.own.elim λw2 O2=>?_;refine⟨_,yg fl',B,rfl,(by cases rf<;>first |rfl |assumption),q2,λb o hb e=>F2.keep b o (xp _ e hb),λe=>U.Ub e,λt J=>?_,U.ef.os,U.ef.gens⟩;refine ak (O2.hr.tabs t J) λps G W=>?_;exact⟨ps,(O2.own _ _ G).1⟩
 ·refine c4 z λW W W W e=>?_;exact e.elim
def Iw:Prop:=∃N,N<=40/\∀(h:Hp) (F:Nat) (y:Obj) (K:List Int),h F=some (.ro y (K.map .int))->i9 look ac (runs N) (prog .law) [.ref F] h (λv M=>v=.bool true/\M F=h F) λO O=>False
theorem Yt(h:Dj a b):bf (b.map V.int) a:=by
 induction h with
 |nil=>exact .nil
 |cons n t _ c=>exact .cons ⟨t,rfl⟩ c
theorem Yu{K:bc}{pg:bJ}{w:bE}{p:bJ}{R:List az}{c F:xo->Option af}{mg P:az->Option af}{s:ag}{i C:ax}{m:List Int}{j:ClaimW}{D:az->Option ax}{args:List WData}{E:List af}
  (S:Iw) (n:Ir K=true) (B:z4 K) (Q:Af K) (U:noTabs K=true) (Y:Iu K=true) (Z:dM.all (λq=>codeHdIn K q.1 q.2)=true) (X:K.In s.heap) (t:∀q∈dM,s.heap.get? q.2=some (iq #[])) (T:Top p R c mg P s.heap)
  (x:mg ("law" : az)=some (.ref C)) (hg:s.gens=#[]) (G:s.heap.get? i=some {cls:=.type "list",data:=.seq E.toArray}) (hi:Dj E m) (d:m.length<=63) (M:∀cls,j.raises args cls=false) (W:j.post args (.bool true) args=true) :
  aj (av pg w) kk (wt (.ref C) [.ref i]) (λv k=>qB j D F args s (.ok (.ret v)) k) (λe k=>qB j D F args s (.error e) k) s:=by
 have H:=Ib (an n).1;have y:=(H.Gk .law "law" (by kernel_rfl));have e:=wF X T.g y;rw[x] at e;injection e with e;injection e with e;refine rE e ?_;refine ak S λN hN S=>?_;have g:xq dM s.heap:=λq O=>⟨codeHd_of_K X (eX.mp Z q O),t q O⟩
 have r:=Yt hi;have hl:(m.map V.int).length<=bB:=by rw[dq];unfold bB;exact ah d (by decide)
 refine kH (ja (Ys (pg:=pg) (w:=w) H (Iq (an (an n).2).2 Q) (λf y=>Ik (an (an n).2).1 B f y) X U Y g T G rfl (by simpa using r) hl hN (S _ _ _ _ Iv)) λr k z=>?_);obtain⟨v,u,h,rfl,ru,⟨rfl,hs⟩,I,l,J,k4,k5⟩:=z;have l:=l (hs.trans Iv);cases (show v=.bool true from ru);refine(dE (.inl (nz _ _ [] rfl M (.bool true) W (λzz=>⟨.nil,λzz h=>dx h⟩))) ⟨λb o e=>?_,λb o e=>?_⟩ k4 (.of_eq (k5.trans hg)))
 ·by_cases hb:b∈i::dM.map (·.2)
  ·rcases cW.mp hb with rfl |hb
   ·rw[G] at e;exact .inl (l.trans e)
   ·refine ak (eo.mp hb) λq O a=>?_;subst a;obtain⟨L,A⟩:=J q O;rw[t q O] at e;refine sF e ?_;exact .inr (.inl ⟨((g q O).1.tab (t q O)).isCodeTable,rfl,#[],L,rfl,by refine rE Array.empty_append ?_;exact A⟩)
  ·exact .inl (I b o hb e)
 ·by_cases hb:b∈i::dM.map (·.2)
  ·rcases cW.mp hb with rfl |hb
   ·exact⟨_,l⟩
   ·refine ak (eo.mp hb) λq O a=>?_;refine rF a ?_;refine(J q O).elim λL A=>?_;exact⟨_,A⟩
  ·exact⟨o,I b o hb e⟩
end Mine.Internal
end
section
namespace Mine.Internal
noncomputable def cc(t:List UInt8)(i:Nat):Nat:=match t[i]? with |some b=>b.toNat+1 |none=>0
theorem nY{i:Nat}(h:t[i]?=some b):cc t i=b.toNat+1:=by unfold cc;exact rE h rfl
theorem Ai{i:Nat}(h:i<t.length):0<cc t i:=by refine rE (nY (f7 h)) ?_;exact hK _
theorem acE{i:Nat}(h:t.length<=i):cc t i=0:=by unfold cc;exact rE (qP h) rfl
theorem Aj{i:Nat}:cc t i<257:=by
 unfold cc;induction t[i]? with
 |none=>exact hK _
 |some b=>exact DL b.toNat_lt
def Ag(c:Nat->Nat)(p o k:Nat):Prop:=∀i,i<k->c (p+i)=c (o+i)
theorem Ag.le(h:Ag c p o k)(l:j<=k):Ag c p o j:=λi F=>h i (bn F l)
theorem Ag.symm(h:Ag c p o k):Ag c o p k:=λi F=>(h i F).symm
theorem Ag.trans(h:Ag c p o k)(g:Ag c o q k):Ag c p q k:=λi F=>(h i F).trans (g i F)
theorem Ag.zero:Ag c p o 0:=λi F=>absurd F (oY _)
theorem Ag.succ(h:Ag c p o k)(e:c (p+k)=c (o+k)):Ag c p o (k+1):=λi F =>
 (fX (dA F)).elim (h i) λz=>by refine rE z ?_;exact e
noncomputable def ext(c:Nat->Nat)(p o:Nat):Nat->Nat
 | 0=>0
 |l+1=>let k:=ext c p o l;if k=l/\c (p+k)=c (o+k) then k+1 else k
section
variable{c:Nat->Nat}{p o:Nat}
theorem Yv(l:Nat):ext c p o (l+1)=if ext c p o l=l/\c (p+ext c p o l)=c (o+ext c p o l) then ext c p o l+1 else ext c p o l:=rfl
theorem si:∀l,ext c p o l<=l/\Ag c p o (ext c p o l)/\(ext c p o l=l\/c (p+ext c p o l)≠c (o+ext c p o l))
 | 0=>(aH (a6 _) Ag.zero (.inl rfl))
 |l+1=>by
  refine nq (si l) λF K M=>?_;rw[Yv];by_cases e:ext c p o l=l/\c (p+ext c p o l)=c (o+ext c p o l)
  ·rw[if_pos e];exact(aH (db F) (K.succ e.2) (.inl (congrArg w7 e.1)))
  ·rw[if_neg e];exact(aH (ks F) K (.inr λz=>M.elim (λw=>e ⟨w,z⟩) λw=>w z))
theorem eC:ext c p o l<=l:=(si l).1
theorem ic:Ag c p o (ext c p o l):=(si l).2.1
theorem Ix(h:Ag c p o k)(F:k<=l):k<=ext c p o l:=by
 refine c8.mp λz=>?_
 rcases(si (c:=c) (p:=p) (o:=o) l).2.2 with e |e
 ·rw[e] at z;exact c8.mpr F z
 ·exact e (h _ z)
theorem pS(h:Ag c p o k)(F:k<=l)(e:k=l\/c (p+k)≠c (o+k)):ext c p o l=k :=
 fi (c8.mp λz=>e.elim (λw=>c8.mpr eC (w▸z)) λw=>w (ic k z)) (Ix h F)
theorem vq(h:ext c p o l<l):c (p+ext c p o l)≠c (o+ext c p o l):=(si l).2.2.resolve_left (cK h)
end
theorem Yw(h:Ag c z y k)(F:l<=k):ext c p z l=ext c p y l:=by
 refine pS ((ic (p:=p) (o:=y)).trans (h.symm.le (ah eC F))) eC ?_;rcases fX (eC (c:=c) (p:=p) (o:=y) (l:=l)) with e |e
 ·exact .inr λw=>vq e (w.trans (h _ (bn e F)))
 ·exact .inl e
noncomputable def R(f:Nat->Nat)(p lo:Nat):Nat->Nat->List (Int×Int)
 | 0,_=>[]
 |u+1,m=>if lo<=u then (if m<f u then ((f u:Int),(p:Int) - u)::R f p lo u (f u) else R f p lo u m) else []
section
variable{f:Nat->Nat}{p lo:Nat}
theorem j2(u m:Nat):R f p lo (u+1) m=if lo<=u then (if m<f u then ((f u:Int),(p:Int) - u)::R f p lo u (f u) else R f p lo u m) else []:=rfl
theorem Yx(h:v<=lo):R f p lo v m=[]:=by
 induction v with
 |zero=>rfl
 |succ v=>rw[j2,if_neg (iW.mpr h)]
theorem vr:∀ {u:Nat},v<=u->(∀z,lo<=z->v<=z->z<u->f z<=m)->R f p lo u m=R f p lo v m
 | 0,h,_=>by exact rE (DM.mp h) rfl
 |u+1,h,k=>by
  rcases fX h with h |h
  ·have h:=dA h;rw[j2];by_cases e:lo<=u
   ·exact rE (if_pos e) (rE (if_neg (c8.mpr (k u e h (c7 u)))) (rE (vr h λz a b d=>k z a b (f6 d)) rfl))
   ·exact rE (if_neg e) (rE (Yx (ah h (Nat.le_of_not_le e))) rfl)
  ·exact rE h rfl
theorem vt(k:∀z,lo<=z->z<u->f z<=m):R f p lo u m=[]:=vr (ca u) λz a F b=>k z a b
theorem Iy(F:lo<=x)(K:x<u)(k:∀z,x<z->z<u->f z<=m):
  R f p lo u m=if m<f x then ((f x:Int),(p:Int) - x)::R f p lo x (f x) else R f p lo x m:=by
 rw[vr (v:=x+1) K λz M a b=>k z a b,j2,if_pos F]
end
theorem aY(q:i9 look ac (runs n) (prog f) a h Q E):runs (n+1) f a h Q E:=by unfold runs at q ⊢;exact q
theorem aP{F:Type}{p q:F->Prop}{w:F}(K:p w)(M:q w):∃x,p x/\q x:=(aq w K M)
theorem Hp.set_same{h:Hp}{a:Nat}{o:O}:(h.set a o) a=some o:=by unfold Hp.set;exact if_pos rfl
theorem Hp.cJ{h:Hp}{a b:Nat}{o:O}(e:b≠a):(h.set a o) b=h b:=by unfold Hp.set;exact if_neg e
theorem fresh_ne{h:Hp}{a b:Nat}{o:O}(F:h a=some o)(K:h b=none):a≠b:=λe=>by rw[e,K] at F;exact aN F
theorem gz{h:Hp}{a b:Nat}{o p:O}(F:h a=some o)(K:h b=some p)(e:o≠p):a≠b:=λz=>e (by rw[z,K] at F;exact(bq F).symm)
def ae(F:Nat->Prop)(h K:Hp):Prop:=∀x o,h x=some o->¬F x->K x=some o
abbrev au:Hp->Hp->Prop:=ae λF=>False
theorem ae.refl:ae F h h:=λK K e K=>e
theorem ae.trans(a:ae F h c)(b:ae F c d):ae F h d:=λx o e n=>b x o (a x o e n) n
theorem ae.mono(a:ae F h b)(i:∀x,F x->G x):ae G h b:=λx o e n=>a x o e λz=>n (i x z)
theorem ae.set{F:Nat->Prop}{a:Nat}{o:O}(f:F a):ae F h (h.set a o):=λx o e n=>(Hp.cJ λz=>n (by refine rE z ?_;exact f)).trans e
theorem ae.new{F:Nat->Prop}{a:Nat}{o:O}(f:h a=none):ae F h (h.set a o):=λx o e n=>(Hp.cJ (fresh_ne e f)).trans e
theorem ae.at(p:au h b)(e:h a=some o):b a=some o:=p a o e id
inductive Ht where
 |o (x:O) |a (x:O) (w:V) |g (w:V)
set_option genCtorIdx true in
inductive Ob where
 |at (a:Nat) (o:O) |aA (o:O) (f:Nm) (w:V) |p (P:Prop)
def Ob.holds(h:Hp):Ob->Prop
 |.at a o=>h a=some o
 |.aA o f w=>et look o f (.val w)
 |.p P=>P
def bd(h:Hp):List Ob->Prop
 |[]=>True
 |x::r=>(match r with
  |[]=>x.holds h
  |y::z=>bd h (y::z)/\x.holds h)
theorem bd.hd(a:bd h (x::r)):x.holds h:=by
 induction r with
 |nil=>exact a
 |cons y z=>exact(show bd h (y::z)/\x.holds h from a).2
theorem bd.tl(a:bd h (x::r)):bd h r:=by
 induction r with
 |nil=>exact trivial
 |cons y z=>exact(show bd h (y::z)/\x.holds h from a).1
section
variable{α:Type}
abbrev Kt(α:Type):=V->List Ht->List Ob->Option α
noncomputable def j3(K:Kt α):Rs->List Ht->List Ob->Option α
 |.val v,s,b=>K v s b
 |.get o,s,b=>(match s with |.g w::r=>K w r (.p (o=some w)::b) |_=>none)
 |.guard p r,s,b=>j3 K r s (.p p::b)
 |.ld a L,s,b=>(match s with |.o x::r=>j3 K (L x) r (.at a x::b) |_=>none)
 |_,_,_=>none
noncomputable def Ak(o:O)(f:Nm):Option V :=
 match o with
 |.inst c a=>(match look c f with
  |.field=>mget a f
  |.const v=>(match mget a f with |none=>some v |_=>none)
  |_=>none)
 |_=>none
noncomputable def nZ{F:Type}(o:Option F)(K:F->Option α):Option α :=
 match o with
 |some v=>K v
 |none=>none
noncomputable def Iz(a:Nat)(f:Nm)(K:Kt α)(s:List Ht)(b:List Ob):Option α :=
 match s with
 |.o x::r=>nZ (Ak x f) λv=>K v r (.at a x::b)
 |.a x w::r=>K w r (.aA x f w::.at a x::b)
 |_=>none
noncomputable def IA(a:Nat)(K:Kt α)(s:List Ht)(b:List Ob):Option α :=
 match s with
 |.g v::r=>K v r (.at a (.cell (some v))::b)
 |_=>none
noncomputable def IB(v:V)(K:Nat->Option α):Option α :=
 match v with
 |.ref a=>K a
 |_=>none
noncomputable def sj(a b:V)(f:Int->Int->Bool):Option V :=
 match a with
 |.int i=>(match b with |.int j=>some (.bool (f i j)) |_=>none)
 |_=>none
noncomputable def Al(a b:V)(f:Bool->Bool):Option V :=
 match a with
 |.int i=>(match b with |.int j=>some (.bool (f (decide (i=j)))) |_=>none)
 |.bytes i=>(match b with |.bytes j=>some (.bool (f (decide (i=j)))) |_=>none)
 |.str i=>(match b with |.str j=>some (.bool (f (decide (i=j)))) |_=>none)
 |_=>none
noncomputable def Am(a b:V)(f:Bool->Bool):Option V :=
 match b with
 |.none=>some (.bool (f (isNone a)))
 |_=>none
noncomputable def vu(F:iz)(a b:V):Option V :=
 match F with
 |.eq=>Al a b id
 |.ne=>Al a b not
 |.lt=>sj a b λi j=>decide (i<j)
 |.le=>sj a b λi j=>decide (i<=j)
 |.gt=>sj a b λi j=>decide (j<i)
 |.ge=>sj a b λi j=>decide (j<=i)
 |.is=>Am a b id
 |.pi=>Am a b not
noncomputable def IC(v:V)(K:V->Option α):Option α :=
 match v with
 |.int i=>K (.int (-i))
 |_=>none
noncomputable def ID(v:V)(K:V->Option α):Option α :=
 match v with
 |.bool i=>K (.bool (!i))
 |_=>none
noncomputable def An(b:Bool)(K:Option α):Option α :=
 match b with
 |true=>K
 |false=>none
noncomputable def IG(v:V)(m:Nm)(F:List V)(K:Kt α)(s:List Ht)(b:List Ob):Option α :=
 match v with
 |.int i=>An (nb m .ug) (j3 K (i8 (.kD i) F) s b)
 |.ref a=>An (nb m .get) (match s with
  |.o x::r=>(match x with
   |.dict k f=>j3 K (i8 (.i7 a) F) (.o (.dict k f)::r) (.at a (.dict k f)::b)
   |_=>none)
  |_=>none)
 |_=>none
mutual
noncomputable def pe(c:Cs)(m:M):X->Kt α->List Ht->List Ob->Option α
 |.none,K,s,b=>K .none s b
 |.absent,K,s,b=>K .none s b
 |.bool i,K,s,b=>K (.bool i) s b
 |.int i,K,s,b=>K (.int i) s b
 |.str i,K,s,b=>K (.str i) s b
 |.lX,K,s,b=>K (.bytes []) s b
 |.aa x,K,s,b=>nZ (mget m x) λv=>K v s b
 |.bh x,K,s,b=>nZ (cF c x) λa=>IA a K s b
 |.dF x,K,s,b=>nZ (nE x) λi=>K (.int i) s b
 |.aB f d,K,s,b=>dg c m d (λF s b=>j3 K (kB f F) s b) s b
 |.ay o f d,K,s,b=>pe c m o (λv s b=>dg c m d (λF s b=>IG v f F K s b) s b) s b
 |.aA o f,K,s,b=>pe c m o (λv s b=>IB v λa=>Iz a f K s b) s b
 |.bin e x y,K,s,b=>pe c m x (λv s b=>pe c m y (λw s b=>j3 K (iS e v w) s b) s b) s b
 |.neg x,K,s,b=>pe c m x (λv s b=>IC v λv=>K v s b) s b
 |.not x,K,s,b=>pe c m x (λv s b=>ID v λv=>K v s b) s b
 |.cmp x e y,K,s,b=>pe c m x (λv s b=>pe c m y (λw s b=>nZ (vu e v w) λr=>K r s b) s b) s b
 |.sub x y,K,s,b=>pe c m x (λv s b=>pe c m y (λw s b=>j3 K (uq v w) s b) s b) s b
 |.slice x y z,K,s,b=>pe c m x (λv s b=>pe c m y (λw s b=>pe c m z (λu s b=>j3 K (ur v w u) s b) s b) s b) s b
 |_,_,_,_=>none
noncomputable def dg(c:Cs)(m:M):List X->(List V->List Ht->List Ob->Option α)->List Ht->List Ob->Option α
 |[],K,s,b=>K [] s b
 |e::r,K,s,b=>pe c m e (λv s b=>dg c m r (λF s b=>K (v::F) s b) s b) s b
end
section
variable{h:Hp}{K:Kt α}{x:α}
def oC{F:Type}(h:Hp)(K:F->List Ht->List Ob->Option α)(x:α)(b:List Ob)(T:F->Prop):Prop:=∃v s a,K v s a=some x/\(bd h a->bd h b/\T v)
theorem pT(r:Rs):∀ {s:List Ht} {b:List Ob},j3 K r s b=some x->oC h K x b λv=>∀Q:V->Hp->Prop,Q v h->r.run h Q:=by
 induction r with
 |val w=>exact λe=>(c9 _ _ _ e (λa=>⟨a,λQ q=>q⟩))
 |get o =>
  intro s b e;induction s with
  |nil=>exact aN e
  |cons y r=>rcases y with _ |_<;>first |(exact aN e;done) |exact(c9 _ _ _ e (λa=>⟨a.tl,λQ q=>(aq _ a.hd q)⟩))
 |guard p r c =>
  intro s b e;refine c4 (c e) λv F M O k=>?_;exact(c9 v F M O (λa=>⟨(k a).1.tl,λQ q=>⟨(k a).1.hd,(k a).2 Q q⟩⟩))
 |ld y L c =>
  intro s b e;induction s with
  |nil=>exact aN e
  |cons z r =>
   induction z with
   |o z =>
    refine c4 (c z e) λv F M O k=>?_;exact(c9 v F M O (λa=>⟨(k a).1.tl,λQ q=>(aq z ((k a).1.hd) ((k a).2 Q q))⟩))
   |_=>exact aN e
 |_=>intro s b e;exact aN e
theorem Yy(h:Ak o f=some v):et look o f (.val v):=by
 induction o with
 |inst c a =>
  have h:(match look c f with
   |.field=>mget a f
   |.const v=>(match mget a f with |none=>some v |_=>none)
   |_=>none)=some v:=h
  induction e:look c f with
  |field=>rw[e] at h;exact .field e h
  |const w =>
   rw[e] at h;have h:(match mget a f with |none=>some w |_=>none)=some v:=h;induction b:mget a f with
   |none=>rw[b] at h;refine rF (bq h) ?_;exact .const e b
   |some y=>rw[b] at h;exact aN h
  |_=>rw[e] at h;exact aN h
 |_=>exact aN h
theorem sk(e:nZ o L=some x):∃y,o=some y/\L y=some x:=by
 induction o with
 |none=>exact aN e
 |some y=>exact(aq y rfl e)
theorem Yz(e:Iz y f K s b=some x):oC h K x b λv=>∀L:Nat->At->Prop,L y (.val v)->po look (.ref y) f h L:=by
 induction s with
 |nil=>exact aN e
 |cons z r =>
  induction z with
  |o z =>
   refine ak (sk (show nZ (Ak z f) (λv=>K v r (.at y z::b))=some x from e)) λw F M=>?_;exact(c9 w _ _ M (λa=>⟨a.tl,λL k=>(jJ z a.hd _ (Yy F) k)⟩))
  |a z w=>exact(c9 w _ _ e (λa=>⟨a.tl.tl,λL k=>(jJ z a.tl.hd _ a.hd k)⟩))
  |g w=>exact aN e
theorem YA(e:IA y K s b=some x):oC h K x b λv=>h y=some (.cell (some v)):=by
 induction s with
 |nil=>exact aN e
 |cons z r =>
  induction z with
  |g w=>exact(c9 w _ _ e (λa=>⟨a.tl,a.hd⟩))
  |_=>exact aN e
theorem vv(e:sj a b f=some v):∃r,v=.bool r/\∀Q:Bool->Prop,Q r->pj a b λi j=>Q (f i j):=by
 induction a with
 |int i =>
  induction b with
  |int j=>refine sF e ?_;exact(aq _ rfl (λQ q=>q))
  |_=>exact aN e
 |_=>exact aN e
theorem IH(e:Al a b f=some v):∃r,v=.bool r/\∀Q:Bool->Prop,Q r->rL a b h λr=>Q (f r):=by
 induction a with
 |int i =>
  induction b with
  |int j=>refine sF e ?_;exact(aq _ rfl (λQ q=>q))
  |_=>exact aN e
 |bytes i =>
  induction b with
  |bytes j=>refine sF e ?_;exact(aq _ rfl (λQ q=>q))
  |_=>exact aN e
 |str i =>
  induction b with
  |str j=>refine sF e ?_;exact(aq _ rfl (λQ q=>q))
  |_=>exact aN e
 |_=>exact aN e
theorem II(e:Am a b f=some v):∃r,v=.bool r/\∀Q:Bool->Prop,Q r->isNone b=true/\Q (f (isNone a)):=by
 induction b with
 |none=>refine sF e ?_;exact(aq _ rfl (λQ q=>⟨rfl,q⟩))
 |_=>exact aN e
theorem Ao(e:vu c a b=some v):∃r,v=.bool r/\∀Q:Bool->Prop,Q r->fO c h a b Q:=by
 rcases c with ⟨⟩
 ·exact IH e
 ·exact IH e
 ·exact vv e
 ·exact vv e
 ·exact vv e
 ·exact vv e
 ·exact II e
 ·exact II e
theorem IJ(e:An b o=some x):b=true/\o=some x:=by
 induction b with
 |false=>exact aN e
 |true=>exact⟨rfl,e⟩
theorem YB(e:IG v f c K s b=some x):oC h K x b λw=>∃t,(∀L:ye->Prop,L (.bi t)->nC look v f h L)/\∀Q:V->Hp->Prop,Q w h->(i8 t c).run h Q:=by
 induction v with
 |int i =>
  refine(IJ e).elim λM F=>?_;obtain⟨v,O,R,S,k⟩:=pT _ F;exact(c9 v O R S (λa=>(xG ((k a).1) _ (λL q=>⟨eO M,q⟩) ((k a).2))))
 |ref y =>
  refine(IJ e).elim λM F=>?_;induction s with
  |nil=>exact aN F
  |cons z r =>
   induction z with
   |o z =>
    induction z with
    |dict k f =>
     obtain⟨v,O,R,S,k⟩:=pT _ (show j3 K (i8 (.i7 y) c) _ _=some x from F);exact(c9 v O R S (λa=>(xG ((k a).1.tl) _ (λL q=>(jJ _ ((k a).1.hd) _ (by refine rE (eO M) ?_;exact .i7) q)) ((k a).2))))
    |_=>exact aN F
   |_=>exact aN F
 |_=>exact aN e
theorem YC(e:IB v L=some x):∃a,v=.ref a/\L a=some x:=by
 rcases v with _ |_<;>first |exact(aq _ rfl e) |exact aN e
theorem YD(e:IC v L=some x):∃a,v=.int a/\L (.int (-a))=some x:=by
 rcases v with _ |_<;>first |exact(aq _ rfl e) |exact aN e
theorem YE(e:ID v L=some x):∃a,v=.bool a/\L (.bool (!a))=some x:=by
 rcases v with _ |_<;>first |exact(aq _ rfl e) |exact aN e
end
section
variable{h:Hp}{C:bU}{c:Cs}{m:M}
def sp(h:Hp)(C:bU)(c:Cs)(m:M)(e:X)(v:V):Prop:=∀(Q:PV) (E:PE),Q v h m->ev look ac C c e h m Q E
def IK(h:Hp)(C:bU)(c:Cs)(m:M)(e:List X)(v:List V):Prop:=∀(Q:List V->Hp->M->Prop) (E:PE),Q v h m->cY look ac C c e h m Q E
def da(h:Hp)(C:bU)(c:Cs)(m:M)(e:X):Prop:=∀(α:Type) (K:Kt α) (s:List Ht) (b:List Ob) (x:α),pe c m e K s b=some x->oC h K x b (sp h C c m e)
def sr(h:Hp)(C:bU)(c:Cs)(m:M)(e:List X):Prop:=∀(α:Type) (K:List V->List Ht->List Ob->Option α) (s:List Ht) (b:List Ob) (x:α),dg c m e K s b=some x->oC h K x b (IK h C c m e)
theorem pv(k:∀(α:Type) (K:Kt α) (s:List Ht) (b:List Ob),pe c m e K s b=K v s b)(q:sp h C c m e v):da h C c m e:=λα K s b x e=>(c9 _ _ _ ((k α K s b).symm.trans e) (λa=>⟨a,q⟩))
theorem p1(F:da h C c m d)(k:∀(α:Type) (K:Kt α) (s:List Ht) (b:List Ob) (x:α),pe c m e K s b=some x->∃L:Kt α,pe c m d L s b=some x/\∀v s b,L v s b=some x->oC h K x b λw=>sp h C c m d v->sp h C c m e w):da h C c m e:=λα K s b x z=>by
 refine ak (k α K s b x z) λL M O=>?_;refine c4 (F α L s b x M) λv R S T a1=>?_;obtain⟨w,V,W,X,a2⟩:=O v R S T;exact(c9 w V W X (λa=>⟨(a1 (a2 a).1).1,(a2 a).2 (a1 (a2 a).1).2⟩))
theorem YF(F:da h C c m d)(M:da h C c m e):da h C c m (.bin f d e):=p1 F λα K s b x z=>⟨_,z,λv s b z=>by
 refine c4 (M α _ s b x z) λw V W O a1=>?_;obtain⟨u,R,S,T,a2⟩:=pT _ O;exact(c9 u R S T (λa=>⟨(a1 (a2 a).1).1,λq Q E k=>q _ _ ((a1 (a2 a).1).2 _ _ ((a2 a).2 _ k))⟩))⟩
theorem YG(F:da h C c m d)(M:da h C c m e):da h C c m (.sub d e):=p1 F λα K s b x z=>⟨_,z,λv s b z=>by
 refine c4 (M α _ s b x z) λw V W O a1=>?_;obtain⟨u,R,S,T,a2⟩:=pT _ O;exact(c9 u R S T (λa=>⟨(a1 (a2 a).1).1,λq Q E k=>q _ _ ((a1 (a2 a).1).2 _ _ ((a2 a).2 _ k))⟩))⟩
theorem YH(F:da h C c m d)(M:da h C c m e):da h C c m (.cmp d f e):=p1 F λα K s b x z=>⟨_,z,λv s b z=>by
 refine c4 (M α _ s b x z) λw V W O a1=>?_;refine ak (sk O) λu R S=>?_;obtain⟨r,rfl,k⟩:=Ao (h:=h) R;exact(c9 _ _ _ S (λa=>⟨(a1 a).1,λq Q E T=>q _ _ ((a1 a).2 _ _ (k (λr=>Q (.bool r) h m) T))⟩))⟩
theorem YI(M:da h C c m d)(O:da h C c m e)(R:da h C c m f):da h C c m (.slice d e f):=p1 M λα K s b x z=>⟨_,z,λv s b z=>by
 refine c4 (O α _ s b x z) λw g i S a1=>?_;refine c4 (R α _ _ _ x S) λj l n T F=>?_;obtain⟨u,V,W,X,a2⟩:=pT _ T;exact(c9 u V W X (λa=>⟨(a1 (F (a2 a).1).1).1,λq Q E k=>q _ _ ((a1 (F (a2 a).1).1).2 _ _ ((F (a2 a).1).2 _ _ ((a2 a).2 _ k)))⟩))⟩
theorem YJ(M:da h C c m d):da h C c m (.aA d f):=p1 M λα K s b x z=>⟨_,z,λv s b z=>by
 refine ak (YC z) λy F O=>?_;refine rE F ?_;refine c4 (Yz (h:=h) O) λu R S T a2=>?_;exact(c9 u R S T (λa=>⟨(a2 a).1,λq Q E k=>q _ _ ((a2 a).2 _ k)⟩))⟩
theorem YK(M:da h C c m d):da h C c m (.neg d):=p1 M λα K s b x z=>⟨_,z,λv s b z=>by
 refine ak (YD z) λy F O=>?_;refine rE F ?_;exact(c9 _ _ _ O (λa=>⟨a,λq Q E k=>q _ _ k⟩))⟩
theorem YL(M:da h C c m d):da h C c m (.not d):=p1 M λα K s b x z=>⟨_,z,λv s b z=>by
 refine ak (YE z) λy F O=>?_;refine rE F ?_;exact(c9 _ _ _ O (λa=>⟨a,λq Q E k=>q _ _ k⟩))⟩
theorem YM(M:da h C c m d)(O:sr h C c m e):da h C c m (.ay d f e):=p1 M λα K s b x z=>⟨_,z,λv s b z=>by
 refine c4 (O α _ s b x z) λw g i R a1=>?_;refine c4 (YB (h:=h) R) λu S T V a2=>?_;refine(c9 u S T V (λa=>?_));refine tX (a2 a) λF t W X=>?_;exact⟨(a1 F).1,λq Q E k=>q _ _ (W _ ((a1 F).2 _ _ (X _ k)))⟩⟩
theorem YN(F:sr h C c m d):da h C c m (.aB f d):=λα K s b x z=>by
 refine c4 (F α _ s b x z) λw T V M a1=>?_;refine c4 (pT (h:=h) _ M) λu O R S a2=>?_;exact(c9 u O R S (λa=>⟨(a1 (a2 a).1).1,λQ E k=>(a1 (a2 a).1).2 _ _ ((a2 a).2 _ k)⟩))
theorem YO:da h C c m (.aa y):=λα K s b x z=>by
 refine ak (sk z) λv F M=>?_;exact(c9 _ _ _ M (λa=>⟨a,λQ E q=>by show(match mget m y with |.some v=>Q v h m |.none=>False);refine rE F ?_;exact q⟩))
theorem YQ:da h C c m (.bh y):=λα K s b x z=>by
 refine ak (sk z) λv F M=>?_;refine c4 (YA (h:=h) M) λu R S O a2=>?_;exact(c9 _ _ _ O (λa=>⟨(a2 a).1,λQ E q=>by show(match cF c y with |.some a=>∃v,h a=.some (.cell (.some v))/\Q v h m |.none=>False);refine rE F ?_;exact(aq _ ((a2 a).2) q)⟩))
theorem YR:da h C c m (.dF y):=λα K s b x z=>by
 refine ak (sk z) λv F M=>?_;exact(c9 _ _ _ M (λa=>⟨a,λQ E q=>by show(match nE y with |.some i=>Q (.int i) h m |.none=>False);refine rE F ?_;exact q⟩))
theorem YS(F:da h C c m e)(M:sr h C c m d):sr h C c m (e::d):=λα K s b x z=>by
 refine c4 (F α _ s b x z) λv S T O a1=>?_;refine c4 (M α _ _ _ x O) λw V W R a2=>?_;exact(c9 _ _ _ R (λa=>⟨(a1 (a2 a).1).1,λQ E q=>(a1 (a2 a).1).2 _ _ ((a2 a).2 _ _ q)⟩))
theorem gZ(k:∀(α:Type) (K:Kt α) (s:List Ht) (b:List Ob),pe c m e K s b=none):da h C c m e:=λα K s b x z=>nomatch (k α K s b).symm.trans z
mutual
theorem gA:∀e:X,da h C c m e
 |.none=>pv (λF F F F=>rfl) λQ E q=>q
 |.absent=>pv (λF F F F=>rfl) λQ E q=>q
 |.bool b=>pv (λF F F F=>rfl) λQ E q=>q
 |.int b=>pv (λF F F F=>rfl) λQ E q=>q
 |.str b=>pv (λF F F F=>rfl) λQ E q=>q
 |.lX=>pv (λF F F F=>rfl) λQ E q=>q
 |.aa x=>YO
 |.bh x=>YQ
 |.dF x=>YR
 |.aB b a=>YN (vw a)
 |.ay o f a=>YM (gA o) (vw a)
 |.aA o f=>YJ (gA o)
 |.bin d x y=>YF (gA x) (gA y)
 |.neg x=>YK (gA x)
 |.not x=>YL (gA x)
 |.cmp x d y=>YH (gA x) (gA y)
 |.sub x y=>YG (gA x) (gA y)
 |.slice x y z=>YI (gA x) (gA y) (gA z)
 |.aD _ _=>gZ λF F F F=>rfl
 |.bN _ _=>gZ λF F F F=>rfl
 |.lY _=>gZ λF F F F=>rfl
 |.jP _ _=>gZ λF F F F=>rfl
 |.fN _ _ _ _ _=>gZ λF F F F=>rfl
 |.and _ _=>gZ λF F F F=>rfl
 |.or _ _=>gZ λF F F F=>rfl
 |.ite _ _ _=>gZ λF F F F=>rfl
 |.rev _=>gZ λF F F F=>rfl
 |.list _=>gZ λF F F F=>rfl
 |.tup _=>gZ λF F F F=>rfl
 |.jQ=>gZ λF F F F=>rfl
 |.comp _ _ _ _=>gZ λF F F F=>rfl
 |.lam _=>gZ λF F F F=>rfl
termination_by structural e=>e
theorem vw:∀e:List X,sr h C c m e
 |[]=>λα K s b x z=>(c9 _ _ _ z (λa=>⟨a,λQ E q=>q⟩))
 |x::r=>YS (gA x) (vw r)
termination_by structural e=>e
end
noncomputable def vE(c:Cs)(m:M)(e:X)(os:List Ht):Option (V×List Ht×List Ob):=pe c m e (λv s b=>some (v,s,b)) os []
noncomputable def dN(c:Cs)(m:M)(e:List X)(os:List Ht):Option (List V×List Ht×List Ob):=dg c m e (λv s b=>some (v,s,b)) os []
theorem dv(F:vE c m e os=some (v,f,d))(K:bd h d):sp h C c m e v:=by
 refine c4 (gA (h:=h) (C:=C) e _ _ _ _ _ F) λw s b z a=>?_;injection z with z;injection z with M z;injection z with O R;subst M O R;exact(a K).2
theorem jo(F:dN c m e os=some (v,f,d))(K:bd h d):IK h C c m e v:=by
 refine c4 (vw (h:=h) (C:=C) e _ _ _ _ _ F) λw s b z a=>?_;injection z with z;injection z with M z;injection z with O R;subst M O R;exact(a K).2
end
end
section
variable{C:bU}{c:Cs}{h:Hp}{m:M}{Q:Fl->Hp->M->Prop}{E:PE}{r:List S}{os:List Ht}{obs:List Ob}{v:V}
def sq(C:bU)(c:Cs)(r:List S)(Q:Fl->Hp->M->Prop)(E:PE)(f:Fl)(h:Hp)(m:M):Prop :=
 match f with
 |.next=>aE look ac C c r h m Q E
 |.brk=>Q .brk h m
 |.cont=>Q .cont h m
 |.ret v=>Q (.ret v) h m
abbrev kN(C:bU)(c:Cs)(r:List S)(Q:Fl->Hp->M->Prop)(E:PE)(h:Hp)(m:M):Prop:=aE look ac C c r h m Q E
abbrev kV(C:bU)(c:Cs)(r:List S)(Q:Fl->Hp->M->Prop)(E:PE)(m:M)(_:V)(h:Hp):Prop:=aE look ac C c r h m Q E
abbrev kG(c:Cs)(x:Nm)(m:M)(K:Hp->M->Prop)(w:V)(h:Hp):Prop:=gX c x w h m K
abbrev eF(_:Ex)(_:Hp)(_:M):Prop:=False
abbrev IL(C:bU)(c:Cs)(x:Nm)(b:List S)(w:V)(h:Hp)(m:M)(q:Fl->Hp->M->Prop):Prop:=gX c x w h m (kN C c b q eF)
abbrev YT(C:bU)(c:Cs)(x y:Nm)(b:List S)(w:V)(h:Hp)(m:M)(q:Fl->Hp->M->Prop):Prop:=∃a,iC h w a/\storeAll c [x,y] a h m (kN C c b q eF)
abbrev cQ(P:PV)(m:M)(v:V)(h:Hp):Prop:=P v h m
abbrev cE(E:PE)(m:M)(x:Ex)(h:Hp):Prop:=E x h m
abbrev cN(a:Nat)(P:PV)(m:M)(v:V)(h:Hp):Prop:=v=.none/\P (.ref a) h m
abbrev kT(K:Bool->Hp->M->Prop)(v:V)(h:Hp)(m:M):Prop:=cD v λr=>K r h m
abbrev kM(C:bU)(g:Fn)(a:Nat)(P:PV)(E:PE)(F:List V)(h:Hp)(m:M):Prop:=C g (.ref a::F) h (cQ P m) (cE E m)
abbrev YU(C:bU)(f:Fn)(P:PV)(E:PE)(F:List V)(h:Hp)(m:M):Prop:=C f F h (cQ P m) (cE E m)
abbrev IM(v:V)(P:List V->Hp->M->Prop)(F:List V)(h:Hp)(m:M):Prop:=P (v::F) h m
abbrev YV(C:bU)(c:Cs)(F:List X)(P:List V->Hp->M->Prop)(E:PE)(v:V)(h:Hp)(m:M):Prop:=cY look ac C c F h m (IM v P) E
abbrev YW(F:jO)(v:V)(P:PV)(w:V)(h:Hp)(m:M):Prop:=(iS F v w).run h (cQ P m)
abbrev YX(C:bU)(c:Cs)(F:jO)(b:X)(P:PV)(E:PE)(v:V)(h:Hp)(m:M):Prop:=ev look ac C c b h m (YW F v P) E
abbrev YY(v:V)(P:PV)(w:V)(h:Hp)(m:M):Prop:=(uq v w).run h (cQ P m)
abbrev YZ(C:bU)(c:Cs)(b:X)(P:PV)(E:PE)(v:V)(h:Hp)(m:M):Prop:=ev look ac C c b h m (YY v P) E
abbrev Y0(v l:V)(P:PV)(r:V)(h:Hp)(m:M):Prop:=(ur v l r).run h (cQ P m)
abbrev Y1(C:bU)(c:Cs)(z:X)(v:V)(P:PV)(E:PE)(l:V)(h:Hp)(m:M):Prop:=ev look ac C c z h m (Y0 v l P) E
abbrev Y2(C:bU)(c:Cs)(y z:X)(P:PV)(E:PE)(v:V)(h:Hp)(m:M):Prop:=ev look ac C c y h m (Y1 C c z v P E) E
abbrev IN(P:PV)(r:Bool)(h:Hp)(m:M):Prop:=P (.bool r) h m
abbrev Y3(F:iz)(v:V)(P:PV)(w:V)(h:Hp)(m:M):Prop:=fO F h v w λr=>P (.bool r) h m
abbrev Y4(C:bU)(c:Cs)(F:iz)(b:X)(P:PV)(E:PE)(v:V)(h:Hp)(m:M):Prop:=ev look ac C c b h m (Y3 F v P) E
abbrev Y5(b:Bi)(P:PV)(F:List V)(h:Hp)(m:M):Prop:=(kB b F).run h (cQ P m)
abbrev Y6(P:PV)(F:List V)(h:Hp)(m:M):Prop:=∀a,h a=none->P (.ref a) (h.set a (.list F)) m
abbrev Y7(P:PV)(F:List V)(h:Hp)(m:M):Prop:=∀a,h a=none->P (.ref a) (h.set a (.tup F)) m
abbrev IP(t:Bm)(P:PV)(w:V)(h:Hp)(m:M):Prop:=(i8 t [w]).run h (cQ P m)
abbrev Y8(K:Bool->Hp->M->Prop)(r:Bool)(h:Hp)(m:M):Prop:=K (!r) h m
abbrev kA(C:bU)(c:Cs)(x:Nm)(r:List S)(Q:Fl->Hp->M->Prop)(E:PE)(v:V)(h:Hp)(m:M):Prop:=gX c x v h m (kN C c r Q E)
def kX(C:bU)(c:Cs)(r:List S)(Q:Fl->Hp->M->Prop)(E:PE)(v:V)(h:Hp)(m:M):Prop:=aE look ac C c r h m Q E
def kR(Q:Fl->Hp->M->Prop)(v:V)(h:Hp)(m:M):Prop:=Q (.ret v) h m
def kI(C:bU)(c:Cs)(a b r:List S)(Q:Fl->Hp->M->Prop)(E:PE)(t:Bool)(h:Hp)(m:M):Prop:=br t (aE look ac C c a h m (sq C c r Q E) E) (aE look ac C c b h m (sq C c r Q E) E)
def d4(C:bU)(c:Cs)(t:X)(h:Hp)(m:M)(K:Bool->Hp->M->Prop)(E:PE):Prop:=ev look ac C c t h m (kT K) E
abbrev IQ(C:bU)(c:Cs)(b:X)(K:Bool->Hp->M->Prop)(E:PE)(r:Bool)(h:Hp)(m:M):Prop:=br r (d4 C c b h m K E) (K false h m)
abbrev IR(C:bU)(c:Cs)(b:X)(K:Bool->Hp->M->Prop)(E:PE)(r:Bool)(h:Hp)(m:M):Prop:=br r (K true h m) (d4 C c b h m K E)
abbrev Y9(C:bU)(c:Cs)(a b:X)(P:PV)(E:PE)(r:Bool)(h:Hp)(m:M):Prop:=br r (ev look ac C c a h m P E) (ev look ac C c b h m P E)
theorem cG(q:aE look ac C [] r h (bu m x v) Q E):kA C [] x r Q E v h m:=q
theorem aG(F:vE c m e os=some (v,[],obs))(K:bd h obs)(q:P v h m):ev look ac C c e h m P E:=(dv F K) P E q
theorem n8(F:dN c m e os=some (a,[],obs))(K:bd h obs)(q:P a h m):cY look ac C c e h m P E:=(jo F K) P E q
theorem bR(q:ev look ac C c e h m (kA C c x r Q E) E):aE look ac C c (.assign x e::r) h m Q E:=q
theorem bH(q:ev look ac C c e h m (kX C c r Q E) E):aE look ac C c (.expr e::r) h m Q E:=q
theorem cC(q:ev look ac C c e h m (kR Q) E):aE look ac C c (.ret e::r) h m Q E:=q
theorem dI(F:vE c m e os=some (v,[],obs))(K:bd h obs)(q:gX c x v h m (kN C c r Q E)):aE look ac C c (.assign x e::r) h m Q E:=(dv F K) _ E q
theorem cH(F:vE c m e os=some (v,[],obs))(K:bd h obs)(q:Q (.ret v) h m):aE look ac C c (.ret e::r) h m Q E:=(dv F K) (λv h m=>Q (.ret v) h m) E q
theorem aT(q:d4 C c t h m (kI C c a b r Q E) E):aE look ac C c (.ite t a b::r) h m Q E:=q
theorem Y'(q:∃n,kE (λh m q=>d4 C c t h m q λF F F=>False) (λh m q=>aE look ac C c b h m q λF F F=>False) n h m (sq C c r Q E)):aE look ac C c (.while t b::r) h m Q E:=q
theorem vx(K:vE c m e os=some (v,[],obs))(M:bd h obs){F:List V}(O:fP h v F)(q:hV (gW h v) (IL C c x b) F h m (sq C c r Q E)):
  aE look ac C c (.for x e b::r) h m Q E:=(dv K M) _ E (aq F O q)
def kF(C:bU)(c:Cs)(x:Nm)(b r:List S)(Q:Fl->Hp->M->Prop)(E:PE)(v:V)(h:Hp)(m:M):Prop:=∃a,fP h v a/\hV (gW h v) (IL C c x b) a h m (sq C c r Q E)
theorem g0(q:ev look ac C c e h m (kF C c x b r Q E) E):aE look ac C c (.for x e b::r) h m Q E:=q
def Za(C:bU)(c:Cs)(x y:Nm)(b r:List S)(Q:Fl->Hp->M->Prop)(E:PE)(v:V)(h:Hp)(m:M):Prop:=∃a,fP h v a/\hV (gW h v) (YT C c x y b) a h m (sq C c r Q E)
theorem n9(q:ev look ac C c e h m (Za C c x y b r Q E) E):aE look ac C c (.gU x y e b::r) h m Q E:=q
theorem jp(q:ev look ac C c a h m (λv h m=>(match gV v with |.some n=>n<=1000 |.none=>False)/\E x h m) E):aE look ac C c (.raise x a::r) h m Q E:=q
theorem Zb(q:Q .brk h m):aE look ac C c (.brk::r) h m Q E:=q
theorem Zc(q:Q .cont h m):aE look ac C c (.cont::r) h m Q E:=q
theorem acF(q:aE look ac C c r h m Q E):aE look ac C c (.pass::r) h m Q E:=q
def kSA(C:bU)(c:Cs)(w:V)(f:Nm)(r:List S)(Q:Fl->Hp->M->Prop)(E:PE)(v:V)(h:Hp)(m:M):Prop:=(setAttr look w f v).run h (kV C c r Q E m)
theorem Zd(M:vE c m e os=some (v,[],obs))(O:bd h obs)(F:vE c m o i=some (.ref a,[],b))(K:bd h b)(R:h a=some (.inst d g))(S:look d f=.field)(T:g.length<100)
  (q:aE look ac C c r (h.set a (.inst d (bu g f v))) m Q E):aE look ac C c (.setattr o f e::r) h m Q E :=
 (dv M O) _ E ((dv F K) _ E (show(setAttr look (.ref a) f v).run h _ from (aq _ R (by show(match look d f with |.field=>Rs.guard (g.length<100) (.upd a (.inst d (bu g f v)) .none) |_=>.bad).run h _;refine rE S ?_;exact⟨T,q⟩))))
def kS(C:bU)(c:Cs)(o:X)(f:Nm)(r:List S)(Q:Fl->Hp->M->Prop)(E:PE)(v:V)(h:Hp)(m:M):Prop:=ev look ac C c o h m (λw h m=>(setAttr look w f v).run h (kV C c r Q E m)) E
theorem iH(q:ev look ac C c e h m (kS C c o f r Q E) E):aE look ac C c (.setattr o f e::r) h m Q E:=q
theorem Ze(F:vE c m o os=some (.ref a,[],obs))(K:bd h obs)(M:h a=some (.inst b d))(O:look b f=.field)(R:d.length<100)
  (q:aE look ac C c r (h.set a (.inst b (bu d f v))) m Q E):kS C c o f r Q E v h m :=
 (dv F K) _ E (show(setAttr look (.ref a) f v).run h _ from (aq _ M (by show(match look b f with |.field=>Rs.guard (d.length<100) (.upd a (.inst b (bu d f v)) .none) |_=>.bad).run h _;refine rE O ?_;exact⟨R,q⟩)))
theorem j4(R:vE c m e os=some (v,[],obs))(S:bd h obs)(F:vE c m o o1=some (.ref a,[],b))(K:bd h b)(M:vE c m i o2=some (u,[],d))(O:bd h d)
  (q:(pk (.ref a) u v).run h (kV C c r Q E m)):aE look ac C c (.fv o i e::r) h m Q E :=
 (dv R S) _ E ((dv F K) _ E ((dv M O) _ E q))
theorem Ap{i j:Int}(F:mget m x=some (.int i))(K:vE c m e os=some (.int j,[],obs))(M:bd h obs)(q:(iS a (.int i) (.int j)).run h (kG c x m (kN C c r Q E))):
  aE look ac C c (.aug x a e::r) h m Q E:=by
 show yf (mget m x) _;refine rE F ?_;exact(dv K M) _ E q
theorem ms{i j:Int}(F:vE c m e os=some (.int i,[],obs))(K:bd h obs)(M:i=j)(q:gX c x (.int j) h m (kN C c r Q E)):aE look ac C c (.assign x e::r) h m Q E:=(dv F K) _ E (by refine rE M ?_;exact q)
theorem Aq(F:vE c m e os=some (v,[],obs))(K:bd h obs)(M:v=w)(q:gX c x w h m (kN C c r Q E)):aE look ac C c (.assign x e::r) h m Q E:=(dv F K) _ E (by refine rE M ?_;exact q)
def kU(C:bU)(c:Cs)(K:List Nm)(r:List S)(Q:Fl->Hp->M->Prop)(E:PE)(F:List V)(h:Hp)(m:M):Prop:=∀a,h a=none->∃b,iC (h.set a (.tup F)) (.ref a) b/\storeAll c K b (h.set a (.tup F)) m (kN C c r Q E)
theorem jq(q:cY look ac C c a h m (kU C c b r Q E) E):aE look ac C c (.unpack b (.tup a)::r) h m Q E:=q
theorem iI(q:∀b,au h b->storeAll c e d b m (kN C c r Q E)):kU C c e r Q E d h m:=λa F=>(aq d (.tup Hp.set_same) (q _ (ae.new F)))
theorem j5(F:dN c m b os=some (d,[],obs))(K:bd h obs)(q:∀a,au h a->storeAll c e d a m (kN C c r Q E)):aE look ac C c (.unpack e (.tup b)::r) h m Q E:=(jo F K) _ E (iI q)
theorem Zf(F:dN c m b os=some (d,[],obs))(K:bd h obs)(M:d=ws)(q:∀a,au h a->storeAll c e ws a m (kN C c r Q E)):aE look ac C c (.unpack e (.tup b)::r) h m Q E:=j5 F K (by refine rE M ?_;exact q)
theorem IS(F:vE c m e os=some (.ref a,[],obs))(K:bd h obs)(M:iC h (.ref a) b)(q:storeAll c d b h m (kN C c r Q E)):aE look ac C c (.unpack d e::r) h m Q E:=(dv F K) _ E (aq b M q)
theorem g6(O:vE c m t os=some (.bool b,[],obs))(R:bd h obs)(F:b=true->K true h m)(M:b=false->K false h m):d4 C c t h m K E :=
 (dv O R) _ E (show K b h m from match b,F,M with |true,F,_=>F rfl |false,_,M=>M rfl)
theorem aZ[d:Decidable P]{K:Bool->Hp->M->Prop}(F:vE c m t os=some (.bool (decide P),[],obs))(O:bd h obs)(R:P->K true h m)(S:¬P->K false h m):d4 C c t h m K E :=
 g6 F O (λe=>R (of_decide_eq_true e)) λe=>S (of_decide_eq_false e)
theorem vy[d:Decidable P]{K:Bool->Hp->M->Prop}(F:vE c m t os=some (.bool (!decide P),[],obs))(O:bd h obs)(R:¬P->K true h m)(S:P->K false h m):d4 C c t h m K E :=
 g6 F O (λe=>R (of_decide_eq_false (lD _▸e))) λe=>S (of_decide_eq_true (by simpa using e))
theorem fU(q:d4 C c a h m (IQ C c b K E) E):d4 C c (.and a b) h m K E:=by
 exact q
theorem ie(q:d4 C c a h m (IR C c b K E) E):d4 C c (.or a b) h m K E:=q
theorem vz(q:d4 C c a h m (IQ C c b (IN P) E) E):ev look ac C c (.and a b) h m P E:=q
theorem acG(q:d4 C c a h m (IR C c b (IN P) E) E):ev look ac C c (.or a b) h m P E:=q
theorem oa(q:d4 C c t h m (Y9 C c a b P E) E):ev look ac C c (.ite t a b) h m P E:=q
theorem iJ(q:d4 C c a h m (Y8 K) E):d4 C c (.not a) h m K E:=q
theorem pU[Decidable P][Decidable a]{K:Bool->Hp->M->Prop}{o1 o2 o3:List Ht}{S T V:List Ob}(X:vE c m x o1=some (u,[],S))(e:bd h S)(f:vE c m y o2=some (v,[],T))(g:bd h T)(i:vu j u v=some (.bool (decide P)))
  (k:vE c m z o3=some (w,[],V)) (l:bd h V) (n:vu d v w=some (.bool (decide a))) (o:P->a->K true h m) (W:¬(P/\a)->K false h m):d4 C c (.fN x j y d z) h m K E:=by
 refine ak (Ao (h:=h) i) λs F p=>?_;refine ak (Ao (h:=h) n) λt O q=>?_;injection F with F;injection O with O;subst F O;refine(dv X e) _ E ((dv f g) _ E (p _ (O3 (λR=>(dv k l) _ E (q _ ?_)) λR=>W λz=>of_decide_eq_false R z.1)));by_cases b:a
 ·refine rE (decide_eq_true b) ?_;exact o (of_decide_eq_true R) b
 ·refine rE (decide_eq_false b) ?_;exact W λz=>b z.2
theorem cM(q:ev look ac C c t h m (kT K) E):d4 C c t h m K E:=q
theorem aU(q:A):br true A B:=q
theorem aM(q:B):br false A B:=q
theorem bS(M:vE c m o os=some (.ref a,[],obs))(O:bd h obs)(R:h a=some d)(S:eP look d a f (.own g a))(F:dN c m e os2=some (i,[],b))(K:bd h b)
  (q:C g (.ref a::i) h (cQ P m) (cE E m)):ev look ac C c (.ay o f e) h m P E:=(dv M O) _ E (show nC look (.ref a) f h _ from (jJ d R _ S ((jo F K) _ E q)))
theorem vA(F:vE c m o os=some (.ref a,[],obs))(K:bd h obs)(M:h a=some b)(O:eP look b a f (.own g a))
  (q:cY look ac C c d h m (kM C g a P E) E):ev look ac C c (.ay o f d) h m P E:=(dv F K) _ E (show nC look (.ref a) f h _ from (jJ b M _ O q))
theorem d5(F:vE c m e os=some (v,[],obs))(K:bd h obs)(q:cY look ac C c a h m (IM v P) E):cY look ac C c (e::a) h m P E:=(dv F K) _ E q
theorem bI(q:ev look ac C c e h m (YV C c a P E) E):cY look ac C c (e::a) h m P E:=q
theorem cu(q:P [] h m):cY look ac C c [] h m P E:=q
theorem aR(q:aE look ac C c r h m Q E):aE look ac C c [] h m (sq C c r Q E) E:=q
theorem ss(O:vE c m o os=some (.ref a,[],obs))(R:bd h obs)(S:h a=some d)(T:eP look d a f (.own g a))(F:dN c m e os2=some (i,[],b))(M:bd h b)
  (q:C g (.ref a::i) h (cQ (kT K) m) (cE E m)):d4 C c (.ay o f e) h m K E:=bS O R S T F M q
theorem As{K:Bool->Hp->M->Prop}(q:K b h m):cD (.bool b) λr=>K r h m:=q
theorem pV{X Y:Bool->Prop}(q:X true):cD (.bool true) λr=>br r (X r) (Y r):=q
theorem Au{X Y:Bool->Prop}(q:Y false):cD (.bool false) λr=>br r (X r) (Y r):=q
theorem b7(F:dN c m a os=some (vs,[],obs))(K:bd h obs)(q:C f vs h (cQ P m) (cE E m)):ev look ac C c (.aD f a) h m P E:=(jo F K) _ E q
theorem mu(F:look b .init=.aX f)(K:dN c m d os=some (e,[],obs))(M:bd h obs)
  (q:∀a,h a=none->C f (.ref a::e) (h.set a (.inst b m0)) (cN a P m) (cE E m)):ev look ac C c (.bN b d) h m P E:=by
 show methP (look b .init) _;refine rE F ?_;exact(jo K M) _ E q
theorem mv(F:look a .init=.aX f)(K:dN c m b os=some (d,[],obs))(M:bd h obs)(q:C f d h (cQ P m) (cE E m)):ev look ac C c (.jP a b) h m P E:=by
 show methP (look a .init) _;refine rE F ?_;exact(jo K M) _ E q
theorem iK(q:cY look ac C c a h m (Y6 P) E):ev look ac C c (.list a) h m P E:=q
theorem Zg(q:cY look ac C c a h m (Y7 P) E):ev look ac C c (.tup a) h m P E:=q
theorem acH(q:∀a,h a=none->P (.ref a) (h.set a (.dict 0 λF=>.none)) m):ev look ac C c .jQ h m P E:=q
theorem dk(q:ev look ac C c a h m (YX C c d b P E) E):ev look ac C c (.bin d a b) h m P E:=q
theorem iL(q:ev look ac C c a h m (YZ C c b P E) E):ev look ac C c (.sub a b) h m P E:=q
theorem dO(q:ev look ac C c a h m (Y4 C c d b P E) E):ev look ac C c (.cmp a d b) h m P E:=q
theorem od(q:cY look ac C c a h m (Y5 b P) E):ev look ac C c (.aB b a) h m P E:=q
theorem back(p:ae F h a)(k:F x->a x≠none)(K:a x=none):h x=none:=by
 induction e:h x with
 |none=>rfl
 |some o=>exact absurd K (by by_cases f:F x;exact k f;refine rE (p x o e f) ?_;nofun)
theorem eh(p:au h a)(F:a x=none):h x=none:=back p (λz=>z.elim) F
theorem j6(p:ae (·=a) h b)(F:b a=some o)(K:b x=none):h x=none:=back p (λz=>by refine rE z (rE F ?_);nofun) K
theorem IT(q:∀a b,au h b->h a=none->b a=some (.dict 0 λK=>.none)->P (.ref a) b m):ev look ac C c .jQ h m P E:=λa F=>q a _ (ae.new F) F Hp.set_same
theorem dm(K:dN c m e os=some (d,[],obs))(M:bd h obs)(q:∀a b,au h b->h a=none->b a=some (.list d)->P (.ref a) b m):ev look ac C c (.list e) h m P E:=(jo K M) _ E (show ∀a,h a=none->P (.ref a) (h.set a (.list d)) m from λa F=>q a _ (ae.new F) F Hp.set_same)
theorem lf(K:dN c m e os=some (d,[],obs))(M:bd h obs)(q:∀a b,au h b->h a=none->b a=some (.tup d)->P (.ref a) b m):ev look ac C c (.tup e) h m P E:=(jo K M) _ E (show ∀a,h a=none->P (.ref a) (h.set a (.tup d)) m from λa F=>q a _ (ae.new F) F Hp.set_same)
theorem eU(M:vE c m e os=some (v,[],obs))(O:bd h obs)(F:vE c m o os2=some (.ref a,[],b))(K:bd h b)(R:h a=some (.inst g i))(S:look g f=.field)(T:i.length<100)
  (q:∀d,ae (·=a) h d->d a=some (.inst g (bu i f v))->aE look ac C c r d m Q E):aE look ac C c (.setattr o f e::r) h m Q E:=Zd M O F K R S T (q _ (ae.set rfl) Hp.set_same)
theorem iM(F:vE c m o os=some (.ref a,[],obs))(K:bd h obs)(M:h a=some (.inst d e))(O:look d f=.field)(R:e.length<100)
  (q:∀b,ae (·=a) h b->b a=some (.inst d (bu e f v))->aE look ac C c r b m Q E):kS C c o f r Q E v h m:=Ze F K M O R (q _ (ae.set rfl) Hp.set_same)
theorem su(K:h x=some (.list [v]))(M:n<=1000)(q:∀b a,au h a->h b=none->a b=some (.list (gm n v))->P (.ref b) a):(iS .mul (.ref x) (.int n)).run h P :=
 ⟨_,K,⟨b9 _,bt.mpr M⟩,λb F=>q b _ (ae.new F) F Hp.set_same⟩
theorem pW{i:Int}(M:vE c m e os=some (.int i,[],obs))(O:bd h obs)(F:0<=i/\i<1000000)(q:∀a b,au h b->h a=none->b a=some (.range 0 i 1)->P (.ref a) b m):ev look ac C c (.aB .range [e]) h m P E :=
 (dv M O) _ E (show(kB .range [.int i]).run h λv h=>P v h m from ⟨⟨by exact fW (by decide) F.1,by exact kf F.2 (by decide)⟩,λa K=>q a _ (ae.new K) K Hp.set_same⟩)
theorem Zh{i j:Int}(O:dN c m d os=some ([.int i,.int j,.int (-1)],[],obs))(R:bd h obs)(F:-1000000<i/\i<1000000)(K:-1000000<j/\j<1000000)(q:∀a b,au h b->h a=none->b a=some (.range i j (-1))->P (.ref a) b m):ev look ac C c (.aB .range d) h m P E :=
 (jo O R) _ E (show(kB .range [.int i,.int j,.int (-1)]).run h λv h=>P v h m from ⟨(aH rfl ⟨by exact(lO F).1,by exact(lO F).2⟩ ⟨by exact(lO K).1,by exact(lO K).2⟩),λa M=>q a _ (ae.new M) M Hp.set_same⟩)
theorem Zi{i j:Int}(O:dN c m d os=some ([.int i,.int j],[],obs))(R:bd h obs)(F:-1000000<i/\i<1000000)(K:-1000000<j/\j<1000000)(q:∀a b,au h b->h a=none->b a=some (.range i j 1)->P (.ref a) b m):ev look ac C c (.aB .range d) h m P E :=
 (jo O R) _ E (show(kB .range [.int i,.int j]).run h λv h=>P v h m from ⟨⟨⟨by exact(lO F).1,by exact(lO F).2⟩,⟨by exact(lO K).1,by exact(lO K).2⟩⟩,λa M=>q a _ (ae.new M) M Hp.set_same⟩)
theorem vB{k:Int}(q:aE look ac C c b h m (sq C c r Q E) λy h m=>un y x=true/\(match mget m n with
   |.some (.int i)=>sq C c r Q E .next h (bu m n (.int (i+k)))
   |_=>False)):aE look ac C c (.try b x n k::r) h m Q E:=q
theorem IU(M:vE c m e os=some (v,[],obs))(O:bd h obs)(R:fP h v d)(q:nD (gW h v) (λw h q=>ev look ac C c b h (bu m0 x w) (λu h F=>q (.some u) h) λF F F=>False) d h [] λK h=>∀a,h a=none->P (.ref a) (h.set a (.list K)) m):
  ev look ac C c (.comp b x e (.bool true)) h m P E:=(dv M O) _ E (aq d R q)
theorem sv(F:vE c m o os=some (.ref a,[],obs))(K:bd h obs)(M:h a=some (.list l))(q:ev look ac C c x h m (IP (.iB a) P) E):
  ev look ac C c (.ay o .append [x]) h m P E :=
 (dv F K) _ E (show nC look (.ref a) .append h _ from (jJ _ M _ .iB q))
theorem vC{a:Nat}(F:vE c m o os=some (.ref a,[],obs))(K:bd h obs)(M:h a=some (.bl l))(q:ev look ac C c x h m (IP (.i6 a) P) E):
  ev look ac C c (.ay o .append [x]) h m P E :=
 (dv F K) _ E (show nC look (.ref a) .append h _ from (jJ _ M _ .i6 q))
end
section
variable{h:Hp}{P:V->Hp->Prop}{a:Nat}
theorem sw(F:h a=some (.list l))(K:l.length<bB)(q:P .none (h.set a (.list (l++[w])))):(i8 (.iB a) [w]).run h P:=⟨_,F,K,q⟩
theorem vD{i:Int}(F:h a=some (.bl l))(K:l.length<bB)(M:0<=i)(O:i<256)(q:P .none (h.set a (.bl (l++[dU i.toNat])))):(i8 (.i6 a) [.int i]).run h P:=⟨_,F,(aH K M O),q⟩
theorem oi{i:Int}{w:V}(F:h a=some (.list l))(K:0<=i)(M:i<l.length)(q:P .none (h.set a (.list (l.set i.toNat w)))):(pk (.ref a) (.int i) w).run h P:=⟨_,F,⟨K,M⟩,q⟩
theorem IV{n:Nat}{i:Int}(F:h a=some (.dict n f))(K:n<bB)(q:P .none (h.set a (.dict (n+1) λk=>if k=i then .some w else f k))):(pk (.ref a) (.int i) w).run h P:=⟨_,F,K,q⟩
theorem Zj{i x:Int}(F:h a=some (.bl l))(K:0<=i)(M:i<l.length)(O:0<=x)(R:x<256)(q:P .none (h.set a (.bl (l.set i.toNat (dU x.toNat))))):(pk (.ref a) (.int i) (.int x)).run h P:=⟨_,F,(dE K M O R),q⟩
end
theorem Zk{cond:Hp->M->(Bool->Hp->M->Prop)->Prop}{F:Hp->M->(Fl->Hp->M->Prop)->Prop}{Q:Fl->Hp->M->Prop}(I:Nat->Hp->M->Prop)
  (step:∀k h m,I k h m->∀R:Hp->M->Prop,(∀j h m,j<k->I j h m->R h m)->cond h m λb h m=>br b (F h m λf h m=>match f with |.next=>R h m |.cont=>R h m |.brk=>Q .next h m |.ret v=>Q (.ret v) h m) (Q .next h m))
  {k:Nat} {h:Hp} {m:M} (i:I k h m):∃n,kE cond F n h m Q:=by
 have key:∀N k h m,k<N->I k h m->kE cond F N h m Q:=by
  intro N;induction N with
  |zero=>intro k h m K;exact absurd K (oY _)
  |succ N a=>intro k h m K i;exact step k h m i _ λj h m O i=>a j h m (bn O (dA K)) i
 exact⟨k+1,key _ k h m (c7 k) i⟩
def lq(Q:Fl->Hp->M->Prop)(R:Hp->M->Prop)(f:Fl)(h:Hp)(m:M):Prop :=
 match f with
 |.next=>R h m
 |.cont=>R h m
 |.brk=>Q .next h m
 |.ret v=>Q (.ret v) h m
theorem Zl{R:Hp->M->Prop}{h:Hp}{m:M}(q:aE look ac C c a h m Q E):sq b d r (lq (sq C c a Q E) R) e .brk h m:=q
abbrev kW(C:bU)(c:Cs)(b r:List S)(Q:Fl->Hp->M->Prop)(E:PE)(R:Hp->M->Prop)(w:Bool)(h:Hp)(m:M):Prop:=br w (aE look ac C c b h m (lq (sq C c r Q E) R) eF) (aE look ac C c r h m Q E)
theorem vF(I:Nat->Hp->M->Prop){k:Nat}(i:I k h m)
  (step:∀k h m,I k h m->∀R:Hp->M->Prop,(∀j h m,j<k->I j h m->R h m)->d4 C c t h m (kW C c b r Q E R) eF) :
  aE look ac C c (.while t b::r) h m Q E:=Y' (Zk I step i)
theorem Av(I:List V->Hp->M->Prop)
  (K:∀h m,I [] h m->b h/\Q .next h m)
  (step:∀v F h m,I (v::F) h m->∀R:Hp->M->Prop,(∀h m,I F h m->R h m)->b h/\a v h m (lq Q R)) :
  ∀ {F:List V} {h:Hp} {m:M},I F h m->hV b a F h m Q
 |[],h,m,i=>K h m i
 |v::F,h,m,i=>step v F h m i _ λh m i=>Av I K step i
theorem gC(g:b->V)(st:c->M)(J:List b->c->Hp->Prop)
  (step:∀z zs x h,J (z::zs) x h->∀R:Hp->M->Prop,(∀x h,J zs x h->R h (st x))->d h/\a (g z) h (st x) (lq Q R)) (F:∀x h,J [] x h->d h/\Q .next h (st x)) :
  ∀ {zs:List b} {x:c} {h:Hp},J zs x h->hV d a (zs.map g) h (st x) Q
 |[],x,h,j=>F x h j
 |z::zs,x,h,j=>step z zs x h j _ λx h j=>gC g st J step F j
theorem mw{F:Type}{C:bU}{c:Cs}{t:X}{b r:List S}{Q:Fl->Hp->M->Prop}{E:PE}{h:Hp}(st:F->M)(K:F->Nat)(J:F->Hp->Prop)(x:F)(i:J x h)
  (step:∀x h,J x h->∀R:Hp->M->Prop,(∀y h,K y<K x->J y h->R h (st y))->d4 C c t h (st x) (kW C c b r Q E R) eF) :
  aE look ac C c (.while t b::r) h (st x) Q E:=by
 refine vF (λk h m=>∃x,k=K x/\m=st x/\J x h) (bG x rfl rfl i) ?_;rintro k h m ⟨x,rfl,rfl,j⟩ R d;exact step x h j R λy h a b=>d (K y) h (st y) a (bG y rfl rfl b)
theorem Zm(I:Nat->Hp->M->Prop){h:Hp}{m:M}(W:I 0 h m)
  (step:∀i v h m,a[i]?=some v->I i h m->∀R:Hp->M->Prop,(∀h m,I (i+1) h m->R h m)->c h/\b v h m (lq Q R)) (O:∀h m,I a.length h m->c h/\Q .next h m):hV c b a h m Q:=by
 refine Av (λT h m=>∃i,i<=a.length/\T=a.drop i/\I i h m) (λh m z=>?_) (λv T h m z R X=>?_) (bG 0 (ca _) ni.symm W)
 ·refine cr z λi V F K=>?_;rw[fi V (oT.mp F.symm)] at K;exact O h m K
 ·refine cr z λi V F K=>?_;have S:i<a.length:=nj λz=>by rw[oT.mpr z] at F;exact mI F
  rw[DN S] at F;injection F with d e;refine step i v h m (by refine rE d ?_;exact f7 S) K R λh m z=>X h m (bG (i+1) S e z)
theorem sx(I:List V->Hp->List V->Prop)
  (M:∀h F,I [] h F->b h/\Q F h)
  (step:∀v K h F,I (v::K) h F->∀R:Hp->List V->Prop,(∀h F,I K h F->R h F)->b h/\a v h λr h=>match r with |.some w=>F.length<bB/\R h (F++[w]) |.none=>R h F) :
  ∀ {K:List V} {h:Hp} {F:List V},I K h F->nD b a K h F Q
 |[],h,F,i=>M h F i
 |v::K,h,F,i=>step v K h F i _ λh F i=>sx I M step i
theorem dz:bB=1000000:=by unfold bB;rfl
theorem lh(h:x<2^200):x<iA:=by unfold iA;exact bn h (DO (by decide) (by decide))
theorem Zn(h:n<N):lv N n=some n:=by
 have F:¬(n:Int)<0:=cz.mpr (b9 n);simp[lv,kg,F,h]
theorem Zo{n N:Nat}(h:n<N):lv N (-1 - (n:Int))=some (N - 1 - n):=by
 have F:(-1 - (n:Int))<0:=by omega
 have K:(0:Int)<=-1 - (n:Int)+N:=by lia
 have M:-1 - (n:Int)+N<N:=by lia
 have O:(-1 - (n:Int)+N).toNat=N - 1 - n:=by rw[show -1 - (n:Int)+N=(N:Int) - ((1+n:Nat):Int) by lia,sX,Nat.sub_sub]
 simp[lv,kg,F,K,M,O]
theorem oj{n:Nat}{b:a}(F:l[n]?=some b):dr l (n:Int)=some b:=by
 unfold dr;refine rE (Zn (qO.mp F).1) ?_;exact F
theorem sy:dr (l++[b]) (-1)=some b:=by
 unfold dr;rw[show(-1:Int)=-1 - ((0:Nat):Int) from rfl,Zo (by simp)];simp
theorem jr{t:List UInt8}{n:Nat}(h:n<t.length):(dr t (n:Int)).map aK=some (.int ((cc t n:Int) - 1)):=by
 have e:=f7 h;refine rE (oj e) (rE (nY e) ?_);show some (V.int (t[n].toNat:Int))=_;rw[show((t[n].toNat+1:Nat):Int) - 1=t[n].toNat by exact xr.mpr rfl]
theorem Zp{i:Nat}{v:V}(h:(l.map aK)[i]?=some v):i<l.length/\v=.int ((cc l i:Int) - 1):=by
 rw[oQ] at h;induction e:l[i]? with
 |none=>rw[e] at h;exact aN h
 |some b =>
  rw[e] at h;refine⟨(qO.mp e).1,?_⟩;refine rF (bq h) (rE (nY e) ?_);show V.int (b.toNat:Int)=_;rw[show((b.toNat+1:Nat):Int) - 1=b.toNat by exact xr.mpr rfl]
theorem Zq{p q i:Nat}(h:p+i<q):cc (cut t p q) i=cc t (p+i):=by
 unfold cc cut;exact rE (xt) (rE (Nx) (rE (if_pos h) rfl))
theorem Zr(h:q<=t.length):(cut t p q).length=q - p:=by
 unfold cut;exact rE gR (rE fj (rE (jC h) rfl))
theorem IW{n:Nat}{i:Int}(e:i=n)(h:n<t.length):(dr t i).map aK=some (.int ((cc t n:Int) - 1)):=e▸jr h
theorem js{n:Nat}{i:Int}{b:a}(e:i=n)(F:l[n]?=some b):dr l i=some b:=e▸oj F
theorem vG{a b:Nat}:(a:Int) - 1<(b:Int) - 1<->a<b:=by exact(Int.sub_lt_sub_right_iff).trans aS
theorem Aw{a b:Nat}:min (a:Int) (b:Int)=((min a b:Nat):Int):=(xu a b).elim (λh=>by exact rE (jC h) (rE (Md (bt.mpr h)) rfl)) λh=>by exact rE (Ny h) (rE (Mc (bt.mpr h)) rfl)
theorem IX{a b:Nat}(h:(a:Int) - 1=(b:Int) - 1):a=b:=by lia
theorem IY{n k:Nat}:min (bA n (k:Int)) n<=k:=ah (eG _ _) ((qZ n k).symm▸eG _ _)
theorem IZ{n k:Nat}(h:0<n)(F:0<k):1<=min (bA n (k:Int)) n:=iX.mpr ⟨(qZ n k).symm▸iX.mpr ⟨F,h⟩,h⟩
theorem j7{n i:Nat}(h:i<=n):bA n (i:Int)=i:=(qZ n i).trans (jC h)
noncomputable abbrev gB(t:List UInt8)(i:Nat):Ht:=.g (.int ((cc t i:Int) - 1))
theorem Hp.set_set{h:Hp}{a:Nat}{o F:O}:(h.set a o).set a F=h.set a F:=by
 funext b;by_cases e:b=a
 ·exact rE e (rE Hp.set_same (rE Hp.set_same rfl))
 ·exact rE (Hp.cJ e) (rE (Hp.cJ e) (rE (Hp.cJ e) rfl))
theorem jj(x:a)(y:b):a/\b:=⟨x,y⟩
noncomputable def num(c:Nat->Nat)(p:Nat):Nat->Nat
 | 0=>0
 |s+1=>num c p s*256+(c (p+s) - 1)
theorem I0(F:∀i,c i<257):∀s,num c p s<256^s
 | 0=>mO
 |s+1=>by
  have K:=I0 (p:=p) F s;have M:=F (p+s);show num c p s*256+(c (p+s) - 1)<256^s*256;exact Eg K M
theorem I1(F:∀i,c i<257)(K:∀i,i<N->0<c i):∀s,p+s<=N->o+s<=N->(num c p s=num c o s<->Ag c p o s)
 | 0,_,_=>⟨λR=>Ag.zero,λR=>rfl⟩
 |s+1,a,b=>by
  have M:=I1 F K s (d9 a) (d9 b);have a1:=F (p+s);have a2:=F (o+s);have S:=K (p+s) a;have T:=K (o+s) b;show num c p s*256+(c (p+s) - 1)=num c o s*256+(c (o+s) - 1)<->_;refine⟨λe=>?_,λe=>?_⟩
  ·have O:num c p s=num c o s:=Oj a1 a2 e;exact(M.mp O).succ (Ol S T (O▸e))
  ·exact rE (M.mpr (e.le (dc s))) (rE (e s (c7 s)) rfl)
noncomputable def key(c:Nat->Nat)(N s p:Nat):Option Nat:=if p+s<=N then some (num c p s) else none
noncomputable def nk(P:Nat->Bool):Nat->Int
 | 0=>-1
 |u+1=>if P u=true then (u:Int) else nk P u
section
variable{P:Nat->Bool}
theorem sA(u:Nat):nk P (u+1)=if P u=true then (u:Int) else nk P u:=rfl
theorem j8:∀u,(nk P u=-1/\∀z:Nat,z<u->P z=false)\/∃z:Nat,nk P u=(z:Int)/\z<u/\P z=true/\∀y:Nat,z<y->y<u->P y=false
 | 0=>.inl ⟨rfl,λz h=>absurd h (oY _)⟩
 |u+1=>by
  rw[sA];induction e:P u with
  |true=>exact .inr (eM u (if_pos rfl) (c7 u) e (λy K M=>absurd (dA M) (iW.mpr K)))
  |false =>
   rw[if_neg ko];have F:∀y,y<u+1->y<u\/P y=false:=λy h=>(fX (dA h)).imp id λz=>by rw[z];exact e
   rcases j8 u with ⟨K,M⟩ |⟨z,K,M,O,R⟩
   ·exact .inl ⟨K,λy S=>(F y S).elim (M y) id⟩
   ·exact .inr (eM z K (f6 M) O (λy a b=>(F y b).elim (R y a) id))
theorem Ax:nk P u<u:=by
 rcases j8 (P:=P) u with ⟨h,_⟩ |⟨z,h,F,_⟩<;>lia
theorem vH:-1<=nk P u:=by
 rcases j8 (P:=P) u with ⟨h,_⟩ |⟨z,h,F,_⟩<;>lia
theorem Ay:∀ {u:Nat},p<=u->nk P u<p->nk P p=nk P u
 | 0,h,_=>by exact rE (DM.mp h) rfl
 |u+1,h,k=>by
  rcases fX h with h |h
  ·have h:=dA h;rw[sA] at k ⊢;by_cases e:P u=true
   ·rw[if_pos e] at k;lia
   ·rw[if_neg e] at k ⊢;exact Ay h k
  ·exact rE h rfl
noncomputable def dJ(P:Nat->Bool)(lo:Nat):Nat->List Nat
 | 0=>[]
 |u+1=>if lo<=u then (if P u=true then u::dJ P lo u else dJ P lo u) else []
theorem om(lo u:Nat):dJ P lo (u+1)=if lo<=u then (if P u=true then u::dJ P lo u else dJ P lo u) else []:=rfl
theorem acI(h:u<=lo):dJ P lo u=[]:=by
 induction u with
 |zero=>rfl
 |succ u=>rw[om,if_neg (iW.mpr h)]
theorem mx{lo:Nat}:∀ {u:Nat},(∀z:Nat,nk P u=(z:Int)->lo<=z->dJ P lo u=z::dJ P lo z)/\(nk P u<lo->dJ P lo u=[])
 | 0=>⟨λz h F=>by have:(-1:Int)=z:=h;lia,λF=>rfl⟩
 |u+1=>by
  rw[sA,om];by_cases e:P u=true
  ·rw[if_pos e,if_pos e];refine⟨λz h k=>?_,λh=>if_neg (by exact iW.mpr (aS.mp h))⟩;rw[←lM.mp h] at k ⊢;exact if_pos k
  ·rw[if_neg e,if_neg e];refine(mx (lo:=lo) (u:=u)).elim λK M=>?_;by_cases a:lo<=u
   ·rw[if_pos a];exact⟨K,M⟩
   ·rw[if_neg a];refine⟨λz h k=>?_,λF=>rfl⟩;exact absurd (ah k (aO (aS.mp (h▸Ax (P:=P) (u:=u))))) a
theorem Az:∀u,(dJ P lo u).length<=u
 | 0=>a6 _
 |u+1=>by
  have:=Az (lo:=lo) u;rw[om];by_cases a:lo<=u
  ·rw[if_pos a];by_cases b:P u=true
   ·refine rE (if_pos b) ?_;exact db this
   ·refine rE (if_neg b) ?_;exact ks this
  ·rw[if_neg a];exact ca _
end
noncomputable def Rl(f:Nat->Nat)(p:Nat):List Nat->Nat->List (Int×Int)
 |[],_=>[]
 |z::r,m=>if m<f z then ((f z:Int),(p:Int) - z)::Rl f p r (f z) else Rl f p r m
section
variable{P:Nat->Bool}{f:Nat->Nat}{p lo:Nat}
theorem my(z:Nat)(r:List Nat)(m:Nat):Rl f p (z::r) m=if m<f z then ((f z:Int),(p:Int) - z)::Rl f p r (f z) else Rl f p r m:=rfl
theorem pX:∀ {u m:Nat},(∀z,lo<=z->z<u->P z=false->f z<=m)->Rl f p (dJ P lo u) m=R f p lo u m
 | 0,_,_=>rfl
 |u+1,m,k=>by
  rw[om,j2];by_cases c:lo<=u
  ·rw[if_pos c,if_pos c];have F:∀K,m<=K->∀z,lo<=z->z<u->P z=false->f z<=K:=λK M z a b d=>ah (k z a (f6 b) d) M;by_cases e:P u=true
   ·rw[if_pos e,my];by_cases h:m<f u
    ·rw[if_pos h,if_pos h,pX (F _ (aO h))]
    ·rw[if_neg h,if_neg h,pX (F _ (a6 m))]
   ·rw[if_neg e,if_neg (c8.mpr (k u c (c7 u) (by simpa using e))),pX (F _ (a6 m))]
  ·rw[if_neg c,if_neg c];rfl
theorem Zs(k:∀z,lo<=z->z<u->P z=false->f z<=m)(M:∀z,lo<=z->z<u->P z=true->m<f z):Rl f p ((dJ P lo u).take 1) m=(R f p lo u m).take 1:=by
 refine rF (pX k) ?_;rcases j8 (P:=P) u with ⟨F,K⟩ |⟨z,F,K,O,S⟩
 ·refine rE ((mx (lo:=lo)).2 (by exact F▸fW (by decide) (b9 _))) ?_;rfl
 ·by_cases a:lo<=z
  ·rw[(mx (lo:=lo)).1 z F a,DP,tQ,my,my,if_pos (M z a K O),if_pos (M z a K O)];rfl
  ·refine rE ((mx (lo:=lo)).2 (by exact F▸jL (nj a))) ?_;rfl
end
section
variable{n:Nat}{h:Hp}{Q:V->Hp->Prop}{E:Ex->Hp->Prop}{a:Nat}{c:Cl}{fs:M}{t:List UInt8}
theorem AA(M:h a=some (.inst c fs))(O:et look (.inst c fs) .ba (.val (.bytes t)))(S:k<=l)(K:p+l<=t.length)(F:o<=p)(T:Ag (cc t) p o k)(q:Q (.int (ext (cc t) p o l)) h):
 runs (n+1) .lV [.ref a,.int p,.int o,.int k,.int l] h Q E:=by
 refine aY ?_;refine dI (os:=[.a (.inst c fs) (.bytes t)]) rfl (jj M O) ?_;refine vF (k:=l - k) (λj V m=>V=h/\∃b,b<=l/\j=l - b/\Ag (cc t) p o b /\
  m=[(.self,some (.ref a)),(.am,some (.int p)),(.other,some (.int o)),(.known,some (.int b)),(.limit,some (.int l)),(.ba,some (.bytes t))]) ⟨rfl,k,S,rfl,T,rfl⟩ ?_
 rintro j _ _ ⟨rfl,b,d,rfl,f,rfl⟩ R g;refine fU (aZ (os:=[]) rfl tT (λz=>aU ?_) λz=>aM ?_)
 ·have z:=aS.mp z;refine aZ (os:=[gB t (p+b),gB t (o+b)]) rfl (jj (jr (n:=p+b) (bn (gk z p) K)) (jr (n:=o+b) (bn (aV (dS F b) (gk z p)) K))) (λy=>?_) λy=>?_
  ·exact Ap (os:=[]) rfl rfl tT (g (l - (b+1)) _ _ (jA z (c7 _)) ⟨rfl,b+1,z,rfl,f.succ (IX y),rfl⟩)
  ·refine cH (os:=[]) rfl tT ?_;rw[pS f d (.inr λe=>y (by exact rE e rfl))] at q;exact q
 ·refine cH (os:=[]) rfl tT ?_;rw[pS f d (.inl (fi d (c6 λw=>z (aS.mpr w))))] at q;exact q
theorem AB{p o k l:Nat}{K M kI O:Int}(R:h a=some (.inst c fs))(S:et look (.inst c fs) .ba (.val (.bytes t)))(T:K=p)(V:M=o)(W:kI=k)(X:O=l)(b:k<=l)(d:p+l<=t.length)(F:o<=p)(e:Ag (cc t) p o k)(q:Q (.int (ext (cc t) p o l)) h):
 runs (n+1) .lV [.ref a,.int K,.int M,.int kI,.int O] h Q E:=by
 subst T V W X;exact AA R S b d F e q
theorem I2{p F:Int}(K:h a=some (.inst c fs))(M:et look (.inst c fs) .ba (.val (.bytes t)))(q:Q (.int (min F (t.length - p))) h):runs (n+1) .lU [.ref a,.int p,.int F] h Q E :=
 aY (cH (os:=[.a (.inst c fs) (.bytes t)]) rfl (jj K M) q)
theorem AC{p F l:Int}(K:h a=some (.inst c fs))(M:et look (.inst c fs) .ba (.val (.bytes t)))(e:min F (t.length - p)=l)(q:Q (.int l) h):runs (n+1) .lU [.ref a,.int p,.int F] h Q E:=I2 K M (by refine rE e ?_;exact q)
theorem sB{p o:Int}{w:Int}(K:h a=some (.inst c fs))(M:et look (.inst c fs) .bX (.val (.int w)))(O:o≠-1->p - o<=w->Q (.bool true) h)(F:¬(o≠-1/\p - o<=w)->Q (.bool false) h):runs (n+1) .rB [.ref a,.int p,.int o] h Q E:=by
 refine aY (cC (vz (vy (os:=[]) rfl tT (λz=>aU ?_) λz=>aM (F λe=>e.1 z))));exact aZ (os:=[.a (.inst c fs) (.int w)]) rfl (jj K M) (λy=>O z y) λy=>F λe=>y e.2
theorem AD{p o F:Int}{p' o' l:Nat}(K:h a=some (.inst c fs))(R:et look (.inst c fs) .ba (.val (.bytes t)))(V:eP look (.inst c fs) a .limit (.own .lU a))(M:eP look (.inst c fs) a .alike (.own .lV a))
  (W:p=p') (X:0<=o->o<p->o=o'/\o'<=p') (b:min F (t.length - p)=(l:Int)) (d:p'+l<=t.length)
  (q:0<=o->o<p->Q (.int (ext (cc t) p' o' l)) h) (e:¬(0<=o/\o<p)->E .ce h):runs (n+2) .pf [.ref a,.int p,.int o,.int F] h Q E:=by
 refine aY (aT (iJ (pU (o1:=[]) (o2:=[]) (o3:=[]) rfl tT rfl tT rfl rfl tT rfl (λS T=>aM ?_) λz=>aU ?_)))
 ·refine(X S T).elim λO f=>?_;subst W O;refine aR (cC (vA (os:=[]) rfl tT K M (d5 (os:=[]) rfl tT (d5 (os:=[]) rfl tT (d5 (os:=[]) rfl tT (bI (bS (os:=[]) (os2:=[]) rfl tT K V rfl tT (I2 K R ?_))))))));refine rE b ?_;exact AA (k:=0) K R (ca _) d f Ag.zero (q S T)
 ·exact jp (aG (os:=[]) rfl tT (jj (show kt _<=1000 by decide) (e z)))
end
noncomputable def Zt(t:List UInt8)(s d b:Nat):M:=[(.ba,some (.bytes t)),(.size,some (.int s)),(.last,some (.ref d)),(.before,some (.ref b))]
noncomputable def gD(t:List UInt8)(s d b:Nat):O:=.inst .ix (Zt t s d b)
noncomputable def cI(t:List UInt8)(s k z:Nat):Bool:=decide (key (cc t) t.length s z=some k)
def Dict(h:Hp)(d n:Nat)(L:Nat->Int):Prop:=∃m f,m<=n/\h d=some (.dict m f)/\∀k:Nat,(f k).getD (.int (-1))=.int (L k)
def il(h:Hp)(b N:Nat)(S:Nat->Int):Prop:=∃a,h b=some (.list a)/\a.length=N/\∀i,i<N->a[i]?=some (.int (S i))
structure dP(h:Hp)(a d b:Nat)(t:List UInt8)(s u:Nat):Prop where
 x:h a=some (gD t s d b)
 d:Dict h d u λk=>nk (cI t s k) u
 b:∃B,il h b t.length B/\∀z k:Nat,z<u->cI t s k z=true->B z=nk (cI t s k) z
section
variable{n:Nat}{h:Hp}{Q:V->Hp->Prop}{E:Ex->Hp->Prop}{a d b s u p:Nat}{t:List UInt8}
theorem vI(F:h a=some (gD t s d b))(S:s<=4)(T:∀k,key (cc t) t.length s p=some k->Q (.int k) h)(V:key (cc t) t.length s p=none->Q .none h):runs (n+1) .Ez [.ref a,.int p] h Q E:=by
 refine aY (aT (aZ (os:=[.o (gD t s d b),.o (gD t s d b)]) rfl (jj F F) (λz=>aU ?_) λz=>aM ?_))
 ·refine cH (os:=[]) rfl tT (V (if_neg λy=>?_));exact absurd (bt.mpr y) (lz.mpr z)
 ·have z:p+s<=t.length:=by exact bt.mp (by rw[oD];exact cz.mp z)
  refine dI (os:=[]) rfl tT ?_;refine vx (os:=[.o (gD t s d b),.o (gD t s d b)]) rfl (jj F F) (.bytes _) ?_;have W:bA t.length (p:Int)=p:=j7 (ah (cP _ _) z);have X:bA t.length ((p:Int)+s)=p+s:=j7 (i:=p+s) z;refine rE W (rE X ?_);have O:(cut t p (p+s)).length=s:=by refine rE (Zr z) ?_;exact Nat.add_sub_self_left p s
  refine Zm (λi M m=>M=h/\∃w,m=[(.self,some (.ref a)),(.am,some (.int p)),(.number,some (.int (num (cc t) p i))),(.bM,w)]) (o6 rfl none rfl) ?_ ?_
  ·rintro i v M m c ⟨rfl,w,rfl⟩ R e;obtain⟨K,rfl⟩:=Zp c;rw[O] at K;have f:num (cc t) p i<2^200:=bn (I0 (λj=>Aj) i) (ah (DO (by decide) (ah (aO K) S)) (by decide));have g:(num (cc t) p i:Int)*256+((cc (cut t p (p+s)) i:Int) - 1)=(num (cc t) p (i+1):Int):=by
    have:=Ai (t:=t) (i:=p+i) (ab1 (by assumption) K);refine rE (Zq (gk K p)) ?_;show _=((num (cc t) p i*256+(cc t (p+i) - 1):Nat):Int)
    exact OD this
   exact jj tT (dI (os:=[]) rfl ⟨lh f,lh (by decide)⟩ (e _ _ (o6 rfl (some (.int _)) (by refine rF g ?_;rfl))))
  ·rintro M m ⟨rfl,w,rfl⟩;refine jj tT (cH (os:=[]) rfl tT ?_);rw[dq,O];exact T _ (if_pos z)
end
theorem sC{s k z:Nat}:cI t s k z=true<->key (cc t) t.length s z=some k:=decide_eq_true_iff
theorem vJ{s k u:Nat}(h:cI t s k u=false):nk (cI t s k) (u+1)=nk (cI t s k) u:=by rw[sA,h];exact if_neg ko
theorem I4(h:P u=true):nk P (u+1)=u:=by rw[sA];exact if_pos h
noncomputable def upd(S:Nat->Int)(i:Nat)(v:Int):Nat->Int:=λz=>if z=i then v else S z
theorem pY{S:Nat->Int}{i:Nat}{v:Int}:upd S i v i=v:=if_pos rfl
theorem pZ{S:Nat->Int}{i z:Nat}{v:Int}(h:z≠i):upd S i v z=S z:=if_neg h
theorem I7{F:List V}{N u:Nat}{v:Int}{w:V}{S:Nat->Int}(K:F.length=N)(M:∀i,i<N->F[i]?=some (.int (S i)))(O:u<N)(e:w=.int v)(i:Nat)(R:i<N):(F.set u w)[i]?=some (.int (upd S u v i)):=by
 by_cases z:i=u
 ·rw[z,pY,List.getElem?_set_self (by rw[K];exact O),e]
 ·refine rE (pZ z) (rE (List.getElem?_set_ne λw=>z w.symm) ?_);exact M i R
def eV(a b:Nat)(x:Nat):Prop:=x=a\/x=b
section
variable{n:Nat}{h:Hp}{Q:V->Hp->Prop}{E:Ex->Hp->Prop}{a d b s u p:Nat}{t:List UInt8}
theorem Dict.get{n:Nat}(D:Dict h d n L):∃m f,h d=some (.dict m f)/\m<=n/\∀k:Nat,(f k).getD (.int (-1))=.int (L k):=bL D λm f a b c=>(cb m f b a c)
theorem dP.keep(R:dP h a d b t s u){K:Hp}{F:Nat->Prop}(p:ae F h K)(M:¬F a)(O:¬F d)(S:¬F b):dP K a d b t s u :=
 bL R.d λm f T V W=>ak R.b λB z X=>cr z λc e g i=>⟨p _ _ R.x M,(cb m f T (p _ _ V O) W),(aq B (bG c (p _ _ e S) g i) X)⟩
theorem dP.skip(R:dP h a d b t s u)(K:key (cc t) t.length s u=none):dP h a d b t s (u+1):=by
 have F:∀k,cI t s k u=false:=λk=>decide_eq_false (by refine rE K ?_;nofun);refine bL R.d λm f M O S=>?_;refine ak R.b λB T W=>?_;refine⟨R.x,(cb m f (ks M) O (λk=>(S k).trans (congrArg V.int (vJ (F k)).symm))),B,T,λz k X e=>W z k ((fX (dA X)).resolve_right λw=>?_) e⟩;rw[w,F k] at e;exact nomatch e
theorem dP.put(R:dP h a d b t s u){k m:Nat}{f:Int->Option V}{K:List V}(g:d≠b)(i:u<t.length)(M:key (cc t) t.length s u=some k)(j:h d=some (.dict m f))(l:m<=u)(T:∀k:Nat,(f k).getD (.int (-1))=.int (nk (cI t s k) u))(W:h b=some (.list K)):
  dP ((h.set b (.list (K.set u ((f k).getD (.int (-1)))))).set d (.dict (m+1) λF=>if F=(k:Int) then some (.int u) else f F)) a d b t s (u+1):=by
 have O:a≠b:=gz R.x W nofun;have S:a≠d:=gz R.x j nofun;obtain⟨B,⟨v,X,c,o⟩,q⟩:=R.b;rw[W] at X;cases X;refine⟨(Hp.cJ S).trans ((Hp.cJ O).trans R.x),(cb (m+1) _ (db l) Hp.set_same (λF=>?_)),upd B u (nk (cI t s k) u),⟨K.set u ((f k).getD (.int (-1))),(Hp.cJ g.symm).trans Hp.set_same,by rw[oP];exact c,I7 c o i (T k)⟩,λz F r e=>?_⟩
 ·show(if (F:Int)=k then some (V.int u) else f F).getD (.int (-1))=V.int (nk (cI t s F) (u+1));by_cases e:F=k
  ·rw[if_pos (congrArg _ e),e,I4 (sC.mpr M)];rfl
  ·rw[if_neg λw=>e (lM.mp w),T,vJ (decide_eq_false λw=>e (bq (w.symm.trans M)))]
 ·by_cases w:z=u
  ·rw[w] at e ⊢;rw[pY,bq ((sC.mp e).symm.trans M)]
  ·rw[pZ w];exact q z F ((fX (dA r)).resolve_right w) e
theorem AE(R:dP h a d b t s u)(T:d≠b)(W:s<=4)(K:u<t.length)(X:t.length<=100)(q:∀c,ae (eV d b) h c->dP c a d b t s (u+1)->Q .none c):runs (n+2) .EA [.ref a,.int u] h Q E:=by
 refine bL R.d.get λm f F V g=>?_;obtain⟨B,⟨l,M,i,o⟩,r⟩:=id R.b;refine aY (bR (bS (os:=[]) (os2:=[]) rfl tT R.x (.own rfl rfl) rfl tT (vI R.x W (λk O=>?_) λO=>?_)))
 ·have S:a≠b:=gz R.x M nofun;refine aT (g6 (os:=[]) rfl tT (λj=>aU ?_) λe=>df e);refine j4 (os:=[.o (gD t s d b),.o (.dict m f)]) (o1:=[.o (gD t s d b)]) (o2:=[]) rfl (jj (jj R.x F) F) rfl R.x rfl tT (oi M (b9 u) (by refine rE i ?_;exact aS.mpr K) ?_);refine j4 (os:=[]) (o1:=[.o (gD t s d b)]) (o2:=[]) rfl tT rfl ((Hp.cJ S).trans R.x) rfl tT (IV ((Hp.cJ T).trans F) (by refine rE dz ?_;exact iY (ah V (ah (aO K) X))) (aR (q _ ?_ (R.put T K O F V g M))));exact(ae.set (.inr rfl)).trans (ae.set (.inl rfl))
 ·refine aT (g6 (os:=[]) rfl tT (λe=>a9 e) λj=>aM (aR (q h ae.refl (R.skip O))))
theorem I8(R:dP h a d b t s u)(W:s<=4)(X:u<=t.length)(M:∀k,key (cc t) t.length s p=some k->Q (.int (nk (cI t s k) (min p u))) h)(i:key (cc t) t.length s p=none->Q (.int (-1)) h):runs (n+2) .EB [.ref a,.int p] h Q E:=by
 refine bL R.d.get λm f O C l=>?_;obtain⟨B,⟨S,o,D,q⟩,r⟩:=id R.b;refine aY (bR (bS (os:=[]) (os2:=[]) rfl tT R.x (.own rfl rfl) rfl tT (vI R.x W (λk F=>?_) λF=>?_)))
 ·refine aT (g6 (os:=[]) rfl tT (λe=>a9 e) λv=>aM (aR ?_));refine dI (os:=[.o (gD t s d b),.o (.dict m f)]) rfl (jj (jj R.x O) O) ?_;refine rE (l k) ?_;refine vF (k:=u) (λj T m=>T=h/\j<=u/\min p u<=j/\m=[(.self,some (.ref a)),(.am,some (.int p)),(.number,some (.int k)),(.other,some (.int (nk (cI t s k) j)))]) (dE rfl (a6 _) (gI _ _) rfl) ?_;rintro j T _ ⟨rfl,c,g,rfl⟩ G w;rcases j8 (P:=cI t s k) j with ⟨e,K⟩ |⟨z,e,K,x,H⟩
  ·refine aZ (os:=[]) rfl tT (λz=>aU ?_) λz=>aM (cH (os:=[]) rfl tT ?_)
   ·lia
   ·rcases xu p j with y |y
    ·refine rF (Ay (p:=min p u) g (by exact e▸fW (by decide) (b9 _))) ?_;exact M k F
    ·rw[show j=min p u by exact fi (iX.mpr ⟨y,c⟩) g];exact M k F
  ·refine aZ (os:=[]) rfl tT (λy=>aU ?_) λy=>aM (cH (os:=[]) rfl tT ?_)
   ·have A:=r z k (bn K c) x;have V:=oj (q z (by exact bn K (ah c X)));rw[A] at V;refine dI (os:=[.o (gD t s d b),.o (.list S),.g (.int (nk (cI t s k) z))]) rfl (jj (jj R.x o) (by show dr S (nk (cI t s k) j)=_;refine rE e ?_;exact V)) (w z _ _ K (dE rfl (by exact ah (aO K) c) (by exact ah (eG _ _) (bt.mp (e▸y))) rfl))
   ·rcases xu p j with y' |y'
    ·refine rF (Ay (p:=min p u) g (by exact OS (ah y' c) y)) ?_;exact M k F
    ·rw[show j=min p u by exact fi (iX.mpr ⟨y',c⟩) g];exact M k F
 ·exact aT (g6 (os:=[]) rfl tT (λv=>aU (cH (os:=[]) rfl tT (i F))) λe=>df e)
end
inductive PL(h0 h:Hp):List V->List (Int×Int)->Prop
 |nil:PL h0 h [] []
 |cons {x:Nat} {p:Int×Int} {ts:List V} {ps:List (Int×Int)}:h0 x=none->h x=some (.tup [.int p.1,.int p.2])->PL h0 h ts ps->PL h0 h (.ref x::ts) (p::ps)
section
variable{h0 h:Hp}
theorem PL.keep(l:PL h0 h c d){F:Hp}(k:∀x a b,h0 x=none->h x=some (.tup [.int a,.int b])->F x=some (.tup [.int a,.int b])):PL h0 F c d:=by
 induction l with
 |nil=>exact .nil
 |cons a b _ e=>exact .cons a (k _ _ _ a b) e
theorem PL.push(l:PL h0 h c d){x:Nat}{a b:Int}(F:h0 x=none)(e:h x=some (.tup [.int a,.int b])):PL h0 h (c++[.ref x]) (d++[(a,b)]):=by
 induction l with
 |nil=>exact .cons F e .nil
 |cons a b _ f=>exact .cons a b f
theorem PL.length(l:PL h0 h c d):c.length=d.length:=by
 induction l with
 |nil=>rfl
 |cons a b _ e=>exact congrArg (·+1) e
end
structure Lb(h0 h:Hp)(r:Nat)(ps:List (Int×Int)):Prop where
 new:h0 r=none
 ls:∃ts,h r=some (.list ts)/\PL h0 h ts ps
section
variable{h0 h:Hp}{r:Nat}{ps:List (Int×Int)}
theorem Lb.init(F:h r=none)(e:au h0 h):Lb h0 (h.set r (.list [])) r []:=⟨(by
 induction z:h0 r with
 |none=>rfl
 |some o=>rw[e.at z] at F;exact cX F),[],Hp.set_same,.nil⟩
theorem Lb.keep(l:Lb h0 h r ps){F:Nat->Prop}{K:Hp}(p:ae F h K)(k:∀x,F x->h0 x≠none):Lb h0 K r ps :=
 let ⟨c,e,q⟩:=l.ls
 ⟨l.new,c,p _ _ e λz=>k _ z l.new,q.keep λx a b M z=>p _ _ z λw=>k _ w M⟩
theorem Lb.ext(l:Lb h0 h r ps){F:Hp}(p:au h F):Lb h0 F r ps:=l.keep p λK z=>z.elim
theorem Lb.push(l:Lb h0 h r ps){R:List V}{x:Nat}{a b:Int}(e:au h0 h)(K:h r=some (.list R))(F:h x=none):Lb h0 ((h.set x (.tup [.int a,.int b])).set r (.list (R++[.ref x]))) r (ps++[(a,b)]):=by
 refine ak l.ls λT S q=>?_;rw[K] at S;rcases S with ⟨⟩;have M:x≠r:=(fresh_ne K F).symm;have O:h0 x=none:=by
  induction z:h0 x with
  |none=>rfl
  |some o=>rw[e.at z] at F;exact cX F
 refine⟨l.new,_,Hp.set_same,(q.keep λy a b W z=>?_).push O ((Hp.cJ M).trans Hp.set_same)⟩;exact(Hp.cJ (gz z K nofun)).trans ((Hp.cJ (fresh_ne z F)).trans z)
end
theorem au.push(e:au a h)(K:h x=none)(M:a r=none):au a ((h.set x o).set r b):=λy p z n=>by
 have F:=e.at z;exact(Hp.cJ λw=>by rw[w,M] at z;exact aN z).trans ((Hp.cJ (fresh_ne F K)).trans F)
noncomputable def Zu(t:List UInt8)(l w F u r:Nat):M:=[(.ba,some (.bytes t)),(.least,some (.int l)),(.bX,some (.int w)),(.chain,some (.int F)),(.ahead,some (.int u)),(.row,some (.ref r))]
noncomputable def jt(t:List UInt8)(l w F u r:Nat):O:=.inst .fL (Zu t l w F u r)
structure Fin(h:Hp)(a r d b:Nat)(t:List UInt8)(l w ch u:Nat):Prop where
 x:h a=some (jt t l w ch u r)
 row:dP h r d b t l u
 ne:d≠b
theorem Fin.keep{a r d b:Nat}{l w F u:Nat}(R:Fin h a r d b t l w F u){K:Hp}(p:au h K):Fin K a r d b t l w F u:=⟨p.at R.x,R.row.keep p id id id,R.ne⟩
noncomputable def eD(t:List UInt8)(l w F u p:Nat):List Nat :=
 match key (cc t) t.length l p with
 |some k=>(dJ (cI t l k) (p - w) (min p u)).take F
 |none=>[]
section
variable{n:Nat}{h:Hp}{Q:V->Hp->Prop}{E:Ex->Hp->Prop}{a r d b l w ch u p:Nat}{t:List UInt8}
noncomputable def Zv:List S:=[.while (.and (.ay (.aa .self) .jM [.aa .am,.aa .other]) (.cmp (.aB .len [.aa .aQ]) .lt (.aA (.aa .self) .chain)))
  [.expr (.ay (.aa .aQ) .append [.aa .other]),.assign .other (.sub (.aA (.aA (.aa .self) .row) .before) (.aa .other))],.ret (.aa .aQ)]
noncomputable def AF(a p f:Nat)(v:Option V):M:=[(.self,some (.ref a)),(.am,some (.int p)),(.aQ,some (.ref f)),(.other,v)]
noncomputable def mz(F:List Nat):O:=.list (F.map λz:Nat=>.int z)
theorem I9{P:Nat->Bool}{f:Nat}{B:Nat->Int}{K:List V}{Q:Fl->Hp->M->Prop}{E:PE}(R:Fin h a r d b t l w ch u)(F:h f=none)(T:h b=some (.list K))(C:∀i,i<t.length->K[i]?=some (.int (B i)))(W:u<=t.length)(D:t.length<=100)
  (G:∀z:Nat,z<u->P z=true->B z=nk P z) {j:Nat} (H:j<=u) (q:∀g m,au h g->g f=some (mz ((dJ P (p - w) j).take ch))->Q (.ret (.ref f)) g m) :
  aE look ac (runs (n+2)) [] Zv (h.set f (mz [])) (AF a p f (some (.int (nk P j)))) Q E:=by
 refine vF (k:=j) (λi g m=>∃c:List Nat,g=h.set f (mz c)/\c.length+i<=u/\c.length<=ch/\(dJ P (p - w) j).take ch=c++(dJ P (p - w) i).take (ch - c.length)/\m=AF a p f (some (.int (nk P i)))) (t9 [] rfl (by simpa using H) (ca _) rfl rfl) ?_;rintro i g m ⟨c,rfl,s,Y,v,rfl⟩ Z I;have O:=R.keep (ae.new (a:=f) (o:=mz c) F);have stop:(dJ P (p - w) i).take (ch - c.length)=[]->aE look ac (runs (n+2)) [] [.ret (.aa .aQ)] (h.set f (mz c)) (AF a p f (some (.int (nk P i)))) Q E:=λe =>
  cH (os:=[]) rfl tT (q _ _ (ae.new F) (by rw[v,e,fk];exact Hp.set_same))
 refine fU (ss (os:=[]) (os2:=[]) rfl tT O.x (.own rfl rfl) rfl tT (sB (w:=w) O.x (.field rfl rfl) (λJ L=>pV ?_) λz=>Au (aM (stop ?_))))
 ·refine aZ (os:=[.o (mz c),.o (jt t l w ch u r)]) rfl (jj Hp.set_same O.x) (λy=>aU ?_) λy=>aM (stop ?_)
  ·rcases j8 (P:=P) i with ⟨e,_⟩ |⟨z,e,S,N,_⟩
   ·exact absurd e J
   ·have y:c.length<ch:=by simpa using y
    have X:z<u:=by exact bn S (ah (gN _ _) s)
    have x:=oj (C z (bn X W));rw[G z X N,←e] at x;refine bH (sv (os:=[]) rfl tT Hp.set_same (aG (os:=[]) rfl tT (sw Hp.set_same (by rw[dq,dz];exact iY (ah (ah (ah (cP _ _) s) W) D)) ?_)));rw[Hp.set_set];have A:=R.keep (ae.new (a:=f) (o:=.list (c.map (λz:Nat=>V.int z)++[.int (nk P i)])) F);refine dI (os:=[.o (jt t l w ch u r),.o (gD t l d b),.o (.list K),.g (.int (nk P z))]) rfl (jj (jj (jj A.x A.row.x) ((Hp.cJ (fresh_ne T F)).trans T)) x) (I z _ _ S (t9 (c++[z]) ?_ ?_ ?_ ?_ rfl))
    ·unfold mz;rw[no,e];rfl
    ·rw[cA];show c.length+1+z<=u;exact OX s S
    ·rw[cA];exact y
    ·have U:p - w<=z:=ub e L;rw[v,(mx (lo:=p - w)).1 z e U,cA,show ch - c.length=(ch - (c.length+1))+1 by exact Oy y,DP,gS];rfl
  ·have y:ch - c.length=0:=tR (c6 λz=>y (by simpa using z));rw[y,tQ]
 ·have:=vH (P:=P) (u:=i);rw[mx.2 (by exact Eo z),Nz]
theorem Zw(R:Fin h a r d b t l w ch u)(X:l<=4)(K:u<=t.length)(S:t.length<=100)(q:∀g c,au h c->h g=none->c g=some (mz (eD t l w ch u p))->Q (.ref g) c):runs (n+3) .EF [.ref a,.int p] h Q E:=by
 refine aY (bR (iK (cu λf F=>?_)));have M:=R.keep (ae.new (a:=f) (o:=.list []) F);refine bR (bS (os:=[.o (jt t l w ch u r)]) (os2:=[]) rfl M.x M.row.x (.own rfl rfl) rfl tT ?_);obtain⟨B,⟨v,T,x,V⟩,i⟩:=id R.row.b;refine I8 M.row X K (λk O=>?_) λO=>?_
 ·exact I9 R F T V K S (λz W e=>i z k W e) (gI p u) λc m e z=>q f c e F (by unfold eD;refine rE O ?_;exact z)
 ·exact I9 (P:=λs=>false) (j:=0) R F T V K S (λz W e=>a9 e) (ca _) λc m e z=>q f c e F (by rw[show dJ (λs=>false) (p - w) 0=[] from rfl,Nz] at z;unfold eD;refine rE O ?_;exact z)
end
def j9(h:Hp)(F:List (Int×Int))(Q:V->Hp->Prop):Prop:=∀f a,au h a->Lb h a f F->Q (.ref f) a
section
variable{C:bU}{h h0:Hp}{m:M}{Q:Fl->Hp->M->Prop}{E:PE}{r:List S}{os:List Ht}{obs:List Ob}{f:Nat}{a b:Int}{ps:List (Int×Int)}
theorem Lb.ne(l:Lb h0 h f ps)(F:h0 x=some o):x≠f:=λe=>by rw[e,l.new] at F;exact aN F
theorem Lb.elim{P:Prop}(l:Lb h0 h f ps)(k:∀c,h f=some (.list c)->PL h0 h c ps->P):P:=l.ls.elim λc z=>k c z.1 z.2
theorem sD{F K:X}(S:vE [] m (.aa .aQ) []=some (.ref f,[],[]))(T:dN [] m [F,K] os=some ([.int a,.int b],[],obs))(V:bd h obs)(L:Lb h0 h f ps)(R:au h0 h)(W:ps.length<1000)
  (q:∀c,au h0 c->Lb h0 c f (ps++[(a,b)])->ae (·=f) h c->aE look ac C [] r c m Q E):aE look ac C [] (.expr (.ay (.aa .aQ) .append [.tup [F,K]])::r) h m Q E:=by
 refine L.elim λd F K=>bH (sv (os:=[]) S tT F (Zg (n8 T V λx M=>?_)));have O:=fresh_ne F M;exact sw ((Hp.cJ O).trans F) (by refine rE K.length (rE dz ?_);exact cZ W (by decide)) (q _ (au.push R M L.new) (L.push R F M) ((ae.new M).trans (ae.set rfl)))
end
theorem AG:∀ {F:List Nat} {m:Nat},(∀z,f z<=m)->Rl f p F m=[]
 |[],_,_=>rfl
 |z::r,m,k=>by rw[my,if_neg (c8.mpr (k z)),AG k]
theorem vK:∀ {F:List Nat} {m:Nat},(Rl f p F m).length<=F.length
 |[],_=>a6 _
 |z::r,m=>by
  rw[my];by_cases h:m<f z
  ·rw[if_pos h];exact db vK
  ·rw[if_neg h];exact ks vK
section
variable{n:Nat}{h:Hp}{Q:V->Hp->Prop}{E:Ex->Hp->Prop}{a r d b l w ch u p mo:Nat}{t:List UInt8}
set_option tactic.hygienic true in
theorem Zy(h:z∈eD t l w ch u p):z<p:=by
 unfold eD at h;split at h
 ·rename_i k e;have key:∀ {P:Nat->Bool} {lo u:Nat},z∈dJ P lo u->z<u:=by
   intro P lo u;induction u with
   |zero=>exact λh=>dx h
   |succ u c =>
    intro h;rw[om] at h;split at h
    ·split at h
     ·exact(cW.mp h).elim (λe=>e▸c7 u) λh=>f6 (c h)
     ·exact f6 (c h)
    ·exact dx h
  exact bn (key (NA h)) (eG _ _)
 ·exact dx h
theorem Zz:(eD t l w ch u p).length<=u:=by
 unfold eD;split
 ·exact ah (List.length_take_le' _ _) (ah (Az _) (gI _ _))
 ·exact ca _
noncomputable def ZA(a p mo f F K:Nat)(o c:Option V):M:=[(.self,some (.ref a)),(.am,some (.int p)),(.most,some (.int mo)),(.aQ,some (.ref f)),(.limit,some (.int F)),(.longest,some (.int K)),(.other,o),(.count,c)]
theorem AH:p+min mo (N - p)<=N\/N<p:=(BJ N p).symm.imp_left ua
theorem p9{p mo N:Nat}(h:p<=N):min (mo:Int) ((N:Int) - p)=((min mo (N - p):Nat):Int):=by exact rF (jy h) (rE Aw rfl)
theorem AI{l:Nat}(h:1<=l):(l:Int) - 1=((l - 1:Nat):Int):=(jy h).symm
structure GE where
 ps:List (Int×Int)
 lg:Nat
 o:Option V
 c:Option V
structure IE(h h2:Hp)(f r0 p:Nat)(F:Nat->Nat)(full:List (Int×Int))(zs:List Nat)(x:GE)(h':Hp):Prop where
 zp:∀z∈zs,z<p
 e:au h h'
 L:Lb h h' f x.ps
 r:h' r0=h2 r0
 eq:x.ps++Rl F p zs x.lg=full
section
variable{h2:Hp}{f r0 lim:Nat}{F:Nat->Nat}{full:List (Int×Int)}{zs:List Nat}{z:Nat}{x:GE}{h':Hp}
theorem IE.done(I:IE h h2 f r0 p F full [] x h'):Lb h h' f full:=by have:=I.L;refine rF I.eq ?_;simpa [Rl] using this
theorem IE.stop(I:IE h h2 f r0 p (λz=>ext (cc t) p z lim) full (z::zs) x h')(y:(lim:Int)<=x.lg):Lb h h' f full:=by
 have:=I.L;rw[←I.eq,AG λz=>ah eC (bt.mp y),fk];exact this
theorem IE.skip(I:IE h h2 f r0 p F full (z::zs) x h')(k:F z<=x.lg){o c:Option V}:IE h h2 f r0 p F full zs ⟨x.ps,x.lg,o,c⟩ h' :=
 ⟨λy K=>I.zp y (.tail _ K),I.e,I.L,I.r,by have:=I.eq;rw[my,if_neg (c8.mpr k)] at this;exact this⟩
theorem IE.hit(I:IE h h2 f r0 p F full (z::zs) x h')(k:x.lg<F z){K:Hp}(e:au h K)(L:Lb h K f (x.ps++[((F z:Int),(p:Int) - z)]))(M:K r0=h2 r0){o c:Option V}:IE h h2 f r0 p F full zs ⟨x.ps++[((F z:Int),(p:Int) - z)],F z,o,c⟩ K :=
 ⟨λy O=>I.zp y (.tail _ O),e,L,M,by have:=I.eq;rw[my,if_pos k] at this;rw[gS];exact this⟩
theorem IE.len(I:IE h h2 f r0 p F full zs x h')(k:full.length<1000):x.ps.length<1000:=aV (by refine rF I.eq (rE cA ?_);exact cP _ _) k
end
theorem I'(R:Fin h a r d b t l w ch u)(F:1<=l)(L:l<=4)(m:u<=t.length)(o:t.length<=100)(s:p<t.length)(q:j9 h (Rl (λz=>ext (cc t) p z (min mo (t.length - p))) p (eD t l w ch u p) (l - 1)) Q):
  runs (n+4) .uh [.ref a,.int p,.int mo] h Q E:=by
 have K:p+min mo (t.length - p)<=t.length:=AH.resolve_right (c8.mpr (aO s));have v:=p9 (mo:=mo) (aO s);generalize min mo (t.length - p)=c at q K v;refine aY (jq (bI (iK (cu λf S=>bI (bS (os:=[]) (os2:=[]) rfl tT ((Hp.cJ (fresh_ne R.x S)).trans R.x) (.own rfl rfl) rfl tT (AC ((Hp.cJ (fresh_ne R.x S)).trans R.x) (.field rfl rfl) v (cu (iI λN A=>?_))))))));have B:=(Lb.init (h0:=h) S ae.refl).ext A;have C:au h N:=(ae.new S).trans A;have W:=R.keep C;refine ms (os:=[.o (jt t l w ch u r)]) rfl W.x (AI F) ?_;refine g0 (bS (os:=[]) (os2:=[]) rfl tT W.x (.own rfl rfl) rfl tT (Zw (n:=n) W L m o λX P D M F=>aP (.list F) ?_));have U:X≠f:=λw=>B.elim λts z zz=>by rw[w,z] at M;exact cX M
 have e:(Rl (λz=>ext (cc t) p z c) p (eD t l w ch u p) (l - 1)).length<1000:=aV (ah vK Zz) (aV m (aV o (by decide)));refine gC (λz:Nat=>V.int z) (λx:GE=>ZA a p mo f c x.lg x.o x.c) (IE h P f X p (λz=>ext (cc t) p z c) _) (λz zs x O I R' g=>?_) (λx O I=>jj I.r ?_) (x:=⟨[],l - 1,none,none⟩) ⟨λz Y=>Zy Y,C.trans D,B.ext D,rfl,rfl⟩
 rotate_left
 ·exact cH (os:=[]) rfl tT (q f O I.e I.done)
 have T:=R.keep I.e;have G:=I.zp z (.head _);refine jj I.r (aT (aZ (os:=[]) rfl tT (λy=>aU (Zb (Zl (cH (os:=[]) rfl tT (q f O I.e (I.stop y)))))) λy=>aM (aR ?_)));have y:x.lg<c:=aS.mp (lz.mp y);have H:p+x.lg<t.length:=bn (gk y p) K;refine aT (aZ (os:=[.o (jt t l w ch u r),gB t (z+x.lg),.o (jt t l w ch u r),gB t (p+x.lg)]) rfl (jj (jj (jj T.x (jr (n:=z+x.lg) (cZ (wk G _) H))) T.x) (jr (n:=p+x.lg) H)) (λJ=>aU ?_) λJ=>aM ?_)
 ·refine bR (bS (os:=[]) (os2:=[]) rfl tT T.x (.own rfl rfl) rfl tT (AA (k:=0) T.x (.field rfl rfl) (ca _) K (aO G) Ag.zero ?_));refine aT (aZ (os:=[]) rfl tT (λj=>aU ?_) λj=>aM (g ⟨x.ps,x.lg,some (.int z),some (.int _)⟩ O (I.skip (bt.mp (cz.mp j)))));exact sD (os:=[]) rfl rfl tT I.L I.e (I.len e) λZ e4 L4 p4=>dI (os:=[]) rfl tT (g ⟨_,_,some (.int z),some (.int _)⟩ Z (I.hit (aS.mp j) e4 L4 ((p4 X _ (I.r.trans F) U).trans F.symm)))
 ·exact g ⟨x.ps,x.lg,some (.int z),x.c⟩ O (I.skip (c6 λw=>J (congrArg (λi:Nat=>(i:Int) - 1) (ic x.lg w).symm)))
end
section
variable{n:Nat}{h:Hp}{Q:V->Hp->Prop}{E:Ex->Hp->Prop}{a r d b l w ch u p mo:Nat}{t:List UInt8}{c:Cl}
theorem ZB{s:Int}(F:s<1)(q:E .ce h):runs (n+1) .xW [.ref a,.bytes t,.int s] h Q E :=
 aY (aT (aZ (os:=[]) rfl tT (λK=>aU (jp (aG (os:=[]) rfl tT (jj (show kt _<=1000 by decide) q)))) λz=>absurd F z))
theorem ZC(v:1<=s)(y:t.length<=100)(M:h a=some (.inst .ix m0))(q:∀e d b,ae (·=a) h e->dP e a d b t s 0->d≠b->h d=none->h b=none->Q .none e):runs (n+1) .xW [.ref a,.bytes t,.int s] h Q E:=by
 refine aY (aT (aZ (os:=[]) rfl tT (λz=>absurd z (cz.mpr (bt.mpr v))) λF=>aM (aR ?_)));refine eU (os:=[]) (os2:=[]) rfl tT rfl tT M rfl (show 0<100 by decide) λZ p1 a1=>eU (os:=[]) (os2:=[]) rfl tT rfl tT a1 rfl (show 1<100 by decide) λA B a2=>?_;refine iH (IT λd h3 S C D=>iM (os:=[]) rfl tT (S.at a2) rfl (show 2<100 by decide) λG T V=>?_);refine iH (dk (dm (os:=[]) rfl tT λx h5 K x4 H=>aG (os:=[]) rfl tT (su H (ah y (by decide)) λb h6 O W I=>iM (os:=[]) rfl tT (O.at (K.at V)) rfl (show 3<100 by decide) λJ R L=>?_)));have X:ae (·=a) h A:=p1.trans B;have f:=j6 X a2 C;have N:ae (·=a) h G:=(X.trans (S.mono λF z=>z.elim)).trans T;have g:=N.trans (K.mono λF z=>z.elim);have j:=j6 g (K.at V) W;have m:d≠a:=(fresh_ne M f).symm;have P:b≠a:=(fresh_ne M j).symm;have o:=K.at (T d _ D m);refine q J d b ((g.trans (O.mono λF z=>z.elim)).trans R) ⟨L,(cb 0 _ (a6 _) (R d _ (O.at o) m) (λk=>rfl)),λF=>-1,⟨_,R b _ I P,qM,λi U=>?_⟩,λz k Y=>absurd Y (oY _)⟩ (fresh_ne o W) f j;exact rE (DQ) (rE (if_pos U) rfl)
theorem vL{s:Nat}{S:Cs}{m:M}{T:List X}{os:List Ht}{K:List Ob}{P:PV}{E:PE}(W:1<=s)(g:t.length<=100)(i:dN S m T os=some ([.bytes t,.int s],[],K))(j:bd h K)
  (q:∀r d b f,au h f->dP f r d b t s 0->d≠b->h r=none->h d=none->h b=none->P (.ref r) f m):ev look ac (runs (n+1)) S (.bN .ix T) h m P E :=
 mu rfl i j λr O=>ZC W g Hp.set_same λf d b p R e k v=>jj rfl (q r d b f (λx o z V=>p x o ((Hp.cJ (fresh_ne z O)).trans z) (fresh_ne z O)) R e O (back (ae.new (F:=λV=>False) O) (λz=>z.elim) k) (back (ae.new (F:=λV=>False) O) (λz=>z.elim) v))
end
noncomputable def j'(t:List UInt8)(l w F u:Int):M:=[(.ba,some (.bytes t)),(.least,some (.int l)),(.bX,some (.int w)),(.chain,some (.int F)),(.ahead,some (.int u))]
structure ZD(c:Cl):Prop where
 k1:look c .ba=.field
 k2:look c .least=.field
 k3:look c .bX=.field
 k4:look c .chain=.field
 k5:look c .ahead=.field
section
variable{n:Nat}{h:Hp}{Q:V->Hp->Prop}{E:Ex->Hp->Prop}{a r d b l w ch u p mo:Nat}{t:List UInt8}{c:Cl}{fs:M}
theorem mA{K M F:Int}(R:h a=some (.inst c m0))(k:ZD c)(q:1<=K->1<=M->1<=F->∀e,ae (·=a) h e->e a=some (.inst c (j' t K M F 0))->Q .none e)(O:¬(1<=K/\1<=M/\1<=F)->E .ce h):
  runs (n+1) .ED [.ref a,.bytes t,.int K,.int M,.int F] h Q E:=by
 refine aY (aT (aZ (os:=[]) rfl tT (λz=>aU (jp (aG (os:=[]) rfl tT (jj (show kt _<=1000 by decide) (O λy=>cz.mpr y.1 z))))) λS=>aM (aR ?_)));refine aT (aZ (os:=[]) rfl tT (λz=>aU (jp (aG (os:=[]) rfl tT (jj (show kt _<=1000 by decide) (O λy=>cz.mpr y.2.1 z))))) λT=>aM (aR ?_));refine aT (aZ (os:=[]) rfl tT (λz=>aU (jp (aG (os:=[]) rfl tT (jj (show kt _<=1000 by decide) (O λy=>cz.mpr y.2.2 z))))) λV=>aM (aR ?_));refine eU (os:=[]) (os2:=[]) rfl tT rfl tT R k.k1 (show 0<100 by decide) λs p1 a1=>eU (os:=[]) (os2:=[]) rfl tT rfl tT a1 k.k2 (show 1<100 by decide) λv W a2=>?_;refine eU (os:=[]) (os2:=[]) rfl tT rfl tT a2 k.k3 (show 2<100 by decide) λx X f=>eU (os:=[]) (os2:=[]) rfl tT rfl tT f k.k4 (show 3<100 by decide) λA g i=>?_;exact eU (os:=[]) (os2:=[]) rfl tT rfl tT i k.k5 (show 4<100 by decide) λj m o=>q (cz.mp S) (cz.mp T) (cz.mp V) j ((((p1.trans W).trans X).trans g).trans m) o
theorem sG{p u:Int}{g:Fn}(F:h a=some (.inst c fs))(M:et look (.inst c fs) .ba (.val (.bytes t)))(O:et look (.inst c fs) .ahead (.val (.int u)))(R:look c .ahead=.field)(S:fs.length<100)(T:∀x,eP look (.inst c (bu fs .ahead x)) a .enter (.own g a))
  (q:u<=p->p<t.length->∀e,ae (·=a) h e->e a=some (.inst c (bu fs .ahead (.int (p+1))))->runs n g [.ref a,.int p] e (λi h=>Q .none h) E) (K:¬(u<=p/\p<t.length)->E .ce h):runs (n+1) .iy [.ref a,.int p] h Q E:=by
 have V:¬(u<=p/\p<t.length)->E .ce h:=K;refine aY (aT (ie (aZ (os:=[.a (.inst c fs) (.int u)]) rfl (jj F O) (λz=>aU (aU (jp (aG (os:=[]) rfl tT (jj (show kt _<=1000 by decide) (K λy=>cz.mpr y.1 z)))))) λW=>aM ?_)));refine aZ (os:=[.a (.inst c fs) (.bytes t)]) rfl (jj F M) (λz=>aU (jp (aG (os:=[]) rfl tT (jj (show kt _<=1000 by decide) (K λy=>cz.mpr z y.2))))) λX=>aM (aR ?_);refine eU (os:=[]) (os2:=[]) rfl tT rfl tT F R S λf p1 a1=>bH (bS (os:=[]) (os2:=[]) rfl tT a1 (T _) rfl tT ?_);exact q (cz.mp W) (lz.mp X) f p1 a1
theorem ZE{F:Int}{lim:Nat}(O:h a=some (.inst c fs))(W:et look (.inst c fs) .ba (.val (.bytes t)))(X:et look (.inst c fs) .bX (.val (.int w)))(R:eP look (.inst c fs) a .length (.own .pf a))(e:eP look (.inst c fs) a .limit (.own .lU a))(S:eP look (.inst c fs) a .alike (.own .lV a))
  (f:min (mo:Int) (t.length - p)=(lim:Int)) (g:p+lim<=t.length) (i:1<=F->F<=p->F<=w->Q (.int (ext (cc t) p ((p:Int) - F).toNat lim)) h) (T:¬(1<=F/\F<=p/\F<=w)->Q (.int 0) h):runs (n+3) .rC [.ref a,.int p,.int F,.int mo] h Q E:=by
 refine aY (aT (ie (aZ (os:=[]) rfl tT (λz=>aU (aU (cH (os:=[]) rfl tT (T λy=>cz.mpr y.1 z)))) λK=>aM ?_)));refine ie (aZ (os:=[]) rfl tT (λz=>aU (aU (cH (os:=[]) rfl tT (T λy=>cz.mpr y.2.1 z)))) λM=>aM ?_);refine aZ (os:=[.a (.inst c fs) (.int w)]) rfl (jj O X) (λz=>aU (cH (os:=[]) rfl tT (T λy=>cz.mpr y.2.2 z))) λj=>aM (aR ?_);have K:=cz.mp K;have M:=cz.mp M;refine cC (bS (os:=[]) (os2:=[]) rfl tT O R rfl tT (AD (p':=p) (o':=((p:Int) - F).toNat) O W e S rfl (λV V=>⟨by exact ir (Int.toNat_sub_of_le M),by exact Es K⟩) f g (λV V=>i K M (cz.mp j)) λy=>absurd ⟨by exact qv M,by exact KU (↑p) K⟩ y))
noncomputable def g7(F:List (Int×Int)):Int×Int:=F.getLast?.getD (0,0)
def Ja(h:Hp)(p:Int×Int)(Q:V->Hp->Prop):Prop:=∀x e,au h e->h x=none->e x=some (.tup [.int p.1,.int p.2])->Q (.ref x) e
theorem PL.last(L:PL j h i f):(i=[]/\f=[])\/∃g x,i=g++[.ref x]/\j x=none/\h x=some (.tup [.int (g7 f).1,.int (g7 f).2]):=by
 induction L with
 |nil=>exact .inl ⟨rfl,rfl⟩
 | @cons x p i f a b L k =>
  rcases k with ⟨rfl,rfl⟩ |⟨g,y,rfl,a2,F⟩
  ·exact .inr (cb [] x rfl a b)
  ·refine .inr (cb (.ref x::g) y rfl a2 ?_);have e:g7 (p::f)=g7 f:=by
    induction f with
    |nil=>exact absurd L.length (by simp)
    |cons q f=>unfold g7;exact rE (List.getLast?_cons_cons) rfl
   refine rE e ?_;exact F
theorem Jb(M:h a=some (.inst c fs))(R:eP look (.inst c fs) a .cL (.own g a))(S:∀i,j9 h j i->runs n g [.ref a,.int p,.int mo] h i E)(q:Ja h (g7 j) Q):runs (n+1) .rD [.ref a,.int p,.int mo] h Q E:=by
 refine aY (bR (bS (os:=[]) (os2:=[]) rfl tT M R rfl tT (S _ λf T e L=>?_)));refine L.elim λs F W=>?_;refine cG (cC (oa ?_));refine W.last.elim (λw=>?_) λw=>w.elim λK w=>w.elim λx w=>?_
 ·rw[w.1] at F;refine aZ (os:=[.o (.list [])]) rfl F (λy=>absurd y (by decide)) λy=>aM (lf (os:=[]) rfl tT λx X k m o=>q x X (e.trans k) (eh e m) ?_);refine rE w.2 ?_;exact o
 ·rw[w.1] at F;exact aZ (os:=[Ht.o (O.list (K++[V.ref x]))]) rfl F (λy=>aU (aG (os:=[Ht.o (O.list (K++[V.ref x])),Ht.g (V.ref x)]) rfl (jj F sy) (q x T e w.2.1 w.2.2))) λy=>absurd (by refine rE cA ?_;exact aS.mpr (hK _)) y
theorem dP.off(R:dP h r d b t s u){x:Nat}{c:Cl}{fs:M}(F:h x=some (.inst c fs)):¬eV d b x:=λz=>by
 refine bL R.d λm f K e K=>?_;obtain⟨B,⟨S,O,_⟩,_⟩:=R.b;rcases z with z |z
 ·rw[z,e] at F;exact nomatch F
 ·rw[z,O] at F;exact nomatch F
theorem ZF(F:h a=some (jt t l w ch (u+1) r))(R:dP h r d b t l u)(K:d≠b)(M:l<=4)(O:u<t.length)(S:t.length<=100)(q:∀e,ae (eV d b) h e->Fin e a r d b t l w ch (u+1)->Q .none e):runs (n+3) .EE [.ref a,.int u] h Q E:=by
 refine aY (bH (bS (os:=[.o (jt t l w ch (u+1) r)]) (os2:=[]) rfl F R.x (.own rfl rfl) rfl tT (AE R K M O S λe p T=>q e p ⟨p a _ F (R.off F),T,K⟩)))
end
noncomputable def bD(t:List UInt8)(F p:Nat)(z:Nat):Nat:=ext (cc t) p z (min F (t.length - p))
noncomputable def bQ(t:List UInt8)(l w F p:Nat):List (Int×Int):=R (bD t F p) p (p - w) p (l - 1)
section
variable{t:List UInt8}{l w ch u p mo z k s:Nat}
theorem mB(h:p+s<=t.length):key (cc t) t.length s p=some (num (cc t) p s):=if_pos h
theorem AJ(h:t.length<p+s):key (cc t) t.length s p=none:=if_neg (iW.mpr h)
theorem Jc(K:p+s<=t.length)(F:z+s<=t.length):cI t s (num (cc t) p s) z=true<->Ag (cc t) p z s:=by
 rw[sC,mB F,←I1 (λM=>Aj) (λM=>Ai) s K F];exact⟨λe=>(bq e).symm,λe=>congrArg some e.symm⟩
theorem vM(F:p+l<=t.length)(K:z<p)(M:1<=l)(h:cI t l (num (cc t) p l) z=false):bD t mo p z<=l - 1:=by
 refine c6 λy=>?_
 rw[(Jc F (ah (dS (aO K) l) F)).mpr (ic.le (show l<=ext (cc t) p z _ from NB y))] at h;exact df h
theorem Jd(F:p+l<=t.length)(K:z<p)(M:l<=mo)(h:cI t l (num (cc t) p l) z=true):l<=bD t mo p z :=
 Ix ((Jc F (ah (dS (aO K) l) F)).mp h) (iX.mpr ⟨M,NC (by rw[gJ];exact F)⟩)
theorem wb(h:min mo (t.length - p)<l):bQ t l w mo p=[]:=vt λz F F=>ah eC (ND h)
theorem Je(M:1<=l)(F:p<=u)(K:u<=ch):Rl (bD t mo p) p (eD t l w ch u p) (l - 1)=bQ t l w mo p:=by
 unfold eD;by_cases h:p+l<=t.length
 ·refine rE (mB h) ?_;dsimp only;refine rE (jC F) (rE (List.take_of_length_le (ah (Az _) (ah F K))) ?_);exact pX λz R O e=>vM h O M e
 ·refine rE (AJ (iW.mp h)) (rE (wb (aV (gI _ _) (by exact nj λy=>h (Ep M y)))) ?_);rfl
theorem AK(K:1<=l)(M:p<=u):Rl (bD t mo p) p (eD t l w 1 u p) (l - 1)=(bQ t l w mo p).take 1:=by
 by_cases F:min mo (t.length - p)<l
 ·refine rE (wb F) ?_;exact AG (f:=bD t mo p) λz=>ah eC (ND F)
 ·have F:=iX.mp (c8.mp F);have h:p+l<=t.length:=by exact Ep K F.2
  unfold eD;refine rE (mB h) ?_;dsimp only;refine rE (jC M) ?_;exact Zs (λz R O e=>vM h O K e) λz R O e=>bn (ly K mO) (Jd h O F.1 e)
end
def CM(n a:Nat)(m:Nm)(F:List V)(h:Hp)(Q:V->Hp->Prop)(E:Ex->Hp->Prop):Prop:=∃c b g,h a=some (.inst c b)/\eP look (.inst c b) a m (.own g a)/\runs n g (.ref a::F) h Q E
structure FS(n a:Nat)(F:Nat->Prop)(t:List UInt8)(mo:Nat)(All:Nat->List (Int×Int))(S:Nat->Hp->Prop):Prop where
 keep:∀ {u:Nat} {h h':Hp} {G:Nat->Prop},S u h->ae G h h'->(∀x,F x->¬G x)->S u h'
 own:∀ {u:Nat} {h:Hp} {x:Nat},S u h->F x->h x≠none
 cL:∀ {u:Nat} {h:Hp} {Q:V->Hp->Prop} {E:Ex->Hp->Prop},S u h->u<t.length->j9 h (All u) Q->CM n a .cL [.int u,.int mo] h Q E
 put:∀ {u:Nat} {h:Hp} {Q:V->Hp->Prop} {E:Ex->Hp->Prop},S u h->u<t.length->(∀h',ae F h h'->S (u+1) h'->Q .none h')->CM n a .put [.int u] h Q E
def ka(a r d b x:Nat):Prop:=x=a\/x=r\/eV d b x
section
variable{n:Nat}{h:Hp}{Q:V->Hp->Prop}{E:Ex->Hp->Prop}{a r d b l w ch u p mo:Nat}{t:List UInt8}
theorem Fin.qa(R:Fin h a r d b t l w ch u){F:Hp}{G:Nat->Prop}(p:ae G h F)(k:∀x,ka a r d b x->¬G x):Fin F a r d b t l w ch u :=
 ⟨p _ _ R.x (k _ (.inl rfl)),R.row.keep p (k _ (.inr (.inl rfl))) (k _ (.inr (.inr (.inl rfl)))) (k _ (.inr (.inr (.inr rfl)))),R.ne⟩
theorem dP.at(R:dP h r d b t s u){x:Nat}(F:x=r\/eV d b x):h x≠none:=by
 refine bL R.d λm f K e K=>?_;obtain⟨B,⟨O,M,_⟩,_⟩:=R.b;rcases F with z |z |z
 ·refine rE z (rE R.x ?_);nofun
 ·refine rE z (rE e ?_);nofun
 ·refine rE z (rE M ?_);nofun
theorem Jf(R:Fin h a r d b t l w ch u)(M:l<=4)(K:u<t.length)(O:t.length<=100)(q:∀c,ae (ka a r d b) h c->Fin c a r d b t l w ch (u+1)->Q .none c):runs (n+4) .iy [.ref a,.int u] h Q E:=by
 have F:r≠a:=gz R.row.x R.x nofun;refine sG R.x (.field rfl rfl) (.field rfl rfl) rfl (show 6<100 by decide) (λx=>.own rfl rfl) (λS S c p e=>?_) λy=>absurd ⟨hM _,aS.mpr K⟩ y;refine ZF (r:=r) (l:=l) (w:=w) (ch:=ch) e (R.row.keep p F (λz=>R.row.off R.x (.inl z.symm)) λz=>R.row.off R.x (.inr z.symm)) R.ne M K O λT V W=>q T ((p.mono λx z=>.inl z).trans (V.mono λx z=>.inr (.inr z))) W
theorem AL(F:1<=l)(K:l<=4)(M:t.length<=100)(O:∀p,p<t.length->Rl (bD t mo p) p (eD t l w ch p p) (l - 1)=e p):FS (n+4) a (ka a r d b) t mo e λu h=>Fin h a r d b t l w ch u where
 keep R p k:=R.qa p k
 own R z:=z.elim (λz=>by refine rE z (rE R.x ?_);nofun) R.row.at
 cL R c q:=(fK _ _ _ R.x (.own rfl rfl) (I' R F K (aO c) M c (by rw[←O _ c] at q;exact q)))
 put R c q:=(fK _ _ _ R.x (.own rfl rfl) (Jf R K c M q))
theorem ZG(K:1<=l)(W:1<=w)(X:1<=ch)(f:t.length<=100)(g:h a=some (.inst .fL m0))(q:∀c r d b,ae (·=a) h c->Fin c a r d b t l w ch 0->(∀x,x=r\/eV d b x->h x=none)->Q .none c):
  runs (n+2) .xX [.ref a,.bytes t,.int l,.int w,.int ch] h Q E:=by
 refine aY (bH (mv (os:=[]) rfl rfl tT (mA g ⟨rfl,rfl,rfl,rfl,rfl⟩ (λM M M i p1 a1=>?_) λy=>absurd (aH (bt.mpr K) (bt.mpr W) (bt.mpr X)) y)));refine iH (vL (os:=[.o (.inst .fL (j' t l w ch 0))]) K f rfl a1 λr d b s O j e R S T=>iM (os:=[]) rfl tT (O.at a1) rfl (show 5<100 by decide) λk V m=>?_);have F:∀x,i x=none->x≠a:=λx z=>(fresh_ne a1 z).symm;exact q k r d b ((p1.trans (O.mono λM z=>z.elim)).trans V) ⟨m,j.keep V (F _ R) (F _ S) (F _ T),e⟩ λx o=>j6 p1 a1 (o.elim (λz=>z▸R) λz=>z.elim (λz=>z▸S) λz=>z▸T)
theorem vN{E:PE}(M:1<=l)(O:1<=w)(S:1<=ch)(T:t.length<=100)(V:dN g m i os=some ([.bytes t,.int l,.int w,.int ch],[],f))(W:bd h f)
  (q:∀a r d b c,au h c->Fin c a r d b t l w ch 0->(∀x,ka a r d b x->h x=none)->P (.ref a) c m):ev look ac (runs (n+2)) g (.bN .fL i) h m P E :=
 mu rfl V W λa K=>ZG M O S T Hp.set_same λc r d b p R k=>jj rfl (q a r d b c (λx o z X=>p x o ((Hp.cJ (fresh_ne z K)).trans z) (fresh_ne z K)) R λx z=>z.elim (λe=>e▸K) λz=>back (ae.new (F:=λX=>False) K) (λz=>z.elim) (k x z))
end
def Lt(c:Nat->Nat)(a b:Nat):Prop:=∃k,Ag c a b k/\c (a+k)<c (b+k)
section
variable{c:Nat->Nat}
theorem Lt.trans(F:Lt c a b)(G:Lt c b d):Lt c a d:=by
 refine ak F λk K O=>ak G λj M R=>?_;rcases Nat.lt_trichotomy k j with e |e |e
 ·exact(aq k (K.trans (M.le (aO e))) (by refine rF (M k e) ?_;exact O))
 ·subst e;exact(aq k (K.trans M) (cZ O R))
 ·exact(aq j ((K.le (aO e)).trans M) (by refine rE (K j e) ?_;exact R))
theorem Lt.asymm(h:Lt c a b)(g:Lt c b a):False:=ak (h.trans g) λk F e=>gK _ e
theorem AM(F:Lt c lo y)(G:Lt c y b)(a:Ag c lo b m):Ag c lo y m:=by
 refine ak F λk O R=>ak G λj S K=>?_;refine O.le (c6 λe=>?_);rcases BJ j k with z |z
 ·have:=a j (cZ z e);rw[O j z] at this;exact cK K this
 ·have M:=a k e;rcases fX z with z |z
  ·rw[←S k z] at M;exact cK R M
  ·subst z;rw[←M] at K;exact Nat.lt_asymm R K
end
inductive T where
 |nil |node (l:T) (x:Nat) (r:T)
def T.mem(z:Nat):T->Prop
 |.nil=>False
 |.node l x r=>z=x\/T.mem z l\/T.mem z r
abbrev Ar:=Nat×Bool->Int
noncomputable def Ar.set(A:Ar)(k:Nat×Bool)(v:Int):Ar:=λj=>if j=k then v else A j
theorem Ar.same{A:Ar}{k:Nat×Bool}{v:Int}:A.set k v k=v:=if_pos rfl
theorem Ar.ne{A:Ar}{k j:Nat×Bool}{v:Int}(h:j≠k):A.set k v j=A j:=if_neg h
def cO(A:Ar)(lo:Nat):T->Int->Prop
 |.nil,v=>-1<=v/\v<lo
 |.node l x r,v=>v=x/\cO A lo l (A (x,false))/\cO A lo r (A (x,true))
def Ok(c:Nat->Nat)(F:Nat->Nat):T->Prop
 |.nil=>True
 |.node l x r=>Ok c F l/\Ok c F r/\(∀z,l.mem z->z<x/\Lt c (F z) (F x))/\∀z,r.mem z->z<x/\Lt c (F x) (F z)
section
variable{A A':Ar}{lo lo':Nat}
theorem cO.mono(h:lo<=lo'):∀ {t:T} {v:Int},cO A lo t v->cO A lo' t v
 |.nil,v,k=>⟨k.1,fW k.2 (bt.mpr h)⟩
 |.node l x r,v,k=>(aH k.1 (cO.mono h k.2.1) (cO.mono h k.2.2))
theorem cO.frame:∀ {t:T} {v:Int},cO A lo t v->(∀z g,t.mem z->A' (z,g)=A (z,g))->cO A' lo t v
 |.nil,v,k,_=>k
 |.node l x r,v,k,e=>(aH k.1 (by refine rE (e x _ (.inl rfl)) ?_;exact cO.frame k.2.1 λz g h=>e z g (.inr (.inl h))) (by refine rE (e x _ (.inl rfl)) ?_;exact cO.frame k.2.2 λz g h=>e z g (.inr (.inr h))))
theorem cO.ge{v:Int}(h:cO A lo t v):-1<=v:=by
 induction t with
 |nil=>exact h.1
 |node l x r=>refine rE h.1 ?_;exact dT (by decide) (b9 x)
theorem cO.node{x:Nat}(h:cO A lo t x)(F:lo<=x):∃l r,t=.node l x r/\cO A lo l (A (x,false))/\cO A lo r (A (x,true)):=by
 induction t with
 |nil=>exact absurd (aS.mp h.2) (c8.mpr F)
 |node l y r=>refine rE (lM.mp h.1) ?_;exact(de l r rfl h.2)
end
section
variable{c κ:Nat->Nat}
theorem Ok.le(h:Ok c κ (.node l x r))(m:(T.node l x r).mem z):z<=x :=
 m.elim (λe=>d8 e) λm=>m.elim (λm=>aO (h.2.2.1 z m).1) λm=>aO (h.2.2.2 z m).1
structure ei(c κ:Nat->Nat)(N q lim:Nat)(t:T)(u lc hc:Nat):Prop where
 ok:Ok c κ t
 al:∀z,t.mem z->Ag c z (κ z) (N - z)
 lt:∀z,t.mem z->z<u
 vO:lc<=lim
 hcl:hc<=lim
 lo:lc=0\/∃b,Ag c q b lc/\∀z,t.mem z->Lt c b (κ z)
 hi:hc=0\/∃b,Ag c q b hc/\∀z,t.mem z->Lt c (κ z) b
variable{N q lim u lc hc x:Nat}{t l r:T}
theorem ei.key(h:ei c κ N q lim t u lc hc)(F:u<=q)(K:lim<=N - q){k:Nat}(m:t.mem x)(M:k<=lim):Ag c x (κ x) k:=(h.al x m).le (ah M (ah K (tS (ah (aO (h.lt x m)) F) N)))
theorem ei.known(h:ei c κ N q lim t u lc hc)(K:u<=q)(M:lim<=N - q)(m:t.mem x):Ag c q x (min lc hc):=by
 rcases h.lo with e |⟨b,F,a⟩
 ·rw[e,Nat.zero_min];exact Ag.zero
 ·rcases h.hi with e |⟨d,f,g⟩
  ·rw[e,Nat.min_zero];exact Ag.zero
  ·have F:=F.le (eG lc hc);have k:=AM (a x m) (g x m) (F.symm.trans (f.le (gI lc hc)));exact(F.trans k).trans (h.key K M m (ah (eG lc hc) h.vO)).symm
theorem ei.less(h:ei c κ N q lim t u lc hc)(F:u<=q)(K:lim<=N - q)(m:t.mem x)(M:ext c q x lim<lim)(e:c (x+ext c q x lim)<c (q+ext c q x lim)):Lt c (κ x) q:=by
 have k:=h.key F K m M;exact(aq _ ((k.le (dc _)).symm.trans ic.symm) (by refine rF (k _ (c7 _)) ?_;exact e))
theorem ei.more(h:ei c κ N q lim t u lc hc)(K:u<=q)(M:lim<=N - q)(m:t.mem x)(F:ext c q x lim<lim)(e:¬c (x+ext c q x lim)<c (q+ext c q x lim)):Lt c q (κ x):=by
 have k:=h.key K M m F;exact(aq _ ((ic (p:=q)).trans (k.le (dc _))) (by refine rF (k _ (c7 _)) ?_;exact q7 (c6 e) (vq F)))
theorem ei.right(h:ei c κ N q lim (.node l x r) u lc hc)(F:u<=q)(K:lim<=N - q)(S:ext c q x lim<lim)(e:c (x+ext c q x lim)<c (q+ext c q x lim)):ei c κ N q lim r x (ext c q x lim) hc :=
 ⟨h.ok.2.1,λz m=>h.al z (.inr (.inr m)),λz m=>(h.ok.2.2.2 z m).1,eC,h.hcl,.inr ⟨κ x,(ic (p:=q)).trans (h.key F K (.inl rfl) eC),λz m=>(h.ok.2.2.2 z m).2⟩,h.hi.imp id λM=>ak M λb O R=>⟨b,O,λz m=>R z (.inr (.inr m))⟩⟩
theorem ei.left(h:ei c κ N q lim (.node l x r) u lc hc)(F:u<=q)(K:lim<=N - q):ei c κ N q lim l x lc (ext c q x lim) :=
 ⟨h.ok.1,λz m=>h.al z (.inr (.inl m)),λz m=>(h.ok.2.2.1 z m).1,h.vO,eC,h.lo.imp id λM=>ak M λb O R=>⟨b,O,λz m=>R z (.inr (.inl m))⟩,.inr ⟨κ x,(ic (p:=q)).trans (h.key F K (.inl rfl) eC),λz m=>(h.ok.2.2.1 z m).2⟩⟩
theorem ei.past(h:ei c κ N q lim t u lc hc)(O:u<=q)(R:lim<=N - q){y:Nat}(S:t.mem x)(T:t.mem y)(k:(Lt c (κ y) (κ x)/\Lt c (κ x) q)\/(Lt c (κ x) (κ y)/\Lt c q (κ x))):ext c q y lim<=ext c q x lim:=by
 refine c6 λe=>?_
 have F:ext c q x lim+1<=lim:=ah e eC;have a:Ag c q (κ y) (ext c q x lim+1):=(ic.le e).trans (h.key O R T F);have b:Ag c q (κ x) (ext c q x lim+1):=by
  rcases k with ⟨K,M⟩ |⟨K,M⟩
  ·exact a.trans (AM K M a.symm)
  ·exact AM M K a
 exact vq F ((b.trans (h.key O R S F).symm) _ (c7 _))
def g8(f:Nat->Nat)(lo:Nat)(t:T)(u m:Nat):Prop:=∀z,lo<=z->z<u->f z<=m\/∃y,t.mem y/\z<=y/\f z=f y
variable{f:Nat->Nat}{lo m m':Nat}
theorem g8.top(h:g8 f lo (.node l x r) u m)(k:Ok c κ (.node l x r)):∀z,lo<=z->x<z->z<u->f z<=m:=λz F K M =>
 (h z F M).elim id λO=>cr O λy R S T=>absurd (ah S (k.le R)) (iW.mpr K)
theorem g8.right(h:ei c κ N q lim (.node l x r) u lc hc)(O:u<=q)(R:lim<=N - q)(C:g8 (λz=>ext c q z lim) lo (.node l x r) u m)(S:m<=m')(M:ext c q x lim<=m')(k:Lt c (κ x) q):g8 (λz=>ext c q z lim) lo r x m':=λz T V =>
 (C z T (cZ V (h.lt x (.inl rfl)))).elim (λe=>.inl (ah e S)) λW=>cr W λy F X K=>F.elim (λe=>.inl (by rw[K,e];exact M)) λF=>F.elim (λF=>.inl (by rw[K];exact ah (h.past O R (.inl rfl) (.inr (.inl F)) (.inl ⟨(h.ok.2.2.1 y F).2,k⟩)) M)) λF=>.inr ⟨y,F,X,K⟩
theorem g8.left(h:ei c κ N q lim (.node l x r) u lc hc)(O:u<=q)(R:lim<=N - q)(C:g8 (λz=>ext c q z lim) lo (.node l x r) u m)(S:m<=m')(M:ext c q x lim<=m')(k:Lt c q (κ x)):g8 (λz=>ext c q z lim) lo l x m':=λz T V =>
 (C z T (cZ V (h.lt x (.inl rfl)))).elim (λe=>.inl (ah e S)) λW=>cr W λy F X K=>F.elim (λe=>.inl (by refine rE K (rE e ?_);exact M)) λF=>F.elim (λF=>.inr ⟨y,F,X,K⟩) λF=>.inl (by refine rE K ?_;exact ah (h.past O R (.inl rfl) (.inr (.inr F)) (.inr ⟨(h.ok.2.2.2 y F).2,k⟩)) M)
theorem g8.dead{v:Int}{p:Nat}(k:Ok c κ t)(h:cO A lo t v)(F:v<lo)(C:g8 f lo t u m):R f p lo u m=[]:=vt λz K O=>(C z K O).elim id λS=>cr S λy M T V=>by
 induction t with
 |nil=>exact M.elim
 |node l x r =>
  rw[h.1] at F;exact absurd (ah (ah K T) (k.le M)) (iW.mpr (aS.mp F))
noncomputable def sH(f:Nat->Nat)(less:Nat->Bool)(F lo:Nat):T->T×T
 |.nil=>(.nil,.nil)
 |.node l x r=>if x<lo then (.nil,.nil) else if f x=F then (l,r) else
  (match less x with |true=>(.node l x (sH f less F lo r).1,(sH f less F lo r).2) |false=>((sH f less F lo l).1,.node (sH f less F lo l).2 x r))
end
section
variable{c κ:Nat->Nat}{N p lo x:Nat}{t l r:T}
noncomputable abbrev fF(c:Nat->Nat)(N p:Nat)(z:Nat):Nat:=ext c p z (N - p)
noncomputable def AN(c:Nat->Nat)(N p:Nat)(z:Nat):Bool:=decide (c (z+fF c N p z)<c (p+fF c N p z))
noncomputable abbrev split(c:Nat->Nat)(N p lo:Nat)(t:T):T×T:=sH (fF c N p) (AN c N p) (N - p) lo t
theorem Jg(h:x<lo):split c N p lo (.node l x r)=(.nil,.nil):=if_pos h
theorem AO(h:¬x<lo)(e:fF c N p x=N - p):split c N p lo (.node l x r)=(l,r):=(if_neg h).trans (if_pos e)
theorem AP(h:¬x<lo)(e:fF c N p x≠N - p)(k:c (x+fF c N p x)<c (p+fF c N p x)):split c N p lo (.node l x r)=(.node l x (split c N p lo r).1,(split c N p lo r).2) :=
 ((if_neg h).trans (if_neg e)).trans (by rw[show AN c N p x=true from decide_eq_true k])
theorem AQ(h:¬x<lo)(e:fF c N p x≠N - p)(k:¬c (x+fF c N p x)<c (p+fF c N p x)):split c N p lo (.node l x r)=((split c N p lo l).1,.node (split c N p lo l).2 x r) :=
 ((if_neg h).trans (if_neg e)).trans (by rw[show AN c N p x=false from decide_eq_false k])
structure ZH(c κ:Nat->Nat)(N p lo:Nat)(t:T)(ab:T×T)(K:Nat):Prop where
 key:Ag c p K (N - p)
 lt:∀z,ab.1.mem z->t.mem z/\Lt c (κ z) K
 gt:∀z,ab.2.mem z->t.mem z/\Lt c K (κ z)
 AR:Ok c κ ab.1
 AS:Ok c κ ab.2
 iN:∀z,t.mem z->lo<=z->ab.1.mem z\/ab.2.mem z\/Ag c p z (N - p)
theorem BE:∀ {t:T} {u:Nat},ei c κ N p (N - p) t u 0 0->u<=p->∃K,ZH c κ N p lo t (split c N p lo t) K
 |.nil,u,h,g=>⟨p,λV V=>rfl,λz m=>m.elim,λz m=>m.elim,tT,tT,λz m=>m.elim⟩
 |.node l x r,u,h,g=>by
  have W:=h.lt x (.inl rfl);have O:x<=p:=ah (aO W) g;have F:Ag c x (κ x) (N - p):=(h.al x (.inl rfl)).le (tS O N);by_cases d:x<lo
  ·refine rE (Jg d) ?_;exact⟨p,λV V=>rfl,λz m=>m.elim,λz m=>m.elim,tT,tT,λz m R=>absurd (ah R (h.ok.le m)) (iW.mpr d)⟩
  ·by_cases f:fF c N p x=N - p
   ·refine rE (AO d f) ?_;have a:Ag c p x (N - p):=by have:=ic (c:=c) (p:=p) (o:=x) (l:=N - p);rw[show ext c p x (N - p)=N - p from f] at this;exact this
    exact⟨κ x,a.trans F,λz m=>⟨.inr (.inl m),(h.ok.2.2.1 z m).2⟩,λz m=>⟨.inr (.inr m),(h.ok.2.2.2 z m).2⟩,h.ok.1,h.ok.2.1,λz m V=>m.elim (λe=>.inr (.inr (by refine rE e ?_;exact a))) λm=>m.imp id .inl⟩
   ·have M:fF c N p x<N - p:=q7 eC f;by_cases b:c (x+fF c N p x)<c (p+fF c N p x)
    ·refine rE (AP d f b) ?_;have X:=h.less g (a6 _) (.inl rfl) M b;refine(BE (t:=r) (u:=x) ⟨h.ok.2.1,λz m=>h.al z (.inr (.inr m)),λz m=>(h.ok.2.2.2 z m).1,ca _,ca _,.inl rfl,.inl rfl⟩ O).elim λK P=>?_;have S:Lt c (κ x) K:=by
      refine(aq (fF c N p x) (((ic (p:=p)).trans (F.le (aO M))).symm.trans (P.key.le (aO M))) ?_);refine rF (F _ M) (rF (P.key _ M) ?_);exact b
     exact⟨K,P.key,λz m=>m.elim (λe=>⟨.inl e,e▸S⟩) λm=>m.elim (λm=>⟨.inr (.inl m),(h.ok.2.2.1 z m).2.trans S⟩) λm=>⟨.inr (.inr (P.lt z m).1),(P.lt z m).2⟩,λz m=>⟨.inr (.inr (P.gt z m).1),(P.gt z m).2⟩,(dE h.ok.1 P.AR h.ok.2.2.1 (λz m=>h.ok.2.2.2 z (P.lt z m).1)),P.AS,λz m R=>m.elim (λe=>.inl (.inl e)) λm=>m.elim (λm=>.inl (.inr (.inl m))) λm=>(P.iN z m R).imp (λm=>.inr (.inr m)) id⟩
    ·refine rE (AQ d f b) ?_;have X:=h.more g (a6 _) (.inl rfl) M b;refine(BE (t:=l) (u:=x) ⟨h.ok.1,λz m=>h.al z (.inr (.inl m)),λz m=>(h.ok.2.2.1 z m).1,ca _,ca _,.inl rfl,.inl rfl⟩ O).elim λK P=>?_;have S:Lt c K (κ x):=by
      refine(aq (fF c N p x) ((P.key.le (aO M)).symm.trans ((ic (p:=p)).trans (F.le (aO M)))) ?_);refine rF (F _ M) (rF (P.key _ M) ?_);exact q7 (c6 b) (vq M)
     exact⟨K,P.key,λz m=>⟨.inr (.inl (P.lt z m).1),(P.lt z m).2⟩,λz m=>m.elim (λe=>⟨.inl e,e▸S⟩) λm=>m.elim (λm=>⟨.inr (.inl (P.gt z m).1),(P.gt z m).2⟩) λm=>⟨.inr (.inr m),S.trans (h.ok.2.2.2 z m).2⟩,P.AR,(dE P.AS h.ok.2.1 (λz m=>h.ok.2.2.1 z (P.gt z m).1) h.ok.2.2.2),λz m R=>m.elim (λe=>.inr (.inl (.inl e))) λm=>m.elim (λm=>(P.iN z m R).imp id λm=>m.imp (λm=>.inr (.inl m)) id) λm=>.inr (.inl (.inr (.inr m)))⟩
structure fe(c:Nat->Nat)(N p lo:Nat)(A A':Ar)(hl hh:Nat×Bool)(t:T):Prop where
 r1:cO A' lo (split c N p lo t).1 (A' hl)
 r2:cO A' lo (split c N p lo t).2 (A' hh)
 keep:∀k,¬t.mem k.1->k≠hl->k≠hh->A' k=A k
variable{A A':Ar}{hl hh:Nat×Bool}{v:Int}
theorem fe.dead(h:cO A lo t v)(F:v<lo)(M:hl≠hh):fe c N p lo A ((A.set hl (-1)).set hh (-1)) hl hh t:=by
 have e:split c N p lo t=(.nil,.nil):=by
  induction t with
  |nil=>rfl
  |node l x r=>rw[h.1] at F;exact Jg (aS.mp F)
 have K:(-1:Int)<lo:=fW (by decide) (b9 lo);refine⟨by refine rE e (rE (Ar.ne M) (rE Ar.same ?_));exact⟨hM _,K⟩,by refine rE e (rE Ar.same ?_);exact⟨hM _,K⟩,λk O a b=>(Ar.ne b).trans (Ar.ne a)⟩
theorem fe.full(M:cO A lo l (A (x,false)))(O:cO A lo r (A (x,true)))(K:¬x<lo)(e:fF c N p x=N - p)(R:hl≠hh)(S:¬(T.node l x r).mem hl.1)(V:¬(T.node l x r).mem hh.1):
  fe c N p lo A ((A.set hl (A (x,false))).set hh (A (x,true))) hl hh (.node l x r):=by
 have F:∀z g,(T.node l x r).mem z->((A.set hl (A (x,false))).set hh (A (x,true))) (z,g)=A (z,g):=λz g m=>(Ar.ne λe=>V (by refine rF e ?_;exact m)).trans (Ar.ne λe=>S (by refine rF e ?_;exact m));refine⟨?_,?_,λk W a b=>(Ar.ne b).trans (Ar.ne a)⟩
 ·refine rE (AO K e) (rE (Ar.ne R) (rE Ar.same ?_));exact M.frame λz g m=>F z g (.inr (.inl m))
 ·refine rE (AO K e) (rE Ar.same ?_);exact O.frame λz g m=>F z g (.inr (.inr m))
theorem Ok.Jh(h:Ok c κ (.node l x r)){z:Nat}(m:l.mem z):¬r.mem z:=λk=>(h.2.2.1 z m).2.asymm (h.2.2.2 z k).2
theorem fe.less(k:Ok c κ (.node l x r))(X:cO A lo l (A (x,false)))(R:¬x<lo)(e:fF c N p x≠N - p)(S:c (x+fF c N p x)<c (p+fF c N p x))(d:hl≠hh)(M:¬(T.node l x r).mem hl.1)(f:¬(T.node l x r).mem hh.1)
  (F:fe c N p lo (A.set hl x) A' (x,true) hh r):fe c N p lo A A' hl hh (.node l x r):=by
 have h:¬r.mem x:=λm=>gK _ (k.2.2.2 x m).1;have O:¬r.mem hl.1:=λm=>M (.inr (.inr m));have K:∀z g,z=x/\g=false\/l.mem z->A' (z,g)=A (z,g):=λz g m=>by
  have V:(T.node l x r).mem z:=m.elim (λm=>.inl m.1) λm=>.inr (.inl m);have i:¬r.mem z:=m.elim (λm=>m.1▸h) k.Jh;refine(F.keep (z,g) i (λw=>?_) λw=>f (by refine rF w ?_;exact V)).trans (Ar.ne λw=>M (by refine rF w ?_;exact V));injection w with n W;rcases m with m |m
  ·rw[m.2] at W;exact a9 W
  ·rw[n] at m;exact gK _ (k.2.2.1 x m).1
 refine⟨?_,by refine rE (AP R e S) ?_;exact F.r2,λj m a b=>?_⟩
 ·refine rE (AP R e S) (rE (F.keep hl O (λw=>M (.inl (congrArg gT w))) d) (rE Ar.same ?_));exact(aH rfl (by refine rE (K x false (.inl ⟨rfl,rfl⟩)) ?_;exact X.frame λz g m=>K z g (.inr m)) F.r1)
 ·exact(F.keep j (λw=>m (.inr (.inr w))) (λw=>m (.inl (congrArg gT w))) b).trans (Ar.ne a)
theorem fe.more(k:Ok c κ (.node l x r))(X:cO A lo r (A (x,true)))(R:¬x<lo)(e:fF c N p x≠N - p)(S:¬c (x+fF c N p x)<c (p+fF c N p x))(d:hl≠hh)(f:¬(T.node l x r).mem hl.1)(M:¬(T.node l x r).mem hh.1)
  (F:fe c N p lo (A.set hh x) A' hl (x,false) l):fe c N p lo A A' hl hh (.node l x r):=by
 have h:¬l.mem x:=λm=>gK _ (k.2.2.1 x m).1;have O:¬l.mem hh.1:=λm=>M (.inr (.inl m));have K:∀z g,z=x/\g=true\/r.mem z->A' (z,g)=A (z,g):=λz g m=>by
  have V:(T.node l x r).mem z:=m.elim (λm=>.inl m.1) λm=>.inr (.inr m);have i:¬l.mem z:=m.elim (λm=>m.1▸h) λm w=>k.Jh w m;refine(F.keep (z,g) i (λw=>f (by refine rF w ?_;exact V)) λw=>?_).trans (Ar.ne λw=>M (by refine rF w ?_;exact V));injection w with n W;rcases m with m |m
  ·rw[m.2] at W;exact df W
  ·rw[n] at m;exact gK _ (k.2.2.2 x m).1
 refine⟨by refine rE (AQ R e S) ?_;exact F.r1,?_,λj m a b=>?_⟩
 ·refine rE (AQ R e S) (rE (F.keep hh O d.symm (λw=>M (.inl (congrArg gT w)))) (rE Ar.same ?_));exact(aH rfl F.r2 (by refine rE (K x true (.inl ⟨rfl,rfl⟩)) ?_;exact X.frame λz g m=>K z g (.inr m)))
 ·exact(F.keep j (λw=>m (.inr (.inl w))) a λw=>m (.inl (congrArg gT w))).trans (Ar.ne b)
end
structure TI(c:Nat->Nat)(N W s:Nat)(A:Ar)(root:Int)(k u:Nat)(κ:Nat->Nat)(t:T):Prop where
 rep:cO A (u - W) t root
 ok:Ok c κ t
 lt:∀z,t.mem z->z<u
 keys:∀z,t.mem z->key c N s z=some k
 al:∀z,t.mem z->Ag c z (κ z) (N - z)
 iN:∀z,u - W<=z->z<u->key c N s z=some k->∃y,t.mem y/\z<=y/\Ag c z y (N - y)
section
variable{c κ:Nat->Nat}{N W s k u:Nat}{A A':Ar}{root:Int}{t:T}
theorem TI.sb(h:TI c N W s A root k u κ t){F:Nat}:ei c κ N u F t u 0 0:=⟨h.ok,h.al,h.lt,ca _,ca _,.inl rfl,.inl rfl⟩
noncomputable def vP(κ:Nat->Nat)(u K:Nat)(z:Nat):Nat:=if z=u then K else κ z
theorem AT:vP κ u K u=K:=if_pos rfl
theorem mC(h:z≠u):vP κ u K z=κ z:=if_neg h
theorem TI.skip(h:TI c N W s A root k u κ t)(K:key c N s u≠some k)(e:∀z g,t.mem z->A' (z,g)=A (z,g)):TI c N W s A' root k (u+1) κ t :=
 ⟨(h.rep.mono (xx (dc u) W)).frame e,h.ok,λz m=>f6 (h.lt z m),h.keys,h.al,λz M O F=>h.iN z (ah (xx (dc u) W) M) ((fX (dA O)).resolve_right λw=>K (w▸F)) F⟩
theorem TI.put(h:TI c N W s A root k u κ t)(v:u<N)(j:key c N s u=some k)(F:fe c N u (u - W) A A' (u,false) (u,true) t):∃d n,TI c N W s A' u k (u+1) d n:=by
 refine(BE (lo:=u - W) h.sb (a6 u)).elim λK P=>?_;have X:∀z,t.mem z->z≠u:=λz m=>cK (h.lt z m);have f:∀ {s:T},(∀z,s.mem z->z≠u)->Ok c κ s->Ok c (vP κ u K) s:=λ{s}=>by
  induction s with
  |nil=>exact λM M=>trivial
  |node l x r o p =>
   intro a b;refine(dE (o (λz m=>a z (.inr (.inl m))) b.1) (p (λz m=>a z (.inr (.inr m))) b.2.1) (λz m=>⟨(b.2.2.1 z m).1,?_⟩) (λz m=>⟨(b.2.2.2 z m).1,?_⟩))
   ·refine rE (mC (a x (.inl rfl))) (rE (mC (a z (.inr (.inl m)))) ?_);exact(b.2.2.1 z m).2
   ·refine rE (mC (a x (.inl rfl))) (rE (mC (a z (.inr (.inr m)))) ?_);exact(b.2.2.2 z m).2
 have O:=λz m=>X z (P.lt z m).1;have R:=λz m=>X z (P.gt z m).1;have lo:u - W<=u+1 - W:=xx (dc u) W;refine⟨vP κ u K,.node (split c N u (u - W) t).1 u (split c N u (u - W) t).2,(aH rfl (F.r1.mono lo) (F.r2.mono lo)),(dE (f O P.AR) (f R P.AS) (λz m=>⟨h.lt z (P.lt z m).1,?_⟩) (λz m=>⟨h.lt z (P.gt z m).1,?_⟩)),λz m=>?_,λz m=>?_,λz m=>?_,λz g h2 q=>?_⟩
 ·refine rE AT (rE (mC (O z m)) ?_);exact(P.lt z m).2
 ·refine rE AT (rE (mC (R z m)) ?_);exact(P.gt z m).2
 ·exact m.elim (λe=>e▸c7 u) λm=>m.elim (λm=>f6 (h.lt z (P.lt z m).1)) λm=>f6 (h.lt z (P.gt z m).1)
 ·exact m.elim (λe=>e▸j) λm=>m.elim (λm=>h.keys z (P.lt z m).1) λm=>h.keys z (P.gt z m).1
 ·rcases m with e |m |m
  ·refine rE e (rE AT ?_);exact P.key
  ·refine rE (mC (O z m)) ?_;exact h.al z (P.lt z m).1
  ·refine rE (mC (R z m)) ?_;exact h.al z (P.gt z m).1
 ·rcases fX (dA h2) with h2 |h2
  ·refine cr (h.iN z (ah lo g) h2 q) λy i S V=>?_;rcases P.iN y i (ah (ah lo g) S) with m |m |m
   ·exact(bG y (.inr (.inl m)) S V)
   ·exact(bG y (.inr (.inr m)) S V)
   ·exact(bG u (.inl rfl) (aO h2) ((V.le (tS (aO (h.lt y i)) N)).trans m.symm))
  ·exact(bG u (.inl rfl) (d8 h2) (by refine rE h2 ?_;exact λM M=>rfl))
end
noncomputable def ZI(t:List UInt8)(l w F u r g s e:Nat):M:=[(.ba,some (.bytes t)),(.least,some (.int l)),(.bX,some (.int w)),(.chain,some (.int F)),(.ahead,some (.int u)),(.row,some (.ref r)),(.roots,some (.ref g)),(.smaller,some (.ref s)),(.greater,some (.ref e))]
noncomputable def dw(t:List UInt8)(l w F u r g s e:Nat):O:=.inst .fc (ZI t l w F u r g s e)
structure ig(h:Hp)(s e N:Nat)(A:Ar):Prop where
 sm:il h s N λz=>A (z,false)
 gr:il h e N λz=>A (z,true)
 ne:s≠e
section
variable{n:Nat}{h:Hp}{Q:V->Hp->Prop}{E:Ex->Hp->Prop}{a r d b l w ch u p mo g s e:Nat}{t:List UInt8}{A:Ar}
theorem il.elim{P:Prop}{N:Nat}{S:Nat->Int}(R:il h b N S)(k:∀c,h b=some (.list c)->c.length=N->(∀i,i<N->c[i]?=some (.int (S i)))->P):P:=cr R λc F K M=>k c F K M
theorem il.keep{N:Nat}{S:Nat->Int}(R:il h b N S){F:Nat->Prop}{K:Hp}(p:ae F h K)(k:¬F b):il K b N S:=cr R λM O T V=>(bG M (p _ _ O k) T V)
theorem ig.keep{N:Nat}(R:ig h s e N A){F:Nat->Prop}{K:Hp}(p:ae F h K)(k:∀x,eV s e x->¬F x):ig K s e N A:=⟨R.sm.keep p (k _ (.inl rfl)),R.gr.keep p (k _ (.inr rfl)),R.ne⟩
theorem ig.off{N:Nat}(R:ig h s e N A){x:Nat}{o:O}(F:h x=some o)(k:∀c,o≠.list c):¬eV s e x:=λz=>z.elim (λz=>R.sm.elim λc K M M=>by rw[z,K] at F;exact k c (bq F).symm) λz=>R.gr.elim λc K M M=>by rw[z,K] at F;exact k c (bq F).symm
theorem Ji{N i:Nat}{S:Nat->Int}{F:List V}{v:Int}(R:h b=some (.list F))(K:F.length=N)(M:∀i,i<N->F[i]?=some (.int (S i)))(O:i<N):il (h.set b (.list (F.set i (.int v)))) b N (upd S i v):=(bG _ Hp.set_same (by refine rE oP ?_;exact K) (I7 K M O rfl))
theorem il.vQ{N:Nat}{S F:Nat->Int}(R:il h b N S)(k:∀i,S i=F i):il h b N F:=cr R λK M O T=>(bG K M O (λi V=>by refine rF (k i) ?_;exact T i V))
theorem Jj(o:Nat)(g:Bool)(v:Int)(i:Nat):upd (λz=>A (z,g)) o v i=A.set (o,g) v (i,g):=by
 by_cases z:i=o
 ·exact rE z (rE pY (rE Ar.same rfl))
 ·exact rE (pZ z) (rE (Ar.ne λw=>z (congrArg gT w)) rfl)
theorem Jk{o i:Nat}{g F:Bool}{v:Int}(K:F≠g):A (i,F)=A.set (o,g) v (i,F):=(Ar.ne λw=>K (congrArg Prod.snd w)).symm
theorem qb{o:Nat}{T v:Int}{V:Bool}(W:h a=some (dw t l w ch u r g s e))(R:ig h s e t.length A)(K:T=o/\o<t.length)(q:∀c,ae (eV s e) h c->ig c s e t.length (A.set (o,V) v)->Q .none c):runs (n+1) .EG [.ref a,.int T,.bool V,.int v] h Q E:=by
 refine rp K λK=>?_
 refine aY (aT (g6 (os:=[]) rfl tT (λz=>aU ?_) λz=>aM ?_))
 ·subst z;refine R.gr.elim λX M O S=>j4 (os:=[]) (o1:=[.o (dw t l w ch u r g s e)]) (o2:=[]) rfl tT rfl W rfl tT (oi M (b9 _) (by refine rE O ?_;exact aS.mpr K) (aR (q _ (ae.set (.inr rfl)) ⟨(R.sm.keep (ae.set (F:=(·=e)) rfl) R.ne).vQ λi=>Jk a9,(Ji M O S K).vQ (Jj o true v),R.ne⟩)))
 ·subst z;refine R.sm.elim λX M O S=>j4 (os:=[]) (o1:=[.o (dw t l w ch u r g s e)]) (o2:=[]) rfl tT rfl W rfl tT (oi M (b9 _) (by refine rE O ?_;exact aS.mpr K) (aR (q _ (ae.set (.inl rfl)) ⟨(Ji M O S K).vQ (Jj o false v),(R.gr.keep (ae.set (F:=(·=s)) rfl) R.ne.symm).vQ λi=>Jk df,R.ne⟩)))
structure PS where
 A:Ar
 v:Int
 ol:Int
 gl:Bool
 lc:Nat
 oh:Int
 gh:Bool
 hc:Nat
 st:Nat
 c:Option V
noncomputable abbrev PS.A1(x:PS)(v:Int):Ar:=x.A.set (x.ol.toNat,x.gl) v
noncomputable abbrev PS.A2(x:PS)(v w:Int):Ar:=(x.A1 v).set (x.oh.toNat,x.gh) w
structure PJ(c:Nat->Nat)(N p w ch:Nat)(J:PS->Prop)(Post:Ar->Prop):Prop where
 lt:∀x,J x->(x.ol=x.ol.toNat/\x.ol.toNat<N)/\(x.oh=x.oh.toNat/\x.oh.toNat<N)
 here:∀x,J x->x.st<ch->x.v≠-1->p - x.v<=w->∃y:Nat,x.v=y/\y<p/\min x.lc x.hc<=N - p/\Ag c p y (min x.lc x.hc)
 full:∀(x:PS) (y:Nat),J x->x.st<ch->x.v=y->p - x.v<=w->fF c N p y=N - p->Post (x.A2 (x.A (y,false)) (x.A1 (x.A (y,false)) (y,true)))
 less:∀(x:PS) (y:Nat),J x->x.st<ch->x.v=y->p - x.v<=w->fF c N p y≠N - p->c (y+fF c N p y)<c (p+fF c N p y)->J ⟨x.A1 x.v,x.A1 x.v (y,true),x.v,true,fF c N p y,x.oh,x.gh,x.hc,x.st+1,some (.int (fF c N p y))⟩
 more:∀(x:PS) (y:Nat),J x->x.st<ch->x.v=y->p - x.v<=w->fF c N p y≠N - p->¬c (y+fF c N p y)<c (p+fF c N p y)->J ⟨x.A.set (x.oh.toNat,x.gh) x.v,x.A.set (x.oh.toNat,x.gh) x.v (y,false),x.ol,x.gl,x.lc,x.v,false,fF c N p y,x.st+1,some (.int (fF c N p y))⟩
 stop:∀x,J x->¬(x.v≠-1/\p - x.v<=w/\x.st<ch)->Post (x.A2 (-1) (-1))
noncomputable def Jl(a p:Nat)(F:Int)(x:PS):M:=[(.self,some (.ref a)),(.am,some (.int p)),(.other,some (.int x.v)),(.limit,some (.int F)),(.steps,some (.int x.st)),(.low,some (.int x.ol)),(.lQ,some (.bool x.gl)),(.iZ,some (.int x.lc)),(.high,some (.int x.oh)),(.lR,some (.bool x.gh)),(.i0,some (.int x.hc)),(.count,x.c)]
theorem ZJ{J:PS->Prop}{W:Ar->Prop}{v:Int}(P:h a=some (dw t l w ch u r g s e))(R:ig h s e t.length A)(U:p<t.length)(K:PJ (cc t) t.length p w ch J W)(j:J ⟨A,v,p,false,0,p,true,0,0,none⟩)
  (q:∀c A',ae (eV s e) h c->ig c s e t.length A'->W A'->Q .none c):runs (n+3) .EI [.ref a,.int p,.int v] h Q E:=by
 have Y:(t.length:Int) - p=((t.length - p:Nat):Int):=by exact rk (aO U)
 refine aY (j5 (os:=[.o (dw t l w ch u r g s e)]) rfl P λh1 e1=>j5 (os:=[]) rfl tT λh2 e2=>j5 (os:=[]) rfl tT λh3 e3=>?_);have E3:=(e1.trans e2).trans e3;refine mw (Jl a p ((t.length:Int) - p)) (λx=>ch - x.st) (λx c=>J x/\ae (eV s e) h c/\ig c s e t.length x.A) ⟨A,v,p,false,0,p,true,0,0,none⟩ (aH j (E3.mono λX z=>z.elim) (R.keep E3 λX X z=>z)) λx c I R' hR=>?_;have F:=I.2.1 _ _ P (R.off P nofun);have C:=K.lt x I.1;have stop:¬(x.v≠-1/\(p:Int) - x.v<=w/\x.st<ch)->aE look ac (runs (n+2)) [] [.expr (.ay (.aa .self) .ky [.aa .low,.aa .lQ,.dF .f8]),.expr (.ay (.aa .self) .ky [.aa .high,.aa .lR,.dF .f8])] c (Jl a p ((t.length:Int) - p) x) (fQ Q) (fE E):=λk =>
  bH (bS (os:=[]) (os2:=[]) rfl tT F (.own rfl rfl) rfl tT (qb F I.2.2 C.1 λZ M f =>
   bH (bS (os:=[]) (os2:=[]) rfl tT (M _ _ F (I.2.2.off F nofun)) (.own rfl rfl) rfl tT (qb (M _ _ F (I.2.2.off F nofun)) f C.2 λm O T=>q m _ ((I.2.1.trans M).trans O) T (K.stop x I.1 k)))))
 refine fU (ss (os:=[]) (os2:=[]) rfl tT F (.own rfl rfl) rfl tT (sB (w:=w) F (.field rfl rfl) (λz1 L=>pV ?_) λz=>Au (aM (stop λk=>z ⟨k.1,k.2.1⟩))));refine aZ (os:=[.o (dw t l w ch u r g s e)]) rfl F (λS=>aU ?_) λS=>aM (stop λk=>S (aS.mpr k.2.2));have S:x.st<ch:=aS.mp S;refine(K.here x I.1 S z1 L).elim λy k=>?_;have N:y<t.length:=cZ k.2.1 U;have i:p+(t.length - p)<=t.length:=d8 (BI (aO U));refine Ap (os:=[]) rfl rfl tT ?_;refine bR (bS (os:=[]) (os2:=[]) rfl tT F (.own rfl rfl) rfl tT (AB (t:=t) F (.field rfl rfl) rfl k.1 Aw Y k.2.2.1 i (aO k.2.1) k.2.2.2 ?_));refine I.2.2.sm.elim λvs s1 s2 s3=>I.2.2.gr.elim λws w1 w2 w3=>?_;have gs:=js k.1 (s3 y N);refine aT (aZ (os:=[]) rfl tT (λV=>aU ?_) λV=>aM (aR ?_))
 ·have V:fF (cc t) t.length p y=t.length - p:=lM.mp (V.trans Y);refine bH (bS (os:=[]) (os2:=[.o (dw t l w ch u r g s e),.o (.list vs),.g (.int (x.A (y,false)))]) rfl tT F (.own rfl rfl) rfl (jj (jj F s1) gs) (qb F I.2.2 C.1 λZ M f=>?_));have o:=M _ _ F (I.2.2.off F nofun);refine f.gr.elim λD G u2 H=>bH (bS (os:=[]) (os2:=[.o (dw t l w ch u r g s e),.o (.list D),.g (.int _)]) rfl tT o (.own rfl rfl) rfl (jj (jj o G) (js k.1 (H y N))) (qb o f C.2 λm O T=>cH (os:=[]) rfl tT (q m _ ((I.2.1.trans M).trans O) T (K.full x y I.1 S k.1 L V))))
 ·have V:fF (cc t) t.length p y≠t.length - p:=λz=>V ((congrArg sZ z).trans Y.symm);have hf:fF (cc t) t.length p y<t.length - p:=q7 eC V;have bp:p+fF (cc t) t.length p y<t.length:=bn (gk hf p) i;refine aT (aZ (os:=[.o (dw t l w ch u r g s e),gB t (y+fF (cc t) t.length p y),.o (dw t l w ch u r g s e),gB t (p+fF (cc t) t.length p y)]) rfl (jj (jj (jj F (IW (by refine rE k.1 ?_;rfl) (cZ (wk k.2.1 _) bp))) F) (jr bp)) (λy2=>aU ?_) λy2=>aM ?_)
  ·refine bH (bS (os:=[]) (os2:=[]) rfl tT F (.own rfl rfl) rfl tT (qb F I.2.2 C.1 λZ M f=>j5 (os:=[]) rfl tT λm O=>?_));have T:=f.keep O λX X z=>z;have B:=O.at (M _ _ F (I.2.2.off F nofun));refine T.gr.elim λD G u2 H=>dI (os:=[.o (dw t l w ch u r g s e),.o (.list D),.g (.int _)]) rfl (jj (jj B G) (js k.1 (H y N))) ?_;exact hR ⟨x.A1 x.v,x.A1 x.v (y,true),x.v,true,fF (cc t) t.length p y,x.oh,x.gh,x.hc,x.st+1,some (.int (fF (cc t) t.length p y))⟩ m (jA S (c7 _)) (aH (K.less x y I.1 S k.1 L V (vG.mp y2)) ((I.2.1.trans M).trans (O.mono λX z=>z.elim)) T)
  ·refine bH (bS (os:=[]) (os2:=[]) rfl tT F (.own rfl rfl) rfl tT (qb F I.2.2 C.2 λZ M f=>j5 (os:=[]) rfl tT λm O=>?_));have T:=f.keep O λX X z=>z;have B:=O.at (M _ _ F (I.2.2.off F nofun));refine T.sm.elim λD G u2 H=>dI (os:=[.o (dw t l w ch u r g s e),.o (.list D),.g (.int _)]) rfl (jj (jj B G) (js k.1 (H y N))) ?_;exact hR ⟨x.A.set (x.oh.toNat,x.gh) x.v,x.A.set (x.oh.toNat,x.gh) x.v (y,false),x.ol,x.gl,x.lc,x.v,false,fF (cc t) t.length p y,x.st+1,some (.int (fF (cc t) t.length p y))⟩ m (jA S (c7 _)) (aH (K.more x y I.1 S k.1 L V λw=>y2 (vG.mpr w)) ((I.2.1.trans M).trans (O.mono λX z=>z.elim)) T)
end
structure ES where
 v:Int
 lg:Nat
 lc:Nat
 hc:Nat
 st:Nat
 ps:List (Int×Int)
 c:Option V
noncomputable def ES.fy(x:ES)(f:Nat):Nat:=if x.lg<f then f else x.lg
noncomputable def ES.ps'(x:ES)(f:Nat)(p y:Nat):List (Int×Int):=if x.lg<f then x.ps++[((f:Int),(p:Int) - y)] else x.ps
structure EJ(c:Nat->Nat)(p w ch lim:Nat)(A:Ar)(J:ES->Prop)(Post:List (Int×Int)->Prop):Prop where
 len:∀x,J x->x.ps.length<1000
 here:∀x,J x->x.st<ch->x.lg<lim->x.v≠-1->p - x.v<=w->∃y:Nat,x.v=y/\y<p/\min x.lc x.hc<=lim/\Ag c p y (min x.lc x.hc)
 full:∀(x:ES) (y:Nat),J x->x.st<ch->x.lg<lim->x.v=y->p - x.v<=w->ext c p y lim=lim->J ⟨x.v,x.fy (ext c p y lim),x.lc,x.hc,x.st+1,x.ps' (ext c p y lim) p y,some (.int (ext c p y lim))⟩
 less:∀(x:ES) (y:Nat),J x->x.st<ch->x.lg<lim->x.v=y->p - x.v<=w->ext c p y lim<lim->c (y+ext c p y lim)<c (p+ext c p y lim)->J ⟨A (y,true),x.fy (ext c p y lim),ext c p y lim,x.hc,x.st+1,x.ps' (ext c p y lim) p y,some (.int (ext c p y lim))⟩
 more:∀(x:ES) (y:Nat),J x->x.st<ch->x.lg<lim->x.v=y->p - x.v<=w->ext c p y lim<lim->¬c (y+ext c p y lim)<c (p+ext c p y lim)->J ⟨A (y,false),x.fy (ext c p y lim),x.lc,ext c p y lim,x.st+1,x.ps' (ext c p y lim) p y,some (.int (ext c p y lim))⟩
 stop:∀x,J x->¬(x.v≠-1/\p - x.v<=w/\x.st<ch/\x.lg<lim)->Post x.ps
structure ej(h:Hp)(a r d b g s e:Nat)(t:List UInt8)(l w ch u v:Nat)(A:Ar)(L:Nat->Int):Prop where
 x:h a=some (dw t l w ch u r g s e)
 row:h r=some (gD t l d b)
 roots:Dict h g v L
 arr:ig h s e t.length A
noncomputable def vR(a p K k f F:Nat)(x:ES):M:=[(.self,some (.ref a)),(.am,some (.int p)),(.most,some (.int K)),(.number,some (.int k)),(.aQ,some (.ref f)),(.limit,some (.int F)),(.longest,some (.int x.lg)),(.steps,some (.int x.st)),(.iZ,some (.int x.lc)),(.i0,some (.int x.hc)),(.other,some (.int x.v)),(.count,x.c)]
noncomputable def ZK:List S:=[.ite (.cmp (.aa .count) .lt (.aa .limit))
    [.ite (.cmp (.sub (.aA (.aa .self) .ba) (.bin .add (.aa .other) (.aa .count))) .lt (.sub (.aA (.aa .self) .ba) (.bin .add (.aa .am) (.aa .count))))
     [.unpack [.iZ,.other] (.tup [(.aa .count),(.sub (.aA (.aa .self) .greater) (.aa .other))])]
     [.unpack [.i0,.other] (.tup [(.aa .count),(.sub (.aA (.aa .self) .smaller) (.aa .other))])]]
    []]
section
variable{n:Nat}{h:Hp}{Q:V->Hp->Prop}{E:Ex->Hp->Prop}{a r d b l w ch u v p mo g s e:Nat}{t:List UInt8}{A:Ar}{L:Nat->Int}
def fV(a r g s e x:Nat):Prop:=x=a\/x=r\/x=g\/eV s e x
theorem Dict.keep{n:Nat}(R:Dict h g n L){F:Nat->Prop}{K:Hp}(p:ae F h K)(k:¬F g):Dict K g n L:=bL R λm f M O S=>(cb m f M (p _ _ O k) S)
theorem Dict.elim{P:Prop}{L:Nat->Int}{n:Nat}(R:Dict h g n L)(k:∀m f,h g=some (.dict m f)->m<=n->(∀k:Nat,(f k).getD (.int (-1))=.int (L k))->P):P:=bL R λm f F K M=>k m f K F M
theorem ej.keep(R:ej h a r d b g s e t l w ch u v A L){F:Nat->Prop}{K:Hp}(p:ae F h K)(k:∀x,fV a r g s e x->¬F x):ej K a r d b g s e t l w ch u v A L :=
 ⟨p _ _ R.x (k _ (.inl rfl)),p _ _ R.row (k _ (.inr (.inl rfl))),R.roots.keep p (k _ (.inr (.inr (.inl rfl)))),R.arr.keep p λx z=>k _ (.inr (.inr (.inr z)))⟩
theorem ej.ext(R:ej h a r d b g s e t l w ch u v A L){F:Hp}(p:au h F):ej F a r d b g s e t l w ch u v A L:=R.keep p λK K z=>z
theorem Jm{k f F y:Nat}{x:ES}{Q:Fl->Hp->M->Prop}{E:PE}{fy:Nat}{ps':List (Int×Int)}(R:ej h a r d b g s e t l w ch u v A L)(T:x.v=y)(S:y<p)(G:p+F<=t.length)
  (q:∀j m c i,au h j->(ext (cc t) p y F=F->m=x.v/\c=x.lc/\i=x.hc)->(ext (cc t) p y F<F->cc t (y+ext (cc t) p y F)<cc t (p+ext (cc t) p y F)->m=A (y,true)/\c=ext (cc t) p y F/\i=x.hc) ->
   (ext (cc t) p y F<F->¬cc t (y+ext (cc t) p y F)<cc t (p+ext (cc t) p y F)->m=A (y,false)/\c=x.lc/\i=ext (cc t) p y F)->Q .next j (vR a p mo k f F ⟨m,fy,c,i,x.st+1,ps',some (.int (ext (cc t) p y F))⟩)) :
  aE look ac C [] ZK h (vR a p mo k f F ⟨x.v,fy,x.lc,x.hc,x.st+1,ps',some (.int (ext (cc t) p y F))⟩) Q E:=by
 refine aT (aZ (os:=[]) rfl tT (λz=>aU ?_) λz=>aM (aR (q h _ _ _ ae.refl (λO=>(aH rfl rfl rfl)) (λw=>absurd (aS.mpr w) z) λw=>absurd (aS.mpr w) z)));have z:=aS.mp z;have V:p+ext (cc t) p y F<t.length:=bn (gk z p) G;have D:y<t.length:=cZ S (aV (cP _ _) V);refine aT (aZ (os:=[.o (dw t l w ch u r g s e),gB t (y+ext (cc t) p y F),.o (dw t l w ch u r g s e),gB t (p+ext (cc t) p y F)]) rfl (jj (jj (jj R.x (IW (by refine rE T ?_;rfl) (cZ (wk S _) V))) R.x) (jr V)) (λK=>aU ?_) λK=>aM ?_)
 ·have K:=vG.mp K;refine R.arr.gr.elim λW X H o=>j5 (os:=[.o (dw t l w ch u r g s e),.o (.list W),.g (.int (A (y,true)))]) rfl (jj (jj R.x X) (js T (o y D))) λj B=>aR (aR ?_);exact q j (A (y,true)) (ext (cc t) p y F) x.hc B (λw=>absurd z (c8.mpr (d8 w.symm))) (λO O=>(aH rfl rfl rfl)) λO w=>absurd K w
 ·have K:=λw=>K (vG.mpr w);refine R.arr.sm.elim λW X H o=>j5 (os:=[.o (dw t l w ch u r g s e),.o (.list W),.g (.int (A (y,false)))]) rfl (jj (jj R.x X) (js T (o y D))) λj B=>aR (aR ?_);exact q j (A (y,false)) x.lc (ext (cc t) p y F) B (λw=>absurd z (c8.mpr (d8 w.symm))) (λO w=>absurd w K) λO O=>(aH rfl rfl rfl)
theorem AU{J:ES->Prop}{Post:List (Int×Int)->Prop}(R:ej h a r d b g s e t l w ch p v A L)(hl0:1<=l)(hl:l<=4)(hp:p<t.length)(q0:key (cc t) t.length l p=none->j9 h [] Q)
  (K:∀k,key (cc t) t.length l p=some k->EJ (cc t) p w ch (min mo (t.length - p)) A J Post/\J ⟨L k,l - 1,0,0,0,[],none⟩) (q:∀ps,Post ps->j9 h ps Q):runs (n+2) .rG [.ref a,.int p,.int mo] h Q E:=by
 refine aY (aT (aZ (os:=[.o (dw t l w ch p r g s e)]) rfl R.x (λz=>absurd z (DT _)) λzz=>aM (aR ?_)));refine bR (bS (os:=[.o (dw t l w ch p r g s e)]) (os2:=[]) rfl R.x R.row (.own rfl rfl) rfl tT (vI R.row hl (λk hk=>?_) λhk=>?_))
 rotate_left
 ·exact cG (aT (g6 (os:=[]) rfl tT (λzz=>aU (cC (iK (cu λf G=>q0 hk f _ (ae.new G) (Lb.init G ae.refl))))) λe=>df e))
 refine cG (aT (g6 (os:=[]) rfl tT (λe=>a9 e) λzz=>aM (aR ?_)));have O:p+min mo (t.length - p)<=t.length:=AH.resolve_right (c8.mpr (aO hp));have el:=p9 (mo:=mo) (aO hp);refine(K k hk).elim λK j=>?_;generalize min mo (t.length - p)=i at K O el;refine jq (bI (iK (cu λf G=>bI (bS (os:=[]) (os2:=[]) rfl tT ((Hp.cJ (fresh_ne R.x G)).trans R.x) (.own rfl rfl) rfl tT (AC ((Hp.cJ (fresh_ne R.x G)).trans R.x) (.field rfl rfl) el (cu (iI λh1 e1=>?_)))))));have L1:=(Lb.init (h0:=h) G ae.refl).ext e1;have E1:au h h1:=(ae.new G).trans e1;have R1:=R.ext E1;refine Zf (os:=[.o (dw t l w ch p r g s e)]) (ws:=[.int ((l - 1:Nat):Int),.int 0]) rfl R1.x (by exact rE (AI hl0) rfl) λh2 e2=>j5 (os:=[]) rfl tT λh3 e3=>?_;have E3:=(E1.trans e2).trans e3;have R3:=R.ext E3;refine R3.roots.elim λm fd d1 d2 d3=>Aq (os:=[.o (dw t l w ch p r g s e),.o (.dict m fd)]) rfl (jj (jj R3.x d1) d1) (d3 k) ?_;refine mw (vR a p mo k f i) (λx=>ch - x.st) (λx N=>J x/\au h N/\Lb h N f x.ps) ⟨L k,l - 1,0,0,0,[],none⟩ (aH j E3 ((L1.ext e2).ext e3)) λx N I R' hR=>?_;have H:=R.ext I.2.1;have stop:¬(x.v≠-1/\(p:Int) - x.v<=w/\x.st<ch/\x.lg<i)->aE look ac (runs (n+1)) [] [.ret (.aa .aQ)] N (vR a p mo k f i x) (fQ Q) (fE E):=λz =>
  cH (os:=[]) rfl tT (q _ (K.stop x I.1 z) f N I.2.1 I.2.2)
 refine fU (ss (os:=[]) (os2:=[]) rfl tT H.x (.own rfl rfl) rfl tT (sB (w:=w) H.x (.field rfl rfl) (λz1 Y=>pV ?_) λz=>Au (aM (stop λk=>z ⟨k.1,k.2.1⟩))));refine fU (aZ (os:=[.o (dw t l w ch p r g s e)]) rfl H.x (λX=>aU ?_) λX=>aM (aM (stop λk=>X (aS.mpr k.2.2.1))));refine aZ (os:=[]) rfl tT (λD=>aU ?_) λD=>aM (stop λk=>D (aS.mpr k.2.2.2));have X:x.st<ch:=aS.mp X;have D:x.lg<i:=aS.mp D;refine(K.here x I.1 X D z1 Y).elim λy S=>?_;have nx:∀B F M,(ext (cc t) p y i=i->B=x.v/\F=x.lc/\M=x.hc)->(ext (cc t) p y i<i->cc t (y+ext (cc t) p y i)<cc t (p+ext (cc t) p y i)->B=A (y,true)/\F=ext (cc t) p y i/\M=x.hc) ->
   (ext (cc t) p y i<i->¬cc t (y+ext (cc t) p y i)<cc t (p+ext (cc t) p y i)->B=A (y,false)/\F=x.lc/\M=ext (cc t) p y i)->J ⟨B,x.fy (ext (cc t) p y i),F,M,x.st+1,x.ps' (ext (cc t) p y i) p y,some (.int (ext (cc t) p y i))⟩:=λB F M a1 a2 P=>by
  rcases fX (eC (c:=cc t) (p:=p) (o:=y) (l:=i)) with b1 |b1
  ·by_cases Z:cc t (y+ext (cc t) p y i)<cc t (p+ext (cc t) p y i)
   ·refine nq (a2 b1 Z) λT V W=>?_;refine rE T ?_;subst V;subst W;exact K.less x y I.1 X D S.1 Y b1 Z
   ·refine nq (P b1 Z) λT V W=>?_;refine rE T ?_;subst V;subst W;exact K.more x y I.1 X D S.1 Y b1 Z
  ·refine nq (a1 b1) λT V W=>?_;refine rE T ?_;subst V;subst W;exact K.full x y I.1 X D S.1 Y b1
 refine Ap (os:=[]) rfl rfl tT ?_;refine bR (bS (os:=[]) (os2:=[]) rfl tT H.x (.own rfl rfl) rfl tT (AB (t:=t) H.x (.field rfl rfl) rfl S.1 Aw rfl S.2.2.1 O (aO S.2.1) S.2.2.2 ?_));refine aT (aZ (os:=[]) rfl tT (λC=>aU ?_) λC=>aM (aR ?_))
 ·have C:x.lg<ext (cc t) p y i:=aS.mp C;refine sD (os:=[]) (a:=ext (cc t) p y i) (b:=(p:Int) - x.v) rfl rfl tT I.2.2 I.2.1 (K.len x I.1) λh5 e5 L5 p5=>dI (os:=[]) rfl tT (aR ?_);refine Jm (x:=x) (fy:=ext (cc t) p y i) (ps':=x.ps++[((ext (cc t) p y i:Int),(p:Int) - y)]) (R.ext e5) S.1 S.2.1 O λh6 B F M U a1 a2 P=>hR _ h6 (jA X (c7 _)) (aH ?_ (e5.trans U) ?_)
  ·have:=nx B F M a1 a2 P;unfold ES.fy ES.ps' at this;rw[if_pos C,if_pos C] at this;exact this
  ·rw[S.1] at L5;exact L5.ext U
 ·have C:¬x.lg<ext (cc t) p y i:=λz=>C (aS.mpr z);refine Jm (x:=x) (fy:=x.lg) (ps':=x.ps) H S.1 S.2.1 O λh6 B F M U a1 a2 P=>hR _ h6 (jA X (c7 _)) (aH ?_ (I.2.1.trans U) (I.2.2.ext U));have:=nx B F M a1 a2 P;unfold ES.fy ES.ps' at this;rw[if_neg C,if_neg C] at this;exact this
theorem Jn(F:h a=some (dw t l w ch u r g s e))(K:p<u)(q:E .ce h):runs (n+1) .rG [.ref a,.int p,.int mo] h Q E :=
 aY (aT (aZ (os:=[.o (dw t l w ch u r g s e)]) rfl F (λM=>aU (jp (aG (os:=[]) rfl tT (jj (show kt _<=1000 by decide) q)))) λz=>absurd (aS.mpr K) z))
theorem ZL{J:Nat->PS->Prop}{M:Nat->Ar->Prop}(S:h a=some (dw t l w ch (u+1) r g s e))(T:h r=some (gD t l d b))(D:Dict h g u L)(R:ig h s e t.length A)(H:l<=4)(j:u<t.length)(I:t.length<=100)(N:key (cc t) t.length l u=none->Q .none h)
  (K:∀k,key (cc t) t.length l u=some k->PJ (cc t) t.length u w ch (J k) (M k)/\J k ⟨A,L k,u,false,0,u,true,0,0,none⟩)
  (q:∀k c f,key (cc t) t.length l u=some k->ae (λx=>x=g\/eV s e x) h c->Dict c g (u+1) (upd L k u)->ig c s e t.length f->M k f->Q .none c):runs (n+4) .EH [.ref a,.int u] h Q E:=by
 refine aY (bR (bS (os:=[.o (dw t l w ch (u+1) r g s e)]) (os2:=[]) rfl S T (.own rfl rfl) rfl tT (vI T H (λk W=>?_) λW=>?_)))
 rotate_left
 ·exact cG (aT (g6 (os:=[]) rfl tT (λP=>aU (cH (os:=[]) rfl tT (N W))) λe=>df e))
 refine cG (aT (g6 (os:=[]) rfl tT (λe=>a9 e) λP=>aM (aR ?_)));refine D.elim λm i X o y=>Aq (os:=[.o (dw t l w ch (u+1) r g s e),.o (.dict m i)]) rfl (jj (jj S X) X) (y k) ?_;refine j4 (os:=[]) (o1:=[.o (dw t l w ch (u+1) r g s e)]) (o2:=[]) rfl tT rfl S rfl tT (IV X (aV o (bn j (ah I (by refine rE dz ?_;decide)))) ?_);have B:a≠g:=gz S X nofun;have p1:ae (·=g) h (h.set g (.dict (m+1) λO=>if O=(k:Int) then some (.int u) else i O)):=ae.set rfl;have C:∀x,eV s e x->x≠g:=λx z w=>R.off X nofun (w▸z);refine bH (bS (os:=[]) (os2:=[]) rfl tT (p1 _ _ S B) (.own rfl rfl) rfl tT (ZJ (A:=A) (p1 _ _ S B) (R.keep p1 C) j (K k W).1 (K k W).2 λc f G U z=>q k c f W ((p1.mono λx z=>.inl z).trans (G.mono λx z=>.inr z)) ?_ U z));refine Dict.keep (F:=eV s e) (cb (m+1) _ (db o) Hp.set_same (λO=>?_)) G λz=>C g z rfl;show(if (O:Int)=k then some (V.int u) else i O).getD (.int (-1))=V.int (upd L k u O);by_cases w:O=k
 ·refine rE (if_pos (congrArg _ w)) (rE w (rE pY ?_));rfl
 ·rw[if_neg λz=>w (lM.mp z),y,pZ w]
end
section
variable{c κ:Nat->Nat}{N p w ch lim m:Nat}{A:Ar}{full:List (Int×Int)}
theorem AV{v:Int}(g:-1<=v)(F:v≠-1)(K:(p:Int) - v<=w):∃y:Nat,v=y/\p - w<=y:=(aq v.toNat (by exact(lw (cz.mp λy=>F (K0 (sV y) g))).symm) (by exact Ox K))
theorem vS{v:Int}(g:-1<=v)(h:¬(v≠-1/\(p:Int) - v<=w)):v<(p - w:Nat):=by exact Eo h
structure JO(c κ:Nat->Nat)(N p w lim:Nat)(A:Ar)(full:List (Int×Int))(tr:T)(u:Nat)(x:ES):Prop where
 rep:cO A (p - w) tr x.v
 sb:ei c κ N p lim tr u x.lc x.hc
 up:u<=p
 iN:g8 (λz=>ext c p z lim) (p - w) tr u x.lg
 eq:x.ps++R (λz=>ext c p z lim) p (p - w) u x.lg=full
 st:x.st+u<=p
def JE(c κ:Nat->Nat)(N p w lim:Nat)(A:Ar)(full:List (Int×Int))(x:ES):Prop:=(lim<=x.lg/\x.ps=full)\/∃a u,JO c κ N p w lim A full a u x
theorem vT:∀ {u m:Nat},(R f p lo u m).length<=u
 | 0,_=>a6 _
 |u+1,m=>by
  rw[j2];split
  ·split
   ·exact db vT
   ·exact ks vT
  ·exact ca _
theorem JO.hit(j:JO c κ N p w lim A full (.node l y r) u x)(F:p - w<=y):x.ps' (ext c p y lim) p y++R (λz=>ext c p z lim) p (p - w) y (x.fy (ext c p y lim))=full:=by
 have e:=j.eq;rw[Iy F (j.sb.lt y (.inl rfl)) λz K M=>j.iN.top j.sb.ok z (ah F (aO K)) K M] at e;unfold ES.ps' ES.fy;by_cases k:x.lg<ext c p y lim
 ·rw[if_pos k] at e;rw[if_pos k,if_pos k,gS];exact e
 ·rw[if_neg k] at e;refine rE (if_neg k) (rE (if_neg k) ?_);exact e
theorem qc{x:ES}{f:Nat}:x.lg<=x.fy f/\f<=x.fy f:=by
 unfold ES.fy;by_cases k:x.lg<f
 ·refine rE (if_pos k) ?_;exact⟨aO k,a6 _⟩
 ·refine rE (if_neg k) ?_;exact⟨a6 _,c6 k⟩
theorem acJ{x:ES}{f l:Nat}(F:x.lg<l)(K:f<=l):x.fy f<=l:=by
 unfold ES.fy;by_cases k:x.lg<f
 ·refine rE (if_pos k) ?_;exact K
 ·refine rE (if_neg k) ?_;exact aO F
theorem ZM(t:N<=100)(v:p<N)(i:p<=ch)(F:lim<=N - p)(n:full.length<1000):EJ c p w ch lim A (JE c κ N p w lim A full) λq=>q=full:=by
 have O:∀ {x:ES},JE c κ N p w lim A full x->x.lg<lim->∃a u,JO c κ N p w lim A full a u x:=λj h=>j.resolve_left λz=>iW.mpr h z.1;have K:∀ {x:ES} {y:Nat},JE c κ N p w lim A full x->x.lg<lim->x.v=y->(p:Int) - x.v<=w->∃l r u,JO c κ N p w lim A full (.node l y r) u x/\p - w<=y/\cO A (p - w) l (A (y,false))/\cO A (p - w) r (A (y,true)):=λ{x y} j h e M=>by
  refine hO (O j h) λa u j=>?_;have S:p - w<=y:=ub e M;have o:=j.rep;rw[e] at o;refine bL (o.node S) λl r k d f=>?_;subst k;exact(kx l r u j S d f)
 refine⟨λx j=>?_,λx j b M V T=>?_,λx y j b M V T W=>?_,λx y j b M V T W g=>?_,λx y j b M V T W g=>?_,λx j h=>?_⟩
 ·rcases j with ⟨_,e⟩ |⟨a,u,j⟩
  ·refine rE e ?_;exact n
  ·exact aV (by refine rF j.eq (rE cA ?_);exact cP _ _) n
 ·refine hO (O j M) λa u s=>?_;refine ak (AV s.rep.ge V T) λy e X=>?_;refine fJ (K j M e T) λl r u j S X=>?_;exact(eM y e (bn (j.sb.lt y (.inl rfl)) j.up) (ah (eG _ _) j.sb.vO) (j.sb.known j.up F (.inl rfl)))
 ·refine fJ (K j M V T) λl r u j S X=>?_;refine .inl ⟨ah (d8 W.symm) qc.2,?_⟩;have e:=j.hit S;rw[vt λz X X=>ah eC (ah (d8 W.symm) qc.2),fk] at e;exact e
 ·refine iw (K j M V T) λl r u j S d f=>?_;have R:=j.sb.lt y (.inl rfl);exact .inr ⟨r,y,f,j.sb.right j.up F W g,ah (aO R) j.up,g8.right j.sb j.up F j.iN qc.1 qc.2 (j.sb.less j.up F (.inl rfl) W g),j.hit S,ah (by show x.st+1+y<=x.st+u;exact ud R) j.st⟩
 ·refine iw (K j M V T) λl r u j S d f=>?_;have R:=j.sb.lt y (.inl rfl);exact .inr ⟨l,y,d,j.sb.left j.up F,ah (aO R) j.up,g8.left j.sb j.up F j.iN qc.1 qc.2 (j.sb.more j.up F (.inl rfl) W g),j.hit S,ah (by show x.st+1+y<=x.st+u;exact ud R) j.st⟩
 ·rcases j with ⟨_,e⟩ |⟨a,u,j⟩
  ·exact e
  ·have e:=j.eq;by_cases M:x.lg<lim
   ·induction u with
    |zero=>exact(fk _).symm.trans e
    |succ u =>
    have b:x.st<ch:=bn (bn (aV (cP _ u) (c7 _)) j.st) i;rw[g8.dead j.sb.ok j.rep (vS j.rep.ge λz=>h (dE z.1 z.2 b M)) j.iN,fk] at e;exact e
   ·rw[vt λz X X=>ah eC (c6 M),fk] at e;exact e
structure JP(c κ:Nat->Nat)(N p w:Nat)(A:Ar)(t0 tr:T)(u:Nat)(x:PS):Prop where
 rep:cO x.A (p - w) tr x.v
 sb:ei c κ N p (N - p) tr u x.lc x.hc
 up:u<=p
 ol:x.ol=x.ol.toNat/\x.ol.toNat<N
 oh:x.oh=x.oh.toNat/\x.oh.toNat<N
 nl:¬tr.mem x.ol.toNat
 nh:¬tr.mem x.oh.toNat
 ne:(x.ol.toNat,x.gl)≠(x.oh.toNat,x.gh)
 st:x.st+u<=p
 fin:∀A',fe c N p (p - w) x.A A' (x.ol.toNat,x.gl) (x.oh.toNat,x.gh) tr->fe c N p (p - w) A A' (p,false) (p,true) t0
theorem qd(n:p<N)(o:N<=ch):PJ c N p w ch (λx=>∃b u,JP c κ N p w A q b u x) λX=>fe c N p (p - w) A X (p,false) (p,true) q:=by
 have M:∀ {x:PS} {y:Nat} {b:T} {u:Nat},JP c κ N p w A q b u x->x.v=y->(p:Int) - x.v<=w->∃l r,b=.node l y r/\p - w<=y/\cO x.A (p - w) l (x.A (y,false))/\cO x.A (p - w) r (x.A (y,true)):=λ{x y b u} j e a=>by
  have S:p - w<=y:=ub e a;have s:=j.rep;rw[e] at s;refine bL (s.node S) λl r h V W=>?_;exact(fo l r h S V W)
 refine⟨λx t=>hO t λb u j=>⟨j.ol,j.oh⟩,λx ⟨b,u,j⟩ i a d=>?_,λx y ⟨b,u,j⟩ i a d f=>?_,λx y ⟨b,u,j⟩ i a d f k=>?_,λx y ⟨b,u,j⟩ i a d f k=>?_,λx ⟨b,u,j⟩ h=>?_⟩
 ·refine ak (AV j.rep.ge a d) λy e v=>?_;refine bZ (M j e d) λl r K v=>?_;subst K;exact(eM y e (bn (j.sb.lt y (.inl rfl)) j.up) (ah (eG _ _) j.sb.vO) (j.sb.known j.up (a6 _) (.inl rfl)))
 ·refine eb (M j a d) λl r K S V W=>?_;subst K;refine j.fin _ ?_;have e:x.A1 (x.A (y,false)) (y,true)=x.A (y,true):=Ar.ne λw=>j.nl (.inl (congrArg gT w).symm);refine rE e ?_;exact fe.full V W (c8.mpr S) f j.ne j.nl j.nh
 ·refine eb (M j a d) λl r K S V W=>?_;subst K;have O:=j.sb.lt y (.inl rfl);have R:=bn O j.up;have e:x.A1 x.v (y,true)=x.A (y,true):=Ar.ne λw=>j.nl (.inl (congrArg gT w).symm);have B:fF c N p y<N - p:=q7 eC f;have ev:x.v.toNat=y:=by refine rE a ?_;rfl
  refine(nv r y ⟨?_,j.sb.right j.up (a6 _) B k,aO R,⟨by refine rE ev ?_;exact a,by refine rE ev ?_;exact cZ R n⟩,j.oh,by refine rE ev ?_;exact λm=>gK _ (j.sb.ok.2.2.2 y m).1,λm=>j.nh (.inr (.inr m)),by refine rE ev ?_;exact λw=>j.nh (.inl (congrArg gT w).symm),ah (by show x.st+1+y<=x.st+u;exact ud O) j.st,λX F=>j.fin X ?_⟩)
  ·show cO (x.A1 x.v) (p - w) r (x.A1 x.v (y,true));refine rE e ?_;exact W.frame λz g m=>Ar.ne λw=>j.nl (by rw[show x.ol.toNat=z from (congrArg gT w).symm];exact .inr (.inr m))
  ·rw[ev] at F;refine fe.less j.sb.ok V (c8.mpr S) f k j.ne j.nl j.nh ?_;refine rF a ?_;exact F
 ·refine eb (M j a d) λl r K S V W=>?_;subst K;have O:=j.sb.lt y (.inl rfl);have R:=bn O j.up;have e:x.A.set (x.oh.toNat,x.gh) x.v (y,false)=x.A (y,false):=Ar.ne λw=>j.nh (.inl (congrArg gT w).symm);have ev:x.v.toNat=y:=by refine rE a ?_;rfl
  refine(nv l y ⟨?_,j.sb.left j.up (a6 _),aO R,j.ol,⟨by refine rE ev ?_;exact a,by refine rE ev ?_;exact cZ R n⟩,λm=>j.nl (.inr (.inl m)),by refine rE ev ?_;exact λm=>gK _ (j.sb.ok.2.2.1 y m).1,by refine rE ev ?_;exact λw=>j.nl (.inl (congrArg gT w)),ah (by show x.st+1+y<=x.st+u;exact ud O) j.st,λX F=>j.fin X ?_⟩)
  ·show cO (x.A.set (x.oh.toNat,x.gh) x.v) (p - w) l (x.A.set (x.oh.toNat,x.gh) x.v (y,false));refine rE e ?_;exact V.frame λz g m=>Ar.ne λw=>j.nh (by rw[show x.oh.toNat=z from (congrArg gT w).symm];exact .inr (.inl m))
  ·rw[ev] at F;refine fe.more j.sb.ok W (c8.mpr S) f k j.ne j.nl j.nh ?_;refine rF a ?_;exact F
 ·have i:x.st<ch:=aV (ah (cP _ _) j.st) (bn n o);exact j.fin _ (fe.dead j.rep (vS j.rep.ge λz=>h (aH z.1 z.2 i)) j.ne)
end
def iO(a r d b g s e:Nat)(t:List UInt8)(l w F u:Nat)(h:Hp):Prop:=∃A L,ej h a r d b g s e t l w F u u A L/\∀k,∃c f,TI (cc t) t.length w l A (L k) k u c f
def sI(a r d b g s e:Nat)(t:List UInt8)(l w u:Nat)(h:Hp):Prop:=∃A L,ej h a r d b g s e t l w 1 u u A L/\∀k,L k=nk (cI t l k) u
section
variable{n:Nat}{h:Hp}{Q:V->Hp->Prop}{E:Ex->Hp->Prop}{a r d b l w ch u v p mo g s e:Nat}{t:List UInt8}{A:Ar}{L:Nat->Int}
theorem ej.at(R:ej h a r d b g s e t l w ch u v A L){x:Nat}(z:fV a r g s e x):h x≠none:=by
 rcases z with z |z |z |z |z
 ·refine rE z (rE R.x ?_);nofun
 ·refine rE z (rE R.row ?_);nofun
 ·exact R.roots.elim λm f e F F=>by refine rE z (rE e ?_);nofun
 ·exact R.arr.sm.elim λK e F F=>by refine rE z (rE e ?_);nofun
 ·exact R.arr.gr.elim λK e F F=>by refine rE z (rE e ?_);nofun
theorem qe{l w mo p:Nat}:(bQ t l w mo p).length<=p:=vT
theorem ZN{M:Nat->Nat}{O:T}{k:Nat}(F:1<=l)(W:key (cc t) t.length l u=some k)(R:u+l<=t.length)(I:TI (cc t) t.length w l A (L k) k u M O):JE (cc t) M t.length u w (min mo (t.length - u)) A (bQ t l w mo u) ⟨L k,l - 1,0,0,0,[],none⟩:=by
 refine .inr ⟨O,u,I.rep,I.sb,a6 u,λz X S=>?_,rfl,by show 0+u<=u;lia⟩;have K:k=num (cc t) u l:=(bq ((mB R).symm.trans W)).symm;induction e:cI t l k z with
 |false=>exact .inl (vM R S F (by refine rF K ?_;exact e))
 |true =>
  refine cr (I.iN z X S (sC.mp e)) λy V c f=>?_;exact .inr (bG y V c (Yw (f.le (tS (aO (I.lt y V)) _)) (gI _ _)))
theorem AW(R:iO a r d b g s e t l w ch u h)(F:1<=l)(T:l<=4)(K:u<t.length)(V:t.length<=100)(O:u<=ch)(q:j9 h (bQ t l w mo u) Q):runs (n+2) .rG [.ref a,.int u,.int mo] h Q E:=by
 refine bZ R λA L R I=>?_;have X:key (cc t) t.length l u=none->¬u+l<=t.length:=λz y=>by rw[mB y] at z;exact cX z
 have f:∀k,key (cc t) t.length l u=some k->u+l<=t.length:=λk z=>c6 λy=>by rw[AJ y] at z;exact aN z
 by_cases c:u+l<=t.length
 ·refine hO (I (num (cc t) u l)) λi j I=>?_;refine AU (J:=JE (cc t) i t.length u w (min mo (t.length - u)) A (bQ t l w mo u)) (Post:=λS=>S=bQ t l w mo u) R F T K (λz=>absurd c (X z)) (λk M=>?_) λS e=>by refine rE e ?_;exact q
  obtain rfl:k=num (cc t) u l:=(bq ((mB c).symm.trans M)).symm;exact⟨ZM V K O (gI _ _) (aV qe (cZ K (aV V (by decide)))),ZN F M c I⟩
 ·refine AU (J:=λW=>False) (Post:=λW=>False) R F T K (λW=>?_) (λk z=>absurd (f k z) c) λS e=>e.elim;rw[wb (aV (gI _ _) (by exact Nat.sub_lt_left_of_lt_add (aO K) (nj c)))] at q;exact q
theorem Jo{S:Nat->Hp->Prop}{J:Nat->PS->Prop}{Post:Nat->Ar->Prop}(R:ej h a r d b g s e t l w ch u u A L)(G:l<=4)(C:u<t.length)(H:t.length<=100)(K:∀k,key (cc t) t.length l u=some k->PJ (cc t) t.length u w ch (J k) (Post k)/\J k ⟨A,L k,u,false,0,u,true,0,0,none⟩)
  (I:key (cc t) t.length l u=none->∀c,ae (fV a r g s e) h c->ej c a r d b g s e t l w ch (u+1) (u+1) A L->Q .none c)
  (q:∀k c i,key (cc t) t.length l u=some k->ae (fV a r g s e) h c->ej c a r d b g s e t l w ch (u+1) (u+1) i (upd L k u)->Post k i->Q .none c):runs (n+5) .iy [.ref a,.int u] h Q E:=by
 refine sG R.x (.field rfl rfl) (.field rfl rfl) rfl (show 9<100 by decide) (λx=>.own rfl rfl) (λM M D p1 a1=>?_) λy=>absurd ⟨hM _,aS.mpr C⟩ y;have W:r≠a:=gz R.row R.x nofun;have O:g≠a:=R.roots.elim λm f e M M=>gz e R.x nofun;have T:=R.arr.off R.x nofun;have V:ae (fV a r g s e) h D:=p1.mono λx z=>.inl z;have X:=R.roots.keep p1 O;have j:=R.arr.keep p1 λx z w=>T (w▸z);have F:=p1 _ _ R.row W;refine ZL (u:=u) (ch:=ch) (w:=w) a1 F X j G C H (λo=>I o D V ⟨a1,F,?_,j⟩) K λk N i o B P U z=>q k N i o (V.trans (B.mono λx z=>.inr (.inr z))) ⟨B _ _ a1 λz=>?_,B _ _ F λz=>?_,P,U⟩ z
 ·exact X.elim λm f Y Z e3=>(cb m f (ks Z) Y e3)
 ·exact z.elim (λz=>O z.symm) λz=>T z
 ·exact z.elim (λz=>X.elim λm f e M M=>by rw[z,e] at F;exact nomatch F) λz=>j.off F nofun z
theorem Jp(R:iO a r d b g s e t l w ch u h)(hl:l<=4)(V:u<t.length)(hN:t.length<=100)(O:t.length<=ch)(q:∀c,ae (fV a r g s e) h c->iO a r d b g s e t l w ch (u+1) c->Q .none c):runs (n+5) .iy [.ref a,.int u] h Q E:=by
 refine bZ R λA L R I=>?_;refine Jo (S:=λB B=>True) (J:=λk x=>∃K M,TI (cc t) t.length w l A (L k) k u K M/\∃W v,JP (cc t) K t.length u w A M W v x) (Post:=λk C=>∃K M,TI (cc t) t.length w l A (L k) k u K M/\fe (cc t) t.length u (u - w) A C (u,false) (u,true) M) R hl V hN (λk X=>?_) (λX c G H=>q c G (de A L H (λk=>?_))) λk c C X G H z=>q c G (de C _ H (λY=>?_))
 ·refine⟨⟨λx T=>bZ T λK M i j=>(qd V O).lt x j,λx T=>bZ T λK M i j=>(qd V O).here x j,λx y T a1 a2 f o=>bZ T λK M i j=>⟨K,M,i,(qd V O).full x y j a1 a2 f o⟩,λx y T a1 a2 f o N=>bZ T λK M i j=>⟨K,M,i,(qd V O).less x y j a1 a2 f o N⟩,λx y T a1 a2 f o N=>bZ T λK M i j=>⟨K,M,i,(qd V O).more x y j a1 a2 f o N⟩,λx T k=>bZ T λK M i j=>⟨K,M,i,(qd V O).stop x j k⟩⟩,?_⟩;refine hO (I k) λK W i=>?_;have Z:¬W.mem u:=λm=>gK _ (i.lt u m);exact⟨K,W,i,W,u,⟨i.rep,i.sb,a6 u,⟨rfl,V⟩,⟨rfl,V⟩,Z,Z,nofun,by show 0+u<=u;lia,λC F=>F⟩⟩
 ·refine hO (I k) λK W i=>?_;exact(nv K W (i.skip (by refine rE X ?_;nofun) λB B B=>rfl))
 ·refine bZ z λK M i F=>?_;by_cases e:Y=k
  ·refine rE e (rE pY ?_);exact i.put V X F
  ·refine hO (I Y) λP U D=>?_;refine rE (pZ e) ?_;refine(nv P U (D.skip (by refine rE X ?_;exact λw=>e (bq w).symm) λz gg m=>F.keep (z,gg) (λm0=>e ?_) (λw=>?_) λw=>?_))
   ·exact bq ((D.keys z m).symm.trans (i.keys z m0))
   ·exact cK (D.lt z m) (congrArg gT w)
   ·exact cK (D.lt z m) (congrArg gT w)
theorem AX(K:1<=l)(O:l<=4)(S:t.length<=100)(F:t.length<=ch):FS (n+5) a (fV a r g s e) t mo (bQ t l w mo) λu h=>iO a r d b g s e t l w ch u h where
 keep R p k:=bZ R λA L R I=>(de A L (R.keep p k) I)
 own R z:=bZ R λA L R I=>R.at z
 cL R c q:=bZ R λA L M I=>(fK _ _ _ M.x (.own rfl rfl) (AW R K O c S (ah (aO c) F) q))
 put R c q:=bZ R λA L M I=>(fK _ _ _ M.x (.own rfl rfl) (Jp R O c S F q))
end
section
variable{n:Nat}{h:Hp}{Q:V->Hp->Prop}{E:Ex->Hp->Prop}{a r d b l w ch u v p mo g s e:Nat}{t:List UInt8}{A:Ar}{L:Nat->Int}
theorem ZO{lo u m:Nat}{f:Nat->Nat}(h:nk P u<lo):Rl f p ((dJ P lo u).take 1) m=[]:=by refine rE (mx.2 h) ?_;rfl
theorem ZP{lo u m y:Nat}{f:Nat->Nat}(h:nk P u=(y:Int))(F:lo<=y):Rl f p ((dJ P lo u).take 1) m=if m<f y then [((f y:Int),(p:Int) - y)] else []:=by
 rw[mx.1 y h F,DP,tQ,my];rfl
theorem ZQ(R:sI a r d b g s e t l w u h)(W:1<=l)(H:l<=4)(N:u<t.length)(q:j9 h ((bQ t l w mo u).take 1) Q):runs (n+2) .rG [.ref a,.int u,.int mo] h Q E:=by
 refine bZ R λA L R I=>?_;rw[←AK W (a6 u)] at q;refine AU (J:=λx=>(x.st=0/\x.lg=l - 1/\x.lc=0/\x.hc=0/\x.ps=[]/\∃k,key (cc t) t.length l u=some k/\x.v=nk (cI t l k) u)\/(x.st=1/\x.ps=Rl (bD t mo u) u (eD t l w 1 u u) (l - 1))) (Post:=λB=>B=Rl (bD t mo u) u (eD t l w 1 u u) (l - 1)) R W H N (λi=>?_) (λk i=>⟨?_,.inl ⟨rfl,rfl,rfl,rfl,rfl,k,i,I k⟩⟩) λB e=>by refine rE e ?_;exact q
 ·unfold eD at q;rw[i] at q;exact q
 have O:∀ {x:ES} {P:Prop},((x.st=0/\x.lg=l - 1/\x.lc=0/\x.hc=0/\x.ps=[]/\∃k,key (cc t) t.length l u=some k/\x.v=nk (cI t l k) u)\/(x.st=1/\P))->x.st<1->x.lg=l - 1/\x.lc=0/\x.hc=0/\x.ps=[]/\x.v=nk (cI t l k) u:=λj h=>by
  rcases j with ⟨_,a1,a2,o,M,k',C,F⟩ |⟨j,_⟩
  ·rw[i] at C;refine sE C ?_;exact(xH a1 a2 o M F)
  ·rw[j] at h;exact absurd h (gK 1)
 have S:eD t l w 1 u u=(dJ (cI t l k) (u - w) u).take 1:=by unfold eD;rw[i,Nat.min_self]
 have T:∀ {x:ES} {y:Nat},x.lg=l - 1->x.ps=[]->x.v=nk (cI t l k) u->x.v=y->(u:Int) - x.v<=w->x.ps' (ext (cc t) u y (min mo (t.length - u))) u y=Rl (bD t mo u) u (eD t l w 1 u u) (l - 1):=λ{x y} a1 M F D U=>by
  refine rE S (rE (ZP (f:=bD t mo u) (F.symm.trans D) (ub D U)) ?_);unfold ES.ps';refine rE a1 (rE M ?_);rfl
 refine⟨λx j=>?_,λx j K V X c=>?_,λx y j K m X c G=>?_,λx y j K m X c G Y=>?_,λx y j K m X c G Y=>?_,λx j h=>?_⟩
 ·rcases j with ⟨_,_,_,_,M,_⟩ |⟨_,e⟩
  ·refine rE M ?_;decide
  ·refine rE e ?_;exact aV vK (by refine rE S (rE fj ?_);exact aV (eG _ _) (by decide))
 ·refine nu (O j K) λV a2 o V F=>?_;refine rE a2 (rE o (rE F ?_));rcases j8 (P:=cI t l k) u with ⟨e,_⟩ |⟨y,e,Z,_⟩
  ·exact absurd (F.trans e) X
  ·exact(eM y e Z (ca _) Ag.zero)
 ·refine nu (O j K) λa1 V V M F=>?_;exact .inr ⟨congrArg (·+1) (qw.mp K),T a1 M F X c⟩
 ·refine nu (O j K) λa1 V V M F=>?_;exact .inr ⟨congrArg (·+1) (qw.mp K),T a1 M F X c⟩
 ·refine nu (O j K) λa1 V V M F=>?_;exact .inr ⟨congrArg (·+1) (qw.mp K),T a1 M F X c⟩
 ·by_cases K:x.st<1
  ·refine nu (O j K) λa1 V V M F=>?_;refine rE M ?_;by_cases m:x.lg<min mo (t.length - u)
   ·exact rE S (rE (ZO (vS (by rw[←F];rw[F];exact vH) λz=>h (dE (by rw[F];exact z.1) (by rw[F];exact z.2) K m))) rfl)
   ·refine rE (AK W (a6 u)) (rE (wb (by exact OF W a1 m)) ?_);rfl
  ·rcases j with ⟨e,_⟩ |⟨_,e⟩
   ·rw[e] at K;exact absurd mO K
   ·exact e
theorem ZR(R:sI a r d b g s e t l w u h)(o:l<=4)(O:u<t.length)(B:t.length<=100)(q:∀c,ae (fV a r g s e) h c->sI a r d b g s e t l w (u+1) c->Q .none c):runs (n+5) .iy [.ref a,.int u] h Q E:=by
 refine bZ R λA L R I=>?_;refine Jo (S:=λF F=>True) (J:=λk x=>(x.ol=x.ol.toNat/\x.ol.toNat<t.length)/\(x.oh=x.oh.toNat/\x.oh.toNat<t.length)/\(x.st<1->x.lc=0/\x.hc=0/\x.v=nk (cI t l k) u)) (Post:=λk X=>True) R o O B (λk T=>⟨⟨λx j=>⟨j.1,j.2.1⟩,λx j K M f=>?_,λF F F F F F F=>trivial,λx y j K M f F F=>?_,λx y j K M f F F=>?_,λF F F=>trivial⟩,?_⟩) (λT c V W=>q c V (de A L W (λk=>?_))) λk c X T V W z=>q c V (de X _ W (λi=>?_))
 ·refine nq (j.2.2 K) λa1 a2 m=>?_;refine rE a1 (rE a2 (rE m ?_));rcases j8 (P:=cI t l k) u with ⟨e,_⟩ |⟨y,e,C,_⟩
  ·exact absurd (m.trans e) M
  ·exact(eM y e C (ca _) Ag.zero)
 ·have:=j.2.2 K;have:=Ax (P:=cI t l k) (u:=u);exact(aH ⟨by show x.v=x.v.toNat;exact M▸rfl,by show x.v.toNat<t.length;exact Em M (jw (DU (j.2.2 K).2.2) this) O⟩ j.2.1 (λz=>absurd (qw.mp z) (DV _)))
 ·have:=j.2.2 K;have:=Ax (P:=cI t l k) (u:=u);exact(aH j.1 ⟨by show x.v=x.v.toNat;exact M▸rfl,by show x.v.toNat<t.length;exact Em M (jw (DU (j.2.2 K).2.2) this) O⟩ (λz=>absurd (qw.mp z) (DV _)))
 ·exact(aH ⟨rfl,O⟩ ⟨rfl,O⟩ (λF=>(aH rfl rfl (I k))))
 ·refine rE (vJ (decide_eq_false (by rw[T];nofun))) ?_;exact I k
 ·by_cases e:i=k
  ·exact rE e (rE pY (rE (I4 (sC.mpr T)) rfl))
  ·refine rE (pZ e) (rE (vJ (decide_eq_false λw=>e (bq (w.symm.trans T)))) ?_);exact I i
theorem Jq(F:1<=l)(M:l<=4)(O:t.length<=100):FS (n+5) a (fV a r g s e) t mo (λp=>(bQ t l w mo p).take 1) λu h=>sI a r d b g s e t l w u h where
 keep R p k:=bZ R λA L R I=>(de A L (R.keep p k) I)
 own R z:=bZ R λA L R I=>R.at z
 cL R c q:=bZ R λA L K I=>(fK _ _ _ K.x (.own rfl rfl) (ZQ R F M c q))
 put R c q:=bZ R λA L K I=>(fK _ _ _ K.x (.own rfl rfl) (ZR R M c O q))
theorem ZS(W:1<=l)(hw:1<=w)(hc:1<=ch)(o:t.length<=100)(Y:h a=some (.inst .fc m0))(q:∀B r d b g s e,ae (·=a) h B->ej B a r d b g s e t l w ch 0 0 (λS=>-1) (λS=>-1)->(∀x,x=r\/x=g\/eV s e x->h x=none)->Q .none B):
  runs (n+2) .xY [.ref a,.bytes t,.int l,.int w,.int ch] h Q E:=by
 refine aY (bH (mv (os:=[]) rfl rfl tT (mA Y ⟨rfl,rfl,rfl,rfl,rfl⟩ (λS S S h1 p1 a1=>?_) λy=>absurd (aH (bt.mpr W) (bt.mpr hw) (bt.mpr hc)) y)));refine iH (vL (os:=[.o (.inst .fc (j' t l w ch 0))]) W o rfl a1 λr d b h2 Z R2 e r1 d1 b1=>iM (os:=[]) rfl tT (Z.at a1) rfl (show 5<100 by decide) λh3 p3 a3=>?_);refine iH (IT λg h4 C g3 g4=>iM (os:=[]) rfl tT (C.at a3) rfl (show 6<100 by decide) λh5 D G=>?_);refine iH (dk (dm (os:=[]) rfl tT λx h6 T x5 x6=>aG (os:=[.o (.inst .fc (bu (bu (j' t l w ch 0) .row (.ref r)) .roots (.ref g)))]) rfl (T.at G) (su x6 (ah o (by decide)) λs h7 f s6 s7=>iM (os:=[]) rfl tT (f.at (T.at G)) rfl (show 7<100 by decide) λh8 j H=>?_)));refine iH (dk (dm (os:=[]) rfl tT λy h9 R y8 y9=>aG (os:=[.o (.inst .fc (bu (bu (bu (j' t l w ch 0) .row (.ref r)) .roots (.ref g)) .smaller (.ref s)))]) rfl (R.at H) (su y9 (ah o (by decide)) λe h10 K e9 I=>iM (os:=[]) rfl tT (K.at (R.at H)) rfl (show 8<100 by decide) λO M J=>?_)));have V:∀ {x y:Hp},au x y->ae (·=a) x y:=λp=>p.mono λS z=>z.elim;have q3:ae (·=a) h h3:=(p1.trans (V Z)).trans p3;have q5:ae (·=a) h h5:=(q3.trans (V C)).trans D;have q6:=q5.trans (V T);have q8:ae (·=a) h h8:=(q6.trans (V f)).trans j;have q9:=q8.trans (V R);have X:=j6 p1 a1 r1;have m:=j6 q3 a3 g3;have N:=j6 q6 (T.at G) s6;have e0:=j6 q9 (R.at H) e9;have F:∀x,h x=none->x≠a:=λx z=>(fresh_ne Y z).symm;have P:O r=some (gD t l d b):=M r _ (K.at (R.at (j r _ (f.at (T.at (D r _ (C.at (p3 r _ R2.x (F r X))) (F r X)))) (F r X)))) (F r X);have U:=M g _ (K.at (R.at (j g _ (f.at (T.at (D g _ g4 (F g m)))) (F g m)))) (F g m);have s9:=R.at (j s _ s7 (F s N));have c:∀ {x:Nat},O x=some (.list (gm t.length (.int (-1))))->il O x t.length λS=>-1:=λz=>(bG _ z qM (λi hi=>by exact rE (DQ) (rE (if_pos hi) rfl)))
 exact q O r d b g s e ((q9.trans (V K)).trans M) ⟨J,P,(cb 0 _ (a6 _) U (λk=>rfl)),⟨c (M s _ (K.at s9) (F s N)),c (M e _ I (F e e0)),fresh_ne s9 e9⟩⟩ λx z=>z.elim (λz=>z▸X) λz=>z.elim (λz=>z▸m) λz=>z.elim (λz=>z▸N) λz=>z▸e0
theorem vU{E:PE}(M:1<=l)(S:1<=w)(T:1<=ch)(V:t.length<=100)(W:dN i m j os=some ([.bytes t,.int l,.int w,.int ch],[],f))(X:bd h f)
  (q:∀a r d b g s e c,au h c->ej c a r d b g s e t l w ch 0 0 (λO=>-1) (λO=>-1)->(∀x,fV a r g s e x->h x=none)->P (.ref a) c m):ev look ac (runs (n+2)) i (.bN .fc j) h m P E :=
 mu rfl W X λa K=>ZS M S T V Hp.set_same λc r d b g s e p R k=>jj rfl (q a r d b g s e c (λx o z O=>p x o ((Hp.cJ (fresh_ne z K)).trans z) (fresh_ne z K)) R λx z=>z.elim (λe=>e▸K) λz=>back (ae.new (F:=λO=>False) K) (λz=>z.elim) (k x z))
theorem ej.s0(R:ej h a r d b g s e t l w ch 0 0 (λF=>-1) (λF=>-1)):iO a r d b g s e t l w ch 0 h:=(de _ _ R (λk=>⟨id,.nil,⟨hM _,by rw[NE];decide⟩,tT,λF m=>m.elim,λF m=>m.elim,λF m=>m.elim,λz F h=>absurd h (oY z)⟩))
theorem ej.n0(R:ej h a r d b g s e t l w 1 0 0 (λF=>-1) (λF=>-1)):sI a r d b g s e t l w 0 h:=(de _ _ R (λk=>rfl))
end
noncomputable def ju:List (Int×Int)->Int->List (Int×Int)
 |[],_=>[]
 |p::r,m=>if m<p.1 then p::ju r p.1 else ju r m
section
variable{f:Nat->Nat}{p lo:Nat}
theorem vV:∀ {u m0 m:Nat},ju (R f p lo u m0) (m:Int)=R f p lo u (max m0 m)
 | 0,_,_=>rfl
 |u+1,m0,m=>by
  rw[j2,j2];by_cases h:lo<=u
  ·rw[if_pos h,if_pos h];by_cases b:m0<f u
   ·rw[if_pos b];show(if (m:Int)<(f u:Int) then ((f u:Int),(p:Int) - u)::ju (R f p lo u (f u)) (f u) else ju (R f p lo u (f u)) m)=_;by_cases a:m<f u
    ·rw[if_pos (aS.mpr a),if_pos (DW.mpr ⟨b,a⟩),vV,Nat.max_self]
    ·rw[if_neg λz=>a (aS.mp z),if_neg λz=>a (DW.mp z).2,vV,DX (c6 a),DX (ah (aO b) (c6 a))]
   ·rw[if_neg b,if_neg λz=>b (DW.mp z).1,vV]
  ·rw[if_neg h,if_neg h];rfl
end
structure LJ(t:List UInt8)(w mo p s:Nat)(full:List (Int×Int))(ps:List (Int×Int))(m:Nat):Prop where
 eq:ps++R (bD t mo p) p (p - w) p m=full
 up:∀z,p - w<=z->z<p->m<bD t mo p z->s<bD t mo p z
section
variable{t:List UInt8}{w mo p s m k y:Nat}{full ps:List (Int×Int)}
theorem LJ.short(j:LJ t w mo p s full ps m)(h:t.length<p+(s+1)):LJ t w mo p (s+1) full ps m :=
 ⟨j.eq,λz F K M=>absurd (bn (j.up z F K M) (ah eC (gI _ _))) (by exact c8.mpr (BH.mpr (dA h)))⟩
theorem LJ.gap(j:LJ t w mo p s full ps m)(K:p+(s+1)<=t.length){z:Nat}(M:p - w<=z)(F:z<p)(k:cI t (s+1) (num (cc t) p (s+1)) z=false):bD t mo p z<=m :=
 c6 λO=>absurd (j.up z M F O) (c8.mpr (vM (mo:=mo) K F (hK s) k))
theorem LJ.ZT(j:LJ t w mo p s full ps m)(M:p+(s+1)<=t.length)(h:nk (cI t (s+1) (num (cc t) p (s+1))) p<(p - w:Nat)):LJ t w mo p (s+1) full ps m:=by
 refine⟨j.eq,λz K F O=>absurd O (c8.mpr (j.gap M K F ?_))⟩;rcases j8 (P:=cI t (s+1) (num (cc t) p (s+1))) p with ⟨_,e⟩ |⟨y,e,_,_,R⟩
 ·exact e z F
 ·exact R z (by exact bn (aS.mp (e▸h)) K) F
theorem LJ.near(j:LJ t w mo p s full ps m)(R:p+(s+1)<=t.length)(W:s+1<=mo)(h:nk (cI t (s+1) (num (cc t) p (s+1))) p=(y:Int))(S:p - w<=y):
  y<p/\(m<bD t mo p y->LJ t w mo p (s+1) full (ps++[((bD t mo p y:Int),(p:Int) - y)]) (bD t mo p y))/\(¬m<bD t mo p y->LJ t w mo p (s+1) full ps m):=by
 rcases j8 (P:=cI t (s+1) (num (cc t) p (s+1))) p with ⟨e,_⟩ |⟨X,e,K,c,d⟩
 ·rw[h] at e;exact absurd e (acq.mp rfl)
 ·obtain rfl:y=X:=lM.mp (h.symm.trans e);have T:s+1<=bD t mo p y:=Jd R K W c;refine⟨K,λk=>⟨?_,λz M M O=>aV T O⟩,λk=>⟨j.eq,λz M M O=>aV T (aV (c6 k) O)⟩⟩;have F:∀z,y<z->z<p->bD t mo p z<=m:=λz a b=>j.gap R (ah S (aO a)) b (d z a b);have V:=j.eq;rw[Iy S K F,if_pos k] at V;rw[gS,vr (aO K) λz M a b=>(fX a).elim (λa=>ah (F z a b) (aO k)) λa=>by rw[a];exact a6 _];exact V
theorem LJ.last(j:LJ t w mo p 3 full ps m):ps++ju (bQ t 4 w mo p) m=full:=by
 show ps++ju (R (bD t mo p) p (p - w) p 3) m=full;rw[vV,←j.eq];by_cases h:m<=3
 ·rw[Nat.max_eq_left h];have key:∀u,u<=p->R (bD t mo p) p (p - w) u 3=R (bD t mo p) p (p - w) u m:=by
   intro u;induction u with
   |zero=>exact λM=>rfl
   |succ u F =>
    intro K;have F:=F (d9 K);rw[j2,j2];by_cases a:p - w<=u
    ·rw[if_pos a,if_pos a];by_cases b:m<bD t mo p u
     ·rw[if_pos b,if_pos (j.up u a K b)]
     ·rw[if_neg b,if_neg λz=>b (aV h z),F]
    ·rw[if_neg a,if_neg a]
  rw[key p (a6 p)]
 ·rw[DX (aO (iW.mp h))]
end
noncomputable def ZU(t:List UInt8)(w F u K O:Nat):M:=[(.ba,some (.bytes t)),(.least,some (.int 2)),(.bX,some (.int w)),(.chain,some (.int F)),(.ahead,some (.int u)),(.rows,some (.ref K)),(.tree,some (.ref O))]
noncomputable def mD(t:List UInt8)(w F u K M:Nat):O:=.inst .dQ (ZU t w F u K M)
structure LS where
 lg:Nat
 ps:List (Int×Int)
 o:Option V
 c:Option V
noncomputable def vW(a p O f F:Nat)(K R:Option V)(S:Int)(o c:Option V):M:=[(.self,some (.ref a)),(.am,some (.int p)),(.most,some (.int O)),(.limit,some (.int F)),(.aQ,some (.ref f)),(.longest,some (.int S)),(.row,K),(.other,o),(.count,c),(.bb,R)]
noncomputable def ZV:List S:=[.assign .other (.ay (.aa .row) .newest [(.aa .am)]),.ite (.ay (.aa .self) .jM [(.aa .am),(.aa .other)])
    [.assign .count (.ay (.aa .self) .alike [(.aa .am),(.aa .other),(.int 0),(.aa .limit)]),.ite (.cmp (.aa .count) .gt (.aa .longest))
     [.expr (.ay (.aa .aQ) .append [(.tup [(.aa .count),(.bin .sub (.aa .am) (.aa .other))])]),.assign .longest (.aa .count)]
     []]
    []]
section
variable{n:Nat}{h h0:Hp}{a r d b w ch p u mo s f rl ta:Nat}{t:List UInt8}{full:List (Int×Int)}
theorem Jr{x:LS}{Q:Fl->Hp->M->Prop}{E:PE}(K:h a=some (mD t w ch u rl ta))(R:dP h r d b t (s+1) u)(W:p<=u)(m:u<=t.length)(o:s+1<=4)(v:s+1<=mo)(A:p<t.length)(H:t.length<=100)(V:au h0 h)(L:Lb h0 h f x.ps)(B:full.length<1000)(j:LJ t w mo p s full x.ps x.lg)
  (q:∀c (O:LS),au h0 c->ae (·=f) h c->Lb h0 c f O.ps->LJ t w mo p (s+1) full O.ps O.lg->Q .next c (vW a p mo f (min mo (t.length - p)) (some (.ref r)) none O.lg O.o O.c)):aE look ac (runs (n+2)) [] ZV h (vW a p mo f (min mo (t.length - p)) (some (.ref r)) none x.lg x.o x.c) Q E:=by
 have X:x.ps.length<1000:=aV (by refine rF j.eq (rE cA ?_);exact cP _ _) B;have T:p+min mo (t.length - p)<=t.length:=AH.resolve_right (c8.mpr (aO A));refine bR (bS (os:=[]) (os2:=[]) rfl tT R.x (.own rfl rfl) rfl tT (I8 R o m (λk S=>?_) λS=>?_))
 ·have F:p+(s+1)<=t.length:=c6 λy=>by rw[AJ y] at S;exact aN S
  obtain rfl:k=num (cc t) p (s+1):=(bq ((mB F).symm.trans S)).symm;refine rE (jC W) ?_;refine cG (aT (ss (os:=[]) (os2:=[]) rfl tT K (.own rfl rfl) rfl tT (sB (w:=w) K (.field rfl rfl) (λe i=>?_) λz=>?_)))
  ·refine(AV vH e i).elim λy k=>?_;have N:=j.near F v k.1 k.2;refine As (aU (bR (bS (os:=[]) (os2:=[]) rfl tT K (.own rfl rfl) rfl tT (AB (k:=0) (t:=t) K (.field rfl rfl) rfl k.1 rfl rfl (ca _) T (aO N.1) Ag.zero ?_))));refine cG (aT (aZ (os:=[]) rfl tT (λg=>aU ?_) λg=>aM (aR (aR (q h ⟨x.lg,x.ps,some (.int _),some (.int _)⟩ V ae.refl L (N.2.2 λz=>g (aS.mpr z)))))));exact sD (os:=[]) rfl rfl tT L V X λC D l G=>dI (os:=[]) rfl tT (aR (aR (q C ⟨bD t mo p y,x.ps++[((bD t mo p y:Int),(p:Int) - y)],some (.int _),some (.int _)⟩ D G (by rw[k.1] at l;exact l) (N.2.1 (aS.mp g)))))
  ·exact As (aM (aR (q h ⟨x.lg,x.ps,some (.int _),x.c⟩ V ae.refl L (j.ZT F (vS vH z)))))
 ·have F:t.length<p+(s+1):=nj λy=>by rw[mB y] at S;exact cX S
  exact cG (aT (ss (os:=[]) (os2:=[]) rfl tT K (.own rfl rfl) rfl tT (sB (w:=w) K (.field rfl rfl) (λe i=>absurd rfl e) λz=>As (aM (aR (q h ⟨x.lg,x.ps,some (.int _),x.c⟩ V ae.refl L (j.short F)))))))
end
structure LA where
 a:Nat
 rl:Nat
 r2:Nat
 d2:Nat
 b2:Nat
 r3:Nat
 d3:Nat
 b3:Nat
 ta:Nat
 tr:Nat
 td:Nat
 tb:Nat
 g:Nat
 s:Nat
 e:Nat
def LA.own(A:LA)(x:Nat):Prop:=x=A.a\/x=A.rl\/x=A.r2\/x=A.r3
def LA.f2(A:LA):Nat->Prop:=eV A.d2 A.b2
def LA.f3(A:LA):Nat->Prop:=eV A.d3 A.b3
def LA.ft(A:LA):Nat->Prop:=fV A.ta A.tr A.g A.s A.e
def LA.F(A:LA)(x:Nat):Prop:=A.own x\/A.f2 x\/A.f3 x\/A.ft x
structure LA.Apart(A:LA):Prop where
 o2:∀x,A.own x->¬A.f2 x
 o3:∀x,A.own x->¬A.f3 x
 ot:∀x,A.own x->¬A.ft x
 vX:∀x,A.f2 x->¬A.f3 x
 AY:∀x,A.f2 x->¬A.ft x
 AZ:∀x,A.f3 x->¬A.ft x
structure Lay(A:LA)(t:List UInt8)(w ch u u2 u3:Nat)(h:Hp):Prop where
 x:h A.a=some (mD t w ch u A.rl A.ta)
 rows:h A.rl=some (.list [.ref A.r2,.ref A.r3])
 row2:dP h A.r2 A.d2 A.b2 t 2 u2
 on:dP h A.r3 A.d3 A.b3 t 3 u3
 ne2:A.d2≠A.b2
 ne3:A.d3≠A.b3
section
variable{n:Nat}{h:Hp}{Q:V->Hp->Prop}{E:Ex->Hp->Prop}{A:LA}{w ch u u2 u3 p mo:Nat}{t:List UInt8}
abbrev LA.tree(A:LA)(t:List UInt8)(w ch u:Nat)(h:Hp):Prop:=iO A.ta A.tr A.td A.tb A.g A.s A.e t 4 w ch u h
theorem iO.keep{a r d b g s e l:Nat}(R:iO a r d b g s e t l w ch u h){F:Nat->Prop}{K:Hp}(p:ae F h K)(k:∀x,fV a r g s e x->¬F x):iO a r d b g s e t l w ch u K:=bZ R λA L R I=>(de A L (R.keep p k) I)
theorem iO.elim{P:Prop}{a r d b g s e l:Nat}(R:iO a r d b g s e t l w ch u h)(k:h a=some (dw t l w ch u r g s e)->P):P:=bZ R λA L R I=>k R.x
theorem Lay.keep(R:Lay A t w ch u u2 u3 h){F:Nat->Prop}{K:Hp}(p:ae F h K)(k:∀x,A.F x->¬F x):Lay A t w ch u u2 u3 K :=
 ⟨p _ _ R.x (k _ (.inl (.inl rfl))),p _ _ R.rows (k _ (.inl (.inr (.inl rfl)))),R.row2.keep p (k _ (.inl (.inr (.inr (.inl rfl))))) (k _ (.inr (.inl (.inl rfl)))) (k _ (.inr (.inl (.inr rfl)))),R.on.keep p (k _ (.inl (.inr (.inr (.inr rfl))))) (k _ (.inr (.inr (.inl (.inl rfl))))) (k _ (.inr (.inr (.inl (.inr rfl))))),R.ne2,R.ne3⟩
structure GL where
 lg:Int
 ps:List (Int×Int)
 c:Option V
 d:Option V
noncomputable def ZW:List S:=[.gU .count .bb (.ay (.aA (.aa .self) .tree) .cL [(.aa .am),(.aa .most)])
  [.ite (.cmp (.aa .count) .gt (.aa .longest))
    [.expr (.ay (.aa .aQ) .append [(.tup [(.aa .count),(.aa .bb)])]),.assign .longest (.aa .count)]
    []],.ret (.aa .aQ)]
theorem Js{P:Prop}(L:Lay A t w ch u u u h)(O:p<=u)(b:u<=t.length)(T:p<t.length)(V:t.length<=100)(R:3<=mo)
  (q:∀f a (F:LS),au h a->Lb h a f F.ps->LJ t w mo p 3 (bQ t 2 w mo p) F.ps F.lg->aE look ac (runs (n+2)) [] ZW a (vW A.a p mo f (min mo (t.length - p)) (some (.ref A.r3)) none F.lg F.o F.c) (fQ Q) (fE E)) :
  runs (n+3) .rH [.ref A.a,.int p,.int mo] h Q E:=by
 have S:(bQ t 2 w mo p).length<1000:=aV qe (cZ T (aV V (by decide)));refine aY (bR (bS (os:=[]) (os2:=[]) rfl tT L.x (.own rfl rfl) rfl tT (AC L.x (.field rfl rfl) (p9 (aO T)) ?_)));refine cG (jq (bI (iK (cu λf W=>d5 (os:=[.o (mD t w ch u A.rl A.ta)]) rfl ((Hp.cJ (fresh_ne L.x W)).trans L.x) (cu (iI λi c=>?_))))));have d:au h i:=(ae.new W).trans c;have j:=(Lb.init (h0:=h) W ae.refl).ext c;have M:=L.keep d λK K z=>z;refine vx (os:=[.o (mD t w ch u A.rl A.ta)]) rfl M.x (.list M.rows) (jj rfl ?_);refine Jr (s:=1) (x:=⟨1,[],none,none⟩) M.x M.row2 O b (by decide) (ah (by decide) R) T V d j S ⟨rfl,λz K K k=>k⟩ λy l e B m o=>?_;have X:=L.keep e λK K z=>z;refine jj (X.rows.trans M.rows.symm) ?_;refine Jr (s:=2) (x:=l) X.x X.on O b (by decide) R T V e m S o λa F g C r v=>jj ((L.keep g λK K z=>z).rows.trans M.rows.symm) (q f a F g r v)
theorem A0(L:Lay A t w ch p p p h)(T:A.tree t w ch p h)(R:p<t.length)(W:t.length<=100)(X:p<=ch)(j:3<=mo)(q:j9 h (bQ t 2 w mo p) Q):runs (n+3) .rH [.ref A.a,.int p,.int mo] h Q E:=by
 have k:(bQ t 2 w mo p).length<1000:=aV qe (cZ R (aV W (by decide)));refine Js (P:=True) L (a6 p) (aO R) R W j λf N S l o U=>?_;have Y:=L.keep l λM M z=>z;have B:=T.keep l λM M z=>z;refine B.elim λZ=>n9 (bS (os:=[.o (mD t w ch p A.rl A.ta)]) (os2:=[]) rfl Y.x Z (.own rfl rfl) rfl tT (AW B (by decide) (a6 4) R W X λC h4 D G=>G.elim λts V t2=>aP (.list V) ?_));have E4:=l.trans D;have ff:f≠C:=λw=>o.elim λus r M=>by have:=G.new;rw[←w,r] at this;exact cX this
 refine Av (λH K m=>∃(F:List (Int×Int)) (x:GL),PL N K H F/\au h K/\Lb h K f x.ps/\K C=some (.list ts)/\x.ps++ju F x.lg=bQ t 2 w mo p/\m=vW A.a p mo f (min mo (t.length - p)) (some (.ref A.r3)) x.d x.lg S.o x.c) ?_ ?_
  (ri (bQ t 4 w mo p) ⟨S.lg,S.ps,S.c,none⟩ t2 E4 (o.ext D) V U.last rfl)
 ·rintro K m ⟨F,x,P,g,i,d,e,rfl⟩;refine jj (d.trans V.symm) (cH (os:=[]) rfl tT (q f K g ?_));have:F=[]:=Nw.mp P.length.symm;rw[this] at e;refine rF e ?_;simpa [ju] using i
 ·rintro v H K m ⟨F,x,P,g,i,d,e,rfl⟩ R' I;cases P with
  | @cons y c _ F hy0 hy P =>
   refine jj (d.trans V.symm) (aP (.tup hy) ?_);have s:x.ps.length<1000:=aV (by refine rF e (rE cA ?_);exact cP _ _) k;have e:x.ps++(if x.lg<c.1 then c::ju F c.1 else ju F x.lg)=bQ t 2 w mo p:=e;refine aT (aZ (os:=[]) rfl tT (λz=>aU ?_) λz=>aM (aR (I _ _ (ri F ⟨x.lg,x.ps,some (.int c.1),some (.int c.2)⟩ P g i d ?_ rfl))))
   ·refine sD (os:=[]) rfl rfl tT i g s λh6 e6 B6 J=>dI (os:=[]) rfl tT (aR (I _ _ (ri F ⟨c.1,x.ps++[(c.1,c.2)],some (.int c.1),some (.int c.2)⟩ (P.keep λy' a b O hh=>J _ _ hh λw=>?_) e6 B6 (J _ _ d ff.symm) ?_ rfl)))
    ·exact o.elim λus r M=>by rw[w,r] at O;exact cX O
    ·rw[if_pos z] at e;rw[gS];exact e
   ·rw[if_neg z] at e;exact e
theorem ZX(L:Lay A t w ch u u u h)(T:A.tree t w ch u h)(F:p<u)(R:u<=t.length)(V:t.length<=100)(K:3<=mo)(q:∀a,au h a->E .ce a):runs (n+3) .rH [.ref A.a,.int p,.int mo] h Q E :=
 Js (P:=True) L (aO F) R (bn F R) V K λf W X M b c=>(T.keep M λO O z=>z).elim λS =>
  n9 (bS (os:=[.o (mD t w ch u A.rl A.ta)]) (os2:=[]) rfl (L.keep M λO O z=>z).x S (.own rfl rfl) rfl tT (Jn S F (q W M)))
end
section
variable{n:Nat}{h:Hp}{Q:V->Hp->Prop}{E:Ex->Hp->Prop}{A:LA}{a w ch u p mo:Nat}{t:List UInt8}
theorem ZY(L:Lay A t w ch (u+1) u u h)(T:A.tree t w ch u h)(K:A.Apart)(S:u<t.length)(V:t.length<=100)(W:t.length<=ch)(q:∀b,ae A.F h b->Lay A t w ch (u+1) (u+1) (u+1) b->A.tree t w ch (u+1) b->Q .none b):runs (n+6) .EK [.ref A.a,.int u] h Q E:=by
 refine aY (vx (os:=[.o (mD t w ch (u+1) A.rl A.ta)]) rfl L.x (.list L.rows) (jj rfl ?_));refine bH (bS (os:=[]) (os2:=[]) rfl tT L.row2.x (.own rfl rfl) rfl tT (AE L.row2 L.ne2 (by decide) S V λo O i=>?_));have F:=O _ _ L.rows (K.o2 _ (.inr (.inl rfl)));have d:=L.on.keep O (K.o2 _ (.inr (.inr (.inr rfl)))) (λz=>K.vX _ z (.inl rfl)) λz=>K.vX _ z (.inr rfl);refine jj (F.trans L.rows.symm) (bH (bS (os:=[]) (os2:=[]) rfl tT d.x (.own rfl rfl) rfl tT (AE d L.ne3 (by decide) S V λj M X=>?_)));refine jj ((M _ _ F (K.o3 _ (.inr (.inl rfl)))).trans L.rows.symm) ?_;have e:=M _ _ (O _ _ L.x (K.o2 _ (.inl rfl))) (K.o3 _ (.inl rfl));have f:A.tree t w ch u j:=(T.keep O λx z c=>K.AY x c z).keep M λx z c=>K.AZ x c z;refine f.elim λk=>bH (bS (os:=[.o (mD t w ch (u+1) A.rl A.ta)]) (os2:=[]) rfl e k (.own rfl rfl) rfl tT (Jp f (a6 4) S V W λl R m=>q l ?_ ⟨R _ _ e (K.ot _ (.inl rfl)),R _ _ (M _ _ F (K.o3 _ (.inr (.inl rfl)))) (K.ot _ (.inr (.inl rfl))),?_,?_,L.ne2,L.ne3⟩ m))
 ·exact((O.mono λx z=>.inr (.inl z)).trans (M.mono λx z=>.inr (.inr (.inl z)))).trans (R.mono λx z=>.inr (.inr (.inr z)))
 ·have g:A.own A.r2:=.inr (.inr (.inl rfl));exact(i.keep M (K.o3 _ g) (K.vX _ (.inl rfl)) (K.vX _ (.inr rfl))).keep R (K.ot _ g) (K.AY _ (.inl rfl)) (K.AY _ (.inr rfl))
 ·exact X.keep R (K.ot _ (.inr (.inr (.inr rfl)))) (K.AZ _ (.inl rfl)) (K.AZ _ (.inr rfl))
theorem ZZ(L:Lay A t w ch u u u h)(T:A.tree t w ch u h)(K:A.Apart)(S:u<t.length)(V:t.length<=100)(M:t.length<=ch)(q:∀b,ae A.F h b->Lay A t w ch (u+1) (u+1) (u+1) b->A.tree t w ch (u+1) b->Q .none b):runs (n+7) .iy [.ref A.a,.int u] h Q E:=by
 have O:A.own A.a:=.inl rfl;have R:∀ {x o},h x=some o->(∀c,o≠.inst .dQ c)->x≠A.a:=λe k=>gz e L.x (k _);refine sG L.x (.field rfl rfl) (.field rfl rfl) rfl (show 7<100 by decide) (λx=>.own rfl rfl) (λW W i p1 a1=>?_) λy=>absurd ⟨hM _,aS.mpr S⟩ y;have F:∀x,A.f2 x\/A.f3 x\/A.ft x->x≠A.a:=λx z e=>z.elim (λz=>K.o2 _ O (e▸z)) λz=>z.elim (λz=>K.o3 _ O (e▸z)) λz=>K.ot _ O (e▸z);exact ZY (A:=A) ⟨a1,p1 _ _ L.rows (R L.rows nofun),L.row2.keep p1 (R L.row2.x nofun) (F _ (.inl (.inl rfl))) (F _ (.inl (.inr rfl))),L.on.keep p1 (R L.on.x nofun) (F _ (.inr (.inl (.inl rfl)))) (F _ (.inr (.inl (.inr rfl)))),L.ne2,L.ne3⟩
  (T.keep p1 λx z=>F x (.inr (.inr z))) K S V M λX d f g=>q X ((p1.mono λx z=>.inl (.inl z)).trans d) f g
theorem A3(K:A.Apart)(O:t.length<=100)(F:t.length<=ch)(M:3<=mo):FS (n+7) A.a A.F t mo (bQ t 2 w mo) λu h=>Lay A t w ch u u u h/\A.tree t w ch u h where
 keep R p k:=⟨R.1.keep p k,R.2.keep p λx z=>k x (.inr (.inr (.inr z)))⟩
 own {u h x} R z:=by
  rcases z with z |z |z |z
  ·rcases z with z |z |z |z
   ·refine rE z (rE R.1.x ?_);nofun
   ·refine rE z (rE R.1.rows ?_);nofun
   ·refine rE z ?_;exact R.1.row2.at (.inl rfl)
   ·refine rE z ?_;exact R.1.on.at (.inl rfl)
  ·exact R.1.row2.at (.inr z)
  ·exact R.1.on.at (.inr z)
  ·refine bZ R.2 λB L S W=>?_;exact S.at z
 cL R b q:=(fK _ _ _ R.1.x (.own rfl rfl) (A0 R.1 R.2 b O (ah (aO b) F) M q))
 put R b q:=(fK _ _ _ R.1.x (.own rfl rfl) (ZZ R.1 R.2 K b O F λV p L T=>q V p ⟨L,T⟩))
theorem Z0(hw:1<=w)(hc:1<=ch)(Z:t.length<=100)(I:h a=some (.inst .dQ m0))(q:∀J A,ae (·=a) h J->A.a=a->Lay A t w ch 0 0 0 J->A.tree t w ch 0 J->A.Apart->(∀x,A.F x->x≠a->h x=none)->Q .none J):
  runs (n+4) .xZ [.ref a,.bytes t,.int w,.int ch] h Q E:=by
 refine aY (λk hk=>?_);have R:a≠k:=fresh_ne I hk;have e0:au h (h.set k (.cell (some (.ref a)))):=ae.new hk;have c0:(h.set k (.cell (some (.ref a)))) k=some (.cell (some (.ref a))):=Hp.set_same;refine bH (mv (os:=[.g (.ref a),.g (.ref a),.o (.inst .dQ m0),.g (.int 2)]) rfl rfl (jj (jj (jj c0 c0) (e0.at I)) rfl) (mA (e0.at I) ⟨rfl,rfl,rfl,rfl,rfl⟩ (λzz zz zz h1 p1 a1=>?_) λy=>absurd (aH (by decide) (bt.mpr hw) (bt.mpr hc)) y));have b:=p1 _ _ c0 R.symm;refine iH (IU (os:=[.g (.ref a),.o (.inst .dQ (j' t 2 w ch 0))]) rfl (jj b a1) .fM ?_);refine jj tT (vL (s:=2) (os:=[.g (.ref a),.o (.inst .dQ (j' t 2 w ch 0))]) (by decide) Z rfl (jj b a1) λj d2 b2 h2 O c e2 r21 d21 b21=>jj (by refine rE dz ?_;exact hK _) ?_);refine jj tT (vL (s:=3) (os:=[.g (.ref a),.o (.inst .dQ (j' t 2 w ch 0))]) (by decide) Z rfl (jj (O.at b) (O.at a1)) λm d3 b3 L S N e3 B d31 b31=>jj (by refine rE dz ?_;exact DL (hK _)) (jj tT λo K=>?_));have X:au L (L.set o (.list [.ref j,.ref m])):=ae.new K;have l4:(L.set o (.list [.ref j,.ref m])) o=some (.list [.ref j,.ref m]):=Hp.set_same;refine iM (os:=[.g (.ref a)]) rfl (X.at (S.at (O.at b))) (X.at (S.at (O.at a1))) rfl (show 5<100 by decide) λP d U=>?_;refine iH (vU (l:=4) (os:=[.g (.ref a),.o (.inst .dQ (bu (j' t 2 w ch 0) .rows (.ref o))),.g (.ref a),.o (.inst .dQ (bu (j' t 2 w ch 0) .rows (.ref o)))]) (by decide) hw hc Z rfl (jj (jj (jj (d _ _ (X.at (S.at (O.at b))) R.symm) U) (d _ _ (X.at (S.at (O.at b))) R.symm)) U) λta tr td tb g s e h6 r R6 v=>?_);refine iM (os:=[.g (.ref a)]) rfl (r.at (d _ _ (X.at (S.at (O.at b))) R.symm)) (r.at U) rfl (show 6<100 by decide) λh7 C a7=>?_;have D:∀ {x y:Hp},au x y->ae (·=a) x y:=λp=>p.mono λzz z=>z.elim;have q1:ae (·=a) h h1:=(D e0).trans p1;have T:=q1.trans (D O);have Y:=T.trans (D S);have q5:ae (·=a) h P:=(Y.trans (D X)).trans d;have F:∀ {x:Nat} {H:Hp},ae (·=a) h H->H a≠none->H x=none->h x=none/\x≠a:=λp k z=>by
  have:h _=none:=back p (λw=>by refine rE w ?_;exact k) z;exact⟨this,(fresh_ne I this).symm⟩
 have n1:h1 a≠none:=by refine rE a1 ?_;nofun
 have V:h2 a≠none:=by refine rE (O.at a1) ?_;nofun
 have n3:L a≠none:=by refine rE (S.at (O.at a1)) ?_;nofun
 have n5:P a≠none:=by refine rE U ?_;nofun
 have W:=λx (z:x=j\/eV d2 b2 x)=>F q1 n1 (z.elim (λz=>z▸r21) λz=>z.elim (λz=>z▸d21) λz=>z▸b21:h1 x=none);have M:=λx (z:x=m\/eV d3 b3 x)=>(z.elim (λz=>z▸B) λz=>z.elim (λz=>z▸d31) λz=>z▸b31:h2 x=none)
 have f:dP P j d2 b2 t 2 0:=((c.keep S id id id).keep X id id id).keep d (W _ (.inl rfl)).2 (W _ (.inr (.inl rfl))).2 (W _ (.inr (.inr rfl))).2;have i:dP P m d3 b3 t 3 0:=(N.keep X id id id).keep d (F T V (M _ (.inl rfl))).2 (F T V (M _ (.inr (.inl rfl)))).2 (F T V (M _ (.inr (.inr rfl)))).2;have l5:=d _ _ l4 (F Y n3 K).2;have ot:=λx (z:fV ta tr g s e x)=>F q5 n5 (v x z);refine q h7 ⟨a,o,j,d2,b2,m,d3,b3,ta,tr,td,tb,g,s,e⟩ ((q5.trans (D r)).trans C) rfl ⟨a7,C _ _ (r.at l5) (F Y n3 K).2,(f.keep r id id id).keep C (W _ (.inl rfl)).2 (W _ (.inr (.inl rfl))).2 (W _ (.inr (.inr rfl))).2,(i.keep r id id id).keep C (F T V (M _ (.inl rfl))).2 (F T V (M _ (.inr (.inl rfl)))).2 (F T V (M _ (.inr (.inr rfl)))).2,e2,e3⟩ (R6.s0.keep C λx z=>(ot x z).2) ⟨?_,?_,?_,?_,?_,?_⟩ λx z hx=>?_
 ·rintro x (rfl |rfl |rfl |rfl) z
  ·exact(W _ (.inr z)).2 rfl
  ·exact(c.keep S id id id).at (.inr z) K
  ·exact c.off c.x z
  ·exact c.at (.inr z) B
 ·rintro x (rfl |rfl |rfl |rfl) z
  ·exact V (M _ (.inr z))
  ·exact N.at (.inr z) K
  ·exact c.at (.inl rfl) (M _ (.inr z))
  ·exact N.off N.x z
 ·rintro x (rfl |rfl |rfl |rfl) z
  ·exact(ot _ z).2 rfl
  ·have:=v _ z;rw[l5] at this;cases this
  ·exact f.at (.inl rfl) (v _ z)
  ·exact i.at (.inl rfl) (v _ z)
 ·exact λx z G=>c.at (.inr z) (M _ (.inr G))
 ·exact λx z G=>f.at (.inr z) (v _ G)
 ·exact λx z G=>i.at (.inr z) (v _ G)
 ·rcases z with (z |z |z |z) |z |z |z
  ·exact absurd z hx
  ·exact z▸(F Y n3 K).1
  ·exact(W _ (.inl z)).1
  ·exact(F T V (M _ (.inl z))).1
  ·exact(W _ (.inr z)).1
  ·exact(F T V (M _ (.inr z))).1
  ·exact(ot _ z).1
theorem A4{E:PE}(O:1<=w)(R:1<=ch)(S:t.length<=100)(V:dN d m f os=some ([.bytes t,.int w,.int ch],[],c))(W:bd h c)
  (q:∀A b,au h b->Lay A t w ch 0 0 0 b->A.tree t w ch 0 b->A.Apart->(∀x,A.F x->h x=none)->P (.ref A.a) b m):ev look ac (runs (n+4)) d (.bN .dQ f) h m P E :=
 mu rfl V W λa M=>Z0 O R S Hp.set_same λb A p X L T K k=>jj rfl (X▸q A b (λx o z g=>p x o ((Hp.cJ (fresh_ne z M)).trans z) (fresh_ne z M)) L T K λx z=>by
  by_cases e:x=a
  ·refine rE e ?_;exact M
  ·exact back (ae.new (F:=λg=>False) M) (λz=>z.elim) (k x z e))
end
noncomputable def qs(p:Int×Int):Bool×List Int:=(true,[p.1,p.2])
theorem Z1{F K:List (Int×Int)}(h:F.map qs=K.map qs):F=K:=CY (f:=qs) (λx y e=>by
 injection e with _ e;injection e with M e;injection e with O _;exact Prod.ext M O) |>.mp h
section
variable{h0 h:Hp}
theorem PL.items(L:PL h0 h c e):mJ h c=some (e.map qs):=by
 induction L with
 |nil=>rfl
 | @cons x p c e a b _ f =>
  show(itemOf h (.ref x)).bind (λd=>(mJ h c).map (d::·))=_;refine rE f ?_;show(match h x with |.some (.tup g)=>(oB g).map λF=>(true,F) |_=>.none).bind (λd=>(some (e.map qs)).map (d::·))=_;refine rE b ?_;rfl
theorem Jt{x y:Nat}{Q:Bool->Prop}(F:h x=some (.list c))(L:PL h0 h c a)(K:h y=some (.list d))(M:PL f h d b)(O:a=b->Q true)(R:a≠b->Q false):rL (.ref x) (.ref y) h Q:=by
 refine⟨_,F,_,K,_,L.items,_,M.items,?_⟩;by_cases e:a=b
 ·refine rE (decide_eq_true (congrArg (DG qs) e)) ?_;exact O e
 ·refine rE (decide_eq_false λz=>e (Z1 z)) ?_;exact R e
end
theorem eqT{x y:Nat}{T:Bool->Prop}(F:h x=some (.list c))(L:PL h0 h c a)(K:h y=some (.list d))(M:PL e h d b)(O:a=b->T true)(R:a≠b->T false):fO .eq h (.ref x) (.ref y) λr=>cD (.bool r) T:=Jt (Q:=T) F L K M O R
theorem neT{x y:Nat}{T:Bool->Prop}(F:h x=some (.list c))(L:PL h0 h c a)(K:h y=some (.list d))(M:PL e h d b)(O:a=b->T false)(R:a≠b->T true):fO .ne h (.ref x) (.ref y) λr=>cD (.bool r) T:=Jt (Q:=λr=>T (!r)) F L K M O R
theorem Z2{p lo:Nat}:gu ((p:Int) - 1) ((lo:Int) - 1) (-1)=(dJ (λF=>true) lo p).map λz:Nat=>V.int z:=by
 unfold gu;rw[if_neg (by decide),show((p:Int) - 1 - (lo - 1)).toNat=p - lo by exact Ov];induction p with
 |zero=>rw[NE];rfl
 |succ u a =>
  rw[om];by_cases h:lo<=u
  ·rw[if_pos h,if_pos rfl,oU,←a,show u+1 - lo=(u - lo)+1 by exact xy h,List.range_succ_eq_map,oU,oG];refine congr (congrArg List.cons (congrArg V.int (by lia))) (DY λk F=>congrArg V.int ?_);show((u+1:Nat):Int) - 1 - ((k+1:Nat):Int)=(u:Int) - 1 - k;lia
  ·rw[if_neg h,show u+1 - lo=0 by exact tR (nj h)];rfl
theorem li{n:Nat}:gu 0 (n:Int) 1=(eH n).map λz:Nat=>V.int z:=by
 unfold gu;rw[if_pos rfl,show((n:Int) - 0).toNat=n by exact acr n];exact DY λk F=>congrArg V.int (DZ ↑k)
section
variable{n:Nat}{h:Hp}{Q:V->Hp->Prop}{E:Ex->Hp->Prop}{a p o mo s w sh:Nat}{t:List UInt8}
noncomputable def Ju(t:List UInt8)(p o mo k:Nat):M:=[(.text,some (.bytes t)),(.am,some (.int p)),(.other,some (.int o)),(.most,some (.int mo)),(.aQ,some (.int k))]
theorem Jv{S:Int}(T:S=o)(X:p<=t.length)(V:o<=p)(q:Q (.int (bD t mo p o)) h):runs (n+1) .ui [.bytes t,.int p,.int S,.int mo] h Q E:=by
 refine rE T ?_;refine aY (dI (os:=[]) rfl tT ?_);refine mw (λk:Nat=>Ju t p o mo k) (λk=>mo - k) (λk M=>M=h/\k<=min mo (t.length - p)/\Ag (cc t) p o k) 0 (aH rfl (ca _) Ag.zero) λk M I R W=>?_;have stop:bD t mo p o=k->aE look ac (runs n) [] [.ret (.aa .aQ)] M (Ju t p o mo k) (fQ Q) (fE E):=λe=>cH (os:=[]) rfl tT (by rw[e] at q;refine rE I.1 ?_;exact q);have e:=iX.mp I.2.1;refine fU (aZ (os:=[]) rfl tT (λF=>aU ?_) λF=>aM (aM (stop (pS I.2.2 I.2.1 (.inl ?_)))))
 ·have F:p+k<t.length:=aS.mp F;refine fU (aZ (os:=[]) rfl tT (λK=>aU ?_) λK=>aM (aM (stop (pS I.2.2 I.2.1 (.inl ?_)))))
  ·have K:k<mo:=aS.mp K;refine aZ (os:=[gB t (p+k),gB t (o+k)]) rfl (jj (jr F) (jr (aV (dS V k) F))) (λO=>aU ?_) λO=>aM (stop (pS I.2.2 I.2.1 (.inr λe=>O (by exact rE e rfl))));exact dI (os:=[]) rfl tT (W (k+1) M (jA K (c7 k)) (aH I.1 (iX.mpr ⟨K,NC (by rw[gJ];exact F)⟩) (I.2.2.succ (IX O))))
  ·have K:¬k<mo:=λy=>K (aS.mpr y);exact fi I.2.1 (ah (eG _ _) (c6 K))
 ·have F:¬p+k<t.length:=λy=>F (aS.mpr y);exact fi I.2.1 (ah (gI _ _) (qu (by rw[gJ];exact c6 F)))
noncomputable def A5(t:List UInt8)(p sh s w mo f:Nat)(x:GE):M:=[(.text,some (.bytes t)),(.am,some (.int p)),(.shape,some (.ref sh)),(.shortest,some (.int s)),(.bX,some (.int w)),(.most,some (.int mo)),(.aQ,some (.ref f)),(.other,x.o),(.length,x.c)]
def Z3(s:Nat)(x:GE):Prop:=(x.ps=[]/\x.lg=s - 1)\/(s<=x.lg/\x.ps≠[]/\(g7 x.ps).1=x.lg)
theorem vY(hs:h sh=some (.list [.int s,.int w,.int mo]))(A:1<=s)(g:p<t.length)(B:t.length<=100)(q:j9 h (bQ t s w mo p) Q):runs (n+2) .ph [.bytes t,.int p,.ref sh] h Q E:=by
 refine aY (IS (os:=[]) rfl tT (.list hs) (bR (iK (cu λf P=>?_))));have e1:au h (h.set f (.list [])):=ae.new P;refine cG (g0 (Zh (os:=[]) rfl tT ⟨by exact fW (by decide:(-1000000:Int)<0 - 1) (BL (b9 _) 1),by exact jw (wm _ (by decide)) (jL (iY (ah (aO g) B)))⟩ ⟨by exact OH,by exact OG g B⟩ λr T U Y W=>aP (.range W) ?_));rw[show max 0 ((p:Int) - w) - 1=((p - w:Nat):Int) - 1 by exact congrArg (· - 1) xR,Z2];have E2:=e1.trans U;have X:=(Lb.init (h0:=h) P ae.refl).ext U;have C:(bQ t s w mo p).length<1000:=aV vT (cZ g (aV B (by decide)));have all:Rl (bD t mo p) p (dJ (λK=>true) (p - w) p) (s - 1)=bQ t s w mo p:=pX λz K K e=>df e;have zp:∀z∈dJ (λK=>true) (p - w) p,z<p:=λz hz=>by
  have key:∀u,z∈dJ (λK=>true) (p - w) u->z<u:=by
   intro u;induction u with
   |zero=>exact λh=>dx h
   |succ u ih =>
    intro h;rw[om] at h;split at h
    ·rw[if_pos rfl] at h;exact(cW.mp h).elim (λe=>e▸c7 u) λh=>f6 (ih h)
    ·exact nomatch h
  exact key p hz
 refine gC (λz:Nat=>V.int z) (λx:GE=>A5 t p sh s w mo f x) (λi x b=>IE h T f r p (bD t mo p) (bQ t s w mo p) i x b/\Z3 s x) (λz i x b I Z hR=>?_) (λx b I=>jj I.1.r ?_) (x:=⟨[],s - 1,none,none⟩) ⟨⟨zp,E2,X,rfl,all⟩,.inl ⟨rfl,rfl⟩⟩
 rotate_left
 ·exact cH (os:=[]) rfl tT (q f b I.1.e I.1.done)
 have R:=I.2;have I:=I.1;have nr:r≠f:=λw=>X.elim λts z K=>by
  have:(h.set f (.list [])) f=some (.list []):=Hp.set_same;rw[w,this] at Y;exact cX Y
 have D:s - 1<=x.lg:=R.elim (λz=>d8 z.2.symm) λz=>ah (fh _ _) z.1;refine jj I.r (bR (b7 (os:=[]) rfl tT (Jv (n:=n) rfl (aO g) (aO (I.zp z (.head _))) ?_)));have skip:∀F,au h F->Lb h F f x.ps->F r=T r->¬x.lg<bD t mo p z->Z F (A5 t p sh s w mo f ⟨x.ps,x.lg,some (.int z),some (.int (bD t mo p z))⟩):=λF a1 a2 j k=>hR _ F ⟨(⟨I.zp,a1,a2,j,I.eq⟩:IE h T f r p (bD t mo p) _ (z::i) x F).skip (c6 k),R⟩;have c:∀ {G:Fl->Hp->M->Prop} {E':PE} {F:Hp},(∀h m,Z h m->G .next h m)->au h F->Lb h F f x.ps->F r=T r->x.lg<bD t mo p z->s<=bD t mo p z->aE look ac (runs (n+1)) [] [.expr (.ay (.aa .aQ) .append [(.tup [(.aa .length),(.bin .sub (.aa .am) (.aa .other))])])] F (A5 t p sh s w mo f ⟨x.ps,x.lg,some (.int z),some (.int (bD t mo p z))⟩) G E':=λ{G E' F} kq a1 a2 j k k2 =>
  sD (os:=[]) rfl rfl tT a2 a1 (I.len C) λh4 e4 L4 p4=>kq _ _ (hR ⟨x.ps++[((bD t mo p z:Int),(p:Int) - z)],bD t mo p z,some (.int z),some (.int (bD t mo p z))⟩ h4 ⟨(⟨I.zp,a1,a2,j,I.eq⟩:IE h T f r p (bD t mo p) _ (z::i) x F).hit k e4 L4 ((p4 r _ (j.trans W) nr).trans W.symm),.inr (aH k2 (NF _ (List.cons_ne_nil _ _)) (by unfold g7;refine rE (List.getLast?_concat) ?_;rfl))⟩)
 refine aT (fU (aZ (os:=[]) rfl tT (λS=>aU ?_) λS=>aM (aM (aR (skip b I.e I.L I.r λk=>S (bt.mpr (by exact OI D k)))))));have S:s<=bD t mo p z:=bt.mp S;refine ie (cM (dO (aG (os:=[]) rfl tT (dm (os:=[]) rfl tT λy h5 H y1 y2=>?_))));have l:=I.L.ext H;have J:=I.e.trans H;have L:=(H.at (I.r.trans W)).trans W.symm;refine l.elim λts d t2=>eqT d t2 y2 (PL.nil (h0:=h)) (λe=>aU (aU (c (λK K z=>z) J l L ?_ S))) λe=>aM ?_
 ·have:=R.resolve_right λz=>z.2.1 e;exact bn (aV (d8 this.2) (ly A mO)) S
 ·have R:=R.resolve_left λz=>e z.1;refine t2.last.elim (λw=>absurd w.2 e) λw=>w.elim λN w=>w.elim λy' w=>?_;have d:=d;rw[w.1] at d;refine aZ (os:=[Ht.o (O.list (N++[V.ref y'])),Ht.g (V.ref y'),Ht.o (O.tup [.int (g7 x.ps).1,.int (g7 x.ps).2]),Ht.g (V.int (g7 x.ps).1)]) rfl (jj (jj (jj d sy) w.2.2) rfl) (λv=>aU (c (λK K z=>z) J l L ?_ S)) λv=>aM (aR (skip h5 J l L λk=>v ?_))
  ·rw[R.2.2] at v;exact aS.mp v
  ·refine rE R.2.2 ?_;exact aS.mpr k
end
section
variable{C:bU}{c:Cs}{h:Hp}{m:M}{Q:Fl->Hp->M->Prop}{E:PE}{r:List S}{os:List Ht}{obs:List Ob}{v:V}
theorem mE(M:vE c m o os=some (.ref a,[],obs))(O:bd h obs)(F:dN c m d os2=some (e,[],b))(K:bd h b)(q:CM n a f e h (cQ P m) (cE E m)):ev look ac (runs n) c (.ay o f d) h m P E :=
 fJ q λV W g R S T=>bS M O R S F K T
theorem Z4(F:vE c m o os=some (.ref a,[],obs))(K:bd h obs)(M:h a=some (.inst b d))(O:eP look (.inst b d) a f (.own g a))(q:cY look ac (runs n) c e h m (kM (runs n) g a P E) E):ev look ac (runs n) c (.ay o f e) h m P E:=vA F K M O q
def kC(C:bU)(c:Cs)(K:X)(x:Nm)(cond:X)(P:PV)(v:V)(h:Hp)(m:M):Prop:=∃a,fP h v a/\nD (gW h v) (λw h q =>
    ev look ac C c cond h (bu m0 x w) (λr h m=>cD r λb=>br b
     (ev look ac C c K h m (λu h F=>q (.some u) h) λF F F=>False)
     (q .none h)) λF F F=>False) a h [] λO h=>(Rs.new (.list O)).run h λu h=>P u h m
theorem sJ{F K cond:X}{x:Nm}{P:PV}(q:ev look ac C c K h m (kC C c F x cond P) E):ev look ac C c (.comp F x K cond) h m P E:=q
theorem PL.mem(L:PL g h d i){v:V}(F:v∈d):∃y a b,v=.ref y/\h y=some (.tup [.int a,.int b]):=by
 induction L with
 |nil=>exact dx F
 |cons a b _ f=>exact(cW.mp F).elim (λe=>(c9 _ _ _ e b)) f
theorem A6{f:Nat}(T:h f=some (.list e))(L:PL i h e j)(V:e.length<bB)(q:∀y d,au h d->h y=none->d y=some (.list e)->P (.ref y) d m):kC C c (.aB .tuple [(.aa .pair)]) .pair (.bool true) P (.ref f) h m:=by
 refine aP (.list T) (sx (λO d F=>d=h/\F++O=e) (λd F I=>?_) (λv O d F I R W=>?_) ⟨rfl,rfl⟩)
 ·refine rE I.1 ?_;refine jj rfl λa S=>q a _ (ae.new S) S ?_;rw[fk] at I;refine rF I.2 ?_;exact Hp.set_same
 ·refine rE I.1 ?_;have X:v∈e:=by refine rF I.2 ?_;exact oJ _ (.head _)
  refine c4 (L.mem X) λy a b K g=>?_;subst K;have M:F.length<bB:=aV (by refine rF I.2 (rE cA ?_);exact cP _ _) V;exact jj rfl (aG (os:=[]) rfl tT (pV (aG (os:=[.o (.tup [.int a,.int b])]) rfl g (jj M (W h (F++[.ref y]) ⟨rfl,by rw[gS];exact I.2⟩)))))
theorem qf(q:aE look ac C c b h m (sq C c r Q E) E):cD (.bool true) λx=>kI C c a b r Q E (!x) h m:=q
theorem vZ(q:aE look ac C c a h m (sq C c r Q E) E):kI C c a b r Q E true h m:=q
theorem fg(q:aE look ac C c b h m (sq C c r Q E) E):kI C c a b r Q E false h m:=q
theorem Jw{x y:Nat}{a b d e:Int}{T:Bool->Prop}(F:h x=some (.tup [.int a,.int b]))(K:h y=some (.tup [.int d,.int e]))(M:a=d)(O:b=e)(q:T false):fO .ne h (.ref x) (.ref y) λr=>cD (.bool r) T :=
 ⟨_,F,_,K,_,rfl,_,rfl,by
  show T (!decide ([a,b]=[d,e]));refine rE M (rE O (rE (decide_eq_true rfl) ?_));exact q⟩
end
theorem iP(q:ev look ac C c x h m (Y2 C c y z P E) E):ev look ac C c (.slice x y z) h m P E:=q
theorem PL.Z5(L:PL e h c d):PL e h (cut c 0 (bA c.length 1)) (d.take 1):=by
 induction L with
 |nil=>exact .nil
 | @cons x p c d a b L =>
  rw[show bA (V.ref x::c).length 1=1 from j7 (i:=1) (db (ca _))];exact .cons a b .nil
structure FR(n a:Nat)(t:List UInt8)(mo:Nat)(All:Nat->List (Int×Int))(S:Nat->Hp->Prop):Prop where
 cL:∀ {u p:Nat} {h:Hp} {Q:V->Hp->Prop} {E:Ex->Hp->Prop},S u h->p<u->u<=t.length->(∀h',au h h'->E .ce h')->CM n a .cL [.int p,.int mo] h Q E
 put:∀ {u p:Nat} {h:Hp} {Q:V->Hp->Prop} {E:Ex->Hp->Prop},S u h->p<u\/t.length<=p->E .ce h->runs n .iy [.ref a,.int p] h Q E
 obj:∀ {u:Nat} {h:Hp},S u h->∃c fs,h a=some (.inst c fs)/\eP look (.inst c fs) a .put (.own .iy a)
 best:∀ {u:Nat} {h:Hp} {Q:V->Hp->Prop} {E:Ex->Hp->Prop},S u h->u<t.length->Ja h (g7 (All u)) Q->CM n a .best [.int u,.int mo] h Q E
section
variable{n:Nat}{h:Hp}{Q:V->Hp->Prop}{E:Ex->Hp->Prop}{a p u mo s w sh:Nat}{t:List UInt8}{All:Nat->List (Int×Int)}{S:Nat->Hp->Prop}{F:Nat->Prop}
noncomputable def Jx(a p N mo:Nat)(k:Nat)(w:Option V):M:=[(.finder,some (.ref a)),(.am,some (.int p)),(.beyond,some (.int N)),(.most,some (.int mo)),(.aQ,some (.int k)),(.way,w)]
theorem sK(h:z::b=(eH N).drop i):z=i/\i<N/\b=(eH N).drop (i+1):=by
 have K:i<N:=nj λy=>by rw[oT.mpr (by refine rE m7 ?_;exact y)] at h;exact mI h
 rw[DN (by refine rE m7 ?_;exact K)] at h;injection h with M O;rw[Mu] at M;exact(aH M K O)
theorem A7(h:[]=(eH N).drop i)(k:i<=N):i=N:=fi k (by have:=oT.mp h.symm;rwa [m7] at this)
theorem Z6(R:FR n a t mo All S)(O:∀ {h M:Hp},S u h->au h M->S u M)(s:S u h)(f:p<u)(r:u<=t.length)(q:∀M,au h M->Q (.bool true) M):runs (n+1) .yb [.ref a,.int p,.int t.length,.int mo] h Q E:=by
 refine aY (dI (os:=[]) rfl tT (g0 (pW (os:=[]) rfl tT (by decide) λy v g D T=>aP (.range T) ?_)));rw[show(3:Int)=((3:Nat):Int) from rfl,li];refine gC (λz:Nat=>V.int z) (λx:Nat×Option V=>Jx a p t.length mo x.1 x.2) (λj x M=>j=(eH 3).drop x.1/\x.1<=3/\au v M) (λz j x M I A B=>jj (I.2.2.at T |>.trans T.symm) ?_) (λx M I=>jj (I.2.2.at T |>.trans T.symm) ?_) (x:=(0,none)) (aH rfl (ca _) ae.refl)
 rotate_left
 ·refine rE (A7 I.1 I.2.1) ?_;exact cH (os:=[]) rfl tT (q M (g.trans I.2.2))
 have d:=sK I.1;have W:=O s (g.trans I.2.2);have next:∀K,au M K->A K (Jx a p t.length mo (x.1+1) (some (.int z))):=λK e=>B (x.1+1,some (.int z)) K (aH d.2.2 d.2.1 (I.2.2.trans e))
 refine vB (aT (aZ (os:=[]) rfl tT (λb=>aU ?_) λb=>aM ?_))
 ·exact bH (mE (os:=[]) (os2:=[]) rfl tT rfl tT (R.cL W f r λK e=>jj rfl (next K e)))
 ·have b:z≠0:=λe=>b (congrArg (λi:Nat=>(i:Int)) e);have G:z<3:=by refine rE d.1 ?_;exact d.2.1
  refine(R.obj W).elim λc k=>k.elim λH k=>bH (Z4 (os:=[]) rfl tT k.1 k.2 (bI (iL (dm (os:=[]) rfl tT λT l X J C=>aG (os:=[]) rfl tT (aP C ?_)))));by_cases m:z=1
  ·refine rE m ?_;exact aP (w:=V.int p) rfl (cu (R.put (O W X) (.inl f) (jj rfl (m▸next l X))))
  ·have o:z=2:=by lia
   refine rE o ?_;exact aP (w:=V.int t.length) rfl (cu (R.put (O W X) (.inr (a6 _)) (jj rfl (o▸next l X))))
noncomputable def Jy(t:List UInt8)(a sh:Nat)(x:Nat×Option V×Option V):M:=[(.text,some (.bytes t)),(.finder,some (.ref a)),(.shape,some (.ref sh)),(.am,x.2.1),(.due,x.2.2)]
theorem Jz(K:FS (n+2) a F t mo (bQ t s w mo) S)(R:FR (n+2) a t mo (bQ t s w mo) S)(R1:FR (n+1) a t mo (bQ t s w mo) S)(N:S 0 h)(P:h sh=some (.list [.int s,.int w,.int mo]))(U:¬F sh)(m:1<=s)(o:t.length<=100)(q:∀c,ae F h c->Q (.bool true) c):runs (n+3) .rI [.bytes t,.ref a,.ref sh] h Q E:=by
 refine aY (g0 (pW (os:=[]) rfl tT ⟨by exact b9 t.length,by exact jL (iY o)⟩ λy Y k y1 X=>aP (.range X) ?_));refine rE li ?_;have f:¬F y:=λz=>K.own N z y1;have S1:=K.keep N k λM M z=>z;refine gC (λz:Nat=>V.int z) (Jy t a sh) (λZ x c=>Z=(eH t.length).drop x.1/\x.1<=t.length/\S x.1 c/\ae F Y c) (λz Z x c I R' hR=>jj ((I.2.2.2 _ _ X f).trans X.symm) ?_) (λx c I=>jj ((I.2.2.2 _ _ X f).trans X.symm) ?_) (x:=(0,none,none)) (dE rfl (ca _) S1 ae.refl)
 rotate_left
 ·exact cH (os:=[]) rfl tT (q c ((k.mono λM z=>z.elim).trans I.2.2.2))
 have d:=sK I.1;obtain rfl:z=x.1:=d.1;have W:=I.2.2.2 _ _ (k.at P) U;refine bR (b7 (os:=[]) rfl tT (vY (n:=n) W m d.2.1 o λf1 h2 r L2=>cG ?_));have S2:=K.keep I.2.2.1 r λM M z=>z;refine aT (cM (dO (sJ (mE (os:=[]) (os2:=[.o (.list [.int s,.int w,.int mo]),.g (.int mo)]) rfl tT rfl (jj (r.at W) rfl) (K.cL S2 d.2.1 λf2 h3 v L3=>L3.elim λts t1 A=>A6 t1 A ?_ λy3 h4 l y4 y5=>?_)))))
 ·refine rE A.length (rE dz ?_);exact aV qe (cZ d.2.1 (aV o (by decide)))
 have B:=(r.trans v).trans l;refine(L2.ext (v.trans l)).elim λus u1 u2=>aG (os:=[]) rfl tT (neT y5 (A.keep λx a b M z=>l.at z) u1 u2 (λM=>fg (aR ?_)) λz=>absurd rfl z);have S4:=K.keep I.2.2.1 B λM M z=>z;have g:∀i,au c i->aE look ac (runs (n+2)) [] [.expr (.ay (.aa .finder) .put [(.aa .am)]),.ite (.not (.aD .yb [(.aa .finder),(.aa .am),(.aB .len [(.aa .text)]),(.sub (.aa .shape) (.int 2))])) [.ret (.bool false)] []] i (Jy t a sh (x.1,some (.int x.1),some (.ref f1)))
   (lq (sq (runs (n+2)) [] [.ret (.bool true)] (fQ Q) (fE E)) R') λM M M=>False:=λi T=>by
  have S6:=K.keep I.2.2.1 T λM M z=>z;refine bH (mE (os:=[]) (os2:=[]) rfl tT rfl tT (K.put S6 d.2.1 λh7 p7 S7=>?_));have P7:ae F Y h7:=(I.2.2.2.trans (T.mono λM z=>z.elim)).trans p7;exact aT (iJ (cM (b7 (os:=[.o (.list [.int s,.int w,.int mo]),.g (.int mo)]) rfl (jj (P7 _ _ (k.at P) U) rfl) (Z6 R1 (λs e=>K.keep s e λM M z=>z) S7 (c7 x.1) d.2.1 λC j=>qf (aR (hR (x.1+1,some (.int x.1),some (.ref f1)) C (dE d.2.2 d.2.1 (K.keep S7 j λM M z=>z) (P7.trans (j.mono λM z=>z.elim)))))))))
 refine aT (cM (dO (od (bI (mE (os:=[]) (os2:=[.o (.list [.int s,.int w,.int mo]),.g (.int mo)]) rfl tT rfl (jj (B.at W) rfl) (R.best S4 d.2.1 λy6 h5 e5 y7 D=>cu (aP D (oa ?_))))))));have E5:=B.trans e5;refine cM (dO (aG (os:=[]) rfl tT (dm (os:=[]) rfl tT λy9 i T M G=>?_)));refine(L2.ext (((v.trans l).trans e5).trans T)).elim λvs H v2=>neT H v2 G (PL.nil (h0:=h)) (λe=>aM (lf (os:=[]) rfl tT λy11 C j M J=>?_)) λe=>aU ?_
 ·refine Jw (j.at (T.at D)) J ?_ ?_ (fg (aR (g C ((E5.trans T).trans j))))
  ·refine rE e ?_;rfl
  ·refine rE e ?_;rfl
 ·refine v2.last.elim (λw=>absurd w.2 e) λw=>w.elim λL w=>w.elim λy' w=>?_;rw[w.1] at H;exact aG (os:=[Ht.o (O.list (L++[V.ref y'])),Ht.g (V.ref y')]) rfl (jj H sy) (Jw (T.at D) w.2.2 rfl rfl (fg (aR (g i (E5.trans T)))))
theorem Z7(K:FS (n+2) a F t mo (λp=>(bQ t s w mo p).take 1) S)(l:S 0 h)(B:h sh=some (.list [.int s,.int w,.int mo]))(C:¬F sh)(e:1<=s)(m:t.length<=100)(q:∀c,ae F h c->Q (.bool true) c):runs (n+3) .yc [.bytes t,.ref a,.ref sh] h Q E:=by
 refine aY (g0 (pW (os:=[]) rfl tT ⟨by exact b9 t.length,by exact jL (iY m)⟩ λy D f G O=>aP (.range O) ?_));refine rE li ?_;have R:¬F y:=λz=>K.own l z G;have H:=K.keep l f λM M z=>z;refine gC (λz:Nat=>V.int z) (λx:Nat×Option V=>[(.text,some (.bytes t)),(.finder,some (.ref a)),(.shape,some (.ref sh)),(.am,x.2)]) (λo x c=>o=(eH t.length).drop x.1/\x.1<=t.length/\S x.1 c/\ae F D c) (λz o x c I R' J=>jj ((I.2.2.2 _ _ O R).trans O.symm) ?_) (λx c I=>jj ((I.2.2.2 _ _ O R).trans O.symm) ?_) (x:=(0,none)) (dE rfl (ca _) H ae.refl)
 rotate_left
 ·exact cH (os:=[]) rfl tT (q c ((f.mono λM z=>z.elim).trans I.2.2.2))
 have d:=sK I.1;obtain rfl:z=x.1:=d.1;have T:=I.2.2.2 _ _ (f.at B) C;refine aT (cM (dO (sJ (mE (os:=[]) (os2:=[.o (.list [.int s,.int w,.int mo]),.g (.int mo)]) rfl tT rfl (jj T rfl) (K.cL I.2.2.1 d.2.1 λf2 h3 L N=>N.elim λts P g=>A6 P g ?_ λy3 h4 r y4 U=>?_)))))
 ·refine rE g.length (rE dz (rE fj ?_));exact aV (eG _ _) (by decide)
 have i:=L.trans r;refine iP (b7 (os:=[]) rfl tT (vY (n:=n) (i.at T) e d.2.1 m λf1 v j Y=>?_));refine Y.elim λA Z u2=>aG (os:=[]) rfl tT (aG (os:=[]) rfl tT (aP Z λy6 k=>?_));have X:au v (v.set y6 (.list (cut A 0 (bA A.length 1)))):=ae.new k;have W:=(j.trans X)
 refine neT ((j.trans X).at U) (g.keep λx a b M z=>X.at (j.at (r.at z))) Hp.set_same ((PL.Z5 u2).keep λx a b M z=>X.at z) (λM=>fg (aR ?_)) λz=>absurd rfl z;have S6:=K.keep I.2.2.1 (i.trans W) λM M z=>z;exact bH (mE (os:=[]) (os2:=[]) rfl tT rfl tT (K.put S6 d.2.1 λh7 p7 S7=>J (x.1+1,some (.int x.1)) h7 (dE d.2.2 d.2.1 S7 ((I.2.2.2.trans ((i.trans W).mono λM z=>z.elim)).trans p7))))
end
section
variable{C:bU}{c:Cs}{h:Hp}{m:M}{Q:Fl->Hp->M->Prop}{E:PE}{r:List S}{os:List Ht}{obs:List Ob}{v:V}
theorem JA(K:cells c (ac i)=some b)(q:∀a d,au h d->h a=none->d a=some (.clos (.lam i) b)->P (.ref a) d m):ev look ac C c (.lam i) h m P E:=by
 show(match cells c (ac i) with |.some b=>(Rs.new (.clos (.lam i) b)).run h λu h=>P u h m |.none=>False);refine rE K ?_;exact λa F=>q a _ (ae.new F) F Hp.set_same
end
def gE(n:Nat)(f:Fn)(K:List Nat)(h:Hp):Prop:=∀(F:Hp) (Q:V->Hp->Prop) (E:Ex->Hp->Prop),au h F->(∀a,au F a->E .ce a)->runs n f (K.map .ref) F Q E
section
variable{n:Nat}{h:Hp}{Q:V->Hp->Prop}{E:Ex->Hp->Prop}{a p u mo s w sh:Nat}{t:List UInt8}
theorem Z8(j:h x=some (.clos f c))(m:h y=some (.clos g o))(r:gE n f c h)(v:gE n g o h)(q:∀b,au h b->Q (.bool true) b):runs (n+1) .lW [.ref x,.ref y] h Q E:=by
 refine aY (dI (os:=[]) rfl tT (g0 (dm (os:=[]) rfl tT λl A T W O=>aP (.list O) (jj rfl ?_))));have step:∀ {z:Nat} {k:Fn} {S:List Nat} {b:Hp} {i:Int} {w:Option V} {X:Fl->Hp->M->Prop},h z=some (.clos k S)->gE n k S h->au A b->(∀F,au b F->X .next F [(.one,some (.ref x)),(.other,some (.ref y)),(.aQ,some (.int (i+1))),(.call,some (.ref z))]) ->
   aE look ac (runs n) [] [.try [.expr (.lY .call)] .ce .aQ 1] b [(.one,some (.ref x)),(.other,some (.ref y)),(.aQ,some (.int i)),(.call,some (.ref z))] X λW W W=>False:=λ{z k S b i w X} B R e C =>
  vB (bH (show ∃f c,b z=some (.clos f c)/\_ from (de k S (e.at (T.at B)) (R b _ _ (T.trans e) λF K=>jj rfl (C F K)))))
 refine step (w:=none) j r ae.refl λG K=>jj (K.at O |>.trans O.symm) (step (w:=none) m v K λD d=>jj ((K.trans d).at O |>.trans O.symm) ?_);exact cH (os:=[]) rfl tT (q D ((T.trans K).trans d))
theorem JB(K:1<=l)(O:l<=4)(S:t.length<=100)(M:t.length<=i):FR (n+3) a t mo (bQ t l w mo) λu h=>iO a r d b g s e t l w i u h where
 cL R c f q:=bZ R λA L F I=>(fK _ _ _ F.x (.own rfl rfl) (Jn F.x c (q _ ae.refl)))
 put R c q:=bZ R λA L F I=>sG F.x (.field rfl rfl) (.field rfl rfl) rfl (show 9<100 by decide) (λx=>.own rfl rfl) (λa1 a2=>absurd c (by lia)) λV=>q
 obj R:=bZ R λA L F I=>(de _ _ F.x (.own rfl rfl))
 best R f q:=bZ R λA L F I=>(fK _ _ _ F.x (.own rfl rfl) (Jb F.x (.own rfl rfl) (λW T=>AW R K O f S (ah (aO f) M) T) q))
theorem JC(M:t.length<=100)(K:t.length<=d)(F:3<=mo):FR (n+4) A.a t mo (bQ t 2 w mo) λu h=>Lay A t w d u u u h/\A.tree t w d u h where
 cL R c b q:=(fK _ _ _ R.1.x (.own rfl rfl) (ZX R.1 R.2 c b M F q))
 put R c q:=sG R.1.x (.field rfl rfl) (.field rfl rfl) rfl (show 7<100 by decide) (λx=>.own rfl rfl) (λa1 a2=>absurd c (by lia)) λS=>q
 obj R:=(de _ _ R.1.x (.own rfl rfl))
 best R b q:=(fK _ _ _ R.1.x (.own rfl rfl) (Jb R.1.x (.own rfl rfl) (λT O=>A0 R.1 R.2 b M (ah (aO b) K) F O) q))
theorem Z9(R:Fin h a r d b t l w e 0)(F:l<=4)(K:t.length<=100)(q:∀c,ae (ka a r d b) h c->Fin c a r d b t l w e t.length->Q .none c):runs (n+5) .rA [.ref a,.int t.length] h Q E:=by
 refine aY (mw (λ_:Nat=>[(.self,some (.ref a)),(.end,some (.int t.length))]) (λu=>t.length - u) (λu c=>u<=t.length/\Fin c a r d b t l w e u/\ae (ka a r d b) h c) 0 (aH (ca _) R ae.refl) λu c I V M=>?_);refine aZ (os:=[.o (jt t l w e u r)]) rfl I.2.1.x (λz=>aU ?_) λz=>aM ?_
 ·have z:=aS.mp z;exact bH (bS (os:=[]) (os2:=[.o (jt t l w e u r)]) rfl tT I.2.1.x (.own rfl rfl) rfl I.2.1.x (Jf I.2.1 F z K λO S T=>M (u+1) O (jA z (c7 u)) (aH z T (I.2.2.trans S))))
 ·have z:u=t.length:=fi I.1 (c6 λy=>z (aS.mpr y));exact q c I.2.2 (z▸I.2.1)
theorem qg{n:Nat}{E:PE}{os:List Ht}{F:List Ob}(M:look d .init=.aX f)(O:dN c m e os=some (g,[],F))(R:bd h F)
  (q:∀a b,au h b->h a=none->b a=some (.inst d m0)->runs n f (.ref a::g) b (λv h=>v=.none/\P (.ref a) h m) λx h=>E x h m):ev look ac (runs n) c (.bN d e) h m P E:=mu M O R λa K=>q a _ (ae.new K) K Hp.set_same
theorem acK{n:Nat}{K M F:Int}(O:h a=some (.inst .fL m0))(k:¬(1<=K/\1<=M/\1<=F))(q:E .ce h):runs (n+2) .xX [.ref a,.bytes t,.int K,.int M,.int F] h Q E :=
 aY (bH (mv (os:=[]) rfl rfl tT (mA O ⟨rfl,rfl,rfl,rfl,rfl⟩ (λa1 a2 R=>absurd (aH a1 a2 R) k) λS=>q)))
theorem acL{n:Nat}{K M F:Int}(O:h a=some (.inst .fc m0))(k:¬(1<=K/\1<=M/\1<=F))(q:E .ce h):runs (n+2) .xY [.ref a,.bytes t,.int K,.int M,.int F] h Q E :=
 aY (bH (mv (os:=[]) rfl rfl tT (mA O ⟨rfl,rfl,rfl,rfl,rfl⟩ (λa1 a2 R=>absurd (aH a1 a2 R) k) λS=>q)))
theorem Z'{n:Nat}{wi chi:Int}(M:h a=some (.inst .dQ m0))(k:¬(1<=wi/\1<=chi))(q:∀b,au h b->E .ce b):runs (n+2) .xZ [.ref a,.bytes t,.int wi,.int chi] h Q E:=by
 refine aY (λF R=>?_);have K:au h (h.set F (.cell (some (.ref a)))):=ae.new R;have O:(h.set F (.cell (some (.ref a)))) F=some (.cell (some (.ref a))):=Hp.set_same;exact bH (mv (os:=[.g (.ref a),.g (.ref a),.o (.inst .dQ m0),.g (.int 2)]) rfl rfl (jj (jj (jj O O) (K.at M)) rfl) (mA (K.at M) ⟨rfl,rfl,rfl,rfl,rfl⟩ (λS a2 T=>absurd ⟨a2,T⟩ k) λS=>q _ K))
theorem JD{n:Nat}{i:Int}(k:i<1)(q:E .ce h):runs (n+1) .x7 [.ref a,.int i] h Q E :=
 aY (aT (aZ (os:=[]) rfl tT (λF=>aU (jp (aG (os:=[]) rfl tT (jj (show kt _<=1000 by decide) q)))) λz=>absurd k z))
theorem JF{o1 o2 o3:V}(K:b ≠ "chain")(M:b ≠ "tree")(O:b ≠ "layers")(q:E .ce h):runs (n+1) .i4 [.str b,.bytes t] h Q E :=
 aY (aT (aZ (os:=[]) rfl tT (λz=>absurd z K) λF=>aM (aR (aT (aZ (os:=[]) rfl tT (λz=>absurd z M) λF=>aM (aR (aT (aZ (os:=[]) rfl tT (λz=>absurd z O) λF=>aM (aR (jp (aG (os:=[]) rfl tT (jj (show kt _<=1000 by decide) q))))))))))))
end
structure Box(h:Hp)(b k:Nat)(x3:Int)(x0 x1 x2:Int):Prop where
 ls:h b=some (.list [.int x0,.int x1,.int x2,.int x3])
 a0:0<=x1
 a1:x1<2147483648
 b0:0<=x2
 b1:x2<=k
def ck(h:Hp)(b k:Nat)(F:Int):Prop:=∃a c d,Box h b k F a c d
theorem ck.keep{b k:Nat}{K:Int}(B:ck h b k K){F:Nat->Prop}(p:ae F h a)(n:¬F b):ck a b k K:=iu B λM O R B=>⟨M,O,R,p _ _ B.ls n,B.a0,B.a1,B.b0,B.b1⟩
theorem ck.more{b k F:Nat}{K:Int}(B:ck h b k K)(l:k<=F):ck h b F K:=iu B λM O R B=>⟨M,O,R,B.ls,B.a0,B.a1,B.b0,dT B.b1 (bt.mpr l)⟩
theorem ck.ne{b k z:Nat}{K:Int}(B:ck h b k K)(F:h z=none):z≠b:=λe=>iu B λM O R B=>by rw[e,B.ls] at F;exact cX F
theorem kb{x:Int}(F:0<=x)(h:x<1099511627776):x.natAbs<iA:=lh (bn (show x.natAbs<1099511627776 by exact xS rfl F h) (by decide))
section
variable{n:Nat}{h:Hp}{Q:V->Hp->Prop}{E:Ex->Hp->Prop}{b k:Nat}{x3 many:Int}
def aaa(h:Hp)(b k:Nat)(x3 many:Int)(Q:V->Hp->Prop):Prop:=∀d a,0<=d->d<many->ae (·=b) h a->ck a b (k+1) x3->Q (.int d) a
theorem oq{i many:Int}(F:0<many):0<=i%many/\i%many<many:=⟨Int.emod_nonneg _ (Df F),Int.emod_lt_of_pos _ F⟩
theorem lj(B:ck h b k x3)(T:k<=1000)(O:0<many)(X:many<1073741824)(q:aaa h b k x3 many Q):runs (n+1) .bT [.ref b,.int many] h Q E:=by
 refine iu B λK M F B=>?_;have R:=B.ls;refine aY (aT (aZ (os:=[.o (.list [.int K,.int M,.int F,.int x3]),.g (.int K)]) rfl (jj R rfl) (λz=>aU ?_) λz=>aM (aR ?_)))
 ·refine dI (os:=[.o (.list [.int K,.int M,.int F,.int x3]),.g (.int K)]) rfl (jj (jj R rfl) O) ?_;refine j4 (os:=[.o (.list [.int K,.int M,.int F,.int x3]),.g (.int K)]) (o1:=[]) (o2:=[]) rfl (jj (jj R rfl) ⟨O,X⟩) rfl tT rfl tT (oi R (hM 0) (show(0:Int)<((4:Nat):Int) by decide) (cH (os:=[]) rfl tT ?_));exact q _ _ (oq O).1 (oq O).2 (ae.set rfl) ⟨K / many,M,F,Hp.set_same,B.a0,B.a1,B.b0,dT B.b1 (bt.mpr (dc k))⟩
 ·refine j4 (os:=[.o (.list [.int K,.int M,.int F,.int x3]),.g (.int F)]) (o1:=[]) (o2:=[]) rfl (jj R rfl) rfl tT rfl tT (oi R (by decide) (show(2:Int)<((4:Nat):Int) by decide) ?_);have V:(h.set b (.list [.int K,.int M,.int (F+1),.int x3])) b=some (.list [.int K,.int M,.int (F+1),.int x3]):=Hp.set_same;have c:=B.a0;have a1:=B.a1;have W:=B.b0;have S:=B.b1;refine dI (os:=[.o (.list [.int K,.int M,.int (F+1),.int x3]),.g (.int M),.o (.list [.int K,.int M,.int (F+1),.int x3]),.g (.int (F+1))]) rfl (jj (jj (jj (jj (jj (jj V rfl) V) rfl) ⟨kb (by decide) (by decide),kb (D1 W) (by exact jw (mN (dT S (jK T)) 1) (by decide))⟩) (aH (by decide) (by decide) (kb (by lia) (by exact OL T a1 S)))) (show(0:Int)<2147483647 by decide)) ?_;have a:=oq (i:=(M+40031*(F+1)+7)^(5:Int).toNat) (many:=2147483647) (by decide);refine dI (os:=[.o (.list [.int K,.int M,.int (F+1),.int x3]),.g (.int (F+1))]) rfl (jj (jj (jj (jj V rfl) ⟨kb (by decide) (by decide),kb (D1 W) (by exact jw (mN (dT S (jK T)) 1) (by decide))⟩) (aH (by decide) (by decide) (kb (by exact D2 a.1 (Int.mul_nonneg (by decide) (D2 W (by decide)))) (by exact OK T S a.2)))) (show(0:Int)<2147483587 by decide)) ?_;refine cH (os:=[]) rfl (jj (show(0:Int)<16/\(16:Int)<1073741824 by decide) O) (q _ _ (oq O).1 (oq O).2 (ae.set rfl) ⟨K,M,F+1,V,c,a1,by exact D1 W,by exact mN S 1⟩)
theorem JG{j:Nat}:(0:Int)<10^j:=Dg (by decide)
end
section
variable{n:Nat}{h:Hp}{Q:V->Hp->Prop}{E:Ex->Hp->Prop}
noncomputable def aab(F:Nat)(x:Int×Int×Option V):M:=[(.script,some (.ref F)),(.whole,some (.int x.1)),(.under,some (.int x.2.1)),(.cell,x.2.2)]
theorem aac{R:Nat}{F:List Int}(O:h R=some (.ro y (F.map .int)))(q:∀b c d,(c=4\/c=14)->au h d->h b=none->ck d b 0 c->Q (.ref b) d):runs (n+1) .Fc [.ref R] h Q E:=by
 refine aY (j5 (os:=[]) rfl tT λK f=>?_);have a1:=f.at O;refine g0 (iP (aG (os:=[]) rfl tT (aG (os:=[]) rfl tT (aG (os:=[]) rfl tT (aP a1 λl o=>aP (.list Hp.set_same) ?_)))));have S:au K (K.set l (.list (cut (F.map .int) 0 (bA (F.map V.int).length 24)))):=ae.new o;have p:cut (F.map V.int) 0 (bA (F.map V.int).length 24)=(cut F 0 (bA F.length 24)).map V.int:=by
  unfold cut;rw[dq,←NG,←D3]
 have g:(cut F 0 (bA F.length 24)).length<=24:=by
  unfold cut;refine rE ni (rE fj ?_);refine ah (eG _ _) ?_;rw[show bA F.length 24=min 24 F.length from qZ _ 24];exact eG _ _
 rw[p] at S ⊢;generalize cut F 0 (bA F.length 24)=e at g S;have B:(K.set l (.list (e.map V.int))) l=some (.list (e.map V.int)):=Hp.set_same;have T:(10:Int)^(70:Int).toNat<2^240:=by decide
 refine gC V.int (aab R) (λW x d=>d=K.set l (.list (e.map V.int))/\0<=x.1/\x.1<2^240/\0<=x.2.1/\x.2.1+W.length<=24) (λz W x d I C r=>jj (congrFun I.1 l) ?_) (λx d I=>jj (congrFun I.1 l) ?_) (x:=(0,0,none)) (xH rfl (hM 0) (by decide) (hM 0) (by rw[DZ];exact bt.mpr g))
 ·have s:=I.2.2.2.2;rw[qR] at s;have t:x.1.natAbs<iA:=by
   unfold iA;exact bn (show x.1.natAbs<2^240 by have:=I.2.1;have:=I.2.2.1;exact xS (by decide +kernel) I.2.1 I.2.2.1) (DO (by decide) (by decide))
  have M:=oq (i:=x.1*1009+z.natAbs) (many:=10^(70:Int).toNat) JG;refine dI (os:=[]) rfl (jj (jj ⟨t,lh (by decide)⟩ (aH (by decide) (by decide) (lh (by decide)))) JG) (dI (os:=[]) rfl tT (r (_,_,some (.int z)) d (xH I.1 M.1 (kf M.2 T) ?_ ?_)))
  ·have:=I.2.2.2.1;show 0<=x.2.1+(if decide (z<0)=true then 1 else 0);split<;>exact D2 I.2.2.2.1 (by decide)
  ·show x.2.1+(if decide (z<0)=true then 1 else 0)+(W.length:Int)<=24;split<;>lia
 ·have D:=I.2.2.2;rw[I.1];have M:=oq (i:=x.1+40031*x.2.1+37003) (many:=2147483629) (by decide);have j:au h (K.set l (.list (e.map V.int))):=f.trans S;have u:=I.2.2.2.1;have v:=I.2.2.2.2;have X:(0:Int)<=18/\(18:Int)<=100/\(10:Int).natAbs<iA:=(aH (by decide) (by decide) (lh (by decide)))
  have w:(0:Int)<=6/\(6:Int)<=100/\(10:Int).natAbs<iA:=(aH (by decide) (by decide) (lh (by decide)))
  refine cC (iK (d5 (os:=[]) rfl X (d5 (os:=[]) rfl (jj ⟨lh (by decide),kb u (by rw[show([]:List Int).length=0 from rfl] at v;grind)⟩ (show(0:Int)<2147483629 by decide)) (d5 (os:=[]) rfl tT (bI (iL (dm (os:=[]) rfl tT λG H m J A=>aG (os:=[]) rfl w (aP A ?_))))))));have key:∀b:Bool,∃c:Int,(c=4\/c=14)/\dr [V.int 4,V.int 14] (if b=true then 1 else 0)=some (.int c):=λb=>by
   rcases b with ⟨⟩
   ·exact(aq 4 (.inl rfl) rfl)
   ·exact(aq 14 (.inr rfl) rfl)
  refine(key _).elim λc k=>aP k.2 (cu λa O=>q a c _ k.1 ((j.trans m).trans (ae.new O)) (eh (j.trans m) O) ⟨_,_,0,Hp.set_same,M.1,kf M.2 (by decide),hM 0,hM 0⟩)
end
theorem A8{C:bU}{c:Cs}{h:Hp}{m:M}{E:PE}{e:X}{P:PV}(q:ev look ac C c e h m (λv h m=>(kB .range [v]).run h λv h=>P v h m) E):ev look ac C c (.aB .range [e]) h m P E:=q
theorem A9{h:Hp}{i:Int}{n:Nat}{P:V->Hp->Prop}(e:i=n)(K:n<1000000)(q:∀a b,au h b->h a=none->b a=some (.range 0 n 1)->P (.ref a) b):(kB .range [.int i]).run h P :=
 ⟨⟨by exact e▸fW (by decide) (b9 _),by exact e▸kf (jL K) (by decide)⟩,λa F=>by refine rE e ?_;exact q a _ (ae.new F) F Hp.set_same⟩
def g9(F:List Int):Prop:=∀x∈F,0<=x/\x<256
theorem JH:∀ {xs:List Int},g9 xs->∃t,jR (xs.map V.int)=some t/\t.length=xs.length
 |[],_=>(aq [] rfl rfl)
 |x::xs,h=>by
  refine ak (JH (xs:=xs) λy F=>h y (.tail _ F)) λt K M=>?_;refine(aq (dU x.toNat::t) ?_ (congrArg (·+1) M));show(if 0<=x/\x<256 then (jR (xs.map V.int)).map (dU x.toNat::·) else none)=_;refine rE (if_pos (h x (.head _))) (rE K ?_);rfl
theorem g9.app{F K:List Int}(a:g9 F)(b:g9 K):g9 (F++K):=λx h=>(Mh.mp h).elim (a x) (b x)
theorem g9.cut{F:List Int}(a:g9 F)(lo K:Nat):g9 (cut F lo K):=λx h=>a x (NA (List.mem_of_mem_drop h))
theorem Ba{F O:Type}{f:F->O}{K:List F}{lo M:Nat}:cut (K.map f) lo M=(cut K lo M).map f:=by unfold cut;exact rF NG (rF D3 rfl)
theorem aad{K:Type}{M:List K}{lo F:Nat}:(cut M lo F).length<=F - lo:=by unfold cut;refine rE gR (rE fj ?_);exact xx (eG _ _) _
noncomputable def ii(F:List Int):O:=.list (F.map V.int)
theorem aae{d:Int}(F:0<=d)(K:d<3):∃w:Int,dr [V.int 0,V.int 255,V.int 1] d=some (.int w)/\0<=w/\w<256:=by
 obtain rfl |rfl |rfl:d=0\/d=1\/d=2:=n_3 F K
 ·exact(aq 0 rfl (by decide))
 ·exact(aq 255 rfl (by decide))
 ·exact(aq 1 rfl (by decide))
theorem abW{h:Hp}{x y:Nat}{F:List Int}{T:Bool->Prop}(K:h x=some (ii F))(M:h y=some (.list []))(O:F=[]->T false)(R:F≠[]->T true):fO .ne h (.ref x) (.ref y) λr=>cD (.bool r) T:=by
 have key:∀F:List Int,mJ h (F.map V.int)=some (F.map λi=>(false,[i])):=λF=>by
  induction F with
  |nil=>rfl
  |cons x F a =>
   show(some (false,[x])).bind (λd=>(mJ h (F.map V.int)).map (d::·))=_;refine rE a ?_;rfl
 refine⟨_,K,_,M,_,key F,_,rfl,?_⟩;show T (!decide (F.map (λi=>(false,[i]))=[]));induction F with
 |nil=>exact O rfl
 |cons x F=>refine rE (decide_eq_false (by rw[oU];nofun)) ?_;exact R nofun
section
variable{n:Nat}{h:Hp}{Q:V->Hp->Prop}{E:Ex->Hp->Prop}{b k c1 c2:Nat}{x3:Int}
noncomputable abbrev v0(c1 c2:Nat):Cs:=[(.o9,c2),(.box,c1)]
structure GT where
 i:Nat
 f:Nat
 xs:List Int
 tu:Option V
 be:Option V
noncomputable def qh(x:GT):M:=[(.box,none),(.aQ,some (.ref x.f)),(.turn,x.tu),(.begin,x.be)]
structure JT(h0:Hp)(b c1 c2:Nat)(x3 le:Int)(x:GT)(h:Hp):Prop where
 p:ae (·=b) h0 h
 box:ck h b (2+7*x.i) x3
 f:h x.f=some (ii x.xs)
 o:g9 x.xs
 len:x.xs.length<=7*x.i
 pos:0<x.i->x.xs≠[]
 fb:x.f≠b
theorem JT.grow{M:Hp}{O:Int}{x:GT}{R F:Hp}{K:List Int}{k:Nat}{S T:Option V}{f:Nat}(j:JT M b c1 c2 x3 O x R)(p:ae (·=b) R F)(B:ck F b k x3)(W:k<=2+7*(x.i+1))(X:F f=some (ii (x.xs++K)))(a:g9 K)(c:K.length<=7)(d:x.xs++K≠[])(e:f≠b):
  JT M b c1 c2 x3 O ⟨x.i+1,f,x.xs++K,S,T⟩ F:=⟨j.p.trans p,B.more W,X,j.o.app a,by have:=j.len;show(x.xs++K).length<=7*(x.i+1);refine rE cA ?_;exact jx this c,λg=>d,e⟩
noncomputable def aaf:List S:=[.ite (.and (.cmp (.aa .aQ) .ne (.list [])) (.cmp (.aD .bT [(.bh .box),(.int 2)]) .eq (.int 0)))
    [.assign .begin (.aD .bT [(.bh .box),(.aB .len [(.aa .aQ)])]),.assign .aQ (.bin .add (.aa .aQ) (.slice (.aa .aQ) (.aa .begin) (.bin .add (.bin .add (.aa .begin) (.int 2)) (.aD .bT [(.bh .box),(.int 6)]))))]
    [.assign .aQ (.bin .add (.aa .aQ) (.comp (.sub (.list [(.int 0),(.int 255),(.int 1)]) (.aD .bT [(.bh .box),(.bh .o9)])) .k (.aB .range [(.bin .add (.int 1) (.aD .bT [(.bh .box),(.int 5)]))]) (.bool true)))]]
theorem JI{f:Int}{p:Hp}{x:GT}{Q:Fl->Hp->M->Prop}{E:PE}{m:Hp}{k:Nat}(j:JT m b c1 c2 x3 f x p)(s:x.i<5)(a1:m c1=some (.cell (some (.ref b))))(a2:m c2=some (.cell (some (.int f))))(t:c1≠b)(L:c2≠b)(l0:0<f)(N:f<=3)
  {u:Hp} (p1:ae (·=b) p u) (B1:ck u b k x3) (A:k<=2+7*x.i+1) (W:x.f≠b) (q:∀a C,C.i=x.i+1->ae (·=b) p a->JT m b c1 c2 x3 f C a->Q .next a (qh C)) :
  aE look ac (runs (n+1)) (v0 c1 c2) [.assign .aQ (.bin .add (.aa .aQ) (.comp (.sub (.list [(.int 0),(.int 255),(.int 1)]) (.aD .bT [(.bh .box),(.bh .o9)])) .k (.aB .range [(.bin .add (.int 1) (.aD .bT [(.bh .box),(.int 5)]))]) (.bool true)))] u (qh x) Q E:=by
 have P:=j.p.trans p1;refine bR (dk (aG (os:=[]) rfl tT (sJ (A8 (dk (aG (os:=[]) rfl tT (b7 (os:=[.g (.ref b)]) rfl (P _ _ a1 t) (lj B1 (by exact ON s A) (by decide) (by decide) λd h2 U Y o Z=>?_))))))));have P2:=P.trans o;have i:d.toNat<=4:=xN Y (by decide);refine A9 (n:=d.toNat+1) (Ed U) (Ei U Y (by decide)) λr h3 g hr l=>aP (.range l) ?_;refine rE li ?_;have rb:r≠b:=λe=>by refine iu Z λK K K B=>?_;have:=B.ls;rw[←e,hr] at this;exact aN this
 have f2:h2 x.f=some (ii x.xs):=o _ _ (p1 _ _ j.f W) W;refine sx (λvs X S=>∃O:List Int,S=O.map V.int/\g9 O/\vs.length+O.length=d.toNat+1/\ae (·=b) h3 X/\ck X b (k+1+O.length) x3) (λX S I=>?_) (λv vs X S I R hR=>?_) (t9 [] rfl (λK h=>(dx h)) (by simp) ae.refl (Z.keep g id))
 ·refine I.elim λO I=>jj ((I.2.2.2.1 _ _ l rb).trans l.symm) λy D=>?_;have f4:X x.f=some (ii x.xs):=I.2.2.2.1 _ _ (g.at f2) W;have G:O≠[]:=λe=>by have:=I.2.2.1;rw[e] at this;exact absurd this (by simp)
  have c:O.length=d.toNat+1:=by have:=I.2.2.1;simpa using this
  have lx:=j.len;refine aP ((Hp.cJ (fresh_ne f4 D)).trans f4) (aP Hp.set_same (jj ?_ λz hz=>?_))
  ·rw[I.1,dq,dq,dz];exact On s lx c i
  ·have T:au X ((X.set y (.list S)).set z (.list (x.xs.map V.int++S))):=(ae.new D).trans (ae.new hz);refine q _ ⟨x.i+1,z,x.xs++O,x.tu,x.be⟩ rfl (((p1.trans o).trans (g.mono λK z=>z.elim)).trans (I.2.2.2.1.trans (T.mono λK z=>z.elim))) (j.grow (k:=k+1+O.length) (((p1.trans o).trans (g.mono λK z=>z.elim)).trans (I.2.2.2.1.trans (T.mono λK z=>z.elim))) (I.2.2.2.2.keep T id) (Oo A c i) ?_ I.2.1 (c▸ah (db i) (by decide)) (NF _ G) ((I.2.2.2.2.keep (ae.new (F:=λK=>False) D) id).ne hz));refine rE I.1 ?_;unfold ii;refine rE no ?_;exact Hp.set_same
 ·refine I.elim λO I=>jj ((I.2.2.2.1 _ _ l rb).trans l.symm) (aG (os:=[]) rfl tT (pV (iL (dm (os:=[]) rfl tT λz h5 T z0 z1=>b7 (os:=[.g (.ref b),.g (.int f)]) rfl (jj ?_ ?_) (lj (k:=k+1+O.length) (I.2.2.2.2.keep T id) ?_ l0 (Oa N) λd' h6 H J p6 B6=>?_)))))
  ·exact T.at (I.2.2.2.1 _ _ (g.at (P2 _ _ a1 t)) t)
  ·exact T.at (I.2.2.2.1 _ _ (g.at (P2 _ _ a2 L)) L)
  ·exact Om s A I.2.2.1 i
  ·have zb:z≠b:=λe=>by refine iu I.2.2.2.2 λK K K B=>?_;have:=B.ls;rw[←e,z0] at this;exact aN this
   refine(aae H (fW J N)).elim λw k=>aP (p6 _ _ z1 zb) (aP k.1 (jj ?_ (hR h6 _ (t9 (O++[w]) ?_ (I.2.1.app λx hx=>?_) ?_ (I.2.2.2.1.trans ((T.mono λK z=>z.elim).trans p6)) ?_))))
   ·rw[I.1,dq,dz];exact Op I.2.2.1 i
   ·refine rE I.1 (rE no ?_);rfl
   ·refine rE (tO.mp hx) ?_;exact k.2
   ·have:=I.2.2.1;refine rE cA ?_;rw[qR] at this;simp only[List.length_singleton];rw[←this,sY];rfl
   ·refine rE cA ?_;exact B6
end
theorem JJ{i j:Int}{T:Bool->Prop}(F:i=j->T true)(K:i≠j->T false):fO .eq h (.int i) (.int j) λr=>cD (.bool r) T:=by
 show T (decide (i=j));by_cases e:i=j
 ·refine rE (decide_eq_true e) ?_;exact F e
 ·refine rE (decide_eq_false e) ?_;exact K e
theorem aag{n:Nat}{d k:Int}(F:0<=d)(K:0<=k)(M:k<=7):bA n (d+k) - bA n d<=7:=by
 rw[show d=d.toNat from (lw F).symm,show k=k.toNat from (lw K).symm,←oD,qZ,qZ];refine qu ?_;rw[←Nat.add_min_add_left];exact iX.mpr ⟨ah (eG _ _) (by rw[gJ];exact dS (sU.mpr M) _),ah (gI _ _) (gN _ _)⟩
theorem v1(F:cF c x=none)(q:aE look ac C c r h (bu m x v) Q E):kA C c x r Q E v h m:=by
 unfold kA gX;refine rE F ?_;exact q
section
variable{n:Nat}{h:Hp}{Q:V->Hp->Prop}{E:Ex->Hp->Prop}{b k c1 c2:Nat}{x3:Int}
theorem aah{f:Int}{Q:Fl->Hp->M->Prop}{E:PE}{m:Hp}(j:JT m b c1 c2 x3 f x o)(X:x.i<5)(a1:m c1=some (.cell (some (.ref b))))(a2:m c2=some (.cell (some (.int f))))(g:c1≠b)(D:c2≠b)(G:0<f)(H:f<=3)(O:x.f≠b)
  (q:∀a c,c.i=x.i+1->ae (·=b) o a->JT m b c1 c2 x3 f c a->Q .next a (qh c)):aE look ac (runs (n+1)) (v0 c1 c2) aaf o (qh x) Q E:=by
 refine aT (fU (cM (dO (aG (os:=[]) rfl tT (dm (os:=[]) rfl tT λy I S T y1=>abW (S.at j.f) y1 (λT=>aM (fg ?_)) λJ=>aU ?_)))))
 ·exact JI j X a1 a2 g D G H (S.mono λT z=>z.elim) (j.box.keep S id) (dc _) O λa c s p t=>q a c s p t
 ·have L:=j.p.trans (S.mono λT z=>z.elim);refine cM (dO (b7 (os:=[.g (.ref b)]) rfl (L _ _ a1 g) (lj (j.box.keep S id) (by exact ah (d9 (rj (aO X))) (by decide)) (by decide) (by decide) λd h2 d0 K r U=>aG (os:=[]) rfl tT (JJ (λT=>vZ ?_) λT=>fg ?_))))
  ·have Y:h2 x.f=some (ii x.xs):=r _ _ (S.at j.f) O;have Z:=j.len;have P2:=L.trans r;have i:0<x.xs.length:=D4.mpr J;have u:(x.xs.map V.int).length=x.xs.length:=dq _;refine bR (b7 (os:=[.g (.ref b),.o (ii x.xs)]) rfl (jj (P2 _ _ a1 g) Y) (lj U (by exact ah (rj (aO X)) (by decide)) (by rw[u];exact aS.mpr i) (by rw[u];exact OM X Z) λK h3 v d11 w B3=>?_));have f3:h3 x.f=some (ii x.xs):=w _ _ Y O;have P3:=P2.trans w;refine v1 rfl (bR (dk (aG (os:=[]) rfl tT ?_)));refine iP (aG (os:=[]) rfl tT (aG (os:=[]) rfl tT ?_));refine dk (aG (os:=[]) rfl tT (b7 (os:=[.g (.ref b)]) rfl (P3 _ _ a1 g) (lj B3 (by exact ah (db (rj (aO X))) (by decide)) (by decide) (by decide) λe l d20 d21 p4 B4=>?_)));have A:l x.f=some (ii x.xs):=p4 _ _ f3 O;have W:∀N,(cut x.xs (bA N K) (bA N (K+2+e))).length<=7:=λN=>by
    have:=aag (n:=N) (d:=K) (k:=2+e) v (by lia) (by lia);rw[←s5] at this;exact ah aad this
   refine aP A λy2 R=>aP ((Hp.cJ (fresh_ne A R)).trans A) (aP Hp.set_same (jj ?_ λz B=>?_))
   ·exact ah (jx (show _<=35 by rw[u];exact ah Z (mM 7 (aO X))) (show _<=7 by rw[Ba,dq];exact W _)) (by rw[dz];decide)
   ·have e5:ae (·=b) l ((l.set y2 (.list (cut (x.xs.map V.int) (bA (x.xs.map V.int).length K) (bA (x.xs.map V.int).length (K+2+e))))).set z (.list (x.xs.map V.int++cut (x.xs.map V.int) (bA (x.xs.map V.int).length K) (bA (x.xs.map V.int).length (K+2+e))))):=(ae.new R).trans (ae.new B);have C:au l ((l.set y2 (.list (cut (x.xs.map V.int) (bA (x.xs.map V.int).length K) (bA (x.xs.map V.int).length (K+2+e))))).set z (.list (x.xs.map V.int++cut (x.xs.map V.int) (bA (x.xs.map V.int).length K) (bA (x.xs.map V.int).length (K+2+e))))):=(ae.new R).trans (ae.new B);have P:=((((S.mono λT z=>z.elim:ae (·=b) o I).trans r).trans w).trans p4).trans e5;refine q _ ⟨x.i+1,z,x.xs++cut x.xs (bA (x.xs.map V.int).length K) (bA (x.xs.map V.int).length (K+2+e)),x.tu,some (.int K)⟩ rfl P (j.grow P (B4.keep C id) (by lia) ?_ (j.o.cut _ _) ?_ (List.append_ne_nil_of_left_ne_nil J _) ((B4.keep (ae.new (F:=λT=>False) R) id).ne B))
    ·unfold ii;rw[no,←Ba];exact Hp.set_same
    ·exact W _
  ·exact JI j X a1 a2 g D G H ((S.mono λT z=>z.elim:ae (·=b) o I).trans r) U (by exact a6 _) O λa c s p t=>q a c s p t
theorem aai:g9 [0,1,2,3,0,1,2,0,0,1,2,3]:=by unfold g9;decide
theorem sL{i j:Int}(q:P (.int (i+j)) h):(iS .add (.int i) (.int j)).run h P:=q
theorem aaj{g:Hp}{a1 a2:Nat}(c:x3=4\/x3=14)(c1:g a1=some (.cell (some (.ref b))))(c2:g a2=some (.cell none))(B2:ck g b 0 x3)(i:a1≠b)(C:a2≠b)(J:h a2=none)(E2:au h g)(q:∀t a,1<=t.length->t.length<=14->ae (·=b) h a->ck a b 40 x3->Q (.bytes t) a):
  aE look ac (runs (n+1)) (v0 a1 a2) (prog .ya).body g [(.box,none),(.aQ,none),(.turn,none),(.begin,none)] (fQ Q) (fE E):=by
 have L:a1≠a2:=λe=>by rw[e,c2] at c1;exact nomatch c1
 refine jq (bI (dk (aG (os:=[]) rfl tT (b7 (os:=[.g (.ref b)]) rfl c1 (lj B2 (by decide) (by decide) (by decide) λd h3 d0 d1 D B3=>sL (bI (iK (cu λf G=>cu (iI λO e4=>?_)))))))));have S:au h3 O:=(ae.new G).trans e4;have N:O a2=some (.cell none):=S.at (D _ _ c2 C);refine aP N ?_;have H:ae (·=a2) O (O.set a2 (.cell (some (.int (1+d))))):=ae.set rfl;have U:f≠a2:=λe=>by rw[e,D _ _ c2 C] at G;exact cX G
 have f5:(O.set a2 (.cell (some (.int (1+d))))) f=some (ii []):=H _ _ (e4.at Hp.set_same) U;have M:(O.set a2 (.cell (some (.int (1+d))))) a1=some (.cell (some (.ref b))):=H _ _ (S.at (D _ _ c1 i)) L;have l:(O.set a2 (.cell (some (.int (1+d))))) a2=some (.cell (some (.int (1+d)))):=Hp.set_same;have B5:ck (O.set a2 (.cell (some (.int (1+d))))) b 1 x3:=(B3.keep S id).keep H C.symm;have fb:=B3.ne G;have P5:ae (λx=>x=b) h (O.set a2 (.cell (some (.int (1+d))))):=λx o c hb=>H x o (S.at (D x o (E2.at c) hb)) λe=>by
  rw[e,J] at c;exact aN c
 generalize (O.set a2 (.cell (some (.int (1+d)))))=h5 at f5 M l B5 P5;refine g0 (A8 (dk (aG (os:=[]) rfl tT (b7 (os:=[.g (.ref b)]) rfl M (lj B5 (by decide) (by decide) (by decide) λY h6 m W p6 B6=>A9 (n:=Y.toNat+2) (Ed m) (Ei m W (by decide)) λr h7 e7 hr s=>aP (.range s) ?_)))));refine rE li ?_;have rb:=B6.ne hr;have u:ae (·=b) h5 h7:=p6.trans (e7.mono λR z=>z.elim);refine gC (λz:Nat=>V.int z) qh (λzs x a=>zs=(eH (Y.toNat+2)).drop x.i/\x.i<=Y.toNat+2/\JT h5 b a1 a2 x3 (1+d) x a/\ae (·=b) h7 a) (λz zs x a I R' hR=>jj ((I.2.2.2 _ _ s rb).trans s.symm) ?_) (λx a I=>jj ((I.2.2.2 _ _ s rb).trans s.symm) ?_) (x:=⟨0,f,[],none,none⟩) (dE rfl (ca _) ⟨u,B6.keep e7 id,u _ _ f5 fb,λR h=>(dx h),a6 0,λh=>absurd h (gK 0),fb⟩ ae.refl)
 ·have Z:=sK I.1;exact aah (n:=n) (x:={x with tu:=some (.int z)}) ⟨I.2.2.1.p,I.2.2.1.box,I.2.2.1.f,I.2.2.1.o,I.2.2.1.len,I.2.2.1.pos,I.2.2.1.fb⟩ (bn Z.2.1 (dS (xN (k:=3) W (by decide)) 2)) M l i C (Int.lt_add_of_neg_add_lt d0) (by lia) I.2.2.1.fb λK x' v p'' j=>hR x' K (dE (by refine rE v ?_;exact Z.2.2) (by refine rE v ?_;exact Z.2.1) j (I.2.2.2.trans p''))
 ·have j:=I.2.2.1;have hi:=A7 I.1 I.2.1;have A:=j.pos (by refine rE hi ?_;exact hK _);have T:=rj (hi▸dS (xN (k:=3) W (by decide)) 2);have X:∀ {K:Hp} {x':GT} {k:Nat},ae (·=b) a K->ck K b k x3->k<=40->K x'.f=some (ii x'.xs)->g9 x'.xs->x'.xs≠[]->aE look ac (runs (n+1)) (v0 a1 a2) [.ret (.aB .bytes [(.slice (.aa .aQ) .absent (.sub (.bh .box) (.int 3)))])] K (qh x') (fQ Q) (fE E):=λ{K x' k} p B hk hy o A=>by
   have P:=(I.2.2.1.p.trans p)
   refine iu (id B) λx0 x1 x2 Bl=>?_;refine cC (od (bI (iP (aG (os:=[]) rfl tT (aG (os:=[]) rfl tT (aG (os:=[.g (.ref b),.o (.list [.int x0,.int x1,.int x2,.int x3]),.g (.int x3)]) rfl (jj (jj (P _ _ M i) Bl.ls) rfl) (aP hy λz hz=>cu (aP Hp.set_same ?_))))))));rw[Ba,dq];refine(JH (o.cut 0 (bA x'.xs.length x3))).elim λt k1=>aP (w:=.bytes t) (by rw[k1.1];rfl) (q t _ ?_ ?_ (P5.trans (P.trans (ae.new hz))) ((B.keep (ae.new (F:=λR=>False) hz) id).more hk))
   ·refine rE k1.2 ?_;unfold cut;refine rE ni (rE fj ?_);exact c.elim (λe=>e▸IZ (k:=4) (D4.mpr A) (by decide)) λe=>e▸IZ (k:=14) (D4.mpr A) (by decide)
   ·refine rE k1.2 ?_;unfold cut;refine rE ni (rE fj ?_);exact c.elim (λe=>e▸ah (IY (k:=4)) (by decide)) λe=>e▸IY (k:=14)
  refine iu (id j.box) λx0 x1 x2 Bl=>?_;refine aT (fU (aZ (os:=[.g (.ref b),.o (.list [.int x0,.int x1,.int x2,.int x3]),.g (.int x3)]) rfl (jj (jj (j.p _ _ M i) Bl.ls) rfl) (λR=>aU ?_) λR=>aM (aM (aR (X ae.refl j.box (d9 T) j.f j.o A)))));refine cM (dO (b7 (os:=[.g (.ref b)]) rfl (j.p _ _ M i) (lj j.box (ah (d9 T) (by decide)) (by decide) (by decide) λd3 h8 R R p8 B8=>aG (os:=[]) rfl tT (JJ (λR=>vZ ?_) λR=>fg (aR (X p8 B8 T (p8 _ _ j.f j.fb) j.o A))))));exact bR (dm (os:=[]) rfl tT λy h9 e9 R y9=>v1 rfl (aR (X (x':={x with f:=y,xs:=[0,1,2,3,0,1,2,0,0,1,2,3]}) (p8.trans (e9.mono λR z=>z.elim)) (B8.keep e9 id) T y9 aai mI)))
theorem aak(B:ck h b 0 x3)(R:x3=4\/x3=14)(q:∀t a,1<=t.length->t.length<=14->ae (·=b) h a->ck a b 40 x3->Q (.bytes t) a):runs (n+2) .ya [.ref b] h Q E :=
 aY (λa1 K a2 F =>
  have M:au h (h.set a1 (.cell (some (.ref b)))):=ae.new K;have O:au (h.set a1 (.cell (some (.ref b)))) ((h.set a1 (.cell (some (.ref b)))).set a2 (.cell none)):=ae.new F
  aaj R (O.at Hp.set_same) Hp.set_same ((B.keep M id).keep O id) (B.ne K) ((B.keep M id).ne F) (eh M F) (M.trans O) q)
end
section
variable{α:Type}
noncomputable def bP(n:Nat)(l:List α):List α:=l.drop (l.length - n)
theorem Bb:(bP n l).length=min n l.length:=by unfold bP;rw[gR,Nat.sub_sub_eq_min,Nat.min_comm]
theorem JK(h:l.length<=n):bP n l=l:=by unfold bP;refine rE (tR h) ?_;rfl
theorem Bc(F:0<n):bP n (bP n l++[x])=bP n (l++[x]):=by
 unfold bP;refine rE cA (rE gR (rE cA ?_));by_cases h:l.length<n
 ·refine rE (tR (aO h)) (rE ni ?_);rfl
 ·have h:=c6 h;show(l.drop (l.length - n)++[x]).drop (l.length - (l.length - n)+1 - n)=(l++[x]).drop (l.length+1 - n);have e:(l++[x]).drop (l.length - n)=l.drop (l.length - n)++[x]:=xz (fh _ _);rw[show l.length - (l.length - n)+1 - n=1 by rw[wh h,NH],show l.length+1 - n=(l.length - n)+1 by exact xy h,←MG,e]
def Rg(n:Nat)(L:List α)(s:Nat)(P:List α):Prop:=(L.length<n/\s=L.length/\P=L)\/(L.length=n/\s<n/\P=L.drop s++L.take s)
variable{n s d:Nat}{L P:List α}{x:α}
theorem Rg.len(R:Rg n L s P):P.length=L.length/\L.length<=n:=by
 rcases R with ⟨F,K,M⟩ |⟨F,K,M⟩
 ·exact⟨by exact rE M rfl,aO F⟩
 ·exact⟨by rw[M,cA,gR,oZ (aO (F▸K)),mL (aO (F▸K))],d8 F⟩
theorem Rg.grow(R:Rg n L s P)(h:L.length<n):s=L.length/\Rg n (L++[x]) (if s+1=n then 0 else s+1) (bP n (P++[x])):=by
 rcases R with ⟨K,F,M⟩ |⟨K,_,_⟩
 ·refine⟨F,?_⟩;refine rE M (rE (JK (by rw[cA];exact h)) ?_);by_cases e:s+1=n
  ·refine rE (if_pos e) ?_;exact .inr (aH (by refine rE cA (rF F ?_);exact e) (by exact xA h) (by rw[ni,tQ,fk]))
  ·refine rE (if_neg e) ?_;exact .inl (aH (by refine rE cA (rF F ?_);exact q7 (by refine rE F ?_;exact h) e) (by refine rE cA (rE F ?_);rfl) rfl)
 ·exact absurd K (cK h)
theorem Rg.turn(R:Rg n L s P)(h:¬L.length<n):s<n/\L.length=n/\Rg n (L.set s x) (if s+1=n then 0 else s+1) (bP n (P++[x])):=by
 rcases R with ⟨F,_,_⟩ |⟨F,K,O⟩
 ·exact absurd F h
 ·have M:s<L.length:=by exact Nat.lt_of_lt_of_eq K (id (ir F))
  refine(aH K F (.inr (aH (by refine rE oP ?_;exact F) ?_ ?_)))
  ·split<;>lia
  ·have V:P.length=n:=by rw[O,cA,gR,fj];exact OC F K
   unfold bP;rw[cA,V,show n+[x].length - n=1 from NH n 1,O,DN M];show(L.drop (s+1)++L.take s)++[x]=_;have S:(L.set s x).take (s+1)=L.take s++[x]:=by
    refine rE List.take_set (rE NI (rE (f7 M) ?_));rw[Option.toList_some,List.set_append_right _ _ (by rw[fj];exact eG s L.length),fj,jC (aO M),Nat.sub_self];rfl
   have T:(L.set s x).drop (s+1)=L.drop (s+1):=List.drop_set_of_lt (c7 s);by_cases e:s+1=n
   ·rw[if_pos e,ni,tQ,fk,←NJ (s+1) (L.set s x),S,T,xB (by lia)];simp
   ·rw[if_neg e,S,T,gS]
theorem Rg.at(R:Rg n L s P)(K:1<=d)(F:d<=L.length):L[if d<=s then s - d else s+L.length - d]?=P[P.length - d]?:=by
 refine rE R.len.1 ?_;rcases R with ⟨a,b,c⟩ |⟨a,b,c⟩
 ·exact rE b (rE (if_pos F) (rE c rfl))
 ·refine rE c ?_;by_cases e:d<=s
  ·rw[if_pos e,List.getElem?_append_right (by rw[gR];exact tS e L.length),gR,Nx,if_pos (Of K a b e)];exact congrArg (L[·]?) (Ef a b e)
  ·refine rE (if_neg e) (rE (List.getElem?_append_left (by rw[gR];exact jA (a.symm▸b) (nj e))) (rE (xt) ?_));congr 1;exact Nat.add_sub_assoc F s
noncomputable def cT[Inhabited α](n d:Nat):Nat->List α->List α×List α
 | 0,P=>(P,[])
 |k+1,P=>let r:=cT n d k P;let x:=(r.1[r.1.length - d]?).getD default;(bP n (r.1++[x]),r.2++[x])
end
section
variable{C:bU}{c:Cs}{h:Hp}{m:M}{E:PE}{os:List Ht}{obs:List Ob}
theorem v3(F:vE c m o os=some (.ref a,[],obs))(K:bd h obs)(M:h a=some b)(O:et look b f (.prop g))(q:C g [.ref a] h (λv h=>P v h m) λR R=>False):ev look ac C c (.aA o f) h m P E :=
 (dv F K) _ E (show po look (.ref a) f h _ from (jJ b M _ O q))
theorem JL{a:Nat}{i j:Int}(R:vE c m o os=some (.ref a,[],obs))(S:bd h obs)(M:h a=some (.inst g b))(O:look g f=.field)(T:mget b f=some (.int i))(F:vE c m e os2=some (.int j,[],d))(K:bd h d)
  (W:∀P:V->Hp->Prop,P v h->(iS l (.int i) (.int j)).run h P) (X:b.length<100) (q:∀k,ae (·=a) h k->k a=some (.inst g (bu b f v))->aE look ac C c r k m Q E):aE look ac C c (.i5 o f l e::r) h m Q E :=
 (dv R S) _ E (show po look (.ref a) f h _ from (jJ _ M _ (.field O T) ((dv F K) _ E (W _ (show(setAttr look (.ref a) f v).run h _ from (aq _ M (by show(match look g f with |.field=>Rs.guard (b.length<100) (.upd a (.inst g (bu b f v)) .none) |_=>.bad).run h _;refine rE O ?_;exact⟨X,q _ (ae.set rfl) Hp.set_same⟩)))))))
end
noncomputable def Be(n F K s:Nat):M:=[(.size,some (.int n)),(.total,some (.int F)),(.ring,some (.ref K)),(.spot,some (.int s))]
noncomputable def ek(n F K s:Nat):O:=.inst .fq (Be n F K s)
structure b8(h:Hp)(a rb n tot:Nat)(P:List UInt8):Prop where
 ex:∃L s,h a=some (ek n tot rb s)/\h rb=some (.bl L)/\Rg n L s P
 pos:1<=n
 small:n<=50
section
variable{n:Nat}{h:Hp}{Q:V->Hp->Prop}{E:Ex->Hp->Prop}{a rb w tot:Nat}{P:List UInt8}
theorem b8.keep(W:b8 h a rb w tot P){F:Nat->Prop}{K:Hp}(p:ae F h K)(M:¬F a)(nb:¬F rb):b8 K a rb w tot P:=bL W.ex λL s O R S=>⟨(cb L s (p _ _ O M) (p _ _ R nb) S),W.pos,W.small⟩
theorem b8.elim{X:Prop}(W:b8 h a rb w tot P)(k:∀L s,h a=some (ek w tot rb s)->h rb=some (.bl L)->Rg w L s P->X):X:=bL W.ex λL s F K M=>k L s F K M
theorem b8.len(W:b8 h a rb w tot P):P.length<=w:=bL W.ex λL s K M F=>by refine rE F.len.1 ?_;exact F.len.2
theorem JM(K:h a=some (.inst .fq b))(O:b.length<50)(q:∀c rb,ae (·=a) h c->h rb=none->c rb=some (.bl [])->c a=some (.inst .fq (bu (bu b .ring (.ref rb)) .spot (.int 0)))->Q .none c):runs (n+1) .EL [.ref a] h Q E:=by
 refine aY (iH (show ev look ac (runs n) [] (.aB .bytearray []) h _ _ _ from λrb F=>?_));have R:au h (h.set rb (.bl [])):=ae.new F;refine iM (os:=[]) rfl tT (R.at K) rfl (by exact cZ O (by decide)) λf S a2=>eU (os:=[]) (os2:=[]) rfl tT rfl tT a2 rfl ?_ λX T d=>?_
 ·have key:∀(b:M) (x:Nm) (v:V),(bu b x v).length<=b.length+1:=λb x v=>by
   induction b with
   |nil=>exact a6 _
   |cons p r e =>
    show(match nb p.1 x with |true=>(p.1,some v)::r |false=>p::bu r x v).length<=_;cases nb p.1 x
    ·exact db e
    ·exact dc _
  have:=key b .ring (.ref rb);exact aV this (bn (DL O) (by decide))
 ·have W:rb≠a:=(fresh_ne K F).symm;exact q X rb (((R.mono λg z=>z.elim:ae (·=a) h _).trans S).trans T) F (T _ _ (S _ _ Hp.set_same W) W) d
theorem aal(F:1<=w)(K:w<=50)(O:h a=some (.inst .fq m0))(q:∀b rb,ae (·=a) h b->h rb=none->b8 b a rb w 0 []->Q .none b):runs (n+2) .x7 [.ref a,.int w] h Q E:=by
 refine aY (aT (aZ (os:=[]) rfl tT (λz=>absurd z (cz.mpr (bt.mpr F))) λd=>aM (aR ?_)));refine eU (os:=[]) (os2:=[]) rfl tT rfl tT O rfl (show 0<100 by decide) λe p1 a1=>eU (os:=[]) (os2:=[]) rfl tT rfl tT a1 rfl (show 1<100 by decide) λR S a2=>?_;have M:ae (·=a) h R:=p1.trans S;exact bH (bS (os:=[]) (os2:=[]) rfl tT a2 (.own rfl rfl) rfl tT (JM a2 (show 2<50 by decide) λT rb V W X c=>q T rb (M.trans V) (j6 M a2 W) ⟨(cb [] 0 c X (.inl (aH F rfl rfl))),F,K⟩))
theorem v4(W:b8 h a rb w tot P)(q:Q (.int P.length) h):runs (n+1) .EM [.ref a] h Q E :=
 W.elim λL s F K R=>aY (cH (os:=[.o (ek w tot rb s),.o (.bl L)]) rfl (jj F K) (by rw[R.len.1] at q;exact q))
theorem qi:dU (x.toNat:Int).toNat=x:=by simp
theorem Bf{x:UInt8}(W:b8 h a rb w tot P)(q:∀i,ae (λy=>y=a\/y=rb) h i->b8 i a rb w (tot+1) (bP w (P++[x]))->Q .none i):runs (n+1) .EN [.ref a,.int x.toNat] h Q E:=by
 refine W.elim λL s M S R=>?_;have F:a≠rb:=gz M S nofun;have B:=R.len.2;have T:∀(b:Hp) (V:List UInt8),ae (·=rb) h b->b rb=some (.bl V)->s<w->Rg w V (if s+1=w then 0 else s+1) (bP w (P++[x]))->aE look ac (runs n) [] [.i5 (.aa .self) .spot .add (.int 1),.ite (.cmp (.aA (.aa .self) .spot) .eq (.aA (.aa .self) .size)) [.setattr (.aa .self) .spot (.int 0)] [],.i5 (.aa .self) .total .add (.int 1)] b [(.self,some (.ref a)),(.bM,some (.int x.toNat))] (fQ Q) (fE E):=λb V k p C c=>by
  have r:=k _ _ M F;refine JL (os:=[]) (os2:=[]) rfl tT r rfl rfl rfl tT (λP q=>q) (show 4<100 by decide) λl m d=>?_;have t:=m _ _ p F.symm;have K:∀(O:Hp) (e:Nat),ae (·=a) l O->O a=some (ek w tot rb e)->Rg w V e (bP w (P++[x]))->aE look ac (runs n) [] [.i5 (.aa .self) .total .add (.int 1)] O [(.self,some (.ref a)),(.bM,some (.int x.toNat))] (fQ Q) (fE E):=λO e f j u =>
   JL (os:=[]) (os2:=[]) rfl tT j rfl rfl rfl tT (λP q=>q) (show 4<100 by decide) λv o A =>
    q v (((k.mono λX z=>.inr z).trans (m.mono λX z=>.inl z)).trans ((f.trans o).mono λX z=>.inl z)) ⟨(cb V e A (o _ _ (f _ _ t F.symm) F.symm) u),W.pos,W.small⟩
  refine aT (aZ (os:=[.o (ek w tot rb (s+1)),.o (ek w tot rb (s+1))]) rfl (jj d d) (λz=>aU ?_) λz=>aM (aR ?_))
  ·rw[if_pos (lM.mp z)] at c;exact eU (os:=[]) (os2:=[]) rfl tT rfl tT d rfl (show 4<100 by decide) λO f j=>aR (K O 0 f j c)
  ·rw[if_neg λy=>z (lM.mpr y)] at c;exact K l (s+1) (λX X x X=>x) d c
 refine aY ?_;refine aT (aZ (os:=[.o (ek w tot rb s),.o (.bl L),.o (ek w tot rb s)]) rfl (jj (jj M S) M) (λz=>aU ?_) λz=>aM ?_)
 ·have g:=R.grow (x:=x) (aS.mp z);refine bH (vC (os:=[.o (ek w tot rb s)]) rfl M S (aG (os:=[]) rfl tT (vD S (by refine rE dz ?_;have:=W.small;exact cZ (bn (aS.mp z) this) (by decide)) (b9 _) (aS.mpr x.toNat_lt) ?_)));refine rE qi ?_;exact aR (T _ _ (ae.set rfl) Hp.set_same (by refine rE g.1 ?_;exact aS.mp z) g.2)
 ·have g:=R.turn (x:=x) λy=>z (aS.mpr y);refine j4 (os:=[]) (o1:=[.o (ek w tot rb s)]) (o2:=[.o (ek w tot rb s)]) rfl tT rfl M rfl M (Zj S (b9 _) (by refine rE g.2.1 ?_;exact aS.mpr g.1) (b9 _) (aS.mpr x.toNat_lt) ?_);refine rE qi ?_;exact aR (T _ _ (ae.set rfl) Hp.set_same g.1 g.2.2)
end
theorem aam{h:Hp}{i j:Int}{T:Bool->Prop}(F:i<j->T true)(K:¬i<j->T false):fO .lt h (.int i) (.int j) λr=>cD (.bool r) T:=by
 show T (decide (i<j));by_cases e:i<j
 ·refine rE (decide_eq_true e) ?_;exact F e
 ·refine rE (decide_eq_false e) ?_;exact K e
theorem aan{h:Hp}{i j:Int}{T:Bool->Prop}(F:j<i->T true)(K:¬j<i->T false):fO .gt h (.int i) (.int j) λr=>cD (.bool r) T:=by
 show T (decide (j<i));by_cases e:j<i
 ·refine rE (decide_eq_true e) ?_;exact F e
 ·refine rE (decide_eq_false e) ?_;exact K e
section
variable{C:bU}{c:Cs}{h:Hp}{m:M}{E:PE}{os:List Ht}{obs:List Ob}{a rb w tot:Nat}{P:List UInt8}
theorem b8.inst(W:b8 h a rb w tot P):∃s,h a=some (ek w tot rb s):=W.elim λL s F K K=>⟨s,F⟩
theorem gd{o:X}{f:Nm}{R:List X}{g:Fn}{S:List V}{K:PV}{os2:List Ht}{F:List Ob}(W:b8 h a rb w tot P)(T:vE c m o os=some (.ref a,[],obs))(b:bd h obs)(d:look .fq f=.aX g)(e:∀s,mget (Be w tot rb s) f=none)(M:dN c m R os2=some (S,[],F))(O:bd h F)
  (q:C g (.ref a::S) h (cQ K m) (cE E m)):ev look ac C c (.ay o f R) h m K E:=W.inst.elim λs i=>bS T b i (.own d (e s)) M O q
end
section
variable{n:Nat}{h:Hp}{Q:V->Hp->Prop}{E:Ex->Hp->Prop}{a rb w tot:Nat}{P:List UInt8}
def fz(a rb:Nat):Nat->Prop:=λy=>y=a\/y=rb
theorem b8.lens(W:b8 h a rb w tot P):bP w P=P:=JK W.len
noncomputable def mFd(a:Nat)(t:List UInt8)(x:List UInt8×Option V):M:=[(.self,some (.ref a)),(.ba,some (.bytes t)),(.bM,x.2)]
structure JFd(h0:Hp)(a rb w tot:Nat)(P t zs:List UInt8)(x:List UInt8×Option V)(h:Hp):Prop where
 t:x.1++zs=t
 p:ae (fz a rb) h0 h
 w:b8 h a rb w (tot+x.1.length) (bP w (P++x.1))
theorem JN{t:List UInt8}(W:b8 h a rb w tot P)(q:∀b,ae (fz a rb) h b->b8 b a rb w (tot+t.length) (bP w (P++t))->Q .none b):runs (n+2) .EO [.ref a,.bytes t] h Q E:=by
 refine aY (vx (os:=[]) rfl tT (.bytes t) ?_);refine gC aK (mFd a t) (JFd h a rb w tot P t) (λz S x b I R M=>jj trivial ?_) (λx b I=>jj trivial ?_) (x:=([],none)) ⟨rfl,ae.refl,by rw[fk,W.lens];exact W⟩
 ·refine bH (gd (os:=[]) (os2:=[]) I.w rfl tT rfl (λT=>rfl) rfl tT (Bf I.w λO p1 F=>M (x.1++[z],some (aK z)) O ⟨by rw[gS];exact I.t,I.p.trans p1,?_⟩));rw[Bc W.pos,gS] at F;refine rE cA ?_;exact F
 ·have e:=I.t;rw[fk] at e;have K:=I.w;rw[e] at K;exact q b I.p K
theorem JQ{d:Int}(W:b8 h a rb w tot P)(M:0<=d/\d<100)(O:P.length<100)(R:1<=d/\d<=P.length->Q .none h)(S:¬(1<=d/\d<=P.length)->E .fu h):runs (n+2) .EP [.ref a,.int d] h Q E:=by
 refine W.inst.elim λs K=>?_;have F:¬(1<=d/\d<=P.length)->aE look ac (runs (n+1)) [] [.raise .fu (.bin .add (.bin .add (.bin .add (.bin .add (.str "a distance of ") (.aB .str [(.aa .bb)])) (.str " where ")) (.aB .str [(.aA (.aa .self) .«have»)])) (.str " octets are there"))] h [(.self,some (.ref a)),(.bb,some (.int d))] (sq (runs (n+1)) [] [] (fQ Q) (fE E)) λx h T=>E x h:=λz =>
by
  refine jp (dk (dk (aG (os:=[]) rfl ⟨⟨M,show(_:Nat)<=1000 by decide⟩,show(_:Nat)<=1000 by decide⟩ ?_)));refine od (bI (v3 (os:=[]) rfl tT K (.prop rfl) (v4 W (cu ?_))));refine jj (show 0<=(P.length:Int)/\(P.length:Int)<100 by exact⟨b9 _,jL O⟩) ?_;refine jj (show(_:Nat)<=1000 by decide) (jj (show(_:Nat)<=1000 by decide) ?_);exact jj (show(_:Nat)<=1000 by decide) (S z)
 refine aY (aT (ie (aZ (os:=[]) rfl tT (λz=>aU (aU (F λy=>cz.mpr y.1 z))) λz=>aM (cM (dO (aG (os:=[]) rfl tT (v3 (os:=[]) rfl tT K (.prop rfl) (v4 W ?_))))))));exact aan (λy=>vZ (F λe=>cz.mpr e.2 y)) λy=>fg (aR (R ⟨cz.mp z,cz.mp y⟩))
noncomputable def mAt(a:Nat)(d:Int)(s:Nat):M:=[(.self,some (.ref a)),(.bb,some (.int d)),(.am,some (.int (s - d)))]
theorem Bg{d:Nat}(W:b8 h a rb w tot P)(S:d<100)(T:P.length<100)(M:1<=d->d<=P.length->Q (.int ((P[P.length - d]?).getD default).toNat) h)(V:¬(1<=d/\d<=P.length)->E .fu h):runs (n+3) .EQ [.ref a,.int d] h Q E:=by
 refine aY (bH (gd (os:=[]) (os2:=[]) W rfl tT rfl (λX=>rfl) rfl tT (JQ W (by exact⟨b9 _,jL S⟩) T (λz=>?_) λz=>V λy=>z (by exact⟨bt.mpr y.1,bt.mpr y.2⟩))));refine W.elim λL s F K R=>?_;have O:=R.len.1;have e:=R.at (d:=d) (by exact bt.mp z.1) (by exact O▸bt.mp z.2);have g:P[P.length - d]?=some ((P[P.length - d]?).getD default):=by
  refine rE (f7 (by exact Ek (bt.mp z.1) (bt.mp z.2))) ?_;rfl
 rw[g] at e;refine dI (os:=[.o (ek w tot rb s)]) rfl F (cC (iL (aG (os:=[.o (ek w tot rb s)]) rfl F (oa (aZ (os:=[]) rfl tT (λy=>aU (aG (os:=[]) rfl tT ?_)) λy=>aM (aG (os:=[.o (ek w tot rb s),.o (.bl L)]) rfl (jj F K) ?_))))))
 ·have y:(0:Int)<=s - d:=y;rw[if_pos (by exact bt.mp (NK y))] at e;refine aP K (aP (w:=.int ((P[P.length - d]?).getD default).toNat) ?_ (M (by exact bt.mp z.1) (by exact bt.mp z.2)));refine rE (js (n:=s - d) (by exact rk (bt.mp (NK y))) e) ?_;rfl
 ·have y:¬(0:Int)<=s - d:=y;rw[if_neg (by exact λz=>y (qv (jK z)))] at e;refine aP K (aP (w:=.int ((P[P.length - d]?).getD default).toNat) ?_ (M (by exact bt.mp z.1) (by exact bt.mp z.2)));refine rE (js (n:=s+L.length - d) (by exact Oz (O▸bt.mp z.2)) e) ?_;rfl
theorem JS(W:b8 h a rb w tot P)(q:∀b,au h b->Q (.bytes P) b):runs (n+2) .ET [.ref a] h Q E:=by
 refine W.elim λL s K O R=>?_;have S:=R.len.1;refine aY (aT (cM (dO (v3 (os:=[]) rfl tT K (.prop rfl) (v4 W (aG (os:=[.o (ek w tot rb s)]) rfl K (aam (λy=>vZ ?_) λy=>fg (aR ?_))))))))
 ·refine cH (os:=[.o (ek w tot rb s),.o (.bl L)]) rfl (jj K O) ?_;rcases R with ⟨_,_,e⟩ |⟨e,_,_⟩
  ·rw[←e];exact q h ae.refl
  ·exact absurd (aS.mp y) (by rw[S,e];exact gK _)
 ·rcases R with ⟨e,_,_⟩ |⟨T,X,c⟩
  ·exact absurd (aS.mpr (S.symm▸e)) y
  refine cC (od (bI (dk (iP (aG (os:=[.o (ek w tot rb s)]) rfl K (aG (os:=[.o (ek w tot rb s)]) rfl K (aG (os:=[]) rfl tT (aP O λy d=>iP ?_))))))));have M:au h (h.set y (.bl (cut L (bA L.length s) L.length))):=ae.new d;refine aG (os:=[.o (ek w tot rb s)]) rfl (M.at K) (aG (os:=[]) rfl tT (aG (os:=[.o (ek w tot rb s)]) rfl (M.at K) (aP (M.at O) λz V=>?_)));have f:=M.trans (ae.new (F:=λk=>False) (o:=.bl (cut L 0 (bA L.length s))) V);refine aP ((Hp.cJ (fresh_ne Hp.set_same V)).trans Hp.set_same) (aP Hp.set_same ?_);have g:L.length<=1000:=by have:=W.small;exact T▸ah this (by decide)
  have e:cut L (bA L.length s) L.length++cut L 0 (bA L.length s)=P:=by
   rw[j7 (by exact T▸aO X),c];unfold cut;rw[re,ni]
  have i:(cut L (bA L.length s) L.length).length+(cut L 0 (bA L.length s)).length<=bB:=by
   rw[←cA,e,S,dz];exact ah g (by decide)
  refine jj i λu j=>cu (aP Hp.set_same ?_);show Q (.bytes (cut L (bA L.length s) L.length++cut L 0 (bA L.length s))) _;rw[e];exact q _ (f.trans (ae.new j))
theorem aao{k:Nat}(W:b8 h a rb w tot P)(M:k<100)(q:∀b,au h b->Q (.bytes (bP k P)) b):runs (n+3) .EU [.ref a,.int k] h Q E:=by
 refine aY (bR (gd (os:=[]) (os2:=[]) W rfl tT rfl (λO=>rfl) rfl tT (JS W λF K=>cG (cH (os:=[]) rfl tT ?_))));have e:cut P (bA P.length (max 0 ((P.length:Int) - k))) P.length=bP k P:=by
  rw[show max 0 ((P.length:Int) - k)=((P.length - k:Nat):Int) by exact xR,j7 (fh P.length k)];unfold cut bP;exact rE re rfl
 rw[←e] at q;exact q F K
end
theorem ae.drop(a:ae F h c)(b:ae G c d)(k:∀x,G x->F x\/h x=none):ae F h d:=λx o e n=>b x o (a x o e n) λz=>(k x z).elim n λy=>by rw[y] at e;exact aN e
theorem ae.less(a:ae F h b)(k:∀x,F x->G x\/h x=none):ae G h b:=λx o e n=>a x o e λz=>(k x z).elim n λy=>by rw[y] at e;exact aN e
section
variable{w d:Nat}{P:List UInt8}
theorem Bh:(cT w d k P).2.length=k:=by
 induction k with
 |zero=>rfl
 |succ k a=>show((cT w d k P).2++[_]).length=_;refine rE cA (rE a ?_);rfl
theorem JU(h:P.length<=w):P.length<=(cT w d k P).1.length/\(cT w d k P).1.length<=w:=by
 induction k with
 |zero=>exact⟨a6 _,h⟩
 |succ k a =>
  have e:(cT w d (k+1) P).1.length=min w ((cT w d k P).1.length+1):=by
   show(bP w ((cT w d k P).1++[_])).length=_;refine rE Bb (rE cA ?_);rfl
  refine rE e ?_;exact⟨iX.mpr ⟨h,ks a.1⟩,eG _ _⟩
end
section
variable{n:Nat}{h:Hp}{Q:V->Hp->Prop}{E:Ex->Hp->Prop}{a rb w tot d k:Nat}{P:List UInt8}
structure JV where
 j:Nat
 tu:Option V
 oc:Option V
noncomputable def mCp(a d k F:Nat)(x:JV):M:=[(.self,some (.ref a)),(.bb,some (.int d)),(.length,some (.int k)),(.told,some (.ref F)),(.turn,x.tu),(.bM,x.oc)]
structure JCp(h0:Hp)(a rb w tot d k tr ra:Nat)(P:List UInt8)(zs:List Nat)(x:JV)(h:Hp):Prop where
 j:x.j+zs.length=k
 p:ae (λy=>fz a rb y\/y=tr) h0 h
 wi:b8 h a rb w (tot+x.j) (cT w d x.j P).1
 t:h tr=some (.bl (cT w d x.j P).2)
 r:h ra=some (.range 0 k 1)
theorem Bj(W:b8 h a rb w tot P)(r:d<100)(t:k<100)(G:1<=d->d<=P.length->∀b,ae (fz a rb) h b->b8 b a rb w (tot+k) (cT w d k P).1->Q (.bytes (cT w d k P).2) b)(H:¬(1<=d/\d<=P.length)->E .fu h):runs (n+4) .ER [.ref a,.int d,.int k] h Q E:=by
 have X:=W.small;have u:=W.len;refine aY (bH (gd (os:=[]) (os2:=[]) W rfl tT rfl (λS=>rfl) rfl tT (JQ W (by exact⟨b9 _,jL r⟩) (by exact aV (ah u X) (by decide)) (λz=>?_) λz=>H λy=>z (by exact⟨bt.mpr y.1,bt.mpr y.2⟩))));refine bR (show ev look ac (runs (n+3)) [] (.aB .bytearray []) h _ _ _ from λO M=>cG ?_);have v:au h (h.set O (.bl [])):=ae.new M;refine g0 (pW (os:=[]) rfl tT (by exact xP (aO t)) λi c l m K=>aP (.range K) ?_);refine rE li ?_;have o:=W.keep (v.trans l) id id;have A:O≠a:=λe=>W.inst.elim λs f=>by rw[e,f] at M;exact cX M
 have nb:O≠rb:=λe=>W.elim λL s f c S=>by rw[e,c] at M;exact cX M
 have J:c O=some (.bl []):=l.at Hp.set_same;have N:i≠O:=(fresh_ne Hp.set_same m).symm;have p:i≠a:=λe=>o.inst.elim λs f=>by rw[e,f] at K;exact nomatch K
 have q:i≠rb:=λe=>o.elim λL s f c S=>by rw[e,c] at K;exact nomatch K
 refine gC (λz:Nat=>V.int z) (mCp a d k O) (JCp h a rb w tot d k O i P) (λU Y x b I R Z=>jj (I.r.trans K.symm) ?_) (λx b I=>jj (I.r.trans K.symm) ?_) (x:=⟨0,none,none⟩) ⟨by refine rE m7 ?_;exact o0 _,(v.trans l).mono λS z=>z.elim,o,J,K⟩
 ·have B:=JU (d:=d) (k:=x.j) u;have hp:(cT w d x.j P).1.length<100:=by exact aV (ah B.2 X) (by decide)
  have hq:1<=d/\d<=(cT w d x.j P).1.length:=by exact⟨bt.mp z.1,ah (bt.mp z.2) B.1⟩
  refine bR (gd (os:=[]) (os2:=[]) I.wi rfl tT rfl (λS=>rfl) rfl tT (Bg I.wi r hp (λS S=>?_) λy=>absurd hq y));refine cG (bH (gd (os:=[]) (os2:=[]) I.wi rfl tT rfl (λS=>rfl) rfl tT (Bf I.wi λh3 C j=>?_)));have g:=C _ _ I.t λz=>z.elim A nb;have lt:=Bh (w:=w) (d:=d) (k:=x.j) (P:=P);have T:=I.j;refine bH (vC (os:=[]) rfl tT g (aG (os:=[]) rfl tT (vD g (by refine rE lt (rE dz ?_);exact iY (aO (aV (T▸cP _ _) t))) (b9 _) (aS.mpr (UInt8.toNat_lt _)) ?_)));refine rE qi ?_;have D:ae (λy=>fz a rb y\/y=O) b (h3.set O (.bl ((cT w d x.j P).2++[((cT w d x.j P).1[(cT w d x.j P).1.length - d]?).getD default]))):=(C.mono λS z=>.inl z).trans (ae.set (.inr rfl));exact Z ⟨x.j+1,some (.int U),some (.int (((cT w d x.j P).1[(cT w d x.j P).1.length - d]?).getD default).toNat)⟩ _ ⟨show x.j+1+Y.length=k by rw[qR] at T;rw[←T,hB,gJ 1],I.p.trans D,j.keep (ae.set (F:=(·=O)) rfl) (fH A) (fH nb),Hp.set_same,D _ _ I.r λz=>z.elim (λz=>z.elim p q) N⟩
 ·have T:=I.j;rw[NL,tU] at T;have j:=I.wi;have g:=I.t;rw[T] at j g;exact cH (os:=[.o (.bl (cT w d k P).2)]) rfl g (G (by exact bt.mp z.1) (by exact bt.mp z.2) b (I.p.less λS z=>z.imp id λy=>by refine rE y ?_;exact M) j)
end
noncomputable def cU(P:List UInt8):O:=.list (P.map aK)
theorem Bk{w:Nat}(F:1<=w):cut l (bA l.length (-(w:Int))) l.length=bP w l:=by
 have e:bA l.length (-(w:Int))=l.length - w:=PySem.clipAt_neg _ _ F;refine rE e ?_;unfold cut bP;exact rE re rfl
theorem Bo:bP w (l.map f)=(bP w l).map f:=by unfold bP;rw[dq,D3]
theorem aap:bP 1 (l++[x])=[x]:=by unfold bP;rw[cA];show(l++[x]).drop (l.length+1 - 1)=_;rw[Nat.add_sub_cancel,List.drop_left]
section
variable{n:Nat}{h:Hp}{Q:V->Hp->Prop}{E:Ex->Hp->Prop}{p w d k:Nat}{P:List UInt8}
structure JW where
 j:Nat
 p:Nat
 tu:Option V
noncomputable def mLc(d k w F:Nat)(x:JW):M:=[(.plain,some (.ref x.p)),(.bb,some (.int d)),(.length,some (.int k)),(.size,some (.int w)),(.told,some (.ref F)),(.k,x.tu)]
structure JLc(h0:Hp)(p0 w d k tr ra:Nat)(P:List UInt8)(zs:List Nat)(x:JW)(h:Hp):Prop where
 j:x.j+zs.length=k
 kp:ae (·=tr) h0 h
 ip:h x.p=some (cU (cT w d x.j P).1)
 t:h tr=some (cU (cT w d x.j P).2)
 r:h ra=some (.range 0 k 1)
 n:x.p≠tr
 f:x.p=p0\/h0 x.p=none
theorem aaq(J:h p=some (cU P))(L:1<=d)(s:d<=P.length)(N:P.length<=w)(hw:w<=50)(U:k<100)
  (q:∀z b Y a,au h a->a z=some (.tup [.ref b,.ref Y])->a b=some (cU (cT w d k P).1)->a Y=some (cU (cT w d k P).2)->(b=p\/h b=none)->Q (.ref z) a):runs (n+1) .ul [.ref p,.int d,.int k,.int w] h Q E:=by
 refine aY (bR (dm (os:=[]) rfl tT λF h1 Z f i=>cG (g0 (pW (os:=[]) rfl tT (by exact xP (aO U)) λra h2 t A S=>aP (.range S) ?_))));rw[li];have B:p≠F:=fresh_ne J f;have rt:ra≠F:=(fresh_ne i A).symm;refine gC (λz:Nat=>V.int z) (mLc d k w F) (JLc h p w d k F ra P) (λz0 zs x a I R hR=>jj (I.r.trans S.symm) ?_) (λx a I=>jj (I.r.trans S.symm) ?_) (x:=⟨0,p,none⟩) ⟨by rw[m7];exact o0 _,(Z.trans t).mono λzz z=>z.elim,t.at (Z.at J),t.at i,S,B,.inl rfl⟩
 ·have m:=JU (d:=d) (k:=x.j) N;have c2:(cT w d x.j P).2.length=x.j:=Bh;have e:=I.j;rw[qR] at e;have o:=I.ip;have C:=I.t;generalize hX:cT w d x.j P=X at m c2 o C;have g:X.1[X.1.length - d]?=some ((X.1[X.1.length - d]?).getD default):=by
   rw[f7 (by exact Ek L (ah s m.1))];rfl
  have D:cT w d (x.j+1) P=(bP w (X.1++[(X.1[X.1.length - d]?).getD default]),X.2++[(X.1[X.1.length - d]?).getD default]):=by rw[←hX];rfl
  generalize (X.1[X.1.length - d]?).getD default=y at g D;have gv:dr (X.1.map aK) (((X.1.map aK).length:Int) - d)=some (aK y):=js (n:=X.1.length - d) (by rw[dq];exact rk (ah s m.1)) (by rw[oQ,g];rfl);refine bH (sv (os:=[]) rfl tT C (aG (os:=[.o (cU X.1),.o (cU X.1),.g (aK y)]) rfl (jj (jj o o) gv) (sw C (by rw[dq,c2,dz];exact iY (aO (aV (e▸cP _ _) U))) ?_)));have M:(a.set F (.list (X.2.map aK++[aK y]))) F=some (.list (X.2.map aK++[aK y])):=Hp.set_same;have j:(a.set F (.list (X.2.map aK++[aK y]))) x.p=some (cU X.1):=(Hp.cJ I.n).trans o;have r:ae (·=F) a (a.set F (.list (X.2.map aK++[aK y]))):=ae.set rfl;generalize a.set F (.list (X.2.map aK++[aK y]))=l at M j r;refine bR (iP (dk (aG (os:=[]) rfl tT (iP (aG (os:=[]) rfl tT (aG (os:=[]) rfl tT (aG (os:=[]) rfl tT (aP M λu hu=>?_))))))));have T:au l (l.set u (.list (cut (X.2.map aK++[aK y]) (bA (X.2.map aK++[aK y]).length (-1)) (X.2.map aK++[aK y]).length))):=ae.new hu;have u4:(l.set u (.list (cut (X.2.map aK++[aK y]) (bA (X.2.map aK++[aK y]).length (-1)) (X.2.map aK++[aK y]).length))) u=some (.list [aK y]):=Hp.set_same.trans (congrArg (λz=>some (O.list z)) ((Bk (w:=1) (a6 1)).trans aap));generalize l.set u (.list (cut (X.2.map aK++[aK y]) (bA (X.2.map aK++[aK y]).length (-1)) (X.2.map aK++[aK y]).length))=W at T u4;refine aP (T.at j) (aP u4 (jj (show(X.1.map aK).length+1<=bB by rw[dq,dz];exact ah (db (ah m.2 hw)) (by decide)) λv hv=>?_));have G:au W (W.set v (.list (X.1.map aK++[aK y]))):=ae.new hv;refine aG (os:=[]) rfl tT (aG (os:=[]) rfl tT (aP Hp.set_same λb c=>cG ?_));have x6:au (W.set v (.list (X.1.map aK++[aK y]))) ((W.set v (.list (X.1.map aK++[aK y]))).set b (.list (cut (X.1.map aK++[aK y]) (bA (X.1.map aK++[aK y]).length (-(w:Int))) (X.1.map aK++[aK y]).length))):=ae.new c;have p6:((W.set v (.list (X.1.map aK++[aK y]))).set b (.list (cut (X.1.map aK++[aK y]) (bA (X.1.map aK++[aK y]).length (-(w:Int))) (X.1.map aK++[aK y]).length))) b=some (cU (bP w (X.1++[y]))):=Hp.set_same.trans (congrArg some ((congrArg O.list (Bk (by exact ah L (ah s N)))).trans (by unfold cU;rw[←Bo,no];rfl)));have H:au l _:=(T.trans G).trans x6;have t6:=H.at M;have n6:b≠F:=(fresh_ne ((T.trans G).at M) c).symm;have r6:=H.at (r _ _ I.r rt);exact hR ⟨x.j+1,b,some (.int z0)⟩ _ ⟨show x.j+1+zs.length=k by rw[←e,hB,gJ 1],(I.kp.trans r).trans (H.mono λzz z=>z.elim),by rw[D];exact p6,by rw[D];unfold cU;rw[no];exact t6,r6,n6,.inr (back I.kp (λz=>by rw[z,I.t];nofun) (back r (λz=>by rw[z,M];nofun) (eh (T.trans G) c)))⟩
 ·have e:=I.j;rw[NL,tU] at e;have p3:=I.ip;have t3:=I.t;rw[e] at p3 t3;have K:au h a:=I.kp.less λzz z=>.inr (z▸f);exact cC (lf (os:=[]) rfl tT λz W T z0 z1=>q z _ _ W (K.trans T) z1 (T.at p3) (T.at t3) I.f)
end
theorem JX:∀ {P:List UInt8},jR (P.map aK)=some P
 |[]=>rfl
 |x::P=>by
  show(if 0<=(x.toNat:Int)/\(x.toNat:Int)<256 then (jR (P.map aK)).map (dU (x.toNat:Int).toNat::·) else none)=_;refine rE (if_pos ⟨b9 _,aS.mpr x.toNat_lt⟩) (rE JX (rE qi ?_));rfl
theorem sM:(jR (P.map aK)).map V.bytes=some (.bytes P):=by refine rE JX ?_;rfl
theorem sN{T:Bool->Prop}(e:x=y)(q:T false):fO .ne h (.bytes x) (.bytes y) λr=>cD (.bool r) T:=by
 show T (!decide (x=y));refine rE (decide_eq_true e) ?_;exact q
theorem v5{x y:Int}{T:Bool->Prop}(e:x=y)(q:T false):fO .ne h (.int x) (.int y) λr=>cD (.bool r) T:=by
 show T (!decide (x=y));refine rE (decide_eq_true e) ?_;exact q
section
variable{C:bU}{c:Cs}{h:Hp}{m:M}{Q:Fl->Hp->M->Prop}{E:PE}{r:List S}{os:List Ht}{obs:List Ob}
theorem qj(F:dN c m a os=some (b,[],obs))(K:bd h obs)(M:b=ws)(q:C f ws h (cQ P m) (cE E m)):ev look ac C c (.aD f a) h m P E:=(jo F K) _ E (by refine rE M ?_;exact q)
theorem aar(q:ev look ac C c e h m (λv h m=>∃a,iC h v a/\storeAll c b a h m λh m=>aE look ac C c r h m Q E) E):aE look ac C c (.unpack b e::r) h m Q E:=q
theorem JY{a R w F:Nat}(W:b8 h a R w F P)(S:vE c m o os=some (.ref a,[],obs))(T:bd h obs)(V:look .fq f=.aX g)(X:∀s,mget (Be w F R s) f=none)(M:dN c m d os2=some (e,[],b))(O:bd h b)(i:e=ws)
  (q:C g (.ref a::ws) h (cQ K m) (cE E m)):ev look ac C c (.ay o f d) h m K E:=gd W S T V X M O (by refine rE i ?_;exact q)
end
section
variable{n:Nat}{h:Hp}{Q:V->Hp->Prop}{E:Ex->Hp->Prop}{a rb w tot d k:Nat}{P:List UInt8}
theorem aas(W:b8 h a rb w tot P)(M:d<100)(O:k<100)(F:¬(1<=d/\d<=P.length))(q:Q (.bool true) h):runs (n+5) .um [.ref a,.int d,.int k] h Q E:=by
 have R:P.length<100:=aV (ah W.len W.small) (by decide);refine aY (dI (os:=[]) rfl tT (vB (bH (gd (os:=[]) (os2:=[]) W rfl tT rfl (λK=>rfl) rfl tT (Bg W M R (λy z=>absurd ⟨y,z⟩ F) λK=>jj rfl ?_)))));refine vB (bH (gd (os:=[]) (os2:=[]) W rfl tT rfl (λK=>rfl) rfl tT (Bj W M O (λy z=>absurd ⟨y,z⟩ F) λK=>jj rfl ?_)));exact cH (os:=[]) rfl tT q
theorem JZ{E:PE}(O:1<=w)(M:w<=50)(R:dN e m f os=some ([.int w],[],c))(S:bd h c)
  (q:∀a rb b,au h b->h a=none->h rb=none->b8 b a rb w 0 []->K (.ref a) b m):ev look ac (runs (n+2)) e (.bN .fq f) h m K E :=
 mu rfl R S λa F=>aal O M Hp.set_same λb rb p T W=>jj rfl (q a rb b (λx o z V=>p x o ((Hp.cJ (fresh_ne z F)).trans z) (fresh_ne z F)) F (eh (ae.new F) T) W)
structure GR where
 i:Nat
 rb:Nat
 p:Nat
 P:List UInt8
 tot:Nat
 tu:Option V
 wa:Option V
 oc:Option V
 di:Option V
 so:Option V
 du:Option V
 co:Option V
noncomputable def lm(b w a:Nat)(x:GR):M:=[(.box,some (.ref b)),(.size,some (.int w)),(.ring,some (.ref a)),(.plain,some (.ref x.p)),(.total,some (.int x.tot)),(.turn,x.tu),(.way,x.wa),(.bM,x.oc),(.bb,x.di),(.some,x.so),(.due,x.du),(.count,x.co)]
noncomputable def Bp:List S:=[.assign .count (.bin .mod (.aa .bM) (.int 4)),.ite (.or (.cmp (.ay (.aa .ring) .ba []) .ne (.aB .bytes [(.aa .plain)])) (.or (.cmp (.aA (.aa .ring) .«have») .ne (.aB .len [(.aa .plain)])) (.cmp (.aA (.aa .ring) .total) .ne (.aa .total))))
    [.ret (.bool false)]
    [],.ite (.cmp (.ay (.aa .ring) .newest [(.aa .count)]) .ne (.aB .bytes [(.slice (.aa .plain) (.aB .max [(.int 0),(.bin .sub (.aB .len [(.aa .plain)]) (.aa .count))]) .absent)]))
    [.ret (.bool false)]
    []]
theorem aat{b o:Nat}{x:GR}{Q:Fl->Hp->M->Prop}{E:PE}(W:b8 h a x.rb w x.tot x.P)(F:h x.p=some (cU x.P))(T:x.oc=some (.int o))(q:∀c v,au h c->Q .next c (lm b w a {x with co:=v})):aE look ac (runs (n+4)) [] Bp h (lm b w a x) Q E:=by
 obtain⟨i,rb,p,P,tot,r,t,g,y,A,B,co⟩:=x;have T:g=some (.int o):=T;subst T;have W:b8 h a rb w tot P:=W;have F:h p=some (cU P):=F;refine ms (os:=[]) (j:=((o%4:Nat):Int)) rfl (show(0:Int)<4 by decide) (ir (xC rfl rfl)) ?_;refine aT (ie (cM (dO (gd (os:=[]) (os2:=[]) W rfl tT rfl (λe=>rfl) rfl tT (JS W λX K=>aG (os:=[.o (cU P),.g (.bytes P)]) rfl (jj (K.at F) sM) (sN rfl (aM (ie (cM (dO ?_))))))))));have S:=W.keep K id id;refine S.elim λL s X C R=>?_;refine v3 (os:=[]) rfl tT X (.prop rfl) (v4 S (aG (os:=[.o (cU P)]) rfl (K.at F) (v5 (by rw[dq]) (aM (vy (P:=(tot:Int)=tot) (os:=[.o (ek w tot rb s)]) rfl X (λz=>absurd rfl z) λe=>fg (aR ?_))))));refine aT (cM (dO (gd (os:=[]) (os2:=[]) S rfl tT rfl (λe=>rfl) rfl tT (aao S (cZ (D5 o (show 0<4 by decide)) (by decide)) λD f=>?_))));have O:=f.at (K.at F);refine od (bI (iP (aG (os:=[]) rfl tT (aG (os:=[.o (cU P)]) rfl O (aG (os:=[]) rfl tT (aP O λu l=>cu (aP Hp.set_same ?_)))))));have m:cut (P.map aK) (bA (P.map aK).length (max 0 (((P.map aK).length:Int) - ((o%4:Nat):Int)))) (P.map aK).length=(bP (o%4) P).map aK:=by
  rw[←Bo,show max 0 (((P.map aK).length:Int) - ((o%4:Nat):Int))=(((P.map aK).length - o%4:Nat):Int) by exact xR,j7 (fh (DG aK P).length (o%4))];unfold cut bP;exact rE re rfl
 refine aP ((congrArg (λz=>(jR z).map V.bytes) m).trans sM) (sN rfl (fg (aR (q _ (some (.int ((o%4:Nat):Int))) ((K.trans f).trans (ae.new l))))))
end
theorem v6{o:Nat}(h:o<256):V.int o=aK (dU o):=by
 show V.int o=V.int ((dU o).toNat:Int);exact rE UInt8.toNat_ofNat' (rE (Nat.mod_eq_of_lt h) rfl)
noncomputable def acM(o:Nat):List (List UInt8):=[[dU o],[dU o,dU (255 - o)],[7,dU o,0,255]]
theorem aau{h:Hp}{K M O y o:Nat}(R:y<3)(F:o<256)(T:h K=some (.list [.int o]))(W:h M=some (.list [.int o,.int (255 - o)]))(X:h O=some (.list [.int 7,.int o,.int 0,.int 255])):
  ∃z S,dr [V.ref K,.ref M,.ref O] (y:Int)=some (.ref z)/\h z=some (cU S)/\S.length<=4:=by
 have e:V.int (255 - (o:Int))=aK (dU (255 - o)):=by rw[show(255:Int) - o=((255 - o:Nat):Int) by exact rk (a:=255) (dA F)];exact v6 (Nat.sub_lt_succ 255 o)
 obtain rfl |rfl |rfl:y=0\/y=1\/y=2:=by exact uc R
 ·exact(cb K [dU o] rfl (by refine rE T (rE (v6 F) ?_);rfl) (by show 1<=4;decide))
 ·exact(cb M [dU o,dU (255 - o)] rfl (by refine rE W (rE e (rE (v6 F) ?_));rfl) (by show 2<=4;decide))
 ·exact(cb O [7,dU o,0,255] rfl (by refine rE X (rE (v6 F) ?_);rfl) (by show 4<=4;decide))
theorem J0(F:vE c m e os=some (v,[],a))(K:bd h a)(M:v=ws)(q:cY look ac C c b h m (λO h m=>P (ws::O) h m) E):cY look ac C c (e::b) h m P E:=(dv F K) _ E (by refine rE M ?_;exact q)
section
variable{n:Nat}{h:Hp}{Q:V->Hp->Prop}{E:Ex->Hp->Prop}{a b w:Nat}{x3:Int}
theorem gF{k:Nat}{F:Int}(B:ck h b k x3)(M:k<=1000)(O:0<F)(K:F<1073741824)(q:∀(d:Nat) c,(d:Int)<F->ae (·=b) h c->ck c b (k+1) x3->Q (.int d) c):runs (n+1) .bT [.ref b,.int F] h Q E :=
 lj B M O K λd c R S p T=>by obtain⟨e,rfl⟩:=Mk R;exact q e c S p T
noncomputable def J1:List S:=[.assign .some (.sub (.list [(.list [(.aa .bM)]),(.list [(.aa .bM),(.bin .sub (.int 255) (.aa .bM))]),(.list [(.int 7),(.aa .bM),(.int 0),(.int 255)])]) (.aa .way)),.expr (.ay (.aa .ring) .feed [(.aB .bytes [(.aa .some)])]),.unpack [.plain,.total] (.tup [(.slice (.bin .add (.aa .plain) (.aa .some)) (.neg (.aa .size)) .absent),(.bin .add (.aa .total) (.aB .len [(.aa .some)]))])]
def Bq(h:Hp)(b w a:Nat)(x:GR)(Q:Fl->Hp->M->Prop):Prop:=∀d c,c.i=x.i->ae (fz a x.rb) h d->b8 d a c.rb w c.tot c.P->d c.p=some (cU c.P)->(c.rb=x.rb\/h c.rb=none)->(c.p=x.p\/h c.p=none)->c.oc=x.oc->c.tu=x.tu->Q .next d (lm b w a c)
theorem aav{y o:Nat}{x:GR}{Q:Fl->Hp->M->Prop}{E:PE}(W:b8 h a x.rb w x.tot x.P)(B:h x.p=some (cU x.P))(hy:y<3)(ho:o<256)(C:x.wa=some (.int y))(D:x.oc=some (.int o))(q:Bq h b w a x Q):aE look ac (runs (n+4)) [] J1 h (lm b w a x) Q E:=by
 obtain⟨i,G,p,P,c,tu,wa,oc,di,so,du,co⟩:=x;have C:wa=some (.int y):=C;have D:oc=some (.int o):=D;subst C D;have W:b8 h a G w c P:=W;have B:h p=some (cU P):=B;refine bR (iL (iK (bI (dm (os:=[]) rfl tT λZ h1 e1 n1 r1=>bI (dm (os:=[]) rfl tT λl2 h2 e2 n2 r2=>bI (dm (os:=[]) rfl tT λl3 H I n3 r3=>cu λl4 n4=>aG (os:=[]) rfl tT (aP Hp.set_same ?_)))))));have j:au H (H.set l4 (.list [.ref Z,.ref l2,.ref l3])):=ae.new n4;have T:=((e1.trans e2).trans I).trans j;refine(aau hy ho (((e2.trans I).trans j).at r1) ((I.trans j).at r2) (j.at r3)).elim λz k=>k.elim λS k=>aP k.1 (cG ?_);have l:=k.2.1;generalize H.set l4 (.list [.ref Z,.ref l2,.ref l3])=h4 at T l;have V:=W.keep T id id;have X:=T.at B;refine bH (gd (os:=[]) (os2:=[.o (cU S),.g (.bytes S)]) V rfl tT rfl (λd=>rfl) rfl (jj l sM) (JN V λK m J=>?_));have e:∀ {u:Nat} {L:List UInt8},h4 u=some (cU L)->¬fz a G u:=λr z=>V.elim λL s t A d=>z.elim (λz=>by rw[z,t] at r;exact nomatch r) λz=>by rw[z,A] at r;exact nomatch r
 have N:=m _ _ X (e X);have f:=m _ _ l (e l);have lP:=V.len;have U:=V.small;refine jq (bI (iP (dk (aG (os:=[]) rfl tT (aG (os:=[]) rfl tT (aP N (aP f (jj (show(P.map aK).length+(S.map aK).length<=bB by rw[dq,dq,dz];exact ah (jx (ah lP U) k.2.2) (by decide)) λv hv=>?_))))))));refine aG (os:=[]) rfl tT (aG (os:=[]) rfl tT (aP Hp.set_same λR g=>?_));have e6:au K (K.set v (.list (P.map aK++S.map aK))):=ae.new hv;have e7:au (K.set v (.list (P.map aK++S.map aK))) ((K.set v (.list (P.map aK++S.map aK))).set R (.list (cut (P.map aK++S.map aK) (bA (P.map aK++S.map aK).length (-(w:Int))) (P.map aK++S.map aK).length))):=ae.new g;have r7:((K.set v (.list (P.map aK++S.map aK))).set R (.list (cut (P.map aK++S.map aK) (bA (P.map aK++S.map aK).length (-(w:Int))) (P.map aK++S.map aK).length))) R=some (cU (bP w (P++S))):=Hp.set_same.trans (congrArg some ((congrArg O.list (Bk W.pos)).trans (by unfold cU;exact rF Bo (rE no rfl))));have n7:h R=none:=eh T (back m (λz=>by
  rcases z with rfl |rfl
  ·exact J.elim λL s t A d=>by refine rE t ?_;nofun
  ·exact J.elim λL s t A d=>by refine rE A ?_;nofun) (eh e6 g))
 generalize (K.set v (.list (P.map aK++S.map aK))).set R (.list (cut (P.map aK++S.map aK) (bA (P.map aK++S.map aK).length (-(w:Int))) (P.map aK++S.map aK).length))=h7 at e7 r7;have F:=e6.trans e7;refine J0 (ws:=.int ((c+S.length:Nat):Int)) (os:=[.o (cU S)]) rfl (F.at f) (by rw[dq];rfl) (cu (iI λh8 Y=>?_));exact q h8 ⟨i,G,R,bP w (P++S),c+S.length,tu,some (.int y),some (.int o),di,some (.ref z),du,co⟩ rfl (((T.mono λd z=>z.elim).trans m).trans ((F.trans Y).mono λd z=>z.elim)) (J.keep (F.trans Y) id id) (Y.at r7) (.inl rfl) (.inr n7) rfl rfl
noncomputable def J2:List S:=[.ite (.and (.cmp (.aa .way) .eq (.int 6)) (.cmp (.bin .mod (.aa .bM) (.int 3)) .eq (.int 0)))
     [.expr (.ay (.aa .ring) .clear []),.assign .plain (.list [])]
     [.ite (.not (.fN (.int 1) .le (.aa .bb) .le (.aB .len [(.aa .plain)])))
       [.ite (.not (.aD .um [(.aa .ring),(.aa .bb),(.bin .mod (.aa .bM) (.int 5))]))
        [.ret (.bool false)]
        []]
       [.ite (.cmp (.ay (.aa .ring) .«at» [(.aa .bb)]) .ne (.sub (.aa .plain) (.bin .sub (.aB .len [(.aa .plain)]) (.aa .bb))))
        [.ret (.bool false)]
        [],.unpack [.plain,.due] (.aD .ul [(.aa .plain),(.aa .bb),(.bin .mod (.aa .bM) (.int 12)),(.aa .size)]),.ite (.cmp (.ay (.aa .ring) .copy [(.aa .bb),(.bin .mod (.aa .bM) (.int 12))]) .ne (.aB .bytes [(.aa .due)]))
        [.ret (.bool false)]
        [],.assign .total (.bin .add (.aa .total) (.aB .len [(.aa .due)]))]]]
theorem aaw{y o d:Nat}{x:GR}{Q:Fl->Hp->M->Prop}{E:PE}(W:b8 h a x.rb w x.tot x.P)(O:h x.p=some (cU x.P))(D:d<100)(G:x.wa=some (.int y))(H:x.oc=some (.int o))(I:x.di=some (.int d))(q:Bq h b w a x Q):aE look ac (runs (n+5)) [] J2 h (lm b w a x) Q E:=by
 obtain⟨i,e,p,P,c,m,wa,oc,di,r,J,t⟩:=x;have G:wa=some (.int y):=G;have H:oc=some (.int o):=H;have I:di=some (.int d):=I;subst G H I;have W:b8 h a e w c P:=W;have O:h p=some (cU P):=O;have S:=W.small;have lP:=W.len;have hP:P.length<100:=by exact aV (ah lP S) (by decide)
 have K:aE look ac (runs (n+5)) [] [.ite (.not (.fN (.int 1) .le (.aa .bb) .le (.aB .len [(.aa .plain)])))
       [.ite (.not (.aD .um [(.aa .ring),(.aa .bb),(.bin .mod (.aa .bM) (.int 5))]))
        [.ret (.bool false)]
        []]
       [.ite (.cmp (.ay (.aa .ring) .«at» [(.aa .bb)]) .ne (.sub (.aa .plain) (.bin .sub (.aB .len [(.aa .plain)]) (.aa .bb))))
        [.ret (.bool false)]
        [],.unpack [.plain,.due] (.aD .ul [(.aa .plain),(.aa .bb),(.bin .mod (.aa .bM) (.int 12)),(.aa .size)]),.ite (.cmp (.ay (.aa .ring) .copy [(.aa .bb),(.bin .mod (.aa .bM) (.int 12))]) .ne (.aB .bytes [(.aa .due)]))
        [.ret (.bool false)]
        [],.assign .total (.bin .add (.aa .total) (.aB .len [(.aa .due)]))]] h (lm b w a ⟨i,e,p,P,c,m,some (.int y),some (.int o),some (.int d),r,J,t⟩) (sq (runs (n+5)) [] [] Q E) E:=by
  refine aT (iJ (pU (o1:=[]) (o2:=[]) (o3:=[.o (cU P)]) rfl tT rfl tT rfl rfl O rfl (λN v=>aM ?_) λz=>aU ?_))
  ·have N:(1:Int)<=d:=N;have v:(d:Int)<=(P.map aK).length:=v;rw[dq] at v;have A:1<=d:=by exact bt.mp N
   have T:d<=P.length:=by exact bt.mp v
   have g:P[P.length - d]?=some ((P[P.length - d]?).getD default):=by
    rw[f7 (Nat.sub_lt_self A T)];rfl
   have gv:dr (P.map aK) (((P.map aK).length:Int) - d)=some (aK ((P[P.length - d]?).getD default)):=js (n:=P.length - d) (by rw[dq];exact ir (jy T)) (by rw[oQ,g];rfl);refine aT (cM (dO (gd (os:=[]) (os2:=[]) W rfl tT rfl (λF=>rfl) rfl tT (Bg W D hP (λF F=>aG (os:=[.o (cU P),.o (cU P),.g (aK ((P[P.length - d]?).getD default))]) rfl (jj (jj O O) gv) (v5 rfl (fg (aR ?_)))) λz=>absurd ⟨A,T⟩ z))));have hk:o%12<100:=cZ (D5 o (by decide)) (by decide);refine aar (qj (ws:=[.ref p,.int d,.int ((o%12:Nat):Int),.int w]) (os:=[]) rfl (show(0:Int)<12 by decide) (by rw[show((o:Int)%12)=((o%12:Nat):Int) by exact ir (xC rfl rfl)]) (aaq O A T lP S hk λz U t' h1 e1 hz V X pn=>aP (.tup hz) ?_));have Y:=W.keep e1 id id;refine aT (cM (dO (JY (ws:=[.int d,.int ((o%12:Nat):Int)]) (os:=[]) (os2:=[]) Y rfl tT rfl (λF=>rfl) rfl (show(0:Int)<12 by decide) (by rw[show((o:Int)%12)=((o%12:Nat):Int) by exact ir (xC rfl rfl)]) (Bj Y D hk (λF F B Z W2=>?_) λz=>absurd ⟨A,T⟩ z))));have f:∀ {u:Nat} {L:List UInt8},h1 u=some (cU L)->¬fz a e u:=λC z=>Y.elim λL s g1 g2 F=>z.elim (λz=>by rw[z,g1] at C;exact nomatch C) λz=>by rw[z,g2] at C;exact nomatch C
   have k:=Z _ _ X (f X);have R:=Z _ _ V (f V);refine aG (os:=[.o (cU (cT w d (o%12) P).2),.g (.bytes (cT w d (o%12) P).2)]) rfl (jj k sM) (sN rfl (fg (aR ?_)));refine ms (os:=[.o (cU (cT w d (o%12) P).2)]) (j:=((c+o%12:Nat):Int)) rfl k (by rw[dq,Bh];rfl) ?_;exact aR (aR (q B ⟨i,e,U,(cT w d (o%12) P).1,c+o%12,m,some (.int y),some (.int o),some (.int d),r,some (.ref t'),t⟩ rfl ((e1.mono λF z=>z.elim).trans Z) W2 R (.inl rfl) pn rfl rfl))
  ·refine(aT (iJ (cM (qj (ws:=[.ref a,.int d,.int ((o%5:Nat):Int)]) (os:=[]) rfl (show(0:Int)<5 by decide) (by rw[show((o:Int)%5)=((o%5:Nat):Int) by exact ir (xC rfl rfl)]) (aas W D (cZ (D5 o (by decide)) (by decide)) (λy=>z ⟨by exact jK y.1,by rw[dq];exact jK y.2⟩) ?_)))));exact qf (aR (aR (aR (q h ⟨i,e,p,P,c,m,some (.int y),some (.int o),some (.int d),r,J,t⟩ rfl ae.refl W O (.inl rfl) (.inl rfl) rfl rfl))))
 refine aT (fU (aZ (os:=[]) rfl tT (λF=>aU (aZ (os:=[]) rfl (show(0:Int)<3 by decide) (λF=>aU ?_) λF=>aM ?_)) λF=>aM K))
 ·refine W.inst.elim λs g1=>bH (gd (os:=[]) (os2:=[]) W rfl tT rfl (λF=>rfl) rfl tT (JM g1 (show 4<50 by decide) λh1 l p1 r0 r1 a1=>bR (dm (os:=[]) rfl tT λU B e2 n2 R=>cG (aR ?_))));have W2:b8 B a l w c []:=⟨(cb [] 0 (e2.at a1) (e2.at r1) (.inl (aH W.pos rfl rfl))),W.pos,W.small⟩
  exact q B ⟨i,l,U,[],c,m,some (.int y),some (.int o),some (.int d),r,J,t⟩ rfl ((p1.mono λF z=>.inl z).trans (e2.mono λF z=>z.elim)) W2 R (.inr r0) (.inr (j6 p1 a1 n2)) rfl rfl
 ·exact K
end
theorem sO{i j k:Int}(e:i+j=k)(q:P (.int k) h):(iS .add (.int i) (.int j)).run h P:=by rw[←e] at q;exact q
section
variable{n:Nat}{h:Hp}{Q:V->Hp->Prop}{E:Ex->Hp->Prop}{b k:Nat}{x3:Int}
structure JR(h0:Hp)(b k w a ra nn:Nat)(x3:Int)(zs:List Nat)(x:GR)(h:Hp):Prop where
 j:x.i+zs.length=nn
 kp:ae (·=b) h0 h
 box:ck h b (k+3*x.i) x3
 wi:b8 h a x.rb w x.tot x.P
 ip:h x.p=some (cU x.P)
 r:h ra=some (.range 0 nn 1)
 fr:h0 x.rb=none
 fp:h0 x.p=none
theorem ck.at(B:ck h b k x3):∃l,h b=some (.list l)/\l.length=4:=iu B λF K M B=>(aq _ B.ls rfl)
theorem ck.off{a M w K:Nat}(B:ck h b k x3)(W:b8 h a M w K P):¬fz a M b:=λz=>B.at.elim λl F=>W.elim λL s O R S=>z.elim (λz=>by rw[z,O] at F;cases F.1) λz=>by rw[z,R] at F;cases F.1
theorem ck.elim{X:Prop}(B:ck h b k x3)(q:∀a c d,h b=some (.list [.int a,.int c,.int d,.int x3])->X):X:=iu B λa c d B=>q a c d B.ls
theorem aax{Q:Fl->Hp->M->Prop}{E:PE}(I:JR c b k w a j d x3 (f::G) x h)(m:k<=900)(o:d<=7)(Z:c b≠none)(fa:c a=none)(q:∀x h,JR c b k w a j d x3 G x h->Q .next h (lm b w a x)):
  aE look ac (runs (n+5)) [] (.unpack [.way,.bM,.bb] (.tup [(.aD .bT [(.aa .box),(.int 7)]),(.aD .bT [(.aa .box),(.int 256)]),(.aD .bT [(.aa .box),(.bin .add (.aa .size) (.int 2))])])::.ite (.cmp (.aa .way) .lt (.int 3)) J1 J2::Bp) h (lm b w a {x with tu:=some (.int f)}) Q E:=by
 have F:=I.j;rw[qR] at F;have K:=I.wi.small;have w1:=I.wi.pos;have nb:=I.box.off I.wi;have pb:x.p≠b:=λe=>Z (e▸I.fp);refine jq (bI (b7 (os:=[]) rfl tT (gF I.box (by exact d9 (d9 (xO m o F))) (by decide) (by decide) λp h1 l1 p1 B1=>bI (b7 (os:=[]) rfl tT (gF B1 (by exact d9 (xO m o F)) (by decide) (by decide) λr h2 l2 p2 B2=>bI (b7 (os:=[]) rfl tT (gF B2 (by exact xO m o F) (by exact Int.add_pos_of_nonneg_of_pos (b9 w) (by decide)) (by exact OU K) λt h3 l3 p3 B3=>cu (iI λu H=>?_))))))));have W:ae (·=b) h u:=((p1.trans p2).trans p3).trans (H.mono λJ z=>z.elim);have X:ck u b (k+3*(x.i+1)) x3:=(B3.keep H id).more (a6 (k+3*x.i+1+1+1));have g:=I.wi.keep W (λe=>nb (.inl e.symm)) λe=>nb (.inr e.symm);have O:=W _ _ I.ip pb;have A:j≠b:=λe=>I.box.at.elim λl N=>by rw[←e,I.r] at N;cases N.1
 have R:=W _ _ I.r A;have B:=I.kp.trans W;have S:Bq u b w a ⟨x.i+1,x.rb,x.p,x.P,x.tot,some (.int f),some (.int p),some (.int r),some (.int t),x.so,x.du,x.co⟩ (sq (runs (n+5)) [] Bp Q E):=λh5 i P C U T f5 g5 o5 u5=>by
  have nr:¬fz a x.rb j:=λz=>g.elim λL s g1 g2 J=>z.elim (λz=>by rw[z,g1] at R;cases R) λz=>by rw[z,g2] at R;cases R
  refine aat (n:=n+1) U T o5 λY v V=>q _ Y ⟨?_,?_,?_,U.keep V id id,V.at T,V.at (C _ _ R nr),?_,?_⟩
  ·show i.i+_=d;refine rE P ?_;show x.i+1+G.length=d;rw[←F,hB,gJ 1]
  ·refine(B.drop C λy z=>.inr ?_).trans (V.mono λJ z=>z.elim);exact z.elim (λz=>z▸fa) λz=>z▸I.fr
  ·show ck Y b (k+3*i.i) x3;refine rE P ?_;exact(X.keep C (X.off g)).keep V id
  ·exact f5.elim (λz=>by show c i.rb=none;refine rE z ?_;exact I.fr) λz=>back B (λe D=>X.ne D e) z
  ·exact g5.elim (λz=>by show c i.p=none;refine rE z ?_;exact I.fp) λz=>back B (λe D=>X.ne D e) z
 refine aT (aZ (os:=[]) rfl tT (λz=>aU ?_) λz=>aM ?_)
 ·exact aav (n:=n+1) (x:=⟨x.i+1,x.rb,x.p,x.P,x.tot,some (.int f),some (.int p),some (.int r),some (.int t),x.so,x.du,x.co⟩) g O (aS.mp z) (aS.mp l2) rfl rfl S
 ·exact aaw (x:=⟨x.i+1,x.rb,x.p,x.P,x.tot,some (.int f),some (.int p),some (.int r),some (.int t),x.so,x.du,x.co⟩) g O (by exact OR K l3) rfl rfl rfl S
theorem aay(B:ck h b k x3)(X:k<=800)(M:x3=4\/x3=14)(q:∀c,ae (·=b) h c->Q (.bool true) c):runs (n+6) .rK [.ref b] h Q E:=by
 refine aY (bR (dk (aG (os:=[]) rfl tT (b7 (os:=[]) rfl tT (gF B (by exact ah X (by decide)) (by decide) (by decide) λd o r p1 f=>sO (k:=((1+d:Nat):Int)) rfl (cG ?_))))));refine jq (bI (JZ (n:=n+3) (w:=1+d) (cP 1 d) (by exact ah (dy (aO (aS.mp r)) 1) (by decide)) (os:=[]) rfl tT λa s h2 g t O u=>bI (dm (os:=[]) rfl tT λp h3 i v A=>d5 (os:=[]) rfl tT (cu (iI λC S=>?_)))));have j:=(g.trans i).trans S;have D:ae (·=b) h C:=p1.trans (j.mono λG z=>z.elim);have l:=f.keep j id;have T:∀ {y:Nat},o y=none->h y=none:=λH=>back p1 (λe M=>f.ne M e) H;have J:∃m:Nat,x3 / 2=(m:Int)/\m<=7:=M.elim (λe=>(aq 2 (by refine rE e ?_;rfl) (by decide))) λe=>(aq 7 (by refine rE e ?_;rfl) (by decide))
 refine J.elim λm W=>l.elim λL N P U=>?_;refine g0 (A8 (aG (os:=[.o (.list [.int L,.int N,.int P,.int x3]),.g (.int x3)]) rfl (jj (jj U rfl) (show(0:Int)<2/\(2:Int)<1073741824 by decide)) (A9 W.1 (by exact aV W.2 (by decide)) λY h5 K Z F=>aP (.range F) ?_)));refine rE li ?_;have hb:h b≠none:=λe=>B.ne e rfl;refine gC (λz:Nat=>V.int z) (lm b (1+d) a) (JR h b (k+1) (1+d) a Y m x3) (λz0 zs x c I R hR=>jj (I.r.trans F.symm) ?_) (λx c I=>jj (I.r.trans F.symm) ?_) (x:=⟨0,s,p,[],0,none,none,none,none,none,none,none⟩) ⟨by refine rE m7 ?_;exact o0 _,D.trans (K.mono λG z=>z.elim),l.keep K id,u.keep ((i.trans S).trans K) id id,(S.trans K).at A,F,T O,T (eh g v)⟩
 ·exact aax I (show k+1<=900 by exact ah (db X) (by decide)) W.2 hb (T t) hR
 ·exact cH (os:=[]) rfl tT (q c I.kp)
end
section
variable{n:Nat}{h:Hp}{Q:V->Hp->Prop}{E:Ex->Hp->Prop}{a cl cw:Nat}{t:List UInt8}
theorem aaz(K:h cl=some (.cell (some (.bytes t)))):gE (n+3) (.lam 2) [cl] h:=λR Q E e q =>
 aY (cC (qg (n:=n+2) (os:=[.g (.bytes t)]) rfl rfl (e.at K) λa M O S a2 =>
  aY (bH (mv (os:=[]) rfl rfl tT (mA a2 ⟨rfl,rfl,rfl,rfl,rfl⟩ (λz F F=>absurd z (by decide)) λF=>q M O)))))
theorem aaA(F:h cl=some (.cell (some (.bytes t)))):gE (n+3) (.lam 3) [cl] h:=λO Q E e q =>
 aY (cC (qg (n:=n+2) (os:=[.g (.bytes t)]) rfl rfl (e.at F) λa K M R a2=>ZB (by decide) (q K M)))
theorem aaB(K:h cl=some (.cell (some (.bytes t)))):gE (n+3) (.lam 4) [cl] h:=λR Q E e q =>
 aY (cC (qg (n:=n+2) (os:=[.g (.bytes t)]) rfl rfl (e.at K) λa M O S a2 =>
  aY (bH (mv (os:=[]) rfl rfl tT (mA a2 ⟨rfl,rfl,rfl,rfl,rfl⟩ (λF z F=>absurd z (by decide)) λF=>q M O)))))
theorem aaC:gE (n+3) (.lam 5) [] h:=λM Q E e q =>
 aY (cC (qg (n:=n+2) (os:=[]) rfl rfl tT λa F K O a2=>JD (by decide) (q F K)))
theorem aaD:gE (n+3) (.lam 8) [] h:=λM Q E e q =>
 aY (cC (qg (n:=n+2) (os:=[]) rfl rfl tT λa F K O a2=>JD (by decide) (q F K)))
theorem aaE(F:h cl=some (.cell (some (.bytes t)))):gE (n+3) (.lam 6) [cl] h:=λR Q E e q =>
 aY (cC (qg (n:=n+2) (os:=[.g (.bytes t)]) rfl rfl (e.at F) λa S K T a2=>Z' (wi:=9) (chi:=0) a2 (by decide) λM O=>q M (K.trans O)))
theorem aaF(F:h cl=some (.cell (some (.bytes t)))):gE (n+3) (.lam 7) [cl] h:=λK Q E e q =>
 aY (cC (b7 (os:=[.g (.bytes t)]) rfl (e.at F) (JF (o1:=.none) (o2:=.none) (o3:=.none) (by decide) (by decide) (by decide) (q K ae.refl))))
theorem aaG(F:h cl=some (.cell (some (.bytes t)))):gE (n+3) (.lam 9) [cl] h:=λK Q E e q =>
 aY (cC (b7 (os:=[.g (.bytes t)]) rfl (e.at F) (JF (o1:=.none) (o2:=.none) (o3:=.none) (by decide) (by decide) (by decide) (q K ae.refl))))
theorem ou{E:PE}{f:Fn}{F:List X}{P:PV}(q:cY look ac C c F h m (YU C f P E) E):ev look ac C c (.aD f F) h m P E:=q
theorem sP{E:PE}{i j:Nat}{M O:List Nat}{P:PV}(R:cells C (ac i)=some M)(S:cells C (ac j)=some O)(T:∀ {b},au h b->gE n (.lam i) M b)(V:∀ {b},au h b->gE n (.lam j) O b)(q:∀b,au h b->P (.bool true) b m):ev look ac (runs (n+1)) C (.aD .lW [.lam i,.lam j]) h m P E :=
 ou (bI (JA R λx c K d a1=>bI (JA S λy e F f a2=>cu (Z8 (F.at a1) a2 (T (K.trans F)) (V (K.trans F)) λW X=>q W ((K.trans F).trans X)))))
theorem J3(R:Fin h a r d b t l w c u)(F:1<=l)(O:l<=4)(S:u<=t.length)(T:t.length<=100)(V:p<t.length)(K:p<=u)(M:u<=c)(q:j9 h (bQ t l w mo p) Q):runs (n+4) .uh [.ref a,.int p,.int mo] h Q E :=
 I' R F O S T V (by have e:=Je (t:=t) (l:=l) (w:=w) (mo:=mo) F K M;unfold bD at e;refine rE e ?_;exact q)
theorem aaH(F:t.length<=100)(q:∀a r d b c,au h c->Fin c a r d b t 2 40 9 0->Q (.ref a) c):runs (n+3) .i4 [.str "chain",.bytes t,.int 2,.int 40,.int 9] h Q E :=
 aY (aT (aZ (os:=[]) rfl tT (λK=>aU (cC (vN (l:=2) (w:=40) (ch:=9) (by decide) (by decide) (by decide) F (os:=[]) rfl tT λa r d b c e R K=>q a r d b c e R))) λz=>absurd rfl z))
theorem aaI(K:t.length<=100)(q:∀A b,au h b->Lay A t 40 9 0 0 0 b->A.tree t 40 9 0 b->Q (.ref A.a) b):runs (n+5) .i4 [.str "layers",.bytes t,.int 2,.int 40,.int 9] h Q E :=
 aY (aT (aZ (os:=[]) rfl tT (λz=>absurd z (by decide)) λF=>aM (aR (aT (aZ (os:=[]) rfl tT (λz=>absurd z (by decide)) λF=>aM (aR (aT (aZ (os:=[]) rfl tT (λF=>aU (cC (A4 (n:=n) (w:=40) (ch:=9) (by decide) (by decide) K (os:=[]) rfl tT λA b e L T F F=>q A b e L T))) λz=>absurd rfl z))))))))
end
section
variable{n:Nat}{h:Hp}{Q:V->Hp->Prop}{E:Ex->Hp->Prop}{a cl cw:Nat}{t:List UInt8}
theorem aaJ{w:Nat}{h0:Hp}(i:au h h0)(K:h0 cl=some (.cell (some (.bytes t))))(s:w<5)(m:1<=t.length)(j:t.length<=100)(q:∀o,au h o->Q (.bool true) o):
  aE look ac (runs (n+5)) [(.text,cl)] (prog .uk).body h0 [(.text,none),(.way,some (.int w)),(.told,none)] (fQ Q) (fE E):=by
 refine aT (aZ (os:=[]) rfl tT (λg=>aU (cC (sP (n:=n+4) rfl rfl (λe=>aaz (n:=n+1) (e.at K)) (λe=>aaA (n:=n+1) (e.at K)) λO F=>q O (i.trans F)))) λu=>aM (aR ?_));refine aT (aZ (os:=[]) rfl tT (λg=>aU (cC (sP (n:=n+4) rfl rfl (λe=>aaB (n:=n+1) (e.at K)) (λe=>aaC (n:=n+1)) λO F=>q O (i.trans F)))) λv=>aM (aR ?_));refine aT (aZ (os:=[]) rfl tT (λg=>aU (cC (sP (n:=n+4) rfl rfl (λe=>aaE (n:=n+1) (e.at K)) (λe=>aaF (n:=n+1) (e.at K)) λO F=>q O (i.trans F)))) λx=>aM (aR ?_));have M:∀ {f S W},au h0 S->au S W->Lb S W f (bQ t 2 40 9 0)->kA (runs (n+5)) [(.text,cl)] .told [.ret (.and (.cmp (.aa .told) .eq (.list [])) (.aD .lW [(.lam 8),(.lam 9)]))] (fQ Q) (fE E) (.ref f) W [(.text,none),(.way,some (.int w)),(.told,none)]:=λ{f S W} X c L =>
  v1 rfl (cC (vz (cM (dO (aG (os:=[]) rfl tT (dm (os:=[]) rfl tT λy I k g B=>(L.ext k).elim λJ C D=>eqT C D B (PL.nil (h0:=h)) (λg=>aU (cM (sP (n:=n+4) rfl rfl (λe=>aaD (n:=n+1)) (λe=>aaG (n:=n+1) (e.at (k.at (c.at (X.at K))))) λG H=>q G ((((i.trans X).trans c).trans k).trans H)))) λz=>absurd rfl z))))))
 have l:=abX s u v x;refine bR (show ev look ac (runs (n+5)) [(.text,cl)] (.aD .i4 [(.sub (.list [(.str "layers"),(.str "chain")]) (.bin .mod (.aa .way) (.int 2))),(.bh .text),(.int 2),(.int 40),(.int 9)]) h0 _ _ _ from ?_);refine ou (bI (iL (dm (os:=[]) rfl tT λy O F g p=>?_)));rcases l with rfl |rfl
 ·refine aG (os:=[]) rfl (show(0:Int)<2 by decide) (aP p (aP (w:=V.str "chain") rfl (n8 (os:=[.g (.bytes t)]) rfl (F.at K) (aaH (n:=n+2) j λa r d b S X R=>?_))));exact aP R.x (aP (w:=.own .uh a) (.own rfl rfl) (n8 (os:=[]) rfl tT (J3 (n:=n+1) R (by decide) (by decide) (ca _) j m (a6 0) (by decide) λf W c L=>M (F.trans X) c L)))
 ·refine aG (os:=[]) rfl (show(0:Int)<2 by decide) (aP p (aP (w:=V.str "layers") rfl (n8 (os:=[.g (.bytes t)]) rfl (F.at K) (aaI (n:=n) j λA S X L T=>?_))));exact aP L.x (aP (w:=.own .rH A.a) (.own rfl rfl) (n8 (os:=[]) rfl tT (A0 (n:=n+2) L T m j (ca _) (by decide) λf W c L=>M (F.trans X) c L)))
theorem aaK{w:Nat}(K:w<5)(M:1<=t.length)(O:t.length<=100)(q:∀b,au h b->Q (.bool true) b):runs (n+6) .uk [.bytes t,.int w] h Q E :=
 aY (λcl F=>aaJ (ae.new F) Hp.set_same K M O q)
end
section
variable{n:Nat}{h:Hp}{Q:V->Hp->Prop}{E:Ex->Hp->Prop}{a r d b' b k sh c1 c2 p s w ch u mo:Nat}{x3:Int}{t:List UInt8}
theorem aaL(F:h c1=some (.cell (some (.int p))))(O:h c2=some (.cell (some (.ref a))))(R:Fin h a r d b' t s w ch u)(K:p<=t.length):gE (n+3) (.lam 0) [c1,c2] h:=λS Q E e q =>
 aY (cC (bS (os:=[.g (.ref a)]) (os2:=[.g (.int p),.g (.int p)]) rfl (e.at O) (e.at R.x) (.own rfl rfl) rfl (jj (e.at F) (e.at F)) (AD (p':=p) (o':=p) (l:=min 3 (t.length - p)) (e.at R.x) (.field rfl rfl) (.own rfl rfl) (.own rfl rfl) rfl (λM z=>absurd z (DT _)) (p9 (mo:=3) K) (ua K) (λM z=>absurd z (DT _)) λM=>q S ae.refl)))
theorem aaM(M:h c1=some (.cell (some (.int p))))(O:h c2=some (.cell (some (.ref a))))(R:Fin h a r d b' t s w ch u)(F:p<=t.length):gE (n+3) (.lam 1) [c1,c2] h:=λS Q E e q =>
 aY (cC (bS (os:=[.g (.ref a)]) (os2:=[.g (.int p)]) rfl (e.at O) (e.at R.x) (.own rfl rfl) rfl (e.at M) (AD (p':=p) (o':=p) (l:=min 3 (t.length - p)) (e.at R.x) (.field rfl rfl) (.own rfl rfl) (.own rfl rfl) rfl (λz K=>absurd z (by decide)) (p9 (mo:=3) F) (ua F) (λz K=>absurd z (by decide)) λK=>q S ae.refl)))
noncomputable def sQ(b:Nat)(t:List UInt8)(sh:Nat)(x:Option V×Option V):M:=[(.box,some (.ref b)),(.text,some (.bytes t)),(.shape,some (.ref sh)),(.bb,x.1),(.due,x.2)]
noncomputable abbrev Br(c1 c2:Nat):Cs:=[(.finder,c2),(.am,c1)]
noncomputable def ow(t:List UInt8)(p w mo:Nat)(z:Int):Nat:=if 1<=z/\z<=min (p:Int) w then bD t mo p ((p:Int) - z).toNat else 0
theorem aaN{z:Int}{x:Option V×Option V}{Q:Fl->Hp->M->Prop}{E:PE}(S:h c1=some (.cell (some (.int p))))(X:h c2=some (.cell (some (.ref a))))(T:h sh=some (.list [.int s,.int w,.int mo]))(R:Fin h a r d b' t s w ch u)(W:p<t.length)(q:∀x,Q .next h (sQ b t sh x)):
  aE look ac (runs (n+4)) (Br c1 c2) [.assign .due (.ite (.fN (.int 1) .le (.aa .bb) .le (.aB .min [(.bh .am),(.sub (.aa .shape) (.int 1))])) (.aD .ui [(.aa .text),(.bh .am),(.bin .sub (.bh .am) (.aa .bb)),(.sub (.aa .shape) (.int 2))]) (.int 0)),.ite (.cmp (.ay (.bh .finder) .«repeat» [(.bh .am),(.aa .bb),(.sub (.aa .shape) (.int 2))]) .ne (.aa .due))
    [.ret (.bool false)]
    []] h (sQ b t sh (some (.int z),x.2)) Q E:=by
 have F:kA (runs (n+4)) (Br c1 c2) .due [.ite (.cmp (.ay (.bh .finder) .«repeat» [(.bh .am),(.aa .bb),(.sub (.aa .shape) (.int 2))]) .ne (.aa .due))
    [.ret (.bool false)]
    []] Q E (.int (ow t p w mo z)) h (sQ b t sh (some (.int z),x.2)):=by
  refine v1 rfl (aT (cM (dO (bS (os:=[.g (.ref a)]) (os2:=[.g (.int p),.o (.list [.int s,.int w,.int mo]),.g (.int mo)]) rfl X R.x (.own rfl rfl) rfl (jj (jj S T) rfl) (ZE (p:=p) (w:=w) (mo:=mo) (lim:=min mo (t.length - p)) R.x (.field rfl rfl) (.field rfl rfl) (.own rfl rfl) (.own rfl rfl) (.own rfl rfl) (p9 (aO W)) (by exact ua (aO W)) (λK O c=>aG (os:=[]) rfl tT (v5 ?_ (fg (aR (q (some (.int z),some (.int (ow t p w mo z)))))))) λK=>aG (os:=[]) rfl tT (v5 ?_ (fg (aR (q (some (.int z),some (.int (ow t p w mo z))))))))))))
  ·unfold ow;refine rE (if_pos (by exact⟨K,NM.mpr ⟨O,c⟩⟩)) ?_;rfl
  ·unfold ow;refine rE (if_neg (by exact λy=>K ⟨y.1,NM.mp y.2⟩)) ?_;rfl
 refine bR (oa (pU (o1:=[]) (o2:=[]) (o3:=[.g (.int p),.o (.list [.int s,.int w,.int mo]),.g (.int w)]) rfl tT rfl tT rfl rfl (jj (jj S T) rfl) rfl (λK O=>aU ?_) λK=>aM (aG (os:=[]) rfl tT ?_)))
 ·have K:(1:Int)<=z:=K;have O:z<=min (p:Int) w:=O;refine b7 (os:=[.g (.int p),.g (.int p),.o (.list [.int s,.int w,.int mo]),.g (.int mo)]) rfl (jj (jj (jj S S) T) rfl) (Jv (p:=p) (o:=((p:Int) - z).toNat) (mo:=mo) (by exact Ou O) (aO W) (by exact Es K) ?_);unfold ow at F;rw[if_pos ⟨K,O⟩] at F;exact F
 ·unfold ow at F;rw[if_neg K] at F;exact F
theorem aaO{N:Hp}(E2:au h N)(i1:N c1=some (.cell none))(i2:N c2=some (.cell none))(f1:h c1=none)(f2:h c2=none)(P:c1≠c2)(U:ck h b k x3)(hk:k<=800)(X:h sh=some (.list [.int s,.int w,.int mo]))(s1:1<=s)(s4:s<=4)(w1:1<=w)(t1:1<=t.length)(c:t.length<=100)(q:∀f,ae (·=b) h f->ck f b (k+2) x3->Q (.bool true) f):
  aE look ac (runs (n+5)) (Br c1 c2) (prog .uj).body N (sQ b t sh (none,none)) (fQ Q) (fE E):=by
 have Y:=E2.at X;have Z:sh≠b:=λe=>U.at.elim λl g=>by rw[←e,X] at g;cases g.1;exact absurd g.2 (show(3:Nat)≠4 by decide)
 refine bR (vN (n:=n+3) (w:=w) (ch:=t.length+1) s1 w1 (hK _) c (os:=[.o (.list [.int s,.int w,.int mo]),.g (.int s),.o (.list [.int s,.int w,.int mo]),.g (.int w)]) rfl (jj (jj (jj Y rfl) Y) rfl) λa r d b' h3 e3 R3 nw=>?_);refine aP (e3.at i2) ?_;have p4:ae (·=c2) h3 (h3.set c2 (.cell (some (.ref a)))):=ae.set rfl;have i:(h3.set c2 (.cell (some (.ref a)))) c2=some (.cell (some (.ref a))):=Hp.set_same;generalize h3.set c2 (.cell (some (.ref a)))=h4 at p4 i;have H:∀ {y:Nat} {o:O},N y=some o->¬ka a r d b' y:=λhy z=>by rw[nw _ z] at hy;exact aN hy
 have R4:=R3.qa p4 λx F e=>H (e▸i2) F;have c14:=p4 _ _ (e3.at i1) P;refine bH (bS (os:=[.g (.ref a)]) (os2:=[]) rfl i R4.x (.own rfl rfl) rfl tT (Z9 (n:=n) R4 s4 c λh5 p5 R5=>?_));have c15:=p5 _ _ c14 (H i1);have c25:=p5 _ _ i (H i2);have sc2:sh≠c2:=λe=>by rw[e,f2] at X;exact aN X
 have sc1:sh≠c1:=λe=>by rw[e,f1] at X;exact aN X
 have bc2:¬b=c2:=U.ne f2 |>.symm
 have M:¬b=c1:=U.ne f1 |>.symm
 have P5:ae (λJ=>False) h h5:=λx o F J=>p5 _ _ (p4 _ _ (e3.at (E2.at F)) λe=>by rw[e,f2] at F;exact aN F) (H (E2.at F));have B5:=U.keep P5 id;refine bR (b7 (os:=[]) rfl tT (gF B5 (by exact ah hk (by decide)) (aS.mpr t1) (by exact jw (jK c) (by decide)) λp h6 lp p6 B6=>?_));have j:p<t.length:=aS.mp lp;refine aP (p6 _ _ c15 (fH M)) ?_;have L:ae (·=c1) h6 (h6.set c1 (.cell (some (.int p)))):=ae.set rfl;have K:(h6.set c1 (.cell (some (.int p)))) c1=some (.cell (some (.int p))):=Hp.set_same;generalize h6.set c1 (.cell (some (.int p)))=h7 at L K;have c27:=L _ _ (p6 _ _ c25 (fH bc2)) P.symm;have m:=L _ _ (p6 _ _ (P5.at X) Z) sc1;have bF:¬ka a r d b' b:=U.at.elim λl g=>H (E2.at g.1);have R6:=R5.qa p6 λx F e=>bF (e▸F);have R7:=R6.qa L λx F e=>H (e▸i1) F;have B7:=B6.keep L M;have P7:ae (·=b) h h7:=λx o F nb=>L _ _ (p6 _ _ (P5 _ _ F id) nb) λe=>by rw[e,f1] at F;exact aN F
 refine aT (cM (dO (sJ (bS (os:=[.g (.ref a)]) (os2:=[.g (.int p),.o (.list [.int s,.int w,.int mo]),.g (.int mo)]) rfl c27 R7.x (.own rfl rfl) rfl (jj (jj K m) rfl) (J3 (n:=n+1) R7 s1 s4 (a6 _) c j (aO j) (dc _) λf2 h8 e8 L8=>L8.elim λts t1 t2=>A6 t1 t2 ?_ λy3 h9 e9 y4 y5=>?_)))))
 ·refine rE t2.length (rE dz ?_);exact aV qe (cZ j (aV c (by decide)))
 have E9:=e8.trans e9;refine b7 (os:=[.g (.int p)]) rfl (E9.at K) (vY (n:=n+3) (E9.at m) s1 j c λg1 h10 v L10=>L10.elim λus u1 u2=>neT (v.at y5) (t2.keep λx a b J z=>v.at (e9.at z)) u1 u2 (λJ=>fg (aR ?_)) λz=>absurd rfl z);have T:=E9.trans v;refine g0 (iK (d5 (os:=[]) rfl tT (d5 (os:=[]) rfl tT (bI (b7 (os:=[]) rfl tT (gF (B7.keep T id) (by exact ah (db hk) (by decide)) (Int.succ_ofNat_pos t.length) (by exact OV c) λd2 W l11 A B11=>d5 (os:=[.g (.int p)]) rfl (A _ _ (T.at K) (fH M)) (d5 (os:=[.g (.int p)]) rfl (A _ _ (T.at K) (fH M)) (cu λl g=>aP (.list Hp.set_same) ?_))))))));have B:au W (W.set l (.list [V.int 0,V.int 1,V.int d2,V.int p,V.int (p+1)])):=ae.new g;have l12:(W.set l (.list [V.int 0,V.int 1,V.int d2,V.int p,V.int (p+1)])) l=some (.list [V.int 0,V.int 1,V.int d2,V.int p,V.int (p+1)]):=Hp.set_same;generalize W.set l (.list [V.int 0,V.int 1,V.int d2,V.int p,V.int (p+1)])=C at B l12;have S:ae (·=b) h7 C:=((T.mono λJ z=>z.elim).trans A).trans (B.mono λJ z=>z.elim);have D:=S _ _ K (fH M);have G:=S _ _ c27 (fH bc2);have hs':=S _ _ m Z;have R':=R7.qa S λx F e=>bF (e▸F);refine gC (zs:=[(0:Int),1,(d2:Int),(p:Int),(p:Int)+1]) V.int (sQ b t sh) (λzs x f=>f=C) (λz zs x f I R hR=>jj (congrFun I l) ?_) (λx f I=>jj (congrFun I l) ?_) (x:=(none,none)) rfl
 ·refine rE I ?_;exact aaN (n:=n+1) (x:=x) D G hs' R' j λx=>hR x C rfl
 ·refine rE I ?_;exact cC (sP (n:=n+4) rfl rfl (λe=>aaL (n:=n+1) (e.at D) (e.at G) (R'.keep e) (aO j)) (λe=>aaM (n:=n+1) (e.at D) (e.at G) (R'.keep e) (aO j)) λh13 e13=>q h13 ((P7.trans S).trans (e13.mono λJ z=>z.elim)) ((B11.keep B id).keep e13 id))
theorem aaP(M:ck h b k x3)(O:k<=800)(R:h sh=some (.list [.int s,.int w,.int mo]))(S:1<=s)(T:s<=4)(V:1<=w)(W:1<=t.length)(X:t.length<=100)(q:∀c,ae (·=b) h c->ck c b (k+2) x3->Q (.bool true) c):runs (n+6) .uj [.ref b,.bytes t,.ref sh] h Q E :=
 aY (λa1 K a2 F =>
  aaO ((ae.new K).trans (ae.new F)) ((Hp.cJ (fresh_ne Hp.set_same F)).trans Hp.set_same) Hp.set_same K (eh (ae.new K) F) (fresh_ne Hp.set_same F) M O R S T V W X q)
end
abbrev bo:=Int×Int
noncomputable def sz(x:bo):Nat:=if x.1=0 then 1 else x.1.toNat
noncomputable def fset{F:Type}(f:Nat->F)(a:Nat)(v:F)(j:Nat):F:=if j=a then v else f j
structure DS where
 C:Nat->Option Int
 S:Nat->Option bo
noncomputable def better(o:Option Int)(w:Int):Bool:=match o with |none=>true |some v=>decide (w<v)
section
variable(n:Nat)(pc:bo->Int)
noncomputable def DS.cq(a:Nat)(d:DS)(x:bo):DS :=
 if n<a+sz x then d else
  let w:=(d.C a).getD 0+pc x
  match better (d.C (a+sz x)) w with
  |true=>⟨fset d.C (a+sz x) (some w),fset d.S (a+sz x) (some x)⟩
  |false=>d
noncomputable def DS.init:DS:=⟨λj=>if j=0 then some 0 else none,λF=>none⟩
noncomputable def DS.all(F:Nat->List bo):Nat->DS
 | 0=>DS.init
 |a+1=>(F a).foldl (DS.cq n pc a) (DS.all F a)
noncomputable def DS.tell(d:DS):Nat->Nat->List bo
 | 0,_=>[]
 |f+1,j=>if j=0 then [] else DS.tell d f (j - sz ((d.S j).getD (0,0)))++[(d.S j).getD (0,0)]
end
def Seg(V:Nat->bo->Prop):Nat->List bo->Nat->Prop
 |p,[],q=>p=q
 |p,x::r,q=>V p x/\Seg V (p+sz x) r q
noncomputable def cost(F:bo->Int):List bo->Int
 |[]=>0
 |x::r=>F x+cost F r
section
variable{n:Nat}{pc:bo->Int}{V:Nat->bo->Prop}{d:DS}{a:Nat}{x:bo}
theorem Seg.snoc:∀ {l:List bo} {p q:Nat},Seg V p l q->V q x->Seg V p (l++[x]) (q+sz x)
 |[],p,q,e,v=>by cases (show p=q from e);exact⟨v,rfl⟩
 |y::l,p,q,s,v=>⟨s.1,Seg.snoc s.2 v⟩
theorem Seg.mono(k:∀p x,V p x->W p x):∀ {l:List bo} {p q:Nat},Seg V p l q->Seg W p l q
 |[],_,_,e=>e
 |_::_,_,_,s=>⟨k _ _ s.1,Seg.mono k s.2⟩
theorem J4:∀ {l:List bo},cost pc (l++[x])=cost pc l+pc x
 |[]=>by show pc x+0=0+pc x;exact wf (pc x) 0
 |y::l=>by show pc y+cost pc (l++[x])=pc y+cost pc l+pc x;refine rE J4 ?_;exact ir (s5 (pc y) (cost pc l) (pc x))
structure DI(n:Nat)(pc:bo->Int)(a:Nat)(D:Nat->bo->Prop)(d:DS):Prop where
 z:d.C 0=some 0
 le:∀i x,D i x->i<=a
 sup:∀j c,0<j->d.C j=some c->∃x i ci,d.S j=some x/\i+sz x=j/\D i x/\d.C i=some ci/\c=ci+pc x
 rel:∀i x,D i x->i+sz x<=n->∃ci c,d.C i=some ci/\d.C (i+sz x)=some c/\c<=ci+pc x
theorem ox(h:j≠a):fset f a v j=f j:=if_neg h
theorem qk:fset f a v a=v:=if_pos rfl
theorem DI.cq{M:Int}(I:DI n pc a D d)(X:d.C a=some M)(q:0<sz x):DI n pc a (λi y=>D i y\/(i=a/\y=x)) (d.cq n pc a x)/\(d.cq n pc a x).C a=some M:=by
 have k:∀i y,D i y\/(i=a/\y=x)->i<=a:=λi y h=>h.elim (I.le i y) λe=>d8 e.1;unfold DS.cq;by_cases m:n<a+sz x
 ·refine rE (if_pos m) ?_;refine⟨⟨I.z,k,λj c K F=>?_,λi y K F=>?_⟩,X⟩
  ·refine iw (I.sup j c K F) λy i O T R W g=>?_;exact(kx y i O T R (.inl W) g)
  ·rcases K with K |⟨rfl,rfl⟩
   ·exact I.rel i y K F
   ·exact absurd F (iW.mpr m)
 ·refine rE (if_neg m) (rE X ?_);show DI n pc a _ (match better (d.C (a+sz x)) (M+pc x) with |true=>⟨fset d.C (a+sz x) (some (M+pc x)),fset d.S (a+sz x) (some x)⟩ |false=>d)/\(match better (d.C (a+sz x)) (M+pc x) with |true=>(⟨fset d.C (a+sz x) (some (M+pc x)),fset d.S (a+sz x) (some x)⟩:DS) |false=>d).C a=some M;have S:∀i,i<=a->fset d.C (a+sz x) (some (M+pc x)) i=d.C i:=λi o=>ox (cK (aV o (sW q)));rcases b:better (d.C (a+sz x)) (M+pc x) with _ |_
  ·obtain⟨c,l,p⟩:∃c,d.C (a+sz x)=some c/\c<=M+pc x:=by
    induction l:d.C (a+sz x) with
    |none=>rw[l] at b;exact df (show true=false from b)
    |some c=>rw[l] at b;exact(aq c rfl (cz.mp (of_decide_eq_false b)))
   refine⟨⟨I.z,k,λj c K F=>?_,λi y K F=>?_⟩,X⟩
   ·refine iw (I.sup j c K F) λy i O T R W g=>?_;exact(kx y i O T R (.inl W) g)
   ·rcases K with K |⟨rfl,rfl⟩
    ·exact I.rel i y K F
    ·exact(cb M c X l p)
  ·refine⟨⟨(S 0 (ca _)).trans I.z,k,λj c K F=>?_,λi y K F=>?_⟩,(S a (a6 _)).trans X⟩
   ·by_cases f:j=a+sz x
    ·subst f;have F:fset d.C (a+sz x) (some (M+pc x)) (a+sz x)=some c:=F;rw[qk] at F;exact(nz x a M qk rfl (.inr ⟨rfl,rfl⟩) ((S a (a6 _)).trans X) ((bq F).symm))
    ·have F:fset d.C (a+sz x) (some (M+pc x)) j=some c:=F;rw[ox f] at F;refine iw (I.sup j c K F) λy i O T R W g=>?_;exact(nz y i O ((ox f).trans T) R (.inl W) ((S i (I.le i y W)).trans g.1) g.2)
   ·have o:=k i y K;have key:∃O c,d.C i=some O/\fset d.C (a+sz x) (some (M+pc x)) (i+sz y)=some c/\c<=O+pc y:=by
     rcases K with K |⟨rfl,rfl⟩
     ·refine bL (I.rel i y K F) λO c T R W=>?_;by_cases f:i+sz y=a+sz x
      ·refine rE f (rE qk ?_);rw[f] at R;rw[R] at b;have b:M+pc x<c:=of_decide_eq_true b;exact(cb O _ T rfl (by lia))
      ·exact(cb O c T ((ox f).trans R) W)
     ·exact(cb M _ X qk (hM _))
    refine bL key λO c T R W=>?_;exact(cb O c ((S i o).trans T) R W)
theorem DI.congr(I:DI n pc a D d)(k:∀i x,D i x<->D' i x)(F:a<=b):DI n pc b D' d :=
 ⟨I.z,λi x h=>ah (I.le i x ((k i x).mpr h)) F,λj c K M=>iw (I.sup j c K M) λx i O R S T W=>(kx x i O R S ((k i x).mp T) W),λi x h=>I.rel i x ((k i x).mpr h)⟩
theorem DI.fold{F:Int}:∀ {l:List bo} {D:Nat->bo->Prop} {d:DS},DI n pc a D d->d.C a=some F->(∀x∈l,0<sz x)->DI n pc a (λi y=>D i y\/(i=a/\y∈l)) (l.foldl (DS.cq n pc a) d)/\(l.foldl (DS.cq n pc a) d).C a=some F
 |[],D,d,I,b,_=>⟨I.congr (λi x=>⟨.inl,λh=>h.resolve_right λz=>dx z.2⟩) (a6 _),b⟩
 |x::l,D,d,I,b,k=>by
  have o:=I.cq b (k x (.head _));have f:=DI.fold (l:=l) o.1 o.2 λy K=>k y (.tail _ K);refine⟨f.1.congr (λi y=>?_) (a6 _),f.2⟩;rw[cW];constructor
  ·rintro((h |h) |h)
   ·exact .inl h
   ·exact .inr ⟨h.1,.inl h.2⟩
   ·exact .inr ⟨h.1,.inr h.2⟩
  ·rintro(h |⟨h,h2 |h2⟩)
   ·exact .inl (.inl h)
   ·exact .inl (.inr ⟨h,h2⟩)
   ·exact .inr ⟨h,h2⟩
variable{offs:Nat->List bo}
theorem v7(K:∀a,a<n->∀x∈offs a,0<sz x)(M:∀a,a<n->∃x∈offs a,sz x=1):∀ {a:Nat},a<=n->DI n pc a (λi x=>i<a/\x∈offs i) (DS.all n pc offs a)/\∃g,(DS.all n pc offs a).C a=some g
 | 0,_=>(o6 ⟨rfl,λF F h=>absurd h.1 (oY _),λj c R S=>absurd ((if_neg (gp R)).symm.trans (show(if j=0 then some (0:Int) else none)=some c from S)) aN,λF F h=>absurd h.1 (oY _)⟩ 0 rfl)
 |a+1,h=>by
  refine tV (v7 K M (d9 h)) λI g T=>?_;have f:=DI.fold (l:=offs a) I T (K a h);have D:=f.1.congr (D':=λi x=>i<a+1/\x∈offs i) (b:=a+1) (λi x=>⟨λz=>z.elim (λz=>⟨f6 z.1,z.2⟩) λz=>⟨by exact z.1▸c7 _,z.1▸z.2⟩,λz=>(fX (dA z.1)).elim (λy=>.inl ⟨y,z.2⟩) λy=>.inr ⟨y,y▸z.2⟩⟩) (dc a);refine ak (M a h) λx W e=>?_;refine bL (D.rel a x ⟨c7 a,W⟩ (by refine rE e ?_;exact h)) λF c F O F=>?_;rw[e] at O;exact(o6 D c O)
def Off(n:Nat)(offs:Nat->List bo)(i:Nat)(x:bo):Prop:=i<n/\x∈offs i
theorem J5(I:DI n pc n (Off n offs) D)(K:∀a,a<n->∀x∈offs a,0<sz x):∀ {f j:Nat} {c:Int},j<=f->D.C j=some c->Seg (Off n offs) 0 (D.tell f j) j/\c=cost pc (D.tell f j)
 | 0,j,c,h,b=>by
  have F:j=0:=DM.mp h;rw[F,I.z] at b;exact⟨F.symm,(bq b).symm⟩
 |f+1,j,c,h,b=>by
  unfold DS.tell;by_cases F:j=0
  ·refine rE (if_pos F) ?_;rw[F,I.z] at b;exact⟨F.symm,(bq b).symm⟩
  ·refine rE (if_neg F) ?_;refine tZ (I.sup j c (KT F) b) λx i W R O M S T=>?_;have X:=K i M.1 x M.2;have r:=J5 I K (f:=f) (show i<=f by lia) S;refine rE R ?_;show Seg _ 0 (D.tell f (j - sz x)++[x]) j/\c=cost pc (D.tell f (j - sz x)++[x]);rw[show j - sz x=i by exact ir (Nat.eq_sub_of_add_eq O),J4,←r.2];refine⟨?_,T⟩;refine rF O ?_;exact r.1.snoc M
theorem J6(I:DI n pc n (Off n offs) D):∀ {l:List bo} {p:Nat} {F:Int},Seg (Off n offs) p l n->D.C p=some F->∃c,D.C n=some c/\c<=F+cost pc l
 |[],p,F,s,b=>(aq F ((show p=n from s)▸b) (DU (xb F).symm))
 |x::l,p,F,s,b=>by
  have M:∀ {l:List bo} {p:Nat},Seg (Off n offs) p l n->p<=n:=λ{l p} s=>by
   induction l with
   |nil=>exact d8 s
   |cons y l=>exact aO s.1.1
  refine bL (I.rel p x s.1 (M s.2)) λX c K O R=>?_;rw[b] at K;obtain rfl:=bq K;refine ak (J6 I s.2 O) λS T W=>?_;exact(aq S T (abZ R W))
noncomputable def Bs(n:Nat)(pc:bo->Int)(offs:Nat->List bo):List bo:=(DS.all n pc offs n).tell n n
theorem aaQ(F:∀a,a<n->∀x∈offs a,0<sz x)(K:∀a,a<n->∃x∈offs a,sz x=1):Seg (Off n offs) 0 (Bs n pc offs) n/\∀l,Seg (Off n offs) 0 l n->cost pc (Bs n pc offs)<=cost pc l:=by
 refine tV (v7 (pc:=pc) F K (a6 n)) λI c M=>?_;have t:=J5 I F (a6 n) M;refine⟨t.1,λl s=>?_⟩;refine ak (J6 I s I.z) λR O S=>?_;rw[M] at O;obtain rfl:=bq O;show cost pc ((DS.all n pc offs n).tell n n)<=_;refine rF t.2 ?_;lia
end
noncomputable def jv(s:Nat)(m:bo):List bo:=(eH (m.1.toNat+1 - s)).map λi=>(((s+i:Nat):Int),m.2)
noncomputable def gi(t:List UInt8)(p:Nat):bo:=(0,(cc t p:Int) - 1)
noncomputable def fA(t:List UInt8)(st s w F a:Nat):List bo:=gi t (st+a)::(bQ t s w F (st+a)).flatMap (jv s)
def hj(t:List UInt8)(w p:Nat)(x:bo):Prop:=p<t.length/\(x=gi t p\/∃k d:Nat,x=((k:Int),(d:Int))/\2<=k/\1<=d/\d<=p/\d<=w/\p+k<=t.length/\Ag (cc t) p (p - d) k)
section
variable{t:List UInt8}{st s w mo a p z k d:Nat}{x:bo}
theorem Bt{f:Nat->Nat}{lo:Nat}{y:bo}:∀ {u m:Nat},y∈R f p lo u m->∃z,lo<=z/\z<u/\m<f z/\y=((f z:Int),(p:Int) - z)
 | 0,_,h=>dx h
 |u+1,m,h=>by
  rw[j2] at h;by_cases c:lo<=u
  ·rw[if_pos c] at h;by_cases b:m<f u
   ·rw[if_pos b] at h;rcases cW.mp h with h |h
    ·exact(eM u c (c7 u) b h)
    ·refine fm (Bt h) λz a1 a2 F K=>?_;exact(eM z a1 (f6 a2) (cZ b F) K)
   ·rw[if_neg b] at h;refine fm (Bt h) λz a1 a2 F K=>?_;exact(eM z a1 (f6 a2) F K)
  ·rw[if_neg c] at h;exact dx h
theorem Bu(h:x∈bQ t s w mo p)(M:1<=s):∃z,p - w<=z/\z<p/\s<=bD t mo p z/\x=((bD t mo p z:Int),((p - z:Nat):Int)):=by
 refine fm (Bt h) λz a1 a2 F K=>?_;exact(eM z a1 a2 (by exact NB F) (by exact rE K (rE (jy (aO a2)) rfl)))
theorem J7{m:bo}:x∈jv s m<->∃i,i<m.1.toNat+1 - s/\(((s+i:Nat):Int),m.2)=x:=by
 unfold jv;rw[eo];exact⟨λF=>ak F λi a b=>⟨i,lE.mp a,b⟩,λ⟨i,a,b⟩=>⟨i,lE.mpr a,b⟩⟩
theorem mF(M:2<=s)(O:st+a<t.length)(h:x∈fA t st s w mo a):hj t w (st+a) x:=by
 rcases cW.mp h with h |h
 ·exact⟨O,.inl h⟩
 ·refine ak (DK.mp h) λm R S=>?_;refine fm (Bu R (d9 M)) λz a1 a2 T K=>?_;subst K;refine ak (J7.mp S) λi F V=>?_;have F:i<bD t mo (st+a) z+1 - s:=F;have W:bD t mo (st+a) z<=t.length - (st+a):=ah eC (gI _ _);refine⟨O,.inr ⟨s+i,st+a - z,V.symm,by exact NN M,by exact D6 a2,by exact fh (st+a) z,Oc (by assumption),Od (by assumption) (by assumption) F W,?_⟩⟩;rw[show st+a - (st+a - z)=z from Oe (by assumption)];exact ic.le (show s+i<=ext (cc t) (st+a) z _ from by show _<=bD t mo (st+a) z;exact El T F)
theorem kc:sz (gi t p)=1:=if_pos rfl
theorem sR{k:Nat}{d:Int}(h:2<=k):sz ((k:Int),d)=k:=by
 unfold sz;refine rE (if_neg (show(k:Int)≠0 by lia)) ?_;rfl
theorem hj.sz(h:hj t w p x):0<sz x/\p+Internal.sz x<=t.length:=by
 obtain⟨K,rfl |⟨k,d,rfl,F,O,R,S,M,T⟩⟩:=h
 ·refine rE kc ?_;exact⟨mO,K⟩
 ·refine rE (sR F) ?_;exact⟨by exact xA F,M⟩
noncomputable def oy(t:List UInt8)(st s w mo:Nat)(F:bo->Int):List bo:=Bs (t.length - st) F (fA t st s w mo)
theorem J8{pc:bo->Int}(K:2<=s):Seg (Off (t.length - st) (fA t st s w mo)) 0 (oy t st s w mo pc) (t.length - st)/\∀l,Seg (Off (t.length - st) (fA t st s w mo)) 0 l (t.length - st)->cost pc (oy t st s w mo pc)<=cost pc l :=
 aaQ (λa F x M=>(mF K (mK F) M).sz.1) λa F=>(aq _ (.head _) kc)
theorem Seg.shift{V W:Nat->bo->Prop}(k:∀p x,V p x->W (st+p) x):∀ {l:List bo} {p q:Nat},Seg V p l q->Seg W (st+p) l (st+q)
 |[],_,_,e=>congrArg (st+·) (show _=_ from e)
 |x::l,p,q,h=>⟨k _ _ h.1,by rw[hB];exact Seg.shift k h.2⟩
theorem aaR{pc:bo->Int}(K:2<=s)(F:st<=t.length):Seg (hj t w) st (oy t st s w mo pc) t.length:=by
 have h:=(J8 (pc:=pc) (t:=t) (st:=st) (w:=w) (mo:=mo) K).1.shift (st:=st) (W:=hj t w) λp x h=>mF K (by have:=h.1;exact mK this) h.2;rwa [tU,BI F] at h
theorem J9:∀ {j p:Nat},p+j=t.length - st->Seg (Off (t.length - st) (fA t st s w mo)) p ((NO p j).map λi=>gi t (st+i)) (t.length - st)
 | 0,p,h=>h
 |j+1,p,h=>⟨⟨by exact h▸sW (hK j),.head _⟩,by refine rE kc ?_;exact J9 (by rw[←h,hB,gJ 1])⟩
noncomputable def eW(t:List UInt8)(s w mo p:Nat):bo:=((bQ t s w mo p).getLast?).getD (gi t p)
theorem J'(M:1<=s):eW t s w mo (st+a)∈fA t st s w mo a:=by
 unfold eW;induction h:(bQ t s w mo (st+a)).getLast? with
 |none=>exact .head _
 |some m =>
  have F:m∈bQ t s w mo (st+a):=List.mem_of_getLast? h;refine .tail _ (DK.mpr (aq m F (J7.mpr ?_)));refine fm (Bu F M) λz a1 a2 K e=>?_;refine rE e ?_;refine(aq (bD t mo (st+a) z - s) (by show _<bD t mo (st+a) z+1 - s;exact Os K) ?_);show(((s+(bD t mo (st+a) z - s):Nat):Int),_)=_;rw[show s+(bD t mo (st+a) z - s)=bD t mo (st+a) z by exact NP K];rfl
theorem Ka{i j:Nat}(F:i<t.length)(K:j<t.length)(e:cc t i=cc t j):t[i]?=t[j]?:=by
 rw[nY (f7 F),nY (f7 K)] at e;refine rE (f7 F) (rE (f7 K) ?_);exact congrArg some (UInt8.toNat_inj.mp (qQ e))
theorem aaS{l:List UInt8}(K:1<=d)(F:d<=w)(M:d<=l.length):(bP w l)[(bP w l).length - d]?=l[l.length - d]?:=by
 refine rE Bb ?_;unfold bP;refine rE (xt) ?_;refine congrArg (l[·]?) ((xu w l.length).elim (λh=>?_) λh=>?_)
 ·refine rE (jC h) ?_;exact Nat.sub_add_sub_cancel h F
 ·rw[Ny h,tR h,o0]
theorem ql{i:Nat}{b:UInt8}(h:t[i]?=some b):t.take i++[b]=t.take (i+1):=by refine rE NI (rE h ?_);rfl
theorem Kb(O:1<=w)(K:1<=d)(R:d<=w)(M:d<=p)(F:p+k<=t.length)(S:Ag (cc t) p (p - d) k):∀ {j:Nat},j<=k->cT w d j (bP w (t.take p))=(bP w (t.take (p+j)),cut t p (p+j))
 | 0,_=>by
  refine(?_:(_,_)=_);rw[tU,show cut t p p=[] from xB (by rw[fj];exact eG p t.length)]
 |j+1,h=>by
  have r:=Kb O K R M F S (d9 h);have len:(t.take (p+j)).length=p+j:=oZ (by exact aO (xT F h));have e:t[p+j - d]?=t[p+j]?:=Ka (Ee (by assumption) (by assumption) (by assumption) h) (by exact xT F h) (by refine rE (S j h) ?_;congr 1;exact xy M);obtain⟨b,c⟩:∃b,t[p+j]?=some b:=⟨_,f7 (by exact xT F h)⟩
  have g:((bP w (t.take (p+j)))[(bP w (t.take (p+j))).length - d]?).getD default=b:=by
   rw[aaS K R (by lia),len,NQ (Ej K M),e,c];rfl
  refine(?_:(bP w ((cT w d j (bP w (t.take p))).1++[_]),(cT w d j (bP w (t.take p))).2++[_])=_);rw[r,g,Bc O,ql c,←hB];refine congrArg (Nu _) ?_;unfold cut;exact rF (ql c) (rE (xz (Nat.le.intro (id (ir len)))) rfl)
noncomputable def mG(t:List UInt8)(s w mo:Nat):Nat->Nat->List bo
 | 0,_=>[]
 |f+1,p=>if p<t.length then eW t s w mo p::mG t s w mo f (p+sz (eW t s w mo p)) else []
theorem Kc(F:2<=s):∀ {f a:Nat},st+a<=t.length->t.length - st<=a+f->Seg (Off (t.length - st) (fA t st s w mo)) a (mG t s w mo f (st+a)) (t.length - st)
 | 0,a,h,c=>show a=_ by exact fi (D6 h) c
 |f+1,a,h,c=>by
  unfold mG;by_cases b:st+a<t.length
  ·refine rE (if_pos b) ?_;have m:=J' (t:=t) (st:=st) (a:=a) (w:=w) (mo:=mo) (d9 F);have z:=(mF F b m).sz;refine⟨⟨by exact Nat.lt_sub_iff_add_lt'.mpr b,m⟩,?_⟩;rw[hB];exact Kc F (by exact hB ..▸z.2) (by exact En c rfl z.1)
  ·refine rE (if_neg b) ?_;show a=_;exact OQ h b
end
noncomputable def lr(v:Nat):Nat:=if v<4 then 0 else iT v - 1
noncomputable def sS(m b k d:Nat):Int:=if b=0 then m else m+b*((lr (k - 2):Int)+lr (d - 1))
noncomputable def bW(l m b:Nat)(x:bo):Int:=if x.1=0 then l else sS m b x.1.toNat x.2.toNat
theorem Ke(h:4<=v)(F:v<2048):2<=iT v/\iT v<=10 :=
 ⟨(Nat.le_log2 (D7 h)).mpr h,dA ((LR (D7 h)).mpr F)⟩
theorem Kf(F:v<2048):lr v<=10:=by
 unfold lr;by_cases h:v<4
 ·refine rE (if_pos h) ?_;exact ca 10
 ·refine rE (if_neg h) ?_;have:=Ke (c6 h) F;exact ah (fh _ _) this.2
noncomputable def gf(l m b:Nat):O:=.inst .i3 [(.uf,some (.int l)),(.rr,some (.int m)),(.rx,some (.int b))]
section
variable{n:Nat}{h:Hp}{Q:V->Hp->Prop}{E:Ex->Hp->Prop}{a l m b v k d:Nat}
theorem aaT(h:4<=v):rN (v:Int).natAbs=iT v+1:=by
 unfold rN;rw[Int.natAbs_natCast,if_neg (D7 h)]
theorem Kg(K:v<2048)(q:∀y c i,au h c->c y=some (.tup [.int i,.int (lr v)])->Q (.ref y) c):runs (n+1) .slot_of [.int v] h Q E:=by
 refine aY (aT (aZ (os:=[]) rfl tT (λz=>aU (cC (lf (os:=[]) rfl tT λy c e M F=>q y c v e ?_))) λz=>aM (aR ?_)))
 ·unfold lr;refine rE (if_pos (aS.mp z)) ?_;exact F
 ·have z:4<=v:=c6 λy=>z (aS.mpr y);have g:=Ke z K;refine ms (os:=[]) (j:=(iT v:Int)) rfl tT (by refine rE (aaT z) ?_;exact xr.mpr rfl) ?_;refine cC (lf (os:=[]) rfl (jj (jj ⟨lh (by decide),kb (b9 v.log2) (by exact jw (jK g.2) (by decide))⟩ (show 0<=((iT v:Int) - 1)/\((iT v:Int) - 1)<=1000 from abV g)) (show 0<=(v:Int) / 2^_/\(1:Int)=1 from ⟨Int.ediv_nonneg (b9 _) (gM (Dg (by decide))),rfl⟩)) λy c e M F=>q y c (2*(iT v:Int)+(v:Int) / 2^((iT v:Int) - 1).toNat%2) e ?_);unfold lr;rw[if_neg (c8.mpr z),show((iT v - 1:Nat):Int)=(iT v:Int) - 1 by exact jy (d9 g.1)];exact F
theorem Kh(F:h a=some (gf l m b)){o:Int}(q:Q (.int l) h):runs (n+1) .Fa [.ref a,.int o] h Q E :=
 aY (cH (os:=[.o (gf l m b)]) rfl F q)
theorem Ki(M:h a=some (gf l m b))(R:b<100)(S:2<=k)(F:k<1000)(T:1<=d)(K:d<1000)(q:∀c,au h c->Q (.int (sS m b k d)) c):runs (n+2) .Fb [.ref a,.int k,.int d] h Q E:=by
 refine aY (aT (aZ (os:=[.o (gf l m b)]) rfl M (λz=>aU (cH (os:=[.o (gf l m b)]) rfl M ?_)) λz=>aM (aR ?_)))
 ·have z:(b:Int)=0:=z;have:=q h ae.refl;unfold sS at this;rw[if_pos (by lia)] at this;exact this
 ·have z:¬(b:Int)=0:=z;refine cC (dk (aG (os:=[.o (gf l m b)]) rfl M (dk (aG (os:=[.o (gf l m b)]) rfl M (dk (iL (qj (ws:=[.int ((k - 2:Nat):Int)]) (os:=[]) rfl tT (by rw[show((k - 2:Nat):Int)=(k:Int) - 2 by exact jy S]) (Kg (by exact aV (fh _ _) (cZ F (by decide))) λy j i V W=>aG (os:=[]) rfl tT (aP W (aP rfl (iL (qj (ws:=[.int ((d - 1:Nat):Int)]) (os:=[]) rfl tT (by rw[show((d - 1:Nat):Int)=(d:Int) - 1 by exact ir (AI T)]) (Kg (by exact aV (fh _ _) (cZ K (by decide))) λo X p e O=>aG (os:=[]) rfl tT (aP O (aP rfl (sL ?_))))))))))))))));have f:=Kf (show k - 2<2048 by exact aV (fh _ _) (cZ F (by decide)));have g:=Kf (show d - 1<2048 by exact aV (fh _ _) (cZ K (by decide)));refine jj ⟨kb (b9 b) (by exact kf (jL R) (by decide)),kb (Int.zero_le_ofNat (lr (k - 2)+lr (d - 1))) (by exact OT f g)⟩ (sL ?_);have:=q X (V.trans e);unfold sS at this;rw[if_neg (by lia)] at this;exact this
theorem aaU(K:h a=some (.inst .i3 m0))(q:∀c,ae (·=a) h c->c a=some (gf l m b)->Q .none c):runs (n+1) .E8 [.ref a,.int l,.int m,.int b] h Q E:=by
 refine aY (aT (ie (aZ (os:=[]) rfl tT (λz=>absurd z (cz.mpr (b9 _))) λF=>aM (ie (aZ (os:=[]) rfl tT (λz=>absurd z (cz.mpr (b9 _))) λF=>aM (aZ (os:=[]) rfl tT (λz=>absurd z (cz.mpr (b9 _))) λF=>aM (aR ?_)))))));exact eU (os:=[]) (os2:=[]) rfl tT rfl tT K rfl (show 0<100 by decide) λT p1 a1=>eU (os:=[]) (os2:=[]) rfl tT rfl tT a1 rfl (show 1<100 by decide) λV M a2=>eU (os:=[]) (os2:=[]) rfl tT rfl tT a2 rfl (show 2<100 by decide) λO R S=>q O ((p1.trans M).trans R) S
end
noncomputable def gG(x:bo):O:=.tup [.int x.1,.int x.2]
noncomputable def oV(c:Option Int):V:=match c with |some i=>.int i |none=>.none
noncomputable def ij(n F K:Nat):O:=.inst .kz [(.size,some (.int n)),(.lS,some (.ref F)),(.steps,some (.ref K))]
def ke(F K:Nat)(y:Nat):Prop:=y=F\/y=K
structure Wy(h0 h:Hp)(a rc rs n:Nat)(d:DS):Prop where
 x:h a=some (ij n rc rs)
 c:∃L,h rc=some (.list L)/\L.length=n+1/\∀j,j<=n->L[j]?=some (oV (d.C j))
 s:∃L,h rs=some (.list L)/\L.length=n+1/\∀j x,d.S j=some x->j<=n->∃y,L[j]?=some (.ref y)/\h0 y=none/\h y=some (gG x)
 ne:rc≠rs
section
variable{n:Nat}{h h0:Hp}{Q:V->Hp->Prop}{E:Ex->Hp->Prop}{a rc rs N i y:Nat}{d:DS}{x:bo}
theorem Wy.keep(W:Wy h0 h a rc rs N d){F:Nat->Prop}{K:Hp}(p:ae F h K)(k:∀z,F z->(∀x,h z=some (gG x)->h0 z≠none)/\z≠a/\¬ke rc rs z):Wy h0 K a rc rs N d :=
 cr W.c λL S T V=>cr W.s λM X b c=>⟨p _ _ W.x λz=>(k _ z).2.1 rfl,(bG L (p _ _ S λz=>(k _ z).2.2 (.inl rfl)) T V),(bG M (p _ _ X λz=>(k _ z).2.2 (.inr rfl)) b (λj x e f=>cr (c j x e f) λy g O R=>(bG y g O (p _ _ R λz=>(k _ z).1 _ R O)))),W.ne⟩
theorem Kj(F:h y=some (gG x))(h0:0<=x.1)(q:Q (.int (sz x)) h):runs (n+1) .step_size [.ref y] h Q E:=by
 unfold sz at q;refine aY (cC (oa (aZ (os:=[.o (gG x),.g (.int x.1)]) rfl (jj F rfl) (λz=>aU (aG (os:=[]) rfl tT ?_)) λz=>aM (aG (os:=[.o (gG x),.g (.int x.1)]) rfl (jj F rfl) ?_))))
 ·rw[if_pos z] at q;exact q
 ·rw[if_neg z,lw h0] at q;exact q
noncomputable def mOf(a i y:Nat)(c:Int)(w:Option V)(v:Option V):M:=[(.self,some (.ref a)),(.«at»,some (.int i)),(.step,some (.ref y)),(.cost,some (.int c)),(.there,w),(.whole,v)]
theorem aaV{F:Int}(W:Wy h0 h a rc rs N d)(v:h y=some (gG x))(H:h0 y=none)(I:0<=x.1)(J:i<=N)(K:d.C i=some F)(hN:N<=100)
  (q:∀l,ae (ke rc rs) h l->Wy h0 l a rc rs N (d.cq N c i x)->Q .none l):runs (n+2) .x9 [.ref a,.int i,.ref y,.int (c x)] h Q E:=by
 refine aY (bR (dk (aG (os:=[]) rfl tT (b7 (os:=[]) rfl tT (Kj v I (sO (k:=((i+sz x:Nat):Int)) rfl (cG ?_)))))));refine aT (aZ (os:=[.o (ij N rc rs)]) rfl W.x (λz=>aU (cH (os:=[]) rfl tT (q h ae.refl ?_))) λz=>aM (aR ?_))
 ·unfold DS.cq;rw[if_pos (aS.mp z)];exact W
 ·have z:¬N<i+sz x:=λy=>z (aS.mpr y);have m:i+sz x<=N:=c6 z;refine cr W.c λL O P T=>?_;refine cr W.s λM o p U=>?_;have Y:dr L (i:Int)=some (.int F):=oj (by rw[T i J,K];rfl);have V:dr L ((i+sz x:Nat):Int)=some (oV (d.C (i+sz x))):=oj (T _ m);have X:better (d.C (i+sz x)) (F+c x)=true->aE look ac (runs (n+1)) [] [.fv (.aA (.aa .self) .lS) (.aa .there) (.aa .whole),.fv (.aA (.aa .self) .steps) (.aa .there) (.aa .step)] h (mOf a i y (c x) (some (.int ((i+sz x:Nat):Int))) (some (.int (F+c x)))) (sq (runs (n+1)) [] [] (fQ Q) (fE E)) λx h A=>E x h:=λr=>by
   have e:d.cq N c i x=⟨fset d.C (i+sz x) (some (F+c x)),fset d.S (i+sz x) (some x)⟩:=by
    unfold DS.cq;rw[if_neg z,K];show(match better (d.C (i+sz x)) (F+c x) with |true=>(⟨fset d.C (i+sz x) (some (F+c x)),fset d.S (i+sz x) (some x)⟩:DS) |false=>d)=_;rw[r]
   have s:a≠rc:=gz W.x O nofun;have t:a≠rs:=gz W.x o nofun;refine j4 (os:=[]) (o1:=[.o (ij N rc rs)]) (o2:=[]) rfl tT rfl W.x rfl tT (oi O (b9 _) (aS.mpr (NR (T (i+sz x) m))) ?_);have B:(h.set rc (.list (L.set (((i+sz x:Nat):Int).toNat) (.int (F+c x))))) a=some (ij N rc rs):=(Hp.cJ s).trans W.x;have Z:(h.set rc (.list (L.set (((i+sz x:Nat):Int).toNat) (.int (F+c x))))) rs=some (.list M):=(Hp.cJ W.ne.symm).trans o;refine j4 (os:=[]) (o1:=[.o (ij N rc rs)]) (o2:=[]) rfl tT rfl B rfl tT (oi Z (b9 _) (aS.mpr (by rw[p];exact wj (c8.mp z))) (aR ?_));have C:ae (ke rc rs) h ((h.set rc (.list (L.set (((i+sz x:Nat):Int).toNat) (.int (F+c x))))).set rs (.list (M.set (((i+sz x:Nat):Int).toNat) (.ref y)))):=(ae.set (.inl rfl)).trans (ae.set (.inr rfl));have D:∀ {u:Nat} {w:bo},h u=some (gG w)->((h.set rc (.list (L.set (((i+sz x:Nat):Int).toNat) (.int (F+c x))))).set rs (.list (M.set (((i+sz x:Nat):Int).toNat) (.ref y)))) u=some (gG w):=λf=>C _ _ f λz=>z.elim (λz=>by rw[z,O] at f;exact nomatch f) λz=>by rw[z,o] at f;exact nomatch f
   refine q _ C ⟨(Hp.cJ t).trans B,(bG _ ((Hp.cJ W.ne).trans Hp.set_same) (by rw[oP];exact P) (λj R=>?_)),(bG _ Hp.set_same (by rw[oP];exact p) (λj w S R=>?_)),W.ne⟩
   ·rw[e,NS,NT];show _=some (oV (fset d.C (i+sz x) (some (F+c x)) j));by_cases k:i+sz x=j
    ·rw[if_pos k,if_pos (NR (T (i+sz x) m)),←k,qk];rfl
    ·rw[if_neg k,ox (fH k)];exact T j R
   ·rw[e] at S;have S:fset d.S (i+sz x) (some x) j=some w:=S;rw[NS,NT];by_cases k:i+sz x=j
    ·rw[←k,qk] at S;refine sF S ?_;exact(bG y (by rw[if_pos k,if_pos (by rw[p];exact wj (c8.mp z))]) H (D v))
    ·rw[ox (fH k)] at S;refine cr (U j w S R) λu u1 u2 u3=>?_;exact(bG u (by rw[if_neg k];exact u1) u2 (D u3))
  have skip:better (d.C (i+sz x)) (F+c x)=false->Q .none h:=λr=>q h ae.refl (by
   unfold DS.cq;rw[if_neg z,K];show Wy h0 h a rc rs N (match better (d.C (i+sz x)) (F+c x) with |true=>(⟨fset d.C (i+sz x) (some (F+c x)),fset d.S (i+sz x) (some x)⟩:DS) |false=>d);rw[r];exact W)
  refine dI (os:=[.o (ij N rc rs),.o (.list L),.g (.int F)]) rfl (jj (jj W.x O) Y) ?_;induction g:d.C (i+sz x) with
  |none =>
   rw[g] at V;exact aT (ie (g6 (b:=true) (os:=[.o (ij N rc rs),.o (.list L),.g .none]) rfl (jj (jj W.x O) V) (λA=>aU (aU (X (by rw[g];rfl)))) λz=>df z))
  |some G =>
   rw[g] at V;refine aT (ie (g6 (b:=false) (os:=[.o (ij N rc rs),.o (.list L),.g (.int G)]) rfl (jj (jj W.x O) V) (λz=>a9 z) λA=>aM ?_));refine aZ (os:=[.o (ij N rc rs),.o (.list L),.g (.int G)]) rfl (jj (jj W.x O) V) (λz=>aU (X (by rw[g];exact decide_eq_true z))) λz=>aM (aR (skip (by rw[g];exact decide_eq_false z)))
end
theorem aaW{i j k:Int}(e:i - j=k)(q:P (.int k) h):(iS .sub (.int i) (.int j)).run h P:=by rw[←e] at q;exact q
theorem DS.aaX{d:DS}:∀ {f:Nat},d.tell f 0=[]
 | 0=>rfl
 |f+1=>if_pos rfl
theorem DS.aaY{d:DS}{f j:Nat}{x:bo}(h:0<j)(e:d.S j=some x):d.tell (f+1) j=d.tell f (j - sz x)++[x]:=by
 show(if j=0 then [] else d.tell f (j - sz ((d.S j).getD (0,0)))++[(d.S j).getD (0,0)])=_;refine rE (if_neg (gp h)) (rE e ?_);rfl
section
variable{n:Nat}{h h0:Hp}{Q:V->Hp->Prop}{E:Ex->Hp->Prop}{a rc rs N i y:Nat}{d:DS}{x:bo}
theorem aaZ(S:N<=100)(s:h a=some (.inst .kz m0))(q:∀b rc rs,ae (·=a) h b->h rc=none->h rs=none->Wy h0 b a rc rs N DS.init->Q .none b):runs (n+1) .E6 [.ref a,.int N] h Q E:=by
 refine aY (eU (os:=[]) (os2:=[]) rfl tT rfl tT s rfl (show 0<100 by decide) λL p1 a1=>?_);refine iH (dk (dm (os:=[]) rfl tT λP U t Y u=>dk (dm (os:=[]) rfl tT λZ h3 g n3 v=>aG (os:=[]) rfl tT (su v (by exact ah S (by decide)) λl3 T k n4 w=>aP (k.at (g.at u)) (aP w (jj (show 1+(gm N V.none).length<=bB by refine rE qM (rE dz ?_);exact ah (dy S 1) (by decide)) λrc K=>?_))))));have W:au T (T.set rc (.list ([V.int 0]++gm N V.none))):=ae.new K;have l:(T.set rc (.list ([V.int 0]++gm N V.none))) rc=some (.list ([V.int 0]++gm N V.none)):=Hp.set_same;have M:=(t.trans g).trans k;refine iM (os:=[]) rfl tT (W.at (M.at a1)) rfl (show 1<100 by decide) λA m O=>?_;have X:=m _ _ l (gz (W.at (M.at a1)) l nofun).symm;refine iH (dk (dm (os:=[]) rfl tT λl6 h7 R n7 B=>aG (os:=[]) rfl tT (su (n:=N+1) B (by exact ah (db S) (by decide)) λrs h8 C c o=>?_)));have F:=R.trans C;refine iM (os:=[]) rfl tT (F.at O) rfl (show 2<100 by decide) λD f G=>?_;have H:=f _ _ (F.at X) (gz (F.at O) (F.at X) nofun).symm;have I:=f _ _ o (gz (F.at O) o nofun).symm;have p:ae (·=a) h A:=(p1.trans ((M.trans W).mono λr z=>z.elim)).trans m;refine q D rc rs ((p.trans (F.mono λr z=>z.elim)).trans f) (j6 p1 a1 (eh M K)) (back (p.trans (R.mono λr z=>z.elim)) (λz=>by refine rE z (rE (R.at O) ?_);nofun) c) ⟨G,(bG _ H (by refine rE cA (rE qM ?_);exact gJ 1 N) (λj J=>?_)),(bG _ I qM (λj x e=>aN e)),λe=>by rw[←e,R.at X] at c;exact cX c⟩;induction j with
 |zero=>rfl
 |succ j =>
  show(gm N V.none)[j]?=some (oV (if j+1=0 then some 0 else none));refine rE (if_neg (DV j)) (rE (DQ) (rE (if_pos (show j<N from J)) ?_));rfl
noncomputable def mTo(a f:Nat)(x:Nat×List bo):M:=[(.self,some (.ref a)),(.aQ,some (.ref f)),(.«at»,some (.int x.1))]
structure JTo(h0 h1:Hp)(a rc rs N f:Nat)(d:DS)(x:Nat×List bo)(h:Hp):Prop where
 p:ae (·=f) h1 h
 w:Wy h0 h a rc rs N d
 l:∃ts,h f=some (.list ts)/\PL h0 h ts.reverse x.2
 t:∃k,x.1<=k/\d.tell N N=d.tell k x.1++x.2
 n:x.2.length+x.1<=N
theorem aa0(W:Wy h0 h a rc rs N d)(hS:∀j,0<j->j<=N->∃x,d.S j=some x/\0<sz x/\sz x<=j/\0<=x.1)(hN:N<=100)(q:∀y b c,au h c->c y=some (.list b)->PL h0 c b (d.tell N N)->Q (.ref y) c):runs (n+2) .E7 [.ref a] h Q E:=by
 refine aY (jq (bI (dm (os:=[]) rfl tT λf h1 H r rf=>d5 (os:=[.o (ij N rc rs)]) rfl (H.at W.x) (cu (iI λh2 J=>?_)))));have L:=H.trans J;have fa:f≠a:=λe=>by rw[e,W.x] at r;exact cX r
 have fF:∀ {u:Nat} {o:O},h u=some o->u≠f:=λS e=>by rw[e,r] at S;exact aN S
 have m:rs≠f:=ak W.s λM V X=>fF V;have t:rc≠f:=ak W.c λM V X=>fF V;refine mw (mTo a f) (λx=>x.1) (JTo h0 h2 a rc rs N f d) (N,[]) ⟨ae.refl,W.keep L λX z=>z.elim,(aq [] (J.at rf) .nil),(aq N (a6 _) ((fk _).symm)),d8 (o0 N)⟩ λx c I R hR=>?_;refine aZ (os:=[]) rfl tT (λz=>aU ?_) λz=>aM ?_
 ·have K:0<x.1:=aS.mp z;refine fm (hS x.1 K (ah (gN _ _) I.n)) λw U v A w4=>?_;refine cr I.w.s λM V s2 s3=>?_;refine cr (s3 x.1 w U (ah (gN _ _) I.n)) λy y1 y2 B=>?_;refine ak I.l λb T s=>?_;refine ak I.t λk Y g=>?_;have Z:dr M (x.1:Int)=some (.ref y):=oj y1;have tl:b.length=x.2.length:=by exact rF s.length (rE w6 rfl)
  have xn:=I.n;refine bH (sv (os:=[]) rfl tT T (aG (os:=[.o (ij N rc rs),.o (.list M),.g (.ref y)]) rfl (jj (jj I.w.x V) Z) (sw T (by refine rE tl (rE dz ?_);exact iY (ah (ah (cP _ _) xn) hN)) ?_)));have l:ae (·=f) c (c.set f (.list (b++[.ref y]))):=ae.set rfl;have t3:(c.set f (.list (b++[.ref y]))) f=some (.list (b++[.ref y])):=Hp.set_same;have C:Wy h0 (c.set f (.list (b++[.ref y]))) a rc rs N d:=I.w.keep l λz e=>(aH (λw hw=>(by rw[e,T] at hw;exact nomatch hw)) (e▸fa) (λk=>k.elim (λk=>t (k.symm.trans e)) λk=>m (k.symm.trans e)))
  ·generalize c.set f (.list (b++[.ref y]))=D at l t3 C;have G:D rs=some (.list M):=l _ _ V m
   ·have p:D y=some (gG w):=l _ _ B λe=>by rw[e,T] at B;exact nomatch B
    refine bR (dk (aG (os:=[]) rfl tT (b7 (os:=[.o (ij N rc rs),.o (.list M),.g (.ref y)]) rfl (jj (jj C.x G) Z) (Kj p w4 (aaW (k:=((x.1 - sz w:Nat):Int)) (ir (jy A)) (cG (hR (x.1 - sz w,w::x.2) D (by show x.1 - sz w<x.1;exact ly K v) ⟨I.p.trans l,C,(aq _ t3 ?_),?_,by show x.2.length+1+(x.1 - sz w)<=N;exact OO v A xn⟩)))))))
    ·refine rE List.reverse_append ?_;exact .cons y2 p (s.keep λu p1 p2 X S=>l _ _ S λe=>by rw[e,T] at S;exact nomatch S)
    ·induction k with
     |zero=>lia
     |succ k=>exact(aq k (by show x.1 - sz w<=k;exact OP v A Y) (by rw[g,DS.aaY K U,gS];rfl))
 ·have jz:x.1=0:=by have:¬(0:Int)<x.1:=z;exact Nat.eq_zero_of_not_pos λy=>z (jL y)
  refine ak I.l λb T s=>?_;refine ak I.t λk Y g=>?_;rw[jz,DS.aaX] at g;have g:d.tell N N=x.2:=g;have P:ae (·=f) h c:=(L.mono λX z=>z.elim).trans I.p;refine cC (aP T λy hy=>q y b.reverse (c.set y (.list b.reverse)) ((P.less λu e=>.inr (by refine rE e ?_;exact r)).trans (ae.new hy)) Hp.set_same ?_);refine rE g ?_;exact s.keep λu p1 p2 X S=>(ae.new (F:=λX=>False) hy).at S
end
noncomputable def gH(F s u:Nat):O:=.inst .jN [(.finder,some (.ref F)),(.shortest,some (.int s)),(.known,some (.int u))]
theorem PL.aa1(L:PL g h c d){v:V}(F:v∈c):∃y p,v=.ref y/\h y=some (gG p)/\p∈d:=by
 induction L with
 |nil=>exact dx F
 |cons a b _ f=>exact(cW.mp F).elim (λe=>(cb _ _ e b (.head _))) λm=>bL (f m) λy p K M O=>(cb y p K M (.tail _ O))
section
variable{n:Nat}{h h0:Hp}{Q:V->Hp->Prop}{E:Ex->Hp->Prop}{a fa s u p mo c1:Nat}{t:List UInt8}{All:Nat->List (Int×Int)}{S:Nat->Hp->Prop}{F:Nat->Prop}
theorem aa2(M:st<=t.length)(q:Q .none h):runs (n+1) .EW [.bytes t,.int st,.int mo] h Q E :=
 aY (aT (iJ (pU (o1:=[]) (o2:=[]) (o3:=[]) rfl tT rfl tT rfl rfl tT rfl (λK K=>aM (aR (aT (aZ (os:=[]) rfl tT (λz=>absurd z (cz.mpr (b9 _))) λK=>aM (aR q))))) λz=>absurd ⟨b9 _,bt.mpr M⟩ z)))
def sT(F:Nat->Prop)(a:Nat)(z:Nat):Prop:=F z\/z=a
theorem aa3(K:FS n fa F t mo All S)(M:h a=some (gH fa s u))(X:S u h)(O:¬F a)(c:u<=p)(d:p<=t.length)(q:∀b,ae (sT F a) h b->b a=some (gH fa s p)->S p b->Q .none b):runs (n+1) .EY [.ref a,.int p] h Q E:=by
 refine aY (mw (λ_:Nat=>[(.self,some (.ref a)),(.am,some (.int p))]) (λv=>p - v) (λv b=>v<=p/\b a=some (gH fa s v)/\S v b/\ae (sT F a) h b) u (dE c M X ae.refl) λv b I R f=>?_);refine aZ (os:=[.o (gH fa s v)]) rfl I.2.1 (λz=>aU ?_) λz=>aM ?_
 ·have z:=aS.mp z;refine bH (mE (os:=[.o (gH fa s v)]) (os2:=[.o (gH fa s v)]) rfl I.2.1 rfl I.2.1 (K.put I.2.2.1 (bn z d) λl T g=>?_));have V:=T _ _ I.2.1 O;exact eU (os:=[.o (gH fa s v)]) (os2:=[]) rfl V rfl tT V rfl (show 3<100 by decide) λi W j=>f (v+1) i (jA z (c7 v)) (dE z j (K.keep g W λx M e=>O (e▸M)) ((I.2.2.2.trans (T.mono λk z=>.inl z)).trans (W.mono λk z=>.inr z)))
 ·have z:v=p:=fi I.1 (c6 λy=>z (aS.mpr y));rw[z] at I;exact q b I.2.2.2 I.2.1 I.2.2.1
theorem aa4{f:Nat}(W:h f=some (.list c))(L:PL h0 h c d)(X:c.length<bB)(e:∀p∈d,(s:Int)<=p.1)(g:h c1=some (.cell (some (.ref a))))(i:h a=some (gH fa s u))(q:∀y b,au h b->h y=none->b y=some (.list c)->P (.ref y) b m):
  kC C [(.self,c1)] (.aa .«match») .«match» (.cmp (.sub (.aa .«match») (.int 0)) .ge (.aA (.bh .self) .shortest)) P (.ref f) h m:=by
 refine aP (.list W) (sx (λT b K=>b=h/\K++T=c) (λb K I=>?_) (λv T b K I R j=>?_) ⟨rfl,rfl⟩)
 ·refine rE I.1 ?_;refine jj rfl λa V=>q a _ (ae.new V) V ?_;rw[fk] at I;refine rF I.2 ?_;exact Hp.set_same
 ·refine rE I.1 ?_;have k:v∈c:=by refine rF I.2 ?_;exact oJ _ (.head _)
  refine bL (L.aa1 k) λy w M l o=>?_;subst M;have O:K.length<bB:=aV (by refine rF I.2 (rE cA ?_);exact cP _ _) X;exact jj rfl (aZ (os:=[.o (gG w),.g (.int w.1),.g (.ref a),.o (gH fa s u)]) rfl (jj (jj (jj l rfl) g) i) (λr=>aU (aG (os:=[]) rfl tT (jj O (j h (K++[.ref y]) ⟨rfl,by rw[gS];exact I.2⟩)))) λz=>absurd (e w o) z)
theorem aa5(K:FS n fa F t mo All S)(B:FS (n+1) fa F t mo All S)(W:h a=some (gH fa s u))(l:S u h)(C:¬F a)(X:u<=p)(m:p<t.length)(D:∀x∈All p,(s:Int)<=x.1)(G:(All p).length<bB)
  (q:∀f c d b,ae (sT F a) h b->h f=none->b a=some (gH fa s p)->S p b->b f=some (.list c)->PL d b c (All p)->Q (.ref f) b):runs (n+2) .EZ [.ref a,.int p,.int mo] h Q E:=by
 refine aY (λk R=>?_);have T:au h (h.set k (.cell (some (.ref a)))):=ae.new R;have o:(h.set k (.cell (some (.ref a)))) k=some (.cell (some (.ref a))):=Hp.set_same;have H:¬F k:=λz=>K.own l z R;have I:k≠a:=λe=>by rw[e,W] at R;exact nomatch R
 refine bH (bS (os:=[.g (.ref a)]) (os2:=[]) rfl o (T.at W) (.own rfl rfl) rfl tT (aa3 K (T.at W) (K.keep l T λM M z=>z) C X (aO m) λd r V g=>?_));have v:=r _ _ o λz=>z.elim H I;refine cC (sJ (mE (os:=[.g (.ref a),.o (gH fa s p)]) (os2:=[]) rfl (jj v V) rfl tT (B.cL g m λf J O L=>L.elim λc N i=>?_)));refine aa4 N i (by refine rE i.length ?_;exact G) D (O.at v) (O.at V) λy P j U Y=>?_;have w:=O.trans j;have A:ae (sT F a) h J:=((T.mono λM z=>z.elim).trans r).trans (O.mono λM z=>z.elim);exact q y c d P (A.trans (j.mono λM z=>z.elim)) (back A (λz=>z.elim (λz=>K.own (K.keep g O λM M z=>z) z) λz=>by refine rE z (rE (O.at V) ?_);nofun) U) (w.at V) (K.keep g w λM M z=>z) Y (i.keep λM M M M X=>j.at X)
end
theorem Kk{n a i:Nat}{d:DS}{x:bo}(F:0<sz x)(K:i<=a):(d.cq n b a x).C i=d.C i:=by
 unfold DS.cq;by_cases h:n<a+sz x
 ·exact rE (if_pos h) rfl
 ·refine rE (if_neg h) ?_;show(match better (d.C (a+sz x)) ((d.C a).getD 0+b x) with |true=>(⟨fset d.C (a+sz x) (some ((d.C a).getD 0+b x)),fset d.S (a+sz x) (some x)⟩:DS) |false=>d).C i=d.C i;cases better (d.C (a+sz x)) ((d.C a).getD 0+b x)
  ·rfl
  ·exact ox (by exact cK (aV K (sW F)))
section
variable{n:Nat}{h h0:Hp}{Q:V->Hp->Prop}{E:Ex->Hp->Prop}{a fa s u p mo N wa rc rs ta pr l m b k dd i:Nat}{t:List UInt8}{All:Nat->List (Int×Int)}{S:Nat->Hp->Prop}{F:Nat->Prop}{d:DS}{x:bo}
theorem aa6(O:h a=some (.inst .jN m0))(R:h fa=some (.inst c f))(T:et look (.inst c f) .least (.val (.int s)))(V:2<=s)(W:fa≠a)(q:∀e,ae (·=a) h e->e a=some (gH fa s 0)->Q .none e):runs (n+1) .EX [.ref a,.ref fa] h Q E:=by
 refine aY (eU (os:=[]) (os2:=[]) rfl tT rfl tT O rfl (show 0<100 by decide) λo p1 a1=>?_);have K:=p1 _ _ R W;refine eU (os:=[.a (.inst c f) (.int s)]) (os2:=[]) rfl (jj K T) rfl tT a1 rfl (show 1<100 by decide) λr X a2=>?_;refine eU (os:=[]) (os2:=[]) rfl tT rfl tT a2 rfl (show 2<100 by decide) λg j M=>q g ((p1.trans X).trans j) ?_;rw[show max (s:Int) 2=s by exact Me (bt.mpr V)] at M;exact M
structure d6(F:Nat->Prop)(S:Nat->Hp->Prop)(fa s wa rc rs ta pr N l m b:Nat)(h0 h:Hp)(u:Nat)(d:DS):Prop where
 w:Wy h0 h wa rc rs N d
 tr:h ta=some (gH fa s u)
 st:S u h
 pr:h pr=some (gf l m b)
 p:ae F h0 h
structure LC(n:Nat)(F:Nat->Prop)(S:Nat->Hp->Prop)(fa s mo wa rc rs ta pr N l m b st:Nat)(t:List UInt8)(All:Nat->List (Int×Int))(h0:Hp):Prop where
 K:FS (n+1) fa F t mo All S
 K1:FS (n+2) fa F t mo All S
 own:∀x,F x->h0 x≠none
 na:h0 ta=none
 nw:h0 wa=none
 nc:h0 rc=none
 ns:h0 rs=none
 eN:st+N=t.length
 hN:t.length<=100
 hb:b<100
 hs:2<=s
 np:¬F pr
variable{st:Nat}
theorem d6.ext(I:d6 F S fa s wa rc rs ta pr N l m b h0 h u d)(C:LC n F S fa s mo wa rc rs ta pr N l m b st t All h0)(e:au h c):d6 F S fa s wa rc rs ta pr N l m b h0 c u d :=
 ⟨I.w.keep e λK z=>z.elim,e.at I.tr,C.K.keep I.st e λK K z=>z,e.at I.pr,I.p.trans (e.mono λK z=>z.elim)⟩
theorem d6.cq{X:Int}{y:Nat}(C:LC n F S fa s mo wa rc rs ta pr N l m b st t All h0)(I:d6 F S fa s wa rc rs ta pr N l m b h0 h u d)(K:h y=some (gG x))(f:h0 y=none)(g:0<=x.1)(T:0<sz x)(j:i<=N)(R:d.C i=some X){n':Nat}
  (q:∀c,d6 F S fa s wa rc rs ta pr N l m b h0 c u (d.cq N (bW l m b) i x)->ae (ke rc rs) h c->Q .none c):runs (n'+2) .x9 [.ref wa,.int i,.ref y,.int (bW l m b x)] h Q E :=
 aaV I.w K f g j R (ah (C.eN▸gN N st) C.hN) λc p W=>by
  refine ak I.w.c λL r v=>?_;refine ak I.w.s λM w v=>?_;have V:∀ {y:Nat} {o:O},h y=some o->(∀L,o≠.list L)->¬ke rc rs y:=λK k z=>z.elim (λz=>k L (by rw[z,r] at K;exact(bq K).symm)) λz=>k M (by rw[z,w] at K;exact(bq K).symm);exact q c ⟨W,p _ _ I.tr (V I.tr nofun),C.K.keep I.st p λz T e=>C.own z T (e.elim (λe=>e▸C.nc) λe=>e▸C.ns),p _ _ I.pr (V I.pr nofun),I.p.drop p λz e=>.inr (e.elim (λe=>e▸C.nc) λe=>e▸C.ns)⟩ p
theorem Kl{k dd:Nat}(K:2<=k):bW l m b ((k:Int),(dd:Int))=sS m b k dd:=by
 unfold bW;refine rE (if_neg (show(k:Int)≠0 by lia)) ?_;rfl
structure GP where
 i:Nat
 pl:Option V
 ma:Option V
 le:Option V
 di:Option V
 pa:Option V
 tk:Option V
noncomputable def iQ(t:List UInt8)(st fa mo pr ta wa:Nat)(x:GP):M:=[(.ba,some (.bytes t)),(.start,some (.int st)),(.finder,some (.ref fa)),(.most,some (.int mo)),(.cm,some (.ref pr)),(.o8,some .none),(.trail,some (.ref ta)),(.ways,some (.ref wa)),(.«at»,some (.int x.i)),(.am,x.pl),(.matches,x.ma),(.length,x.le),(.bb,x.di),(.part,x.pa),(.taken,x.tk)]
noncomputable def Km:List Internal.S:=[.expr (.ay (.aa .ways) .cq [(.aa .«at»),(.tup [(.aa .part),(.aa .bb)]),(.ay (.aa .cm) .«match» [(.aa .part),(.aa .bb)])])]
theorem aa7{f:Int}{x:GP}{Q:Fl->Hp->M->Prop}{E:PE}(C:LC n F S fa s mo wa rc rs ta pr N l m b st t All h0)(I:d6 F S fa s wa rc rs ta pr N l m b h0 h u d)(o:x.i<=N)(K:d.C x.i=some f)(O:2<=k)(R:k<1000)(r:1<=dd)(T:dd<1000)(V:x.di=some (.int dd))(W:x.pa=some (.int k))
  (q:∀c,d6 F S fa s wa rc rs ta pr N l m b h0 c u (d.cq N (bW l m b) x.i ((k:Int),(dd:Int)))->(d.cq N (bW l m b) x.i ((k:Int),(dd:Int))).C x.i=some f->ae (ke rc rs) h c->Q .next c (iQ t st fa mo pr ta wa x)) :
  aE look ac (runs (n+3)) [] Km h (iQ t st fa mo pr ta wa x) Q E:=by
 obtain⟨i,L,P,U,v,w,Y⟩:=x;have V:v=some (.int dd):=V;have W:w=some (.int k):=W;subst V W;have g:sz ((k:Int),(dd:Int))=k:=sR O;refine bH (vA (os:=[]) rfl tT I.w.x (.own rfl rfl) (d5 (os:=[]) rfl tT (bI (lf (os:=[]) rfl tT λy Z j A B=>?_))));have X:=I.ext C j;refine bI (bS (os:=[]) (os2:=[]) rfl tT X.pr (.own rfl rfl) rfl tT (Ki X.pr C.hb O R r T λh2 e=>?_));have D:=X.ext C e;refine rF (Kl (l:=l) O) ?_;refine cu (d6.cq C D (x:=((k:Int),(dd:Int))) (e.at B) ?_ (b9 _) (by refine rE g ?_;exact xA O) o K λG H J=>q G H ((Kk (by refine rE g ?_;exact xA O) (a6 i)).trans K) (((j.trans e).mono λzz z=>z.elim).trans J));exact back I.p (λz=>C.K.own I.st z) A
end
theorem qm{h2:Hp}(st:b->M)(J:List bo->b->Hp->Prop)
  (step:∀y z F K x h,h y=some (gG z)->PL h2 h K F->J (z::F) x h->∀R:Hp->M->Prop,(∀x h,PL h2 h K F->J F x h->R h (st x))->c h/\a (.ref y) h (st x) (lq Q R)) (O:∀x h,J [] x h->c h/\Q .next h (st x)) :
  ∀ {K:List V} {F:List bo} {x:b} {h:Hp},PL h2 h K F->J F x h->hV c a K h (st x) Q
 |[],F,x,h,L,j=>by cases L;exact O x h j
 |v::K,F,x,h,L,j=>by
  cases L with
  | @cons y z _ F d e L=>exact step y z F K x h e L j _ λx h L j=>qm st J step O L j
theorem aa8{a e:Nat}:gu (a:Int) (e:Int) 1=(eH (e - a)).map λz:Nat=>V.int ((a+z:Nat):Int):=by
 unfold gu;rw[if_pos rfl,show((e:Int) - a).toNat=e - a by exact sX e a];exact DY λk F=>rfl
noncomputable def Kn:Internal.S:=.for .part (.aB .range [(.aA (.aa .trail) .shortest),(.bin .add (.aa .length) (.int 1))]) Km
noncomputable def Ko:Internal.S:=.gU .length .bb (.aa .matches) [Kn]
section
variable{n:Nat}{h h0:Hp}{E:PE}{Q:Fl->Hp->M->Prop}{fa s u p mo N wa rc rs ta pr l m b st:Nat}{t:List UInt8}{All:Nat->List (Int×Int)}{S:Nat->Hp->Prop}{F:Nat->Prop}{d:DS}{ci:Int}
theorem Wy.off(W:Wy h0 h wa rc rs N d){y:Nat}(K:h y=none):¬ke rc rs y:=λz =>
 let ⟨L,a,_⟩:=W.c;let ⟨M,c,_⟩:=W.s
 z.elim (λz=>by rw[z,a] at K;exact nomatch K) λz=>by rw[z,c] at K;exact nomatch K
theorem Wy.tup(W:Wy h0 h wa rc rs N d){y:Nat}{O:List V}(K:h y=some (.tup O)):¬ke rc rs y:=λz =>
 let ⟨L,a,_⟩:=W.c;let ⟨M,c,_⟩:=W.s
 z.elim (λz=>by rw[z,a] at K;exact nomatch K) λz=>by rw[z,c] at K;exact nomatch K
theorem aa9{O K:Nat}{x:GP}(C:LC n F S fa s mo wa rc rs ta pr N l m b st t All h0)(I:d6 F S fa s wa rc rs ta pr N l m b h0 h u d)(P:x.i<=N)(X:d.C x.i=some ci)(c:O<900)(A:s<=O)(U:1<=K)(f:K<1000)(g:x.le=some (.int O))(o:x.di=some (.int K))
  (q:∀a v,d6 F S fa s wa rc rs ta pr N l m b h0 a u ((jv s ((O:Int),(K:Int))).foldl (DS.cq N (bW l m b) x.i) d)->((jv s ((O:Int),(K:Int))).foldl (DS.cq N (bW l m b) x.i) d).C x.i=some ci->ae (ke rc rs) h a->Q .next a (iQ t st fa mo pr ta wa {x with pa:=v})) :
  aE look ac (runs (n+3)) [] [Kn] h (iQ t st fa mo pr ta wa x) Q E:=by
 obtain⟨i,B,D,Y,Z,pa,G⟩:=x;have g:Y=some (.int O):=g;have o:Z=some (.int K):=o;subst g o;have s2:=C.hs;refine g0 (Zi (i:=(s:Int)) (j:=((O+1:Nat):Int)) (os:=[.o (gH fa s u)]) rfl I.tr (by exact Et (ah A (ah (aO c) (by decide)))) (by exact Et (ah c (by decide))) λra h1 H r M=>aP (.range M) ?_);refine rE aa8 ?_;have T:=I.w.off r;refine gC (λz:Nat=>V.int ((s+z:Nat):Int)) (λx:Option V×DS=>iQ t st fa mo pr ta wa ⟨i,B,D,some (.int O),some (.int K),x.1,G⟩)
  (λw x a=>((d6 F S fa s wa rc rs ta pr N l m b h0 a u x.2/\x.2.C i=some ci)/\(w.map λz=>(((s+z:Nat):Int),(K:Int))).foldl (DS.cq N (bW l m b) i) x.2=(jv s ((O:Int),(K:Int))).foldl (DS.cq N (bW l m b) i) d)/\ae (ke rc rs) h1 a/\∀z∈w,s+z<1000)
  (λz w x a J R hR=>jj ((J.2.1 _ _ M T).trans M.symm) ?_) (λx a J=>jj ((J.2.1 _ _ M T).trans M.symm) ?_) (x:=(pa,d)) (aH ⟨⟨I.ext C H,X⟩,rfl⟩ ae.refl (λz L=>?_))
 ·have L:=J.2.2 z (.head _);exact aa7 (k:=s+z) (x:=⟨i,B,D,some (.int O),some (.int K),some (.int ((s+z:Nat):Int)),G⟩) C J.1.1.1 P J.1.1.2 (NN s2) (by omega) U f rfl rfl λa W c' p'=>hR (some (.int ((s+z:Nat):Int)),x.2.cq N (bW l m b) i (((s+z:Nat):Int),(K:Int))) a (aH ⟨⟨W,c'⟩,J.1.2⟩ (J.2.1.trans p') (λy hy=>J.2.2 y (.tail _ hy)))
 ·have e:x.2=_:=J.1.2;have W:=J.1.1;rw[e] at W;exact q a x.1 W.1 W.2 ((H.mono λzz z=>z.elim).trans J.2.1)
 ·have:=lE.mp L;exact aV (El A this) (cZ c (by decide))
structure GM where
 d:DS
 le:Option V
 di:Option V
 pa:Option V
theorem aba{Y:Hp}{i:Nat}{T W X g j:Option V}(C:LC n F S fa s mo wa rc rs ta pr N l m b st t All h0)(I:d6 F S fa s wa rc rs ta pr N l m b h0 h u d)(Z:i<=N)(o:d.C i=some ci)
  (k:h f=some (.list w)) (H:f≠rc/\f≠rs) (L:PL Y h w A) (B:∀z∈A,∃K M:Nat,z=((K:Int),(M:Int))/\K<900/\s<=K/\1<=M/\M<1000) {r:List Internal.S}
  (q:∀c X g j,d6 F S fa s wa rc rs ta pr N l m b h0 c u ((A.flatMap (jv s)).foldl (DS.cq N (bW l m b) i) d)->c f=some (.list w)->aE look ac (runs (n+3)) [] r c (iQ t st fa mo pr ta wa ⟨i,T,some (.ref f),X,g,j,W⟩) Q E) :
  aE look ac (runs (n+3)) [] (Ko::r) h (iQ t st fa mo pr ta wa ⟨i,T,some (.ref f),X,g,j,W⟩) Q E:=by
 refine n9 (aG (os:=[]) rfl tT (aP (.list k) ?_));refine qm (λx:GM=>iQ t st fa mo pr ta wa ⟨i,T,some (.ref f),x.le,x.di,x.pa,W⟩)
  (λD x c=>((d6 F S fa s wa rc rs ta pr N l m b h0 c u x.d/\x.d.C i=some ci)/\(D.flatMap (jv s)).foldl (DS.cq N (bW l m b) i) x.d=(A.flatMap (jv s)).foldl (DS.cq N (bW l m b) i) d)/\c f=some (.list w)/\∀z∈D,∃K M:Nat,z=((K:Int),(M:Int))/\K<900/\s<=K/\1<=M/\M<1000)
  (λy z D vs x c hy L' J R hR=>jj (J.2.1.trans k.symm) (aP (.tup hy) ?_)) (λx c J=>jj (J.2.1.trans k.symm) ?_) (x:=⟨d,X,g,j⟩) L (aH ⟨⟨I,o⟩,rfl⟩ k B)
 ·refine N1 (J.2.2 z (.head _)) λK M G b1 b2 b3 b4=>?_;subst G;refine aa9 (x:=⟨i,T,some (.ref f),some (.int K),some (.int M),x.pa,W⟩) C J.1.1.1 Z J.1.1.2 b1 b2 b3 b4 rfl rfl λh3 v I3 c3 P=>hR ⟨_,some (.int K),some (.int M),v⟩ h3 (L'.keep λy' a b zz O=>P _ _ O (J.1.1.1.w.tup O)) (aH ⟨⟨I3,c3⟩,?_⟩ (P _ _ J.2.1 λz=>z.elim H.1 H.2) (λz hz=>J.2.2 z (.tail _ hz)));exact rF J.1.2 (rE List.flatMap_cons (rE List.foldl_append rfl))
 ·have e:x.d=_:=J.1.2;have U:=J.1.1;rw[e] at U;exact q c x.le x.di x.pa U.1 J.2.1
end
noncomputable def abb:List Internal.S :=
  [.assign .am (.bin .add (.aa .start) (.aa .«at»)),.assign .matches (.ay (.aa .trail) .cL [(.aa .am),(.aa .most)]),.expr (.ay (.aa .ways) .cq [(.aa .«at»),(.tup [(.int 0),(.sub (.aa .ba) (.aa .am))]),(.ay (.aa .cm) .literal [(.sub (.aa .ba) (.aa .am))])]),Ko,.assign .taken (.int 1),.ite (.and (.cmp (.aa .o8) .pi .none) (.and (.cmp (.aa .matches) .ne (.list [])) (.cmp (.sub (.sub (.aa .matches) (.neg (.int 1))) (.int 0)) .ge (.aa .o8))))
    [.assign .taken (.sub (.sub (.aa .matches) (.neg (.int 1))) (.int 0))]
    [],.assign .«at» (.bin .add (.aa .«at») (.aa .taken))]
section
variable{n:Nat}{h h0:Hp}{fa s w u p mo N wa rc rs ta pr l m b st:Nat}{t:List UInt8}{S:Nat->Hp->Prop}{F:Nat->Prop}{d:DS}{ci:Int}
theorem abc{p:Nat}(T:1<=s)(V:p<t.length)(R:t.length<=100):∀z∈bQ t s w mo p,∃K M:Nat,z=((K:Int),(M:Int))/\K<900/\s<=K/\1<=M/\M<1000:=λz W=>by
 refine fm (Bu W T) λy a1 a2 X O=>?_;refine rE O ?_;have:bD t mo p y<=t.length - p:=ah eC (gI _ _);exact⟨_,_,rfl,by exact aV (ah this (ah (fh _ _) R)) (by decide),X,by exact D6 a2,by exact aV (ah (fh _ _) (ah (aO V) R)) (by decide)⟩
theorem abd(C:LC n F S fa s mo wa rc rs ta pr N l m b st t (bQ t s w mo) h0)(I:d6 F S fa s wa rc rs ta pr N l m b h0 h u (DS.all N (bW l m b) (fA t st s w mo) x.i))(hu:u<=st+x.i)(W:x.i<N)
  (q:∀A B,B.i=x.i+1->d6 F S fa s wa rc rs ta pr N l m b h0 A (st+x.i) (DS.all N (bW l m b) (fA t st s w mo) (x.i+1))->Q .next A (iQ t st fa mo pr ta wa B)) :
  aE look ac (runs (n+3)) [] abb h (iQ t st fa mo pr ta wa x) Q E:=by
 have eN:=C.eN;have X:st+x.i<t.length:=by exact eN▸gk W st
 have s1:1<=s:=d9 C.hs;refine tV (v7 (n:=N) (pc:=bW l m b) (offs:=fA t st s w mo) (λa ha y r=>(mF C.hs (by exact eN▸gk ha st) r).sz.1) (λa ha=>(aq _ (.head _) kc)) (aO W)) λG ci K=>?_;have hS:DS.all N (bW l m b) (fA t st s w mo) (x.i+1)=((bQ t s w mo (st+x.i)).flatMap (jv s)).foldl (DS.cq N (bW l m b) x.i) ((DS.all N (bW l m b) (fA t st s w mo) x.i).cq N (bW l m b) x.i (gi t (st+x.i))):=rfl;rw[hS] at q;generalize DS.all N (bW l m b) (fA t st s w mo) x.i=d at I K q;obtain⟨i,pl,ma,le,di,pa,tk⟩:=x;have K:d.C i=some ci:=K;have W:i<N:=W;have X:st+i<t.length:=X;have q:∀A B,B.i=i+1->d6 F S fa s wa rc rs ta pr N l m b h0 A (st+i) (((bQ t s w mo (st+i)).flatMap (jv s)).foldl (DS.cq N (bW l m b) i) (d.cq N (bW l m b) i (gi t (st+i))))->Q .next A (iQ t st fa mo pr ta wa B):=q
 refine ms (os:=[]) (j:=((st+i:Nat):Int)) rfl tT rfl ?_;have Y:¬F ta:=λz=>C.own _ z C.na;have all:=abc (s:=s) (w:=w) (mo:=mo) s1 X C.hN;refine bR (bS (os:=[]) (os2:=[]) rfl tT I.tr (.own rfl rfl) rfl tT (aa5 C.K C.K1 I.tr I.st Y hu X (λz hz=>?_) ?_ λf ts h2 h3 Z nf x3 S3 hf L=>cG ?_))
 ·refine eb (all z hz) λln dd z2z a1 a2 a3=>?_;refine rE z2z ?_;exact bt.mpr a2
 ·refine rE dz ?_;exact aV qe (cZ X (aV C.hN (by decide)))
 have R:∀ {y:Nat} {o:O},h y=some o->h0 y=none->(∀c H,o=.inst c H->c≠.jN)->¬sT F ta y:=λr ny k z=>z.elim (λz=>C.own _ z ny) λz=>by
  rw[z,I.tr] at r;exact k _ _ (bq r).symm rfl
 have J:d6 F S fa s wa rc rs ta pr N l m b h0 h3 (st+i) d:=by
  refine⟨I.w.keep Z λz e=>(aH (λv hv=>?_) (λk=>?_) (λk=>?_)),x3,S3,Z _ _ I.pr λz=>z.elim C.np λz=>?_,I.p.drop Z λz e=>e.imp id λe=>by refine rE e ?_;exact C.na⟩
  ·exact e.elim (C.own z) λe=>by rw[e,I.tr] at hv;exact nomatch hv
  ·exact R I.w.x C.nw (λc H e=>by injection e with e;refine rF e ?_;nofun) (k▸e)
  ·refine ak I.w.c λL c1 G=>?_;refine ak I.w.s λM m1 G=>?_;exact k.elim (λk=>R c1 C.nc (λc H e=>by exact nomatch e) (k▸e)) λk=>R m1 C.ns (λc H e=>by exact nomatch e) (k▸e)
  ·have:=I.pr;rw[z,I.tr] at this;exact nomatch this
 have g:gB t (st+i)=gB t (st+i):=rfl;have gc:=jr (t:=t) X;refine bH (vA (os:=[]) rfl tT J.w.x (.own rfl rfl) (d5 (os:=[]) rfl tT (bI (lf (os:=[gB t (st+i)]) rfl gc λy h4 P ny r=>?_))));have U:=J.ext C P;refine bI (bS (os:=[]) (os2:=[gB t (st+i)]) rfl tT U.pr (.own rfl rfl) rfl gc (Kh U.pr ?_));rw[show(V.int (l:Int))=V.int (bW l m b (gi t (st+i))) from rfl];have y0:h0 y=none:=back J.p (λz=>C.K.own J.st z) ny;have ci2:(d.cq N (bW l m b) i (gi t (st+i))).C i=some ci:=(Kk (by refine rE kc ?_;exact mO) (a6 i)).trans K;refine cu (d6.cq (n':=n+1) C U (x:=gi t (st+i)) r y0 (hM 0) (by refine rE kc ?_;exact mO) (aO W) K λh5 I5 p5=>?_);have T:f≠rc/\f≠rs:=⟨λe=>I.w.off nf (.inl e),λe=>I.w.off nf (.inr e)⟩
 have hf5:=p5 _ _ (P.at hf) λz=>z.elim T.1 T.2;refine aba C I5 (aO W) ci2 hf5 T (L.keep λy' a b G D=>p5 _ _ (P.at D) (U.w.tup (P.at D))) all λh6 le di pa I6 hf6=>?_;refine dI (os:=[]) rfl tT (aT (fU (g6 (b:=false) (os:=[]) rfl tT (λz=>nomatch z) λG=>aM (aM (aR ?_)))));exact ms (os:=[]) (j:=((i+1:Nat):Int)) rfl tT rfl (q h6 ⟨i+1,some (.int ((st+i:Nat):Int)),some (.ref f),le,di,pa,some (.int 1)⟩ rfl I6)
end
theorem abe{n:Nat}(M:∀a,a<n->∀x∈offs a,0<sz x)(F:∀a,a<n->∃x∈offs a,sz x=1){j:Nat}(K:0<j)(O:j<=n):∃x i,(DS.all n pc offs n).S j=some x/\i+sz x=j/\i<n/\x∈offs i:=by
 refine(v7 (pc:=pc) M F (a6 n)).elim λI R=>?_;refine ak (F (j - 1) (NU K O)) λy V e=>?_;refine bL (I.rel (j - 1) y ⟨by exact NU K O,V⟩ (by exact OJ K O e)) λR c R S R=>?_;rw[e,mL K] at S;refine tZ (I.sup j c K S) λx i W a1 a2 T X b=>?_;exact(fo x i a1 a2 T.1 T.2)
section
variable{n:Nat}{h:Hp}{Q:V->Hp->Prop}{E:Ex->Hp->Prop}{fa s w mo pr l m b st:Nat}{t:List UInt8}{S:Nat->Hp->Prop}{F:Nat->Prop}
theorem Bv(K:FS (n+1) fa F t mo (bQ t s w mo) S)(K1:FS (n+2) fa F t mo (bQ t s w mo) S)(hS:S 0 h)(hf:h fa=some (.inst c fs))(hl:et look (.inst c fs) .least (.val (.int s)))(D:2<=s)(hp:h pr=some (gf l m b))(np:¬F pr)(O:st<=t.length)(P:t.length<=100)(hb:b<100)
  (q:∀y G g,ae F h g->g y=some (.list G)->PL h g G (oy t st s w mo (bW l m b))->Q (.ref y) g):runs (n+4) .least [.bytes t,.int st,.ref fa,.int mo,.ref pr] h Q E:=by
 refine aY (bH (b7 (os:=[]) rfl tT (aa2 O ?_)));refine jq (bI (mu (os:=[]) rfl rfl tT λT M=>?_));have e1:au h (h.set T (.inst .jN m0)):=ae.new M;refine aa6 Hp.set_same (e1.at hf) hl D (fresh_ne hf M) λr p2 U=>jj rfl ?_;have H:au h r:=(e1.mono λX z=>z.elim:ae (·=T) h _).trans p2 |>.less λy e=>.inr (e▸M)
 refine bI (mu (os:=[]) rfl (show dN [] _ _ []=some ([.int ((t.length - st:Nat):Int)],[],[]) by refine rE (jy O) ?_;rfl) tT λV W=>?_);have Y:au r (r.set V (.inst .kz m0)):=ae.new W;refine aaZ (h0:=h) (N:=t.length - st) (by exact ah (fh _ _) P) Hp.set_same λh4 u A p4 nc ns W4=>jj rfl (d5 (os:=[]) rfl tT (cu (iI λh5 Z=>?_)));have x4:au r h4:=(Y.mono λX z=>z.elim:ae (·=V) r _).trans p4 |>.less λy e=>.inr (e▸W)
 have x5:=(H.trans x4).trans Z;have C:LC n F S fa s mo V u A T pr (t.length - st) l m b st t (bQ t s w mo) h:=⟨K,K1,λx hx=>K.own hS hx,M,eh H W,eh H (eh Y nc),eh H (eh Y ns),by exact NP O,P,hb,D,np⟩
 have I5:d6 F S fa s V u A T pr (t.length - st) l m b h h5 0 DS.init:=⟨W4.keep Z λX z=>z.elim,(x4.trans Z).at U,K.keep hS x5 λX X z=>z,x5.at hp,x5.mono λX z=>z.elim⟩
 refine mw (λx:GP×Nat=>iQ t st fa mo pr T V x.1) (λx=>t.length - st - x.1.i) (λx g=>x.1.i<=t.length - st/\x.2<=st+x.1.i/\d6 F S fa s V u A T pr (t.length - st) l m b h g x.2 (DS.all (t.length - st) (bW l m b) (fA t st s w mo) x.1.i)) (⟨0,none,none,none,none,none,none⟩,0) (aH (ca _) (ca _) I5) λx g I R hR=>?_;refine aZ (os:=[.o (ij (t.length - st) u A)]) rfl I.2.2.w.x (λz=>aU ?_) λz=>aM ?_
 ·have z:x.1.i<t.length - st:=aS.mp z;exact abd C I.2.2 I.2.1 z λJ B o p=>hR (B,st+x.1.i) J (by show t.length - st - B.i<_;refine rE o ?_;exact jA z (c7 _)) (aH (by show B.i<=_;exact le_of_eq_of_le o z) (by show st+x.1.i<=st+B.i;exact dy (o▸dc _) st) (by show d6 F S fa s V u A T pr (t.length - st) l m b h J (st+x.1.i) (DS.all (t.length - st) (bW l m b) (fA t st s w mo) B.i);refine rE o ?_;exact p))
 ·have z:x.1.i=t.length - st:=fi I.1 (c6 λy=>z (aS.mpr y));have p:=I.2.2;rw[z] at p;refine cC (bS (os:=[]) (os2:=[]) rfl tT p.w.x (.own rfl rfl) rfl tT (aa0 p.w (λj j0 j1=>?_) (by exact ah (fh _ _) P) λy G J o hy L=>q y G J (p.p.trans (o.mono λX z=>z.elim)) hy L));refine eb (abe (pc:=bW l m b) (offs:=fA t st s w mo) (λa ha y hy=>(mF D (mK ha) hy).sz.1) (λa ha=>(aq _ (.head _) kc)) j0 j1) λv i a1 a2 a3 a4=>?_;have f:=mF D (mK a3) a4;refine(eM v a1 f.sz.1 (by exact a2▸gN _ _) ?_);obtain⟨_,rfl |⟨k,d,rfl,_⟩⟩:=f
  ·exact hM 0
  ·exact b9 k
end
def oz(x:bo):Prop:=(x.1=0/\0<=x.2/\x.2<=255)\/∃k d:Nat,x=((k:Int),(d:Int))/\2<=k/\k<1000/\1<=d/\d<1000
theorem hj.ok{w p:Nat}(M:t.length<=100)(f:hj t w p x):oz x:=by
 obtain⟨R,rfl |⟨k,d,rfl,F,K,S,T,O,V⟩⟩:=f
 ·have F:=Ai R;have K:=Aj (t:=t) (i:=p);exact .inl ⟨rfl,by show 0<=(cc t p:Int) - 1;exact qv (jK F),by show(cc t p:Int) - 1<=255;exact BL (jK (dA K)) 1⟩
 ·exact .inr ⟨k,d,rfl,F,by exact aV (ah (ah (gN k _) O) M) (by decide),K,by exact aV (ah S (ah (ah (cP p k) O) M)) (by decide)⟩
theorem Seg.all{V:Nat->bo->Prop}{P:bo->Prop}(k:∀p x,V p x->P x):∀ {l:List bo} {p q:Nat},Seg V p l q->∀x∈l,P x
 |[],_,_,_,x,h=>dx h
 |y::l,p,q,s,x,h=>(cW.mp h).elim (λe=>e▸k _ _ s.1) λh=>Seg.all k s.2 x h
section
variable{n:Nat}{h h0:Hp}{Q:V->Hp->Prop}{E:Ex->Hp->Prop}{f pr l m b:Nat}{ts:List V}{ps:List bo}
noncomputable def Kp(f:Nat)(x:Option V×Option V):M:=[(.steps,some (.ref f)),(.first,x.1),(.second,x.2)]
theorem abf(V:h f=some (.list ts))(L:PL h0 h ts ps)(W:∀x∈ps,oz x)(q:Q .none h):runs (n+1) .EV [.ref f] h Q E:=by
 refine aY (n9 (aG (os:=[]) rfl tT (aP (.list V) ?_)));refine qm (h2:=h0) (Kp f) (λS x M=>M=h/\∀z∈S,oz z) (λy z S o x M X a I R c=>jj (congrFun I.1 f) (aP (.tup X) ?_)) (λx M I=>jj (congrFun I.1 f) ?_) (x:=(none,none)) L ⟨rfl,W⟩
 ·have F:R M (Kp f (some (.int z.1),some (.int z.2))):=c (some (.int z.1),some (.int z.2)) M a ⟨I.1,λu i=>I.2 u (.tail _ i)⟩;rcases I.2 z (.head _) with ⟨T,O,j⟩ |⟨k,d,e,O,_⟩
  ·refine aT (fU (aZ (os:=[]) rfl tT (λK=>aU (iJ (pU (o1:=[]) (o2:=[]) (o3:=[]) rfl tT rfl tT rfl rfl tT rfl (λK K=>aM (aR ?_)) λy=>absurd ⟨O,j⟩ y))) λy=>absurd T y));exact aT (fU (vy (os:=[]) rfl tT (λy=>absurd T y) λK=>aM (aM (aR F))))
  ·have g:2<=z.1:=by refine rE e ?_;exact bt.mpr O
   refine aT (fU (aZ (os:=[]) rfl tT (λy=>absurd (show z.1=0 from y) (by lia)) λK=>aM (aM (aR ?_))));exact aT (fU (vy (os:=[]) rfl tT (λK=>aU (aZ (os:=[]) rfl tT (λy=>absurd (show z.1<2 from y) (LO g)) λK=>aM (aR F))) λK=>aM (aM (aR F))))
 ·refine rE I.1 ?_;exact q
structure GPr where
 w:Int
 a:Option V
 b:Option V
noncomputable def Kq(f pr:Nat)(x:GPr):M:=[(.steps,some (.ref f)),(.cm,some (.ref pr)),(.whole,some (.int x.w)),(.first,x.a),(.second,x.b)]
theorem abg(e:z.1=0):bW l m b z=l:=if_pos e
theorem Bw(M:h f=some (.list ts))(L:PL h0 h ts ps)(X:∀x∈ps,oz x)(c:h pr=some (gf l m b))(g:b<100)(q:∀a,au h a->Q (.int (cost (bW l m b) ps)) a):runs (n+3) .nA [.ref f,.ref pr] h Q E:=by
 refine aY (dI (os:=[]) rfl tT (n9 (aG (os:=[]) rfl tT (aP (.list M) ?_))));refine qm (h2:=h0) (Kq f pr) (λK x a=>(au h a/\x.w+cost (bW l m b) K=cost (bW l m b) ps)/\∀z∈K,oz z) (λy z K v x a i j I R o=>jj ((I.1.1.at M).trans M.symm) (aP (.tup i) ?_)) (λx a I=>jj ((I.1.1.at M).trans M.symm) ?_) (x:=⟨0,none,none⟩) L ⟨⟨ae.refl,DZ _⟩,X⟩
 ·have F:=I.1.1.at c;have O:∀h2,au a h2->R h2 (Kq f pr ⟨x.w+bW l m b z,some (.int z.1),some (.int z.2)⟩):=λh2 S=>o ⟨x.w+bW l m b z,some (.int z.1),some (.int z.2)⟩ h2 (j.keep λT T T T V=>S.at V) ⟨⟨I.1.1.trans S,by have:=I.1.2;refine rF this ?_;show x.w+bW l m b z+cost (bW l m b) K=x.w+(bW l m b z+cost (bW l m b) K);exact s5 x.w (bW l m b z) (cost (bW l m b) K)⟩,λu V=>I.2 u (.tail _ V)⟩;refine bR (dk (aG (os:=[]) rfl tT (oa (aZ (os:=[]) rfl tT (λW=>aU ?_) λW=>aM ?_))))
  ·refine bS (os:=[]) (os2:=[]) rfl tT F (.own rfl rfl) rfl tT (Kh F (sL (cG ?_)));have:=O a ae.refl;rw[abg (show z.1=0 from W)] at this;exact this
  ·rcases I.2 z (.head _) with e |⟨k,d,e,S,p,r,s⟩
   ·exact absurd e.1 W
   ·subst e;refine bS (os:=[]) (os2:=[]) rfl tT F (.own rfl rfl) rfl tT (Ki F g S p r s λh2 t=>sL (cG ?_));have:=O h2 t;rw[Kl S] at this;exact this
 ·have e:x.w+0=_:=I.1.2;rw[xb] at e;refine cH (os:=[]) rfl tT ?_;rw[show x.w=_ from e];exact q a I.1.1
end
theorem Kr{p:Nat}(h:t[p]?=some c):(cc t p:Int) - 1=c.toNat:=by
 refine rE (nY h) ?_;exact xr.mpr rfl
section
variable{n:Nat}{h h0:Hp}{Q:V->Hp->Prop}{E:Ex->Hp->Prop}{f w st mr:Nat}{ts:List V}{ps:List bo}{t:List UInt8}
structure GUn where
 p:Nat
 a:Option V
 b:Option V
 tu:Option V
noncomputable def v8(f mr st:Nat)(t:List UInt8)(x:GUn):M:=[(.steps,some (.ref f)),(.rq,some (.bytes (t.take st))),(.made,some (.ref mr)),(.first,x.a),(.second,x.b),(.turn,x.tu)]
theorem abh{tu:Option V}{Q:Fl->Hp->M->Prop}{E:PE}(i:h mr=some (.bl (t.take p)))(C:2<=k)(s:1<=d)(T:d<=p)(O:p+k<=t.length)(u:Ag (cc t) p (p - d) k)(j:t.length<=100)
  (q:∀a v,ae (·=mr) h a->a mr=some (.bl (t.take (p+k)))->Q .next a (v8 f mr st t ⟨p+k,some (.int k),some (.int d),v⟩)) :
  aE look ac (runs n) [] [.for .turn (.aB .range [(.aa .first)])
    [.expr (.ay (.aa .made) .append [(.sub (.aa .made) (.bin .sub (.aB .len [(.aa .made)]) (.aa .second)))])]] h (v8 f mr st t ⟨p,some (.int k),some (.int d),tu⟩) Q E:=by
 refine g0 (pW (os:=[]) rfl tT (by exact xP (ah (ah (gN k p) O) j)) λy A l W F=>aP (.range F) ?_);refine rE li ?_;have m:y≠mr:=(fresh_ne i W).symm;refine gC (λz:Nat=>V.int z) (λx:Nat×Option V=>v8 f mr st t ⟨p,some (.int k),some (.int d),x.2⟩) (λo x a=>o=(eH k).drop x.1/\x.1<=k/\ae (·=mr) A a/\a mr=some (.bl (t.take (p+x.1)))) (λz o x a I R B=>jj ((I.2.2.1 _ _ F m).trans F.symm) ?_) (λx a I=>jj ((I.2.2.1 _ _ F m).trans F.symm) ?_) (x:=(0,tu)) (dE rfl (ca _) ae.refl (l.at i))
 ·have K:=sK I.1;have X:x.1<k:=K.2.1;have len:(t.take (p+x.1)).length=p+x.1:=oZ (by exact aO (bn (gk K.2.1 p) O));have e:t[p+x.1 - d]?=t[p+x.1]?:=Ka (Ee (by assumption) (by assumption) (by assumption) X) (by exact bn (gk K.2.1 p) O) (by refine rE (u x.1 X) ?_;congr 1;exact xy T);obtain⟨c,r⟩:∃c,t[p+x.1]?=some c:=⟨_,f7 (by exact bn (gk K.2.1 p) O)⟩
  have g:(dr (t.take (p+x.1)) (((t.take (p+x.1)).length:Int) - d)).map aK=some (.int c.toNat):=by
   refine rE (js (n:=p+x.1 - d) (b:=c) (by rw[len];exact rk (ah T (cP _ _))) (by rw[NQ (Ej s T),e,r])) ?_;rfl
  refine bH (vC (os:=[]) rfl tT I.2.2.2 (aG (os:=[.o (.bl (t.take (p+x.1))),.o (.bl (t.take (p+x.1))),.g (.int c.toNat)]) rfl (jj (jj I.2.2.2 I.2.2.2) g) (vD I.2.2.2 (by refine rE len (rE dz ?_);exact bn (gk K.2.1 p) (ah O (ah j (by decide)))) (b9 _) (aS.mpr c.toNat_lt) ?_)));refine rE qi (rE (ql r) ?_);exact B (x.1+1,some (.int z)) _ (dE K.2.2 X (I.2.2.1.trans (ae.set rfl)) Hp.set_same)
 ·have e:x.1=k:=A7 I.1 I.2.1;have S:=I.2.2.2;rw[e] at S;exact q a x.2 ((l.mono λD z=>z.elim).trans I.2.2.1) S
theorem abi(O:h f=some (.list ts))(L:PL h0 h ts ps)(S:Seg (hj t w) st ps t.length)(T:st<=t.length)(C:t.length<=100)(q:∀g,au h g->Q (.bytes (cut t st t.length)) g):runs (n+2) .x8 [.ref f,.bytes (t.take st)] h Q E:=by
 have ok:=Seg.all (λF F z=>hj.ok C z) S;refine aY (bH (b7 (os:=[]) rfl tT (abf O L ok ?_)));refine bR (show ev look ac (runs (n+1)) [] (.aB .bytearray [.aa .rq]) h _ _ _ from λmr W=>cG ?_);have K:au h (h.set mr (.bl (t.take st))):=ae.new W;have H:(h.set mr (.bl (t.take st))) mr=some (.bl (t.take st)):=Hp.set_same;generalize h.set mr (.bl (t.take st))=J at K H;have N:f≠mr:=fresh_ne O W;have M:∀ {h2 A:Hp} {c:List UInt8} {D:List V} {X:List bo},h2 mr=some (.bl c)->ae (·=mr) h2 A->PL h0 h2 D X->PL h0 A D X:=λB p L=>L.keep λx a b F i=>p _ _ i λe=>by rw[e,B] at i;exact nomatch i
 refine n9 (aG (os:=[]) rfl tT (aP (.list (K.at O)) ?_));refine qm (h2:=h0) (v8 f mr st t) (λX x g=>(Seg (hj t w) x.p X t.length/\x.p<=t.length)/\ae (·=mr) J g/\g mr=some (.bl (t.take x.p))) (λy z X D x g hy U I R Y=>jj (I.2.1 _ _ (K.at O) N |>.trans (K.at O).symm) (aP (.tup hy) ?_)) (λx g I=>jj (I.2.1 _ _ (K.at O) N |>.trans (K.at O).symm) ?_) (x:=⟨st,none,none,none⟩) (L.keep λF F F F i=>K.at i) (aH ⟨S,T⟩ ae.refl H)
 ·obtain⟨j,e |⟨k,d,rfl,l,m,o,h4',r,G⟩⟩:=I.1.1.1
  ·have s:=I.1.1.2;subst e;rw[kc] at s;obtain⟨c,Z⟩:∃c,t[x.p]?=some c:=⟨_,f7 j⟩
   refine aT (aZ (os:=[]) rfl tT (λF=>aU ?_) λy=>absurd rfl y);refine bH (vC (os:=[]) rfl tT I.2.2 (aG (os:=[]) rfl tT ?_));have e2:(gi t x.p).2=(c.toNat:Int):=Kr Z;refine rE e2 ?_;refine vD I.2.2 (by refine rE (oZ (d9 j)) (rE dz ?_);exact iY (ah (aO j) C)) (b9 _) (aS.mpr c.toNat_lt) ?_;refine rE qi (rE (ql Z) ?_);have p2:ae (·=mr) g (g.set mr (.bl (t.take (x.p+1)))):=ae.set rfl;exact Zc (Y ⟨x.p+1,some (.int 0),some (.int c.toNat),x.tu⟩ _ (M I.2.2 p2 U) (aH ⟨s,j⟩ (I.2.1.trans p2) Hp.set_same))
  ·have s:=I.1.1.2;rw[sR l] at s;have len:(t.take x.p).length=x.p:=oZ (d9 j);refine aT (aZ (os:=[]) rfl tT (λy=>absurd (show(k:Int)=0 from y) (by lia)) λF=>aM (aR ?_));refine aT (iJ (pU (o1:=[]) (o2:=[]) (o3:=[.o (.bl (t.take x.p))]) rfl tT rfl tT rfl rfl I.2.2 rfl (λF F=>aM (aR ?_)) λy=>absurd ⟨show(1:Int)<=d by exact sU.mp m,show(d:Int)<=((t.take x.p).length:Int) by refine rE len ?_;exact bt.mpr o⟩ y));exact abh (tu:=x.tu) I.2.2 l m o r G C λA v p3 m3=>Y ⟨x.p+k,some (.int k),some (.int d),v⟩ A (M I.2.2 p3 U) (aH ⟨s,r⟩ (I.2.1.trans p3) m3)
 ·have e:x.p=t.length:=I.1.1;have B:=I.2.2;rw[e,re] at B;have P:au h g:=(K.mono λF z=>z.elim:ae (·=mr) h J).trans I.2.1 |>.less λF z=>.inr (z▸W)
  have len:(t.take st).length=st:=oZ T;refine cC (od (bI (iP (aG (os:=[]) rfl tT (aG (os:=[]) rfl tT (aG (os:=[]) rfl tT (aP B λu hu=>cu (aP Hp.set_same ?_))))))));have ec:cut t (bA t.length ((t.take st).length:Int)) t.length=cut t st t.length:=by exact rE len (rE (j7 T) rfl)
  show Q (.bytes (cut t (bA t.length ((t.take st).length:Int)) t.length)) (g.set u (.bl (cut t (bA t.length ((t.take st).length:Int)) t.length)));refine rE ec ?_;exact q _ (P.trans (ae.new hu))
end
theorem Ks(F:a<=b)(K:b<=c)(M:b<=t.length):cut t a b++cut t b c=cut t a c:=by
 unfold cut;have e:t.take c=t.take b++(t.take c).drop b:=by
  have:=(NJ b (t.take c)).symm;rwa [List.take_take,jC K] at this
 conv=>rhs;rw[e]
 rw[xz (by rw[fj];exact iX.mpr ⟨F,ah F M⟩)]
theorem abj{p:Nat}{c:UInt8}(F:t[p]?=some c):cut t p (p+1)=[c]:=by
 have K:=(qO.mp F).1;unfold cut;refine rF (ql F) (rE (xz (by rw[fj];exact iX.mpr ⟨a6 _,aO K⟩)) (rE (xB (by rw[fj];exact eG p t.length)) ?_));rfl
section
variable{n:Nat}{h h0:Hp}{Q:V->Hp->Prop}{E:Ex->Hp->Prop}{f w st a rb tot:Nat}{ts:List V}{ps:List bo}{t P:List UInt8}
theorem b8.off(W:b8 h a rb w tot P)(F:h y=some o)(K:∀b,o≠.inst .fq b)(M:∀L,o≠.bl L):¬fz a rb y:=λz =>
 W.elim λL s O R S=>z.elim (λz=>K _ (by rw[z,O] at F;exact(bq F).symm)) λz=>M _ (by rw[z,R] at F;exact(bq F).symm)
structure GPy where
 p:Nat
 tot:Nat
 a:Option V
 b:Option V
noncomputable def mPy(f a st:Nat)(t:List UInt8)(x:GPy):M:=[(.steps,some (.ref f)),(.ring,some (.ref a)),(.told,some (.bytes (cut t st x.p))),(.length,x.a),(.other,x.b)]
theorem abk(V:h f=some (.list ts))(L:PL h0 h ts ps)(S:Seg (hj t w) st ps t.length)(v:st<=t.length)(A:t.length<=90)(W:b8 h a rb w tot (bP w (t.take st)))(q:∀g,ae (fz a rb) h g->Q (.bytes (cut t st t.length)) g):runs (n+5) .yd [.ref f,.ref a] h Q E:=by
 have X:=W.pos;have M:=W.small;have c0:cut t st st=[]:=xB (by refine rE fj ?_;exact eG st t.length);have J:¬fz a rb f:=W.off V nofun nofun;refine aY (Aq (os:=[]) (w:=.bytes (cut t st st)) rfl tT (by exact rE c0 rfl) ?_);refine n9 (aG (os:=[]) rfl tT (aP (.list V) ?_));refine qm (h2:=h0) (mPy f a st t) (λB x g=>(Seg (hj t w) x.p B t.length/\st<=x.p/\x.p<=t.length)/\ae (fz a rb) h g/\b8 g a rb w x.tot (bP w (t.take x.p))) (λy z B vs x g hy L' I R N=>jj ((I.2.1 _ _ V J).trans V.symm) (aP (.tup hy) ?_)) (λx g I=>jj ((I.2.1 _ _ V J).trans V.symm) ?_) (x:=⟨st,tot,none,none⟩) L (aH (aH S (a6 _) v) ae.refl W)
 ·have F:∀ {i:Hp},ae (fz a rb) g i->PL h0 i vs B:=λp=>L'.keep λx a b K U=>p _ _ U (I.2.2.off U nofun nofun);have Y:(cut t st x.p).length<=90:=ah (by unfold cut;refine rE gR (rE fj ?_);exact xM) A;obtain⟨j,e |⟨k,d,rfl,C,l,m,O,T,D⟩⟩:=I.1.1.1
  ·have o:=I.1.1.2;subst e;rw[kc] at o;obtain⟨c,G⟩:∃c,t[x.p]?=some c:=⟨_,f7 j⟩
   have e2:(gi t x.p).2=(c.toNat:Int):=Kr G;refine rE e2 ?_;refine aT (aZ (os:=[]) rfl tT (λK=>aU ?_) λy=>absurd rfl y);refine bH (gd (os:=[]) (os2:=[]) I.2.2 rfl tT rfl (λK=>rfl) rfl tT (Bf I.2.2 λh2 s r=>?_));rw[Bc X,ql G] at r;refine bR (dk (aG (os:=[]) rfl tT (od (bI (dm (os:=[]) rfl tT λu i Z K u3=>cu (aP u3 (aP (sM (P:=[c])) (jj (show(cut t st x.p).length+1<=bB by refine rE dz ?_;exact ah (db Y) (by decide)) (cG ?_)))))))));refine rF (abj G) (rE (Ks I.1.2.1 (dc _) (aO j)) ?_);have p3:ae (fz a rb) g i:=s.trans (Z.mono λK z=>z.elim);exact aR (N ⟨x.p+1,x.tot+1,some (.int 0),some (.int c.toNat)⟩ i (F p3) (aH (aH o (ks I.1.2.1) j) (I.2.1.trans p3) (r.keep Z id id)))
  ·have o:=I.1.1.2;rw[sR C] at o;have ct:=Kb X l O m T D (a6 k);have ll:(bP w (t.take x.p)).length=min w x.p:=by exact rE Bb (rE (oZ (d9 j)) rfl)
   refine aT (aZ (os:=[]) rfl tT (λy=>absurd (show(k:Int)=0 from y) (by lia)) λK=>aM ?_);refine bR (dk (aG (os:=[]) rfl tT (gd (os:=[]) (os2:=[]) I.2.2 rfl tT rfl (λK=>rfl) rfl tT (Bj I.2.2 (by exact aV (ah O M) (by decide)) (by exact aV (ah (ah (gN k _) T) A) (by decide)) (λK K h2 s r=>?_) λy=>absurd ⟨l,by refine rE ll ?_;exact Nat.le_min_of_le_of_le O m⟩ y))));rw[ct] at r ⊢;have H:(cut t x.p (x.p+k)).length<=90:=ah (by unfold cut;refine rE gR (rE fj ?_);exact xM) A;refine jj (show(cut t st x.p).length+(cut t x.p (x.p+k)).length<=bB by refine rE dz ?_;exact ah (jx Y H) (by decide)) (cG ?_);refine rE (Ks I.1.2.1 (cP _ _) (aO j)) ?_;exact aR (N ⟨x.p+k,x.tot+k,some (.int k),some (.int d)⟩ h2 (F s) (aH (aH o (ah I.1.2.1 (cP _ _)) T) (I.2.1.trans s) r))
 ·have e:x.p=t.length:=I.1.1;refine cH (os:=[]) rfl tT ?_;refine rE e ?_;exact q g I.2.1
end
noncomputable def Ku:List S :=
  [.assign .due (.aD .ph [(.aa .text),(.aa .am),(.aa .shape)]),.expr (.ay (.aa .taken) .append [(.ite (.cmp (.aa .due) .ne (.list [])) (.sub (.aa .due) (.neg (.int 1))) (.tup [(.int 0),(.sub (.aa .text) (.aa .am))]))]),.assign .am (.bin .add (.aa .am) (.aB .max [(.int 1),(.sub (.sub (.aa .taken) (.neg (.int 1))) (.int 0))]))]
section
variable{n:Nat}{h h0:Hp}{s w mo st sh tk:Nat}{t:List UInt8}
theorem abl(e:bQ t s w mo p=[]):eW t s w mo p=gi t p:=by unfold eW;refine rE e ?_;rfl
theorem abm(e:bQ t s w mo p≠[]):eW t s w mo p=g7 (bQ t s w mo p):=by
 unfold eW g7;refine rE (List.getLast?_eq_some_getLast e) ?_;rfl
theorem abn{p:Nat}(F:2<=s)(M:p<t.length):(p:Int)+max 1 (eW t s w mo p).1=((p+sz (eW t s w mo p):Nat):Int)/\0<sz (eW t s w mo p)/\p+sz (eW t s w mo p)<=t.length:=by
 have f:hj t w p (eW t s w mo p):=by
  have:=mF (t:=t) (st:=0) (w:=w) (mo:=mo) (a:=p) F (mK M) (J' (d9 F));rwa [o0] at this
 have z:=f.sz;refine(aH ?_ z.1 z.2);obtain⟨_,e |⟨k,d,e,K,_⟩⟩:=f
 ·refine rE e (rE kc ?_);show(p:Int)+max 1 0=_;lia
 ·refine rE e (rE (sR K) ?_);show(p:Int)+max 1 (k:Int)=_;exact OW K
theorem abo(h:¬p<t.length):mG t s w mo f p=[]:=by
 induction f with
 |zero=>rfl
 |succ f=>exact if_neg h
structure GGr where
 p:Nat
 f:Nat
 ps:List bo
 du:Option V
structure iR where
 t:List UInt8
 st:Nat
 sh:Nat
 pr:Nat
 s:Nat
 w:Nat
 mo:Nat
 y:Nat
 a:Option V
noncomputable def iR.m(x:iR)(tk F K O:Option V):M:=[(.text,some (.bytes x.t)),(.start,some (.int x.st)),(.shape,some (.ref x.sh)),(.cm,some (.ref x.pr)),(.shortest,some (.int x.s)),(.bX,some (.int x.w)),(.most,some (.int x.mo)),(.chain,some (.int ((x.t.length+1:Nat):Int))),(.steps,some (.ref x.y)),(.ring,x.a),(.taken,tk),(.am,F),(.due,K),(.cost,O)]
theorem abp{x:iR}{r:List S}{Q:Fl->Hp->M->Prop}{E:PE}(U:h tk=some (.list []))(d:h x.sh=some (.list [.int x.s,.int x.w,.int x.mo]))(n0:h0 tk=none)(e0:au h0 h)(Y:2<=x.s)(p:x.st<=x.t.length)(Z:x.t.length<=100)
  (q:∀c b du,ae (·=tk) h c->c tk=some (.list b)->PL h0 c b (mG x.t x.s x.w x.mo x.t.length x.st)->aE look ac (runs (n+2)) [] r c (x.m (some (.ref tk)) (some (.int x.t.length)) du none) Q E) :
  aE look ac (runs (n+2)) [] (.while (.cmp (.aa .am) .lt (.aB .len [(.aa .text)])) Ku::r) h (x.m (some (.ref tk)) (some (.int x.st)) none none) Q E:=by
 obtain⟨t,st,sh,pr,s,w,mo,y,a⟩:=x;have s1:1<=s:=d9 Y;have d:h sh=some (.list [.int s,.int w,.int mo]):=d;have A:sh≠tk:=λe=>by rw[e,U] at d;exact nomatch d
 refine mw (λx:GGr=>(⟨t,st,sh,pr,s,w,mo,y,a⟩:iR).m (some (.ref tk)) (some (.int x.p)) x.du none) (λx=>t.length - x.p) (λx c=>(x.p<=t.length/\t.length<=x.p+x.f)/\ae (·=tk) h c/\(∃b,c tk=some (.list b)/\PL h0 c b x.ps/\b.length<=x.p)/\x.ps++mG t s w mo x.f x.p=mG t s w mo t.length st) ⟨st,t.length,[],none⟩ (dE ⟨p,gN _ _⟩ ae.refl (bG [] U .nil (ca _)) rfl) λx c I R hR=>?_;obtain⟨⟨ip,jf⟩,i,⟨b,j,B,t3⟩,T⟩:=I;refine aZ (os:=[]) rfl tT (λz=>aU ?_) λz=>aM ?_
 ·have k:x.p<t.length:=aS.mp z;obtain⟨f,hf⟩:∃f,x.f=f+1:=⟨x.f - 1,by exact OE jf z⟩
  rw[hf] at T;have T:x.ps++(if x.p<t.length then eW t s w mo x.p::mG t s w mo f (x.p+sz (eW t s w mo x.p)) else [])=_:=T;rw[if_pos k] at T;have W:=abn (t:=t) (w:=w) (mo:=mo) Y k;generalize sz (eW t s w mo x.p)=l at W T;have C:=i _ _ d A;have E0:∀ {u:Nat},c u=none->h0 u=none:=λhu=>eh e0 (back i (λz=>by refine rE z (rE j ?_);nofun) hu);refine bR (b7 (os:=[]) rfl tT (vY (n:=n) C s1 k Z λf1 h2 m L2=>cG ?_));have key:∀(F:Hp) (u:Nat),au c F->h0 u=none->F u=some (gG (eW t s w mo x.p))->(i8 (.iB tk) [.ref u]).run F λv D=>kX (runs (n+2)) [] [.assign .am (.bin .add (.aa .am) (.aB .max [(.int 1),(.sub (.sub (.aa .taken) (.neg (.int 1))) (.int 0))]))] (lq (sq (runs (n+2)) [] r Q E) R) (λX X X=>False) v D ((⟨t,st,sh,pr,s,w,mo,y,a⟩:iR).m (some (.ref tk)) (some (.int x.p)) (some (.ref f1)) none):=λF u K G u3=>by
   have k3:=K.at j;refine sw k3 (by refine rE dz ?_;exact iY (ah t3 (ah (aO (aS.mp z)) Z))) ?_;have H:ae (·=tk) F (F.set tk (.list (b++[.ref u]))):=ae.set rfl;have t4:(F.set tk (.list (b++[.ref u]))) tk=some (.list (b++[.ref u])):=Hp.set_same;have nt:∀ {z:Nat} {vs:List V},F z=some (.tup vs)->z≠tk:=λg e=>by rw[e,k3] at g;exact nomatch g
   have o:=H _ _ u3 (nt u3);refine ms (os:=[Ht.o (O.list (b++[V.ref u])),Ht.g (V.ref u),Ht.o (gG (eW t s w mo x.p)),Ht.g (V.int (eW t s w mo x.p).1)]) rfl (jj (jj (jj t4 sy) o) rfl) W.1 ?_;exact hR ⟨x.p+l,f,x.ps++[eW t s w mo x.p],some (.ref f1)⟩ _ (by show t.length - (x.p+l)<t.length - x.p;exact Ot W.2.1 W.2.2) (dE ⟨W.2.2,by show t.length<=x.p+l+f;exact En jf hf W.2.1⟩ ((i.trans (K.mono λX z=>z.elim)).trans H) (bG _ t4 ((B.keep λz X X X g=>H _ _ (K.at g) (nt (K.at g))).push G o) (by refine rE cA ?_;show b.length+1<=x.p+l;exact jx t3 W.2.1)) (by rw[gS];exact T))
  refine bH (sv (os:=[]) rfl tT (m.at j) (oa (cM (dO (aG (os:=[]) rfl tT (dm (os:=[]) rfl tT λy9 F K X J=>(L2.ext K).elim λvs L v2=>neT L v2 J (PL.nil (h0:=h)) (λe=>aM ?_) λe=>aU ?_))))))
  ·refine lf (os:=[gB t x.p]) rfl (jr k) λu D e4 G o=>key D u ((m.trans K).trans e4) (E0 (eh (m.trans K) G)) ?_;refine rE (abl e) ?_;exact o
  ·refine v2.last.elim (λw=>absurd w.2 e) λw=>w.elim λN w=>w.elim λP w=>?_;rw[w.1] at L;refine aG (os:=[Ht.o (O.list (N++[V.ref P])),Ht.g (V.ref P)]) rfl (jj L sy) (key F P (m.trans K) (E0 w.2.1) ?_);refine rE (abm e) ?_;exact w.2.2
 ·have z:¬x.p<t.length:=λy=>z (aS.mpr y);rw[abo z,fk] at T;have ep:x.p=t.length:=fi ip (c6 z);refine rE ep ?_;rw[T] at B;exact q c b x.du i j B
noncomputable def qn(t:List UInt8)(st:Nat):List bo:=(cut t st t.length).map λc=>((0:Int),(c.toNat:Int))
theorem abq(K:st<=t.length):Seg (Off (t.length - st) (fA t st s w mo)) 0 (qn t st) (t.length - st):=by
 have e:qn t st=(NO 0 (t.length - st)).map λi=>gi t (st+i):=by
  refine List.ext_getElem? λi=>?_
  unfold qn cut;rw[re,oQ,oQ,xt];by_cases a:i<t.length - st
  ·refine rE (List.getElem?_range' a) ?_;have F:st+i<t.length:=by exact mK a
   refine rE (f7 F) ?_;show some ((0:Int),(t[st+i].toNat:Int))=some (gi t (st+(0+1*i)));unfold gi;rw[show st+(0+1*i)=st+i by lia,nY (f7 F)];exact congrArg (λz=>some ((0:Int),z)) (by lia)
  ·refine rE (qP (by exact BH.mp (c6 a))) (rE (qP (by rw[List.length_range'];exact c6 a)) ?_);rfl
 refine rE e ?_;exact J9 (o0 _)
theorem abr(l:vE c m e os=some (.bytes b,[],d))(o:bd h d)(p:b.length<=100)
  (q:∀y g a,au h a->a y=some (.list g)->PL h a g (b.map λc=>((0:Int),(c.toNat:Int)))->P (.ref y) a m):ev look ac C c (.comp (.tup [(.int 0),(.aa .bM)]) .bM e (.bool true)) h m P E:=by
 refine IU l o (.bytes b) (sx (λi a K=>∃T M,T++M=b/\i=M.map aK/\au h a/\PL h a K (T.map λc=>((0:Int),(c.toNat:Int)))) (λa K I=>?_) (λv i a K I R r=>?_) (fo [] b rfl rfl ae.refl .nil))
 ·refine eb I λT M V S W L=>?_;have X:M=[]:=Ln.mp S.symm;rw[X,fk] at V;rw[V] at L;exact jj tT λy j=>q y K _ (W.trans (ae.new j)) Hp.set_same (L.keep λO O O O f=>(ae.new (F:=λO=>False) j).at f)
 ·refine eb I λT M V S W L=>?_;induction M with
  |nil=>exact mI S
  |cons c M =>
   injection S with S X;refine rE S ?_;refine jj tT (lf (os:=[]) rfl tT λu x k z A=>jj (by have:=L.length;rw[dq] at this;refine rE this (rE dz ?_);have:=congrArg List.length V;rw[cA] at this;exact iY (ah (cP _ _) (this▸p))) (r x (K++[.ref u]) (fo (T++[c]) M (by rw[gS];exact V) X (W.trans k) ?_)));refine rE no ?_;exact(L.keep λO O O O f=>k.at f).push (eh W z) A
end
theorem Kv{i j:Int}{T:Bool->Prop}(e:i<=j)(q:T true):fO .le h (.int i) (.int j) λr=>cD (.bool r) T:=by
 show T (decide (i<=j));refine rE (decide_eq_true e) ?_;exact q
noncomputable def Kw:List S:=[.unpack [.taken,.am] (.tup [(.list []),(.aa .start)]),.while (.cmp (.aa .am) .lt (.aB .len [(.aa .text)])) Ku,.assign .cost (.aD .nA [(.aa .steps),(.aa .cm)]),.ret (.and (.cmp (.aa .cost) .le (.aD .nA [(.comp (.tup [(.int 0),(.aa .bM)]) .bM (.slice (.aa .text) (.aa .start) .absent) (.bool true)),(.aa .cm)])) (.cmp (.aa .cost) .le (.aD .nA [(.aa .taken),(.aa .cm)])))]
section
variable{n:Nat}{h h0:Hp}{l m b:Nat}{x:iR}{ts:List V}{Q:V->Hp->Prop}{E:Ex->Hp->Prop}
theorem abt{st:Nat}:∀x∈qn t st,oz x:=λx K=>by
 unfold qn at K;refine ak (eo.mp K) λc M F=>?_;refine rF F ?_;have:=c.toNat_lt;exact .inl (aH rfl (b9 _) (show(c.toNat:Int)<=255 by exact jK (dA this)))
theorem Kx{st s w F:Nat}{l:List bo}{p q:Nat}(K:2<=s)(M:st<=t.length)(O:t.length<=100)(S:Seg (Off (t.length - st) (fA t st s w F)) p l q):∀x∈l,oz x :=
 Seg.all (λp x v=>hj.ok (w:=w) O (mF K (by have:=v.1;exact mK this) v.2)) S
theorem abu(B:h x.y=some (.list ts))(L:PL h0 h ts (oy x.t x.st x.s x.w x.mo (bW l m b)))(C:h x.sh=some (.list [.int x.s,.int x.w,.int x.mo]))(V:h x.pr=some (gf l m b))(W:b<100)(O:2<=x.s)(F:x.st<=x.t.length)(hN:x.t.length<=90)(q:∀i,au h i->Q (.bool true) i):
  aE look ac (runs (n+3)) [] Kw h (x.m none none none none) (fQ Q) (fE E):=by
 refine(J8 (t:=x.t) (st:=x.st) (w:=x.w) (mo:=x.mo) (pc:=bW l m b) O).elim λD j=>?_;have G:=Kc (t:=x.t) (st:=x.st) (w:=x.w) (mo:=x.mo) O (f:=x.t.length) (a:=0) F (by exact ah (fh _ _) (gN _ _));have LS:=abq (t:=x.t) (st:=x.st) (s:=x.s) (w:=x.w) (mo:=x.mo) F;rw[tU] at G;have K:x.t.length<=100:=by lia
 refine jq (bI (dm (os:=[]) rfl tT λH h1 I R X=>d5 (os:=[]) rfl tT (cu (iI λJ k=>?_))));have c:=I.trans k;refine abp (n:=n+1) (x:=x) (h0:=h) (k.at X) (c.at C) R c O F K λN us du P d e=>?_;have T:au h N:=(c.mono λM z=>z.elim:ae (·=H) h J).trans P |>.less λM z=>.inr (z▸R)
 refine bR (b7 (os:=[]) rfl tT (Bw (T.at B) (L.keep λM M M M g=>T.at g) (Kx O F K D) (T.at V) W λh4 o=>cG ?_));have U:=T.trans o;refine cC (vz (cM (dO (aG (os:=[]) rfl tT (ou (bI (abr (os:=[]) rfl tT (ah (by unfold cut;refine rE gR (rE fj ?_);exact Oq) K) λy ls h5 p Y r=>n8 (os:=[]) rfl tT ?_)))))));have u:=U.trans p;rw[j7 F] at r;refine Bw (ps:=qn x.t x.st) Y r abt (u.at V) W λh6 v=>Kv (j _ LS) (aU (cM (dO (aG (os:=[]) rfl tT (b7 (os:=[]) rfl tT ?_)))));have A:=u.trans v;have S:=(o.trans p).trans v;exact Bw (S.at d) (e.keep λM M M M g=>S.at g) (Kx O F K G) (A.at V) W λZ e7=>Kv (j _ G) (q Z (A.trans e7))
end
noncomputable def Bx:List S:=.assign .ring (.bN .fq [(.aa .bX)]) ::
 .expr (.ay (.aa .ring) .feed [(.slice (.aa .text) .absent (.aa .start))]) ::
 .ite (.or (.cmp (.aD .yd [(.aa .steps),(.aa .ring)]) .ne (.slice (.aa .text) (.aa .start) .absent)) (.cmp (.aD .x8 [(.aa .steps),(.slice (.aa .text) .absent (.aa .start))]) .ne (.slice (.aa .text) (.aa .start) .absent)))
  [.ret (.bool false)]
  []::Kw
section
variable{n:Nat}{h h0:Hp}{l m b:Nat}{x:iR}{ts:List V}{Q:V->Hp->Prop}{E:Ex->Hp->Prop}
theorem Ky{st:Nat}(F:st<=t.length):cut t 0 (bA t.length st)=t.take st:=by refine rE (j7 F) ?_;rfl
theorem abv(T:h x.y=some (.list ts))(L:PL h0 h ts (oy x.t x.st x.s x.w x.mo (bW l m b)))(r:h x.sh=some (.list [.int x.s,.int x.w,.int x.mo]))(u:h x.pr=some (gf l m b))(v:b<100)(g:2<=x.s)(A:1<=x.w)(B:x.w<=50)(K:x.st<=x.t.length)(i:x.t.length<=90)(e:x.a=none)(q:∀j,au h j->Q (.bool true) j):
  aE look ac (runs (n+5)) [] Bx h (x.m none none none none) (fQ Q) (fE E):=by
 have V:x.t.length<=100:=by lia
 have S:=aaR (t:=x.t) (st:=x.st) (w:=x.w) (mo:=x.mo) (pc:=bW l m b) g K;have k:cut x.t x.st x.t.length=cut x.t (bA x.t.length x.st) x.t.length:=by exact rE (j7 K) rfl
 refine bR (JZ (n:=n+3) A B (os:=[]) rfl tT λa W C D o M p=>?_);obtain⟨t,st,G,H,s,w,mo,y,I⟩:=x;have e:I=none:=e;refine rE e ?_;refine cG (bH (JY (os:=[]) (os2:=[]) (ws:=[.bytes (t.take st)]) p rfl tT rfl (λF=>rfl) rfl tT (by exact rF (Ky K) rfl) (JN (n:=n+3) p λX J c=>?_)));have d:au h X:=(D.mono λF z=>z.elim:ae (fz a W) h C).trans J |>.less λF z=>.inr (z.elim (λz=>z▸o) λz=>z▸M)
 have c:b8 X a W w (0+(t.take st).length) (bP w (t.take st)):=c;refine aT (ie (cM (dO (b7 (os:=[]) rfl tT (abk (d.at T) (L.keep λF F F F O=>d.at O) S K i c λN P=>aG (os:=[]) rfl tT (sN k (aM (cM (dO ?_)))))))));have f:au h N:=(d.mono λF z=>z.elim:ae (fz a W) h X).trans P |>.less λF z=>.inr (z.elim (λz=>z▸o) λz=>z▸M)
 refine qj (os:=[]) (ws:=[.ref y,.bytes (t.take st)]) rfl tT (by exact rF (Ky K) rfl) (abi (n:=n+3) (f.at T) (L.keep λF F F F O=>f.at O) S K V λh4 U=>aG (os:=[]) rfl tT (sN k (fg (aR ?_))));have R:=f.trans U;exact abu (n:=n+2) (x:=⟨t,st,G,H,s,w,mo,y,some (.ref a)⟩) (R.at T) (L.keep λF F F F O=>R.at O) (R.at r) (R.at u) v g K i λY Z=>q Y (R.trans Z)
theorem abw{s w ch:Nat}(F:1<=s)(M:1<=w)(O:1<=ch)(R:t.length<=100)(q:∀a r d b g f e c,au h c->ej c a r d b g f e t s w ch 0 0 (λK=>-1) (λK=>-1)->(∀x,fV a r g f e x->h x=none)->Q (.ref a) c):runs (n+3) .i4 [.str "tree",.bytes t,.int s,.int w,.int ch] h Q E :=
 aY (aT (aZ (os:=[]) rfl tT (λz=>absurd z (by decide)) λK=>aM (aR (aT (aZ (os:=[]) rfl tT (λK=>aU (cC (vU F M O R (os:=[]) rfl tT q))) λz=>absurd rfl z)))))
theorem abx{x y z:Nm}{u v w:V}{m:M}{K:Hp->M->Prop}(q:K h (bu (bu (bu m x u) y v) z w)):storeAll [] [x,y,z] [u,v,w] h m K:=q
theorem By{F:Nat->Prop}{K:Hp}{M:Nat}(R:∀x,F x->K x=none)(O:K M=some (gf l m b)):¬F M:=λz=>by rw[R _ z] at O;exact aN O
noncomputable def iR.m0(x:iR)(F:Option V):M:=[(.text,some (.bytes x.t)),(.start,some (.int x.st)),(.shape,some (.ref x.sh)),(.cm,some (.ref x.pr)),(.shortest,some (.int x.s)),(.bX,some (.int x.w)),(.most,some (.int x.mo)),(.chain,some (.int ((x.t.length+1:Nat):Int))),(.steps,F),(.ring,none),(.taken,none),(.am,none),(.due,none),(.cost,none)]
theorem Bz{E:PE}(q:ev look ac C [] c h (x.m0 a) (λv h m=>cY look ac C [] [.aa .most,.aa .cm] h m (λvs h m=>C .least (.bytes x.t::.int x.st::v::vs) h (cQ P m) (cE E m)) E) E):
  ev look ac C [] (.aD .least [.aa .text,.aa .start,c,.aa .most,.aa .cm]) h (x.m0 a) P E:=ou (d5 (os:=[]) rfl tT (d5 (os:=[]) rfl tT (bI q)))
theorem BA{E:PE}(q:C .least [.bytes x.t,.int x.st,.ref c,.int x.mo,.ref x.pr] h (λv h=>P v h (x.m0 a)) λy h=>E y h (x.m0 a)):
  cY look ac C [] [.aa .most,.aa .cm] h (x.m0 a) (λF h m=>C .least (.bytes x.t::.int x.st::.ref c::F) h (cQ P m) (cE E m)) E:=n8 (os:=[]) rfl tT q
structure g'(x:iR)(l m b:Nat)(h:Hp):Prop where
 hs:h x.sh=some (.list [.int x.s,.int x.w,.int x.mo])
 hp:h x.pr=some (gf l m b)
 hb:b<100
 s2:2<=x.s
 s4:x.s<=4
 w1:1<=x.w
 w2:x.w<=50
 mo:3<=x.mo
 st:x.st<=x.t.length
 N:x.t.length<=90
theorem g'.ext(K:g' x l m b h)(e:au h a):g' x l m b a:=⟨e.at K.hs,e.at K.hp,K.hb,K.s2,K.s4,K.w1,K.w2,K.mo,K.st,K.N⟩
theorem g'.N'(K:g' x l m b h):x.t.length<=100:=ah K.N (by decide)
theorem g'.s1(K:g' x l m b h):1<=x.s:=d9 K.s2
def Told(x:iR)(l m b:Nat)(h:Hp)(y:Nat):Prop:=∃h0 ts,h y=some (.list ts)/\PL h0 h ts (oy x.t x.st x.s x.w x.mo (bW l m b))
theorem Told.ext(T:Told x l m b h y)(e:au h c):Told x l m b c y:=let ⟨h0,ts,a,L⟩:=T;⟨h0,ts,e.at a,L.keep λF F F F K=>e.at K⟩
theorem Told.ne{T:Bool->Prop}{y z:Nat}(A:Told x l m b h y)(B:Told x l m b h z)(q:T false):fO .ne h (.ref y) (.ref z) λr=>cD (.bool r) T :=
 let ⟨_,_,a,L⟩:=A;let ⟨_,_,a2,c⟩:=B;neT a L a2 c (λF=>q) λz=>absurd rfl z
theorem aby{P:PV}{E:PE}(K:g' x l m b h)(q:∀y c,au h c->Told x l m b c y->P (.ref y) c (x.m0 stp)):
  ev look ac (runs (n+11)) [] (.aD .least [.aa .text,.aa .start,.bN .fL [(.aa .text),(.aa .shortest),(.aa .bX),(.aa .chain)],.aa .most,.aa .cm]) h (x.m0 stp) P E:=by
 refine Bz (vN (n:=n+9) (w:=x.w) (ch:=x.t.length+1) K.s1 K.w1 (hK _) K.N' (os:=[]) rfl tT λa r d S T F M O=>BA ?_);have R:∀p,p<x.t.length->Rl (bD x.t x.mo p) p (eD x.t x.s x.w (x.t.length+1) p p) (x.s - 1)=bQ x.t x.s x.w x.mo p:=λp V=>Je K.s1 (a6 _) (by exact ks (aO V));exact Bv (n:=n+7) (AL (n:=n+4) K.s1 K.s4 K.N' R) (AL (n:=n+5) K.s1 K.s4 K.N' R) M M.x (.field rfl rfl) K.s2 (F.at K.hp) (By (l:=l) O K.hp) K.st K.N' K.hb λy ts W X e L=>q y W ((F.mono λf z=>z.elim:ae (ka a r d S) h T).trans X |>.less λz k=>.inr (O z k)) (de _ _ e L)
theorem abz{P:PV}{E:PE}(K:g' x l m b h)(q:∀y c,au h c->Told x l m b c y->P (.ref y) c (x.m0 e)):
  ev look ac (runs (n+11)) [] (.aD .least [.aa .text,.aa .start,.aD .i4 [(.str "tree"),(.aa .text),(.aa .shortest),(.aa .bX),(.aa .chain)],.aa .most,.aa .cm]) h (x.m0 e) P E:=by
 refine Bz (b7 (os:=[]) (vs:=[.str "tree",.bytes x.t,.int x.s,.int x.w,.int ((x.t.length+1:Nat):Int)]) rfl tT (abw (n:=n+8) (ch:=x.t.length+1) K.s1 K.w1 (hK _) K.N' λa r d f g R S T F M O=>BA ?_));exact Bv (n:=n+7) (AX (n:=n+3) K.s1 K.s4 K.N' (dc _)) (AX (n:=n+4) K.s1 K.s4 K.N' (dc _)) M.s0 M.x (.field rfl rfl) K.s2 (F.at K.hp) (By (l:=l) O K.hp) K.st K.N' K.hb λy ts V W X L=>q y V ((F.mono λi z=>z.elim:ae (fV a r g R S) h T).trans W |>.less λz k=>.inr (O z k)) (de _ _ X L)
theorem abA{P:PV}{E:PE}(K:g' x l m b h)(z:x.s=2)(q:∀y a,au h a->Told x l m b a y->P (.ref y) a (x.m0 c)):
  ev look ac (runs (n+11)) [] (.aD .least [.aa .text,.aa .start,.bN .dQ [(.aa .text),(.aa .bX),(.aa .chain)],.aa .most,.aa .cm]) h (x.m0 c) P E:=by
 refine Bz (A4 (n:=n+7) (w:=x.w) (ch:=x.t.length+1) K.w1 (hK _) K.N' (os:=[]) rfl tT λA S F M T O R=>BA ?_);exact Bv (n:=n+7) (A3 (n:=n+1) O K.N' (dc _) K.mo) (A3 (n:=n+2) O K.N' (dc _) K.mo) ⟨M,T⟩ M.x (.field rfl rfl) (a6 2) (F.at K.hp) (By (l:=l) R K.hp) K.st K.N' K.hb λy ts V W X L=>q y V ((F.mono λd z=>z.elim:ae A.F h S).trans W |>.less λz k=>.inr (R z k)) (de _ _ X (by refine rE z ?_;exact L))
end
noncomputable def Kz:List S:=.ite (.and (.cmp (.aa .shortest) .eq (.int 2)) (.cmp (.aD .least [(.aa .text),(.aa .start),(.bN .dQ [(.aa .text),(.aa .bX),(.aa .chain)]),(.aa .most),(.aa .cm)]) .ne (.aa .steps)))
  [.ret (.bool false)]
  []::Bx
noncomputable def abB:List S:=.ite (.cmp (.aD .least [(.aa .text),(.aa .start),(.aD .i4 [(.str "tree"),(.aa .text),(.aa .shortest),(.aa .bX),(.aa .chain)]),(.aa .most),(.aa .cm)]) .ne (.aa .steps))
  [.ret (.bool false)]
  []::Kz
section
variable{n:Nat}{h h0:Hp}{l m b y:Nat}{x:iR}{ts:List V}{Q:V->Hp->Prop}{E:Ex->Hp->Prop}
theorem KA(K:g' x l m b h)(T:Told x l m b h y)(q:∀a,au h a->Q (.bool true) a):aE look ac (runs (n+11)) [] Bx h (x.m0 (some (.ref y))) (fQ Q) (fE E) :=
 let ⟨_,_,c,L⟩:=T
 abv (n:=n+6) (x:=⟨x.t,x.st,x.sh,x.pr,x.s,x.w,x.mo,y,none⟩) c L K.hs K.hp K.hb K.s2 K.w1 K.w2 K.st K.N rfl q
theorem abC(K:g' x l m b h)(T:Told x l m b h y)(q:∀a,au h a->Q (.bool true) a):aE look ac (runs (n+11)) [] Kz h (x.m0 (some (.ref y))) (fQ Q) (fE E):=by
 refine aT (fU (aZ (os:=[]) rfl tT (λz=>aU (cM (dO ?_))) λS=>aM (aM (aR (KA K T q)))));exact abA K (lM.mp z) λV W F M=>aG (os:=[]) rfl tT (M.ne (T.ext F) (fg (aR (KA (K.ext F) (T.ext F) λO R=>q O (F.trans R)))))
theorem abD(K:g' x l m b h)(T:Told x l m b h y)(q:∀a,au h a->Q (.bool true) a):aE look ac (runs (n+11)) [] abB h (x.m0 (some (.ref y))) (fQ Q) (fE E) :=
 aT (cM (dO (abz K λS V F M=>aG (os:=[]) rfl tT (M.ne (T.ext F) (fg (aR (abC (K.ext F) (T.ext F) λO R=>q O (F.trans R))))))))
theorem abE(K:g' x l m b h)(q:∀a,au h a->Q (.bool true) a):runs (n+12) .rJ [.bytes x.t,.int x.st,.ref x.sh,.ref x.pr] h Q E :=
 aY (IS (os:=[]) rfl tT (.list K.hs) (abx (ms (os:=[]) (j:=((x.t.length+1:Nat):Int)) rfl tT rfl (bR (aby (stp:=none) K λy S F M=>cG (abD (K.ext F) M λO R=>q O (F.trans R)))))))
end
theorem abF{d:Nat}(h:(d:Int)<4):∃w:Nat,dr [V.int 0,V.int 0,V.int 1,V.int 2] (d:Int)=some (.int w)/\w<100:=by
 obtain rfl |rfl |rfl |rfl:d=0\/d=1\/d=2\/d=3:=by exact Ev (aS.mp h)
 ·exact(aq 0 rfl (by decide))
 ·exact(aq 0 rfl (by decide))
 ·exact(aq 1 rfl (by decide))
 ·exact(aq 2 rfl (by decide))
section
variable{C:bU}{c:Cs}{h:Hp}{m:M}{E:PE}
theorem abG(F:look b .init=.aX f)
  (q:cY look ac C c d h m (λK h m=>∀a,h a=none->C f (.ref a::K) (h.set a (.inst b m0)) (λv h=>v=.none/\P (.ref a) h m) λx h=>E x h m) E):ev look ac C c (.bN b d) h m P E:=by
 show methP (look b .init) _;refine rE F ?_;exact q
end
structure qo where
 ap:Nat
 b:Nat
 t:List UInt8
 sh:Nat
 st:Nat
 s:Nat
 w:Nat
 mo:Nat
noncomputable def qo.m(x:qo)(F K:Option V):M:=[(.script,some (.ref x.ap)),(.box,some (.ref x.b)),(.text,some (.bytes x.t)),(.shape,some (.ref x.sh)),(.start,some (.int x.st)),(.chain,some (.int ((x.t.length+1:Nat):Int))),(.narrow,F),(.cm,K)]
structure en(x:qo)(x3:Int)(h0:Hp)(k:Nat)(h:Hp):Prop where
 bx:ck h x.b k x3
 hs:h x.sh=some (.list [.int x.s,.int x.w,.int x.mo])
 kp:au h0 h
 nb:h0 x.b=none
 s2:2<=x.s
 s4:x.s<=4
 w1:1<=x.w
 w2:x.w<=50
 mo:3<=x.mo
 st:x.st<=x.t.length
 t1:1<=x.t.length
 N:x.t.length<=14
 x3:x3=4\/x3=14
section
variable{n:Nat}{h h0 h':Hp}{l m b k k' pr:Nat}{x3:Int}{x:qo}{Q:V->Hp->Prop}{E:Ex->Hp->Prop}
theorem en.N'(K:en x x3 h0 k h):x.t.length<=100:=ah K.N (by decide)
theorem en.s1(K:en x x3 h0 k h):1<=x.s:=d9 K.s2
theorem en.sb(K:en x x3 h0 k h):x.sh≠x.b:=λe=>K.bx.at.elim λl F=>by
 have:=K.hs;rw[e,F.1] at this;cases this;exact absurd F.2 (show(3:Nat)≠4 by decide)
theorem en.step(K:en x x3 h0 k h)(p:ae F h h')(M:∀y,F y->h0 y=none)(O:¬F x.sh)(B:ck h' x.b k' x3):en x x3 h0 k' h' :=
 ⟨B,p _ _ K.hs O,(K.kp.mono λR z=>z.elim:ae F h0 h).trans p |>.less λy z=>.inr (M y z),K.nb,K.s2,K.s4,K.w1,K.w2,K.mo,K.st,K.t1,K.N,K.x3⟩
theorem en.ext(K:en x x3 h0 k h)(e:au h h'):en x x3 h0 k h':=K.step e (λF z=>z.elim) id (K.bx.keep e id)
theorem en.draw(K:en x x3 h0 k h)(p:ae (·=x.b) h h')(B:ck h' x.b k' x3):en x x3 h0 k' h':=K.step p (λy z=>z▸K.nb) K.sb B
theorem abH(K:en x x3 h0 k h)(M:k<=800)(O:h pr=some (gf l m b))(R:b<100){S:Option V}(q:∀h',au h0 h'->Q (.bool true) h'):
  aE look ac (runs (n+12)) [] [.ret (.and (.aD .rJ [(.aa .text),(.aa .start),(.aa .shape),(.aa .cm)]) (.aD .rK [(.aa .box)]))] h (x.m S (some (.ref pr))) (fQ Q) (fE E):=by
 refine cC (vz (cM (b7 (os:=[]) rfl tT (abE (x:=⟨x.t,x.st,x.sh,pr,x.s,x.w,x.mo,0,none⟩) (l:=l) (m:=m) (b:=b) ⟨K.hs,O,R,K.s2,K.s4,K.w1,K.w2,K.mo,K.st,ah K.N (by decide)⟩ λT W=>pV (cM (b7 (os:=[]) rfl tT ?_))))));have F:=K.ext W;exact aay (n:=n+6) F.bx M F.x3 λX a=>q X ((F.kp.mono λc z=>z.elim:ae (·=x.b) h0 T).trans a |>.less λy z=>.inr (z▸F.nb))
theorem abI(K:en x x3 h0 k h)(F:k<=700){X:Option V}(q:∀h',au h0 h'->Q (.bool true) h'):
  aE look ac (runs (n+12)) [] [.assign .cm (.bN .i3 [(.bin .add (.int 1) (.aD .bT [(.aa .box),(.int 9)])),(.bin .add (.int 1) (.aD .bT [(.aa .box),(.int 30)])),(.sub (.list [(.int 0),(.int 0),(.int 1),(.int 2)]) (.aD .bT [(.aa .box),(.int 4)]))]),.ret (.and (.aD .rJ [(.aa .text),(.aa .start),(.aa .shape),(.aa .cm)]) (.aD .rK [(.aa .box)]))] h (x.m X none) (fQ Q) (fE E):=by
 refine bR (abG rfl (bI (dk (aG (os:=[]) rfl tT (b7 (os:=[]) rfl tT (gF K.bx (by exact ah F (by decide)) (by decide) (by decide) λc D G p1 R=>sO (k:=((1+c:Nat):Int)) rfl ?_))))));have d:=K.draw p1 R;refine bI (dk (aG (os:=[]) rfl tT (b7 (os:=[]) rfl tT (gF R (by exact ah (db F) (by decide)) (by decide) (by decide) λe H I f O=>sO (k:=((1+e:Nat):Int)) rfl ?_))));have g:=d.draw f O;refine bI (iL (dm (os:=[]) rfl tT λy J S i j=>b7 (os:=[]) rfl tT (gF (O.keep S id) (by exact ah (dS F 2) (by decide)) (by decide) (by decide) λL M o T p=>?_)));have r:=(g.ext S).draw T p;refine ak (abF o) λb s t=>?_;refine aP (T _ _ j (O.ne i)) (aP s (cu λa W=>?_));have u:au M (M.set a (.inst .i3 m0)):=ae.new W;refine aaU Hp.set_same λv w A=>jj rfl (cG ?_);have B:au M v:=(u.mono λC z=>z.elim:ae (·=a) M _).trans w |>.less λC z=>.inr (z▸W)
 exact abH (r.ext B) (by exact ah (dS F 3) (by decide)) A t q
end
noncomputable def bL5:List S:=[.assign .cm (.bN .i3 [(.bin .add (.int 1) (.aD .bT [(.aa .box),(.int 9)])),(.bin .add (.int 1) (.aD .bT [(.aa .box),(.int 30)])),(.sub (.list [(.int 0),(.int 0),(.int 1),(.int 2)]) (.aD .bT [(.aa .box),(.int 4)]))]),.ret (.and (.aD .rJ [(.aa .text),(.aa .start),(.aa .shape),(.aa .cm)]) (.aD .rK [(.aa .box)]))]
noncomputable def KB:List S:=.ite (.not (.aD .uk [(.aa .text),(.aD .bT [(.aa .box),(.int 5)])]))
  [.ret (.bool false)]
  []::bL5
noncomputable def KC:List S:=.ite (.or (.not (.aD .yc [(.aa .text),(.aa .narrow),(.aa .shape)])) (.not (.aD .uj [(.aa .box),(.aa .text),(.aa .shape)])))
  [.ret (.bool false)]
  []::KB
noncomputable def KD:List S:=.assign .narrow (.sub (.list [(.bN .fc [(.aa .text),(.sub (.aa .shape) (.int 0)),(.sub (.aa .shape) (.int 1)),(.int 1)]),(.bN .fL [(.aa .text),(.sub (.aa .shape) (.int 0)),(.sub (.aa .shape) (.int 1)),(.int 1)])]) (.aD .bT [(.aa .box),(.int 2)]))::KC
section
variable{n:Nat}{h h0 h':Hp}{l m b k k' pr a:Nat}{x3:Int}{x:qo}{Q:V->Hp->Prop}{E:Ex->Hp->Prop}{na:Option V}
theorem abJ(K:en x x3 h0 k h)(F:k<=600)(q:∀h',au h0 h'->Q (.bool true) h'):aE look ac (runs (n+12)) [] KB h (x.m na none) (fQ Q) (fE E):=by
 refine aT (iJ (cM (ou (d5 (os:=[]) rfl tT (bI (b7 (os:=[]) rfl tT (gF K.bx (by exact ah F (by decide)) (by decide) (by decide) λd T M p1 O=>cu ?_)))))));have R:=K.draw p1 O;exact aaK (n:=n+6) (aS.mp M) K.t1 K.N' λV S=>qf (aR (abI (R.ext S) (by exact ah (db F) (by decide)) q))
theorem abK{C:bU}{c:Cs}{a b r:List S}{m:M}{Q:Fl->Hp->M->Prop}{E:PE}{K:Bool->Hp->M->Prop}{t:X}(q:d4 C c t h m K E):cD (.bool true) λr=>br (!r) (K true h m) (d4 C c t h m K E):=q
theorem KE{F:Nat->Prop}{S:Nat->Hp->Prop}(K:en x x3 h0 k h)(R:k<=500)(M:FS (n+11) a F x.t x.mo (λp=>(bQ x.t x.s x.w x.mo p).take 1) S)(V:S 0 h)(W:∀y,F y->h0 y=none)(sF:¬F x.sh)(X:¬F x.b)(q:∀h',au h0 h'->Q (.bool true) h'):
  aE look ac (runs (n+12)) [] KC h (x.m (some (.ref a)) none) (fQ Q) (fE E):=by
 refine aT (ie (iJ (cM (b7 (os:=[]) rfl tT (Z7 (n:=n+9) M V K.hs sF K.s1 K.N' λe p1=>abK (a:=[]) (b:=[]) (r:=[]) (Q:=λT T T=>True) (iJ (cM (b7 (os:=[]) rfl tT ?_))))))));have O:=K.step p1 W sF (K.bx.keep p1 X);exact aaP (n:=n+6) O.bx (by exact ah R (by decide)) O.hs K.s1 K.s4 K.w1 K.t1 K.N' λf c d=>qf (aR (abJ (O.draw c d) (by exact ah (dS R 2) (by decide)) q))
theorem abL(K:en x x3 h0 k h)(X:k<=400)(q:∀h',au h0 h'->Q (.bool true) h'):
  aE look ac (runs (n+12)) [] KD h (x.m none none) (fQ Q) (fE E):=by
 refine bR (iL (iK (bI (vU (n:=n+10) (w:=x.w) (ch:=1) K.s1 K.w1 (a6 1) K.N' (os:=[.o (.list [.int x.s,.int x.w,.int x.mo]),.g (.int x.s),.o (.list [.int x.s,.int x.w,.int x.mo]),.g (.int x.w)]) rfl (jj (jj (jj K.hs rfl) K.hs) rfl) λa r d b g s e A B C S=>?_))));have M:=K.ext B;refine bI (vN (n:=n+10) (w:=x.w) (ch:=1) K.s1 K.w1 (a6 1) K.N' (os:=[.o (.list [.int x.s,.int x.w,.int x.mo]),.g (.int x.s),.o (.list [.int x.s,.int x.w,.int x.mo]),.g (.int x.w)]) rfl (jj (jj (jj M.hs rfl) M.hs) rfl) λO D G H R c I F=>cu λy f=>?_);have T:au R (R.set y (.list [.ref a,.ref O])):=ae.new f;have i:(R.set y (.list [.ref a,.ref O])) y=some (.list [.ref a,.ref O]):=Hp.set_same;generalize R.set y (.list [.ref a,.ref O])=j at T i;have o:=M.ext c;have t:=o.ext T;refine b7 (os:=[]) rfl tT (gF t.bx (by exact ah X (by decide)) (by decide) (by decide) λu Z J W L=>aP (W _ _ i (o.bx.ne f)) ?_);have v:=t.draw W L;have N:∀y,fV a r g s e y->h0 y=none:=λy z=>eh K.kp (S y z);have P:∀y,ka O D G H y->h0 y=none:=λy z=>eh M.kp (F y z);have U:u=0\/u=1:=by exact Eu (aS.mp J)
 rcases U with rfl |rfl
 ·exact aP (w:=V.ref a) rfl (cG (KE (n:=n) v (by exact ah (db X) (by decide)) (Jq (n:=n+6) K.s1 K.s4 K.N') ((Jq (n:=n+6) (mo:=x.mo) K.s1 K.s4 K.N').keep C.n0 (((c.trans T).mono λY z=>z.elim:ae (·=x.b) A j).trans W) λy z e=>K.bx.ne (S y z) e) N (λz=>by have:=S _ z;rw[K.hs] at this;exact cX this) (λz=>K.bx.ne (S _ z) rfl) q))
 ·exact aP (w:=V.ref O) rfl (cG (KE (n:=n) v (by exact ah (db X) (by decide)) (AL (n:=n+7) K.s1 K.s4 K.N' λp hp=>AK K.s1 (a6 _)) ((I.qa ((T.mono λY z=>z.elim:ae (·=x.b) R j).trans W) λy z e=>M.bx.ne (F y z) e)) P (λz=>by have:=F _ z;rw[M.hs] at this;exact cX this) (λz=>M.bx.ne (F _ z) rfl) q))
end
noncomputable def KG:List S:=.ite (.not (.aD .rI [(.aa .text),(.bN .dQ [(.aa .text),(.sub (.aa .shape) (.int 1)),(.aa .chain)]),(.bin .add (.list [(.int 2)]) (.slice (.aa .shape) (.int 1) .absent))]))
  [.ret (.bool false)]
  []::KD
noncomputable def KH:List S:=.ite (.not (.aD .rI [(.aa .text),(.bN .fc [(.aa .text),(.sub (.aa .shape) (.int 0)),(.sub (.aa .shape) (.int 1)),(.aa .chain)]),(.aa .shape)]))
  [.ret (.bool false)]
  []::KG
section
variable{n:Nat}{h h0 h':Hp}{k ap:Nat}{x3:Int}{x:qo}{Q:V->Hp->Prop}{E:Ex->Hp->Prop}
theorem abM(K:en x x3 h0 k h)(f:k<=300)(q:∀h',au h0 h'->Q (.bool true) h'):
  aE look ac (runs (n+12)) [] KG h (x.m none none) (fQ Q) (fE E):=by
 refine aT (iJ (cM (ou (d5 (os:=[]) rfl tT (bI (A4 (n:=n+8) (w:=x.w) (ch:=x.t.length+1) K.w1 (hK _) K.N' (os:=[.o (.list [.int x.s,.int x.w,.int x.mo]),.g (.int x.w)]) rfl (jj K.hs rfl) λA s g W X i R=>?_))))));have a:=K.ext g;refine bI (dk (dm (os:=[]) rfl tT λy O S B j=>iP (aG (os:=[]) rfl tT (aG (os:=[]) rfl tT (aG (os:=[]) rfl tT (aP (S.at a.hs) λu l=>?_))))));have T:au O (O.set u (.list [.int x.w,.int x.mo])):=ae.new l;have m:(O.set u (.list [.int x.w,.int x.mo])) u=some (.list [.int x.w,.int x.mo]):=Hp.set_same;refine aP (T.at j) (aP m (jj (show(1:Nat)+2<=bB by refine rE dz ?_;decide) λv b=>cu ?_));have o:au (O.set u (.list [.int x.w,.int x.mo])) ((O.set u (.list [.int x.w,.int x.mo])).set v (.list [.int (2:Nat),.int x.w,.int x.mo])):=ae.new b;have p:((O.set u (.list [.int x.w,.int x.mo])).set v (.list [.int (2:Nat),.int x.w,.int x.mo])) v=some (.list [.int (2:Nat),.int x.w,.int x.mo]):=Hp.set_same;have c:=(S.trans T).trans o;have d:=a.ext c;have r:∀y,A.F y->h0 y=none:=λy z=>eh K.kp (R y z);have M:=A3 (n:=n+4) (t:=x.t) (w:=x.w) (ch:=x.t.length+1) (mo:=x.mo) i K.N' (dc _) K.mo;exact Jz (n:=n+9) (F:=A.F) M (JC (n:=n+7) K.N' (dc _) K.mo) (JC (n:=n+6) K.N' (dc _) K.mo) (M.keep ⟨W,X⟩ c λV V z=>z) p (λz=>M.own (M.keep ⟨W,X⟩ (S.trans T) λV V z=>z) z b) (by decide) K.N' λC e=>qf (aR (abL (d.step e r (λz=>by have:=R _ z;rw[K.hs] at this;exact cX this) (d.bx.keep e λz=>K.bx.ne (R _ z) rfl)) (by exact ah f (by decide)) q))
theorem abN(K:en x x3 h0 k h)(R:k<=300)(q:∀h',au h0 h'->Q (.bool true) h'):
  aE look ac (runs (n+12)) [] KH h (x.m none none) (fQ Q) (fE E):=by
 refine aT (iJ (cM (ou (d5 (os:=[]) rfl tT (bI (vU (n:=n+10) (w:=x.w) (ch:=x.t.length+1) K.s1 K.w1 (hK _) K.N' (os:=[.o (.list [.int x.s,.int x.w,.int x.mo]),.g (.int x.s),.o (.list [.int x.s,.int x.w,.int x.mo]),.g (.int x.w)]) rfl (jj (jj (jj K.hs rfl) K.hs) rfl) λa r d b g s e W S T F=>d5 (os:=[]) rfl tT (cu ?_)))))));have M:=K.ext S;have V:∀y,fV a r g s e y->h0 y=none:=λy z=>eh K.kp (F y z);exact Jz (n:=n+9) (AX (n:=n+6) K.s1 K.s4 K.N' (dc _)) (JB (n:=n+8) K.s1 K.s4 K.N' (dc _)) (JB (n:=n+7) K.s1 K.s4 K.N' (dc _)) T.s0 M.hs (λz=>by have:=F _ z;rw[K.hs] at this;exact cX this) K.s1 K.N' λX O=>qf (aR (abM (M.step O V (λz=>by have:=F _ z;rw[K.hs] at this;exact cX this) (M.bx.keep O λz=>K.bx.ne (F _ z) rfl)) R q))
theorem abO{d:Nat}(h:(d:Int)<3):∃w:Nat,dr [V.int 3,V.int 6,V.int 40] (d:Int)=some (.int w)/\3<=w/\w<=50:=by
 obtain rfl |rfl |rfl:d=0\/d=1\/d=2:=by exact uc (aS.mp h)
 ·exact(aq 3 rfl (by decide))
 ·exact(aq 6 rfl (by decide))
 ·exact(aq 40 rfl (by decide))
theorem abP{d:Nat}(h:(d:Int)<3):∃w:Nat,dr [V.int 3,V.int 5,V.int 30] (d:Int)=some (.int w)/\3<=w/\w<=50:=by
 obtain rfl |rfl |rfl:d=0\/d=1\/d=2:=by exact uc (aS.mp h)
 ·exact(aq 3 rfl (by decide))
 ·exact(aq 5 rfl (by decide))
 ·exact(aq 30 rfl (by decide))
noncomputable def mS(ap b:Nat)(t:List UInt8)(F:Option V):M:=[(.script,some (.ref ap)),(.box,some (.ref b)),(.text,some (.bytes t)),(.shape,F),(.start,none),(.chain,none),(.narrow,none),(.cm,none)]
noncomputable def KI:List S:=.unpack [.start,.chain] (.tup [(.aD .bT [(.aa .box),(.bin .add (.aB .len [(.aa .text)]) (.int 1))]),(.bin .add (.aB .len [(.aa .text)]) (.int 1))])::KH
noncomputable def bLq:List S:=.assign .shape (.list [(.bin .add (.int 2) (.aD .bT [(.aa .box),(.int 3)])),(.sub (.list [(.int 3),(.int 6),(.int 40)]) (.aD .bT [(.aa .box),(.int 3)])),(.sub (.list [(.int 3),(.int 5),(.int 30)]) (.aD .bT [(.aa .box),(.int 3)]))])::KI
theorem au.draw(e:au h0 h)(p:ae (·=b) h h')(nb:h0 b=none):au h0 h':=(e.mono λF z=>z.elim:ae (·=b) h0 h).trans p |>.less λF z=>.inr (z▸nb)
theorem abQ{b M s w O:Nat}{t:List UInt8}(B:ck h b 43 x3)(S:h M=some (.list [.int s,.int w,.int O]))(T:au h0 h)(nb:h0 b=none)(V:M≠b)(W:2<=s)(X:s<=4)(a:3<=w)(c:w<=50)(d:3<=O)(e:1<=t.length)(K:t.length<=14)(f:x3=4\/x3=14)(q:∀h',au h0 h'->Q (.bool true) h'):
  aE look ac (runs (n+12)) [] KI h (mS ap b t (some (.ref M))) (fQ Q) (fE E):=by
 refine jq (bI (qj (os:=[]) (ws:=[.ref b,.int ((t.length+1:Nat):Int)]) rfl tT rfl (gF B (by decide) (Int.ofNat_succ_pos t.length) (by exact aS.mpr (aV (db K) (by decide))) λst l g R i=>J0 (os:=[]) (ws:=.int ((t.length+1:Nat):Int)) rfl tT rfl (cu (iI λj F=>?_)))));exact abN (n:=n) (x:=⟨ap,b,t,M,st,s,w,O⟩) (x3:=x3) (h0:=h0) (k:=44) ⟨i.keep F id,F.at (R _ _ S V),(au.draw T R nb).trans F,nb,W,X,ah (by decide) a,c,d,by show st<=t.length;exact dA (aS.mp g),e,K,f⟩ (by decide) q
theorem abR{b:Nat}{t:List UInt8}(j:ck h b 40 x3)(l:au h0 h)(nb:h0 b=none)(m:1<=t.length)(M:t.length<=14)(o:x3=4\/x3=14)(q:∀h',au h0 h'->Q (.bool true) h'):
  aE look ac (runs (n+12)) [] bLq h (mS ap b t none) (fQ Q) (fE E):=by
 refine bR (iK (bI (dk (aG (os:=[]) rfl tT (b7 (os:=[]) rfl tT (gF j (by decide) (by decide) (by decide) λF N p r X=>sO (k:=((2+F:Nat):Int)) rfl ?_))))));have O:=au.draw l r nb;refine bI (iL (dm (os:=[]) rfl tT λy P a s u=>b7 (os:=[]) rfl tT (gF (X.keep a id) (by decide) (by decide) (by decide) λU Y v c d=>?_)));refine cr (abO v) λw A B C=>?_;have R:=au.draw (O.trans a) c nb;refine aP (c _ _ u (X.ne s)) (aP A (bI (iL (dm (os:=[]) rfl tT λz Z e D G=>b7 (os:=[]) rfl tT (gF (d.keep e id) (by decide) (by decide) (by decide) λd3 S H f g=>?_)))));refine cr (abP H) λT I J m3=>?_;have V:=au.draw (R.trans e) f nb;refine aP (f _ _ G (d.ne D)) (aP I (cu λW K=>cG ?_));have i:au S (S.set W (.list [.int ((2+F:Nat):Int),.int w,.int T])):=ae.new K;have L:(S.set W (.list [.int ((2+F:Nat):Int),.int w,.int T])) W=some (.list [.int ((2+F:Nat):Int),.int w,.int T]):=Hp.set_same;exact abQ (n:=n) (g.keep i id) L (V.trans i) nb (g.ne K) (cP 2 F) (by exact dy (dA (aS.mp p)) 2) B C J m M o q
theorem abS{S:List Int}(F:h ap=some (.ro y (S.map .int))):i9 look ac (runs (n+12)) (prog .law) [.ref ap] h (λv h'=>v=.bool true/\h' ap=h ap) λK K=>False:=by
 refine bR (b7 (os:=[]) rfl tT (aac F λb x3 d R T nb V=>cG (bR (b7 (os:=[]) rfl tT (aak (n:=n+10) V R λt e W M X a=>cG ?_)))));exact abR (n:=n) (h0:=h) (ap:=ap) (Q:=λv h'=>v=.bool true/\h' ap=h ap) (E:=λK K=>False) a (au.draw T X nb) nb W M R λc O=>⟨rfl,(O.at F).trans F.symm⟩
end
end Mine.Internal
end
section
open PySem PySem.W PyProof.Rows PySem.Calls
set_option tactic.hygienic true
set_option backward.match.sparseCases true
set_option maxHeartbeats 8000000
namespace Mine.Internal
theorem lawOk:Iw:=⟨12,by decide,λ_ _ _ _ F=>abS (n:=0) F⟩
namespace holds
def tw10017960912121857914:=tT
def tw10020743323801398460:=tT
def tw10077783220807634480:=tT
def tw10168784306185696555:=tT
def tw10188407842432278257:=tT
def tw1018909934083917390:=tT
def tw10249828689905074731:=tT
def tw10260115271804843185:=tT
def tw10282002466758739286:=tT
def tw10289307870095158588:=tT
def tw10345052204682792863:=tT
def tw10361335693913934234:=tT
def tw10365326628206627689:=tT
def tw1041513148903201398:=tT
def tw10447107970811418232:=tT
def tw10454350619089486950:=tT
def tw10510280621647688738:=tT
def tw10511324076824172834:=tT
def tw10521623325166206483:=tT
def tw10531364351025254559:=tT
def tw10573636710940005624:=tT
def tw1064983301905101370:=tT
def tw10755319136226880871:=tT
def tw1076842996122172330:=tT
def tw10800330324189728303:=tT
def tw10882806184955489673:=tT
def tw10915867818317705883:=tT
def tw10938845096295352929:=tT
def tw10971459995880992411:=tT
def tw10989967513396890393:=tT
def tw11000872232057511382:=tT
def tw11002763254821713017:=tT
def tw11014063548464947866:=tT
def tw11070161606222602170:=tT
def tw11121936490189512484:=tT
def tw11145825550219788957:=tT
def tw11147173529152075507:=tT
def tw1115045514216600370:=tT
def tw11239024334175246119:=tT
def tw11242945510200484733:=tT
def tw11248651507443440444:=tT
def tw11262188141374810183:=tT
def tw11267266323336101847:=tT
def tw11274273087567050175:=tT
def tw11345773089680746298:=tT
def tw11434791560851867089:=tT
def tw1146525074151460224:=tT
def tw11511414502946362423:=tT
def tw11567757766188551265:=tT
def tw11585434424021807087:=tT
def tw11590347803061209048:=tT
def tw11595364648861686424:=tT
def tw11653875709561523959:=tT
def tw1167029599997748867:=tT
def tw11673066091167841697:=tT
def tw11705992525014987832:=tT
def tw11716257987094952327:=tT
def tw11757044661269434240:=tT
def tw11797692718432152721:=tT
def tw11869485986805966128:=tT
def tw11915365428501634375:=tT
def tw11928724970815838150:=tT
def tw11945185981176625145:=tT
def tw12008842129548510999:=tT
def tw12029222743131272086:=tT
def tw12135062607689481489:=tT
def tw12156020851762325669:=tT
def tw12156604644586492179:=tT
def tw12169087059507993091:=tT
def tw1217808222009111886:=tT
def tw12185194662611306826:=tT
def tw1220935886628008388:=tT
def tw12214273112858497150:=tT
def tw1221865904354309197:=tT
def tw1222707719148633368:=tT
def tw12233680677971606010:=tT
def tw12274649574507812877:=tT
def tw12276511846129576165:=tT
def tw12361877690943951714:=tT
def tw12372429616319736429:=tT
def tw12392909372428082406:=tT
def tw12398873279645236598:=tT
def tw12459697934755896438:=tT
def tw1246929014557536611:=tT
def tw12481960815049536073:=tT
def tw12530679051364464955:=tT
def tw12573761980996201262:=tT
def tw12581108548093164712:=tT
def tw12618508542241632142:=tT
def tw12620704349973633034:=tT
def tw12670764873776318793:=tT
def tw12718226513743124112:=tT
def tw12731248786081300143:=tT
def tw12746815990840535046:=tT
def tw12827957768938313457:=tT
def tw1283120327644109652:=tT
def tw12839118579719203136:=tT
def tw1285868163712418821:=tT
def tw12961221289218802301:=tT
def tw1296156210308759082:=tT
def tw12984901901290380153:=tT
def tw13011349840606893580:=tT
def tw13014215488938945724:=tT
def tw1302488121096338068:=tT
def tw13059759069501044261:=tT
def tw13059951192443715217:=tT
def tw13084055619815178069:=tT
def tw13189167254321058725:=tT
def tw13254096565604468339:=tT
def tw13259885472621799166:=tT
def tw13290575796102181501:=tT
def tw13298561021779101493:=tT
def tw13328596565644093722:=tT
def tw13392596551088275936:=tT
def tw1341021549992274507:=tT
def tw13413089144167029917:=tT
def tw13427994659115432385:=tT
def tw13441598368382955911:=tT
def tw13465747453982068366:=tT
def tw13489584046858711034:=tT
def tw13535801300926373423:=tT
def tw1357059158443213593:=tT
def tw13689497268628882943:=tT
def tw13696476329222005775:=tT
def tw13698633416781852203:=tT
def tw13829235064365246901:=tT
def tw13909040811565315561:=tT
def tw13919562169737420931:=tT
def tw13946114632192811189:=tT
def tw13968348621533817241:=tT
def tw13982132091137753655:=tT
def tw14006568266722379407:=tT
def tw14007503885402279441:=tT
def tw1403326117600385063:=tT
def tw14036985560751732644:=tT
def tw14057188601545655472:=tT
def tw14060129139311572289:=tT
def tw14061823812684002886:=tT
def tw14080759271713685208:=tT
def tw14080811698731853667:=tT
def tw14085512999376144980:=tT
def tw14091445029393417575:=tT
def tw1411412292411763211:=tT
def tw14117635750047281025:=tT
def tw14158214615763697375:=tT
def tw1439032413737918227:=tT
def tw14399850735119581861:=tT
def tw14407238120613555316:=tT
def tw14411862795078837054:=tT
def tw14423363308867545129:=tT
def tw14449084325950781929:=tT
def tw14463067926355067793:=tT
def tw14477822346131358832:=tT
def tw14481087716493798454:=tT
def tw14515505195896415235:=tT
def tw14532390323072560386:=tT
def tw14538043930331496698:=tT
def tw14556114369258464016:=tT
def tw14559757429023967853:=tT
def tw14563634558408666174:=tT
def tw14566969815105079885:=tT
def tw14620019843226852659:=tT
def tw14656139909754416652:=tT
def tw14682072378962464630:=tT
def tw14683278600522758772:=tT
def tw14695848911696761395:=tT
def tw14727042540872772:=tT
def tw14753964763270954882:=tT
def tw14783835529853491219:=tT
def tw14804860892067708474:=tT
def tw14813302829334320454:=tT
def tw14826404009142614679:=tT
def tw14886934541190713733:=tT
def tw14890674378264804681:=tT
def tw14914430008222502145:=tT
def tw14916701763278738451:=tT
def tw14943947344568573618:=tT
def tw149593698431072807:=tT
def tw14969981576918071141:=tT
def tw1499016154664868553:=tT
def tw15191772130165013288:=tT
def tw15225974932237025572:=tT
def tw15251242641255970624:=tT
def tw15267151345919617028:=tT
def tw15282245441056542249:=tT
def tw15314772377233135169:=tT
def tw15320513281083592830:=tT
def tw15372798456586119821:=tT
def tw15398110347284398676:=tT
def tw15412340641598777323:=tT
def tw15419322690476733202:=tT
def tw15438123319576070065:=tT
def tw15443840301648970416:=tT
def tw15460558763565838763:=tT
def tw15473811684687531883:=tT
def tw15505796041026545000:=tT
def tw15506990937796514688:=tT
def tw15518971164157531402:=tT
def tw15534174740187562656:=tT
def tw155696903553675238:=tT
def tw15581303619828551608:=tT
def tw15582236591706137806:=tT
def tw1563504619805037668:=tT
def tw15671560998291337668:=tT
def tw15711056903013041695:=tT
def tw15759552697430601291:=tT
def tw1578193883009512180:=tT
def tw15791318866381267472:=tT
def tw15822524080010967633:=tT
def tw15831367311361743631:=tT
def tw15843724969268705444:=tT
def tw15897037162184228596:=tT
def tw15903070618281540152:=tT
def tw15961660126920711509:=tT
def tw15971569456112283224:=tT
def tw15972196766725689010:=tT
def tw15973326964459302738:=tT
def tw16013402780032033178:=tT
def tw16021707234227860472:=tT
def tw16036272869809438592:=tT
def tw16079072097252388195:=tT
def tw16100551839494157230:=tT
def tw16106229056289283612:=tT
def tw161843047231798111:=tT
def tw16185235658976356317:=tT
def tw16199762901462969382:=tT
def tw16206152800739131657:=tT
def tw16230739424129650383:=tT
def tw16267870020490129549:=tT
def tw16286322370539754396:=tT
def tw16301923823933631969:=tT
def tw1632211075837711497:=tT
def tw16392225886325918349:=tT
def tw16396038496797904002:=tT
def tw16411656620953172033:=tT
def tw16423946728307563863:=tT
def tw16438016175699509664:=tT
def tw16487019573587872274:=tT
def tw16494358445470808220:=tT
def tw16595859479471350224:=tT
def tw16600112620949671475:=tT
def tw16602751448794268254:=tT
def tw16613356418942523818:=tT
def tw1664800154270097530:=tT
def tw16649976609546075991:=tT
def tw16668612154866053909:=tT
def tw16686973865854000588:=tT
def tw16693754510605493370:=tT
def tw16709309489694395143:=tT
def tw16728616344643695071:=tT
def tw16767485781315175849:=tT
def tw16813812039675149004:=tT
def tw16849895819864684710:=tT
def tw16900073570713339656:=tT
def tw1690063539935707102:=tT
def tw1690785582286474789:=tT
def tw16983873641988692843:=tT
def tw16989033907012216047:=tT
def tw16998320079336068867:=tT
def tw17022365944446099601:=tT
def tw17023907716084824045:=tT
def tw17071018984259625997:=tT
def tw17073731979518264807:=tT
def tw17086852454114780125:=tT
def tw17136164257840261186:=tT
def tw17158488679914861336:=tT
def tw17163038079273221898:=tT
def tw17201429336577492014:=tT
def tw17211517959078586233:=tT
def tw17223819809346992077:=tT
def tw17246627662144731535:=tT
def tw17251911832658423279:=tT
def tw17254147185773192627:=tT
def tw17266641721163896039:=tT
def tw1730303030875151200:=tT
def tw17338391082173392197:=tT
def tw17391963279861594970:=tT
def tw17449435871337877045:=tT
def tw17462343969156657494:=tT
def tw1749602306654532932:=tT
def tw17511160590315152468:=tT
def tw17525431282305644400:=tT
def tw17553931161522319909:=tT
def tw17572407337242360532:=tT
def tw17597706227617204833:=tT
def tw17611106465620507617:=tT
def tw17611683153783365243:=tT
def tw17633562427655294604:=tT
def tw17644313713403805834:=tT
def tw17647969606099592723:=tT
def tw17660465235512786038:=tT
def tw17662188953733780977:=tT
def tw17719491617144373305:=tT
def tw17753689332845609500:=tT
def tw1777720489908159953:=tT
def tw17801839164003546187:=tT
def tw17815194412154920758:=tT
def tw17895233029588290575:=tT
def tw17908578499454118928:=tT
def tw17933012162438806875:=tT
def tw17951811522398652807:=tT
def tw17973288541448433736:=tT
def tw17974688307767551340:=tT
def tw17976952280535072061:=tT
def tw17987249509985054633:=tT
def tw17995788150984073174:=tT
def tw18027179270401739297:=tT
def tw18030116864893436723:=tT
def tw18064893774384590832:=tT
def tw18118109095476090410:=tT
def tw18123958544920140387:=tT
def tw18174639009453650130:=tT
def tw18175833654942421593:=tT
def tw18193414596265725752:=tT
def tw18283180031958730062:=tT
def tw18283429982519844251:=tT
def tw18312945325176348872:=tT
def tw18322660313296622991:=tT
def tw18415774201512188404:=tT
def tw18416171244860177177:=tT
def tw18438101467318021017:=tT
def tw1867395871591007659:=tT
def tw1893159944909488722:=tT
def tw1898140733719194032:=tT
def tw1898180479000118188:=tT
def tw1921101718913953869:=tT
def tw1922066489031662083:=tT
def tw1960014662437326481:=tT
def tw1962612532752538289:=tT
def tw1977956674121659688:=tT
def tw2264353362959042827:=tT
def tw2285902120397713387:=tT
def tw232101330807558672:=tT
def tw2333859741059844151:=tT
def tw2347046532367976448:=tT
def tw2385773370410723072:=tT
def tw2403314413575272586:=tT
def tw2406332681527878536:=tT
def tw2410699595578301573:=tT
def tw2414331814724152283:=tT
def tw2443328402604462493:=tT
def tw2452586348256410559:=tT
def tw2454710683582696158:=tT
def tw2457031302653758377:=tT
def tw245789328784729062:=tT
def tw2475151161875306286:=tT
def tw2501185957927446349:=tT
def tw2501193297336319191:=tT
def tw2512580485508324078:=tT
def tw2516205056071776717:=tT
def tw2525108413900688904:=tT
def tw2568432013062604231:=tT
def tw2573850986397534748:=tT
def tw2574101721666154717:=tT
def tw2574635457030168091:=tT
def tw2592885818140123877:=tT
def tw260313118991543321:=tT
def tw2606373884697034215:=tT
def tw2608601909104419346:=tT
def tw2623572637082548889:=tT
def tw2665399329448757707:=tT
def tw2669529967664142726:=tT
def tw2673481021963786882:=tT
def tw2688025105005860329:=tT
def tw2688381643751492943:=tT
def tw2730222429657608491:=tT
def tw2742303528179274775:=tT
def tw2778028643313158436:=tT
def tw2846401295038607173:=tT
def tw2883120503841821800:=tT
def tw2903345225798742697:=tT
def tw2934938467782148484:=tT
def tw2950159902439792051:=tT
def tw2971865379190749444:=tT
def tw2976698731494193312:=tT
def tw2989658368213122171:=tT
def tw2997193724643099400:=tT
def tw300620233523447215:=tT
def tw3034062012015301454:=tT
def tw3054061137574118355:=tT
def tw3139987954049437382:=tT
def tw315289853310266656:=tT
def tw3157224124377753369:=tT
def tw3314014093529748567:=tT
def tw3321189079734850941:=tT
def tw3334853349843488389:=tT
def tw3350120470228555513:=tT
def tw3359874855945228109:=tT
def tw3444529142677440205:=tT
def tw3502966896719284750:=tT
def tw3521487059058879778:=tT
def tw365775504125212267:=tT
def tw3673531862874042573:=tT
def tw3673833357965444554:=tT
def tw3702965432058419391:=tT
def tw3765860129659838428:=tT
def tw3776979815634452967:=tT
def tw3797103345068795686:=tT
def tw3827108551231085402:=tT
def tw3860919732398823519:=tT
def tw3867356915637724030:=tT
def tw3886852278552756219:=tT
def tw3893754955647436476:=tT
def tw3899185668071850955:=tT
def tw3915530605970850842:=tT
def tw3917710708833780145:=tT
def tw3933611734540953471:=tT
def tw3949073106484980276:=tT
def tw3963718470479869757:=tT
def tw3969798786197964274:=tT
def tw4063423889859736987:=tT
def tw4079571100732044389:=tT
def tw4103574791076916901:=tT
def tw4104113907499158487:=tT
def tw4208278278242949608:=tT
def tw425590396375971513:=tT
def tw4297088386186966802:=tT
def tw4331639435908266967:=tT
def tw4331744783785627207:=tT
def tw4358537732523114649:=tT
def tw4376293869261289336:=tT
def tw4422419735559984964:=tT
def tw4446980456602630877:=tT
def tw453067106175754426:=tT
def tw4533039665171385576:=tT
def tw454591672180034583:=tT
def tw4551610895360365648:=tT
def tw45697763093109804:=tT
def tw4570350213484542796:=tT
def tw4600571431420790120:=tT
def tw4601229254010429348:=tT
def tw4615967779222839719:=tT
def tw461797792456664853:=tT
def tw4635505006031755196:=tT
def tw4667255799288748084:=tT
def tw4686787458672458552:=tT
def tw4731223020814506576:=tT
def tw4747720295131805255:=tT
def tw4771723690101582354:=tT
def tw4773991821948392:=tT
def tw4788646006984090273:=tT
def tw4803302845181922524:=tT
def tw4817469062436812780:=tT
def tw4847408419583697123:=tT
def tw4918862114558359381:=tT
def tw4927715254000444687:=tT
def tw4938845742787057945:=tT
def tw499822301290324805:=tT
def tw5002952066018758375:=tT
def tw5028832982311855520:=tT
def tw5048833714478095335:=tT
def tw5083054345536859868:=tT
def tw5106923934729154420:=tT
def tw5158809250113399101:=tT
def tw5160323381398180875:=tT
def tw516223011018153656:=tT
def tw5169997503249741068:=tT
def tw517449636111397222:=tT
def tw5179840628096715426:=tT
def tw5215058599630847290:=tT
def tw5232279434336174944:=tT
def tw5266962374063366514:=tT
def tw5294827272992616702:=tT
def tw5299842214954615154:=tT
def tw530390287933728085:=tT
def tw532642166844860084:=tT
def tw5349424615200311504:=tT
def tw5359279550468318233:=tT
def tw540111333868408409:=tT
def tw5437067369209840363:=tT
def tw5468600189399664638:=tT
def tw5510825935793615833:=tT
def tw5515632201340489605:=tT
def tw5638362819071355515:=tT
def tw5652459917153541152:=tT
def tw5658825735800504730:=tT
def tw5665362019907264498:=tT
def tw5669474929121961143:=tT
def tw5671270405387186367:=tT
def tw5699131756537685109:=tT
def tw5701204439437174659:=tT
def tw5708071746655206516:=tT
def tw5712880567318034168:=tT
def tw5783833993386945187:=tT
def tw5798112311203084775:=tT
def tw5800780109315520746:=tT
def tw581120138808177960:=tT
def tw5858639769185094793:=tT
def tw5877132886605258276:=tT
def tw5887255808001709612:=tT
def tw5890156642585643204:=tT
def tw5929906329577326299:=tT
def tw6017825528423277824:=tT
def tw6090723298878945760:=tT
def tw619686290826937764:=tT
def tw6207653273305998319:=tT
def tw6212265077097847518:=tT
def tw6260231457795577605:=tT
def tw6328135089240184730:=tT
def tw6329940621038418946:=tT
def tw634985815562362051:=tT
def tw63521343180511819:=tT
def tw6363141680632503347:=tT
def tw6366765501383621544:=tT
def tw6368016788050497553:=tT
def tw6370628657426742999:=tT
def tw6412759146636339575:=tT
def tw6430500933382121566:=tT
def tw6452340008075611825:=tT
def tw6468589654510391696:=tT
def tw6476830148465370186:=tT
def tw6496237718566941253:=tT
def tw6586048545860300827:=tT
def tw6608069600846027146:=tT
def tw6612989441577789816:=tT
def tw6629993137577354572:=tT
def tw6741554019372729517:=tT
def tw6768346323450934518:=tT
def tw6770089118618900780:=tT
def tw677177225429439482:=tT
def tw6782129299858837287:=tT
def tw6800954738174378009:=tT
def tw6817199418422918312:=tT
def tw6837190980777924927:=tT
def tw6885674974863893668:=tT
def tw6980959853108291183:=tT
def tw6986332397042941872:=tT
def tw699251147731000051:=tT
def tw7022516715079446686:=tT
def tw7030816209701364802:=tT
def tw7056082684388257271:=tT
def tw7070547414655316690:=tT
def tw7122841645226010776:=tT
def tw7125791672758121194:=tT
def tw7209006140126643895:=tT
def tw7220580930248913000:=tT
def tw7269682228249628098:=tT
def tw728026239232505663:=tT
def tw7298545798827007960:=tT
def tw7333728490606690522:=tT
def tw734538560231528653:=tT
def tw7377773790663390501:=tT
def tw7395890538688315646:=tT
def tw7456739388697267128:=tT
def tw75096469182648192:=tT
def tw7544275970944486727:=tT
def tw7590112058133571237:=tT
def tw7637235503571942037:=tT
def tw7640810819422953326:=tT
def tw7648602451342935254:=tT
def tw7649044055626387506:=tT
def tw7672566047917883193:=tT
def tw7683599589293651893:=tT
def tw7751584418945705700:=tT
def tw7800715272835401520:=tT
def tw7808406295731046300:=tT
def tw7839658727529754761:=tT
def tw7876772038992751071:=tT
def tw7890791799900466819:=tT
def tw7922597670179356867:=tT
def tw7931676686362310132:=tT
def tw8050910765557156559:=tT
def tw809052835904625918:=tT
def tw8119512658400716438:=tT
def tw8181799886312578277:=tT
def tw8199734494359431104:=tT
def tw8212619918921927461:=tT
def tw823157937410836622:=tT
def tw8285718579127104417:=tT
def tw8301634204720520130:=tT
def tw8308227867648502378:=tT
def tw8392597858888781663:=tT
def tw8401585522531780792:=tT
def tw8405418125663852243:=tT
def tw8442843136250665914:=tT
def tw8454929941981465430:=tT
def tw8497768632943776896:=tT
def tw851710244350699567:=tT
def tw8540538287309039760:=tT
def tw8556649101261268570:=tT
def tw8592255366796315219:=tT
def tw8628590411761831423:=tT
def tw8642525181875496095:=tT
def tw866110691303140114:=tT
def tw8666642708544261993:=tT
def tw8674415348919048929:=tT
def tw8697137784858654433:=tT
def tw8724633605099612060:=tT
def tw8734131037318411624:=tT
def tw8743531685247924259:=tT
def tw8753047167218425007:=tT
def tw8753863906343329458:=tT
def tw8754051605980484190:=tT
def tw8826325055627561533:=tT
def tw8855124956982778358:=tT
def tw8877669581241627644:=tT
def tw887892215011103170:=tT
def tw892329715326610709:=tT
def tw8931885446216535162:=tT
def tw901807535849957454:=tT
def tw9026379185003496916:=tT
def tw903523252171671643:=tT
def tw9076834717009613062:=tT
def tw9106997544754448881:=tT
def tw9155912208529514732:=tT
def tw9163617029049854837:=tT
def tw9211485487061411861:=tT
def tw9220446860203673100:=tT
def tw9254101593450744880:=tT
def tw9263783214199076535:=tT
def tw9295501361359092577:=tT
def tw9307891702609001249:=tT
def tw932734949707980270:=tT
def tw9352951174536615939:=tT
def tw9374124463098438323:=tT
def tw9398414235912868435:=tT
def tw9451240999753939881:=tT
def tw9465208216537088579:=tT
def tw9485574648627739779:=tT
def tw9527285805328046550:=tT
def tw9532373393191145793:=tT
def tw9550867331771086688:=tT
def tw961235988469284435:=tT
def tw9618870861198675068:=tT
def tw9637766671550940592:=tT
def tw9656050899773829885:=tT
def tw9673648442554502958:=tT
def tw9682190489947738831:=tT
def tw969333597275874869:=tT
def tw9707609436714010161:=tT
def tw9708090088658582090:=tT
def tw9724619309717327033:=tT
def tw9748437045260750357:=tT
def tw9800982435596026734:=tT
def tw9801023556461643484:=tT
def tw9822709010005552376:=tT
def tw9846827643881321262:=tT
def tw9955571380436219108:=tT
def tw9966182844049237696:=tT
def tw9983788241994147160:=tT
end holds
set_option Elab.async true in
theorem holds:NV.Holds:=by
 w_on;o_law;k_head;(case hw=>w_witness2)
 intro w s₀ s₁ mg mb G Y fa o pm cd doc dV kV ho hd hcd hD hmg hg args vals as hpre hlay hrd hwl hlo;have X:=km_in_of Y;have hT8:=km_tabs_of Y;have T:=Ground.T G;clear hD ho hd hcd G Y
 wrow_args hpre hlay hrd hwl hlo
 rename_i is h1 h2 h3 h4 h5 h6 h7 ap xs h8 h9 h10 wl h11 hi h12 h13 h14;rw[show ofPy (PyData.list (is.map NW))=.list (ofPys (is.map NW)) from rfl] at wl ⊢;cases wl with
 |list hx _ =>
  refine Yu (K:=holds.heap_1_39 w.params) (mg:=mg) lawOk (by kernel_rfl) (λg S=>by kernel_rfl) (λe v S=>by kernel_rfl) (by kernel_rfl) (by kernel_rfl) (by kernel_rfl) X (λq hq=>hT8 _ ?_) T hmg hg ?_ hi ?_ ?_ ?_
  ·rcases cW.mp hq with rfl |hq
   ·exact .head _
   ·rw[tO.mp hq];exact .tail _ (.head _)
  ·obtain⟨o,e1,e2,n,e3⟩:=h9;rw[hx] at e1;obtain rfl:=bq e1;injection e3 with e3 e4;rw[←e3];exact hx
  ·omega
  ·exact λ_=>rfl
  ·kernel_rfl
end Mine.Internal
end
theorem PySem.Challenge.cw_no0109_01_holds : PySem.Challenge.rw_no0109_01.Holds :=
 Mine.Internal.holds
