import PyProof.Rows.All
import Wide.All
import OpenK.AllK
import Wide.FinOn
import PyProof.ExcBaseAll.Exception
import PyProof.Rows.SetFrom
import Lean
import PySem.Challenge.RW_np0209_01
set_option Elab.async false
set_option maxRecDepth 100000
set_option linter.all false
set_option synthInstance.maxSize 9999
set_option tactic.hygienic false
set_option genSizeOf false
set_option genInjectivity false
set_option genCtorIdx false
set_option bootstrap.genMatcherCode false
set_option backward.match.sparseCases false
set_option compiler.extract_closed false
open Option renaming some->fR,none->fU,map->Bv,isNone_iff_eq_none->Jl,isSome_map->Jm,rec->Ri,isSome_iff_exists->aeY,map_map->aeZ
open Bool renaming true->fW,false->fY,and_eq_true->lr,false_ne_true->l_,and_eq_true_iff->uI,false_eq_true->uJ,or_eq_true->wo,eq_iff_iff->yI,not_eq_true'->Bl,not_true->Bm,not_false->Ei,not_eq_eq_eq_not->IM,not_eq_false'->Qz,not_eq_true->QA,eq_false_iff->adX,or_eq_false_iff->adY
open PySem.Str renaming ofString->fZ
open PySem renaming Str->f_,wpAny_bind->gf,wpAny->gg,model->gk,Expr->gq,Value->gv,Addr->gG,Shared->gK,wpAny_pure->gU,Heap->hV,eval->iu,Sem->iM,Obj->iY,Env->ji,wpAny_holding->jp,call->ju,Stmt->jB,mainGlobals->jK,wpAny_mono->jL,Around->lj,wpAny_standAt->lk,Model->lv,Params->lA,codeAny->lF,strKind->mj,starEach->mG,rawInt->mV,Tok->oq,intKind->ot,Pos->oS,World->oW,SetTable->pB,holding->pC,pyIter->pD,Result->pW,assign->pY,OsState->qt,compareOp->qv,wpAny_of_eq->qw,backTo->qX,exec->qY,treeTable->qZ,Scope->rx,wpAny_Name->sR,wpAny_call->sS,Arguments->tP,PyData->tS,builtinsNs->tT,codeAmong->tU,isTrue->tV,operate->tW,spliced->tX,wpAny_call_entry->tY,BoolOp->uR,bm_if_false->uW,call_meetsIn->uX,getMethod_builtin->uY,pyNext->uZ,relabel->u_,relayAll->vb,sizeLine_eq->vc,Comprehension->xa,UnaryOp->xh,assignEach->xi,assignInOrder->xj,compEnvC->xk,execs->xl,standAt->xm,swappedStores->xo,truthy->xp,valueAt->xq,DictEntry->yY,arm_execs_cons->zb,excClassObj->zc,wpAny_askSetting->zd,wpAny_rule->ze,Keyword->Bz,Program->BA,arm_eval_Call_Name'->BH,arm_eval_Subscript->BI,builtinLookup_eq_fast->BJ,codeAny_builtin->BK,codeAny_mono->BL,layNew->BN,notedBy->BO,ret->BP,swapsWithSole->BQ,typeLookup_type->BS,wpAny_assign_Name->BT,wpAny_loadName_local->BU,CmpOp->EF,ExceptHandler->EH,TriplesOk->EU,codeAny_of_tree->E_,compPost->Fa,getItem->Fb,leaving->Fc,mem_of_lookup->Fd,newFunctionEnv->Fe,newList->Ff,sizeLine->Fg,subscripted->Fh,typeOf->Fi,wants->Fj,wpAny_callSpecial?_slot->Fk,wpAny_newList->Fm,wpAny_newObj_type->Fo,wpAny_release->Fp,wpAny_setField->Fq,IsEnum->Jt,argsOk->JM,behindInMarks->JN,bindName->JO,bootBuiltins->JP,callWith->JQ,checkBuiltinCall->JR,constantsAlone->JS,entryFor->JT,isSubtype_type->JU,letOwnedTupleGo->JV,methodCallPos->JW,plainId_quiet->JX,setAttr->JY,slot_list_getitem->JZ,wpAny_Assign_stores->J_,wpAny_field->Ka,wpAny_in_of->Kb,wpAny_loadPart->Kc,wpAny_notIn_of->Kd,wpAny_pyIter_enum->Ke,wpAny_pyIter_list->Kf,wpAny_setItem_pairs->Kg,wpAny_setState_of->Kh,wpAny_specialOf->Ki,Fin->RO,GenState->RP,arm_eval_Slice->Sj,arm_exec_Return->Sk,arm_execs_nil->Sl,callWith_type->Sm,call_len_dict->Sn,cellsFrom->So,codeAny_call_builtin->Sp,evalEach->Sq,evalPairs->Sr,importedModules->Ss,interactive->Su,markedBehindIn->Sv,markedBehindIn_of_false->Sw,markedEach->Sx,methodCallForm->Sy,newFields->Sz,pairTrees->SC,pickOrder->SD,scanBound->SG,slot_dict_getitem->SH,strPairs->SI,typeLookup->SJ,unpackItems->SM,valueOrNone->SN,wpAny_Constant_int->SO,wpAny_Expr_any->SP,wpAny_alloc->SQ,wpAny_attempt->SR,wpAny_comprehension_free->ST,wpAny_getItem_list_slice->SU,wpAny_getItem_of->SW,wpAny_list_append_plain->SY,wpAny_loadName_cell->SZ,wpAny_newFunctionEnv->S_,wpAny_newTuple->Ta,wpAny_setEntries_of->Tc,wpAny_storeName_local->Td,wpAny_truthy_bool->Te,Ctx->afc,arm_assign_Attribute->afT,arm_eval_Call->afU,arm_eval_Tuple->afV,arm_eval_UnaryOp->afW,arm_exec_Assign->afX,arm_isTrue_Compare->afY,codeAny_compStart_list->afZ,entryFor_alias->ag0,eval_ListComp->ag1,filterMap_getElem?_range->ag2,fits_of_scanBound->ag3,meets_dict_clear->ag4,meets_dict_get->ag5,meets_dict_pop_default->ag6,meets_dict_pop_there->ag7,opaqueClassAbove->ag8,pastItsLine_dict->ag9,recursionLimit->aga,refuseLoop_ref->agb,signature?_of->agc,wpAny_execs_nil->agd,wpAny_fieldsOf->age,wpAny_isInstance->agf,wpAny_ite_split->agg,wpAny_letOwnedTupleGo_enum->agh,wpAny_loadName_free->agi,wpAny_lookBehind->agj,wpAny_mkBytes->agk,wpAny_operateT->agl,wpAny_pyIter_slot->agm,wpAny_pyIter_zip->agn,wpAny_pyNext_list_end->ago,wpAny_pyNext_list_item->agp,wpAny_storeSet_of->agq,wpAny_tests_nil->agr,wpAny_updatePart->ags,wpAt_bind->agt,wpAt_of_wpAny->agu
open Nat renaming le_trans->gu,le_of_eq->gC,le_refl->ij,le_add_left->iP,le_of_lt->jo,ne_of_lt->jt,le_succ->jA,zero_le->jT,not_lt->mf,lt_succ_self->nR,succ_le_succ->oQ,le_add_right->pz,le_succ_of_le->pA,lt_of_lt_of_le->pU,lt_succ_of_lt->ru,le_of_not_lt->r_,ne_of_gt->tN,le_antisymm->uO,lt_irrefl->uP,not_le_of_lt->uQ,lt_of_le_of_lt->yR,lt_or_ge->yT,not_lt_zero->Bu,le_of_succ_le_succ->Ey,succ_pos->Ez,le_of_lt_succ->Jc,le_total->Jd,lt_of_le_of_ne->Je,lt_of_not_le->Jf,lt_trans->Jg,min_eq_left->Jh,min_eq_right->Ji,mod_lt->Jj,zero_add->Jk,add_le_add_right->Rb,add_right_comm->Rc,beq->Rd,le_of_ble_eq_true->Re,lt_add_of_pos_right->Rf,not_succ_le_zero->Rg,sub_self->Rh,add_le_add_left->aeN,add_sub_cancel'->aeO,add_zero->aeP,eq_of_beq_eq_true->aeQ,exists_eq_succ_of_ne_zero->aeR,le_of_sub_eq_zero->aeS,le_zero->aeT,lt_of_sub_eq_succ->aeU,not_le->aeV,succ_add->aeW,succ_ne_self->aeX
open Option.some renaming inj->gz
open Int renaming ofNat->gV,natCast_nonneg->kr,ofNat_le->kP,ne_of_lt->kY,ne_of_gt->ma,lt_add_one_of_le->oo,le_refl->qm,not_lt->wq,le_trans->yJ,not_le->yK,ofNat_lt->Bo,le_of_eq->Ej,le_of_lt->Ek,lt_of_le_of_lt->El,emod_lt_of_pos->QC,emod_nonneg->QD,eq_ofNat_of_zero_le->QE,ediv_nonneg->ae1,fmod_nonneg_of_pos->ae2,mul_comm->ae3,negSucc->ae4,pow_mul->ae5,pow_nonneg->ae6,toNat_natCast->ae7
open List renaming mem_cons->gX,length_map->iq,map_cons->iZ,mem_map_of_mem->i_,casesOn->jg,nodup_cons->jk,lookup_cons->jn,mem_singleton->js,lookup->jz,not_mem_nil->kK,map_map->kR,map_append->kT,size_toArray->lz,getElem?_map->lQ,range->me,mem_append->mU,nodup_append->nQ,getElem?_eq_getElem->oO,append_nil->pn,length_append->px,nil_append->pT,length_cons->qn,mem_append_right->qo,mem_cons_of_mem->qp,pairwise_cons->qr,mem_append_left->qT,length->rW,lookup_eq_some_iff->rX,mem_cons_self->rY,pairwise_singleton->rZ,getD_eq_getElem?_getD->tM,forall_mem_cons->uK,getElem?_eq_some_iff->uL,mem_reverse->uM,take_of_length_le->uN,any_cons->wt,any_eq_true->wu,drop_eq_nil_of_le->ww,getElem?_eq_none->wx,isEmpty_iff->wy,length_filter_le->wz,mem_filter->wD,nodup_nil->wG,drop_zero->yL,filter_cons->yM,filter_map->yN,mem_map->yP,mem_range->yQ,all_eq_true->Bp,filter_eq_self->Bq,lookup_append->Br,mem_filterMap->Bs,zip_cons_cons->Bt,append_assoc->Em,cons_append->En,drop_eq_getElem_cons->Eo,find?_cons->Ep,getElem_mem->Er,map->Es,map_congr_left->Et,mem_of_getElem?->Eu,range'->Ew,all_cons->IR,filterMap_cons->IS,filter_congr->IT,filter_sublist->IU,getElem?_drop->IV,getElem?_range->IW,length_singleton->IX,map_nil->IY,take_add_one->IZ,take_length->I_,toList_toArray->Ja,zip_nil_right->Jb,any_eq_false->QJ,append_cons->QK,drop->QL,drop_eq_nil_iff->QM,filterMap_cons_some->QN,filter_append->QO,find?_some->QP,foldl_cons->QQ,length_range->QR,map_eq_cons_iff->QS,map_reverse->QT,pairwise_map->QU,perm_middle->QV,reverse_append->QW,reverse_perm->QX,sublist_append_of_sublist_right->QY,sum_append->QZ,tail_drop->Q_,take_append_drop->Ra,Nodup->ae8,append_of_mem->aea,contains_cons->aec,drop_append->aed,eraseDups_cons->aee,filter->aef,filterMap_append->aeg,filterMap_cons_none->aeh,filter_eq_nil_iff->aei,find?_eq_none->aej,findIdx?_eq_none_iff->aek,getElem?_set->ael,length_eq_zero_iff->aem,length_erase_of_mem->aen,length_filter_eq_length_iff->aeo,length_nil->aep,length_pos_of_mem->aeq,length_reverse->aer,length_take->aes,lookup_eq_none_iff->aet,lt_irrefl->aeu,map_eq_nil_iff->aev,map_fst_zip->aew,mem_erase_of_ne->aex,mem_of_find?_eq_some->aey,mem_of_mem_take->aez,not_all_eq_any_not->aeA,of_mem_zip->aeB,pairwise_lt_range->aeC,range_succ->aeD,reverse_cons->aeE,singleton_append->aeF,sum_cons->aeG,tail->aeH,take->aeI,take_append_of_le_length->aeJ,take_sublist->aeK,zip_append->aeL,zip_eq_zipWith->aeM
open PySem.Heap renaming lt_size->iB,get?_push_of_some->iW,size_push->kt,get?_push_size->lu,SameBut->oR,ExtBut->tQ,get?_update_self->tR,FlyingW->yZ,get?_update_other->EJ,size_update->RQ,get?->afu
open PySem.Expr renaming casesOn->jQ,Slice->agN
open Array renaming length_toList->kq,getElem?_toList->rq,getD->wm,getElem?_eq_getElem->yF,toArray_toList->yG,replicate->Ef,size->Eg,toList_append->Eh,getD_eq_getD_getElem?->IL,getElem?_eq_none->Qt,mk->Qu,size_append->Qv,size_map->Qw,size_replicate->Qx,toList_push->Qy,empty_append->adQ,ext'->adR,find?_isSome->adS,foldl_toList->adT,getElem?_eq_some_iff->adU,size_push->adV,toList_inj->adW
open PyProof.Rows renaming seqObj->kM,IntsAre->sK,tail_any->tO,StrsAre->yW,subscriptTail->yX,sortedHeap->EA,evalArgs_nil3->Jn,args_list_sort->Rl,args_sorted1->Rm,entry_list_sort->Rn,entry_sorted->Rp,kind_sorted->Rq,listUpdate_at->Rr,plain_sorted->Rs,seqEpoch_at->Rt,slot_list_sort->Ru,sortedAll_at->Rv,sortedAll_old->Rx,sortedHeap_at->Ry,sortedHeap_old->Rz,getItem_tuple->af2,unpackItems_tuple->af3,sortedS->agA
open PySem.W renaming findIn->lS,nsIn->lT,kas_sort->oV,envX->qW,boot_heap->ry,instObj->rz,keepIn->sf,emptyDict->sQ,listOf->uV,kla_obj->y_,typeIs_bytes->za,segRun->BF,typeIn->BG,InstAt->EV,Looks->EW,clsIn->EX,defOf->EY,lookIn->EZ,CodeHd->JA,dictOf->JG,kms_hi->JH,kms_lo->JI,looks_findIn->JJ,piece_app->JK,piecesOf->JL,behindTheImports->Sd,boot_toks->Se,callWith_of->Sf,looks_clsIn->Sg,ownOf->Sh,XL->afQ,readsAllW_cons_inv->afR,readsAllW_nil_inv->afS
open Prod.mk renaming inj->nU,injEq->wT
open PySem.SetTable renaming below->oT,bits->oU,grown->uS,runEnd->uT,leap->BC,turns->ET,Probe->Jw,fill->Jy,insertAt->Jz,fits->afx,freeSlot->afy,has->afz,insertAt_perm->afA,layClean->afB,orStandIn->afC,sizeAbove->afD,slot->afE,tooFull->afF
open Prod renaming fst->pV,snd->wW
open PySem.Value renaming none->pX,ref->uU,int->BD,isStrOf->Sa,bytes->afI,isInt->afJ,type->afK,casesOn->agR
open PySem.PyData renaming eqv->qu,depthAll->se,canLay0->sM,canLayAll0->sO,depth->sP,eqvAll->xc,list->xe,int->EL,strOk->RW,keyHash->afw
open Classical renaming epsilon->qS,byContradiction->QB,epsilon_spec->adZ
open PySem.NameKind renaming free->qU,casesOn->agQ
open PySem.SeqAt renaming shaped->qV
open PySem.Obj renaming mapSeq->sd,data_mapFields->xb,putSet->EK,putNameByArray->Ju,putName_eq->Jv,cls_mapFields->RS,isFreed_of_fields->RT,mapFields->RU
open PySem.Heap.SameBut renaming update->sL,refl->agP
open Ne renaming symm->wS
open PySem.Builtin.Range renaming rangeSize->wZ,rangeFitsLong->af8,small->af9
open PySem.CmpOp renaming Eq->w_,NotEq->EG
open PySem.SetTable.probe renaming go->xg
open Nat.succ renaming inj->yU
open ForInStep renaming yield->Bn
open PySem.Calls renaming spliced_cons->Bw,Name_function_global->ED,evalArgs_plain->EE,spliced_nil->Jo,callWith_builtin->RA,call_function_entry->RB
open PySem.F renaming plainAttrs_dict->Bx,slot_dict_pop->By,bm_plain->Jp,entry_dict_pop->Jq,slot_dict_clear->Jr,slot_dict_get->Js,args_dict_pop_3->RL,bm_called->RM,excBase_Exception->RN,args_dict_clear_1->aff,args_dict_get_2->afg,args_object_init_2->afh,called_set->afi,entry_dict_clear->afj,entry_dict_get->afk,plainAttrs_list->afl,plain_set_new->afm,slot_dict_delitem->afn,slot_list_extend->afo,slot_set_iter->afp,slot_tuple_getitem->afq,type_dict_clear->afr,type_dict_get->afs,type_dict_pop->aft
open PySem.SetTable.layClean renaming free->BB
open PySem.W.KBw renaming IsBytesIter->BE,iter_typeIs->JD,pyIter_bytes->JE,slot_next->JF,args_next->afL,entry_next->afM
open PySem.Around renaming frames_deeper->EB,under_plainId->EC
open PySem.Flow renaming next->EI
open PySem.Sem.alloc renaming elim->EM
open PySem.Sem.ask renaming elim->EN
open PySem.Sem.call renaming elim->EO
open PySem.Sem.fresh renaming elim->EP
open PySem.Sem.handled renaming elim->EQ
open PySem.Sem.load renaming elim->ER
open PySem.Sem.update renaming elim->ES
open Eq renaming trans->IN
open List.Perm renaming cons->IO,swap->IQ,eq_nil->QG,eq_of_pairwise->QH
open PySem.SetTable.below renaming go->Jx
open PySem.W.Fast renaming te14364793385576792824->JB,tw14364793385576792824->JC
open Int.ofNat renaming inj->QF
open List.Sublist renaming refl->QI
open PyProof.Rows.F renaming plain_set_update_loop->Rj,entry_set_update_loop->af1
open PyProof.Rows.IntsAre renaming length->Rk
open PySem.Code renaming quiet_builtin->RC
open PySem.Expr.Call renaming elim->RD
open PySem.Expr.Constant renaming elim->RE
open PySem.Expr.Lambda renaming elim->RF
open PySem.Expr.Name renaming elim->RG
open PySem.Expr.Slice renaming elim->RH
open PySem.Expr.Subscript renaming elim->RI
open PySem.Expr.Tuple renaming elim->RJ
open PySem.Expr.UnaryOp renaming elim->RK
open PySem.Operator renaming Add->RV
open PySem.Sem.at renaming elim->RX
open PySem.Sem.point renaming elim->RY
open PySem.Sem.rule renaming elim->RZ
open PySem.Stmt.Return renaming elim->R_
open PySem.W.FB renaming slot_bytes_getitem->Sb
open PySem.W.Looks renaming of_pure->Sc,ld->afO
open PySem.Walks renaming list->Si
open PySem.pickOrder renaming go->SE
open Decidable renaming em->ae0
open List.Pairwise renaming imp_of_mem->ae9,filterMap->agy,map->agz
open List.cons renaming inj->aeb
open Pure renaming pure->af0
open PyProof renaming noPylong_small->af4
open PySem.Builtin.Bytes renaming joined->af5,takeBufferQuiet?->af6,tooLong->af7,buffer?->agC,fitsIndex->agD,fullReadOnly->agE,joinItems->agF,joinLetGo->agG,payload->agH,takeBuffer?->agI
open PySem.Builtin.SmallTypes renaming nextOf->afa
open PySem.Builtin renaming bitAnd->afb
open PySem.DictEntry renaming refKey->afd
open PySem.Env renaming kindOf->afe
open PySem.IsRange renaming new->afv
open PySem.Stmt renaming casesOn->afG
open PySem.StrLaws renaming found_one->afH
open PySem.W.KBy renaming ite_no->afN
open PySem.W.WShape renaming hasItems->afP
open List.Nodup renaming sublist->agx
open PySem.Arguments renaming casesOn->agB
open PySem.Builtin.Frozenset renaming slot0->agJ
open PySem.Builtin.List renaming listLengthHint->agK
open PySem.Expr.Attribute renaming elim->agL
open PySem.Expr.ListComp renaming elim->agM
open PySem.Heap.IsSliceOf renaming new->agO
open Std.Legacy renaming Range->agS
open Std.Legacy.Range renaming forIn_eq_forIn_range'->agT,size->agU
noncomputable section
namespace Internal
universe u
section
variable{a:Sort _}{b:Sort _}{c:Sort _}{d:Sort _}{e:Sort _}{f:Sort _}{g:Sort _}{G A B C D E F H I J K:Prop}
def gP(p:A/\B)(k:A->B->G):G:=k p.1 p.2
def iT(p:A/\B/\C)(k:A->B->C->G):G:=gP p.2 (k p.1)
def jZ(p:A/\B/\C/\D)(k:A->B->C->D->G):G:=iT p.2 (k p.1)
def pi(p:A/\B/\C/\D/\E)(k:A->B->C->D->E->G):G:=jZ p.2 (k p.1)
def Bb(p:A/\B/\C/\D/\E/\F)(k:A->B->C->D->E->F->G):G:=pi p.2 (k p.1)
def PU(p:A/\B/\C/\D/\E/\F/\H)(k:A->B->C->D->E->F->H->G):G:=Bb p.2 (k p.1)
def DQ(p:A/\B/\C/\D/\E/\F/\H/\I)(k:A->B->C->D->E->F->H->I->G):G:=PU p.2 (k p.1)
def acw(p:A/\B/\C/\D/\E/\F/\H/\I/\J)(k:A->B->C->D->E->F->H->I->J->G):G:=DQ p.2 (k p.1)
def DP(p:A/\B/\C/\D/\E/\F/\H/\I/\J/\K)(k:A->B->C->D->E->F->H->I->J->K->G):G:=acw p.2 (k p.1)
def MG(p:A)(q:B):A/\B:=⟨p,q⟩
def iy(p:A)(q:B)(r:C):A/\B/\C:=⟨p,MG q r⟩
def kg(p:A)(q:B)(r:C)(s:D):A/\B/\C/\D:=⟨p,iy q r s⟩
def su(p:A)(q:B)(r:C)(s:D)(t:E):A/\B/\C/\D/\E:=⟨p,kg q r s t⟩
def MH(p:A)(q:B)(r:C)(s:D)(t:E)(u:F):A/\B/\C/\D/\E/\F:=⟨p,su q r s t u⟩
def MI(p:A)(q:B)(r:C)(s:D)(t:E)(u:F)(v:H):A/\B/\C/\D/\E/\F/\H:=⟨p,MH q r s t u v⟩
def Gx(p:A)(q:B)(r:C)(s:D)(t:E)(u:F)(v:H)(a:I):A/\B/\C/\D/\E/\F/\H/\I:=⟨p,MI q r s t u v a⟩
def K2(p:A)(q:B)(r:C)(s:D)(t:E)(u:F)(v:H)(a:I)(x:J):A/\B/\C/\D/\E/\F/\H/\I/\J:=⟨p,Gx q r s t u v a x⟩
def MF(p:A)(q:B)(r:C)(s:D)(t:E)(u:F)(v:H)(a:I)(x:J)(b:K):A/\B/\C/\D/\E/\F/\H/\I/\J/\K:=⟨p,K2 q r s t u v a x b⟩
section
variable{A B C D E F H:a->Prop}
def gI(p:∃x,A x)(k:∀x,A x->G):G:=p.elim k
def gy(p:∃x,A x/\B x)(k:∀x,A x->B x->G):G:=p.elim λx r=>gP r (k x)
def jy(p:∃x,A x/\B x/\C x)(k:∀x,A x->B x->C x->G):G:=p.elim λx r=>iT r (k x)
def mF(p:∃x,A x/\B x/\C x/\D x)(k:∀x,A x->B x->C x->D x->G):G:=p.elim λx r=>jZ r (k x)
def acx(p:∃x,A x/\B x/\C x/\D x/\E x)(k:∀x,A x->B x->C x->D x->E x->G):G:=p.elim λx r=>pi r (k x)
def PV(p:∃x,A x/\B x/\C x/\D x/\E x/\F x)(k:∀x,A x->B x->C x->D x->E x->F x->G):G:=p.elim λx r=>Bb r (k x)
def K3(x:a)(p:A x):∃x,A x:=⟨x,p⟩
def gx(x:a)(p:A x)(q:B x):∃x,A x/\B x:=⟨x,MG p q⟩
def iU(x:a)(p:A x)(q:B x)(r:C x):∃x,A x/\B x/\C x:=⟨x,iy p q r⟩
def n_(x:a)(p:A x)(q:B x)(r:C x)(s:D x):∃x,A x/\B x/\C x/\D x:=⟨x,kg p q r s⟩
def Ab(x:a)(p:A x)(q:B x)(r:C x)(s:D x)(o:E x):∃x,A x/\B x/\C x/\D x/\E x:=⟨x,su p q r s o⟩
def Ac(x:a)(p:A x)(q:B x)(r:C x)(s:D x)(o:E x)(n:F x):∃x,A x/\B x/\C x/\D x/\E x/\F x:=⟨x,MH p q r s o n⟩
def K4(x:a)(p:A x)(q:B x)(r:C x)(s:D x)(o:E x)(n:F x)(m:H x):∃x,A x/\B x/\C x/\D x/\E x/\F x/\H x:=⟨x,MI p q r s o n m⟩
end
section
variable{A B C D E F H:a->b->Prop}
def kS(p:∃x a,A x a)(k:∀x a,A x a->G):G:=p.elim λx r=>gI r (k x)
def jR(p:∃x a,A x a/\B x a)(k:∀x a,A x a->B x a->G):G:=p.elim λx r=>gy r (k x)
def kJ(p:∃x a,A x a/\B x a/\C x a)(k:∀x a,A x a->B x a->C x a->G):G:=p.elim λx r=>jy r (k x)
def DR(p:∃x a,A x a/\B x a/\C x a/\D x a)(k:∀x a,A x a->B x a->C x a->D x a->G):G:=p.elim λx r=>mF r (k x)
def PW(p:∃x a,A x a/\B x a/\C x a/\D x a/\E x a)(k:∀x a,A x a->B x a->C x a->D x a->E x a->G):G:=p.elim λx r=>acx r (k x)
def acy(p:∃x a,A x a/\B x a/\C x a/\D x a/\E x a/\F x a)(k:∀x a,A x a->B x a->C x a->D x a->E x a->F x a->G):G:=p.elim λx r=>PV r (k x)
def qA(x:a)(c:b)(p:A x c):∃x c,A x c:=⟨x,K3 c p⟩
def nF(x:a)(c:b)(p:A x c)(q:B x c):∃x c,A x c/\B x c:=⟨x,gx c p q⟩
def jq(x:a)(c:b)(p:A x c)(q:B x c)(r:C x c):∃x c,A x c/\B x c/\C x c:=⟨x,iU c p q r⟩
def rL(x:a)(c:b)(p:A x c)(q:B x c)(r:C x c)(s:D x c):∃x c,A x c/\B x c/\C x c/\D x c:=⟨x,n_ c p q r s⟩
def K5(x:a)(c:b)(p:A x c)(q:B x c)(r:C x c)(s:D x c)(o:E x c):∃x c,A x c/\B x c/\C x c/\D x c/\E x c:=⟨x,Ab c p q r s o⟩
def Gy(x:a)(c:b)(p:A x c)(q:B x c)(r:C x c)(s:D x c)(o:E x c)(n:F x c):∃x c,A x c/\B x c/\C x c/\D x c/\E x c/\F x c:=⟨x,Ac c p q r s o n⟩
def MJ(x:a)(c:b)(p:A x c)(q:B x c)(r:C x c)(s:D x c)(o:E x c)(n:F x c)(m:H x c):∃x c,A x c/\B x c/\C x c/\D x c/\E x c/\F x c/\H x c:=⟨x,K4 c p q r s o n m⟩
end
section
variable{A B C D E F H:a->b->c->Prop}
def PX(p:∃x a b,A x a b)(k:∀x a b,A x a b->G):G:=p.elim λx r=>kS r (k x)
def nN(p:∃x a b,A x a b/\B x a b)(k:∀x a b,A x a b->B x a b->G):G:=p.elim λx r=>jR r (k x)
def sJ(p:∃x a b,A x a b/\B x a b/\C x a b)(k:∀x a b,A x a b->B x a b->C x a b->G):G:=p.elim λx r=>kJ r (k x)
def DS(p:∃x a b,A x a b/\B x a b/\C x a b/\D x a b)(k:∀x a b,A x a b->B x a b->C x a b->D x a b->G):G:=p.elim λx r=>DR r (k x)
def tI(p:∃x a b,A x a b/\B x a b/\C x a b/\D x a b/\E x a b)(k:∀x a b,A x a b->B x a b->C x a b->D x a b->E x a b->G):G:=p.elim λx r=>PW r (k x)
def MK(x:a)(d:b)(e:c)(p:A x d e):∃x d e,A x d e:=⟨x,qA d e p⟩
def vx(x:a)(d:b)(e:c)(p:A x d e)(q:B x d e):∃x d e,A x d e/\B x d e:=⟨x,nF d e p q⟩
def ti(x:a)(d:b)(e:c)(p:A x d e)(q:B x d e)(r:C x d e):∃x d e,A x d e/\B x d e/\C x d e:=⟨x,jq d e p q r⟩
def rh(x:a)(d:b)(e:c)(p:A x d e)(q:B x d e)(r:C x d e)(s:D x d e):∃x d e,A x d e/\B x d e/\C x d e/\D x d e:=⟨x,rL d e p q r s⟩
def sv(x:a)(d:b)(e:c)(p:A x d e)(q:B x d e)(r:C x d e)(s:D x d e)(o:E x d e):∃x d e,A x d e/\B x d e/\C x d e/\D x d e/\E x d e:=⟨x,K5 d e p q r s o⟩
def ML(x:a)(d:b)(e:c)(p:A x d e)(q:B x d e)(r:C x d e)(s:D x d e)(o:E x d e)(n:F x d e):∃x d e,A x d e/\B x d e/\C x d e/\D x d e/\E x d e/\F x d e:=⟨x,Gy d e p q r s o n⟩
def K6(x:a)(d:b)(e:c)(p:A x d e)(q:B x d e)(r:C x d e)(s:D x d e)(o:E x d e)(n:F x d e)(m:H x d e):∃x d e,A x d e/\B x d e/\C x d e/\D x d e/\E x d e/\F x d e/\H x d e:=⟨x,MJ d e p q r s o n m⟩
end
section
variable{A B C D E F H:a->b->c->d->Prop}
def PY(p:∃x a b c,A x a b c)(k:∀x a b c,A x a b c->G):G:=p.elim λx r=>PX r (k x)
def pS(p:∃x a b c,A x a b c/\B x a b c)(k:∀x a b c,A x a b c->B x a b c->G):G:=p.elim λx r=>nN r (k x)
def yv(p:∃x a b c,A x a b c/\B x a b c/\C x a b c)(k:∀x a b c,A x a b c->B x a b c->C x a b c->G):G:=p.elim λx r=>sJ r (k x)
def DT(p:∃x a b c,A x a b c/\B x a b c/\C x a b c/\D x a b c)(k:∀x a b c,A x a b c->B x a b c->C x a b c->D x a b c->G):G:=p.elim λx r=>DS r (k x)
def MM(x:a)(e:b)(f:c)(g:d)(p:A x e f g):∃x e f g,A x e f g:=⟨x,MK e f g p⟩
def Ad(x:a)(e:b)(f:c)(g:d)(p:A x e f g)(q:B x e f g):∃x e f g,A x e f g/\B x e f g:=⟨x,vx e f g p q⟩
def xW(x:a)(e:b)(f:c)(g:d)(p:A x e f g)(q:B x e f g)(r:C x e f g):∃x e f g,A x e f g/\B x e f g/\C x e f g:=⟨x,ti e f g p q r⟩
def CT(x:a)(e:b)(f:c)(g:d)(p:A x e f g)(q:B x e f g)(r:C x e f g)(s:D x e f g):∃x e f g,A x e f g/\B x e f g/\C x e f g/\D x e f g:=⟨x,rh e f g p q r s⟩
def MN(x:a)(e:b)(f:c)(g:d)(p:A x e f g)(q:B x e f g)(r:C x e f g)(s:D x e f g)(o:E x e f g):∃x e f g,A x e f g/\B x e f g/\C x e f g/\D x e f g/\E x e f g:=⟨x,sv e f g p q r s o⟩
def Ae(x:a)(e:b)(f:c)(g:d)(p:A x e f g)(q:B x e f g)(r:C x e f g)(s:D x e f g)(o:E x e f g)(n:F x e f g):∃x e f g,A x e f g/\B x e f g/\C x e f g/\D x e f g/\E x e f g/\F x e f g:=⟨x,ML e f g p q r s o n⟩
def K7(x:a)(e:b)(f:c)(g:d)(p:A x e f g)(q:B x e f g)(r:C x e f g)(s:D x e f g)(o:E x e f g)(n:F x e f g)(m:H x e f g):∃x e f g,A x e f g/\B x e f g/\C x e f g/\D x e f g/\E x e f g/\F x e f g/\H x e f g:=⟨x,K6 e f g p q r s o n m⟩
end
section
variable{A B C D E F H:a->b->c->d->e->Prop}
def PZ(p:∃x a b c v,A x a b c v)(k:∀x a b c v,A x a b c v->G):G:=p.elim λx r=>PY r (k x)
def K8(x:a)(f:b)(g:c)(h:d)(v:e)(p:A x f g h v):∃x f g h v,A x f g h v:=⟨x,MM f g h v p⟩
def MO(x:a)(f:b)(g:c)(h:d)(v:e)(p:A x f g h v)(q:B x f g h v)(r:C x f g h v)(s:D x f g h v)(o:E x f g h v):∃x f g h v,A x f g h v/\B x f g h v/\C x f g h v/\D x f g h v/\E x f g h v:=⟨x,MN f g h v p q r s o⟩
def K9(x:a)(f:b)(g:c)(h:d)(v:e)(p:A x f g h v)(q:B x f g h v)(r:C x f g h v)(s:D x f g h v)(o:E x f g h v)(n:F x f g h v)(m:H x f g h v):∃x f g h v,A x f g h v/\B x f g h v/\C x f g h v/\D x f g h v/\E x f g h v/\F x f g h v/\H x f g h v:=⟨x,K7 f g h v p q r s o n m⟩
end
section
variable{A B C D E F H:a->b->c->d->e->f->Prop}
def acz(p:∃x a b c v u,A x a b c v u)(k:∀x a b c v u,A x a b c v u->G):G:=p.elim λx r=>PZ r (k x)
def L5(x:a)(g:b)(h:c)(i:d)(v:e)(u:f)(p:A x g h i v u)(q:B x g h i v u)(r:C x g h i v u)(s:D x g h i v u)(o:E x g h i v u):∃x g h i v u,A x g h i v u/\B x g h i v u/\C x g h i v u/\D x g h i v u/\E x g h i v u:=⟨x,MO g h i v u p q r s o⟩
def L7(x:a)(g:b)(h:c)(i:d)(v:e)(u:f)(p:A x g h i v u)(q:B x g h i v u)(r:C x g h i v u)(s:D x g h i v u)(o:E x g h i v u)(n:F x g h i v u)(m:H x g h i v u):∃x g h i v u,A x g h i v u/\B x g h i v u/\C x g h i v u/\D x g h i v u/\E x g h i v u/\F x g h i v u/\H x g h i v u:=⟨x,K9 g h i v u p q r s o n m⟩
end
section
variable{A B C D E F H:a->b->c->d->e->f->g->Prop}
def MP(x:a)(h:b)(i:c)(j:d)(v:e)(u:f)(t:g)(p:A x h i j v u t)(q:B x h i j v u t)(r:C x h i j v u t)(s:D x h i j v u t)(o:E x h i j v u t):∃x h i j v u t,A x h i j v u t/\B x h i j v u t/\C x h i j v u t/\D x h i j v u t/\E x h i j v u t:=⟨x,L5 h i j v u t p q r s o⟩
def L8(x:a)(h:b)(i:c)(j:d)(v:e)(u:f)(t:g)(p:A x h i j v u t)(q:B x h i j v u t)(r:C x h i j v u t)(s:D x h i j v u t)(o:E x h i j v u t)(n:F x h i j v u t)(m:H x h i j v u t):∃x h i j v u t,A x h i j v u t/\B x h i j v u t/\C x h i j v u t/\D x h i j v u t/\E x h i j v u t/\F x h i j v u t/\H x h i j v u t:=⟨x,L7 h i j v u t p q r s o n m⟩
end
end
@[elab_as_elim] def lE{P:t->Prop}(h:a=b)(p:P b):P a:=h▸p
@[elab_as_elim] def rE{P:t->Prop}(h:a=b)(p:P a):P b:=h▸p
def nS{C:Prop}(e:fU=fR a):C:=by cases e
def sN{C:Prop}(e:fR a=fU):C:=by cases e
def tF{C:Prop}(e:fW=fY):C:=by cases e
def fT{C:Prop}(e:fY=fW):C:=by cases e
def nC{C:Prop}(e:[]=a::l):C:=by cases e
def cN{C:Prop}(e:a::l=[]):C:=by cases e
def nM{C:Prop}(e:a∈([]:List h)):C:=absurd e kK
def bI{C:Prop}(h:o.bind f=fR b)(k:∀a,o=fR a->f a=fR b->C):C:=by induction o with|none=>exact nS h|some a=>exact k a rfl h
def mI{C:Prop}(h:o.map f=fR b)(k:∀a,o=fR a->f a=b->C):C:=by induction o with|none=>exact nS h|some a=>exact k a rfl (gz h)
def mE{l:List t}{G:Prop}(h:b∈l.map f)(k:∀a,a∈l->f a=b->G):G:=gy (yP.mp h) k
def fE{l:List t}{G:Prop}(h:b∈l.filterMap f)(k:∀a,a∈l->f a=fR b->G):G:=gy (Bs.mp h) k
def iE{G:Prop}(h:o.isSome=fW)(k:∀a,o=fR a->G):G:=gI (aeY.mp h) k
def gE{l:List t}{G:Prop}(h:a∈l)(k:∀i:Nat,l[i]?=fR a->G):G:=gI (List.mem_iff_getElem?.mp h) k
def iX{a b c d:Nat}(h:c<=d)(e:a+d<=b+c:=by simp+arith):a<=b:=Nat.le_of_add_le_add_right (gu e (aeN h b))
def kZ{a b c d f g:Nat}(h:c<=d)(i:f<=g)(e:a+d+g<=b+c+f:=by simp+arith):a<=b:=iX h (iX i e)
def lG{a b c d f g j k:Nat}(h:c<=d)(i:f<=g)(l:j<=k)(e:a+d+g+k<=b+c+f+j:=by simp+arith):a<=b:=kZ h i (iX l e)
def sT{a b c d:Nat}(h:c=d)(e:a+d=b+c:=by simp+arith):a=b:=Nat.add_right_cancel (e.trans (congrArg (b+·) h))
def rB{a b c d f g:Nat}(h:c=d)(i:f=g)(e:a+d+g=b+c+f:=by simp+arith):a=b:=sT h (sT i e)
def Tk{a b c d f g j k:Nat}(h:c=d)(i:f=g)(l:j=k)(e:a+d+g+k=b+c+f+j:=by simp+arith):a=b:=rB h i (sT l e)
def ra{a b c d:Int}(h:c<=d)(e:a+d<=b+c:=by simp+arith):a<=b:=Int.le_of_add_le_add_right (yJ e (Int.add_le_add_left h b))
def oB{a b c d f g:Int}(h:c<=d)(i:f<=g)(e:a+d+g<=b+c+f:=by simp+arith):a<=b:=ra h (ra i e)
def Tm{a b c d:Int}(h:c=d)(e:a+d=b+c:=by simp+arith):a=b:=(Int.add_left_inj _).mp (e.trans (congrArg (b+·) h))
def I1{q l k:Int}(h:q<=l)(e:0<k:=by decide):¬q=l+k:=λa=>wq.mpr h (a▸Int.lt_add_of_pos_right l e)
def xz{q l k:Int}(h:q<=l)(e:0<k:=by decide):¬l+k=q:=λa=>I1 h e a.symm
def Fu{n:Nat}(h:q<=(n:Int))(e:0<=k:=by decide):¬q=((n+1:Nat):Int)+k:=λa=>wq.mpr h (a▸Int.lt_of_lt_of_le (Int.lt_succ n) (Int.le_add_of_nonneg_right e))
def Fv{n:Nat}(e:0<k:=by decide):0<(n:Int)+k:=Int.add_pos_of_nonneg_of_pos (kr n) e
def BY{n N:Nat}(h:n<=N)(e:(N:Int)<C:=by decide):(n:Int)<C:=El (kP.mpr h) e
def I4{a b:Nat}(h:q<=(a:Int))(i:a<=b):q<=(b:Int):=yJ h (kP.mpr i)
def I5{l j k:Int}(e:¬j=k:=by decide):¬l+j=l+k:=λa=>e (Int.add_left_cancel a)
def mc{P:x->Prop}(h:P a)(t:∀n∈l,P n):∀n∈a::l,P n:=uK.mpr ⟨h,t⟩
def ge:a∈a::l:=.head _
def gZ:a∈b::a::l:=.tail _ ge
def jh:a∈b::c::a::l:=.tail _ gZ
def mq:a∈b::c::d::a::l:=.tail _ jh
def pb:a∈b::c::d::e::a::l:=.tail _ mq
def my:a∈b::c::d::e::f::a::l:=.tail _ pb
def hW:List.Sublist l (a::l):=.cons _ (QI _)
def gO{i:Decidable p}(h:decide p=fW:=by rfl):p:=of_decide_eq_true h
theorem E1{a:Type}(h:a:=by repeat' first|exact default|constructor|intro):Nonempty a:=⟨h⟩
def qE{a}(S:a->Prop)(x:a)[n:Nonempty a]:S (qS λt=>¬S t)->S x:=λh=>by
 by_cases q:∃t,¬S t;exact absurd h (adZ q);exact QB λm=>q ⟨x,m⟩
section
variable{a b c d e f g i j k l m n o p q r s u v:Type}
section
variable{S:a->Prop}
@[irreducible] noncomputable def AA{h:Nonempty a}:=@qS _ h λt=>¬S t
def Hp(b:Nonempty a)(h:S (AA (S:=S) (h:=b))):∀a,S a:=by intro a;unfold AA at h;exact qE (λt=>S t) a h
end
section
variable{S:a->b->Prop}
@[irreducible] noncomputable def vN{h:Nonempty (a×b)}:=@qS _ h λt=>¬S t.1 t.2
def Of(c:Nonempty (a×b))(h:S (vN (S:=S) (h:=c)).1 (vN (S:=S) (h:=c)).2):∀a b,S a b:=by intro a b;unfold vN at h;exact qE (λt=>S t.1 t.2) (a,b) h
end
section
variable{S:a->b->c->Prop}
@[irreducible] noncomputable def mC{h:Nonempty ((a×b)×c)}:=@qS _ h λt=>¬S t.1.1 t.1.2 t.2
def yk(d:Nonempty ((a×b)×c))(h:S (mC (S:=S) (h:=d)).1.1 (mC (S:=S) (h:=d)).1.2 (mC (S:=S) (h:=d)).2):∀a b c,S a b c:=by intro a b c;unfold mC at h;exact qE (λt=>S t.1.1 t.1.2 t.2) ((a,b),c) h
end
section
variable{S:a->b->c->d->Prop}
@[irreducible] noncomputable def ku{h:Nonempty ((a×b)×(c×d))}:=@qS _ h λt=>¬S t.1.1 t.1.2 t.2.1 t.2.2
def vQ(e:Nonempty ((a×b)×(c×d)))(h:S (ku (S:=S) (h:=e)).1.1 (ku (S:=S) (h:=e)).1.2 (ku (S:=S) (h:=e)).2.1 (ku (S:=S) (h:=e)).2.2):∀a b c d,S a b c d:=by intro a b c d;unfold ku at h;exact qE (λt=>S t.1.1 t.1.2 t.2.1 t.2.2) ((a,b),(c,d)) h
end
section
variable{S:a->b->c->d->e->Prop}
@[irreducible] noncomputable def iz{h:Nonempty (((a×b)×c)×(d×e))}:=@qS _ h λt=>¬S t.1.1.1 t.1.1.2 t.1.2 t.2.1 t.2.2
def qJ(f:Nonempty (((a×b)×c)×(d×e)))(h:S (iz (S:=S) (h:=f)).1.1.1 (iz (S:=S) (h:=f)).1.1.2 (iz (S:=S) (h:=f)).1.2 (iz (S:=S) (h:=f)).2.1 (iz (S:=S) (h:=f)).2.2):∀a b c d e,S a b c d e:=by intro a b c d e;unfold iz at h;exact qE (λt=>S t.1.1.1 t.1.1.2 t.1.2 t.2.1 t.2.2) (((a,b),c),(d,e)) h
end
section
variable{S:a->b->c->d->e->f->Prop}
@[irreducible] noncomputable def gT{h:Nonempty (((a×b)×c)×((d×e)×f))}:=@qS _ h λt=>¬S t.1.1.1 t.1.1.2 t.1.2 t.2.1.1 t.2.1.2 t.2.2
def nI(g:Nonempty (((a×b)×c)×((d×e)×f)))(h:S (gT (S:=S) (h:=g)).1.1.1 (gT (S:=S) (h:=g)).1.1.2 (gT (S:=S) (h:=g)).1.2 (gT (S:=S) (h:=g)).2.1.1 (gT (S:=S) (h:=g)).2.1.2 (gT (S:=S) (h:=g)).2.2):∀a b c d e f,S a b c d e f:=by intro a b c d e f;unfold gT at h;exact qE (λt=>S t.1.1.1 t.1.1.2 t.1.2 t.2.1.1 t.2.1.2 t.2.2) (((a,b),c),((d,e),f)) h
end
section
variable{S:a->b->c->d->e->f->g->i->Prop}
@[irreducible] noncomputable def gw{h:Nonempty (((a×b)×(c×d))×((e×f)×(g×i)))}:=@qS _ h λt=>¬S t.1.1.1 t.1.1.2 t.1.2.1 t.1.2.2 t.2.1.1 t.2.1.2 t.2.2.1 t.2.2.2
def lx(j:Nonempty (((a×b)×(c×d))×((e×f)×(g×i))))(h:S (gw (S:=S) (h:=j)).1.1.1 (gw (S:=S) (h:=j)).1.1.2 (gw (S:=S) (h:=j)).1.2.1 (gw (S:=S) (h:=j)).1.2.2 (gw (S:=S) (h:=j)).2.1.1 (gw (S:=S) (h:=j)).2.1.2 (gw (S:=S) (h:=j)).2.2.1 (gw (S:=S) (h:=j)).2.2.2):∀a b c d e f g i,S a b c d e f g i:=by intro a b c d e f g i;unfold gw at h;exact qE (λt=>S t.1.1.1 t.1.1.2 t.1.2.1 t.1.2.2 t.2.1.1 t.2.1.2 t.2.2.1 t.2.2.2) (((a,b),(c,d)),((e,f),(g,i))) h
end
section
variable{S:a->b->c->d->e->f->g->i->j->k->Prop}
@[irreducible] noncomputable def gN{h:Nonempty ((((a×b)×c)×(d×e))×(((f×g)×i)×(j×k)))}:=@qS _ h λt=>¬S t.1.1.1.1 t.1.1.1.2 t.1.1.2 t.1.2.1 t.1.2.2 t.2.1.1.1 t.2.1.1.2 t.2.1.2 t.2.2.1 t.2.2.2
def qj(l:Nonempty ((((a×b)×c)×(d×e))×(((f×g)×i)×(j×k))))(h:S (gN (S:=S) (h:=l)).1.1.1.1 (gN (S:=S) (h:=l)).1.1.1.2 (gN (S:=S) (h:=l)).1.1.2 (gN (S:=S) (h:=l)).1.2.1 (gN (S:=S) (h:=l)).1.2.2 (gN (S:=S) (h:=l)).2.1.1.1 (gN (S:=S) (h:=l)).2.1.1.2 (gN (S:=S) (h:=l)).2.1.2 (gN (S:=S) (h:=l)).2.2.1 (gN (S:=S) (h:=l)).2.2.2):∀a b c d e f g i j k,S a b c d e f g i j k:=by intro a b c d e f g i j k;unfold gN at h;exact qE (λt=>S t.1.1.1.1 t.1.1.1.2 t.1.1.2 t.1.2.1 t.1.2.2 t.2.1.1.1 t.2.1.1.2 t.2.1.2 t.2.2.1 t.2.2.2) ((((a,b),c),(d,e)),(((f,g),i),(j,k))) h
end
section
variable{S:a->b->c->d->e->f->g->i->j->k->l->m->Prop}
@[irreducible] noncomputable def hG{h:Nonempty ((((a×b)×c)×((d×e)×f))×(((g×i)×j)×((k×l)×m)))}:=@qS _ h λt=>¬S t.1.1.1.1 t.1.1.1.2 t.1.1.2 t.1.2.1.1 t.1.2.1.2 t.1.2.2 t.2.1.1.1 t.2.1.1.2 t.2.1.2 t.2.2.1.1 t.2.2.1.2 t.2.2.2
def vO(n:Nonempty ((((a×b)×c)×((d×e)×f))×(((g×i)×j)×((k×l)×m))))(h:S (hG (S:=S) (h:=n)).1.1.1.1 (hG (S:=S) (h:=n)).1.1.1.2 (hG (S:=S) (h:=n)).1.1.2 (hG (S:=S) (h:=n)).1.2.1.1 (hG (S:=S) (h:=n)).1.2.1.2 (hG (S:=S) (h:=n)).1.2.2 (hG (S:=S) (h:=n)).2.1.1.1 (hG (S:=S) (h:=n)).2.1.1.2 (hG (S:=S) (h:=n)).2.1.2 (hG (S:=S) (h:=n)).2.2.1.1 (hG (S:=S) (h:=n)).2.2.1.2 (hG (S:=S) (h:=n)).2.2.2):∀a b c d e f g i j k l m,S a b c d e f g i j k l m:=by intro a b c d e f g i j k l m;unfold hG at h;exact qE (λt=>S t.1.1.1.1 t.1.1.1.2 t.1.1.2 t.1.2.1.1 t.1.2.1.2 t.1.2.2 t.2.1.1.1 t.2.1.1.2 t.2.1.2 t.2.2.1.1 t.2.2.1.2 t.2.2.2) ((((a,b),c),((d,e),f)),(((g,i),j),((k,l),m))) h
end
section
variable{S:a->b->c->d->e->f->g->i->j->k->l->m->n->o->Prop}
@[irreducible] noncomputable def gY{h:Nonempty ((((a×b)×(c×d))×((e×f)×g))×(((i×j)×(k×l))×((m×n)×o)))}:=@qS _ h λt=>¬S t.1.1.1.1 t.1.1.1.2 t.1.1.2.1 t.1.1.2.2 t.1.2.1.1 t.1.2.1.2 t.1.2.2 t.2.1.1.1 t.2.1.1.2 t.2.1.2.1 t.2.1.2.2 t.2.2.1.1 t.2.2.1.2 t.2.2.2
def yj(p:Nonempty ((((a×b)×(c×d))×((e×f)×g))×(((i×j)×(k×l))×((m×n)×o))))(h:S (gY (S:=S) (h:=p)).1.1.1.1 (gY (S:=S) (h:=p)).1.1.1.2 (gY (S:=S) (h:=p)).1.1.2.1 (gY (S:=S) (h:=p)).1.1.2.2 (gY (S:=S) (h:=p)).1.2.1.1 (gY (S:=S) (h:=p)).1.2.1.2 (gY (S:=S) (h:=p)).1.2.2 (gY (S:=S) (h:=p)).2.1.1.1 (gY (S:=S) (h:=p)).2.1.1.2 (gY (S:=S) (h:=p)).2.1.2.1 (gY (S:=S) (h:=p)).2.1.2.2 (gY (S:=S) (h:=p)).2.2.1.1 (gY (S:=S) (h:=p)).2.2.1.2 (gY (S:=S) (h:=p)).2.2.2):∀a b c d e f g i j k l m n o,S a b c d e f g i j k l m n o:=by intro a b c d e f g i j k l m n o;unfold gY at h;exact qE (λt=>S t.1.1.1.1 t.1.1.1.2 t.1.1.2.1 t.1.1.2.2 t.1.2.1.1 t.1.2.1.2 t.1.2.2 t.2.1.1.1 t.2.1.1.2 t.2.1.2.1 t.2.1.2.2 t.2.2.1.1 t.2.2.1.2 t.2.2.2) ((((a,b),(c,d)),((e,f),g)),(((i,j),(k,l)),((m,n),o))) h
end
section
variable{S:a->b->c->d->e->f->g->i->j->k->l->m->n->o->p->q->Prop}
@[irreducible] noncomputable def ic{h:Nonempty ((((a×b)×(c×d))×((e×f)×(g×i)))×(((j×k)×(l×m))×((n×o)×(p×q))))}:=@qS _ h λt=>¬S t.1.1.1.1 t.1.1.1.2 t.1.1.2.1 t.1.1.2.2 t.1.2.1.1 t.1.2.1.2 t.1.2.2.1 t.1.2.2.2 t.2.1.1.1 t.2.1.1.2 t.2.1.2.1 t.2.1.2.2 t.2.2.1.1 t.2.2.1.2 t.2.2.2.1 t.2.2.2.2
def Dt(r:Nonempty ((((a×b)×(c×d))×((e×f)×(g×i)))×(((j×k)×(l×m))×((n×o)×(p×q)))))(h:S (ic (S:=S) (h:=r)).1.1.1.1 (ic (S:=S) (h:=r)).1.1.1.2 (ic (S:=S) (h:=r)).1.1.2.1 (ic (S:=S) (h:=r)).1.1.2.2 (ic (S:=S) (h:=r)).1.2.1.1 (ic (S:=S) (h:=r)).1.2.1.2 (ic (S:=S) (h:=r)).1.2.2.1 (ic (S:=S) (h:=r)).1.2.2.2 (ic (S:=S) (h:=r)).2.1.1.1 (ic (S:=S) (h:=r)).2.1.1.2 (ic (S:=S) (h:=r)).2.1.2.1 (ic (S:=S) (h:=r)).2.1.2.2 (ic (S:=S) (h:=r)).2.2.1.1 (ic (S:=S) (h:=r)).2.2.1.2 (ic (S:=S) (h:=r)).2.2.2.1 (ic (S:=S) (h:=r)).2.2.2.2):∀a b c d e f g i j k l m n o p q,S a b c d e f g i j k l m n o p q:=by intro a b c d e f g i j k l m n o p q;unfold ic at h;exact qE (λt=>S t.1.1.1.1 t.1.1.1.2 t.1.1.2.1 t.1.1.2.2 t.1.2.1.1 t.1.2.1.2 t.1.2.2.1 t.1.2.2.2 t.2.1.1.1 t.2.1.1.2 t.2.1.2.1 t.2.1.2.2 t.2.2.1.1 t.2.2.1.2 t.2.2.2.1 t.2.2.2.2) ((((a,b),(c,d)),((e,f),(g,i))),(((j,k),(l,m)),((n,o),(p,q)))) h
end
section
variable{S:a->b->c->d->e->f->g->i->j->k->l->m->n->o->p->q->r->s->u->v->Prop}
@[irreducible] noncomputable def gH{h:Nonempty (((((a×b)×c)×(d×e))×(((f×g)×i)×(j×k)))×((((l×m)×n)×(o×p))×(((q×r)×s)×(u×v))))}:=@qS _ h λt=>¬S t.1.1.1.1.1 t.1.1.1.1.2 t.1.1.1.2 t.1.1.2.1 t.1.1.2.2 t.1.2.1.1.1 t.1.2.1.1.2 t.1.2.1.2 t.1.2.2.1 t.1.2.2.2 t.2.1.1.1.1 t.2.1.1.1.2 t.2.1.1.2 t.2.1.2.1 t.2.1.2.2 t.2.2.1.1.1 t.2.2.1.1.2 t.2.2.1.2 t.2.2.2.1 t.2.2.2.2
def vP(w:Nonempty (((((a×b)×c)×(d×e))×(((f×g)×i)×(j×k)))×((((l×m)×n)×(o×p))×(((q×r)×s)×(u×v)))))(h:S (gH (S:=S) (h:=w)).1.1.1.1.1 (gH (S:=S) (h:=w)).1.1.1.1.2 (gH (S:=S) (h:=w)).1.1.1.2 (gH (S:=S) (h:=w)).1.1.2.1 (gH (S:=S) (h:=w)).1.1.2.2 (gH (S:=S) (h:=w)).1.2.1.1.1 (gH (S:=S) (h:=w)).1.2.1.1.2 (gH (S:=S) (h:=w)).1.2.1.2 (gH (S:=S) (h:=w)).1.2.2.1 (gH (S:=S) (h:=w)).1.2.2.2 (gH (S:=S) (h:=w)).2.1.1.1.1 (gH (S:=S) (h:=w)).2.1.1.1.2 (gH (S:=S) (h:=w)).2.1.1.2 (gH (S:=S) (h:=w)).2.1.2.1 (gH (S:=S) (h:=w)).2.1.2.2 (gH (S:=S) (h:=w)).2.2.1.1.1 (gH (S:=S) (h:=w)).2.2.1.1.2 (gH (S:=S) (h:=w)).2.2.1.2 (gH (S:=S) (h:=w)).2.2.2.1 (gH (S:=S) (h:=w)).2.2.2.2):∀a b c d e f g i j k l m n o p q r s u v,S a b c d e f g i j k l m n o p q r s u v:=by intro a b c d e f g i j k l m n o p q r s u v;unfold gH at h;exact qE (λt=>S t.1.1.1.1.1 t.1.1.1.1.2 t.1.1.1.2 t.1.1.2.1 t.1.1.2.2 t.1.2.1.1.1 t.1.2.1.1.2 t.1.2.1.2 t.1.2.2.1 t.1.2.2.2 t.2.1.1.1.1 t.2.1.1.1.2 t.2.1.1.2 t.2.1.2.1 t.2.1.2.2 t.2.2.1.1.1 t.2.2.1.1.2 t.2.2.1.2 t.2.2.2.1 t.2.2.2.2) (((((a,b),c),(d,e)),(((f,g),i),(j,k))),((((l,m),n),(o,p)),(((q,r),s),(u,v)))) h
end
end
open PySem PySem.Spec PySem.Calls PySem.W PyProof.Rows
def gQ(h:a=b:=by kernel_rfl):a=b:=h
def GC{i:Decidable p}(h:decide p=fW:=by kernel_rfl):p:=of_decide_eq_true h
inductive V where|c|e (b:Bool)|a (i:Int)|d (s:f_)|f (b:Array UInt8)|b (i:Nat)
noncomputable def V.ctorIdx:V->Nat:=@V.rec (λZ=>Nat) 0 (λZ=>1) (λZ=>2) (λZ=>3) (λZ=>4) (λZ=>5)
inductive O where|g (C:gG) (fs:List (f_×V))|a (xs:List V)|c (xs:List V)|d|e (a:List (Int×V))|b (a:List (f_×V))|f (q:f_)
noncomputable def O.ctorIdx:O->Nat:=@O.rec (λZ=>Nat) (λZ Z=>0) (λZ=>1) (λZ=>2) 3 (λZ=>4) (λZ=>5) (λZ=>6)
structure H where
 n:Nat
 get:Nat->Option O
inductive R(b:Type) where|b (a:b) (h:H)|c (C:gG) (h:H)|a
noncomputable def R.ctorIdx{b}:R b->Nat:=@R.rec b (λZ=>Nat) (λZ Z=>0) (λZ Z=>1) 2
def M(a:Type):Type:=H->R a
noncomputable def fX(a:h):M h:=λy=>.b a y
noncomputable def gc:M h:=λZ=>.a
noncomputable def ls(C:gG):M h:=λy=>.c C y
noncomputable def fS(m:M h)(f:h->M t):M t:=λy=>match m y with|.b a b=>f a b|.c C b=>.c C b|.a=>.a
noncomputable def gM(o:O):M V:=λy=>.b (.b y.n) {n:=y.n+1,get:=λi=>if i=y.n then fR o else y.get i}
noncomputable def lg(i:Nat):M O:=λy=>match y.get i with|some o=>.b o y|none=>.a
noncomputable def oG(i:Nat)(o:O):M Unit:=λy=>.b () {y with get:=λj=>if j=i then fR o else y.get j}
def ig:Option h->M h|some a=>fX a|none=>gc
noncomputable def hJ:Nat:=1000000
def sq:Const->M V|.none=>fX .c|.bool b=>fX (.e b)|.int i=>fX (.a i)|.str s=>if s.length<=hJ then fX (.d s)else gc|.bytes b=>if b.length<=hJ then fX (.f b.toArray)else gc|_=>gc
def nh(v:V):M (List V):=match v with
 |.b i=>fS (lg i) fun|.a xs=>fX xs|_=>gc
 |_=>gc
def Ov(v:V):M (List V):=match v with
 |.b i=>fS (lg i) fun|.a xs=>fX xs|.c xs=>fX xs|_=>gc
 |_=>gc
noncomputable def KQ(a _b:Int):Bool:=decide (a.natAbs<2^64)
def hM(e:Operator)(a b:V):M V:=match e,a,b with|.Add,.a x,.a c=>fX (.a (x+c))|.Sub,.a x,.a c=>fX (.a (x-c))|.Mult,.a x,.a c=>if KQ x c then fX (.a (x*c))else gc|.FloorDiv,.a x,.a c=>if 0<c/\c<1000 then fX (.a (x.fdiv c))else gc|.Mod,.a x,.a c=>if c≠0 then fX (.a (x.fmod c))else gc|.Pow,.a x,.a c=>if(0<=c/\c<=1000)/\x.natAbs<2^64 then fX (.a (x^c.toNat))else gc|.LShift,.a x,.a c=>if(0<=c/\c<=1000)/\x.natAbs<2^64 then fX (.a (x*2^c.toNat))else gc|.RShift,.a x,.a c=>if 0<=c then fX (.a (x.fdiv (2^c.toNat)))else gc|.BitAnd,.a x,.a c=>fX (.a (afb x c))|.Add,.d x,.d c=>if x.length+c.length<=hJ then fX (.d (x++c))else gc|.Add,.f x,.f c=>if x.size+c.size<=hJ then fX (.f (x++c))else gc|.Add,.b i,.b j=>fS (nh (.b i)) λxs=>fS (nh (.b j)) λd=>if xs.length+d.length<=hJ then gM (.a (xs++d))else gc|_,_,_=>gc
noncomputable def j_(f:V->Option tS):List V->Option (List tS)|[]=>fR []|x::xs=>match f x with|some d=>(j_ f xs).map (d::·)|none=>fU
noncomputable def Ht:V->Option tS|.a i=>fR (.int i)|.d s=>fR (.str s)|.e b=>fR (.bool b)|_=>fU
def iQ(y:H):Nat->V->Option tS
 |0,v=>Ht v
 |n+1,v=>match v with
  |.b i=>match y.get i with|some (.a xs)=>(j_ (iQ y n) xs).map .list|some (.c xs)=>(j_ (iQ y n) xs).map .tuple|_=>fU
  |v=>Ht v
def qz(a b:V):M Bool:=λy=>match a,b with
 |.a x,.a c=>.b (decide (x=c)) y
 |.d x,.d c=>.b (decide (x=c)) y
 |.b i,.b j=>match iQ y 3 (.b i),iQ y 3 (.b j)with|some d,fR e=>if qV d=fW/\qV e=fW then .b (qu d e) y else .a|_,_=>.a
 |_,_=>.a
noncomputable def qC:List V->Option (List Int)|[]=>fR []|.a i::r=>(qC r).map (i::·)|_=>fU
noncomputable def uA:List V->Option (List f_)|[]=>fR []|.d i::r=>(uA r).map (i::·)|_=>fU
noncomputable def Ay(s:f_):Option Nat:=match s.cps.toList with|[c]=>fR c|_=>fU
def m_(a b:V):M Bool:=match b with
 |.d t=>match a with
  |.d s=>match Ay s with|some c=>fX (decide (c∈t.cps.toList))|none=>gc
  |_=>gc
 |.b j=>fS (lg j) fun
  |.a xs=>match a with|.a i=>fS (ig (qC xs)) λis=>fX (decide (i∈is))|_=>gc
  |.c xs=>match a with|.d i=>fS (ig (uA xs)) λis=>fX (decide (i∈is))|_=>gc
  |.d=>match a with|.a _=>fX fY|.d _=>fX fY|_=>gc
  |.e d=>match a with|.a i=>fX (d.any λe=>decide (e.1=i))|_=>gc
  |.b d=>match a with|.d i=>fX (d.any λe=>decide (e.1=i))|_=>gc
  |_=>gc
 |_=>gc
noncomputable def CW:V->Bool|.c=>fW|_=>fY
def gR(d:EF)(a b:V):M Bool:=match d with
 |.Eq=>qz a b
 |.NotEq=>fS (qz a b) λr=>fX (!r)
 |.Lt=>match a,b with|.a x,.a c=>fX (decide (x<c))|_,_=>gc
 |.LtE=>match a,b with|.a x,.a c=>fX (decide (x<=c))|_,_=>gc
 |.Gt=>match a,b with|.a x,.a c=>fX (decide (c<x))|_,_=>gc
 |.GtE=>match a,b with|.a x,.a c=>fX (decide (c<=x))|_,_=>gc
 |.Is=>match b with|.c=>fX (CW a)|_=>gc
 |.IsNot=>match b with|.c=>fX (!CW a)|_=>gc
 |.In=>m_ a b
 |.NotIn=>fS (m_ a b) λr=>fX (!r)
inductive G where|d (v:V)|a (a:gG)|b (C:gG) (b:gG)|e (C:gG)|f (nm:f_)|c
noncomputable def G.ctorIdx:G->Nat:=@G.rec (λZ=>Nat) (λZ=>0) (λZ=>1) (λZ Z=>2) (λZ=>3) (λZ=>4) 5
structure ie where
 az:f_->Option G
 bJ:gG->f_->Option gG
 fn:gG->List V->M V
 ce:gG->Option f_
 attr:gG->f_->Bool
noncomputable def jm{K:Type}[DecidableEq K](fs:List (K×V))(k:K)(v:V):List (K×V):=if fs.any (λe=>decide (e.1=k))then fs.map (λe=>if e.1=k then(e.1,v)else e)else fs++[(k,v)]
def jx(T:ie)(v:V)(nm:f_):M V:=match v with
 |.b i=>fS (lg i) fun|.g C fs=>if T.attr C nm then ig (fs.lookup nm)else gc|_=>gc
 |_=>gc
noncomputable def nZ{K:Type}[DecidableEq K](fs:List (K×V))(k:K):List (K×V):=fs.filter λe=>!decide (e.1=k)
noncomputable def je{K:Type}[DecidableEq K](fs:List (K×V))(k:K):Option V:=(fs.find? λe=>decide (e.1=k)).map (·.2)
def mP(T:ie)(v:V)(nm:f_)(x:V):M Unit:=match v with
 |.b i=>fS (lg i) fun|.g C fs=>if T.attr C nm/\fs.length<=100 then oG i (.g C (jm fs nm x))else gc|_=>gc
 |_=>gc
noncomputable def nv(i:Int)(n:Nat):Option Nat:=if 0<=i then(if i.toNat<n/\i<2^40 then fR i.toNat else fU)else if-(n:Int)<=i/\-(2^40)<=i then fR (i+n).toNat else fU
def iG(v i:V):M V:=match v,i with
 |.f b,.a k=>if(0<=k/\k<b.size)/\b.size<=hJ then fX (.a (b.toList.getD k.toNat 0).toNat)else gc
 |.b r,i=>fS (lg r) fun
  |.a xs=>match i with|.a k=>fS (ig (nv k xs.length)) λj=>ig xs[j]?|_=>gc
  |.c xs=>match i with|.a k=>fS (ig (nv k xs.length)) λj=>ig xs[j]?|_=>gc
  |.e a=>match i with|.a k=>ig (je a k)|_=>gc
  |.b a=>match i with|.d k=>ig (je a k)|_=>gc
  |_=>gc
 |_,_=>gc
noncomputable def un:V->Option Nat|.c=>fR 0|.a i=>if 0<=i/\i<2^40 then fR i.toNat else fU|_=>fU
noncomputable def rK(n:Nat):V->Option Nat|.c=>fR n|.a i=>if 0<=i/\i<2^40 then fR i.toNat else fU|_=>fU
noncomputable def mY(xs:List h)(a b:Nat):List h:=(xs.take b).drop a
def lY(v a c:V):M V:=match v with|.f b=>if b.size<=hJ then fS (ig (un a)) λl=>fS (ig (rK b.size c)) λh=>fX (.f (mY b.toList l h).toArray)else gc|.b _=>fS (nh v) λxs=>if xs.length<=hJ then fS (ig (un a)) λl=>fS (ig (rK xs.length c)) λh=>gM (.a (mY xs l h))else gc|_=>gc
def sY(v:V):M V:=fS (nh v) λxs=>if xs.length<=hJ then gM (.a xs.reverse)else gc
def pe(v i x:V):M Unit:=match v with
 |.b r=>fS (lg r) fun
  |.a xs=>match i with|.a k=>if(0<=k/\k.toNat<xs.length)/\k<2^40 then oG r (.a (xs.set k.toNat x))else gc|_=>gc
  |.d=>match i with|.a k=>oG r (.e [(k,x)])|.d k=>oG r (.b [(k,x)])|_=>gc
  |.e a=>match i with|.a k=>if a.length<=hJ then oG r (.e (jm a k x))else gc|_=>gc
  |.b a=>match i with|.d k=>if a.length<=hJ then oG r (.b (jm a k x))else gc|_=>gc
  |_=>gc
 |_=>gc
def uf(v i:V):M Unit:=match v with
 |.b r=>fS (lg r) fun
  |.e a=>match i with|.a k=>if a.any (λe=>decide (e.1=k))/\a.length<=hJ then oG r (.e (nZ a k))else gc|_=>gc
  |_=>gc
 |_=>gc
noncomputable def uo(a b:f_):Bool:=decide (a.cps.toList<b.cps.toList)
noncomputable def Ak(x:Int):List Int->List Int|[]=>[x]|a::r=>if x<a then x::a::r else a::Ak x r
def tE:List Int->List Int|[]=>[]|x::r=>Ak x (tE r)
def Al(x:f_):List f_->List f_|[]=>[x]|a::r=>if uo x a then x::a::r else a::Al x r
def qK:List f_->List f_|[]=>[]|x::r=>Al x (qK r)
abbrev TK:Type:=(Int×f_)×V
def kX(a b:TK):Bool:=decide (a.1.1<b.1.1)||(decide (a.1.1=b.1.1)&&uo a.1.2 b.1.2)
noncomputable def mO(Y0:Nat->Nat->Bool):KasT h->h|.ret a=>a|.ask i j k=>mO Y0 (k (Y0 i j))
noncomputable def tA(n:Nat):KasT h->Bool|.ret _=>fW|.ask i j k=>decide (i<n)&&decide (j<n)&&tA n (k fW)&&tA n (k fY)
noncomputable def pI:TK:=((0,""),.c)
def uy(Z9:List TK):Option (List TK):=if Z9.length<4 then fR (if Z9.length<2 then Z9 else((mO (λi j=>kX (Z9.getD i pI) (Z9.getD j pI)) (oV Z9.length)).toList).map λi=>Z9.getD i pI)else fU
noncomputable def iV:V->Option Int|.a i=>fR i|_=>fU
noncomputable def sV:V->Option f_|.d i=>fR i|_=>fU
noncomputable def rV:V->Option Nat|.b i=>fR i|_=>fU
noncomputable def HQ:O->Option (List V)|.c i=>fR i|_=>fU
noncomputable def sF:List h->Option h|[x]=>fR x|_=>fU
noncomputable def AO:List h->Option (h×h)|[x,a]=>fR (x,a)|_=>fU
def Ap(y:H)(v:V):Option TK:=(rV v).bind λi=>(y.get i).bind λo=>(HQ o).bind λl=>(AO l).bind λq=>(iV q.1).bind λa=>(sV q.2).map λs=>((a,s),v)
def tj(y:H):List V->Option (List TK)|[]=>fR []|x::r=>match Ap y x,tj y r with|some k,fR Z9=>fR (k::Z9)|_,_=>fU
def OT(xs:List V):M V:=match xs with
 |[]=>gM (.a [])
 |.a i::r=>fS (ig (qC (.a i::r))) λis=>gM (.a ((tE is).map .a))
 |.d i::r=>fS (ig (uA (.d i::r))) λis=>gM (.a ((qK is).map .d))
 |.b i::r=>λy=>match tj y (.b i::r)with
  |some Z9=>match uy Z9 with|some a=>gM (.a (a.map (·.2))) y|none=>.a
  |none=>.a
 |_=>gc
noncomputable def MW(s:f_):Option Int:=(me 100).findSome? λ(k:Nat)=>if s=fZ (toString (gV k))then fR (gV k)else fU
def kW:List V->M V
 |[.d s]=>if s.length<=hJ then fX (.a s.length)else gc
 |[.f b]=>if b.size<=hJ then fX (.a b.size)else gc
 |[.b i]=>fS (lg i) fun
  |.a xs=>if xs.length<=hJ then fX (.a xs.length)else gc
  |.d=>fX (.a 0)
  |.e a=>if a.length<=hJ then fX (.a a.length)else gc
  |.b a=>if a.length<=hJ then fX (.a a.length)else gc
  |_=>gc
 |_=>gc
def yr:List V->M V|[.b i]=>fS (nh (.b i)) λxs=>fS (ig (qC xs)) λis=>if(∀x∈is,0<=x)/\is.sum<2^62 then fX (.a is.sum)else gc|_=>gc
def rQ:List V->M V
 |[.b i]=>fS (lg i) fun
  |.a xs=>if xs.length<64 then OT xs else gc
  |.d=>gM (.a [])
  |.b a=>if a.length<64 then gM (.a ((qK (a.map (·.1))).map .d))else gc
  |_=>gc
 |_=>gc
def s_:List V->M V|[.a i]=>if 0<=i/\i<=1000 then fX (.f (Ef i.toNat 0))else gc|[.f b]=>fX (.f b)|[.b i]=>fS (nh (.b i)) λxs=>fS (ig (qC xs)) λis=>if(∀x∈is,0<=x/\x<256)/\is.length<=hJ then fX (.f (byteArr is))else gc|_=>gc
def pR:List V->M V|[.a i]=>if 0<=i/\i<100000 then fX (.d (fZ (toString i)))else gc|_=>gc
def CV:List V->M V|[.d s]=>fS (ig (MW s)) λi=>fX (.a i)|_=>gc
def Nt:List V->M V|[.a a,.a b]=>fX (.a (if a<b then b else a))|_=>gc
def Cf:List V->M V|[.f b]=>fX (.e (b.toList.any λu=>u !=0))|_=>gc
noncomputable def zy:List V->Option (List Bool)|[]=>fR []|.e i::r=>(zy r).map (i::·)|_=>fU
def zu:List V->M V|[.b i]=>fS (nh (.b i)) λxs=>fS (ig (zy xs)) λa=>fX (.e (a.all id))|_=>gc
def FI(nm:f_)(a:List V):M V:=if nm="len" then kW a else if nm="sum" then yr a else if nm="sorted" then rQ a else if nm="bytes" then s_ a else if nm="str" then pR a else if nm="int" then CV a else if nm="max" then Nt a else if nm="any" then Cf a else if nm="all" then zu a else gc
def Cg(v:V):List V->M V
 |[x]=>match v with|.b i=>fS (nh (.b i)) λxs=>if xs.length<=hJ then fS (oG i (.a (xs++[x]))) λZ=>fX .c else gc|_=>gc
 |_=>gc
def CE(v:V):List V->M V
 |[.b j]=>match v with|.b i=>fS (nh (.b i)) λxs=>fS (nh (.b j)) λa=>if xs.length+a.length<=hJ/\i≠j then fS (oG i (.a (xs++a))) λZ=>fX .c else gc|_=>gc
 |_=>gc
def zZ(v:V):List V->M V
 |[.d k]=>match v with
  |.b i=>fS (lg i) fun
   |.d=>fX .c
   |.b a=>fX ((je a k).getD .c)
   |_=>gc
  |_=>gc
 |_=>gc
def yg(v:V):List V->M V
 |[.d k]=>match v with
  |.b i=>fS (lg i) fun
   |.b a=>fS (ig (je a k)) λx=>if a.length<=hJ then fS (oG i (.b (nZ a k))) λZ=>fX x else gc
   |_=>gc
  |_=>gc
 |[.d k,d]=>match v with
  |.b i=>fS (lg i) fun
   |.d=>fX d
   |.b a=>match je a k with|some x=>if a.length<=hJ then fS (oG i (.b (nZ a k))) λZ=>fX x else gc|none=>fX d
   |_=>gc
  |_=>gc
 |_=>gc
def zC(v:V):List V->M V
 |[]=>match v with
  |.b i=>fS (lg i) fun
   |.d=>fS (oG i (.b [])) λZ=>fX .c
   |.b a=>if a.length<=hJ then fS (oG i (.b [])) λZ=>fX .c else gc
   |_=>gc
  |_=>gc
 |_=>gc
noncomputable def zA:List V->Option (List (Array UInt8))|[]=>fR []|.f i::r=>(zA r).map (i::·)|_=>fU
noncomputable def nY:List (Array UInt8)->Array UInt8|[]=>#[]|a::r=>a++nY r
def Ao(v:V):List V->M V
 |[.b i]=>match v with|.f b=>if b.size=0 then fS (nh (.b i)) λxs=>fS (ig (zA xs)) λa=>if(nY a).size<=hJ/\2<=a.length then fX (.f (nY a))else gc else gc|_=>gc
 |_=>gc
def pf(nm:f_)(v:V)(a:List V):M V:=if nm="append" then Cg v a else if nm="extend" then CE v a else if nm="get" then zZ v a else if nm="pop" then yg v a else if nm="clear" then zC v a else if nm="join" then Ao v a else gc
abbrev gA:=List (f_×V)
abbrev ii:=List (f_×NameKind)
def pP(T:ie)(k:ii)(U:gA)(x:f_):M V:=match k.lookup x with
 |some .globalImplicit=>match T.az x with|some (.d v)=>fX v|_=>gc
 |some .local|some .cell|some .free=>ig (U.lookup x)
 |_=>gc
noncomputable def gW(U:gA)(x:f_)(v:V):gA:=(x,v)::U
def nx(k:ii)(U:gA)(x:f_)(v:V):M gA:=match k.lookup x with|some .local|some .cell=>fX (gW U x v)|_=>gc
def kG(v:V)(n:Nat):M (List V):=fS (Ov v) λxs=>if xs.length=n then fX xs else gc
def nX(T:ie)(g:Option G)(b:List V):M V:=match g with
 |some (.a a)=>T.fn a b
 |some (.b C d)=>fS (gM (.g C [])) λc=>fS (T.fn d (c::b)) λr=>match r with|.c=>fX c|_=>gc
 |some (.f nm)=>FI nm b
 |_=>gc
inductive Mt where|b (a:gG)|a
def lJ(T:ie)(v:V)(nm:f_):M Mt:=match v with
 |.b i=>fS (lg i) fun
  |.g C fs=>if(fs.lookup nm).isNone then(match T.bJ C nm with|some a=>fX (.b a)|none=>gc)else gc
  |.a _=>if nm="append"\/nm="extend" then fX .a else gc
  |.d=>if nm="get"\/nm="pop"\/nm="clear" then fX .a else gc
  |.b _=>if nm="get"\/nm="pop"\/nm="clear" then fX .a else gc
  |_=>gc
 |.f _=>if nm="join" then fX .a else gc
 |_=>gc
def nE(T:ie)(m:Mt)(v:V)(nm:f_)(b:List V):M V:=match m with|.b a=>T.fn a (v::b)|.a=>pf nm v b
inductive It where|a (v:V)|b (a b:V)
structure lV where
 ai:List (Nat×O)
 am:List It
noncomputable def vR(b c a:Int):List V:=(me ((c-b+a-1)/a).toNat).map λ(k:Nat)=>.a (b+a*k)
noncomputable def uh(i:Int):List V->List It|[]=>[]|x::r=>.b (.a i) x::uh (i+1) r
noncomputable def Bk:List V->List V->List It|x::xs,a::b=>.b x a::Bk xs b|_,_=>[]
noncomputable def vm(s:f_):List V:=s.cps.toList.map λc=>.d ⟨#[c]⟩
def jJ(v:V):M lV:=match v with
 |.d s=>if s.cps.toList.all (λc=>decide (c<128))then fX ⟨[],(vm s).map .a⟩else gc
 |.b i=>fS (lg i) fun
  |.a xs=>fX ⟨[(i,.a xs)],xs.map .a⟩
  |.c xs=>fX ⟨[(i,.c xs)],xs.map .a⟩
  |_=>gc
 |_=>gc
open Classical in
noncomputable def im(a:List (Nat×O)):M Unit:=λy=>if∀g∈a,y.get g.1=fR g.2 then .b () y else .a
noncomputable def vw(k:Nat)(e:gq)(f:e.ctorIdx=k->t):Option t:=if h:e.ctorIdx=k then fR (f h)else fU
def oK(e:gq):Option f_:=vw 23 e λh=>RG (motive_1:=λZ=>f_) e h λx Z=>x
def uD(e:gq):Option (List gq):=vw 25 e λh=>RJ (motive_1:=λZ=>List gq) e h λl Z Z=>l
def nu:List gq->Option (List f_)|[]=>fR []|t::r=>(oK t).bind λx=>(nu r).map (x::·)
def mQ(k:ii):gA->List f_->List V->M gA|U,x::xs,v::a=>fS (nx k U x v) λℓ'=>mQ k ℓ' xs a|U,[],[]=>fX U|_,_,_=>gc
def nJ(k:ii)(U:gA)(c:gq)(d:It):M gA:=match oK c with
 |some x=>match d with|.a v=>nx k U x v|_=>gc
 |none=>fS (ig (uD c)) λts=>fS (ig (nu ts)) λxs=>match d with|.a v=>fS (kG v xs.length) λe=>mQ k U xs e|.b a b=>if xs.length=2 then mQ k U xs [a,b]else gc
def jw(a:List (Nat×O))(d:gA->It->M gA)(e:gA->M Bool)(f:gA->M V)(c:List (Nat×O)->M Unit):gA->List V->List It->M (List V)|_,Z7,[]=>fS (c a) λZ=>fX Z7|U,Z7,g::r=>fS (c a) λZ=>fS (d U g) λℓ'=>fS (e ℓ') λb=>if b then fS (f ℓ') λv=>jw a d e f c ℓ' (Z7++[v]) r else jw a d e f c ℓ' Z7 r
inductive Fl where|a (U:gA)|b (v:V)
def lf(a:List (Nat×O))(c:gA->It->M gA)(d:gA->M Fl)(b:List (Nat×O)->M Unit):gA->List It->M Fl|U,[]=>fS (b a) λZ=>fX (.a U)|U,e::r=>fS (b a) λZ=>fS (c U e) λℓ'=>fS (d ℓ') λf=>match f with|.a g=>lf a c d b g r|.b v=>fX (.b v)
def qO(a:gA->M Bool)(c:gA->M Fl):Nat->gA->M Fl
 |0,_=>gc
 |n+1,U=>fS (a U) λb=>if b then fS (c U) λf=>match f with
  |.a ℓ'=>qO a c n ℓ'
  |.b v=>fX (.b v)
  else fX (.a U)
noncomputable def jW(k:ii)(U:gA):gA:=k.filterMap λ(x,a)=>match a with|.free=>(U.lookup x).map λv=>(x,v)|_=>fU
noncomputable def jN:List gq->Bool|[]=>fW|e::r=>if e.ctorIdx=22 then fY else jN r
def lO(v:V):M Bool:=match v with|.e b=>fX b|_=>gc
def AK(v:V):M V:=fS (nh v) λxs=>fS (ig (qC xs)) λis=>if is.Nodup/\is.length<64 then gM (.a ((tE is).map .a))else gc
noncomputable def lZ(T:ie)(m:M V):M V:=λy=>match m y with
 |.b _ a=>.b (.d "done") a
 |.c C a=>match T.ce C with|some s=>.b (.d s) a|none=>.a
 |.a=>.a
def rg(T:ie)(k:ii)(f:f_):M G:=if k.lookup f=fR .globalImplicit then ig (T.az f)else gc
def DK(e:gq):Option (gq×gq):=vw 21 e λh=>RI (motive_1:=λZ=>gq×gq) e h λo i Z=>(o,i)
def HU(e:gq):Option Const:=vw 19 e λh=>RE (motive_1:=λZ=>Const) e h λc Z Z=>c
def AQ(e:gq):Option (gq×List gq×List Bz):=vw 16 e λh=>RD (motive_1:=λZ=>gq×List gq×List Bz) e h λf a Z9 Z=>(f,a,Z9)
def Ia(e:gq):Option (xh×gq):=vw 3 e λh=>RK (motive_1:=λZ=>xh×gq) e h λa x Z=>(a,x)
def acb(e:gq):Option (gq×f_×oS):=vw 20 e λh=>agL (motive_1:=λZ=>gq×f_×oS) e h λa b c=>(a,b,c)
def AR(e:gq):Option (Option gq×Option gq×Option gq):=vw 26 e λh=>RH (motive_1:=λZ=>Option gq×Option gq×Option gq) e h λa b c Z=>(a,b,c)
def PF(e:gq):Option (tP×gq×rx):=vw 4 e λh=>RF (motive_1:=λZ=>tP×gq×rx) e h λa b c Z=>(a,b,c)
def DJ(e:gq):Option Int:=(HU e).bind fun|.int i=>fR i|_=>fU
def HY(e:gq):Option f_:=(HU e).bind fun|.str i=>fR i|_=>fU
def vB:List (Option gq)->Option (List f_)|[]=>fR []|k::r=>(k.bind HY).bind λs=>(vB r).map (s::·)
def sp(e:gq):Bool:=match AQ e with|some (f,[],[])=>f.ctorIdx.beq 23|_=>fY
noncomputable def Ax:G->Bool|.a _=>fW|.b _ _=>fW|.f _=>fW|_=>fY
noncomputable def vK(k:ii):Bool:=k.all λe=>!(e.1==("__debug__":f_))&&!(e.1==("__classdict__":f_))
noncomputable def KY(k:ii)(x:f_):Bool:=match k.lookup x with|some .cell=>fW|some .free=>fW|_=>fY
noncomputable def qD(k:ii):Option (gG×f_):=if k.lookup (fZ "due")=fR .local then fR (798,"_law_deed_right.<locals>.<lambda>")else if k.lookup (fZ "script")=fR .local then fR (810,"law.<locals>.<lambda>")else fU
noncomputable def qL:List (gG×f_):=[(798,"_law_deed_right.<locals>.<lambda>"),(810,"law.<locals>.<lambda>")]
noncomputable def uB:List gG:=[798,810]
def mK(k:ii)(a:rx):Bool:=decide (a.kind=.function)&&(qD a.names).isNone&&vK a.names&&a.names.all λb=>match b.2 with|.local=>decide (a.names.lookup b.1=fR .local)|.free=>decide (a.names.lookup b.1=fR .free)&&KY k b.1|.globalImplicit=>fW|_=>fY
noncomputable def sE(e:gq):Bool:=!(e.ctorIdx.beq 26)
noncomputable def mB(e:gq):Bool:=!(e.ctorIdx.beq 7)
noncomputable def iL(m:M h):M h:=λy=>match m y with|.b a b=>.b a b|_=>.a
def vj(y:H)(c:Int):V->Option V
 |.b i=>match y.get i with|some (.c xs)=>(nv c xs.length).bind (xs[·]?)|_=>fU
 |_=>fU
def ud(y:H)(c:Int):List (f_×V)->Option (List (V×f_))|[]=>fR []|e::r=>match vj y c e.2,ud y c r with|some v,fR a=>fR ((v,e.1)::a)|_,_=>fU
def tC:List (V×f_)->List V->M V|[],Z7=>gM (.a Z7)|p::r,Z7=>fS (gM (.c [p.1,.d p.2])) λt=>tC r (Z7++[t])
def Cv(b:List (f_×V))(c:Int):M V:=λy=>match ud y c b with|some a=>if a.length<=100 then tC a [] y else .a|none=>.a
def xH(T:ie)(k:ii)(U:gA):gq->M V|.Constant c _ _=>sq c|.Name x _=>pP T k U x|.Subscript (.Name x _) (.Constant c _ _) _=>fS (pP T k U x) λv=>fS (sq c) λj=>iG v j|_=>gc
def xI(T:ie)(k:ii)(U:gA):List gq->M (List V)|[]=>fX []|x::r=>fS (xH T k U x) λv=>fS (xI T k U r) λa=>fX (v::a)
noncomputable def ya:tP->Bool|⟨a,b,c,d,e,f,g⟩=>a.isEmpty&&(b.isEmpty&&(c.isNone&&(d.isEmpty&&(e.isEmpty&&(f.isNone&&g.isEmpty)))))
def GF(T:ie)(_n:Nat)(k:ii)(U:gA)(d:tP)(b:rx):gq->M V|.Call (.Name h _) c [] _=>if(mK k b&&!b.isCoroutine&&!b.isGenerator&&ya d&&jN c&&!c.isEmpty)=fW/\b.names.lookup h=fR .globalImplicit then(match T.az h,qD k with|some (.a a),fR (_,q)=>fS (gM (.f q)) λZ=>lZ T (fS (xI T b.names (jW b.names U) c) λe=>T.fn a e)|_,_=>gc)else gc|_=>gc
def GV(a:xh)(e:gq):Option Int:=match a with|.USub=>DJ e|_=>fU
def zv(e:gq):Bool:=match AR e with
 |some (fU,fU,fR s)=>match Ia s with|some (.USub,x)=>decide (DJ x=fR 1)|_=>fY
 |_=>fY
def ym(e:gq):Option (Option gq×Option gq):=match AR e with|some (a,b,fU)=>fR (a,b)|_=>fU
def Aq(l:List gq):Option (tP×gq×rx):=(sF l).bind PF
def AH(f:f_)(l:List gq):Option gq:=(sF l).bind λc=>(AQ c).bind λq=>if q.2.2.isEmpty/\f="sorted"/\oK q.1=fR "set" then sF q.2.1 else fU
def Pi(e:gq):Option (f_×f_):=(DK e).bind λv=>(oK v.1).bind λd=>(oK v.2).map λx=>(d,x)
def Ph(e:gq):Option ((f_×f_)×Int):=(DK e).bind λu=>(Pi u.1).bind λq=>(DJ u.2).map λc=>(q,c)
def FL(e:gq):Option (((f_×f_)×Int)×f_):=(uD e).bind λl=>(AO l).bind λq=>(Ph q.1).bind λr=>(oK q.2).map λx=>(r,x)
noncomputable def I7:xa->Option (gq×gq×List gq)|⟨t,i,a,n⟩=>if n=0 then fR (t,i,a)else fU
def uu(g:List xa):Option (gq×gq×List gq):=(sF g).bind I7
def Nx(g:List xa):Option (f_×f_):=(uu g).bind λq=>if q.2.2.isEmpty then(oK q.1).bind λx=>(oK q.2.1).map λa=>(x,a)else fU
def vn(b:gq)(c:List xa):Option (f_×f_×Int):=(FL b).bind λr=>(Nx c).bind λa=>if r.1.1=(a.2,a.1)/\r.2=a.1 then fR (a.1,a.2,r.1.2)else fU
def AC(v:V):M lV:=match v with|.a n=>if 0<=n/\n<2^30 then fX ⟨[],(vR 0 n 1).map .a⟩else gc|_=>gc
def vS(u v d:V):M lV:=match u,v,d with|.a a,.a b,.a c=>if(0<=a/\a<2^30)/\(0<=b/\b<2^30)/\(0<c/\c<2^30)then fX ⟨[],(vR a b c).map .a⟩else gc|_,_,_=>gc
def xQ(v:V):M lV:=match v with|.f b=>fX ⟨[],uh 0 (b.toList.map λu=>.a u.toNat)⟩|.b i=>fS (nh (.b i)) λxs=>fX ⟨[(i,.a xs)],uh 0 xs⟩|_=>gc
def yE(u v:V):M lV:=match u,v with|.b i,.b j=>fS (nh (.b i)) λxs=>fS (nh (.b j)) λa=>fX ⟨[(i,.a xs),(j,.a a)],Bk xs a⟩|_,_=>gc
def Mx(a:List V):M lV:=match a with|[v]=>AC v|[u,v,b]=>vS u v b|_=>gc
def xV(f:f_)(a:List V):M lV:=if f="range" then Mx a else if f="enumerate" then fS (ig (sF a)) xQ else fS (ig (AO a)) λq=>yE q.1 q.2
def AL(k:ii)(e:gq):Option (f_×List gq):=(AQ e).bind λq=>(oK q.1).bind λf=>if q.2.2.isEmpty/\k.lookup f=fR .globalImplicit/\(f="range"\/f="enumerate"\/f="zip")then fR (f,q.2.1)else fU
structure Ev where
 v:ii->gA->gq->M V
 b:ii->gA->gq->M Bool
 a:ii->gA->uR->List gq->M Bool
 l:ii->gA->List gq->M (List V)
section
variable(T:ie)(I:Ev)(n:Nat)(k:ii)(U:gA)
def tG(e:gq):M lV:=match AL k e with|some q=>if jN q.2&&!q.2.isEmpty then fS (I.l k U q.2) (xV q.1)else gc|none=>fS (I.v k U e) jJ
def CC(a:xh)(e:gq):M V:=match GV a e with|some i=>fX (.a (-i))|none=>gc
def v5(a:uR)(c:List gq):M V:=match c with
 |[x,d]=>fS (I.v k U x) λv=>fS (lO v) λb=>match a,b with|.And,fY=>fX v|.Or,fW=>fX v|_,_=>I.v k U d
 |_=>gc
def Mi(l:gq)(c:List EF)(d:List gq):M V:=match c,d with|[e],[r]=>if mB r then fS (I.v k U l) λa=>fS (I.v k U r) λb=>fS (gR e a b) λt=>fX (.e t)else gc|_,_=>gc
def Gm(Z9:List (Option gq))(a:List gq):M V:=match Z9,a with|[],[]=>gM .d|Z9,a=>if Z9.length=a.length then fS (ig (vB Z9)) λxs=>if xs.Nodup/\0<xs.length/\xs.length<=10 then fS (I.l k U a) λb=>if xs.length=b.length then gM (.b (xs.zip b))else gc else gc else gc
def Go:Option gq->M V|none=>fX .c|some e=>I.v k U e
def zP(o i:gq):M V:=if zv i then fS (I.v k U o) sY else match ym i with|some (a,b)=>fS (I.v k U o) λv=>fS (Go I k U a) λl=>fS (Go I k U b) λh=>lY v l h|none=>if sE i then fS (I.v k U o) λv=>fS (I.v k U i) λj=>iG v j else gc
def zN(o:gq)(nm:f_)(b:oS)(a:List gq)(p:oS):M V:=if sp o||!(b.endLine==p.line)||!(jN a)||!(decide (a.length<20))then gc else fS (I.v k U o) λv=>fS (lJ T v nm) λm=>fS (I.l k U a) λc=>nE T m v nm c
def xR(f:f_)(a:List gq):M V:=match Aq a with|some (b,c,d)=>if k.lookup f=fR .globalImplicit then(match T.az f with|some .c=>GF T n k U b d c|_=>gc)else gc|none=>match AH f a with|some e=>if k.lookup (fZ "sorted")=fR .globalImplicit/\k.lookup (fZ "set")=fR .globalImplicit/\jN [e]=fW then fS (I.v k U e) AK else gc|none=>if !(jN a)then gc else fS (rg T k f) λg=>if Ax g then fS (I.l k U a) λh=>nX T (fR g) h else gc
def Mh(f:gq)(a:List gq)(p:oS):M V:=match acb f with|some q=>zN T I k U q.1 q.2.1 q.2.2 a p|none=>match oK f with|some f=>xR T I n k U f a|none=>gc
def Gn(f g b:gq)(h:List gq)(a:rx):M V:=if !(mK k a)||!(mB b)then gc else fS (tG I k U b) λd=>fS (iL (jw d.ai (λi j=>nJ a.names i g j) (λℓ'=>match h with|[]=>fX fW|[c]=>I.b a.names ℓ' c|_=>gc) (λℓ'=>I.v a.names ℓ' f) im (jW a.names U) [] d.am)) λe=>if e.length<=hJ then gM (.a e)else gc
def ui(b:gq)(d:List xa)(a:rx):M V:=match vn b d with
 |some (x,e,c)=>if a.names.lookup x=fR .local/\a.names.lookup e=fR .free/\mK k a=fW then fS (pP T k U e) λv=>match v with
  |.b i=>fS (lg i) fun
   |.d=>gM (.a [])
   |.b f=>Cv f c
   |_=>gc
  |_=>gc
  else gc
 |none=>match uu d with|some (g,h,j)=>Gn I k U b g h j a|none=>gc
def O_(e:gq):M V:=match e with|.Constant c _ _=>sq c|.Name x _=>pP T k U x|.BinOp l g r _=>fS (I.v k U l) λa=>fS (I.v k U r) λb=>hM g a b|.UnaryOp g e _=>CC g e|.IfExp t b o _=>fS (I.b k U t) λc=>if c then I.v k U b else I.v k U o|.BoolOp g h _=>v5 I k U g h|.Compare l j m _=>Mi I k U l j m|.List h _=>fS (I.l k U h) λd=>if d.length<=hJ then gM (.a d)else gc|.Tuple h _ _=>fS (I.l k U h) λd=>if d.length<=hJ then gM (.c d)else gc|.Dict Z9 d _=>Gm I k U Z9 d|.Attribute o nm _=>if sp o then gc else fS (I.v k U o) λv=>jx T v nm|.Subscript o i _=>zP I k U o i|.Call f q s p=>if s.isEmpty then Mh T I n k U f q p else gc|.ListComp u w y _=>ui T I k U u w y|_=>gc
def Mj(l:gq)(f:List EF)(g:List gq):M Bool:=match f,g with|[d],[r]=>if mB r then fS (I.v k U l) λa=>fS (I.v k U r) λb=>gR d a b else gc|[d,h],[r,e]=>if mB e then fS (I.v k U l) λa=>fS (I.v k U r) λb=>fS (gR d a b) λt=>if t then fS (I.v k U e) λc=>gR h b c else fX fY else gc|_,_=>gc
def v4(e x:gq)(a:xh):M Bool:=match a with|.Not=>fS (I.b k U x) λb=>fX (!b)|_=>fS (I.v k U e) lO
def OX(e:gq):M Bool:=match e with|.UnaryOp a x p=>v4 I k U (.UnaryOp a x p) x a|.BoolOp a b _=>I.a k U a b|.IfExp .. =>gc|.Compare l c d _=>Mj I k U l c d|e=>fS (I.v k U e) lO
def OW(a:uR)(c:List gq):M Bool:=match c with|[]=>fX (a==.And)|x::r=>fS (I.b k U x) λb=>match a,b with|.And,fY=>fX fY|.Or,fW=>fX fW|_,_=>I.a k U a r
def OY(a:List gq):M (List V):=match a with|[]=>fX []|x::r=>if jN [x]then fS (I.v k U x) λv=>fS (I.l k U r) λb=>fX (v::b)else gc
end
def mZ(T:ie):Nat->Ev|0=>⟨λZ Z Z=>gc,λZ Z Z=>gc,λZ Z Z Z=>gc,λZ Z Z=>gc⟩|n+1=>⟨λk U e=>O_ T (mZ T n) n k U e,λk U e=>OX (mZ T n) k U e,λk U b a=>OW (mZ T n) k U b a,λk U a=>OY (mZ T n) k U a⟩
def iA(T:ie)(n:Nat):ii->gA->gq->M V:=(mZ T n).v
def qf(T:ie)(n:Nat):ii->gA->gq->M Bool:=(mZ T n).b
def Mg(T:ie)(n:Nat):ii->gA->uR->List gq->M Bool:=(mZ T n).a
def kO(T:ie)(n:Nat):ii->gA->List gq->M (List V):=(mZ T n).l
def AN(T:ie)(a:gA->gq->M V)(k:ii)(U:gA)(t:gq)(v:V):M gA:=match t with|.Name x _=>nx k U x v|.Attribute o nm _=>fS (a U o) λu=>fS (mP T u nm v) λZ=>fX U|.Subscript o i _=>if sE i then fS (a U o) λu=>fS (a U i) λj=>fS (pe u j v) λZ=>fX U else gc|_=>gc
def vX(T:ie)(a:gA->gq->M V)(k:ii):gA->List gq->List V->M gA|U,[],[]=>fX U|U,t::ts,v::b=>fS (AN T a k U t v) λℓ'=>vX T a k ℓ' ts b|_,_,_=>gc
def qc(T:ie)(a:gA->gq->M V)(k:ii)(U:gA)(t:gq)(v:V):M gA:=match t with|.Tuple ts _ _=>if jN ts then fS (kG v ts.length) λb=>vX T a k U ts b else gc|t=>AN T a k U t v
def Av(e:gq):Bool:=(FL e).isNone
def acd(e:gq):Option (gq×List xa):=vw 8 e λh=>agM (motive_1:=λZ=>gq×List xa) e h λa b Z Z=>(a,b)
def Ch(e:gq):Bool:=!(e.ctorIdx.beq 9)&&!(e.ctorIdx.beq 10)&&match acd e with|some q=>(uu q.2).isSome&&Av q.1|none=>match uD e with|some a=>jN a&&!(a.all (JS 8))|none=>fW
noncomputable def xS(e:gq):Bool:=!(e.ctorIdx.beq 8)&&!(e.ctorIdx.beq 9)&&!(e.ctorIdx.beq 10)
def zH(l:List gq):Option (gq×gq):=(sF l).bind DK
def AB(x c:Option gq):Option (f_×gq):=match c with|some _=>fU|none=>x.bind λe=>(AQ e).bind λq=>if q.2.2.isEmpty then(oK q.1).bind λn=>(sF q.2.1).bind λa=>fR (n,a)else fU
structure Ex where
 s:ii->gA->jB->M Fl
 l:ii->gA->List jB->M Fl
section
variable(T:ie)(I:Ev)(J:Ex)(k:ii)(U:gA)
def v7(ts:List gq)(e:gq):M Fl:=match ts with|[t]=>if Ch e then fS (I.v k U e) λv=>fS (qc T (λℓ' a=>I.v k ℓ' a) k U t v) λℓ'=>fX (.a ℓ')else gc|_=>gc
def zR(ts:List gq):M Fl:=match zH ts with|some (o,i)=>if !(sE i)then gc else fS (I.v k U o) λv=>fS (I.v k U i) λj=>fS (uf v j) λZ=>fX (.a U)|none=>gc
def zU(d a:gq)(b:List jB):M Fl:=if !(mB a)then gc else fS (tG I k U a) λc=>iL (lf c.ai (λe f=>nJ k e d f) (λℓ'=>J.l k ℓ' b) im U c.am)
def zW(e c:Option gq):M Fl:=match AB e c with
 |some (c,a)=>fS (rg T k c) λg=>match g with
  |.e C=>fS (I.v k U a) λv=>match v with|.d _=>ls C|_=>gc
  |_=>gc
 |none=>gc
def OZ(s:jB):M Fl:=match s with|.Expr e _=>if xS e then fS (I.v k U e) λZ=>fX (.a U)else gc|.Return fU _=>fX (.b .c)|.Return (fR e) _=>fS (I.v k U e) λv=>fX (.b v)|.Assign ts e _=>v7 T I k U ts e|.Delete ts _=>zR I k U ts|.If t b o _=>fS (I.b k U t) λc=>if c then J.l k U b else J.l k U o|.While t b o _=>if o.isEmpty then iL (qO (λℓ'=>I.b k ℓ' t) (λℓ'=>J.l k ℓ' b) 100 U)else gc|.For a d b o _=>if o.isEmpty then zU I J k U a d b else gc|.Raise e c _=>zW T I k U e c|_=>gc
def Pa(a:List jB):M Fl:=match a with|[]=>fX (.a U)|s::r=>fS (J.s k U s) λf=>match f with|.a ℓ'=>J.l k ℓ' r|.b v=>fX (.b v)
end
def CD(T:ie):Nat->Ex|0=>⟨λZ Z Z=>gc,λZ Z Z=>gc⟩|n+1=>⟨λk U s=>OZ T (mZ T n) (CD T n) k U s,λk U a=>Pa (CD T n) k U a⟩
def Mk(T:ie)(n:Nat):ii->gA->jB->M Fl:=(CD T n).s
def lw(T:ie)(n:Nat):ii->gA->List jB->M Fl:=(CD T n).l
def vi(T:ie)(n:Nat)(a:List f_)(c:List V)(k:ii)(d:List jB)(b:List V):M V:=if b.length<=a.length/\a.length<=b.length+c.length then
  fS (lw T n k (a.zip (b++c.drop (b.length+c.length-a.length))) d) λf=>match f with|.a _=>fX .c|.b v=>fX v
 else gc
def rI{a b:R t}{C:Prop}(e:a=b)(h:Rd a.ctorIdx b.ctorIdx=fY):C:=by rw[e,Nat.beq_refl]at h;exact tF h
noncomputable abbrev sU(s:gK)(h:hV)(k:Nat):gK:={s with heap:=h,toks:=k}
def wE{M:lv}(e:t=t')(h:gg M A t' Q E s):gg M A t Q E s:=e▸h
noncomputable def DB(t:iM x):iM x:=if h:t.ctorIdx=4 then RZ (motive:=λZ=>iM x) t h λZ k=>k ()else if h:t.ctorIdx=5 then RX (motive:=λZ=>iM x) t h λZ k=>k ()else if h:t.ctorIdx=10 then RY (motive:=λZ=>iM x) t h λZ k=>k ()else t
@[irreducible] def sk(t:iM h):iM h:=DB (DB (DB t))
@[irreducible] def hL(t:iM h):Option gG:=if q:(sk t).ctorIdx=6 then fR (ER (motive:=λZ=>gG) (sk t) q λa Z Z=>a)else fU
@[irreducible] def kL(t:iM h)(o:iY):iM h:=if q:(sk t).ctorIdx=6 then ER (motive:=λZ=>iM h) (sk t) q λZ Z k=>k o else t
@[irreducible] def hU(t:iM h):Option (gG×(iY->iY)):=if q:(sk t).ctorIdx=7 then fR (ES (motive:=λZ=>gG×(iY->iY)) (sk t) q λa Z f Z=>(a,f))else fU
@[irreducible] def kU(t:iM h):iM h:=if q:(sk t).ctorIdx=7 then ES (motive:=λZ=>iM h) (sk t) q λZ Z Z k=>k ()else t
@[irreducible] def hA(t:iM h):Option iY:=if q:(sk t).ctorIdx=8 then fR (EM (motive:=λZ=>iY) (sk t) q λo Z=>o)else fU
@[irreducible] def kA(t:iM h)(n:gG):iM h:=if q:(sk t).ctorIdx=8 then EM (motive:=λZ=>iM h) (sk t) q λZ k=>k n else t
@[irreducible] def hF(t:iM h):Option Unit:=if q:(sk t).ctorIdx=12 then fR (EP (motive:=λZ=>Unit) (sk t) q λZ=>())else fU
@[irreducible] def kF(t:iM h)(n:oq):iM h:=if q:(sk t).ctorIdx=12 then EP (motive:=λZ=>iM h) (sk t) q λk=>k n else t
@[irreducible] def hQ(t:iM h):Option Unit:=if q:(sk t).ctorIdx=13 then fR (EN (motive:=λZ=>Unit) (sk t) q λZ=>())else fU
@[irreducible] def kQ(t:iM h)(n:Setting):iM h:=if q:(sk t).ctorIdx=13 then EN (motive:=λZ=>iM h) (sk t) q λk=>k n else t
@[irreducible] def hC(t:iM h):Option (Code×Option gv):=if q:(sk t).ctorIdx=16 then fR (EO (motive:=λZ=>Code×Option gv) (sk t) q λc v Z Z Z=>(c,v))else fU
@[irreducible] def kC(t:iM h):pW->iM h:=if q:(sk t).ctorIdx=16 then EO (motive:=λZ=>pW->iM h) (sk t) q λZ Z Z Z k=>k else λZ=>t
@[irreducible] def hH(t:iM h):Option Bool:=if q:(sk t).ctorIdx=17 then fR (EQ (motive:=λZ=>Bool) (sk t) q λb Z=>b)else fU
@[irreducible] def kH(t:iM h)(v:Option gv):iM h:=if q:(sk t).ctorIdx=17 then EQ (motive:=λZ=>iM h) (sk t) q λZ k=>k v else t
def dI[Decidable c]{P:t->Prop}{G:Prop}(h:P (dite c a b))(k:∀q,P (a q)->G)(d:∀q,P (b q)->G):G:=by
 by_cases q:c;have e:dite c a b=a q:=dif_pos q;exact k q (e▸h);have e:dite c a b=b q:=dif_neg q;exact d q (e▸h)
def Ib{M:lv}{Q:y->gK->Prop}{s:gK}(h:gg M A (DB t) Q E s):gg M A t Q E s:=dI (P:=λt=>gg M A t Q E s) h (λq=>RZ (motive:=λt=>∀q,gg M A (RZ (motive:=λZ=>iM y) t q λZ k=>k ()) Q E s->gg M A t Q E s) t q (λg k Z h=>gf (m:=rule g) (f:=k) (ze h)) q) λZ h=>dI (P:=λt=>gg M A t Q E s) h (λq=>RX (motive:=λt=>∀q,gg M A (RX (motive:=λZ=>iM y) t q λZ k=>k ()) Q E s->gg M A t Q E s) t q (λg k Z h=>gf (m:=xm g) (f:=k) (lk h)) q) λZ h=>dI (P:=λt=>gg M A t Q E s) h (λq=>RY (motive:=λt=>∀q,gg M A (RY (motive:=λZ=>iM y) t q λZ k=>k ()) Q E s->gg M A t Q E s) t q (λg k Z h a p x=>h a p x) q) λZ h=>h
def DM{M:lv}(h:gg M A (sk t) Q E s):gg M A t Q E s:=by unfold sk at h;exact Ib (Ib (Ib h))
def w0{M:lv}{b:Type}{f:(sk t).ctorIdx=n->b}{x:b}{k:(sk t).ctorIdx=n->y}(e:(if q:(sk t).ctorIdx=n then fR (f q)else fU)=fR x){W:y->Prop}(g:W (if q:(sk t).ctorIdx=n then k q else d))(h:∀q,f q=x->W (k q)->gg M A (sk t) Q E s):gg M A t Q E s:=dI (P:=λa=>a=fR x) e (λq e=>dI (P:=W) g (λZ g=>DM (h q (gz e) g)) λa Z=>absurd q a) λZ e=>nS e
def wL{M:lv}{A:lj}{Q:h->gK->Prop}(c:s.heap.get? a=fR o)(e:hL t=fR a:=by kernel_rfl)(g:gg M A (kL t o) Q E s):gg M A t Q E s:=by unfold hL at e;unfold kL at g;exact w0 e (W:=λt=>gg M A t Q E s) g λq=>ER (motive:=λt=>∀q,ER (motive:=λZ=>gG) t q (λa Z Z=>a)=a->gg M A (ER (motive:=λZ=>iM h) t q λZ Z k=>k o) Q E s->gg M A t Q E s) (sk t) q (λb p k Z e g=>gf (m:=loadPart b p) (f:=k) (Kc ((show b=a from e)▸c) g)) q
def wU{M:lv}{A:lj}{Q:h->gK->Prop}(f:iY->iY)(d:s.heap.get? a=fR o)(e:hU t=fR (a,f):=by kernel_rfl)(g:gg M A (kU t) Q E {s with heap:=s.heap.update a f}):gg M A t Q E s:=by unfold hU at e;unfold kU at g;exact w0 e (W:=λt=>gg M A t Q E {s with heap:=s.heap.update a f}) g λq=>ES (motive:=λt=>∀q,ES (motive:=λZ=>gG×(iY->iY)) t q (λa Z f Z=>(a,f))=(a,f)->gg M A (ES (motive:=λZ=>iM h) t q λZ Z Z k=>k ()) Q E {s with heap:=s.heap.update a f}->gg M A t Q E s) (sk t) q (λb p c k Z e g=>gf (m:=updatePart b p c) (f:=k) (ags ((show b=a from(nU e).1)▸d) ((show c=f from(nU e).2)▸(show b=a from(nU e).1)▸g))) q
def wA{M:lv}{Q:h->gK->Prop}(o:iY)(e:hA t=fR o:=by kernel_rfl)(g:gg M A (kA t s.heap.objs.size) Q E {s with heap:=s.heap.push o}):gg M A t Q E s:=by unfold hA at e;unfold kA at g;exact w0 e (W:=λt=>gg M A t Q E {s with heap:=s.heap.push o}) g λq=>EM (motive:=λt=>∀q,EM (motive:=λZ=>iY) t q (λo Z=>o)=o->gg M A (EM (motive:=λZ=>iM h) t q λZ k=>k s.heap.objs.size) Q E {s with heap:=s.heap.push o}->gg M A t Q E s) (sk t) q (λb k Z e g=>gf (m:=PySem.alloc b) (f:=k) (SQ ((show b=o from e)▸g))) q
def wF{M:lv}{Q:h->gK->Prop}(e:hF t=fR ():=by kernel_rfl)(g:gg M A (kF t s.toks) Q E {s with toks:=s.toks+1}):gg M A t Q E s:=by unfold hF at e;unfold kF at g;exact w0 e (W:=λt=>gg M A t Q E {s with toks:=s.toks+1}) g λq=>EP (motive:=λt=>∀q,EP (motive:=λZ=>Unit) t q (λZ=>())=()->gg M A (EP (motive:=λZ=>iM h) t q λk=>k s.toks) Q E {s with toks:=s.toks+1}->gg M A t Q E s) (sk t) q (λk Z e g=>gf (m:=fresh) (f:=k) (wpAny_fresh g)) q
def wQ{M:lv}{Q:h->gK->Prop}(e:hQ t=fR ():=by kernel_rfl)(g:gg M A (kQ t ⟨M.prog,M.w.params⟩) Q E s):gg M A t Q E s:=by unfold hQ at e;unfold kQ at g;exact w0 e (W:=λt=>gg M A t Q E s) g λq=>EN (motive:=λt=>∀q,EN (motive:=λZ=>Unit) t q (λZ=>())=()->gg M A (EN (motive:=λZ=>iM h) t q λk=>k ⟨M.prog,M.w.params⟩) Q E s->gg M A t Q E s) (sk t) q (λk Z e g=>gf (m:=ask) (f:=k) (zd g)) q
def wC{M:lv}{Q:h->gK->Prop}(c:Code)(e:hC t=fR (c,fU):=by kernel_rfl)(g:lF M A c (λr s=>gg M A (kC t r) Q E s) s):gg M A t Q E s:=by unfold hC at e;unfold kC at g;refine w0 e (W:=λ(K:pW->iM h)=>lF M A c (λr s=>gg M A (K r) Q E s) s) g λq=>?_;clear e g;exact EO (motive:=λt=>∀q,EO (motive:=λZ=>Code×Option gv) t q (λc v Z Z Z=>(c,v))=(c,fU)->lF M A c (λr s=>gg M A (EO (motive:=λZ=>pW->iM h) t q (λZ Z Z Z k=>k) r) Q E s) s->gg M A t Q E s) (sk t) q (λb v i l k Z e g=>by obtain rfl:b=c:=(nU e).1;obtain rfl:v=fU:=(nU e).2;exact λd p a=>(Sem.wp_call ..).symm▸BL g (λr s' f=>f d p a) _ p rfl (a.enter _ fU p (by intro x;cases x))) q
def wH{M:lv}{Q:h->gK->Prop}{E:gv->gK->Prop}(a:A.handled=v)(e:hH t=fR fY:=by kernel_rfl)(g:gg M A (kH t v) Q E s):gg M A t Q E s:=by unfold hH at e;unfold kH at g;exact w0 e (W:=λt=>gg M A t Q E s) g λq=>EQ (motive:=λt=>∀q,EQ (motive:=λZ=>Bool) t q (λb Z=>b)=fY->gg M A (EQ (motive:=λZ=>iM h) t q λZ k=>k v) Q E s->gg M A t Q E s) (sk t) q (λb k Z e g=>by obtain rfl:b=fY:=e;exact gf (m:=handled) (f:=k) (wpAny_handled (a▸g))) q
def wP{M:lv}(v:x)(e:sk t=.pure v:=by kernel_rfl)(h:Q v s):gg M A t Q E s:=DM (wE e (gU h))
def wX{M:lv}(v:gv)(e:sk t=.raise v:=by kernel_rfl)(h:E v s):gg M A t Q E s:=DM (wE e (wpAny_throw h))
def wB{M:lv}(u:iM x)(f:x->iM y)(e:sk t=u>>=f:=by kernel_rfl)(h:gg M A u (λb s=>gg M A (f b) Q E s) E s):gg M A t Q E s:=DM (wE e (gf h))
def Pc(c:A.handled=fU)(h:∀a e,(∀b o,s.heap.get? b=fR o->a.get? b=fR o)->(∃o,a.get? e=fR o/\o.cls=.type "StopIteration")->E (.ref e) {s with heap:=a}):gg (gk gh w) A (newExc (.type "StopIteration") []>>=λe=>raiseNew e) Q E s:=by refine wA {cls:=.type "tuple",data:=.seq #[]} (g:=wA {cls:=.type "StopIteration",data:=.fields #[.ref s.heap.objs.size,.none,.none,.none,.bool fY,.none]} (g:=wH c (g:=wX (.ref (s.heap.push {cls:=.type "tuple",data:=.seq #[]}).objs.size) (h:=?_))));exact h _ _ (λb o e=>iW _ (iW _ e)) ⟨_,lu _ rfl,rfl⟩
noncomputable abbrev pw:BA:=PySem.Challenge.pw_np0209_01
noncomputable def Qn:List jB->Nat->jB|[],_=>.Pass default|s::_,0=>s|_::r,n+1=>Qn r n
noncomputable def wc:jB->List jB|.FunctionDef _ _ b _ _ _ _ _ _ _=>b|.ClassDef _ _ _ b _ _ _ _ _ _ _=>b|_=>[]
noncomputable def mT:jB->f_|.FunctionDef n _ _ _ _ _ _ _ _ _=>n|_=>Str.empty
noncomputable def wb:jB->tP|.FunctionDef _ a _ _ _ _ _ _ _ _=>a|_=>⟨[],[],fU,[],[],fU,[]⟩
def rU:jB->rx|.FunctionDef _ _ _ _ _ _ s _ _ _=>s|_=>pw.main.scope
def zB(i:Nat):jB:=Qn pw.main.body i
def lP(i j:Nat):jB:=Qn (wc (zB i)) j
noncomputable def zI(i:Int):gv:=.int i 0
noncomputable def zS(x:String)(t:Nat):gv:=.str (fZ x) t
noncomputable def zE(P:lA)(x:String)(t:Nat)(v:gv):yY:=⟨afw P (fZ x),.str (fZ x) t,v⟩
def zF(d:jB)(q:f_)(a:Nat)(b c e:gv):Data:=.func {name:=mT d,qualname:=q,params:=wb d,body:=.stmts (wc d),scope:=rU d,globals:=a,closure:=[],defaults:=b,kwdefaults:=.none,doc:=.none,pyModule:=c,annotations:=fU,code:=e,closureTuple:=.none,builtins:=0}
noncomputable def zO(c:gv)(d:Data):iY:=⟨c,fU,d,#[]⟩
noncomputable def zT(l:List gv):iY:=⟨.type "tuple",fU,.seq l.toArray 0,#[]⟩
noncomputable def zX(l:List gv):iY:=⟨.none,fU,.fields l.toArray,#[]⟩
noncomputable def rT(l:List gv):iY:=⟨.type "code",fU,.fields l.toArray,#[]⟩
noncomputable def oj(l:List yY)(n:Nat):iY:=⟨.type "dict",fU,.dict l.toArray n,#[]⟩
noncomputable def wh:iY:=⟨.type "builtin_function_or_method",fU,.fields #[.builtin "type.__prepare__",.type "type"],#[]⟩
noncomputable def wi(a:Nat):iY:=⟨.type "super",fU,.fields #[.ref a,.ref a,.ref a],#[]⟩
noncomputable def wf(a:Nat):iY:=⟨.type "builtin_function_or_method",fU,.fields #[.builtin "object.__init_subclass__",.ref a],#[]⟩
noncomputable def uH(c d:Nat)(n:gv):iY:=⟨.type "frame",fU,.plain,#[fR (.ref c),fR (.ref 3),fR (.ref d),fU,fR n,fU,fR (.ref 0)]⟩
def DW(t:Nat):gv:=zS "/claim/cut.py" t
def Ij(t:Nat):gv:=zS "treepool.faults" t
noncomputable def Ip:jB->Nat|.FunctionDef _ _ _ _ _ _ _ _ _ p=>p.line|_=>0
def Bi(s:jB):List f_:=(rU s).names.filterMap λx=>match x.2 with|.local=>fR x.1|_=>fU
noncomputable def ad7:List f_->Nat->List gv|[],_=>[]|x::r,t=>.str x t::ad7 r (t+1)
def Qc(q:f_)(s:jB)(b:Bool)(a t:Nat):iY:=rT [.str (mT s) t,.str q (t+1),DW (t+2),zI (Ip s),zI (wb s).args.length,zI 0,zI 0,zI 3,.ref a,.bool fW,zI 181,.ref (a+1),.none,if b then .ref (a+2)else .none,if b then .ref (a+3)else .none,.ref (if b then a+4 else a+2),zI (if b then t+3+(Bi s).length else t+3),zI (Ip s),DW (if b then t+4+(Bi s).length else t+4)]
def Bc(q:jB->f_)(s:jB)(b:Bool)(a t:Nat)(c d:gv):List iY:=zT []::zX []::((if b then[zT (ad7 (Bi s) (t+3)),zT []]else[])++[zO .none (zF s (q s) 0 .none .none .none),Qc (q s) s b a t,zO (.type "function") (zF s (q s) 3 c d (.ref (if b then a+5 else a+3)))])
def nP:Nat->Nat->List (jB×Bool)->List (Nat×Nat×jB×Bool)|_,_,[]=>[]|a,t,x::r=>(a,t,x)::nP (if x.2 then a+7 else a+5) (if x.2 then t+6+(Bi x.1).length else t+6) r
def nO(q:jB->f_)(a:gv)(l:List (Nat×Nat×jB×Bool)):List iY:=l.flatMap λx=>Bc q x.2.2.1 x.2.2.2 x.1 x.2.1 .none a
def qR(P:lA)(l:List (Nat×Nat×jB×Bool)):List yY:=l.map λx=>⟨afw P (mT x.2.2.1),.str (mT x.2.2.1) (if x.2.2.2 then x.2.1+5+(Bi x.2.2.1).length else x.2.1+5),.ref (if x.2.2.2 then x.1+6 else x.1+4)⟩
def qQ(l:List (Nat×Nat×jB×Bool)):List gv:=l.flatMap λx=>[zI (Ip x.2.2.1),zI 0,.ref (if x.2.2.2 then x.1+5 else x.1+3)]
def tL(p:String)(s:jB):f_:=fZ p++mT s
def zs(l:List Nat):List (jB×Bool):=l.map λc=>(zB (c/2),decide (c% 2=1))
def zm(i:Nat)(l:List Nat):List (jB×Bool):=l.map λc=>(lP i (c/2),decide (c% 2=1))
def Ql(a t:Nat)(q:String):iY:=⟨.type "type",fU,.cls ⟨fZ q,[.ref 38],[.ref (a+9),.ref 38,.type "Exception",.type "BaseException",.type "object"],a+8,fZ q,fW,[],[],fY,fU,fY⟩,#[fR (.ref a),fU,fR (zS q (t-2)),fR (zS q (t+6)),fR (.builtin "Exception.__new__"),fR (.bool fW)]⟩
def wj(P:lA)(a t:Nat)(q:String)(n:Int):List iY:=[zT [.ref 38],wh,oj [zE P "__module__" (t+5) (Ij 194),zE P "__qualname__" (t+7) (zS q (t+6)),zE P "__firstlineno__" (t+9) (.int n (t+8)),zE P "__static_attributes__" (t+10) (.ref (a+7))] 4,zT [],zX [],rT [zS q t,zS q (t+1),DW (t+2),zI n,zI 0,zI 0,zI 0,zI 0,.ref (a+3),.bool fY,zI 181,.ref (a+4),.none,.none,.none,.none,zI (t+3),zI n,DW (t+4)],uH (a+5) (a+2) (Ij 194),zT [],oj [zE P "__module__" (t+5) (Ij 194),zE P "__firstlineno__" (t+9) (.int n (t+8)),zE P "__static_attributes__" (t+10) (.ref (a+7)),zE P "__doc__" (t+11) .none] 2,Ql a t q,wi (a+9),wf (a+9)]
def Ir:=nP 15 187 (zs [1])
def adl:=nP 29 208 (zm 2 [1])
def ado:=nP 133 353 (zm 12 [1,3,5,7,9,11,13,15,17,19,21,23,25])
def IB:=nP 231 485 (zs [38,40])
def adp:=nP 256 560 (zm 26 [3])
def IC:=nP 270 586 (zs [54,56,58])
def ID:=nP 285 606 (zs [63,65,66,68,71,72])
def IE:=nP 321 650 (zs [77,78,81,82,85,86,89,90,93,95,97,98])
def IF:=nP 395 755 (zs [104,106])
def adq:=nP 412 787 (zm 58 [1,3])
def Iu:=nP 433 821 (zs [119,121,122,125,127,129,131])
def Iv:=nP 488 892 (zs [135,137])
def adm:=nP 509 927 (zm 71 [1,3])
def Iw:=nP 530 968 (zs [145,147,149,151,153,155,157,159,160])
def Ix:=nP 591 1050 (zs [165,167,169,171,173,175,177,178,181,183])
def adn:=nP 680 1176 (zm 93 [5,7,9,11,12,15])
def Iy:=nP 727 1241 (zs [191,193,195,197,199,201,203])
def Iz:=nP 776 1320 (zs [207,209,211])
def IA:=nP 804 1366 (zs [214,216])
def DZ(P:lA):List iY:=nO mT (zS "__main__" 164) Ir++([zT [.type "Exception"],wh,oj [zE P "__module__" 203 (zS "treepool.faults" 194),zE P "__qualname__" 205 (zS "PoolFault" 204),zE P "__firstlineno__" 207 (.int 5 206),zE P "__init__" 215 (.ref 35),zE P "__static_attributes__" 217 (.ref 36)] 5,zT [],zX [zI 7,zI 4,.ref 34],rT [zS "PoolFault" 198,zS "PoolFault" 199,zS "/claim/cut.py" 200,zI 5,zI 0,zI 0,zI 0,zI 0,.ref 25,(.bool fY),zI 181,.ref 26,.none,.none,.none,.none,zI 201,zI 5,zS "/claim/cut.py" 202],uH 27 24 (zS "treepool.faults" 194)]++(nO (tL "PoolFault.") (zS "treepool.faults" 194) adl++([zT [zS "why" 216],oj [zE P "__module__" 203 (zS "treepool.faults" 194),zE P "__firstlineno__" 207 (.int 5 206),zE P "__init__" 215 (.ref 35),zE P "__static_attributes__" 217 (.ref 36),zE P "__weakref__" 219 (.ref 39),zE P "__doc__" 220 .none] 3,⟨(.type "type"),fU,(.cls ⟨fZ "PoolFault",[.type "Exception"],[.ref 38,.type "Exception",.type "BaseException",.type "object"],37,fZ "PoolFault",fW,[],[.ref 51,.ref 63,.ref 75,.ref 87,.ref 99,.ref 111,.ref 123],fY,fU,fY⟩),[(fR (.ref 22)),fU,(fR (zS "PoolFault" 196)),(fR (zS "PoolFault" 204)),(fR (.builtin "Exception.__new__")),(fR (.bool fW))].toArray⟩,⟨(.type "getset_descriptor"),fU,(.fields [zS "__weakref__" 218,.ref 38,.builtin "ExceptionGroup.__weakref__",.none].toArray),[].toArray⟩,wi 38,wf 38]++(wj P 42 227 "Corrupt" 10++(wj P 54 243 "Missing" 12++(wj P 66 259 "Exists" 14++(wj P 78 275 "Busy" 16++(wj P 90 291 "Misused" 18++(wj P 102 307 "InvalidName" 20++(wj P 114 323 "Broken" 22))))))))))
def DV(P:lA):List yY:=[zE P "__doc__" 166 .none,zE P "__package__" 167 .none,zE P "__loader__" 168 (.builtin "__main__.__loader__#opaque"),zE P "__spec__" 169 .none,zE P "__annotations__" 170 (.ref 6),zE P "__builtins__" 171 (.ref 4),zE P "__file__" 173 (zS "/claim/cut.py" 172),zE P "__cached__" 174 .none]++(qR P Ir++([zE P "PoolFault" 224 (.ref 38),zE P "Corrupt" 240 (.ref 51),zE P "Missing" 256 (.ref 63),zE P "Exists" 272 (.ref 75),zE P "Busy" 288 (.ref 87),zE P "Misused" 304 (.ref 99),zE P "InvalidName" 320 (.ref 111),zE P "Broken" 336 (.ref 123)]))
def Ec:List gv:=qQ Ir++([zI 5,zI 0,.ref 27,zI 10,zI 0,.ref 47,zI 12,zI 0,.ref 59,zI 14,zI 0,.ref 71,zI 16,zI 0,.ref 83,zI 18,zI 0,.ref 95,zI 20,zI 0,.ref 107,zI 22,zI 0,.ref 119])
def Il(P:lA):List iY:=[zT [],wh,oj [zE P "__module__" 348 (zS "treepool.bases" 337),zE P "__qualname__" 350 (zS "MemBase" 349),zE P "__firstlineno__" 352 (.int 26 351),zE P "__init__" 359 (.ref 139),zE P "is_there" 367 (.ref 146),zE P "new_note" 375 (.ref 153),zE P "note" 383 (.ref 160),zE P "set_note" 392 (.ref 167),zE P "add_note" 401 (.ref 174),zE P "drop" 409 (.ref 181),zE P "new_zap" 416 (.ref 188),zE P "rows" 424 (.ref 195),zE P "get" 433 (.ref 202),zE P "put" 443 (.ref 209),zE P "take" 453 (.ref 216),zE P "names" 461 (.ref 223),zE P "__static_attributes__" 465 (.ref 224)] 17,zT [],zX [zI 28,zI 4,.ref 138,zI 34,zI 4,.ref 145,zI 37,zI 4,.ref 152,zI 42,zI 4,.ref 159,zI 47,zI 4,.ref 166,zI 51,zI 4,.ref 173,zI 54,zI 4,.ref 180,zI 62,zI 4,.ref 187,zI 67,zI 4,.ref 194,zI 72,zI 4,.ref 201,zI 75,zI 4,.ref 208,zI 80,zI 4,.ref 215,zI 86,zI 4,.ref 222],rT [zS "MemBase" 343,zS "MemBase" 344,zS "/claim/cut.py" 345,zI 26,zI 0,zI 0,zI 0,zI 0,.ref 129,(.bool fY),zI 181,.ref 130,.none,.none,.none,.none,zI 346,zI 26,zS "/claim/cut.py" 347],uH 131 128 (zS "treepool.bases" 337)]++(nO (tL "MemBase.") (zS "treepool.bases" 337) ado++([zT [zS "last" 462,zS "notes" 463,zS "zaps" 464],oj [zE P "__module__" 348 (zS "treepool.bases" 337),zE P "__firstlineno__" 352 (.int 26 351),zE P "__init__" 359 (.ref 139),zE P "is_there" 367 (.ref 146),zE P "new_note" 375 (.ref 153),zE P "note" 383 (.ref 160),zE P "set_note" 392 (.ref 167),zE P "add_note" 401 (.ref 174),zE P "drop" 409 (.ref 181),zE P "new_zap" 416 (.ref 188),zE P "rows" 424 (.ref 195),zE P "get" 433 (.ref 202),zE P "put" 443 (.ref 209),zE P "take" 453 (.ref 216),zE P "names" 461 (.ref 223),zE P "__static_attributes__" 465 (.ref 224),zE P "__dict__" 467 (.ref 227),zE P "__weakref__" 469 (.ref 228),zE P "__doc__" 470 .none] 4,⟨(.type "type"),fU,(.cls ⟨fZ "MemBase",[.type "object"],[.ref 226,.type "object"],225,fZ "MemBase",fW,[],[],fY,fU,fY⟩),[fU,fU,(fR (zS "MemBase" 341)),(fR (zS "MemBase" 349)),(fR (.builtin "object.__new__")),(fR (.bool fW))].toArray⟩,⟨(.type "getset_descriptor"),fU,(.fields [zS "__dict__" 466,.ref 226,.builtin "function.__dict__",.builtin "function.__dict__#set"].toArray),[].toArray⟩,⟨(.type "getset_descriptor"),fU,(.fields [zS "__weakref__" 468,.ref 226,.builtin "ExceptionGroup.__weakref__",.none].toArray),[].toArray⟩,wi 226,wf 226]++(nO mT (zS "treepool.octets" 483) IB++([zT [],wh,oj [zE P "__module__" 536 (zS "treepool.pointers" 497),zE P "__qualname__" 538 (zS "Pointer" 537),zE P "__firstlineno__" 540 (.int 105 539),zE P "__init__" 559 (.ref 255),zE P "plain" 566 (.ref 262),zE P "__static_attributes__" 578 (.ref 263)] 6,zT [],zX [zI 107,zI 4,.ref 254,zI 120,zI 4,.ref 261],rT [zS "Pointer" 531,zS "Pointer" 532,zS "/claim/cut.py" 533,zI 105,zI 0,zI 0,zI 0,zI 0,.ref 244,(.bool fY),zI 181,.ref 245,.none,.none,.none,.none,zI 534,zI 105,zS "/claim/cut.py" 535],uH 246 243 (zS "treepool.pointers" 497),zT [(.int 0 541)]]++(Bc (tL "Pointer.") (lP 26 0) fW 249 542 (.ref 248) (zS "treepool.pointers" 497)++(nO (tL "Pointer.") (zS "treepool.pointers" 497) adp++([zT [zS "birth" 567,zS "dedup" 568,zS "dvas" 569,zS "fill" 570,zS "kind" 571,zS "level" 572,zS "lsize" 573,zS "packed" 574,zS "psize" 575,zS "sum" 576,zS "summed" 577],oj [zE P "__module__" 536 (zS "treepool.pointers" 497),zE P "__firstlineno__" 540 (.int 105 539),zE P "__init__" 559 (.ref 255),zE P "plain" 566 (.ref 262),zE P "__static_attributes__" 578 (.ref 263),zE P "__dict__" 580 (.ref 266),zE P "__weakref__" 582 (.ref 267),zE P "__doc__" 583 .none] 4,⟨(.type "type"),fU,(.cls ⟨fZ "Pointer",[.type "object"],[.ref 265,.type "object"],264,fZ "Pointer",fW,[],[],fY,fU,fY⟩),[fU,fU,(fR (zS "Pointer" 529)),(fR (zS "Pointer" 537)),(fR (.builtin "object.__new__")),(fR (.bool fW))].toArray⟩,⟨(.type "getset_descriptor"),fU,(.fields [zS "__dict__" 579,.ref 265,.builtin "function.__dict__",.builtin "function.__dict__#set"].toArray),[].toArray⟩,⟨(.type "getset_descriptor"),fU,(.fields [zS "__weakref__" 581,.ref 265,.builtin "ExceptionGroup.__weakref__",.none].toArray),[].toArray⟩,wi 265,wf 265])))))))
def Ii(P:lA):List yY:=[zE P "NAMES" 340 (.int 1 339),zE P "MemBase" 472 (.ref 226),zE P "MANY_KINDS" 474 (.int 18 473),zE P "PLAIN" 476 (.int 0 475),zE P "MANY_PACKINGS" 478 (.int 4 477),zE P "OFF" 480 (.int 0 479),zE P "MANY_SUMS" 482 (.int 4 481)]++(qR P IB++([zE P "MOST_PLACES" 500 (.int 3 499),zE P "PLACE" 502 (.int 7 501),zE P "POINTER" 524 (.int 53 523),zE P "PARTS" 528 (.int 22 527),zE P "Pointer" 585 (.ref 265)]))
def Iq:List gv:=[zI 26,zI 0,.ref 131]++(qQ IB++([zI 105,zI 0,.ref 246]))
def Qg(P:lA):List iY:=nO mT (zS "treepool.pointers" 497) IC++(nO mT (zS "treepool.pointlists" 604) ID++(nO mT (zS "treepool.deadlists" 648) IE++(nO mT (zS "treepool.numbers" 751) IF++([zT [],wh,oj [zE P "__module__" 782 (zS "treepool.dirs" 767),zE P "__qualname__" 784 (zS "DirInfo" 783),zE P "__firstlineno__" 786 (.int 242 785),zE P "__init__" 794 (.ref 418),zE P "row" 802 (.ref 425),zE P "__static_attributes__" 813 (.ref 426)] 6,zT [],zX [zI 244,zI 4,.ref 417,zI 248,zI 4,.ref 424],rT [zS "DirInfo" 777,zS "DirInfo" 778,zS "/claim/cut.py" 779,zI 242,zI 0,zI 0,zI 0,zI 0,.ref 408,(.bool fY),zI 181,.ref 409,.none,.none,.none,.none,zI 780,zI 242,zS "/claim/cut.py" 781],uH 410 407 (zS "treepool.dirs" 767)]++(nO (tL "DirInfo.") (zS "treepool.dirs" 767) adq++([zT [zS "below" 803,zS "children" 804,zS "head" 805,zS "origin" 806,zS "parent" 807,zS "props" 808,zS "quota" 809,zS "refquota" 810,zS "reserved" 811,zS "used" 812],oj [zE P "__module__" 782 (zS "treepool.dirs" 767),zE P "__firstlineno__" 786 (.int 242 785),zE P "__init__" 794 (.ref 418),zE P "row" 802 (.ref 425),zE P "__static_attributes__" 813 (.ref 426),zE P "__dict__" 815 (.ref 429),zE P "__weakref__" 817 (.ref 430),zE P "__doc__" 818 .none] 4,⟨(.type "type"),fU,(.cls ⟨fZ "DirInfo",[.type "object"],[.ref 428,.type "object"],427,fZ "DirInfo",fW,[],[],fY,fU,fY⟩),[fU,fU,(fR (zS "DirInfo" 775)),(fR (zS "DirInfo" 783)),(fR (.builtin "object.__new__")),(fR (.bool fW))].toArray⟩,⟨(.type "getset_descriptor"),fU,(.fields [zS "__dict__" 814,.ref 428,.builtin "function.__dict__",.builtin "function.__dict__#set"].toArray),[].toArray⟩,⟨(.type "getset_descriptor"),fU,(.fields [zS "__weakref__" 816,.ref 428,.builtin "ExceptionGroup.__weakref__",.none].toArray),[].toArray⟩,wi 428,wf 428]++(nO mT (zS "treepool.dirs" 767) Iu++([zT [(.int 0 880)]]++(Bc mT (zB 66) fW 481 881 (.ref 480) (zS "treepool.dirs" 767)++(nO mT (zS "treepool.dirs" 767) Iv++([zT [],wh,oj [zE P "__module__" 922 (zS "treepool.datasets" 911),zE P "__qualname__" 924 (zS "SetInfo" 923),zE P "__firstlineno__" 926 (.int 290 925),zE P "__init__" 935 (.ref 515),zE P "row" 943 (.ref 522),zE P "__static_attributes__" 960 (.ref 523)] 6,zT [],zX [zI 292,zI 4,.ref 514,zI 297,zI 4,.ref 521],rT [zS "SetInfo" 917,zS "SetInfo" 918,zS "/claim/cut.py" 919,zI 290,zI 0,zI 0,zI 0,zI 0,.ref 505,(.bool fY),zI 181,.ref 506,.none,.none,.none,.none,zI 920,zI 290,zS "/claim/cut.py" 921],uH 507 504 (zS "treepool.datasets" 911)]++(nO (tL "SetInfo.") (zS "treepool.datasets" 911) adm++([zT [zS "clones" 944,zS "dead" 945,zS "deferred" 946,zS "dir" 947,zS "guid" 948,zS "holds" 949,zS "is_snap" 950,zS "made" 951,zS "next" 952,zS "pointer" 953,zS "prev" 954,zS "prev_made" 955,zS "referenced" 956,zS "refs" 957,zS "snaps" 958,zS "unique" 959],oj [zE P "__module__" 922 (zS "treepool.datasets" 911),zE P "__firstlineno__" 926 (.int 290 925),zE P "__init__" 935 (.ref 515),zE P "row" 943 (.ref 522),zE P "__static_attributes__" 960 (.ref 523),zE P "__dict__" 962 (.ref 526),zE P "__weakref__" 964 (.ref 527),zE P "__doc__" 965 .none] 4,⟨(.type "type"),fU,(.cls ⟨fZ "SetInfo",[.type "object"],[.ref 525,.type "object"],524,fZ "SetInfo",fW,[],[],fY,fU,fY⟩),[fU,fU,(fR (zS "SetInfo" 915)),(fR (zS "SetInfo" 923)),(fR (.builtin "object.__new__")),(fR (.bool fW))].toArray⟩,⟨(.type "getset_descriptor"),fU,(.fields [zS "__dict__" 961,.ref 525,.builtin "function.__dict__",.builtin "function.__dict__#set"].toArray),[].toArray⟩,⟨(.type "getset_descriptor"),fU,(.fields [zS "__weakref__" 963,.ref 525,.builtin "ExceptionGroup.__weakref__",.none].toArray),[].toArray⟩,wi 525,wf 525])))))))))))))
def Qd(P:lA):List yY:=qR P IC++(qR P ID++(qR P IE++([zE P "NUMBER" 754 (.int 8 753)]++(qR P IF++([zE P "ROOT" 770 (zS "root" 769),zE P "LETTERS" 772 (zS "abcdefghijklmnopqrstuvwxyz0123456789-_." 771),zE P "MOST_LETTERS" 774 (.int 12 773),zE P "DirInfo" 820 (.ref 428)]++(qR P Iu++([zE P "add_dir" 891 (.ref 487)]++(qR P Iv++([zE P "FIELDS" 914 (.int 15 913),zE P "SetInfo" 967 (.ref 525)])))))))))
def Qm:List gv:=qQ IC++(qQ ID++(qQ IE++(qQ IF++([zI 242,zI 0,.ref 410]++(qQ Iu++([zI 273,zI 0,.ref 486]++(qQ Iv++([zI 290,zI 0,.ref 507]))))))))
def acL(P:lA):List iY:=nO mT (zS "treepool.datasets" 911) Iw++(nO mT (zS "treepool.marks" 1048) Ix++([zT [],wh,oj [zE P "__module__" 1156 (zS "treepool.heap" 1147),zE P "__qualname__" 1158 (zS "Heap" 1157),zE P "__firstlineno__" 1160 (.int 383 1159),zE P "__init__" 1169 (.ref 673),zE P "write" 1175 (.ref 679),zE P "want" 1184 (.ref 686),zE P "read" 1193 (.ref 693),zE P "free" 1203 (.ref 700),zE P "live" 1210 (.ref 707),zE P "used" 1216 (.ref 712),zE P "harm" 1225 (.ref 719),zE P "__static_attributes__" 1231 (.ref 720)] 12,zT [],zX [zI 385,zI 4,.ref 672,zI 392,zI 4,.ref 678,zI 406,zI 4,.ref 685,zI 411,zI 4,.ref 692,zI 418,zI 4,.ref 699,zI 424,zI 4,.ref 706,zI 427,zI 4,.ref 711,zI 430,zI 4,.ref 718],rT [zS "Heap" 1151,zS "Heap" 1152,zS "/claim/cut.py" 1153,zI 383,zI 0,zI 0,zI 0,zI 0,.ref 662,(.bool fY),zI 181,.ref 663,.none,.none,.none,.none,zI 1154,zI 383,zS "/claim/cut.py" 1155],uH 664 661 (zS "treepool.heap" 1147),zT [(.int 16 1161)]]++(Bc (tL "Heap.") (lP 93 0) fW 667 1162 (.ref 666) (zS "treepool.heap" 1147)++([zT [.none]]++(Bc (tL "Heap.") (lP 93 1) fY 675 1170 (.ref 674) (zS "treepool.heap" 1147)++(nO (tL "Heap.") (zS "treepool.heap" 1147) adn++([zT [zS "blocks" 1226,zS "gone" 1227,zS "next" 1228,zS "sector" 1229,zS "written" 1230],oj [zE P "__module__" 1156 (zS "treepool.heap" 1147),zE P "__firstlineno__" 1160 (.int 383 1159),zE P "__init__" 1169 (.ref 673),zE P "write" 1175 (.ref 679),zE P "want" 1184 (.ref 686),zE P "read" 1193 (.ref 693),zE P "free" 1203 (.ref 700),zE P "live" 1210 (.ref 707),zE P "used" 1216 (.ref 712),zE P "harm" 1225 (.ref 719),zE P "__static_attributes__" 1231 (.ref 720),zE P "__dict__" 1233 (.ref 723),zE P "__weakref__" 1235 (.ref 724),zE P "__doc__" 1236 .none] 4,⟨(.type "type"),fU,(.cls ⟨fZ "Heap",[.type "object"],[.ref 722,.type "object"],721,fZ "Heap",fW,[],[],fY,fU,fY⟩),[fU,fU,(fR (zS "Heap" 1149)),(fR (zS "Heap" 1157)),(fR (.builtin "object.__new__")),(fR (.bool fW))].toArray⟩,⟨(.type "getset_descriptor"),fU,(.fields [zS "__dict__" 1232,.ref 722,.builtin "function.__dict__",.builtin "function.__dict__#set"].toArray),[].toArray⟩,⟨(.type "getset_descriptor"),fU,(.fields [zS "__weakref__" 1234,.ref 722,.builtin "ExceptionGroup.__weakref__",.none].toArray),[].toArray⟩,wi 722,wf 722]++(nO mT (zS "treepool.snapshots" 1239) Iy++(nO mT (zS "law_np0209_01" 1318) Iz++([zT [],zX [],zT [zS "base" 1346,zS "io" 1347,zS "world" 1348,zS "x" 1349,zS "txg" 1350,zS "way" 1351,zS "a" 1352,zS "at" 1353,zS "told" 1354,zS "snaps" 1355,zS "snap" 1356,zS "due" 1357],zT [zS "base" 1358,zS "head" 1359,zS "name" 1360,zS "other" 1361,zS "row" 1362],zO .none (zF (zB 106) "_law_deed_right" 0 .none .none .none),rT [zS "_law_deed_right" 1343,zS "_law_deed_right" 1344,zS "/claim/cut.py" 1345,zI 518,zI 5,zI 0,zI 0,zI 3,.ref 797,(.bool fW),zI 181,.ref 798,.none,.ref 799,.ref 800,.ref 801,zI 1363,zI 518,zS "/claim/cut.py" 1364],zO (.type "function") (zF (zB 106) "_law_deed_right" 3 .none (zS "law_np0209_01" 1318) (.ref 802))]++(nO mT (zS "law_np0209_01" 1318) IA)))))))))))
def acE(P:lA):List yY:=qR P Iw++(qR P Ix++([zE P "Heap" 1238 (.ref 722)]++(qR P Iy++(qR P Iz++([zE P "_law_deed_right" 1365 (.ref 803)]++(qR P IA))))))
def ad3:List gv:=qQ Iw++(qQ Ix++([zI 383,zI 0,.ref 664]++(qQ Iy++(qQ Iz++([zI 518,zI 0,.ref 802]++(qQ IA))))))
def Bf(P:lA)(x a b:iY):List iY:=[boot_o_0 P,boot_o_1 P,x,a,boot_o_4 P,boot_o_5 P,boot_o_6 P,boot_o_7 P,boot_o_8 P,boot_o_9 P,boot_o_10 P,zT [],b,rT [zS "<module>" 182,zS "<module>" 183,zS "/claim/cut.py" 184,zI 1,zI 0,zI 0,zI 0,zI 0,.ref 11,(.bool fY),zI 181,.ref 12,.none,.none,.none,.none,zI 185,zI 1,zS "/claim/cut.py" 186],uH 13 3 (zS "__main__" 164)]
def D_(P:lA):hV:=⟨⟨Bf P (boot_o_2 P) (boot_o_3 P) (zX [])⟩,(ry P).life⟩
def Ed(P:lA):iY:=⟨.none,fU,(.dict [zE P "type.__subclasses__.Exception.0" 221 (zI 38),zE P "type.__subclasses__.Exception.n" 222 (zI 1)].toArray 2),[].toArray⟩
def adL(P:lA):iY:=oj (zE P "__name__" 165 (zS "treepool.faults" 194)::(DV P)) 18
def Qh(P:lA):hV:=⟨⟨Bf P (Ed P) (adL P) (zX Ec)++(DZ P)⟩,(ry P).life⟩
def adM(P:lA):iY:=oj (zE P "__name__" 165 (zS "treepool.pointers" 497)::(DV P++(Ii P))) 32
def Qi(P:lA):hV:=⟨⟨Bf P (Ed P) (adM P) (zX (Ec++(Iq)))++(DZ P++(Il P))⟩,(ry P).life⟩
def adN(P:lA):iY:=oj (zE P "__name__" 165 (zS "treepool.datasets" 911)::(DV P++(Ii P++(Qd P)))) 72
def Qj(P:lA):hV:=⟨⟨Bf P (Ed P) (adN P) (zX (Ec++(Iq++(Qm))))++(DZ P++(Il P++(Qg P)))⟩,(ry P).life⟩
def Ee(P:lA):iY:=oj (zE P "__name__" 165 (zS "law_np0209_01" 1318)::(DV P++(Ii P++(Qd P++(acE P))))) 105
def ly(P:lA):hV:=⟨⟨Bf P (Ed P) (Ee P) (zX (Ec++(Iq++(Qm++(ad3)))))++(DZ P++(Il P++(Qg P++(acL P))))⟩,(ry P).life⟩
def adO:iY:=rT [zS "_law_deed_right" 1343,zS "_law_deed_right" 1344,zS "/claim/cut.py" 1345,zI 518,zI 5,zI 0,zI 0,zI 3,.ref 797,(.bool fW),zI 181,.ref 798,.none,.ref 799,.ref 800,.ref 801,zI 1363,zI 518,zS "/claim/cut.py" 1364]
def adP:iY:=Qc (mT (zB 108)) (zB 108) fY 809 1372
def yw:ji:={scope:=pw.main.scope,locals:=mainNs,globals:=mainNs,cells:=[],code:=.ref 13,frame:=fR 14}
def qP:Code:=.body (Sd pw) yw
noncomputable def we:List Frame:=[topFrame default]
noncomputable abbrev tJ:Option gv:=fR (.ref 6)
noncomputable abbrev oM(H:hV)(t:Nat)(Y8:qt):gK:=⟨H,Qu [],boot_drawn,t,Y8⟩
def zL(a n:Nat):List jB:=(pw.main.body.drop a).take n
def AG(p:BA)(a:oW)(c:Nat)(d:Option gv)(b n:Nat)(s:gK)(t:Thread):BF qZ p a c d b n s t=Fast.tw14374325043358763698 JC p a c d b n s t:=by rw[Fast.te14374325043358763698,JB]
def I9(p:BA)(a:oW)(b:Nat)(c:Option gv)(n:Nat)(s:gK)(t:Thread):topGo qZ p a b c n s t=Fast.tw15667345088766844465 JC p a b c n s t:=by rw[Fast.te15667345088766844465,JB]
def Ϫ(p:BA)(a:oW)(b:Nat)(c:Option gv)(n:Nat)(s:gK)(t:Thread):topRun qZ p a b c n s t=Fast.tw14082659384304107361 JC p a b c n s t:=by rw[Fast.te14082659384304107361,JB]
def Zu(c:Code):denote qZ c=Fast.tw11892475500146522536 JC c:=by rw[Fast.te11892475500146522536,JB]
def adj(a:oW)(Y8:qt):topGo qZ pw a 11 tJ 12 (oM (ry a.params) Se Y8) (topStub pw)=fR (oM (D_ a.params) 187 Y8,⟨denote qZ qP,qP,default,we⟩):=by rw[Zu];exact(I9 ..).trans (by kernel_rfl)
def acC(a:oW)(Y8:qt):BF qZ pw a 11 tJ 1 1 (oM (D_ a.params) 187 Y8) (blockOf (Sd pw) yw qP default we)=fR (.next,oM (D_ a.params) 187 Y8,qP,default):=(AG ..).trans (by kernel_rfl)
def adb(a:oW)(Y8:qt):BF qZ pw a 11 tJ 1 1758 (oM (D_ a.params) 187 Y8) (JL (zL 0 10) yw qP default we)=fR (.next,oM (Qh a.params) 337 Y8,qP,⟨22,0,23,8⟩):=(AG ..).trans (by kernel_rfl)
def adc(a:oW)(Y8:qt):BF qZ pw a 11 tJ 1 1140 (oM (Qh a.params) 337 Y8) (JL (zL 10 17) yw qP ⟨22,0,23,8⟩ we)=fR (.next,oM (Qi a.params) 586 Y8,qP,⟨105,0,121,16⟩):=(AG ..).trans (by kernel_rfl)
def ade(a:oW)(Y8:qt):BF qZ pw a 11 tJ 1 1586 (oM (Qi a.params) 586 Y8) (JL (zL 27 45) yw qP ⟨105,0,121,16⟩ we)=fR (.next,oM (Qj a.params) 968 Y8,qP,⟨290,0,299,119⟩):=(AG ..).trans (by kernel_rfl)
def adf(a:oW)(Y8:qt):BF qZ pw a 11 tJ 1 1494 (oM (Qj a.params) 968 Y8) (JL (zL 72 37) yw qP ⟨290,0,299,119⟩ we)=fR (.next,oM (ly a.params) 1378 Y8,qP,⟨557,0,579,63⟩):=(AG ..).trans (by kernel_rfl)
def acK(a:oW)(Y8:qt):topRun qZ pw a 11 tJ 2 (oM (ly a.params) 1378 Y8) ⟨doneF .next,qP,⟨557,0,579,63⟩,we⟩=fR (oM (ly a.params) 1378 Y8):=(Ϫ ..).trans (by kernel_rfl)
def acB:Sd pw=zL 0 10++(zL 10 17++(zL 27 45++(zL 72 37++[]))):=by kernel_rfl
def adw(a:oW)(Y8:qt):topRun qZ pw a 11 tJ (12+(1+(1758+(1140+(1586+(1494+2)))))) (oM (ry a.params) Se Y8) (topStub pw)=fR (oM (ly a.params) 1378 Y8):=by refine go_top (adj a Y8) (piece_block (acC a Y8) ?_);rw[acB];exact JK (adb a Y8) (JK (adc a Y8) (JK (ade a Y8) (JK (adf a Y8) (acK a Y8))))
noncomputable def vz(o:iY):Bool:=match o with|⟨_,_,.freed,_⟩=>fW|_=>fY
def xT:Nat->List iY->Frag|_,[]=>[]|n,o::r=>if vz o then xT (n+1) r else(n,o)::xT (n+1) r
noncomputable def CK:iY:=⟨.none,fU,.freed,#[]⟩
def zQ:BA:=view pw [108]
def Be:List f_:=pw.boundNames.filter λx=>decide (x≠fZ "law")
noncomputable def rp:OpenRow:=PySem.Challenge.rw_np0209_01.row
def adh{F:h->Prop}(_:(∀a,F a)=P)(a:h):Prop:=F a
def Bj(d:DefRec)(c:List (f_×gq))(a:oW):Prop:=adh (rfl:(∀_:oW,_)=WalkO zQ Be (afQ zQ []) (λa h=>∀b o,(ly a.params).get? b=fR o->h.get? b=fR o) rp.toRowW d c λf e=>ju f e) a
theorem ad4:Nonempty oW:=E1
noncomputable def w:oW:=@qS _ ad4 λw=>¬∀d a,d.name=fZ "law"->Bj d a w
def adF(h:∀d a,d.name=fZ "law"->Bj d a w)(v:oW):∀d a,d.name=fZ "law"->Bj d a v:=by
 by_cases q:∃w,¬∀d a,d.name=fZ "law"->Bj d a w;exact absurd h (@adZ _ _ q);exact QB λm=>q ⟨v,m⟩
@[irreducible] def gh:BA:=pw
@[irreducible] def iI:hV:=⟨⟨((ly w.params).objs.toList.set 798 CK).set 810 CK⟩,(ly w.params).life⟩
@[irreducible] def K:Frag:=xT 0 iI.objs.toList
@[irreducible] def mg:f_->Option gv:=iI.nsMap jK
@[irreducible] def mb:f_->Option gv:=iI.nsMap tT
inductive ib{c d:Type}(P:c->d->Prop):List c->List d->Prop|dO:ib P [] []|dN {a b e f}:P a b->ib P e f->ib P (a::e) (b::f)
def ib.mono(h:ib P t x)(k:∀a b,P a b->Q a b):ib Q t x:=by induction h with|dO=>exact .dO|dN p _ c=>exact .dN (k _ _ p) c
def ib.length(h:ib P t x):t.length=x.length:=by induction h with|dO=>rfl|dN _ _ a=>simp[a]
def ib.get{c:List t}(h:ib P c x):∀(i:Nat) (a:t),c[i]?=fR a->∃b,x[i]?=fR b/\P a b:=by induction h with|dO=>intro i a e;simp at e|dN p _ d=>intro i a e;induction i with|zero=>simp at e;subst e;exact gx _ rfl p|succ i=>simp at e;simpa using d i a e
def ib.dg{c:List t}(h:ib P x c):∀(i:Nat) (b:t),c[i]?=fR b->∃a,x[i]?=fR a/\P a b:=by induction h with|dO=>intro i a e;simp at e|dN p _ d=>intro i a e;induction i with|zero=>simp at e;subst e;exact gx _ rfl p|succ i=>simp at e;simpa using d i a e
def ib.append(h:ib P t x)(a:ib P y z):ib P (t++y) (x++z):=by induction h with|dO=>exact a|dN p _ b=>exact .dN p b
def ib.take(h:ib P t x):∀n,ib P (t.take n) (x.take n):=by induction h with|dO=>intro n;simp;exact .dO|dN p _ a=>intro n;induction n with|zero=>exact .dO|succ n=>exact .dN p (a n)
def ib.drop(h:ib P x y):∀n,ib P (x.drop n) (y.drop n):=by induction h with|dO=>intro n;simp;exact .dO|dN p t a=>intro n;induction n with|zero=>exact .dN p t|succ n=>exact a n
def ib.reverse(h:ib P t x):ib P t.reverse x.reverse:=by induction h with|dO=>exact .dO|dN p _ a=>simp only[aeE];exact a.append (.dN p .dO)
def ib.set(h:ib P x y)(p:P a b):∀i,ib P (x.set i a) (y.set i b):=by induction h with|dO=>intro i;exact .dO|dN q t c=>intro i;induction i with|zero=>exact .dN p t|succ i=>exact .dN q (c i)
def ib.map(h:ib P t x)(k:∀a b,P a b->Q (f a) (g b)):ib Q (t.map f) (x.map g):=by induction h with|dO=>exact .dO|dN p _ c=>exact .dN (k _ _ p) c
def hZ{P:Prop}(h:∀G:Prop,(P->G)->G):P:=h P id
def qG{P:Prop}(e:(fU:Option h)=fR a):P:=by injection e
def L9(h:iV v=fR i):v=.a i:=by induction v with|a j=>rw[gz h]|_=>exact nS h
def Ϭ(h:sV v=fR i):v=.d i:=by induction v with|d j=>rw[gz h]|_=>exact nS h
def ϕ(h:rV v=fR i):v=.b i:=by induction v with|b j=>rw[gz h]|_=>exact nS h
def abU(h:HQ v=fR i):v=.c i:=by induction v with|c j=>rw[gz h]|_=>exact nS h
def NG(h:ya a=fW):a=⟨[],[],fU,[],[],fU,[]⟩:=by obtain⟨a,b,c,d,e,f,g⟩:=a;simp only[ya,lr,wy,Jl]at h;refine PU h λi j k l m n o=>?_;rw[i,j,k,l,m,n,o]
def uE(h:vw k e f=fR a):∃c,f c=a:=by
 unfold vw at h;split at h;exact⟨_,gz h⟩;exact nS h
def rS(h:oK e=fR x):∃p,e=.Name x p:=(uE h).elim λa q=>RG (motive_1:=λe=>∀a,RG (motive_1:=λZ=>f_) e a (λx Z=>x)=x->∃p,e=.Name x p) e a (λb p Z q=>⟨p,q▸rfl⟩) a q
def HZ{a:gq×gq}(h:DK e=fR a):∃p,e=.Subscript a.1 a.2 p:=(uE h).elim λb q=>RI (motive_1:=λe=>∀b,RI (motive_1:=λZ=>gq×gq) e b (λc d Z=>(c,d))=a->∃p,e=.Subscript a.1 a.2 p) e b (λc d p Z q=>⟨p,q▸rfl⟩) b q
def PE(h:HU e=fR c):∃b p,e=.Constant c b p:=(uE h).elim λa q=>RE (motive_1:=λe=>∀a,RE (motive_1:=λZ=>Const) e a (λc Z Z=>c)=c->∃b p,e=.Constant c b p) e a (λd b p Z q=>⟨b,p,q▸rfl⟩) a q
def H_(h:uD e=fR l):∃k p,e=.Tuple l k p:=(uE h).elim λa q=>RJ (motive_1:=λe=>∀a,RJ (motive_1:=λZ=>List gq) e a (λl Z Z=>l)=l->∃k p,e=.Tuple l k p) e a (λc b p Z q=>⟨b,p,q▸rfl⟩) a q
def HT{a:gq×List gq×List Bz}(h:AQ e=fR a):∃p,e=.Call a.1 a.2.1 a.2.2 p:=(uE h).elim λb q=>RD (motive_1:=λe=>∀b,RD (motive_1:=λZ=>gq×List gq×List Bz) e b (λc d f Z=>(c,d,f))=a->∃p,e=.Call a.1 a.2.1 a.2.2 p) e b (λc d f p Z q=>⟨p,q▸rfl⟩) b q
def acg{a:xh×gq}(h:Ia e=fR a):∃p,e=.UnaryOp a.1 a.2 p:=(uE h).elim λb q=>RK (motive_1:=λe=>∀b,RK (motive_1:=λZ=>xh×gq) e b (λc d Z=>(c,d))=a->∃p,e=.UnaryOp a.1 a.2 p) e b (λc d p Z q=>⟨p,q▸rfl⟩) b q
def PH{a:Option gq×Option gq×Option gq}(h:AR e=fR a):∃p,e=.Slice a.1 a.2.1 a.2.2 p:=(uE h).elim λb q=>RH (motive_1:=λe=>∀b,RH (motive_1:=λZ=>Option gq×Option gq×Option gq) e b (λc d f Z=>(c,d,f))=a->∃p,e=.Slice a.1 a.2.1 a.2.2 p) e b (λc d f p Z q=>⟨p,q▸rfl⟩) b q
def ace{a:tP×gq×rx}(h:PF e=fR a):∃p,e=.Lambda a.1 a.2.1 a.2.2 p:=(uE h).elim λb q=>RF (motive_1:=λe=>∀b,RF (motive_1:=λZ=>tP×gq×rx) e b (λc d f Z=>(c,d,f))=a->∃p,e=.Lambda a.1 a.2.1 a.2.2 p) e b (λc d f p Z q=>⟨p,q▸rfl⟩) b q
def HV{i:Int}(h:DJ e=fR i):∃b p,e=.Constant (.int i) b p:=by refine bI h λc d a=>?_;induction c with|int j=>obtain rfl:=gz a;exact PE d|_=>exact qG a
def PI{i:f_}(h:HY e=fR i):∃b p,e=.Constant (.str i) b p:=by refine bI h λc d a=>?_;induction c with|str j=>obtain rfl:=gz a;exact PE d|_=>exact qG a
def vL{x:y}(h:sF l=fR x):l=[x]:=by induction l using jg with|nil=>exact qG h|cons a t=>induction t using jg with|nil=>obtain rfl:=gz h;rfl|cons _ _=>exact qG h
def PC{q:x×x}(h:AO l=fR q):l=[q.1,q.2]:=by induction l using jg with|nil=>exact qG h|cons a t=>induction t using jg with|nil=>exact qG h|cons b u=>induction u using jg with|nil=>obtain rfl:=gz h;rfl|cons _ _=>exact qG h
abbrev Va:=Nat->Bool->Option gG
def iR(z:Va)(a:gG):Prop:=a∉uB/\∀i b,z i b≠fR a
def jI(z c:Va):Prop:=∀i b a,z i b=fR a->c i b=fR a
def jI.dN(z:Va):jI z z:=λZ Z Z e=>e
def jI.trans(x:jI z h)(c:jI h t):jI z t:=λi b a e=>c i b a (x i b a e)
inductive VR(z:Va):V->gv->Prop|dR:VR z .c .none|dS (b:Bool):VR z (.e b) (.bool b)|dN (i:Int) (t:oq):VR z (.a i) (.int i t)|dP (s:f_) (t:oq):VR z (.d s) (.str s t)|dQ (s:Array UInt8) (t:oq):VR z (.f s) (.bytes s t)|dO {i:Nat} {a:gG} (h:z i fY=fR a):VR z (.b i) (.ref a)
def VR.mono(h:VR z v c)(k:jI z x):VR x v c:=by induction h with|dR=>exact .dR|dS b=>exact .dS b|dN i t=>exact .dN i t|dP s t=>exact .dP s t|dQ s t=>exact .dQ s t|dO h=>exact .dO (k _ _ _ h)
abbrev iC(z:Va):List V->List gv->Prop:=ib (VR z)
def iC.mono(h:iC z t y)(k:jI z L):iC L t y:=ib.mono h λZ Z x=>x.mono k
def FR(z:Va)(fs:List (f_×V))(m:f_->Option gv):Prop:=∀x,(∀v,fs.lookup x=fR v->∃c,m x=fR c/\VR z v c)/\(fs.lookup x=fU->m x=fU)
def FR.mono(h:FR z fs m)(k:jI z t):FR t fs m:=λx=>⟨λv e=>gy ((h x).1 v e) λc a b=>(gx c a (b.mono k)),(h x).2⟩
def KR{K:Type}(z:Va)(e:K×V)(p:K×gv):Prop:=e.1=p.1/\VR z e.2 p.2
def KR.mono(h:KR z e p)(k:jI z t):KR t e p:=⟨h.1,h.2.mono k⟩
noncomputable abbrev qM(a:Array gv)(n:Nat):iY:={cls:=.type "tuple",data:=.seq a n}
def rD(h:hV)(a:gG)(m:f_->Option gv)(n:Nat):Prop:=∃o b d,h.get? a=fR o/\o.data=.dict b d/\StrKeys b/\(∀c,nsFind b c=m c)/\b.size<=n
def rD.ns(x:rD h a m n):h.Ns a m:=tI x λo e f a b c d Z=>rh o e f a b c d
def qy(z:Va)(h:hV)(i:Nat):O->Prop|.g C fs=>∃a d m,z i fY=fR a/\z i fW=fR d/\h.get? a=fR (rz C d)/\rD h d m fs.length/\FR z fs m|.a xs=>∃a b,z i fY=fR a/\h.PlainList a b.toArray/\iC z xs b|.c xs=>∃a b n,z i fY=fR a/\h.get? a=fR (qM b.toArray n)/\iC z xs b|.d=>∃a n,z i fY=fR a/\h.get? a=fR (JG [] n)|.e c=>∃a Z5,z i fY=fR a/\h.DictOf (ot gh w) a Z5/\ib (KR z) c Z5|.b c=>∃a Z5,z i fY=fR a/\h.DictOf (mj gh w) a Z5/\ib (KR z) c Z5|.f q=>∀a,z i fY=fR a->h.CodeRec (.ref a) q
def zt(z:Va)(y:H)(h:hV)(P:gG)(q:f_):Prop:=∃b,h.get? P=fR {cls:=.none,data:=.fields b}/\EU b.toList/\∀Z8 c,tU Z8 b.toList=fR c->∃j a,c=.ref a/\z j fY=fR a/\y.get j=fR (.f q)
structure gp(z:Va)(y:H)(h:hV):Prop where
 bX:∀i b a,z i b=fR a->∃o,y.get i=fR o
 lim:∀i o,y.get i=fR o->i<y.n
 inj:∀i b j c a,z i b=fR a->z j c=fR a->i=j/\b=c
 there:∀i b a,z i b=fR a->∃o,h.get? a=fR o
 new:∀i b a,z i b=fR a->iI.objs.size<=a
 aE:∀i o,y.get i=fR o->qy z h i o
 base:∀b o,iI.get? b=fR o->h.get? b=fR o
 size:iI.objs.size<=h.objs.size
 aP:811<=iI.objs.size
 tab:∀p∈qL,zt z y h p.1 p.2
def NF(o:iY):Prop:=∀a,o.data≠.fields a
structure gS(fs own:List gG)(z:Va)(h:hV)(d:Va)(c:hV):Prop where
 sub:jI z d
 new:∀i b a,d i b=fR a->z i b=fR a\/h.objs.size<=a
 keep:∀a o,iR z a->a∉own->h.get? a=fR o->(a∉fs->c.get? a=fR o)/\∃e,c.get? a=fR {o with slots:=e}
 there:∀a,a∈own->a<h.objs.size->∀o,h.get? a=fR o->∃o',c.get? a=fR o'/\(NF o->NF o')
 size:h.objs.size<=c.objs.size
def GD{h c:hV}(k:∀b o,h.get? b=fR o->c.get? b=fR o)(a:gG)(o:iY)(e:h.get? a=fR o):(P->c.get? a=fR o)/\∃d,c.get? a=fR {o with slots:=d}:=⟨λZ=>k a o e,o.slots,k a o e⟩
def gS.dN(fs own:List gG)(z:Va)(h:hV):gS fs own z h z h:=⟨jI.dN z,λZ Z Z e=>.inl e,λZ o Z Z e=>⟨λZ=>e,o.slots,e⟩,λZ Z Z o e=>gx o e id,ij _⟩
def gS.aC(x:gS fs own z h t y)(n:iR z a)(l:a<h.objs.size):iR t a:=⟨n.1,λi b e=>by
 rcases x.new i b a e with q|q
 .exact n.2 i b q
 .exact absurd l (mf.mpr q)⟩
def gS.trans(x:gS fs own z h t y)(c:gS fs own t y L N):gS fs own z h L N where
 sub:=x.sub.trans c.sub
 new:=λi b a e=>(c.new i b a e).elim (x.new i b a) λq=>.inr (gu x.size q)
 keep:=λa o n m e=>by obtain⟨d,v,f⟩:=x.keep a o n m e;obtain⟨_,g,j⟩:=c.keep a _ (x.aC n (iB e)) m f;exact⟨λq=>(c.keep a o (x.aC n (iB e)) m (d q)).1 q,g,j⟩
 there:=λa m l o e=>by refine gy (x.there a m l o e) λo' p k=>gy (c.there a m (pU l x.size) o' p) λr s u=>gx r s (λq=>u (k q))
 size:=gu x.size c.size
def gS.drop(x:gS y t z h L N)(d:∀a∈y,a∈fs\/h.objs.size<=a)(f:∀a∈t,a∈own\/h.objs.size<=a)(g:∀a∈own,a∈t):gS fs own z h L N where
 sub:=x.sub
 new:=x.new
 keep:=λa o m k e=>by
  have c:a∉t:=λb=>by
   rcases f a b with b|b
   .exact k b
   .exact absurd (iB e) (mf.mpr b)
  refine⟨λq=>(x.keep a o m c e).1 λb=>?_,(x.keep a o m c e).2⟩;rcases d a b with b|b
  .exact q b
  .exact absurd (iB e) (mf.mpr b)
 there:=λa m l o e=>x.there a (g a m) l o e
 size:=x.size
def gS.lift(x:gS fs [] z h t y)(d:∀a∈own,iR z a):gS fs own z h t y where
 sub:=x.sub
 new:=x.new
 keep:=λa o m Z e=>x.keep a o m kK e
 there:=λa m Z o e=>gI ((x.keep a o (d a m) kK e).2) λZ q=>gx _ q id
 size:=x.size
def HL(m:p∈qL):p.1<811:=by unfold qL at m;simp only[gX,kK,or_false]at m;rcases m with rfl|rfl<;>decide
def Po(m:p∈qL):p.1∈uB:=by unfold qL at m;simp only[gX,kK,or_false]at m;rcases m with rfl|rfl<;>decide
def zt.mono(x:zt z y h P q)(k:jI z t)(g:∀j,y.get j=fR (.f q)->L.get j=fR (.f q))(e:∀o,h.get? P=fR o->N.get? P=fR o):zt t L N P q:=by refine jy x ?_;intro d a b c;exact iU d (e _ a) b (λZ8 f i=>kJ (c Z8 f i) λj a l m n=>jq j a l (k _ _ _ m) (g _ n))
def qy.mono(x:qy z h i o)(k:jI z L)(e:∀b a Z1,z i b=fR a->h.get? a=fR Z1->N.get? a=fR Z1)(u:∀a,L i fY=fR a->z i fY=fR a:=by intro _ y;exact y):qy L N i o:=by induction o with|f q=>refine λa y=>yv (x a (u a y)) λc o l t v w A=>?_;cases v;exact xW _ o l t rfl (e _ _ _ (u a y) w) A|g C fs=>refine tI x ?_;intro a d m f g j B D;refine sv a d m (k _ _ _ f) (k _ _ _ g) (e _ _ _ f j) ?_ (D.mono k);refine nN B ?_;intro o s p q r;exact vx o s p (e _ _ _ g q) r|a xs=>refine kJ x ?_;intro a l f E j;refine gI E ?_;intro n g;exact jq a l (k _ _ _ f) ⟨n,e _ _ _ f g⟩ (j.mono k)|c xs=>refine sJ x ?_;intro a l n f g j;exact ti a l n (k _ _ _ f) (e _ _ _ f g) (j.mono k)|d=>refine jR x ?_;intro a n f g;exact nF a n (k _ _ _ f) (e _ _ _ f g)|e s=>refine kJ x ?_;intro a Z5 f F j;refine nN F ?_;intro o X8 p g r;exact jq a Z5 (k _ _ _ f) (vx o X8 p (e _ _ _ f g) r) (j.mono λZ Z q=>q.mono k)|b s=>refine kJ x ?_;intro a Z5 f G j;refine nN G ?_;intro o X8 p g r;exact jq a Z5 (k _ _ _ f) (vx o X8 p (e _ _ _ f g) r) (j.mono λZ Z q=>q.mono k)
def gp.keep(r:gp z y h)(k:∀b o,h.get? b=fR o->t.get? b=fR o)(c:h.objs.size<=t.objs.size):gp z y t where
 bX:=r.bX
 lim:=r.lim
 inj:=r.inj
 there:=λi b a e=>gI (r.there i b a e) λo q=>⟨o,k _ _ q⟩
 new:=r.new
 aE:=λi o e=>(r.aE i o e).mono (jI.dN z) λZ Z Z Z q=>k _ _ q
 base:=λb o e=>k _ _ (r.base b o e)
 size:=gu r.size c
 aP:=r.aP
 tab:=λp d=>(r.tab p d).mono (jI.dN z) (λZ e=>e) λZ e=>k _ _ e
def gS.al{fs own:List gG}(k:∀b o,h.get? b=fR o->t.get? b=fR o)(c:h.objs.size<=t.objs.size):gS fs own z h z t:=⟨jI.dN z,λZ Z Z e=>.inl e,λa o Z Z e=>GD k a o e,λZ Z Z o e=>gx o (k _ _ e) id,c⟩
def gp.sameBut(r:gp z y h)(n:iR z L)(l:iI.objs.size<=L)(s:oR L h t):gp z y t where
 bX:=r.bX
 lim:=r.lim
 inj:=r.inj
 there:=λi b a e=>gI (r.there i b a e) λo q=>⟨o,(s.2 a λc=>n.2 i b (c▸e)).trans q⟩
 new:=r.new
 aE:=λi o e=>(r.aE i o e).mono (jI.dN z) λb a Z1 q f=>(s.2 a λc=>n.2 i b (c▸q)).trans f
 base:=λb o e=>(s.2 b (jt (pU (iB e) l))).trans (r.base b o e)
 size:=lE s.1<|r.size
 aP:=r.aP
 tab:=λp d=>(r.tab p d).mono (jI.dN z) (λZ e=>e) λZ e=>(s.2 p.1 (jt (pU (HL d) (gu r.aP l)))).trans e
noncomputable def jl(z:Va)(n:Nat)(b:Bool)(a:gG):Va:=λi c=>if i=n/\c=b then fR a else z i c
def lc(z:Va)(n:Nat)(b:Bool)(a:gG):jl z n b a n b=fR a:=by simp[jl]
def nV(h:z n b=fU):jI z (jl z n b a):=λi c x e=>by
 unfold jl;by_cases q:i=n/\c=b;refine gP q ?_;intro d f;obtain rfl:=d;obtain rfl:=f;rw[h]at e;injection e;exact lE (if_neg q)<|e
def gp.fresh(r:gp z y h)(b:Bool):z y.n b=fU:=by generalize e:z y.n b=c;induction c with|none=>rfl|some a=>exact gI (r.bX _ _ _ e) λo q=>absurd (r.lim _ _ q) (uP _)
noncomputable def iJ(y:H)(o:O):H:={n:=y.n+1,get:=λi=>if i=y.n then fR o else y.get i}
def gp.add(r:gp z y h)(k:∀b o,h.get? b=fR o->t.get? b=fR o)(n:h.objs.size<=t.objs.size)(g:h.objs.size<=a)(s:∃Z1,t.get? a=fR Z1)(u:qy (jl z y.n fY a) t y.n o):gp (jl z y.n fY a) (iJ y o) t where
 bX:=λi b x e=>by
  unfold jl at e;by_cases q:i=y.n/\b=fY;refine gP q ?_;intro v w;obtain rfl:=v;obtain rfl:=w;exact⟨o,by simp[iJ]⟩;rw[if_neg q]at e;refine gI (r.bX i b x e) λo' d=>⟨o',?_⟩;have:=jt (r.lim _ _ d);simp[iJ,this,d]
 lim:=λi o' e=>by
  unfold iJ at e;dsimp only at e;by_cases q:i=y.n;subst q;exact nR _;rw[if_neg q]at e;exact ru (r.lim _ _ e)
 inj:=λi b j c x e f=>by
  unfold jl at e f;by_cases q:i=y.n/\b=fY<;>by_cases d:j=y.n/\c=fY;exact⟨q.1.trans d.1.symm,q.2.trans d.2.symm⟩;rw[if_pos q]at e;rw[if_neg d]at f;obtain rfl:=gz e;refine gI (r.there _ _ _ f) λZ1 l=>absurd (iB l) (mf.mpr g);rw[if_neg q]at e;rw[if_pos d]at f;obtain rfl:=gz f;refine gI (r.there _ _ _ e) λZ1 l=>absurd (iB l) (mf.mpr g);rw[if_neg q]at e;rw[if_neg d]at f;exact r.inj _ _ _ _ _ e f
 there:=λi b x e=>by
  unfold jl at e;by_cases q:i=y.n/\b=fY;rw[if_pos q]at e;obtain rfl:=gz e;exact s;rw[if_neg q]at e;exact gI (r.there _ _ _ e) λZ1 d=>⟨Z1,k _ _ d⟩
 new:=λi b x e=>by
  unfold jl at e;by_cases q:i=y.n/\b=fY;rw[if_pos q]at e;obtain rfl:=gz e;exact gu r.size g;rw[if_neg q]at e;exact r.new _ _ _ e
 aE:=λi o' e=>by
  unfold iJ at e;dsimp only at e;by_cases q:i=y.n;subst q;rw[if_pos rfl]at e;obtain rfl:=gz e;exact u
  .rw[if_neg q]at e;exact(r.aE i o' e).mono (nV (r.fresh fY)) (λZ Z Z Z q=>k _ _ q) λa m=>by unfold jl at m;rw[if_neg (λA=>q A.1)]at m;exact m
 base:=λb o e=>k _ _ (r.base b o e)
 size:=gu r.size n
 aP:=r.aP
 tab:=λp B=>(r.tab p B).mono (nV (r.fresh fY)) (λj e=>by
  have:=jt (r.lim _ _ e);simp[iJ,this,e]) λZ e=>k _ _ e
def gS.add(r:gp z y h)(k:∀b o,h.get? b=fR o->t.get? b=fR o)(c:h.objs.size<=t.objs.size)(d:h.objs.size<=a):gS fs own z h (jl z y.n fY a) t where
 sub:=nV (r.fresh fY)
 new:=λi b x e=>by
  unfold jl at e;by_cases q:i=y.n/\b=fY;rw[if_pos q]at e;obtain rfl:=gz e;exact .inr d;rw[if_neg q]at e;exact .inl e
 keep:=λa o Z Z e=>GD k a o e
 there:=λZ Z Z o e=>gx o (k _ _ e) id
 size:=c
noncomputable def jY(y:H)(i:Nat)(o:O):H:={y with get:=λj=>if j=i then fR o else y.get j}
def gp.change(r:gp z y h)(g:y.get i=fR o)(f:z i b=fR a)(s:oR a h L)(l:∃Z1,L.get? a=fR Z1)(m:qy z L i o')(n:∀q,o≠.f q:=by intro q t;injection t):gp z (jY y i o') L where
 bX:=λj c x e=>by
  refine gI (r.bX j c x e) λd q=>?_;by_cases t:j=i;exact⟨o',by simp[jY,t]⟩;exact⟨d,by simp[jY,t,q]⟩
 lim:=λj d e=>by
  unfold jY at e;dsimp only at e;by_cases t:j=i;subst t;exact r.lim _ _ g;rw[if_neg t]at e;exact r.lim _ _ e
 inj:=r.inj
 there:=λj c x e=>by
  by_cases t:x=a;subst t;exact l;exact gI (r.there _ _ _ e) λZ1 q=>⟨Z1,(s.2 x t).trans q⟩
 new:=r.new
 aE:=λj d e=>by
  unfold jY at e;dsimp only at e;by_cases t:j=i;subst t;rw[if_pos rfl]at e;obtain rfl:=gz e;exact m;rw[if_neg t]at e;refine(r.aE j d e).mono (jI.dN z) λc x Z1 q u=>(s.2 x λv=>?_).trans u;subst v;exact t (r.inj _ _ _ _ _ q f).1
 base:=λx Z1 e=>(s.2 x (jt (pU (iB e) (r.new _ _ _ f)))).trans (r.base x Z1 e)
 size:=lE s.1<|r.size
 aP:=r.aP
 tab:=λp k=>(r.tab p k).mono (jI.dN z) (λj e=>by
  have:j≠i:=λt=>by subst t;rw[g]at e;obtain rfl:=gz e;exact n _ rfl
  simp[jY,this,e]) λZ e=>(s.2 p.1 (jt (pU (HL k) (gu r.aP (r.new _ _ _ f))))).trans e
def gS.change(f:z i b=fR a)(s:oR a h t)(d:a∉own):gS fs own z h z t where
 sub:=jI.dN z
 new:=λZ Z Z e=>.inl e
 keep:=λx Z1 n Z e=>have q:=(s.2 x λc=>n.2 i b (c▸f)).trans e;⟨λZ=>q,Z1.slots,q⟩
 there:=λx m Z o e=>gx o ((s.2 x λc=>d (c▸m)).trans e) id
 size:=gC s.1.symm
def gS.cQ{fs own:List gG}(m:L∈own)(s:oR L h t)(b:∃Z1,t.get? L=fR Z1/\NF Z1):gS fs own z h z t where
 sub:=jI.dN z
 new:=λZ Z Z e=>.inl e
 keep:=λx Z1 Z k e=>have q:=(s.2 x λa=>k (a▸m)).trans e;⟨λZ=>q,Z1.slots,q⟩
 there:=λx Z Z o e=>by
  by_cases a:x=L;subst a;refine gy b ?_;intro Z1 q c;exact gx Z1 q (λZ=>c);exact gx o ((s.2 x a).trans e) id
 size:=gC s.1.symm
structure Cx(A:lj)(l:List ji)(d:Nat):Prop where
 dN:A.handled=fU
 dO:A.frames=fR l
 depth:A.depth+4*d+4<=990
 units:A.units+40*d+40<=9800
def Cx.mono(x:Cx A l d)(k:h<=d):Cx A l h:=⟨x.dN,x.dO,by have:=x.depth;lia,by have:=x.units;lia⟩
def Cx.cg(x:Cx A l d):A.depth<aga:=by have:=x.depth;refine(?_:A.depth<1000);exact iX this
noncomputable abbrev iF(l:List ji):List gG:=l.filterMap (·.frame)
def lU(z:Va)(l:List ji)(h:hV):Prop:=∀env∈l,env.scope.kind≠.module/\∃L o,env.frame=fR L/\h.get? L=fR o/\NF o/\iR z L/\iI.objs.size<=L
def lU.ext(x:lU z l h)(e:gS fs own z h t y):lU t l y:=λenv m=>by
 refine hZ λp i=>?_;obtain⟨a,L,o,b,c,d,f,g⟩:=x env m;refine i ?_;clear i;refine⟨a,L,?_⟩;have j:=e.aC f (iB c);by_cases n:L∈own;refine hZ λp i=>gy (e.there L n (iB c) o c) λo' q k=>?_;refine i ?_;clear i;exact Ab o' b q (k d) j g;refine gI ((e.keep L o f n c).2) λr q=>Ab _ b q d j g
def ye(h:vK k=fW)(e:k.lookup x=fR t):(x==("__debug__":f_))=fY/\(x==("__classdict__":f_))=fY:=by
 induction k with|nil=>injection e|cons p r a=>
  unfold vK at h;rw[IR,lr]at h;obtain⟨c,d⟩:=p;rw[jn]at e;split at e;rename_i b;have:=eq_of_beq b;subst this;simpa using h.1;exact a h.2 e
def Tn(env:ji)(P:gG)(q:f_):Prop:=∃c,env.code=.ref c/\JA iI c P/\env.qual++"<lambda>"=q/\iI.get? P=fU
structure LR(z:Va)(k:ii)(U:gA)(env:ji)(h:hV):Prop where
 kind:env.scope.kind=.function
 az:env.globals=jK
 b_:vK k=fW
 c_:∀P q,qD k=fR (P,q)->Tn env P q
 bi:env.builtins=tT
 aH:∀x a,k.lookup x=fR a->env.kindOf x=fR a\/(a=.free/\env.kindOf x=fR .cell)
 ns:∃m,h.Ns env.locals m/\∀x v,k.lookup x=fR .local->U.lookup x=fR v->∃c,m x=fR c/\VR z v c
 cell:∀x,(k.lookup x=fR .cell\/k.lookup x=fR .free)->∃c b,env.cells.lookup x=fR c/\h.IsCell c b/\∀v,U.lookup x=fR v->∃d,b=fR d/\VR z v d
 aC:iR z env.locals/\iI.objs.size<=env.locals
 offc:∀x c,env.cells.lookup x=fR c->iR z c/\iI.objs.size<=c/\c≠env.locals/\c<h.objs.size
 cq:∀x e c,env.cells.lookup x=fR c->env.cells.lookup e=fR c->x=e
def NQ{h a:hV}(x:h.Ns L m)(k:∀o,h.get? L=fR o->∃b,a.get? L=fR {o with slots:=b}):a.Ns L m:=by refine sJ x ?_;intro o c e q d r;refine gI (k o q) λb f=>ti _ c e f d r
def KZ{h a:hV}(x:h.IsCell L v)(k:∀o,h.get? L=fR o->∃b,a.get? L=fR {o with slots:=b}):a.IsCell L v:=by refine gy x ?_;intro o q d;refine gI (k o q) λb c=>gx _ c d
def LR.ext(x:LR z k U env h)(e:gS fs own z h y L)(n:env.locals∉own)(l:∀f c,env.cells.lookup f=fR c->(k.lookup f=fR .cell\/k.lookup f=fR .free)->c∉own):LR y k U env L where
 kind:=x.kind
 az:=x.az
 b_:=x.b_
 c_:=x.c_
 bi:=x.bi
 aH:=x.aH
 ns:=by refine gy x.ns λm a b=>gx m (NQ a λo q=>(e.keep _ o x.aC.1 n q).2) (λf v i j=>gy (b f v i j) λc p q=>gx c p (q.mono e.sub))
 cell:=λf g=>by refine kJ (x.cell f g) λc s a b d=>jq c s a (KZ b λo q=>(e.keep _ o (x.offc f c a).1 (l f c a g) q).2) (λv i=>gy (d v i) λu p q=>gx u p (q.mono e.sub))
 aC:=by refine gy x.ns λm w Z=>nN w ?_;intro o _ _ q _;exact⟨e.aC x.aC.1 (iB q),x.aC.2⟩
 offc:=λf c a=>by refine jZ (x.offc f c a) λp q r t=>kg (e.aC p t) q r (pU t e.size)
 cq:=x.cq
structure rC(fs own:List gG)(z:Va)(h:hV)(d:Va)(c:hV):Prop where
 sub:jI z d
 new:∀i b a,d i b=fR a->z i b=fR a\/h.objs.size<=a
 keep:∀a o,iR z a->a∉own->h.get? a=fR o->(a∉fs->c.get? a=fR o)/\∃e,c.get? a=fR {o with slots:=e}
 there:∀a,a∈own->a<h.objs.size->∀o,h.get? a=fR o->∃o',c.get? a=fR o'/\(NF o->NF o')
def gS.n{fs own:List gG}(x:gS fs own z h t y):rC fs own z h t y:=⟨x.sub,x.new,x.keep,x.there⟩
def gS.bS{fs own:List gG}(x:gS fs own z h t y)(c:rC fs own t y L N):rC fs own z h L N where
 sub:=x.sub.trans c.sub
 new:=λi b a e=>(c.new i b a e).elim (x.new i b a) λq=>.inr (gu x.size q)
 keep:=λa o n m e=>by refine hZ λf d=>?_;obtain⟨g,A,j⟩:=x.keep a o n m e;obtain⟨_,p,r⟩:=c.keep a _ (x.aC n (iB e)) m j;refine d ?_;clear d;exact⟨λq=>(c.keep a o (x.aC n (iB e)) m (g q)).1 q,p,r⟩
 there:=λa m l o e=>by refine hZ λf d=>gy (x.there a m l o e) λo' s k=>gy (c.there a m (pU l x.size) o' s) λu v w=>?_;refine d ?_;clear d;exact gx u v (λq=>w (k q))
def rC.lift(x:rC fs [] z h t y)(d:∀a∈own,iR z a):rC fs own z h t y where
 sub:=x.sub
 new:=x.new
 keep:=λa o m Z e=>x.keep a o m kK e
 there:=λa m Z o e=>gI ((x.keep a o (d a m) kK e).2) λZ q=>gx _ q id
def rC.drop(x:rC y t z h L N)(d:∀a∈y,a∈fs\/h.objs.size<=a)(f:∀a∈t,a∈own\/h.objs.size<=a)(g:∀a∈own,a∈t):rC fs own z h L N where
 sub:=x.sub
 new:=x.new
 keep:=λa o m k e=>by
  have c:a∉t:=λb=>by
   rcases f a b with b|b
   .exact k b
   .exact absurd (iB e) (mf.mpr b)
  refine⟨λq=>(x.keep a o m c e).1 λb=>?_,(x.keep a o m c e).2⟩;rcases d a b with b|b
  .exact q b
  .exact absurd (iB e) (mf.mpr b)
 there:=λa m l o e=>x.there a (g a m) l o e
def Kl(B:hV)(l:List ji)(e:gG)(c d:gv)(h:hV):Prop:=yZ B l e c d h\/(B.StaysIn h/\B.get? e=fU/\h.FunFrames B l/\∃a b,h.get? e=fR a/\a.cls=c/\a.data=.fields b/\b[1]?=fR .none/\b[0]?=fR d)
abbrev XT:Type:=Va->hV->gG->H->gv->hV->Prop
def gL(l:List ji)(own:List gG)(z:Va)(h:hV)(C:gG)(f:H)(e:gv)(b:hV):Prop:=∃c B d g,e=.ref d/\rC (iF l) own z h c b/\(∀a o,iR z a->a∉own->h.get? a=fR o->a∉iF l->B.get? a=fR o)/\gp c f B/\Kl B l d (.ref C) g b/\lU c l b
def KO(l:List ji)(own:List gG)(P:Va->h->t->Prop)(z:Va)(s:gK)(a:h)(e:H)(Q:t->gK->Prop):Prop:=∀c d f b,gS (iF l) own z s.heap c d->gp c e d->P c a b->Q b (sU s d f)
def KX(X:XT)(z:Va)(s:gK)(C:gG)(b:H)(E:gv->gK->Prop):Prop:=∀e a c,X z s.heap C b e a->E e (sU s a c)
def gF(l:List ji)(own:List gG)(X:XT)(A:lj)(t:iM h)(P:Va->x->h->Prop)(z:Va)(s:gK):R x->Prop|.b a b=>∀Q E,KO l own P z s a b Q->gg (gk gh w) A t Q E s|.c C b=>∀Q E,KX X z s C b E->gg (gk gh w) A t Q E s|.a=>True
def rc(l:List ji)(own:List gG)(X:XT):Prop:=∀z h a b C y e c,gS (iF l) own z h a b->X a b C y e c->X z h C y e c
def gL.pre:rc l own (gL l own):=λz h u v C y e w x r=>by refine pS r ?_;intro c B d f g i;obtain rfl:=g;refine pi i ?_;intro j k p s t;refine Ae c B d f rfl (x.bS j) (λa o n m q b=>?_) p s t;exact k a o (x.aC n (iB q)) m ((x.keep a o n m q).1 b) b
def gL.lift(d:∀a∈own,iR z a)(r:gL l [] z h C y e t):gL l own z h C y e t:=by refine pS r ?_;intro b B c f g i;obtain rfl:=g;refine pi i ?_;intro j k m p s;exact Ae b B c f rfl (j.lift d) (λa o n Z q u=>k a o n kK q u) m p s
def dE(e:t=t')(h:gF l own X A t' P z s r):gF l own X A t P z s r:=e▸h
def gF.dN(r:gp z y s.heap)(p:P z a b):gF l own X A (af0 b) P z s (.b a y):=λZ Z k=>gU (k z s.heap s.toks b (gS.dN _ _ _ _) r p)
def gF.bind{g:L->M N}(F:rc l own X)(n:gF l own X A t P z s (m y))(G:∀a i d j o b,m y=.b a i->gS (iF l) own z s.heap d j->gp d i j->P d a b->gF l own X A (f b) h d (sU s j o) (g a i)):gF l own X A (t>>=f) h z s (fS m g y):=by unfold fS;generalize e:m y=q;induction q with|a=>trivial|c C i=>rw[e]at n;exact λQ E k=>gf (n _ E k)|b a i=>rw[e]at n;dsimp only;have B:=G a i;generalize D:g a i=q;induction q with|a=>trivial|c C H=>refine λQ E k=>gf (n _ E λd j o b x r p=>?_);have:=B d j o b e x r p;rw[D]at this;exact this Q E λe u v w=>k e u v (F _ _ _ _ _ _ _ _ x w)|b c H=>refine λQ E k=>gf (n _ E λd j o b x r p=>?_);have:=B d j o b e x r p;rw[D]at this;exact this Q E λI u v J w K O=>k I u v J (x.trans w) K O
def gF.of_wp(h:gF l own X A t P z s r)(k:∀Q E,gg (gk gh w) A t Q E s->gg (gk gh w) A t' Q E s):gF l own X A t' P z s r:=by induction r with|a=>trivial|c C y=>exact λQ E x=>k Q E (h Q E x)|b a y=>exact λQ E x=>k Q E (h Q E x)
def gF.aZ(h:gF l own X A t P z s r):gF l own X A (pC y t) P z s r:=h.of_wp λZ Z x=>jp x
def gF.aW(h:gF l own X A t P z s r):gF l own X A (xm Z8>>=λZ=>t) P z s r:=h.of_wp λZ Z x=>gf (lk x)
def gF.aD{g:N->W}(h:gF l own X A t P z s (m y))(k:∀c a b,P c a b->L c (g a) b):gF l own X A t L z s (fS m (λa=>fX (g a)) y):=by unfold fS;generalize e:m y=d;induction d with|a=>trivial|c C f=>rw[e]at h;exact h|b a f=>rw[e]at h;exact λQ E x=>h Q E λc i j b n r p=>x c i j b n r (k _ _ _ p)
def jf[Decidable c](h:c->gF l own X A t P z s (m y)):gF l own X A t P z s ((if c then m else gc) y):=(ae0 c).elim (λq=>(if_pos q).symm▸h q) λq=>(if_neg q).symm▸trivial
def M1[Decidable c](h:c->gF l own X A t P z s r):gF l own X A t P z s (if c then r else .a):=(ae0 c).elim (λq=>(if_pos q).symm▸h q) λq=>(if_neg q).symm▸trivial
def gF.val(r:gp z y s.heap)(k:∀Q E,(∀b c,P z a b->Q b {s with toks:=c})->gg (gk gh w) A t Q E s):gF l own X A t P z s (.b a y):=λQ E x=>k Q E λb c p=>x z s.heap c b (gS.dN _ _ _ _) r p
def oE:hJ<=Fg:=by decide+kernel
def gF.bu{t:iM gv}(r:gp z y s.heap)(m:Z1.isFreed=fY)(n:∀d,d.get? s.heap.objs.size=fR Z1->qy (jl z y.n fY s.heap.objs.size) d y.n o)(p:∀f i a,f i fY=fR a->P f (.b i) (.ref a))(k:∀Q E,(∀c,Q (.ref s.heap.objs.size) (sU s (s.heap.push Z1) c))->gg (gk gh w) A t Q E s):gF l own X A t P z s (gM o y):=λQ E x=>k Q E λc=>by
 have g:∀b o',s.heap.get? b=fR o'->(s.heap.push Z1).get? b=fR o':=λb o' e=>iW _ e;have h:s.heap.objs.size<=(s.heap.push Z1).objs.size:=by rw[kt];exact jA _
 have j:=lu s.heap m;exact x (jl z y.n fY s.heap.objs.size) _ c _ (gS.add r g h (ij _)) (r.add g h (ij _) ⟨_,j⟩ (n _ j)) (p _ _ _ (lc ..))
def vF(b:z i fY=fR a)(e:h.get? a=fR (uV t.toArray n))(x:iC z xs t):qy z h i (.a xs):=jq a t b ⟨n,e⟩ x
def gp.list{s:gK}(r:gp z y s.heap)(d:z i fY=fR a)(e:y.get i=fR (.a xs)):∃b,s.heap.PlainList a b.toArray/\iC z xs b:=by refine kJ (r.aE i _ e) λh b c f g=>?_;rw[d]at c;obtain rfl:=gz c;exact gx b f g
def gp.lK{s:gK}{G:Prop}(r:gp z y s.heap)(c:z i fY=fR a)(e:y.get i=fR (.a xs))(k:∀b,s.heap.PlainList a b.toArray->iC z xs b->G):G:=gy (r.list c e) k
def gp.tup{s:gK}(r:gp z y s.heap)(d:z i fY=fR a)(e:y.get i=fR (.c xs)):∃b n,s.heap.get? a=fR (qM b.toArray n)/\iC z xs b:=by refine sJ (r.aE i _ e) λh b n c f g=>?_;rw[d]at c;obtain rfl:=gz c;exact nF b n f g
def gp.tK{s:gK}{G:Prop}(r:gp z y s.heap)(c:z i fY=fR a)(e:y.get i=fR (.c xs))(k:∀b n,s.heap.get? a=fR (qM b.toArray n)->iC z xs b->G):G:=jR (r.tup c e) k
def zw(e:y.get i=fR o):fS (lg i) f y=f o y:=by unfold fS lg;exact lE e rfl
def zx(e:y.get i=fU):fS (lg i) f y=.a:=by unfold fS lg;exact lE e rfl
def KS:fS (fX a) f=f a:=rfl
def sj:fS (ig (fR a)) f=f a:=rfl
def nW(e:m y=.b a h):fS m f y=f a h:=by unfold fS;exact lE e rfl
def lW(e:m y=.a):fS m f y=.a:=by unfold fS;exact lE e rfl
def vE(i:Nat)(y:H):(∃xs,y.get i=fR (.a xs)/\nh (.b i) y=.b xs y)\/nh (.b i) y=.a:=by unfold nh;dsimp only;generalize e:y.get i=a;induction a with|none=>right;exact zx e|some o=>refine lE (zw e) ?_;induction o with|a xs=>left;exact gx xs rfl rfl|_=>right;rfl
def ZV(r:gp z y s.heap):gF l own X A (constValue env c) VR z s (sq c y):=by
 induction c with
 |none=>exact .dN r .dR
 |bool b=>exact .dN r (.dS b)
 |int i=>exact .val r λQ E k=>λZ Z Z=>k _ _ (.dN i _)
 |str x=>
  dsimp only[sq];split;exact .val r λQ E k=>λZ Z Z=>k _ _ (.dP x _);trivial
 |bytes b=>
  dsimp only[sq];split;exact .val r λQ E k=>λZ Z Z=>k _ _ (.dQ _ _);trivial
 |float _=>trivial
 |complex _ _=>trivial
 |ellipsis=>trivial
def ZS(r:gp z y s.heap)(B:VR z a x)(f:VR z b N):gF l own X A (binaryOp L x N) VR z s (hM L a b y):=by
 induction B with
 |dN i t=>
  induction f with
  |dN j u=>
   induction L with
   |Add=>exact .val r λQ E k=>add_int (k _ _ (.dN _ _))
   |Sub=>exact .val r λQ E k=>sub_int (k _ _ (.dN _ _))
   |Mult=>
    dsimp only[hM];refine jf λh=>?_;have C:i.natAbs<2^64:=by simpa[KQ]using h
    exact .val r λQ E k=>mul_int (k _ _ (.dN _ _)) (IntMulOk.of_left (intBits_le_64 (by omega) (by omega)))
   |FloorDiv=>dsimp only[hM];refine jf λh=>.val r λQ E k=>floordiv_int (ma h.1) (k _ _ (.dN _ _)) (.inl (af4 (by omega)))
   |Mod=>dsimp only[hM];refine jf λh=>.val r λQ E k=>mod_int' h (k _ _ (.dN _ _))
   |Pow=>dsimp only[hM];refine jf λh=>.val r λQ E k=>pow_int_small h.1.1 (yJ h.1.2 gO) h.2 (k _ _ (.dN _ _))
   |LShift=>dsimp only[hM];refine jf λh=>.val r λQ E k=>lshift_int_small h.1.1 (yJ h.1.2 gO) h.2 (k _ _ (.dN _ _))
   |RShift=>dsimp only[hM];refine jf λh=>.val r λQ E k=>rshift_int h (k _ _ (.dN _ _))
   |BitAnd=>exact .val r λQ E k=>and_int (k _ _ (.dN _ _))
   |_=>trivial
  |_=>induction L<;>trivial
 |dP i t=>
  induction f with
  |dP j u=>induction L with|Add=>dsimp only[hM];refine jf λh=>.val r λQ E k=>add_str (hsz:=(gu h oE)) λt' M=>k _ _ (.dP _ _)|_=>trivial
  |_=>induction L<;>trivial
 |dQ i t=>
  induction f with
  |dQ j u=>induction L with|Add=>dsimp only[hM];refine jf λh=>.val r λQ E k=>KBy.add_bytes (gu h gO) λt' O=>k _ _ (.dQ _ _)|_=>trivial
  |_=>induction L<;>trivial
 |@dO i x D=>
  induction f with
  |@dO j N F=>
   induction L with
   |Add=>
    dsimp only[hM];rcases vE i y with⟨xs,G,g⟩|g
    .refine lE (nW g) ?_;rcases vE j y with⟨P,H,m⟩|m
     .refine lE (nW m)<|jf λh=>hZ λR o=>r.lK D G λc I p=>?_;refine gI I ?_;intro n q;refine r.lK F H λd J v=>gI J ?_;intro n' w;refine o ?_;clear o;have K:c.toArray.size+d.toArray.size<=Fg:=by
       exact lE lz (lE lz (rE p.length (rE v.length (gu h oE))))
      refine .bu (Z1:=uV (c++d).toArray 0) r rfl (λC e=>jq _ _ (lc ..) ⟨_,e⟩ ?_) (λZ Z Z e=>.dO e) λQ E k=>?_;exact(p.mono (nV (r.fresh fY))).append (v.mono (nV (r.fresh fY)))
      .refine concat_meets (gx _ q rfl) (gx _ w rfl) noFill_list_add seq_list_add PySem.F.slot_list_add PySem.F.entry_list_add (PySem.F.args_list_add_2 _ _) (list_addW x N c.toArray d.toArray n n' fU fU #[] #[] K) (iy q w ?_);have e:c.toArray++d.toArray=(c++d).toArray:=by simp
       refine lE e<|k s.toks
     .exact lE (lW m) trivial
    .exact lE (lW g) trivial
   |_=>trivial
  |_=>induction L<;>trivial
 |dR=>induction L<;>trivial
 |dS _=>induction L<;>trivial
def gp.aB{s:gK}(r:gp z y s.heap)(d:z i b=fR a):(a==sysModules)=fY:=by refine beq_eq_false_iff_ne.mpr ?_;intro e;have c:(4:Nat)<=a:=gu (gu gO r.aP) (r.new _ _ _ d);rw[e]at c;exact absurd c gO
def Am(e:qC xs=fR is)(x:iC z xs h):sK h is:=by induction x generalizing is with|dO=>obtain rfl:=gz e;exact .nil|@dN a b c j p t d=>induction p with|dN i k=>exact mI (show(qC c).map (i::·)=fR is from e) λr f g=>g▸.cons _ _ (d f)|_=>injection e
def Pf(e:uA xs=fR is)(x:iC z xs h):yW h is:=by induction x generalizing is with|dO=>obtain rfl:=gz e;exact .nil|@dN a b c j p t d=>induction p with|dP i k=>exact mI (show(uA c).map (i::·)=fR is from e) λr f g=>g▸.cons _ _ (d f)|_=>injection e
def Dx(e:Ht v=fR d)(x:VR z v c):∃a,Reads h c d a:=by induction x with|dN i t=>obtain rfl:=gz e;exact⟨_,.int i t⟩|dP i t=>obtain rfl:=gz e;exact⟨_,.str i t⟩|dS b=>obtain rfl:=gz e;exact⟨_,.bool b⟩|dR=>injection e|dQ _ _=>injection e|dO _=>injection e
def LB(k:∀(v:V) (c:gv) (d:tS),f v=fR d->VR z v c->∃a,Reads h c d a):∀{xs:List V} {b:List gv} {ds:List tS},j_ f xs=fR ds->iC z xs b->∃a,ReadsAll h b ds a:=by intro xs;induction xs with|nil=>intro b ds e x;cases x;cases e;exact⟨_,.nil⟩|cons x xs l=>intro b ds e q;cases q with|dN p q=>unfold j_ at e;generalize g:f x=i;induction i with|none=>rw[g]at e;exact nS e|some d=>rw[g]at e;generalize j:j_ f xs=i;induction i with|none=>rw[j]at e;exact nS e|some o=>rw[j]at e;obtain rfl:=gz e;refine gI (k _ _ _ g p) λa m=>gI (l j q) λr n=>⟨_,.cons m n⟩
def Cs{s:gK}(r:gp z y s.heap):∀(n:Nat) (v:V) (c:gv) (d:tS),iQ y n v=fR d->VR z v c->∃j,Reads s.heap c d j:=by
 intro n;induction n with|zero=>exact λv c d e x=>Dx e x|succ n m=>
  intro v c d e x;unfold iQ at e;induction x with|dN i t=>exact Dx (z:=z) e (.dN i t)|dP i t=>exact Dx (z:=z) e (.dP i t)|dS b=>exact Dx (z:=z) e (.dS b)|dR=>exact nS e|dQ _ _=>exact nS e|@dO i a u=>
   dsimp only at e;generalize h:y.get i=g;induction g with|none=>rw[h]at e;exact nS e|some o=>
    rw[h]at e;induction o with
    |a xs=>dsimp only at e;generalize f:j_ (iQ y n) xs=g;induction g with|none=>rw[f]at e;exact nS e|some ds=>rw[f]at e;obtain rfl:=gz e;refine r.lK u h λw A q=>gI A ?_;intro k p;refine gI (LB m f q) λj l=>⟨_,reads_list_at p rfl rfl (by simpa using l)⟩
    |c xs=>dsimp only at e;generalize f:j_ (iQ y n) xs=g;induction g with|none=>rw[f]at e;exact nS e|some ds=>rw[f]at e;obtain rfl:=gz e;refine r.tK u h λw k p q=>gI (LB m f q) λj l=>⟨_,reads_tuple_at p rfl rfl (by simpa using l)⟩
    |_=>exact nS e
abbrev BR:Va->Bool->gv->Prop:=λZ b v=>v=.bool b
def KN[DecidableEq c](a b:c):(a==b)=decide (a=b):=by
 by_cases h:a=b;simp[h];simp[h]
def Pe(x c:f_):(x.cps.toList==c.cps.toList)=decide (x=c):=by
 by_cases h:x=c;subst h;simp;have:x.cps.toList≠c.cps.toList:=λe=>h (by obtain⟨a⟩:=x;obtain⟨b⟩:=c;exact congrArg Str.mk (adR e));refine lE (decide_eq_false h)<|beq_eq_false_iff_ne.mpr this
def ZY(r:gp z y s.heap)(g:VR z a x)(c:VR z b L)(m:A.units+64<cLine):gF l own X A (qv .Eq x L) BR z s (qz a b y):=by
 induction g with
 |dN i t=>induction c with|dN j u=>exact .val r λQ E k=>eq_int (by rw[KN];exact k _ _ rfl)|_=>trivial
 |dP i t=>induction c with|dP j u=>exact .val r λQ E k=>P.eq_str (by rw[Pe];exact k _ _ rfl)|_=>trivial
 |@dO i a n=>
  induction c with
  |@dO j b o=>dsimp only[qz];generalize v:iQ y 3 (.b i)=f;induction f with|none=>trivial|some d=>generalize w:iQ y 3 (.b j)=f;induction f with|none=>trivial|some e=>refine M1 λh=>gI (Cs r 3 _ _ _ v (.dO n)) λB p=>gI (Cs r 3 _ _ _ w (.dO o)) λC q=>.val r λQ E k=>eq_dataH p q h.1 h.2 m (k _ _ rfl)
  |_=>trivial
 |dR=>trivial
 |dS _=>trivial
 |dQ _ _=>trivial
def i9(r:gp z y s.heap)(m:VR z a x)(c:VR z b L)(n:A.units+64<cLine):gF l own X A (qv .NotEq x L) BR z s (fS (qz a b) (λr=>fX (!r)) y):=by
 induction m with
 |dN i t=>induction c with|dN j u=>exact .val r λQ E k=>ne_int (by rw[bne,KN];exact k _ _ rfl)|_=>trivial
 |dP i t=>induction c with|dP j u=>exact .val r λQ E k=>P.ne_str (by rw[bne,Pe];exact k _ _ rfl)|_=>trivial
 |@dO i a o=>
  induction c with
  |@dO j b v=>
   unfold fS;dsimp only[qz];generalize w:iQ y 3 (.b i)=f;induction f with|none=>trivial|some d=>
    generalize B:iQ y 3 (.b j)=f;induction f with|none=>trivial|some e=>
     dsimp only;by_cases h:qV d=fW/\qV e=fW;refine lE (if_pos h)<|hZ λC g=>gI (Cs r 3 _ _ _ w (.dO o)) λD p=>gI (Cs r 3 _ _ _ B (.dO v)) λF q=>?_;refine g ?_;clear g;exact .val r λQ E k=>ne_dataH p q h.1 h.2 n (k _ _ rfl);exact lE (if_neg h) trivial
  |_=>trivial
 |dR=>trivial
 |dS _=>trivial
 |dQ _ _=>trivial
def qF(h:∀o,y.get i=fR o->gF l own X A t P z s (f o y)):gF l own X A t P z s (fS (lg i) f y):=Ri (motive:=λq=>y.get i=q->gF l own X A t P z s (fS (lg i) f y)) (λe=>(zx e).symm▸trivial) (λo e=>(zw e).symm▸h o e) (y.get i) rfl
def qH(h:∀o,q=fR o->gF l own X A t P z s (f o y)):gF l own X A t P z s (fS (ig q) f y):=Ri (motive:=λx=>q=x->gF l own X A t P z s (fS (ig x) f y)) (λZ=>trivial) (λo e=>h o e) q rfl
def tq(h:∀xs,y.get i=fR (.a xs)->gF l own X A t P z s (f xs y)):gF l own X A t P z s (fS (nh (.b i)) f y):=(vE i y).elim (λa=>gy a λxs e b=>(nW b).symm▸h xs e) λe=>(lW e).symm▸trivial
def KD[DecidableEq a](xs:List a)(k:a):xs.any (·==k)=decide (k∈xs):=by
 rw[yI,wu];refine lE decide_eq_true_eq ?_;constructor;rintro⟨x,b,e⟩;rw[beq_iff_eq.mp e]at b;exact b;intro h;exact gx k h (beq_self_eq_true _)
def KE(xs:List f_)(k:f_):xs.any (·==k)=decide (k∈xs):=by
 rw[yI,wu];refine lE decide_eq_true_eq ?_;constructor;rintro⟨x,a,e⟩;rw[eq_of_beq e]at a;exact a;intro h;exact gx k h (beq_self_eq_true _)
def AT{K:Type}[DecidableEq K]{c:List (K×V)}{Z5:List (K×gv)}(x:ib (KR z) c Z5)(k:K):(xq Z5 k).isSome=c.any λe=>decide (e.1=k):=by
 unfold xq;induction x with|dO=>rfl|@dN a b f g p _ d=>
  refine lE Ep (lE wt (lE p.1 ?_));by_cases h:b.1=k;simp[h];simp only[h,decide_false,Bool.false_or];exact d
def AU{z:Va}{K:Type}[DecidableEq K]{d:List (K×V)}{Z5:List (K×gv)}(x:ib (KR z) d Z5)(k:K):match je d k with|some v=>∃c,xq Z5 k=fR c/\VR z v c|none=>xq Z5 k=fU:=by
 unfold xq je;induction x with|dO=>rfl|@dN a b f g p _ e=>
  refine lE Ep (lE Ep (lE p.1 ?_));by_cases h:b.1=k;simp only[h,decide_true];exact gx _ rfl p.2;simp only[h,decide_false];exact e
def rH{K:Type}[DecidableEq K](b:KeyKind gh w K){h:hV}(e:h.get? a=fR (JG [] n)):h.DictOf b a []:=ML _ (#[]) n e (iy rfl rfl rfl) rfl (λZ c=>by simp at c) .nil (by simp)
def ul(i:Int)(t:oq):(ot gh w).is i (.int i t)=fW:=by simp[ot,afJ]
def qh(i:f_)(t:oq):(mj gh w).is i (.str i t)=fW:=by simp[mj,Sa]
def Ai(a:V):O->M Bool
 |.a xs=>match a with|.a i=>fS (ig (qC xs)) λis=>fX (decide (i∈is))|_=>gc
 |.c xs=>match a with|.d i=>fS (ig (uA xs)) λis=>fX (decide (i∈is))|_=>gc
 |.d=>match a with|.a _=>fX fY|.d _=>fX fY|_=>gc
 |.e b=>match a with|.a i=>fX (b.any λe=>decide (e.1=i))|_=>gc
 |.b b=>match a with|.d i=>fX (b.any λe=>decide (e.1=i))|_=>gc
 |_=>gc
def pO(b:y.get j=fR o):m_ a (.b j) y=Ai a o y:=by dsimp only[m_];refine lE (zw b) ?_;induction o<;>rfl
def qB(e:m_ a b y=.a):gF l own X A (qv .In x h) BR z s (m_ a b y)/\gF l own X A (qv .NotIn x h) BR z s (fS (m_ a b) (λr=>fX (!r)) y):=lE e (lE (lW e) ⟨trivial,trivial⟩)
def vy(r:gp z y s.heap)(v:Bool)(e:m_ a b y=.b v y)(d:∀Q E,(∀c,Q (.bool v) {s with toks:=c})->gg (gk gh w) A (qv .In x h) Q E s)(f:∀Q E,(∀c,Q (.bool (!v)) {s with toks:=c})->gg (gk gh w) A (qv .NotIn x h) Q E s):gF l own X A (qv .In x h) BR z s (m_ a b y)/\gF l own X A (qv .NotIn x h) BR z s (fS (m_ a b) (λr=>fX (!r)) y):=by refine lE e (lE (nW e) ?_);exact⟨.val r λQ E k=>d Q E λc=>k _ _ rfl,.val r λQ E k=>f Q E λc=>k _ _ rfl⟩
def LN{l:List ji}{own:List gG}{X:XT}(r:gp z y s.heap)(p:VR z a x)(K:VR z b h):gF l own X A (qv .In x h) BR z s (m_ a b y)/\gF l own X A (qv .NotIn x h) BR z s (fS (m_ a b) (λr=>fX (!r)) y):=by
 induction K with
 |dP t O=>
  induction p with
  |dP u P=>
   generalize e:Ay u=v;induction v with|none=>exact qB (by dsimp only[m_];exact lE e rfl)|some c=>
    have L:u=⟨#[c]⟩:=by
     obtain⟨⟨M⟩⟩:=u;rcases M with _|⟨R,_|⟨_,_⟩⟩
     .simp[Ay]at e
     .simp[Ay]at e;subst e;rfl
     .simp[Ay]at e
    subst L;refine vy r (decide (c∈t.cps.toList)) (by dsimp only[m_];exact lE e rfl) (λQ E k=>in_str ?_) (λQ E k=>notIn_str ?_);rw[afH];exact k s.toks;rw[afH];exact k s.toks
  |_=>exact qB rfl
 |@dO j N f=>
  generalize d:y.get j=v;induction v with|none=>exact qB (by dsimp only[m_];exact lE (zx d) rfl)|some o=>
   induction o with
   |g _ _=>exact qB (pO d)
   |f _=>exact qB (pO d)
   |a xs=>
    refine r.lK f d λH F q=>?_;induction p with
    |dN i t=>
     generalize e:qC xs=v;induction v with|none=>exact qB ((pO d).trans (by dsimp only[Ai];exact lE e rfl))|some is=>
      have B:=Am e q;refine vy r (decide (i∈is)) ((pO d).trans (by dsimp only[Ai];exact lE e rfl)) (λQ E k=>in_list_ints F.isList B ?_) (λQ E k=>notin_list_ints F.isList B ?_);rw[KD];exact k s.toks;rw[KD];exact k s.toks
    |_=>exact qB (pO d)
   |c xs=>
    refine r.tK f d λH n F q=>?_;induction p with
    |dP i t=>
     generalize e:uA xs=v;induction v with|none=>exact qB ((pO d).trans (by dsimp only[Ai];exact lE e rfl))|some is=>
      have B:=Pf e q;have I:IsTup s.heap N H.toArray:=⟨_,F,rfl,_,rfl⟩;refine vy r (decide (i∈is)) ((pO d).trans (by dsimp only[Ai];exact lE e rfl)) (λQ E k=>in_tuple_strs I (by simpa using B) ?_) (λQ E k=>notin_tuple_strs I (by simpa using B) ?_);rw[KE];exact k s.toks;rw[KE];exact k s.toks
    |_=>exact qB (pO d)
   |d=>refine jR (r.aE j _ d) λJ n g m=>?_;rw[f]at g;obtain rfl:=gz g;induction p with|dN i t=>have C:=(rH (ot gh w) m).mapOf;exact vy r fY (pO d) (λQ E k=>Kb (ul i t) (r.aB f) C (k _)) (λQ E k=>Kd (ul i t) (r.aB f) C (k _))|dP i t=>have C:=(rH (mj gh w) m).mapOf;exact vy r fY (pO d) (λQ E k=>Kb (qh i t) (r.aB f) C (k _)) (λQ E k=>Kd (qh i t) (r.aB f) C (k _))|_=>exact qB (pO d)
   |e G=>
    refine kJ (r.aE j _ d) λJ Z5 g m D=>?_;rw[f]at g;obtain rfl:=gz g;induction p with
    |dN i t=>
     refine vy r (G.any λe=>decide (e.1=i)) (pO d) (λQ E k=>Kb (ul i t) (r.aB f) m.mapOf ?_) (λQ E k=>Kd (ul i t) (r.aB f) m.mapOf ?_);rw[AT D];exact k _;rw[AT D];exact k _
    |_=>exact qB (pO d)
   |b G=>
    refine kJ (r.aE j _ d) λJ Z5 g m D=>?_;rw[f]at g;obtain rfl:=gz g;induction p with
    |dP i t=>
     refine vy r (G.any λe=>decide (e.1=i)) (pO d) (λQ E k=>Kb (qh i t) (r.aB f) m.mapOf ?_) (λQ E k=>Kd (qh i t) (r.aB f) m.mapOf ?_);rw[AT D];exact k _;rw[AT D];exact k _
    |_=>exact qB (pO d)
 |_=>exact qB (by induction p<;>rfl)
def Cz(r:gp z y s.heap)(c:VR z a x)(d:VR z b L)(e:A.units+64<cLine):gF l own X A (qv h x L) BR z s (gR h a b y):=by
 induction h with
 |Eq=>exact ZY r c d e
 |NotEq=>exact i9 r c d e
 |Lt=>induction c with
  |dN i t=>induction d with|dN j u=>exact .val r λQ E k=>lt_int (k _ _ rfl)|_=>trivial
  |_=>trivial
 |LtE=>induction c with
  |dN i t=>induction d with|dN j u=>exact .val r λQ E k=>le_int (k _ _ rfl)|_=>trivial
  |_=>trivial
 |Gt=>induction c with
  |dN i t=>induction d with|dN j u=>exact .val r λQ E k=>gt_int (k _ _ rfl)|_=>trivial
  |_=>trivial
 |GtE=>induction c with
  |dN i t=>induction d with|dN j u=>exact .val r λQ E k=>ge_int (k _ _ rfl)|_=>trivial
  |_=>trivial
 |Is=>induction d with|dR=>induction c<;>exact .val r λQ E k=>is_none_gen (k _ _ rfl)|_=>trivial
 |IsNot=>induction d with|dR=>induction c<;>exact .val r λQ E k=>isnot_none_gen (k _ _ rfl)|_=>trivial
 |In=>exact(LN r c d).1
 |NotIn=>exact(LN r c d).2
structure zi(C:gG):Prop where
 dp:lS K (.ref C) "__getattribute__"=fR (fR (.builtin "object.__getattribute__"))
 dH:lS K (.ref C) "__getattr__"=fR fU
 dD:lS K (.ref C) "__setattr__"=fR (fR (.builtin "object.__setattr__"))
 a:plainOver K C=fW
 hd:(EX K C).any (·.hasDict)=fW
structure k_(T:ie):Prop where
 attr:∀C nm,T.attr C nm=fW->zi C/\lS K (.ref C) nm=fR fU
 bJ:∀C nm f,T.bJ C nm=fR f->zi C/\lS K (.ref C) nm=fR (fR (.ref f))/\BG K (.ref f)=fR (.type "function")/\sf K (.ref f)=fW
 val:∀x v,T.az x=fR (.d v)->(x==("__debug__":f_))=fY/\∃c,lT K jK x=fR (fR c)/\∀z,VR z v c
 fn:∀x f,T.az x=fR (.a f)->(x==("__debug__":f_))=fY/\lT K jK x=fR (fR (.ref f))/\sf K (.ref f)=fW
 cls:∀x C f,T.az x=fR (.b C f)->(x==("__debug__":f_))=fY/\lT K jK x=fR (fR (.ref C))/\sf K (.ref C)=fW/\makesIn K C=fW/\lS K (.ref C) "__init__"=fR (fR (.ref f))/\BG K (.ref f)=fR (.type "function")
 bi:∀x nm,T.az x=fR (.f nm)->(x==("__debug__":f_))=fY/\lT K jK x=fR fU/\x≠"__name__"/\x=nm
def U3{h:hV}(n:h.Ns d m):∃a,h.get? d=fR a/\∀nm,EZ nm a=fR (m nm):=by
 refine DS n ?_;intro o b p c f g i;refine gx o c (λnm=>?_);have j:b.toList.any (·.refKey)=fY:=by rw[QJ];refine λe k=>kS (g e (Array.mem_toList_iff.mp k)) λn t h=>?_;simp[afd,h]
 unfold EZ;refine lE f ?_;dsimp only;refine rE (i nm) ?_;unfold nsFind findBy;refine rE (Array.find?_toList) ?_;generalize e:b.toList.find? (λx=>x.key.isStr nm)=l;induction l with|some q=>rfl|none=>dsimp only;exact lE j rfl
def gp.inst{s:gK}(r:gp z y s.heap)(g:z i fY=fR a)(e:y.get i=fR (.g C fs)):∃d m b,z i fW=fR d/\EV s.heap a (rz C d) C (fR b)/\rD s.heap d m fs.length/\FR z fs m/\∀nm,EZ nm b=fR (m nm):=by refine tI (r.aE i _ e) λn d m c h j f l=>?_;rw[g]at c;obtain rfl:=gz c;refine gy (U3 f.ns) λb q k=>sv d m b h ⟨j,rfl,rfl,q⟩ f l k
def VR.cP(x:VR z v c):handedIn c=fW:=by induction x<;>rfl
def D0(a:(EX K C).any (·.hasDict)=fW)(c:lS K (.ref C) nm=fR fU)(d:EZ nm h=fR (fR v)):findObj K C (fR h) nm=fR (.value v):=by
 refine gy (any_some a) λb e a=>?_;unfold findObj;refine lE e (lE c ?_);have f:Sh b (fR h) nm=fR (fR v):=by simp only[Sh,a,if_true,d]
 refine(?_:(Sh b (fR h) nm).bind _=_);exact lE f rfl
def c8(h:k_ T)(j:K.In iI)(r:gp z y s.heap)(n:VR z v x):gF l own X A (getAttr x nm e) VR z s (jx T v nm y):=by
 induction n with
 |@dO i a p=>
  dsimp only[jx];refine qF λo q=>?_;induction o with
  |g C fs=>refine jf λt=>hZ λI b=>gP (h.attr _ _ t) λf u=>tI (r.inst p q) λd m J L w M B D=>?_;refine b ?_;clear b;generalize F:fs.lookup nm=G;induction G with|none=>trivial|some v=>refine gy ((B nm).1 v F) λc H g=>.val r λQ E k=>get_value (j.keeps r.base) w f.dp (D0 f.hd u (by rw[D];exact lE H rfl)) g.cP (k _ _ g)
  |_=>trivial
 |_=>trivial
def PJ{M:lv}(p:rD s.heap a m n)(f:n'=if(m y).isSome then n else n+1)(q:∀r,rD r a (λx=>if x=y then fR v else m x) n'->oR a s.heap r->Q () (sU s r (s.toks+1))):gg M A (nsSet a y v) Q E s:=by
 revert n n' Q A E M p f q;revert a m y v s;refine @(qJ E1 ?_);generalize iz.1.1.1=a,iz.1.1.2=m,iz.1.2=y,iz.2.1=v,iz.2.2=s;intro n n' Q A E M p f q;refine tI p ?_;intro o g B j C u k D;have F:g.any (·.refKey)=fY:=by rw[Array.any_eq_false'];intro e G;refine kS (u e G) λn t h=>?_;simp[afd,h]
 refine gf (gf (zd (gU (gf (wpAny_mkText (gf (Kc j ?_)))))));refine lE C ?_;dsimp only;rw[aRefKeyMayBeTheName_at];refine lE F ?_;rw[Bool.and_false];refine ags j (q _ ?_ (sL ..));obtain⟨c,d,N,O⟩:=o;subst C;generalize b:g.findIdx? (·.key.isStr y)=H;induction H with
 |some i=>
  have w:(m y).isSome=fW:=by refine rE (k y)<|gy (Array.findIdx?_eq_some_iff_getElem.mp b) λI z Z=>?_;refine lE Jm ?_;rw[adS];exact gx _ (Array.getElem_mem I) z
  refine sv _ _ B (tR _ j (by simp only[Jv,Ju,b];rfl)) (by simp only[Jv,Ju,b];rfl) (u.modify _ _) (λx=>?_) ?_;refine(?_:_=if x=y then fR v else m x);rw[<-k];exact findBy_modify (λn v=>v.isStr n) Value.isStr_inj g y x v i b;exact lE f (lE (if_pos w) (lE Array.size_modify D))
 |none=>
  have w:(m y).isSome=fY:=by refine rE (k y)<|lE Jm ?_;rw[adX];refine λJ=>gy (adS.mp J) λx K z=>?_;have:=Array.findIdx?_eq_none_iff.mp b x K;have L:x.key.isStr y=fW:=z;rw[L]at this;injection this
  refine sv _ _ (B+1) (tR _ j (by simp only[Jv,Ju,b];rfl)) (by simp only[Jv,Ju,b];rfl) (u.push _ _ _ _) (λx=>?_) ?_
  .refine(?_:_=if x=y then fR v else m x);rw[<-k];exact findBy_push (λn v=>v.isStr n) g y x _ _ v (λl=>by
    refine(?_:(y==l)=decide (l=y));by_cases h:l=y;subst h;simp;have:¬y=l:=λe=>h e.symm;simp[h,this]) b
  .refine lE f (lE w ?_);simp;exact D
def Β{R:pW->gK->Prop}(e:K.In s.heap)(f:zi C)(j:lS K (.ref C) nm=fR fU)(I:EV s.heap x (rz C d) C (fR y))(N:rD s.heap d m n)(k:n<=1000)(c:n'=if(m nm).isSome then n else n+1)(h:∀a t,rD a d (λg=>if g=nm then fR v else m g) n'->oR d s.heap a->R (.ok (.ret .none)) (sU s a t)):lF (gk gh w) A (.call (.builtin "object.__setattr__") ⟨[.ref x,.str nm t,v],[]⟩) R s:=by refine osa_open e I f.a (by unfold takerIn;exact lE j rfl) λb=>gy (any_some f.hd) λB l p=>gf (gU (gf (gf (Kc I.at_ (gf ((Sg e l).here ?_))))));refine lE p<|gU (gf (gU (gf ?_)));refine PJ N c λa i q=>tI (id i) λo D E r u F G z=>gf (agj r (by refine lE u ?_;exact ag9 (by refine lE vc ?_;split at c<;>exact lG k z (gC c))) (gU (h a _ i q)))
def aaa(c:K.In s.heap)(e:zi C)(g:lS K (.ref C) nm=fR fU)(I:EV s.heap x (rz C d) C (fR t))(N:rD s.heap d m n)(i:n<=1000)(j:n'=if(m nm).isSome then n else n+1)(h:∀a b,rD a d (λf=>if f=nm then fR v else m f) n'->oR d s.heap a->Q () (sU s a b)):gg (gk gh w) A (JY (.ref x) nm v) Q E s:=set_plain c I e.dD (Β c e g I N i j λa b k l=>h a b k l)
def U8(fs:List (f_×V))(k:f_)(v:V)(x:f_):(jm fs k v).lookup x=if x=k then fR v else fs.lookup x:=by
 revert fs k v x;refine @(vQ E1 ?_);generalize ku.1.1=fs,ku.1.2=k,ku.2.1=v,ku.2.2=x;have h:∀fs:List (f_×V),(fs.map λe=>if e.1=k then(e.1,v)else e).lookup x=if x=k then(fs.lookup x).map λZ=>v else fs.lookup x:=by
  intro fs;induction fs with|nil=>split<;>rfl|cons e r g=>
   obtain⟨d,u⟩:=e;refine lE iZ ?_;by_cases b:d=k
   .subst b;simp only[if_true,jn,g];by_cases a:x=d;subst a;simp;have:=beq_eq_false_iff_ne.mpr a;simp[a,this]
   .simp only[if_neg b,jn,g];by_cases a:x=k;subst a;have:=beq_eq_false_iff_ne.mpr (wS b);simp[this];simp only[if_neg a]
 unfold jm;by_cases c:(fs.any λe=>decide (e.1=k))=fW
 .refine lE (if_pos c) ?_;rw[h];by_cases a:x=k
  .subst a;refine lE (if_pos rfl) (lE (if_pos rfl) ?_);generalize e:fs.lookup x=i;induction i with|some _=>rfl|none=>exfalso;refine gy (wu.mp c) λj b l=>?_;obtain⟨d,u⟩:=j;have m:=of_decide_eq_true l;subst m;have:=aet.mp e _ b;simp at this
  .exact lE (if_neg a) (lE (if_neg a) rfl)
 .refine lE (if_neg c)<|lE Br ?_;by_cases a:x=k
  .subst a;have:fs.lookup x=fU:=aet.mpr λp n=>by
    rw[bne_iff_ne];exact λf=>(λe o f=>c (wu.mpr (gx e o (decide_eq_true f)))) p n f.symm
   refine lE this (lE (if_pos rfl) ?_);simp
  .have:=beq_eq_false_iff_ne.mpr a;refine lE (if_neg a) ?_;simp[jn,this]
def R9{K:Type}[DecidableEq K](fs:List (K×V))(k:K)(v:V):(jm fs k v).length=if fs.any (λe=>decide (e.1=k))then fs.length else fs.length+1:=by unfold jm;split<;>simp
def U4(fs:List (f_×V))(k:f_):(fs.lookup k).isSome=fs.any λe=>decide (e.1=k):=by
 induction fs with|nil=>rfl|cons e r b=>
  obtain⟨a,u⟩:=e;refine lE jn (lE wt ?_);by_cases h:k=a;subst h;simp;have c:=beq_eq_false_iff_ne.mpr h;have d:¬a=k:=λf=>h f.symm;simp[c,d,b]
def FR.isSome(h:FR z fs m)(k:f_):(m k).isSome=(fs.lookup k).isSome:=by generalize e:fs.lookup k=a;induction a with|none=>exact lE ((h k).2 e) rfl|some v=>exact gy ((h k).1 v e) λc q Z=>lE q rfl
def FR.set(h:FR z fs m)(b:VR z v c):FR z (jm fs nm v) (λa=>if a=nm then fR c else m a):=λx=>by
 rw[U8];by_cases q:x=nm
 .subst q;refine⟨λu e=>?_,λe=>?_⟩;rw[if_pos rfl]at e;obtain rfl:=gz e;exact gx c (by simp) b;rw[if_pos rfl]at e;injection e
 .refine⟨λu e=>?_,λe=>?_⟩;rw[if_neg q]at e;simp only[if_neg q];exact(h x).1 u e;rw[if_neg q]at e;simp only[if_neg q];exact(h x).2 e
def Heap.Ns.there{h:hV}(n:h.Ns d m):∃o,h.get? d=fR o/\NF o:=by refine sJ n ?_;intro o c e q b _;exact gx o q (λf a=>by rw[b]at a;injection a)
abbrev UR:Va->Unit->Unit->Prop:=λZ Z Z=>True
def gF.be(r:gp z y s.heap)(d:∀x∈own,iR z x)(j:y.get i=fR o)(e:z i b=fR a)(k:∀Q E,(∀c f,oR a s.heap c->(∃Z1,c.get? a=fR Z1)->qy z c i o'->Q () (sU s c f))->gg (gk gh w) A t Q E s)(m:∀q,o≠.f q:=by intro q h;injection h):gF l own X A t UR z s (oG i o' y):=λQ E x=>k Q E λc f g n p=>x z c f () (gS.change e g λh=>(d a h).2 i b e) (r.change j e g n p m) trivial
def j9(w:k_ T)(B:K.In iI)(d:∀x∈own,iR z x)(r:gp z y s.heap)(D:VR z v x)(F:VR z u c):gF l own X A (JY x nm c) UR z s (mP T v nm u y):=by
 induction D with
 |@dO i a b=>
  dsimp only[mP];refine qF λo f=>?_;induction o with
  |g C fs=>
   refine jf λg=>hZ λO h=>gP (w.attr _ _ g.1) λG H=>tI (r.inst b f) λj m P e n I p R=>?_;refine h ?_;clear h;refine .be r d f e λQ E k=>aaa (B.keeps r.base) G H n I (gu g.2 (iP _ _)) (n':=(jm fs nm u).length) (by rw[R9,p.isSome,U4]) λJ L q t=>k J L t ⟨_,(Heap.Ns.there q.ns).choose_spec.1⟩ ?_;have M:a≠j:=λN=>by
    have:=(r.inj _ _ _ _ _ b (N▸e)).2;injection this
   exact sv a j _ b e ((t.2 a M).trans n.at_) q (p.set F)
  |_=>trivial
 |_=>trivial
noncomputable def GB:gq->Bool|.Slice .. =>fW|_=>fY
def vW(h:GB t=fY)(o i:gv):Fh t fY o i=tW [o,i] (Fb o i):=by cases t<;>first|rfl|injection h
def Hm(e:nv k n=fR j):seqIndex? k n=fR j/\-(2^63)<=k/\k<2^63/\j<n:=by
 unfold nv at e;unfold seqIndex?;split at e
 .rename_i a;split at e
  .rename_i c;obtain rfl:=gz e;refine kg ?_ (by omega) (by omega) c.1;have:¬k<0:=by omega
   simp only[if_neg this];have b:(decide (0<=k)&&decide (k<(n:Int)))=fW:=by simp;omega
   exact lE (if_pos b) rfl
  .injection e
 .rename_i a;split at e
  .rename_i c;obtain rfl:=gz e;refine kg ?_ (by omega) (yJ (yK.mp a) gO) (by omega);have:=yK.mp a;simp only[if_pos this];have b:(decide (0<=k+(n:Int))&&decide (k+(n:Int)<(n:Int)))=fW:=by simp;omega
   exact lE (if_pos b) rfl
  .injection e
def g4(C:GB L=fY)(r:gp z y s.heap)(a0:VR z v x)(D:VR z j N):gF l own X A (yX P L x N) VR z s (iG v j y):=by
 induction a0 with
 |dQ b t=>induction D with|dN k u=>dsimp only[iG];refine jf λh=>?_;obtain⟨a6⟩:=b;refine .val r λQ E e=>tO (za s _ t) Sb.lookup (getItem_bytes (gu h.2 gO) h.1.1 (by simpa using h.1.2) (e _ _ (.dN _ _))) (vW C _ _)|_=>trivial
 |@dO i a J=>
  have a1:iG (.b i) j y=fS (lg i) (λo=>match o with
   |.a xs=>match j with|.a k=>fS (ig (nv k xs.length)) λj=>ig xs[j]?|_=>gc
   |.c xs=>match j with|.a k=>fS (ig (nv k xs.length)) λj=>ig xs[j]?|_=>gc
   |.e m=>match j with|.a k=>ig (je m k)|_=>gc
   |.b m=>match j with|.d k=>ig (je m k)|_=>gc
   |_=>gc) y:=by induction j<;>rfl
  refine lE a1<|qF λo K=>?_;induction o with
  |a xs=>
   induction D with
   |dN k u=>
    refine qH λF d=>?_;generalize M:xs[F]?=p;induction p with|none=>trivial|some G=>
     refine hZ λa2 H=>r.lK J K λa3 B q=>gy (q.get F G M) λc f g=>jZ (Hm d) λW O R a4=>?_;refine H ?_;clear H;have Y:=q.length;refine .val r λQ E e=>tO B.isList.typeIs JZ.lookup ?_ (vW C _ _);unfold nv at d;split at d
     .rename_i S;split at d;obtain rfl:=gz d;exact wpAny_getItem_list B.isList S R (by simpa using f) (e _ _ g);exact nS d
     .rename_i S;split at d;rename_i w;obtain rfl:=gz d;refine wpAny_getItem_list_neg B.isList (yK.mp S) (by refine lE lz (rE Y ?_);exact w.1) O ?_ (e _ _ g);refine lE lz (rE Y ?_);simpa using f;exact nS d
   |_=>trivial
  |c xs=>
   induction D with
   |dN k u=>refine qH λF d=>?_;generalize M:xs[F]?=p;induction p with|none=>trivial|some G=>refine hZ λa2 H=>r.tK J K λa3 n B q=>gy (q.get F G M) λc f g=>jZ (Hm d) λW O R a4=>?_;refine H ?_;clear H;exact .val r λQ E e=>tO (gx _ B rfl) afq.lookup (af2 (⟨_,B,rfl,_,rfl⟩) O R (by refine lE lz (rE q.length ?_);exact W) (by simpa using f) (e _ _ g)) (vW C _ _)
   |_=>trivial
  |e m=>
   induction D with
   |dN k u=>dsimp only;refine kJ (r.aE i _ K) λa5 Z5 w I T=>?_;rw[J]at w;obtain rfl:=gz w;have q:=AU T k;generalize V:je m k=p;induction p with|none=>trivial|some G=>rw[V]at q;refine gy q ?_;intro c f g;exact .val r λQ E e=>tO I.typeIs SH.lookup (SW (ul k u) I.mapOf f (e _ _ g)) (vW C _ _)
   |_=>trivial
  |b m=>
   induction D with
   |dP k u=>dsimp only;refine kJ (r.aE i _ K) λa5 Z5 w I T=>?_;rw[J]at w;obtain rfl:=gz w;have q:=AU T k;generalize V:je m k=p;induction p with|none=>trivial|some G=>rw[V]at q;refine gy q ?_;intro c f g;exact .val r λQ E e=>tO I.typeIs SH.lookup (SW (qh k u) I.mapOf f (e _ _ g)) (vW C _ _)
   |_=>trivial
  |_=>trivial
 |dR=>trivial
 |dS _=>trivial
 |dN _ _=>trivial
 |dP _ _=>trivial
def LA(xs:List h)(a c:Nat):(xs.drop (min a xs.length)).take (min c xs.length-min a xs.length)=mY xs a c:=by
 unfold mY;refine lE List.drop_take ?_;rcases Jd a xs.length with b|b
 .refine lE (Jh b) ?_;rcases Jd c xs.length with d|d
  .exact lE (Jh d) rfl
  .refine lE (Ji d)<|lE (uN (by simp)) (lE (uN (by simp;lia)) rfl)
 .refine lE (Ji b)<|lE (ww (ij _)) (lE (ww b) ?_);simp
def Ng(x:VR z v c)(e:un v=fR k):∃a,IsPart c a/\∀n,JI a n=min k n/\a.elim 0 (clipAt n)=min k n:=by
 induction x with
 |dR=>obtain rfl:=gz e;exact gx _ .none (λn=>⟨by simp[JI],by simp⟩)
 |dN i t=>
  unfold un at e;dsimp only at e;split at e
  .rename_i h;obtain rfl:=gz e;refine gI (QE h.1) λj b=>?_;obtain rfl:=b;refine gx _ (.int _ t) (λn=>⟨?_,?_⟩);simp only[JI];exact lE (if_neg (wq.mpr (kr _))) rfl;exact clipAt_nat n j
  .exact nS e
 |_=>exact nS e
def MD(x:VR z v c)(e:rK m v=fR k):∃a,IsPart c a/\JH a m=min k m/\a.elim m (clipAt m)=min k m:=by
 induction x with
 |dR=>obtain rfl:=gz e;exact iU _ .none (by simp[JH]) (by simp)
 |dN i t=>
  unfold rK at e;dsimp only at e;split at e
  .rename_i h;obtain rfl:=gz e;refine gI (QE h.1) λj b=>?_;obtain rfl:=b;refine iU _ (.int _ t) ?_ ?_;simp only[JH];exact lE (if_neg (wq.mpr (kr _))) rfl;exact clipAt_nat m j
  .exact nS e
 |_=>exact nS e
def ib.cut(h:ib P t x)(a b:Nat):ib P (mY t a b) (mY x a b):=(h.take b).drop a
def k7{v I d:V}(f:∃J,Fh L fY x (.ref h)=tW J (Fb x (.ref h)))(r:gp z y s.heap)(Y:VR z v x)(K:VR z I N)(M:VR z d P)(O:s.heap.IsSliceOf h N P .none):gF l own X A (yX W L x (.ref h)) VR z s (lY v I d y):=by
 refine gI f ?_;intro J f;induction Y with
 |dQ b t=>
  dsimp only[lY];refine jf λo=>qH λg p=>?_;generalize u:rK b.size d=w;induction w with|none=>trivial|some j=>
   refine hZ λa0 c=>gy (Ng K p) λm B C=>jy (MD M u) λn D R S=>?_;refine c ?_;clear c;refine lE sj ?_;have F:KBy.picked b m n=(mY b.toList g j).toArray:=by rw[KBc.picked_eq];refine lE ((C _).2) (lE S (rE kq ?_));rw[LA]
   refine .val r λQ E G=>tail_of_ItemOn (jq ("bytes") _ Sb.lookup (za _ _ _) (getItem_meets (za _ _ _) gO Sb FB.entry_bytes_getitem (FB.args_bytes_getitem_2 _ _) (KBc.meets_slice2 b t _ B D) (iy O (gu (KBc.size_picked_le b m n) (gu o gO)) (λt' k=>?_)))) f (λr=>?_);exact lE F<|G _ _ (.dQ _ _);cases W<;>rfl
 |@dO i a a1=>
  dsimp only[lY];refine tq λxs a2=>jf λo=>qH λg p=>?_;generalize u:rK xs.length d=w;induction w with|none=>trivial|some j=>
   refine hZ λa0 c=>gy (Ng K p) λm B C=>jy (MD M u) λn D R S=>?_;refine c ?_;clear c;refine lE sj<|r.lK a1 a2 λH T q=>?_;have F:slicePick H.toArray m n fU=(mY H g j).toArray:=by rw[kms_pick_eq];unfold kms_pick;refine lE Ja (lE ((C _).1) (rE q.length (lE R (lE q.length ?_))));rw[LA]
   refine .bu (Z1:=uV (mY H g j).toArray 0) r rfl (λa3 e=>vF (lc ..) e ((q.mono (nV (r.fresh fY))).cut _ _)) (λZ Z Z e=>.dO e) λQ E G=>tO T.isList.typeIs JZ.lookup (SU T.isList O B D .none (by simp) ?_ ?_) f;exact lE F<|G s.toks;exact lE lz (rE q.length (gu o oE))
 |_=>trivial
def ZP(b:∃c,Fh t fY x (.ref h)=tW c (Fb x (.ref h)))(r:gp z y s.heap)(f:VR z v x)(g:IsPart L (fR (-1)))(j:s.heap.IsSliceOf h .none .none L):gF l own X A (yX N t x (.ref h)) VR z s (sY v y):=by
 refine gI b ?_;intro c b;induction f with
 |@dO i a k=>
  dsimp only[sY];refine tq λxs m=>jf λn=>r.lK k m λo d q=>.bu (Z1:=uV o.reverse.toArray 0) r rfl (λu e=>vF (lc ..) e ((q.mono (nV (r.fresh fY))).reverse)) (λZ Z Z e=>.dO e) λQ E p=>tO d.isList.typeIs JZ.lookup (SU d.isList j .none .none g (by simp) ?_ ?_) b;rw[krv_pick];exact lE Ja<|p s.toks;exact lE lz (rE q.length (gu n oE))
 |_=>trivial
def ib.di(h:ib P t x)(k:∀a b,P a b->Q (f a) b):ib Q (t.map f) x:=by induction h with|dO=>exact .dO|dN p _ c=>exact .dN (k _ _ p) c
def KR.any{K:Type}[DecidableEq K]{a:List (K×V)}{Z5:List (K×gv)}(x:ib (KR z) a Z5)(k:K):(a.any λe=>decide (e.1=k))=(Z5.any λe=>decide (e.1=k)):=by induction x with|dO=>rfl|dN p _ b=>exact lE wt (lE wt (lE b (lE p.1 rfl)))
def KR.set{z:Va}{K:Type}[DecidableEq K]{d:List (K×V)}{Z5:List (K×gv)}(x:ib (KR z) d Z5)(k:K)(e:VR z v c):ib (KR z) (jm d k v) (stored Z5 k c):=by
 unfold jm stored;refine lE (KR.any x k) ?_;split
 .refine x.map λa b p=>lE p.1 ?_;split;exact⟨rfl,e⟩;exact p
 .exact x.append (.dN ⟨rfl,e⟩ .dO)
def KR.cX{K:Type}[DecidableEq K]{c:List (K×V)}{Z5:List (K×gv)}(x:ib (KR z) c Z5)(k:K):ib (KR z) (nZ c k) (without Z5 k):=by
 unfold nZ without;induction x with|dO=>exact .dO|@dN a b e f p _ d=>
  refine lE yM (lE yM (lE p.1 ?_));by_cases h:b.1=k;simp[h];simpa using d;simp[h];exact .dN p (by simpa using d)
def sG{K:Type}[DecidableEq K]{b:KeyKind gh w K}{h:hV}{Z5:List (K×gv)}(x:h.DictOf b a Z5):∃o,h.get? a=fR o:=nN x λo Z Z e Z=>⟨o,e⟩
def gp.idict{s:gK}(r:gp z y s.heap)(c:z i fY=fR a)(e:y.get i=fR (.e h)):∃Z5,s.heap.DictOf (ot gh w) a Z5/\ib (KR z) h Z5:=by refine kJ (r.aE i _ e) λj d b f g=>?_;rw[c]at b;obtain rfl:=gz b;exact gx d f g
def gp.sdict{s:gK}(r:gp z y s.heap)(c:z i fY=fR a)(e:y.get i=fR (.b h)):∃Z5,s.heap.DictOf (mj gh w) a Z5/\ib (KR z) h Z5:=by refine kJ (r.aE i _ e) λj d b f g=>?_;rw[c]at b;obtain rfl:=gz b;exact gx d f g
def gp.dK{s:gK}{G:Prop}(r:gp z y s.heap)(b:z i fY=fR a)(e:y.get i=fR (.b h))(k:∀Z5,s.heap.DictOf (mj gh w) a Z5->ib (KR z) h Z5->G):G:=gy (r.sdict b e) k
def gp.dnew{s:gK}(r:gp z y s.heap)(c:z i fY=fR a)(e:y.get i=fR .d):∃n,s.heap.get? a=fR (JG [] n):=by refine jR (r.aE i _ e) λf n b d=>?_;rw[c]at b;obtain rfl:=gz b;exact⟨n,d⟩
def gp.nK{s:gK}{G:Prop}(r:gp z y s.heap)(b:z i fY=fR a)(e:y.get i=fR .d)(k:∀n,s.heap.get? a=fR (JG [] n)->G):G:=gI (r.dnew b e) k
def k6(d:∀x∈own,iR z x)(r:gp z y s.heap)(I:VR z v x)(D:VR z j L)(C:VR z u c):gF l own X A (setItem x L c) UR z s (pe v j u y):=by
 induction I with
 |@dO i a f=>
  dsimp only[pe];refine qF λo g=>?_;induction o with
  |a xs=>
   induction D with
   |dN k t=>
    refine jf λh=>r.lK f g λJ K q=>gI K ?_;intro n G;refine .be r d g f λQ E m=>ki_setAt G h.1.1 (by lia) (by refine lE lz (rE q.length ?_);lia) ?_;have H:(s.heap.update a (sd (·.setIfInBounds k.toNat c))).get? a=fR (uV (J.set k.toNat c).toArray n):=by refine lE (tR _ G rfl) ?_;simp[sd]
    exact m _ _ (sL ..) ⟨_,H⟩ (vF f H (q.set C _))
   |_=>trivial
  |d=>refine r.nK f g λn e=>?_;induction D with|dN k t=>refine .be r d g f λQ E m=>Kg (ul k t) (rH (ot gh w) e) (λp b B=>?_) gO;refine m p _ B (sG b) (jq a _ f b ?_);exact .dN ⟨rfl,C⟩ .dO|dP k t=>refine .be r d g f λQ E m=>Kg (qh k t) (rH (mj gh w) e) (λp b B=>?_) gO;refine m p _ B (sG b) (jq a _ f b ?_);exact .dN ⟨rfl,C⟩ .dO|_=>trivial
  |e M=>induction D with|dN k t=>refine jf λF=>gy (r.idict f g) λZ5 b q=>.be r d g f λQ E m=>Kg (ul k t) b (λp b B=>?_) (by refine rE q.length ?_;exact gu F oE);exact m p _ B (sG b) (jq a _ f b (KR.set q k C))|_=>trivial
  |b M=>induction D with|dP k t=>refine jf λF=>r.dK f g λZ5 b q=>.be r d g f λQ E m=>Kg (qh k t) b (λp b B=>?_) (by refine rE q.length ?_;exact gu F oE);exact m p _ B (sG b) (jq a _ f b (KR.set q k C))|_=>trivial
  |_=>trivial
 |_=>trivial
def ZW(d:∀x∈own,iR z x)(r:gp z y s.heap)(m:VR z v x)(n:VR z j h):gF l own X A (delItem x h) UR z s (uf v j y):=by
 induction m with
 |@dO i a c=>
  dsimp only[uf];refine qF λo e=>?_;induction o with
  |e B=>
   induction n with
   |dN k t=>
    refine jf λf=>gy (r.idict c e) λZ5 b q=>.be r d e c λQ E p=>?_;unfold delItem
    try with_reducible refine jp ?_
    refine gf (wpAny_sequenceKey b.typeIs gO ?_);refine gf (Fk b.typeIs afn (uX afn b.typeIs PySem.F.entry_dict_delitem (PySem.F.args_dict_delitem_2 _ _) (meets_dict_delitem_pairs _ a (ul k t)) (n_ Z5 b ?_ ?_ (λu g w=>?_))));exact rE q.length<|gu f.2 oE;rw[AT q];exact f.1;exact gU (p u _ w (sG g) (jq a _ c g (KR.cX q k)))
   |_=>trivial
  |_=>trivial
 |_=>trivial
def OL(h:hV)(a:gG)(f:iY->iY):(h.update a f).objs.size=h.objs.size:=(sL (h:=h) (a:=a) (f:=f)).1
def KA{M:lv}(h:Runs M x p t fs s e s'):s.heap.objs.size<=s'.heap.objs.size:=by induction h<;>(try simp only[Shared.setGen,kt,OL]at*)<;>lia
def UV{M:lv}(h:Returns M t p s r s'):s.heap.objs.size<=s'.heap.objs.size:=KA h
def Vb{M:lv}(h:Wakes M z p g r s y s'):s.heap.objs.size<=s'.heap.objs.size:=by
 revert z M h;revert p g r s y s';refine @(nI E1 ?_);generalize gT.1.1.1=p,gT.1.1.2=g,gT.1.2=r,gT.2.1.1=s,gT.2.1.2=y,gT.2.2=s';intro z M h;unfold Wakes at h;have d:∀{i:afc} {j:oS} {t:iM RO} {fs:List _} {f:_->gK->gK},(∃b a,Runs M i j t fs (s.setGen g .running) b a/\b.quiet=fW/\y=b.result/\s'=f b a)->(∀e a,(f e a).heap=a.heap)->s.heap.objs.size<=s'.heap.objs.size:=λh k=>by refine DR h λb a l Z Z m=>?_;rw[m,k];exact(KA l:(s.setGen g .running).heap.objs.size<=a.heap.objs.size)
 generalize s.gens[g]?=q at h;induction q with|none=>exact h.elim|some n=>induction n with|suspended=>exact d h λZ Z=>rfl|running=>exact h.2▸ij _|finished=>exact h.2▸ij _|fresh c=>induction r with|throw x=>exact h.2▸ij _|send v=>induction v using agR with|none=>exact d h λZ Z=>rfl|_=>exact h.2▸ij _
def acu(M:lv)(j:afc)(n:Nat)(t:iM x):∀(Q:x->oS->gK->Prop) (E:gv->oS->gK->Prop) (p:oS) (s:gK),n<=s.heap.objs.size->Sem.wp M j t Q E p s->Sem.wp M j t (λa i s'=>n<=s'.heap.objs.size/\Q a i s') (λe i s'=>n<=s'.heap.objs.size/\E e i s') p s:=by induction t with|pure a=>intro Q E p s b h;exact⟨b,h⟩|raise e=>intro Q E p s b h;exact⟨b,h⟩|unsupported _=>intro Q E p s _ h;exact h|finish _=>intro Q E p s _ h;exact h|rule _ k d=>intro Q E p s b h;exact d () Q E p s b h|«at» i k d=>intro Q E p s b h;exact d () Q E i s b h|load a _ k d=>intro Q E p s b h;refine gy h ?_;intro o w h;exact gx o w (d o Q E p s b h)|update a _ f k d=>intro Q E p s b h;exact⟨h.1,d () Q E p _ (by rw[OL];exact b) h.2⟩|loadIfAlive a k d=>intro Q E p s b h;exact d _ Q E p s b h|point _ k d=>intro Q E p s b h;exact d () Q E p s b h|register _ _=>intro Q E p s _ h;exact h|alloc o k d=>intro Q E p s b h;exact d _ Q E p _ (by rw[kt];exact pA b) h|fresh k d=>intro Q E p s b h;exact d _ Q E p _ b h|ask k d=>intro Q E p s b h;exact d _ Q E p s b h|choose A m k d=>intro Q E p s b h;exact⟨h.1,d _ Q E p _ b h.2⟩|os q _ k d=>intro Q E p s b h;exact d _ Q E p _ b h|call c B _ _ k d=>intro Q E p s b h;refine jR h ?_;intro r s' l h;exact nF r s' l (d r Q E p s' (gu b (UV l)) h)|handled own k d=>intro Q E p s b h;exact d _ Q E p s b h|genState g k d=>intro Q E p s b h;refine gy h ?_;intro y z h;exact gx y z (d _ Q E p s b h)|newGen c k d=>intro Q E p s b h;exact d _ Q E p _ b h|resume g r _ k d=>intro Q E p s b h;refine jR h ?_;intro u s' v h;exact nF u s' v (d u Q E p s' (gu b (Vb v)) h)|yield _ _ _ _=>intro Q E p s _ h;exact h|stack k d=>intro Q E p s b h;exact d _ Q E p s b h|fork _ _=>intro Q E p s _ h;exact h|thread k d=>intro Q E p s b h;exact d _ Q E p s b h|await _ _ _ _ _=>intro Q E p s _ h;exact h
def Id{M:lv}(c:n<=s.heap.objs.size)(h:gg M A t Q E s):gg M A t (λa s'=>n<=s'.heap.objs.size/\Q a s') (λe s'=>n<=s'.heap.objs.size/\E e s') s:=λb p d=>acu M b n t _ _ p s c (h b p d)
def tH{M:lv}(h:gg M A t (λa s'=>s.heap.objs.size<=s'.heap.objs.size->Q a s') (λe s'=>s.heap.objs.size<=s'.heap.objs.size->E e s') s):gg M A t Q E s:=jL (Id (ij _) h) (λZ Z x=>x.2 x.1) (λZ Z x=>x.2 x.1)
def gF.cf(r:gp z y s.heap)(k:∀Q E,(∀b c d,(∀b o,s.heap.get? b=fR o->c.get? b=fR o)->P z a b->Q b (sU s c d))->gg (gk gh w) A t Q E s):gF l own X A t P z s (.b a y):=λQ E x=>tH (k _ _ λb c d e p f=>x z c d b (gS.al e f) (r.keep e f) p)
def gF.bG{t:iM gv}(r:gp z y s.heap)(j:∀e i a,e i fY=fR a->P e (.b i) (.ref a))(k:∀Q E,(∀a c d,(∀b o,s.heap.get? b=fR o->c.get? b=fR o)->(∃Z1,c.get? a=fR Z1)->qy (jl z y.n fY a) c y.n o->s.heap.objs.size<=a->Q (.ref a) (sU s c d))->gg (gk gh w) A t Q E s):gF l own X A t P z s (gM o y):=λQ E x=>tH (k _ _ λa c d f m n g h=>x (jl z y.n fY a) c d _ (gS.add r f h g) (r.add f h g m n) (j _ _ _ (lc ..)))
def g6(r:gp z y s.heap)(m:iC z L N):gF l own X A (ju (.builtin "len") N) VR z s (kW L y):=by
 induction m with|dO=>trivial|@dN v c L N j t=>
  cases t with|dN _ _=>induction j<;>trivial|dO=>
   induction j with
   |dP x t=>dsimp only[kW];refine jf λb=>.val r λQ E k=>PySem.P.len_str (λh=>by unfold hJ at b;lia) (k _ _ (.dN _ _))
   |dQ x t=>dsimp only[kW];refine jf λb=>.val r λQ E k=>len_bytes (by unfold hJ at b;exact gu b (iP _ _)) (k _ _ (.dN _ _))
   |@dO i a d=>dsimp only[kW];refine qF λo f=>?_;cases o with|a xs=>refine jf λb=>r.lK d f λL p q=>?_;have e:L.toArray.size=xs.length:=lE lz (lE q.length rfl);refine .val r λQ E k=>call_len_list p.isList (by refine lE e ?_;unfold hJ at b;lia) ?_;exact lE e<|k _ _ (.dN _ _)|d=>refine r.nK d f λn e=>.val r λQ E k=>Sn (r.aB d) (rH (mj gh w) e) gO (k _ _ (.dN _ _))|e u=>refine jf λb=>gy (r.idict d f) λZ5 g q=>.val r λQ E k=>Sn (r.aB d) g (by refine rE q.length ?_;unfold hJ at b;lia) ?_;exact rE q.length<|k _ _ (.dN _ _)|b u=>refine jf λb=>r.dK d f λZ5 g q=>.val r λQ E k=>Sn (r.aB d) g (by refine rE q.length ?_;unfold hJ at b;lia) ?_;exact rE q.length<|k _ _ (.dN _ _)|_=>trivial
   |_=>trivial
def N3(h:sK x is):∀(i:Nat) v,x.toArray[i]?=fR v->∃t,v=.int (is.getD i 0) t:=by refine λi v e=>jR (IntsAre.at h i v (by simpa using e)) λn t a b=>?_;obtain rfl:=a;exact⟨t,by refine lE tM (lE b ?_);rfl⟩
def Ob(is:List Int):∀n,n<=is.length->preSum (λj=>is.getD j 0) n=(is.take n).sum:=by intro n;induction n with|zero=>intro _;rfl|succ n b=>intro h;have a:=oO h;refine lE IZ (lE QZ (lE a ?_));refine(?_:preSum _ n+is.getD n 0=_);refine lE (b (jo h)) (lE tM (lE a ?_));simp
def HK:∀(is:List Int),(∀x∈is,0<=x)->0<=is.sum:=by intro is;induction is with|nil=>intro _;exact qm _|cons x r a=>refine λh=>lE aeG ?_;have:=a λb c=>h b (qp _ c);have:=h x (rY ..);lia
def ab2(is:List Int)(h:∀x∈is,0<=x)(n:Nat):0<=(is.take n).sum/\(is.take n).sum<=is.sum:=by
 have e:is.sum=(is.take n).sum+(is.drop n).sum:=by refine rE QZ ?_;rw[Ra]
 have b:=HK (is.take n) λx a=>h x (aez a);have c:=HK (is.drop n) λx a=>h x (List.mem_of_mem_drop a);lia
def W1:∀(is:List Int),(∀x∈is,0<=x)->∀b∈is,b<=is.sum:=by
 intro is;induction is with|nil=>intro _ b a;exact nM a|cons x r c=>
  refine λh b a=>lE aeG ?_;have d:=HK r λb a=>h b (qp _ a);have e:=h x (rY ..);rcases gX.mp a with rfl|a
  .lia
  .have:=c (λb a=>h b (qp _ a)) b a;lia
def M_(f:s.heap.IsList a Z3)(h:∀c:gK,c={s with heap:=s.heap.push {cls:=.type "list_iterator",data:=.fields #[.ref a,.int 0 0]}}->(c.heap.IsListIter s.heap.objs.size a 0/\c.heap.IsList a Z3)->(∀b∈[s.heap.objs.size,a],b<c.heap.objs.size)->a≠s.heap.objs.size->Q (.ref s.heap.objs.size) c):gg (gk gh w) A (pD (.ref a)) Q E s:=by
 have g:a<s.heap.objs.size:=by refine gy f ?_;intro _ e _;exact iB e
 refine Kf f (h _ rfl ⟨(iU _ (lu _ rfl) rfl rfl),f.push _⟩ (λb d=>?_) (jt g));rw[kt];rcases gX.mp d with rfl|d
 .exact nR _
 .rcases gX.mp d with rfl|d
  .exact ru g
  .exact nM d
def GE{h c:hV}(d:∀b o,b∉[h.objs.size]->(h.push Z1).get? b=fR o->c.get? b=fR o):∀b o,h.get? b=fR o->c.get? b=fR o:=λb o e=>by
 refine d b o (λa=>?_) (iW _ e);rcases gX.mp a with f|a
 .exact absurd (f▸iB e) (uP _)
 .exact nM a
def l8(n:A.handled=fU)(r:gp z y s.heap)(o:iC z x L):gF l own X A (ju (.builtin "sum") L) VR z s (yr x y):=by
 induction o with|dO=>trivial|@dN v c x L d t=>
  cases t with|dN _ _=>induction d<;>trivial|dO=>
   induction d with
   |@dO i a p=>
    dsimp only[yr];refine tq λxs u=>qH λis w=>jf λh=>r.lK p u λx B q=>?_;have f:=Am w q;have g:x.toArray.size=is.length:=lE lz<|f.length;refine .cf r λQ E k=>call_sum_walk (M_ B.isList λK e C D F=>?_);subst e;refine L8 _ _ _ _ _ _ (λj=>is.getD j 0) rfl (Si (A:=A.in1) n _ a F x.toArray) C D (N3 f) (λj G=>?_) (λH I t' J=>?_)
    .have b:j<is.length:=rE g<|G;have M:=ab2 is h.1 (j+1);have m:is.getD j 0∈is:=by refine lE tM (lE (oO b) ?_);exact Er b
     have:=W1 is h.1 _ m;have:=h.1 _ m;have:=h.2;refine lE (Ob is (j+1) b)<|⟨⟨?_,?_⟩,⟨?_,?_⟩⟩<;>lia
    .refine lE g (lE (Ob is is.length (ij _)) (lE I_ ?_));exact k _ H I (GE J) (.dN _ _)
   |_=>trivial
def l7(r:gp z y s.heap)(d:iC z x L):gF l own X A (ju (.type "str") L) VR z s (pR x y):=by
 induction d with|dO=>trivial|@dN v c x L a t=>
  cases t with|dN _ _=>induction a<;>trivial|dO=>
   induction a with
   |dN i t=>
    dsimp only[pR];refine jf λh=>.val r λQ E k=>P.str_of_int ?_ (k _ _ (.dP _ _));have:i.natAbs<2^20:=by lia
    by_cases b:i.natAbs=0;refine lE b ?_;decide;have:=(Nat.log2_lt b).mpr this;exact gu this (iP _ _)
   |_=>trivial
def c9(r:gp z y s.heap)(d:iC z h L):gF l own X A (ju (.type "int") L) VR z s (CV h y):=by
 induction d with|dO=>trivial|@dN v c h L a t=>
  cases t with|dN _ _=>induction a<;>trivial|dO=>
   induction a with
   |dP x t=>
    dsimp only[CV];refine qH λn e=>gy (List.exists_of_findSome?_eq_some e) λk f b=>?_;have i:=yQ.mp f;split at b;rename_i a;obtain rfl:=gz b;subst a;exact .val r λQ E g=>KIN.call_num (by simp) (by simp;lia) (g _ _ (.dN _ _));exact nS b
   |_=>trivial
def g8(f:A.handled=fU)(r:gp z y s.heap)(g:iC z x L):gF l own X A (ju (.builtin "max") L) VR z s (Nt x y):=by
 induction g with|dO=>trivial|@dN v c x L d t=>
  cases t with|dO=>induction d<;>trivial|dN e t=>
   cases t with|dN _ _=>induction d<;>induction e<;>trivial|dO=>
    induction d with
    |dN a t=>
     induction e with
     |dN b u=>
      refine .cf r λQ E k=>max_two_ints f λi j m=>k _ i j m ?_;by_cases h:b>a;exact lE (if_pos h) (lE (if_pos h) (.dN _ _));exact lE (if_neg h) (lE (if_neg h) (.dN _ _))
     |_=>trivial
    |_=>trivial
def Oh(f:Nat->Bool)(xs:List t)(g:t->Bool)(h:∀i x,xs[i]?=fR x->f i=g x):(me xs.length).any f=xs.any g:=by
 rw[yI,wu,wu];constructor;rintro⟨i,a,b⟩;have a:=yQ.mp a;exact gx (xs[i]) (Er a) (by refine rE (h i _ (oO a)) ?_;exact b);rintro⟨x,c,d⟩;refine gE c λi a=>gx i (yQ.mpr ?_) (by refine lE (h i x a) ?_;exact d);exact(uL.mp a).1
def Ϝ(f:Nat->Bool)(xs:List t)(g:t->Bool)(h:∀i x,xs[i]?=fR x->f i=g x):(me xs.length).all f=xs.all g:=by
 have:=Oh (λi=>!f i) xs (λx=>!g x) λi x e=>lE (h i x e) rfl;rw[<-aeA,<-aeA]at this;simpa using this
def ZL(g:A.handled=fU)(r:gp z y s.heap)(j:iC z L N):gF l own X A (ju (.builtin "any") N) VR z s (Cf L y):=by
 induction j with|dO=>trivial|@dN v c L N f t=>
  cases t with|dN _ _=>induction f<;>trivial|dO=>
   induction f with
   |dQ b t=>
    refine .cf r λQ E k=>call_any_walk (JE ?_);refine MP _ _ _ _ _ _ (λi=>(b.toList[i]?).any λu=>u !=0) rfl (KBw.walks (A:=A.in1) g _ b t) (iU _ (lu _ rfl) rfl rfl) ?_ (λm n o=>?_)
    .rintro i v s Q E ⟨c,u,p,rfl⟩ a;refine truthy_int ?_;have e:b.toList[i]?=fR c:=by simpa using p
     have a:Q ((b.toList[i]?).any λu=>u !=0) s:=a;rw[e]at a;have:((c.toNat:Int) !=0)=(c !=0):=by
      rw[yI,bne_iff_ne,bne_iff_ne];constructor;intro h d;subst d;exact h rfl;intro h d;exact h (UInt8.toNat_inj.mp (by simpa using d))
     exact lE this<|a
    .have:=Oh (λi=>(b.toList[i]?).any λu=>u !=0) b.toList (λu=>u !=0) λi x e=>lE e rfl;rw[kq]at this;refine lE this<|k _ m n (GE o) (.dS _)
   |_=>trivial
def Yh(e:zy xs=fR y)(x:iC z xs L):L.length=y.length/\∀(i:Nat) v,L[i]?=fR v->∃b,y[i]?=fR b/\v=.bool b:=by
 induction x generalizing y with|dO=>obtain rfl:=gz e;exact⟨rfl,λi v h=>by simp at h⟩|@dN a b c m p t d=>
  induction p with
  |dS i=>refine mI (show(zy c).map (i::·)=fR y from e) λr f g=>?_;obtain rfl:=g;refine gP (d f) λk l=>⟨congrArg (·+1) k,λj v h=>?_⟩;induction j with|zero=>exact gx i rfl (gz h).symm|succ j=>exact l j v h
  |_=>exact nS e
def ZK(m:A.handled=fU)(r:gp z y s.heap)(n:iC z h L):gF l own X A (ju (.builtin "all") L) VR z s (zu h y):=by
 induction n with|dO=>trivial|@dN v c h L g t=>
  cases t with|dN _ _=>induction g<;>trivial|dO=>
   induction g with
   |@dO i a o=>
    dsimp only[zu];refine tq λxs p=>qH λd u=>hZ λN j=>r.lK o p λh w q=>gP (Yh u q) λB C=>?_;refine j ?_;clear j;refine .cf r λQ E k=>call_all_walk (M_ w.isList λO e D P F=>?_);subst e;refine MP _ _ _ _ _ _ (λi=>(d[i]?).getD fY) rfl (Si (A:=A.in1) m _ a F h.toArray) D ?_ (λG H I=>?_);refine λi v s Q E J f=>gy (C i v (by simpa using J)) λb K M=>?_;obtain rfl:=M;dsimp only at f;rw[K]at f;exact Te f;have:=Ϝ (λi=>(d[i]?).getD fY) d id λi x e=>lE e rfl;refine lE lz (lE B (lE this ?_));exact k _ G H (GE I) (.dS _)
   |_=>trivial
def gF.bc(r:gp z y s.heap)(d:∀x∈own,iR z x)(m:y.get i=fR o)(f:z i b=fR a)(n:VR z x c)(k:∀Q E,(∀e g,oR a s.heap e->(∃Z1,e.get? a=fR Z1)->qy z e i o'->Q c (sU s e g))->gg (gk gh w) A t Q E s)(p:∀q,o≠.f q:=by intro q h;injection h):gF l own X A t VR z s (fS (oG i o') (λZ=>fX x) y):=λQ E u=>k Q E λe g j v B=>u z e g c (gS.change f j λh=>(d a h).2 i b f) (r.change m f j v B p) n
def ZM(d:∀x∈own,iR z x)(r:gp z y s.heap)(m:VR z v x)(b:iC z h L):gF l own X A (ju (.builtin "list.append") (x::L)) VR z s (Cg v h y):=by
 induction b with|dO=>trivial|@dN D c h L b t=>
  induction t with|dN _ _=>trivial|dO=>
   induction m with
   |@dO i a f=>
    dsimp only[Cg];refine tq λxs g=>jf λo=>r.lK f g λj p q=>.bc r d g f .dR λQ E k=>SY p (λu w B=>?_) (by refine lE lz (rE q.length ?_);exact gu o oE);refine gI w ?_;intro n e;have C:j.toArray.push c=(j++[c]).toArray:=by simp
    rw[C]at e;exact k u _ B ⟨_,e⟩ (vF f e (q.append (.dN b .dO)))
   |_=>trivial
def ZZ(d:∀x∈own,iR z x)(r:gp z y s.heap)(F:VR z v x)(m:iC z h L):gF l own X A (ju (.builtin "list.extend") (x::L)) VR z s (CE v h y):=by
 induction m with|dO=>trivial|@dN O c h L m t=>
  induction t with|dN _ _=>induction m<;>trivial|dO=>
   induction m with
   |@dO j b G=>
    induction F with
    |@dO i a o=>
     dsimp only[CE];refine tq λxs w=>tq λP H=>jf λI=>hZ λR B=>r.lK o w λf J q=>?_;refine gI J ?_;intro n p;refine r.lK G H λg K C=>gI K ?_;intro M N;refine B ?_;clear B;have u:f.toArray.size+g.toArray.size<=Fg:=by exact lE lz (lE lz (rE q.length (rE C.length (gu I.1 oE))))
     refine .bc r d w o .dR λQ E k=>call_meets afo (gx _ p rfl) PySem.F.entry_list_extend (PySem.F.args_list_extend_2 _ _) (AutoSeq1.list_extend_list_list_0 a f.toArray n b g.toArray M (extend_door u) (gu (pz _ _) u) (pA u)) (iy p N ?_);have D:(s.heap.update a (sd λx=>x++g.toArray)).get? a=fR (uV (f++g).toArray (if(f.toArray++g.toArray).size==f.toArray.size then n else n+1)):=by
      refine lE (tR _ p (by rw[mapSeq_app];rfl)) ?_;rw[mapSeq_app];have e:f.toArray++g.toArray=(f++g).toArray:=by simp
      exact lE e rfl
     exact k _ _ (sL ..) ⟨_,D⟩ (vF o D (q.append C))
    |_=>trivial
   |_=>trivial
def c7(r:gp z y s.heap)(p:VR z v x)(b:iC z L N):gF l own X A (ju (.builtin "dict.get") (x::N)) VR z s (zZ v L y):=by
 induction b with|dO=>trivial|@dN D c L N b t=>
  induction t with|dN _ _=>induction b<;>trivial|dO=>
   induction b with
   |dP k t=>
    induction p with
    |@dO i a f=>
     dsimp only[zZ];refine qF λo j=>?_;induction o with
     |d=>refine r.nK f j λn e=>?_;have d:=rH (mj gh w) e;refine .val r λQ E g=>uX Js d.typeIs afk (afg _ _) (ag5 _ a (qh k t) (r.aB f)) (gx _ d.mapOf ?_);exact g _ _ .dR
     |b u=>refine r.dK f j λZ5 d q=>.val r λQ E g=>uX Js d.typeIs afk (afg _ _) (ag5 _ a (qh k t) (r.aB f)) (gx _ d.mapOf ?_);refine g _ _ ?_;have h:=AU q k;generalize m:je u k=B;induction B with|none=>rw[m]at h;exact lE h<|.dR|some F=>rw[m]at h;refine gy h ?_;intro c C b;exact lE C<|b
     |_=>trivial
    |_=>trivial
   |_=>trivial
def j6(d:∀x∈own,iR z x)(r:gp z y s.heap)(u:VR z v x)(b:iC z L N):gF l own X A (ju (.builtin "dict.pop") (x::N)) VR z s (yg v L y):=by
 revert v L N d r u b;revert own z y x l X A s;refine @(lx E1 ?_);generalize gw.1.1.1=own,gw.1.1.2=z,gw.1.2.1=y,gw.1.2.2=x,gw.2.1.1=l,gw.2.1.2=X,gw.2.2.1=A,gw.2.2.2=s;intro v L N d r u b;induction b with|dO=>trivial|@dN M c L N b t=>
  induction t with
  |dO=>
   induction b with
   |dP k t=>
    induction u with
    |@dO i a f=>
     dsimp only[yg];refine qF λo m=>?_;induction o with
     |b C=>dsimp only;refine r.dK f m λZ5 g q=>?_;have h:=AU q k;generalize B:je C k=D;induction D with|none=>trivial|some K=>rw[B]at h;refine gy h ?_;intro c F b;refine lE sj<|jf λG=>.bc r d m f b λQ E j=>uX By g.typeIs Jq (PySem.F.args_dict_pop_2 _ _) (ag7 _ a (qh k t) [] (.inl rfl) rfl) (rL Z5 c g (by refine rE q.length ?_;exact gu G oE) F (λH p I=>?_));exact j H _ I (sG p) (jq a _ f p (KR.cX q k))
     |_=>trivial
    |_=>trivial
   |_=>trivial
  |dN J t=>
   induction t with|dN _ _=>induction b<;>trivial|dO=>
    induction b with
    |dP k t=>
     induction u with
     |@dO i a f=>
      dsimp only[yg];refine qF λo m=>?_;induction o with
      |d=>refine r.nK f m λn e=>?_;have g:=rH (mj gh w) e;exact .val r λQ E j=>uX By g.typeIs Jq (RL _ _ _) (ag6 _ a (qh k t) (r.aB f) rfl _) (iU _ g rfl (j _ _ J))
      |b C=>dsimp only;refine r.dK f m λZ5 g q=>?_;have h:=AU q k;generalize B:je C k=D;induction D with|none=>rw[B]at h;exact .val r λQ E j=>uX By g.typeIs Jq (RL _ _ _) (ag6 _ a (qh k t) (r.aB f) rfl _) (iU _ g h (j _ _ J))|some K=>rw[B]at h;refine gy h ?_;intro c F b;refine jf λG=>.bc r d m f b λQ E j=>uX By g.typeIs Jq (RL _ _ _) (ag7 _ a (qh k t) [_] (.inr ⟨_,rfl⟩) rfl) (rL Z5 c g (by refine rE q.length ?_;exact gu G oE) F (λH p I=>?_));exact j H _ I (sG p) (jq a _ f p (KR.cX q k))
      |_=>trivial
     |_=>trivial
    |_=>trivial
def ZU(d:∀x∈own,iR z x)(r:gp z y s.heap)(p:VR z v x)(u:iC z h t):gF l own X A (ju (.builtin "dict.clear") (x::t)) VR z s (zC v h y):=by
 induction u with|dN _ _=>trivial|dO=>
  induction p with
  |@dO i a b=>dsimp only[zC];refine qF λo g=>?_;induction o with|d=>refine r.nK b g λn e=>?_;have c:=rH (mj gh w) e;refine .bc r d g b .dR λQ E j=>uX Jr c.typeIs afj (aff _) (ag4 _ a) (iU _ c gO (λk f m=>?_));exact j k _ m (sG f) (jq a _ b f .dO)|b C=>refine jf λB=>r.dK b g λZ5 c q=>.bc r d g b .dR λQ E j=>uX Jr c.typeIs afj (aff _) (ag4 _ a) (iU Z5 c (by refine rE q.length ?_;exact gu B oE) (λk f m=>?_));exact j k _ m (sG f) (jq a _ b f .dO)|_=>trivial
  |_=>trivial
def ς:SJ (.type "int") "__bytes__"=pure fU:=by rw[BS];refine lE BJ ?_;kernel_rfl
def M5:SJ (.type "int") "__index__"=pure (fR (.builtin "int.__index__")):=by rw[BS];refine lE BJ ?_;kernel_rfl
def agv:SJ (.type "bytes") "__bytes__"=pure (fR (.builtin "bytes.__bytes__")):=by rw[BS];refine lE BJ ?_;kernel_rfl
def κ(c:0<=i)(b:i<=1000)(a:∀t k,Q (.bytes (Ef i.toNat 0) t) {s with toks:=k}):lF (gk gh w) A (.call (.builtin "bytes.__new__") ⟨[.type "bytes",.int i t],[]⟩) (Fj Q E) s:=by
 revert s c b a;revert i Q A t E;refine @(qJ E1 ?_);generalize iz.1.1.1=i,iz.1.1.2=Q,iz.1.2=A,iz.2.1=t,iz.2.2=E;intro s c b a;refine E_<|(?_:gg _ A.in1 (do JR "bytes.__new__" ⟨[.type "bytes",.int i t],[]⟩;again (.builtin "bytes.__new__" ⟨[.type "bytes",.int i t],[]⟩)) _ _ s);refine gf (qw (F.bm_newCall _) (gU ⟨JX Jp _,BK F.bm_entry ?_⟩));refine lE (EC Jp _) ?_;have d:s.TypeIs (.int i t) "int":=typeIs_int _ _ _;refine gf (qw rfl ?_);refine uW rfl<|gf (qw F.bm_sub ?_);refine uW rfl<|gf (qw (F.bm_bind _) ?_);refine gf (qw rfl ?_);refine gf (qw rfl ?_);refine uW rfl<|gf (Ki d ς ?_);refine gf (qw rfl ?_);refine uW rfl<|gf (Ki d M5 ?_);refine uW rfl<|gf (SR (qw (rfl:asIndex (.int i t)=pure i) ?_));refine uW (by simp[agD];lia)<|wpAny_ite (afN (by lia) ?_);refine wpAny_ite (afN (by lia) ?_);refine uW (by unfold af7;refine lE vc ?_;simp;exact yJ b gO) ?_;refine gf (ze ?_);refine gf (agk ?_ (by refine lE Qx (lE vc ?_);lia));refine bm_if_true gO ?_
 first|exact gU (a _ _)|exact wpAny_bind (wpAny_pure (wpAny_pure (a _ _)))
def ν{A:lj}{s:gK}{b:Array UInt8}{t:oq}{Q:gv->gK->Prop}{E:gv->gK->Prop}(a:∀t k,Q (.bytes b t) {s with toks:=k}):lF (gk gh w) A (.call (.builtin "bytes.__new__") ⟨[.type "bytes",.bytes b t],[]⟩) (Fj Q E) s:=by refine E_ (wP (.again (.builtin "bytes.__new__" ⟨[.type "bytes",.bytes b t],[]⟩)) (h:=⟨JX Jp _,BK F.bm_entry ?_⟩));refine lE (EC Jp _)<|wP (.done (.ret (.bytes b t))) (h:=a _ _)
def KW{A:lj}{s:gK}{v:gv}{b:Array UInt8}{Q:gv->gK->Prop}{E:gv->gK->Prop}(e:lF (gk gh w) A.in1 (.call (.builtin "bytes.__new__") ⟨[.type "bytes",v],[]⟩) (Fj (λa c=>c.TypeIs a "bytes"/\Q a c) E) s):gg (gk gh w) A (ju (.type "bytes") [v]) Q E s:=callType_codes RM (F.bm_typeCall _) F.entry_object_init e λa c d=>iy d.1 (afh a _) (object_init_meets RM.init.lookup RM.made gO gh w A.in1 _ c (iy d.1 rfl d.2))
def ZT{l:List ji}{own:List gG}{X:XT}{A:lj}{z:Va}{y:H}{s:gK}{d:List V}{e:List gv}(m:A.handled=fU)(r:gp z y s.heap)(n:iC z d e):gF l own X A (ju (.type "bytes") e) VR z s (s_ d y):=by induction n with|dO=>trivial|@dN v c d e g t=>induction t with|dN _ _=>induction g<;>trivial|dO=>induction g with|dN i t=>dsimp only[s_];refine jf λh=>.val r λQ E k=>KW (b:=#[]) (κ h.1 h.2 λt f=>⟨za _ _ _,k _ _ (.dQ _ _)⟩)|dQ b t=>exact .val r λQ E k=>KW (b:=#[]) (ν λt f=>⟨za _ _ _,k _ _ (.dQ _ _)⟩)|@dO i a o=>dsimp only[s_];refine tq λxs p=>qH λis u=>jf λh=>r.lK o p λd w q=>?_;have j:=Am u q;exact .cf r λQ E k=>call_bytes_ints w.isList j h.1 (by refine lE j.length<|gu h.2 oE) m λx t f B=>k _ x f B (.dQ _ _)|_=>trivial
abbrev Fr:List gv->List (Array UInt8)->Prop:=ib λv b=>∃t,v=.bytes b t
def Yn(e:zA xs=fR h)(x:iC z xs y):Fr y h:=by induction x generalizing h with|dO=>obtain rfl:=gz e;exact .dO|@dN a b c k p t d=>induction p with|dQ i f=>exact mI (show(zA c).map (i::·)=fR h from e) λr g j=>j▸.dN ⟨f,rfl⟩ (d g)|_=>injection e
def Hu{M:lv}(e:s.heap.get? a=fR (uV t n))(h:Q (fR t) s):gg M A (seqItems? (.ref a)) Q E s:=gf (wpAny_load e (gU h))
def ϟ{M:lv}(h:gg M A (forIn (Ew 0 n) c f) Q E s):gg M A (forIn [0:n] c f) Q E s:=by
 rw[agT];have Y3:([0:n]:agS).size=n:=by simp[agU]
 refine lE Y3<|h
def abB{Y7:String}:af6 Y7 (.bytes b t) 0=pure (fR (b,fU)):=by
 unfold af6 agI;refine lE (KBy.special_eq KBy.look_buffer) (lE KBy.own_buffer ?_);refine(?_:Sem.attempt (agC Y7 (.bytes b t)>>=_)>>=_=_);have e:((0:Int)==agE)=fY:=by decide
 refine lE e (lE KBy.buffer_eq ?_);rfl
def O0(b:Array UInt8)(d:b.size=0)(a:List (Array UInt8)):af5 b a=nY a:=by
 have e:=Array.size_eq_zero_iff.mp d;subst e;unfold af5;have:∀(a:List (Array UInt8)) (k:Nat) (Z7:Array UInt8),(a.zipIdx k).foldl (λc (p,i)=>(if i>0 then c++#[]else c)++p) Z7=Z7++nY a:=by intro a;induction a with|nil=>intro k Z7;simp[nY]|cons x r f=>refine λk Z7=>lE List.zipIdx_cons (lE QQ ?_);rw[f];simp[nY]
 refine lE (this a 0 #[]) ?_;simp
def aan(a:List (Array UInt8)):∀(n:Nat),a.foldl (·+·.size) n=n+(nY a).size:=by induction a with|nil=>intro n;simp[nY]|cons x r b=>intro n;refine lE QQ ?_;rw[b];simp[nY];exact Nat.add_assoc _ _ _
def T0{M:lv}(a:∀p∈t,p.2=fU)(h:Q () s):gg M A (agG t y) Q E s:=by induction t with|nil=>exact gU h|cons p r b=>obtain⟨x,d⟩:=p;have e:=a _ (rY ..);subst e;refine gf (wpAny_letGo ?_);exact b λp c=>a p (qp _ c)
def ϝ(a:x::Z4=Ew i (n-i)):i<n/\x=i/\Z4=Ew (i+1) (n-(i+1)):=by generalize b:n-i=k at a;induction k with|zero=>injection a|succ k=>rw[List.range'_succ]at a;exact iy (aeU b) (aeb a).1 ((aeb a).2.trans (congrArg (λm=>Ew (i+1) (Nat.pred m)) b.symm))
inductive Ko(s:gK)(n:Nat)(a:List (Array UInt8))(Z4:List Nat)(q:Array (Array UInt8)×List (gv×Option gv))(s':gK):Prop|mk (b:s'=s) (i:Nat) (c:i<=n) (d:Z4=Ew i (n-i)) (e:q.1.toList=a.take i) (f:∀p∈q.2,p.1.onHeap=fY/\p.2=fU)
def N8(e:s.heap.get? a=fR (uV (z::L::N).toArray n))(r:Fr (z::L::N) y)(m:b.size=0)(o:(nY y).size<=Fg)(h:∀t k,P (.done (.ret (.bytes (nY y) t))) {s with toks:=k}):gg (gk gh w) A (Builtin.«bytes.join» ⟨[.bytes b t,.ref a],[]⟩) P E s:=by
 revert n s e r m o h;revert z L N y P A b t a E;refine @(qj E1 ?_);generalize gN.1.1.1.1=z,gN.1.1.1.2=L,gN.1.1.2=N,gN.1.2.1=y,gN.1.2.2=P,gN.2.1.1.1=A,gN.2.1.1.2=b,gN.2.1.2=t,gN.2.2.1=a,gN.2.2.2=E;intro n s e r m o h;refine wE (t':=agF (.ref a)>>=_) rfl (gf (wE rfl (gf (wpAny_typeOf (gx _ e rfl:s.TypeIs (.ref a) "list") (wE rfl (gU ?_))))));refine wE rfl (gf (Hu e ?_));have g:Fr (z::L::N).toArray.toList y:=r;refine wE (t':=forIn [0:(z::L::N).toArray.size] (_,_) _>>=_) rfl ?_;generalize (z::L::N).toArray=d at e g|-
 .refine gf (ϟ (wpAny_forIn_list _ (Ko s d.size y) _ ?_ ?_ _ _ ?_))
  .rintro x Z4 ⟨j,v⟩ s' ⟨rfl,i,q,l,c,f⟩;revert g q l c f h e;revert n d x Z4 j v s' i;refine @(lx E1 ?_);generalize gw.1.1.1=n,gw.1.1.2=d,gw.1.2.1=x,gw.1.2.2=Z4,gw.2.1.1=j,gw.2.1.2=v,gw.2.2.1=s',gw.2.2.2=i;refine λg q l c f h e=>iT (ϝ l) λB D F=>?_;obtain rfl:=D;obtain rfl:=F;refine gf (Hu e ?_);refine(?_:gg _ _ (@ite _ _ (_) _ _) _ _ _);refine hZ λO C=>?_;obtain⟨G,H,u,I⟩:=g.get x d[x] (by simpa using(by simp[B]));refine C ?_;clear C;have J:d.getD x pX=.bytes G u:=by
    refine rE I ?_;simp[wm,B]
   refine lE J<|uW ?_ ?_;rw[adY];refine⟨by decide,?_⟩;rw[QJ];intro p c;simp[(f p c).1]
   .refine gf (jp (qw abB ?_));refine wE rfl (gf (Hu e ?_));refine(wE (if_neg (by simp)) (gU (Ko.mk rfl (x+1) B rfl ?_ ?_)));refine lE Qy (lE c (lE IZ (lE H ?_)));rfl
    .intro p c;rcases mU.mp c with c|c
     .exact f p c
     .exact lE (js.mp c)<|⟨rfl,rfl⟩
  .rintro⟨j,v⟩ s' ⟨rfl,i,q,l,c,f⟩;have K:i=d.size:=by
    exact uO q (aeS (List.length_range'.symm.trans (congrArg rW l).symm))
   have M:y.length=d.size:=rE g.length (lE kq rfl);rw[K,<-M,I_]at c;refine gf (qw (rfl:agH (.bytes b t)=pure b) ?_);refine uW ?_ ?_
   .have:j.foldl (·+·.size) (b.size*(j.size-1))=(nY y).size:=by
     rw[<-adT];refine lE c ?_;rw[aan];refine lE m ?_;simp
    unfold af7;refine lE this ?_;simp;exact o
   .rw[O0 b m];refine lE c<|gf (agk ?_ o);refine gf (jp (wpAny_point ?_));refine gf (T0 (λp c=>(f p c).2) ?_);exact gU (h _ _)
  .exact⟨rfl,0,jT _,rfl,by simp,by simp⟩
def ON:Slot "bytes" "join" "bytes.join":=.of (owner:="bytes") (n:="join") (by rw[BS];refine lE BJ ?_;kernel_rfl) (by decide+kernel) (by decide+kernel) (by decide+kernel) (by first|exact .inl GC|exact .inr (by decide+kernel)) (by rw[JU];kernel_rfl)
def ac4:Fi (.builtin "bytes.join")=pure (.type "method_descriptor"):=by refine lE builtinType_eq_fast ?_;kernel_rfl
def u0:JT table "bytes.join"=fR Builtin.«bytes.join»:=by first|exact entryFor_of_fast gQ|exact entryFor_of_tree gQ
def Vn(a b:gv):JM "bytes.join" ⟨[a,b],[]⟩:=by unfold JM;kernel_rfl
def g5(r:gp z y s.heap)(i:VR z v x)(d:iC z N L):gF l own X A (ju (.builtin "bytes.join") (x::L)) VR z s (Ao v N y):=by
 induction d with|dO=>trivial|@dN C c N L d t=>
  induction t with|dN _ _=>induction d<;>trivial|dO=>
   induction d with
   |@dO j a m=>
    induction i with
    |dQ b t=>
     dsimp only[Ao];refine jf λo=>tq λxs p=>qH λD u=>?_;split
     .rename_i h;refine r.lK m p λe w q=>gI w ?_;intro n B;have f:=Yn u q;have g:=f.length▸h.2;induction e using jg with|nil=>exact absurd g (Rg 1)|cons F e=>induction e using jg with|nil=>exact absurd g (uP 1)|cons G L=>exact .val r λQ E k=>tY ON (za _ _ _) u0 (N8 B f o (gu h.1 oE) λt H=>gx _ rfl (k _ _ (.dQ _ _))) (Vn _ _)
     .trivial
    |_=>trivial
   |_=>trivial
def MS(x a:Int)(r:List Int):Ak x (a::r)=if x<a then x::a::r else a::Ak x r:=rfl
def MT(x:Int)(l:List Int):(Ak x l).Perm (x::l):=by
 induction l with|nil=>exact .refl _|cons a r b=>
  rw[MS];split;exact .refl _;exact(IO a b).trans (IQ x a r)
def HC(l:List Int):(tE l).Perm l:=by induction l with|nil=>exact .refl _|cons x r a=>exact(MT x _).trans (a.cons x)
def M8(x:Int)(l:List Int)(h:l.Pairwise (·<=·)):(Ak x l).Pairwise (·<=·):=by
 induction l with|nil=>exact rZ ..|cons g r e=>
  rw[MS];refine gP (qr.mp h) λd f=>?_;split
  .rename_i b;refine qr.mpr ⟨λc a=>?_,h⟩;rcases gX.mp a with rfl|a
   .exact Ek b
   .have:=d c a;exact oB b this
  .rename_i b;refine qr.mpr ⟨λc a=>?_,e f⟩;rcases gX.mp ((MT x r).mem_iff.mp a)with rfl|a
   .exact wq.mp b
   .exact d c a
def aaE(l:List Int):(tE l).Pairwise (·<=·):=by induction l with|nil=>exact .nil|cons x r a=>exact M8 x _ a
def OQ(p:l.Perm Z6)(o:l.Pairwise (·<=·)):l=tE Z6:=QH (λa b Z Z c d=>Int.le_antisymm c d) o (aaE Z6) (p.trans (HC Z6).symm)
def qi(a b:f_):Prop:=¬b.cps.toList<a.cps.toList
def Da(a b:f_):uo a b=fW↔a.cps.toList<b.cps.toList:=by simp[uo]
def aaW{a b:f_}(h:a.cps.toList=b.cps.toList):a=b:=by obtain⟨x⟩:=a;obtain⟨c⟩:=b;exact congrArg Str.mk (adR h)
def Nd{a b:f_}(c:qi a b)(d:qi b a):a=b:=aaW (List.le_antisymm c d)
def GK(d:qi a b)(e:qi b c):qi a c:=List.le_trans d e
def Nf(h:a.cps.toList<b.cps.toList):qi a b:=List.lt_asymm h
def MU(x a:f_)(r:List f_):Al x (a::r)=if uo x a then x::a::r else a::Al x r:=rfl
def MV(x:f_)(l:List f_):(Al x l).Perm (x::l):=by
 induction l with|nil=>exact .refl _|cons a r b=>
  rw[MU];split;exact .refl _;exact(IO a b).trans (IQ x a r)
def yp(l:List f_):(qK l).Perm l:=by induction l with|nil=>exact .refl _|cons x r a=>exact(MV x _).trans (a.cons x)
def M9(x:f_)(l:List f_)(h:l.Pairwise qi):(Al x l).Pairwise qi:=by
 induction l with|nil=>exact rZ ..|cons e r f=>
  rw[MU];refine gP (qr.mp h) λd g=>?_;split
  .rename_i a;have a:=Nf ((Da _ _).mp a);refine qr.mpr ⟨λc b=>?_,h⟩;rcases gX.mp b with rfl|b
   .exact a
   .exact GK a (d c b)
  .rename_i a;have a:qi e x:=λc=>a ((Da _ _).mpr c);refine qr.mpr ⟨λc b=>?_,f g⟩;rcases gX.mp ((MV x r).mem_iff.mp b)with rfl|b
   .exact a
   .exact d c b
def aaF(l:List f_):(qK l).Pairwise qi:=by induction l with|nil=>exact .nil|cons x r a=>exact M9 x _ a
def ϥ:∀(l:List f_) (p:f_),risingS p l=fW->(p::l).Pairwise qi:=by
 intro l;induction l with|nil=>intro p _;exact rZ ..|cons x r d=>
  intro p h;unfold risingS at h;rw[lr,Bl]at h;have b:qi p x:=by
   have:=h.1;rw[ltCps_eq]at this;exact of_decide_eq_false this
  have c:=d x h.2;refine qr.mpr ⟨λe a=>?_,c⟩;rcases gX.mp a with rfl|a
  .exact b
  .exact GK b ((qr.mp c).1 e a)
def OR(p:l.Perm Z6)(o:agA l=fW):l=qK Z6:=by
 have o':l.Pairwise qi:=by induction l with|nil=>exact .nil|cons x r=>exact ϥ r x o
 exact QH (λa b Z Z c d=>Nd c d) o' (aaF Z6) (p.trans (yp Z6).symm)
def MX(h:sK x is):iC z (is.map .a) x:=by induction h with|nil=>exact .dO|cons i t _ a=>exact .dN (.dN _ _) a
def Pg(h:yW x is):iC z (is.map .d) x:=by induction h with|nil=>exact .dO|cons i t _ a=>exact .dN (.dP _ _) a
def ϫ(d:∀i j,i<n->j<n->∀C:Bool->gK->Prop,C (Y0 i j) s->x i j C s):∀(t:KasT y),tA n t=fW->Q (mO Y0 t) s->t.kasWp x Q s:=by intro t;induction t with|ret a=>exact λZ h=>h|ask i j k c=>intro b h;have b:(decide (i<n)&&decide (j<n)&&tA n (k fW)&&tA n (k fY))=fW:=b;simp only[lr,decide_eq_true_eq]at b;refine gP b ?_;intro f g;refine gP f ?_;intro l m;refine gP l ?_;intro o p;refine d i j o p _ ?_;have h:Q (mO Y0 (k (Y0 i j))) s:=h;generalize e:Y0 i j=q;induction q with|true=>rw[e]at h;exact c fW m h|false=>rw[e]at h;exact c fY g h
def U0(r:s.heap.get? a=fR (kM "list" t.toArray n))(f:t.length<64)(F:∀(s':gK) (Q:SortKind->gK->Prop) (E:gv->gK->Prop),(∀b o,b≠a->s.heap.get? b=fR o->s'.heap.get? b=fR o)->2<=t.length->Q (tuples' fW) s'->gg (gk gh w) A (keyKind' t.toArray) Q E s')(G:∀(s':gK),(∀b o,b≠a->s.heap.get? b=fR o->s'.heap.get? b=fR o)->∀i j,i<t.length->j<t.length->∀C:Bool->gK->Prop,C (Y0 i j) s'->kas_ask gh w A (tuples' fW) t i j C s')(H:2<=t.length->tA t.length (oV t.length)=fW)(d:List gv)(g:d=if t.length<2 then t else(mO Y0 (oV t.length)).toList.map λi=>t.getD i pX)(h:P (.done (.ret .none)) {s with heap:=EA s.heap a t d.toArray}):gg (gk gh w) A (Builtin.«list.sort» ⟨[.ref a],[]⟩) P E s:=by
 have m:=vc;rw[list_sort_plain];refine gf (listItems_at r rfl ?_);refine gf (Rr r rfl ?_ (by refine lE lz ?_;exact kZ (gC m.symm) f) (jT _));obtain⟨u,x⟩:∃u,(s.heap.update a (sd λZ=>(#[]:Array gv))).get? a=fR (kM "list" #[] u):=⟨_,get?_update_seq r λZ=>#[]⟩;refine gf (Rt x rfl ?_);refine gf (Ta ?_ (by exact kZ (gC m.symm) f));refine gf (Fm ?_ (jT _));refine jp ?_;have q:(((s.heap.update a (sd λZ=>(#[]:Array gv))).push (kM "tuple" t.toArray 0)).push (kM "list" #[] 0)).get? a=fR (kM "list" #[] u):=iW _ (iW _ x);have y:∀b o,b≠a->s.heap.get? b=fR o->(((s.heap.update a (sd λZ=>(#[]:Array gv))).push (kM "tuple" t.toArray 0)).push (kM "list" #[] 0)).get? b=fR o:=λb o I e=>iW _ (iW _ ((EJ _ _ (wS I)).trans e));dsimp only;by_cases c:t.length<2
 .rw[if_pos c]at g;have k:t.toArray.size<2:=lE lz<|c;refine lE (if_pos k) (lE (if_pos k) ?_);refine gf (gU ?_);rw[StateT.run_pure];refine gf (gU ?_);have J:(arrOf (SortSt.mk' general' (t.toArray.zip t.toArray) #[] 7 fU)).map (·.2)=d.toArray:=by
   refine lE g ?_;apply adW.mp;refine lE Array.toList_map (lE Array.toList_zip ?_);exact List.map_snd_zip (ij _)
  refine lE J ?_;have v:d.length<64:=lE g<|f;refine gf (Rt q rfl ?_);refine gf (Rr q rfl ?_ (jT _) (by refine lE lz ?_;exact kZ (gC m.symm) v));simp only[bne_self_eq_false,uJ,if_false];exact gU h
 .rw[if_neg c]at g;have k:¬t.toArray.size<2:=lE lz<|c;refine lE (if_neg k) (lE (if_neg k) ?_);refine gf (F _ _ _ y (r_ c) ?_);have K:=ϫ (Q:=λp s'=>p=mO Y0 (oV t.length)/\s'={s with heap:=((s.heap.update a (sd λZ=>(#[]:Array gv))).push (kM "tuple" t.toArray 0)).push (kM "list" #[] 0)}) (G _ y) (oV t.length) (H (r_ c)) ⟨rfl,rfl⟩;refine gf (jL (kat_run (Q:=λl s'=>(arrOf l).map (·.2)=d.toArray/\(arrOf l).size=t.length/\failedOf l=fU/\s'={s with heap:=((s.heap.update a (sd λZ=>(#[]:Array gv))).push (kM "tuple" t.toArray 0)).push (kM "list" #[] 0)})
   rfl (r_ c) f (λp l s' L z M B=>kg ?_ ?_ M B.2) K) ?_ λZ Z e=>e)
  .exact lE (kat_snds rfl z) (lE B.1 (lE g rfl))
  .exact lE z (lE Qw L)
  .rintro⟨⟨⟩,l⟩ s' ⟨D,Y3,N,rfl⟩;refine lE D ?_;have v:d.length<64:=by
    have:=congrArg Eg D;rw[Qw,Y3,lz]at this;exact gu (oQ (gC this.symm)) f
   refine gf (Rt q rfl ?_);refine gf (Rr q rfl ?_ (jT _) (by refine lE lz ?_;exact kZ (gC m.symm) v));refine lE N ?_;simp only[bne_self_eq_false,uJ,if_false];exact gU h
def aaI(k:s.heap.IsList a t.toArray)(i:t.length<64)(h:∀(B:gG) (s':gK) (P:RO->gK->Prop),s'.heap.get? B=fR (kM "list" t.toArray 0)->(∀b o,s.heap.get? b=fR o->s'.heap.get? b=fR o)->s.heap.objs.size<=B->(∀c:List gv,(∀d e l,(∀b o,s.heap.get? b=fR o->d.get? b=fR o)->d.get? B=fR (kM "list" c.toArray e)->Q (.ref B) (sU s d l))->P (.done (.ret .none)) {s' with heap:=EA s'.heap B t c.toArray})->gg (gk gh w) A.in1.in1 (Builtin.«list.sort» ⟨[.ref B],[]⟩) P E s'):gg (gk gh w) A (ju (.builtin "sorted") [.ref a]) Q E s:=by
 have j:=vc;refine RB Rq Rs Rp (Rm _)<|gf (gU ?_);refine gf (collect_list k ?_ (kZ (gC j.symm) i));refine gf (Fm ?_ (kZ (gC j.symm) i));have Y3:((s.heap.push (kM "list" #[] 0)).update s.heap.objs.size (sd (·++t.toArray))).objs.size=s.heap.objs.size+1:=by rw[RQ,size_push']
 have f:(((s.heap.push (kM "list" #[] 0)).update s.heap.objs.size (sd (·++t.toArray))).push (kM "list" t.toArray 0)).get? (s.heap.objs.size+1)=fR (kM "list" t.toArray 0):=by exact rE Y3<|lu _ rfl
 have g:∀b o,s.heap.get? b=fR o->(((s.heap.push (kM "list" #[] 0)).update s.heap.objs.size (sd (·++t.toArray))).push (kM "list" t.toArray 0)).get? b=fR o:=λb o q=>iW _ ((EJ _ _ (wS (jt (iB q)))).trans (iW _ q));refine lE Y3<|gf (jp (tY Ru (gx _ f rfl) Rn (h (s.heap.objs.size+1) {s with heap:=((s.heap.push (kM "list" #[] 0)).update s.heap.objs.size (sd (·++t.toArray))).push (kM "list" t.toArray 0)} _ f g (jA _) λc m=>gx _ rfl ?_) (Rl _)));refine gU (gx _ rfl ?_);refine gI (Ry f) λe n=>m _ e s.toks (λb o q=>?_) n;refine lE (Rz (jt (ru (iB q))) (iB (g b o q)))<|g b o q
def OU(C:A.handled=fU)(D:(a==sysModules)=fY)(F:s.heap.DictOf (mj gh w) a Z5)(n:Z5.length<64)(h:∀(B:gG) (c:List gv) (s':gK) (P:RO->gK->Prop),yW c (Z5.map (·.1))->s'.heap.get? B=fR (kM "list" c.toArray 0)->(∀b o,s.heap.get? b=fR o->s'.heap.get? b=fR o)->s.heap.objs.size<=B->(∀j:List gv,(∀d e f,(∀b o,s.heap.get? b=fR o->d.get? b=fR o)->d.get? B=fR (kM "list" j.toArray e)->Q (.ref B) (sU s d f))->P (.done (.ret .none)) {s' with heap:=EA s'.heap B c j.toArray})->gg (gk gh w) A.in1.in1 (Builtin.«list.sort» ⟨[.ref B],[]⟩) P E s'):gg (gk gh w) A (ju (.builtin "sorted") [.ref a]) Q E s:=by
 have p:=vc;refine gI F.dictAt λN G=>RB Rq Rs Rp (Rm _)<|gf (gU ?_);refine gf (tH (kdu_collect (kdl_dict D) C G (kZ (gC p.symm) n) λd f Z7 g u Y3=>?_));have y:Z7.toList.length=Z5.length:=lE kq<|u.1;have H:yW Z7.toList (Z5.map (·.1)):=by
  have:∀(c:List gv) (Z5:List (f_×gv)),c.length=Z5.length->(∀(i:Nat) (v:gv),c[i]?=fR v->∃k x,Z5[i]?=fR (k,x)/\(mj gh w).is k v=fW)->yW c (Z5.map (·.1)):=by
   intro c;induction c with
   |nil=>intro Z5 h _;induction Z5 with|nil=>exact .nil|cons _ _=>simp at h
   |cons v r I=>
    intro Z5 h z;induction Z5 with|nil=>simp at h|cons O Z5=>
     refine jR (z 0 v rfl) λk x e g=>?_;simp at e;subst e;have J:∃t,v=.str k t:=by induction v<;>simp[mj,Sa]at g;subst g;exact⟨_,rfl⟩
     refine gI J ?_;intro t K;obtain rfl:=K;exact .cons _ _ (I Z5 (by simpa using h) λi v e=>z (i+1) v (by simpa using e))
  exact this _ _ y λi v e=>u.2 i v (by refine rE rq ?_;exact e)
 refine gf (Fm ?_ (lG (gC p.symm) n (gC y)));have l:(d.push (kM "list" Z7.toList.toArray 0)).get? d.objs.size=fR (kM "list" Z7.toList.toArray 0):=lu _ rfl;have m:∀b o,s.heap.get? b=fR o->(d.push (kM "list" Z7.toList.toArray 0)).get? b=fR o:=λb o q=>iW _ (g b o q);refine gf (jp (tY Ru (gx _ l rfl) Rn (h d.objs.size Z7.toList (sU s (d.push (kM "list" Z7.toList.toArray 0)) f) _ H l m ?_ λj L=>gx _ rfl ?_) (Rl _)));exact Y3;refine gU (gx _ rfl ?_);refine gI (Ry l) λe M=>L _ e f (λb o q=>?_) M;refine lE (Rz (jt (pU (iB q) Y3)) (iB (m b o q)))<|m b o q
set_option tactic.hygienic true in
def abW{s:gK}{r:gp z y s.heap}:∀{xs:List V} {Z9:List TK} {g:List gv},tj y xs=fR Z9->iC z xs g->xs=Z9.map (·.2)/\ib (λv k=>∃a n t u,v=.ref a/\s.heap.get? a=fR (qM #[.int k.1.1 t,.str k.1.2 u] n)) g Z9:=by
 intro xs;revert r;revert z y s xs;refine @(vQ E1 ?_);generalize ku.1.1=z,ku.1.2=y,ku.2.1=s,ku.2.2=xs;intro r;induction xs with|nil=>intro Z9 g e q;cases q;cases e;exact⟨rfl,.dO⟩|cons x xs p=>
  intro Z9 g e q;cases q with|@dN _ c _ L w q=>
   replace e:(match Ap y x,tj y xs with|some k,fR Z9=>fR (k::Z9)|_,_=>fU)=fR Z9:=e
   generalize d:Ap y x=h;induction h with|none=>rw[d]at e;exact nS e|some k=>generalize j:tj y xs=h;induction h with|none=>rw[d,j]at e;exact nS e|some M=>rw[d,j]at e;obtain rfl:=gz e;refine gP (p j q) λA B=>bI d λi C d=>bI d λo m d=>bI d λl D d=>bI d λu E d=>bI d λb F d=>mI d λN G d=>?_;obtain rfl:=ϕ C;rw[abU D,PC E,L9 F,Ϭ G]at m;cases w with|@dO _ a H=>refine r.tK H m λO n I f=>?_;cases f with|dN J f=>cases f with|dN K f=>cases f;cases J;cases K;exact⟨by rw[A,<-d];rfl,.dN (by rw[<-d];exact Ad a n _ _ rfl I) B⟩
def Hi(n:Nat)(h:n<4):tA n (oV n)=fW:=(by decide+kernel:∀n:Fin 4,tA n (kas_sort n)=true) ⟨n,h⟩
def O2{s':gK}{Z9:List TK}(h:ib (λv k=>∃a n t u,v=.ref a/\s'.heap.get? a=fR (qM #[.int k.1.1 t,.str k.1.2 u] n)) x Z9):∃fs,KatTups s'.heap x fs/\fs.length=x.length/\∀v∈fs,∃i t,v=.int i t:=by
 induction h with|dO=>exact iU ([]) trivial rfl (λv h=>nM h)|@dN v k x Z9 p _ c=>
  refine jy c ?_;intro fs d e f;refine pS p ?_;intro a n t u g j;obtain rfl:=g;refine iU (.int k.1.1 t::fs) ⟨(MN a _ _ n rfl j rfl rfl rfl),d⟩ (by simp[e]) (λv b=>?_);rcases gX.mp b with rfl|b
  .exact qA _ _ rfl
  .exact f v b
def V3(Z9:List TK)(a:List gv)(h:a.length=Z9.length)(L:List Nat):ib (λ(k:TK) (v:gv)=>k=pI/\v=pX\/∃i:Nat,Z9[i]?=fR k/\a[i]?=fR v) (L.map λi=>Z9.getD i pI) (L.map λi=>a.getD i pX):=by
 induction L with|nil=>exact .dO|cons i r c=>
  refine .dN ?_ c;by_cases b:i<Z9.length
  .right;refine gx i ?_ ?_;refine(?_:Z9[i]?=fR (Z9.getD i pI));refine lE tM (lE (oO b) ?_);rfl;refine(?_:a[i]?=fR (a.getD i pX));refine lE tM (lE (oO (gu b (gC h.symm))) ?_);rfl
  .left;refine⟨?_,?_⟩;refine(?_:Z9.getD i pI=pI);refine lE tM (lE (wx (r_ b)) ?_);rfl;refine(?_:a.getD i pX=pX);refine lE tM (lE (wx (gu (gC h) (r_ b))) ?_);rfl
def Ρ{Z9:List t}:∀{c:List x},c.length=Z9.length->ib (λk v=>∃i:Nat,Z9[i]?=fR k/\c[i]?=fR v) Z9 c:=by induction Z9 with|nil=>intro c h;exact aem.mp h▸.dO|cons k Z9 d=>intro c h;induction c using jg with|nil=>exact absurd h (Nat.succ_ne_zero _).symm|cons v c=>exact .dN ⟨0,rfl,rfl⟩ ((d (yU h)).mono λ_ _ ⟨i,a,b⟩=>⟨i+1,a,b⟩)
set_option tactic.hygienic true in
def aaH(s:s'.heap.get? B=fR (kM "list" x.toArray 0))(z:ib (λv k=>∃a n t u,v=.ref a/\s'.heap.get? a=fR (qM #[.int k.1.1 t,.str k.1.2 u] n)) x Z9)(f:uy Z9=fR y)(I:∀N:List gv,ib (λ(k:TK) (v:gv)=>k=pI/\v=pX\/∃i:Nat,Z9[i]?=fR k/\x[i]?=fR v) y N->P (.done (.ret .none)) {s' with heap:=EA s'.heap B x N.toArray}):gg (gk gh w) A (Builtin.«list.sort» ⟨[.ref B],[]⟩) P E s':=by
 revert y P A E s z f I;revert x Z9 B s';refine @(vQ E1 ?_);generalize ku.1.1=x,ku.1.2=Z9,ku.2.1=B,ku.2.2=s';intro y P A E s z f I;have l:=z.length;have J:Z9.length<4:=by
  unfold uy at f;by_cases q:Z9.length<4;exact q;rw[if_neg q]at f;exact nS f
 refine U0 (Y0:=λi j=>kX (Z9.getD i pI) (Z9.getD j pI)) s (kZ (gC l) J) ?_ ?_ (λZ=>Hi _ (gu (oQ (gC l)) J)) _ rfl (I _ ?_)
 .intro D Q b1 K W X;have Y:=z.mono (Q:=λv k=>∃a n t u,v=.ref a/\D.heap.get? a=fR (qM #[.int k.1.1 t,.str k.1.2 u] n)) λv k p=>by
   refine hZ λF c=>pS p ?_;intro a n t u a0 m;obtain rfl:=a0;refine c ?_;clear c;refine Ad a n t u rfl (K a _ (λo=>?_) m);obtain rfl:=o.symm;rw[s]at m;have o:=congrArg Obj.cls (gz m);simp at o
  refine hZ λF c=>jy (O2 Y) λfs a1 a2 a3=>?_;refine c ?_;clear c;refine kat_kind a1 (gu (jo W) (gC a2.symm)) (T:=.type "int") (λv a4=>?_) gO X;refine hZ λF c=>kS (a3 v a4) λi t a5=>?_;obtain rfl:=a5;refine c ?_;clear c;exact Sc rfl
 .intro D K i j G a6 C d;have O:∀i,i<x.length->∃a n t u,x.getD i pX=.ref a/\D.heap.get? a=fR (qM #[.int (Z9.getD i pI).1.1 t,.str (Z9.getD i pI).1.2 u] n):=λi G=>by
   refine hZ λF c=>?_;obtain⟨k,a7,a,n,t,u,e,m⟩:=z.get i x[i] (oO G);refine c ?_;clear c;refine Ad a n t u ?_ ?_;refine lE tM (lE (oO G) ?_);exact e;refine lE tM (lE a7 ?_);refine K a _ (λo=>?_) m;obtain rfl:=o.symm;rw[s]at m;have o:=congrArg Obj.cls (gz m);simp at o
  refine hZ λF c=>pS (O i G) λa n t u a8 R=>hZ λF c=>?_;refine pS (O j a6) λb n' t' b2 a9 S=>c ?_;clear c;refine c ?_;clear c;refine(?_:gg (gk gh w) A (keyLt' (tuples' fW) (x.getD i pX) (x.getD j pX)) C (λZ Z=>False) D);refine lE a8 (lE a9 ?_);generalize Z9.getD i pI=r at R d;generalize Z9.getD j pI=g at S d;unfold kX at d;refine kat_lt R rfl S rfl<|kat_cons (wpAny_eqBool_int (kat_go (λL=>?_) (λL=>?_)))
  .have H:r.1.1=g.1.1:=by simpa using L
   refine kat_yes (kat_cons (wpAny_eqBool_str (kat_go (λV=>?_) (λV=>?_))))
   .have b0:r.1.2=g.1.2:=by simpa using V
    refine kat_yes (kat_nil ?_);rw[H,b0]at d;have M:uo g.1.2 g.1.2=fY:=by simp[uo,aeu]
    simpa[M]using d
   .refine kat_no (kat_one _ _ (PySem.P.lt_str ?_));refine(?_:C (decide (r.1.2.cps.toList<g.1.2.cps.toList)) D);rw[H]at d;have M:uo r.1.2 g.1.2=decide (r.1.2.cps.toList<g.1.2.cps.toList):=rfl;rw[M]at d;simpa using d
  .have H:¬r.1.1=g.1.1:=by simpa using L
   refine kat_no (oneLt_int ?_);simpa[H]using d
 .unfold uy at f;rw[if_pos J]at f;obtain rfl:=gz f;by_cases q:Z9.length<2;rw[if_pos q,if_pos (l▸q)];exact(Ρ l).mono λZ Z h=>.inr h;rw[if_neg q,if_neg (l▸q),l];exact V3 _ _ l _
def OS(c:s'.heap.get? B=fR (kM "list" h.toArray 0))(a:yW h t)(d:h.length<64)(f:∀b:List gv,yW b (qK t)->P (.done (.ret .none)) {s' with heap:=EA s'.heap B h b.toArray}):gg (gk gh w) A (Builtin.«list.sort» ⟨[.ref B],[]⟩) P E s':=by refine list_sort_treeK strKind_oneLt c a.keysOf (λn o Z4 e=>keyKind_strs (by refine rE e ?_;exact a)) d λg i j=>?_;refine jy (sorted_out_str a i j) λp k l m=>?_;have:=f ((arrOf g).map (·.2)).toList (OR l m▸k);rw[yG]at this;exact this
def k8(M:A.handled=fU)(r:gp z y s.heap)(m:iC z L N):gF l own X A (ju (.builtin "sorted") N) VR z s (rQ L y):=by
 revert L N A M r m;revert z y l own X s;refine @(nI E1 ?_);generalize gT.1.1.1=z,gT.1.1.2=y,gT.1.2=l,gT.2.1.1=own,gT.2.1.2=X,gT.2.2=s;intro L N A M r m;induction m with|dO=>trivial|@dN v c L N a3 t=>
  induction t with|dN _ _=>induction a3<;>trivial|dO=>
   induction a3 with
   |@dO i a C=>
    dsimp only[rQ];refine qF λo W=>?_;induction o with
    |a xs=>
     refine jf λO=>r.lK C W λY R q=>?_;have a0:Y.length<64:=rE q.length<|O;induction xs with
     |nil=>
      cases q;refine .bG r (λZ Z Z e=>.dO e) λQ E k=>sorted_ints R.isList .nil gO λb a4 g D S=>gI (Rv s.heap [] b) λe d=>?_;have:=List.perm_nil.mp D;subst this;have:b.toList=[]:=by generalize h:b.toList=F;induction F with|nil=>rfl|cons _ _=>rw[h]at g;cases g
      have f:=adW.mp this;subst f;refine k _ _ _ (λZ Z=>Rx) ⟨_,d⟩ ?_ (jA _);exact jq _ ([]) (lc ..) ⟨e,d⟩ .dO
     |cons x xs=>
      induction x with
      |a n=>refine qH λis G=>?_;have a1:=Am G q;refine .bG r (λZ Z Z e=>.dO e) λQ E k=>sorted_ints R.isList a1 a0 λb a4 g D S=>gI (Rv s.heap Y b) λe d=>k _ _ _ (λZ Z=>Rx) ⟨_,d⟩ ?_ (jA _);refine jq _ b.toList (lc ..) ⟨e,lE d rfl⟩<|rE (OQ D S)<|MX g
      |d n=>refine qH λis G=>?_;have a1:=Pf G q;refine .bG r (λZ Z Z e=>.dO e) λQ E k=>sorted_strs R.isList a1 a0 λb a4 g D S=>gI (Rv s.heap Y b) λe d=>k _ _ _ (λZ Z=>Rx) ⟨_,d⟩ ?_ (jA _);refine jq _ b.toList (lc ..) ⟨e,lE d rfl⟩<|rE (OR D S)<|Pg g
      |b j=>
       refine(?_:gF l own X A _ VR z s (match tj y (.b j::xs)with
        |some Z9=>match uy Z9 with|some a5=>gM (.a (a5.map (·.2))) y|none=>.a
        |none=>.a))
       generalize b0:tj y (.b j::xs)=F;induction F with|none=>trivial|some Z9=>
        dsimp only;generalize G:uy Z9=F;induction F with|none=>trivial|some a5=>
         refine gP (abW (r:=r) b0 q) λb1 b2=>.bG r (λZ Z Z e=>.dO e) λQ E k=>aaI R.isList a0 λB s' P H a2 Y3 I=>aaH H (b2.mono λv a6 p=>?_) G λb f=>I b λa7 e a8 J d=>?_;refine pS p ?_;intro a n t u b3 b4;obtain rfl:=b3.symm;exact Ad a n t u rfl (a2 _ _ b4)
         .refine k _ _ _ J ⟨_,d⟩ (jq _ b (lc ..) ⟨e,d⟩ ?_) Y3;refine f.di λa6 v p=>?_;rcases p with⟨rfl,rfl⟩|⟨b5,b6,b7⟩
          .exact .dR
          .rw[b1]at q;refine gy (q.get b5 a6.2 (by refine lE lQ (lE b6 ?_);rfl)) λc a9 m=>?_;rw[b7]at a9;obtain rfl:=gz a9;exact m.mono (nV (r.fresh fY))
      |_=>trivial
    |d=>refine r.nK C W λn e=>.bG r (λZ Z Z e=>.dO e) λQ E k=>OU M (r.aB C) (rH (mj gh w) e) gO λB L s' P K H a2 Y3 I=>OS H K (by have:=K.len_eq;refine lE this ?_;decide) λb f=>I b λa7 e a8 J d=>?_;cases f;exact k _ _ _ J ⟨_,d⟩ (jq _ ([]) (lc ..) ⟨e,d⟩ .dO) Y3
    |b T=>
     refine jf λO=>r.dK C W λZ5 b8 q=>?_;have b9:∀{T:List (f_×V)} {Z5:List (f_×gv)},ib (KR z) T Z5->T.map (·.1)=Z5.map (·.1):=by intro T Z5 q;induction q with|dO=>rfl|dN p _ c0=>exact lE iZ (lE iZ (lE c0 (lE p.1 rfl)))
     refine .bG r (λZ Z Z e=>.dO e) λQ E k=>OU M (r.aB C) b8 (by refine rE q.length ?_;exact O) λB L s' P K H a2 Y3 I=>?_;refine OS H K (by have:=K.len_eq;rw[iq,<-q.length]at this;exact gu (oQ (gC this)) O) λb f=>I b λa7 e a8 J d=>k _ _ _ J ⟨_,d⟩ (jq _ b (lc ..) ⟨e,d⟩ ?_) Y3;refine lE (b9 q)<|Pg f
    |_=>trivial
   |_=>trivial
structure jM:Prop where
 bA:K.In iI
 g:iI.Ns jK mg
 b:iI.Ns tT mb
 bi:∀x:f_,x≠"__name__"->mb x=JP x
 nolim:iI.NoLimit
noncomputable def FJ:List (f_×gv):=["len","sum","sorted","max","any","all"].map (λs=>(fZ s,.builtin s))++["bytes","str","int","range","enumerate","zip","set"].map λs=>(fZ s,.type s)
def lH(nm:f_):Option gv:=FJ.lookup nm
def XZ(e:lH nm=fR v):JP nm=fR v:=jR (rX.mp e) λa b e Z=>(by decide+kernel:∀p∈FJ,bootBuiltins p.1=some p.2) (nm,v) (e▸qo _ ge)
def sZ(h:nm=s)(e:lH s=fR v)(a:lH nm=fR f):f=v:=gz (a.symm.trans (h▸e))
def ZQ(c:A.handled=fU)(a:lH nm=fR f)(r:gp z y s.heap)(b:iC z t x):gF l own X A (ju f x) VR z s (FI nm t y):=by
 revert z y s c a r b;revert nm f t x l own X A;refine @(lx E1 ?_);generalize gw.1.1.1=nm,gw.1.1.2=f,gw.1.2.1=t,gw.1.2.2=x,gw.2.1.1=l,gw.2.1.2=own,gw.2.2.1=X,gw.2.2.2=A;intro z y s c a r b;unfold FI;split;rename_i h;rw[sZ h (by decide+kernel:lH "len"=some (.builtin "len")) a];exact g6 r b
 split;rename_i h;rw[sZ h (by decide+kernel:lH "sum"=some (.builtin "sum")) a];exact l8 c r b
 split;rename_i h;rw[sZ h (by decide+kernel:lH "sorted"=some (.builtin "sorted")) a];exact k8 c r b
 split;rename_i h;rw[sZ h (by decide+kernel:lH "bytes"=some (.type "bytes")) a];exact ZT c r b
 split;rename_i h;rw[sZ h (by decide+kernel:lH "str"=some (.type "str")) a];exact l7 r b
 split;rename_i h;rw[sZ h (by decide+kernel:lH "int"=some (.type "int")) a];exact c9 r b
 split;rename_i h;rw[sZ h (by decide+kernel:lH "max"=some (.builtin "max")) a];exact g8 c r b
 split;rename_i h;rw[sZ h (by decide+kernel:lH "any"=some (.builtin "any")) a];exact ZL c r b
 split;rename_i h;rw[sZ h (by decide+kernel:lH "all"=some (.builtin "all")) a];exact ZK c r b
 trivial
noncomputable def HR(nm:f_):Option String:=if nm="append" then fR "list.append" else if nm="extend" then fR "list.extend" else if nm="get" then fR "dict.get" else if nm="pop" then fR "dict.pop" else if nm="clear" then fR "dict.clear" else if nm="join" then fR "bytes.join" else fU
def m4{Y7:String}(a:HR nm=fR Y7)(d:∀x∈own,iR z x)(r:gp z y s.heap)(b:VR z v x)(c:iC z t L):gF l own X A (ju (.builtin Y7) (x::L)) VR z s (pf nm v t y):=by
 revert z y s a d r b c;revert nm own v x t L l X A Y7;refine @(qj E1 ?_);generalize gN.1.1.1.1=nm,gN.1.1.1.2=own,gN.1.1.2=v,gN.1.2.1=x,gN.1.2.2=t,gN.2.1.1.1=L,gN.2.1.1.2=l,gN.2.1.2=X,gN.2.2.1=A,gN.2.2.2=Y7;intro z y s a d r b c;unfold pf;unfold HR at a;split;rename_i h;rw[if_pos h]at a;obtain rfl:=gz a;exact ZM d r b c
 .rename_i h;rw[if_neg h]at a;split;rename_i h;rw[if_pos h]at a;obtain rfl:=gz a;exact ZZ d r b c
  .rename_i h;rw[if_neg h]at a;split;rename_i h;rw[if_pos h]at a;obtain rfl:=gz a;exact c7 r b c
   .rename_i h;rw[if_neg h]at a;split;rename_i h;rw[if_pos h]at a;obtain rfl:=gz a;exact j6 d r b c
    .rename_i h;rw[if_neg h]at a;split;rename_i h;rw[if_pos h]at a;obtain rfl:=gz a;exact ZU d r b c;rename_i h;rw[if_neg h]at a;refine jf λh=>?_;rw[if_pos h]at a;obtain rfl:=gz a;exact g5 r b c
def Nl{Q E}(G:jM)(a:∀b o,iI.get? b=fR o->s.heap.get? b=fR o)(d:env.globals=jK)(f:env.builtins=tT)(e:lT K jK x=fR fU)(g:JP x=fR c)(i:x≠"__name__")(h:Q c s):gg (gk gh w) A (loadGlobal env x) Q E s:=loadGlobal_builtin (by refine lE d<|G.g.keeps a) (mg_none_of G.bA G.g e) (by refine lE f<|G.b.keeps a) ((G.bi x i).trans g) h
def GN{Q E}(G:jM)(a:∀b o,iI.get? b=fR o->s.heap.get? b=fR o)(d:env.globals=jK)(e:lT K jK x=fR (fR c))(h:Q c s):gg (gk gh w) A (loadGlobal env x) Q E s:=loadGlobal_global (by refine lE d<|G.g.keeps a) (mg_of G.bA G.g e) h
def C_{s:gK}(L:LR z k U env s.heap)(a:k.lookup x=fR .globalImplicit):env.kindOf x=fR .globalImplicit:=by
 rcases L.aH x _ a with h|⟨h,_⟩
 .exact h
 .injection h
def LQ(q:k_ T)(G:jM)(L:LR z k U env s.heap)(r:gp z y s.heap):gF l own X A (iu (.Name x Z8) env) VR z s (pP T k U x y):=by
 unfold pP;generalize d:k.lookup x=a;induction a with|none=>trivial|some t=>
  have o:=ye L.b_ d;induction t with
  |globalImplicit=>generalize e:T.az x=a;induction a with|none=>trivial|some g=>induction g with|d v=>obtain⟨f,c,i,j⟩:=q.val _ _ e;exact .val r λQ E b=>ED L.kind (C_ L d) (GN G r.base L.az i (b _ _ (j z))) f|_=>trivial
  |«local»=>
   generalize e:U.lookup x=a;induction a with|none=>trivial|some v=>
    refine gy L.ns λm f i=>gy (i x v d e) λc j u=>?_;have n:env.kindOf x=fR .local:=by
     rcases L.aH x _ d with h|⟨h,_⟩
     .exact h
     .injection h
    exact .val r λQ E b=>sR (BU L.kind n f j (b _ _ u)) o.1
  |cell=>
   generalize e:U.lookup x=a;induction a with|none=>trivial|some v=>
    refine kJ (L.cell x (.inl d)) λc w f i j=>gy (j v e) λB C p=>?_;obtain rfl:=C;have n:env.kindOf x=fR .cell:=by
     rcases L.aH x _ d with h|⟨h,_⟩
     .exact h
     .injection h
    exact .val r λQ E b=>sR (SZ L.kind n f i (b _ _ p)) o.1
  |free=>
   generalize e:U.lookup x=a;induction a with|none=>trivial|some v=>
    refine kJ (L.cell x (.inr d)) λc w f i j=>gy (j v e) λB D p=>?_;obtain rfl:=D;rcases L.aH x _ d with n|⟨_,n⟩
    .exact .val r λQ E b=>sR (agi L.kind n f i (b _ _ p) o.2) o.1
    .exact .val r λQ E b=>sR (SZ L.kind n f i (b _ _ p)) o.1
  |_=>trivial
def gF.dA{f:L->iM N}{mm:M W}(I:rc l own X)(S:hV->Prop)(D:∀d j i,gp d j i->S i)(C:∀Q E,gg (gk gh w) A m (λa F=>S F.heap/\gg (gk gh w) A (f a) Q E F) E s->gg (gk gh w) A t Q E s)(n:gF l own X A m P z s (mm y))(J:∀a j d i o b,mm y=.b a j->gS (iF l) own z s.heap d i->gp d j i->P d a b->gF l own X A (f b) h d (sU s i o) (g a j)):gF l own X A t h z s (fS mm g y):=by unfold fS;generalize e:mm y=q;induction q with|a=>trivial|c K j=>rw[e]at n;exact λQ E k=>C Q E (n _ E k)|b a j=>rw[e]at n;dsimp only;have G:=J a j;generalize H:g a j=q;induction q with|a=>trivial|c K O=>refine λQ E k=>C Q E (n _ E λd i o b x r p=>⟨D _ _ _ r,?_⟩);have:=G d i o b e x r p;rw[H]at this;exact this Q E λe u v B=>k e u v (I _ _ _ _ _ _ _ _ x B)|b c O=>refine λQ E k=>C Q E (n _ E λd i o b x r p=>⟨D _ _ _ r,?_⟩);have:=G d i o b e x r p;rw[H]at this;exact this Q E λR u v T B V Y=>k R u v T (x.trans B) V Y
def zg(f:gv):Prop:=sf K f=fW\/(∃Y7,f=.builtin Y7)\/∃n,f=.type n
def FK{Q E}(a:zg f)(b:y.any (·.1)=fY)(h:gg (gk gh w) A (tX ((fY,t)::y)) (λd c=>K.In c.heap/\gg (gk gh w) A (ju f (z++d)) Q E c) E s):gg (gk gh w) A (JQ Z8 f z ((fY,t)::y) []) Q E s:=by
 rcases a with a|⟨Y7,rfl⟩|⟨n,rfl⟩
 .exact Sf (lE wt (lE b rfl)) (keeps_K a) (EE h)
 .exact RA (lE wt (lE b rfl)) (EE (jL h (λZ Z x=>x.2) λZ Z e=>e))
 .exact Sm (lE wt (lE b rfl)) (EE (jL h (λZ Z x=>x.2) λZ Z e=>e))
def Yp{Q E}(a:zg f)(b:K.In s.heap)(h:gg (gk gh w) A (ju f (t++[])) Q E s):gg (gk gh w) A (JQ Z8 f t [] []) Q E s:=by
 rcases a with a|⟨Y7,rfl⟩|⟨n,rfl⟩
 .exact Sf rfl (keeps_K a) (Jn ⟨b,h⟩)
 .exact RA rfl (Jn h)
 .exact Sm rfl (Jn h)
def AM(h:jN (e::r)=fW):mG (e::r) env=(fY,iu e env)::mG r env/\jN r=fW:=by induction e using jQ<;>first|exact⟨rfl,h⟩|injection h
def Cj:∀{a:List gq},jN a=fW->(qX Z8 (mG a env)).any (·.1)=fY:=by intro b;induction b with|nil=>exact λZ=>rfl|cons e r c=>refine λh=>gP (AM h) λd f=>lE d<|(?_:(fY||(qX Z8 (mG r env)).any (·.1))=fY);exact lE (c f) rfl
def Cy{b:M (List V)}(o:rc l own X)(G:jM)(j:zg f)(p:jN t=fW)(r:gp z y s.heap)(k:t=[]->b=fX [])(q:gF l own X A (tX (qX Z8 (mG t env))) iC z s (b y))(m:∀i c a d u n,b y=.b i c->gS (iF l) own z s.heap a d->gp a c d->iC a i n->gF l own X A (ju f (L++n)) VR a (sU s d u) (g i c)):gF l own X A (JQ Z8 f L (qX Z8 (mG t env)) []) VR z s (fS b g y):=by induction t with|nil=>refine lE (k rfl) ?_;have:=m [] y z s.heap s.toks [] (lE (k rfl) rfl) (gS.dN _ _ _ _) r .dO;exact this.of_wp λQ E x=>Yp j (G.bA.keeps r.base) x|cons e B=>refine gP (AM (env:=env) p) λv w=>.dA o (λh=>K.In h) (λa c d r=>G.bA.keeps r.base) (λQ E x=>?_) q m;rw[v]at x|-;exact FK j (Cj w) x
def PM(x:gv)(nm:f_):Va->Mt->gv×List gv->Prop:=λZ m p=>p.2=[x]/\zg p.1/\match m with|.b a=>p.1=.ref a|.a=>∃Y7,HR nm=fR Y7/\p.1=.builtin Y7
def g9(w:k_ T)(G:jM)(r:gp z y s.heap)(B:VR z v x):gF l own X A (getMethod x nm h) (PM x nm) z s (lJ T v nm y):=by
 revert T v x h w G r B;revert z y l own X A nm s;refine @(lx E1 ?_);generalize gw.1.1.1=z,gw.1.1.2=y,gw.1.2.1=l,gw.1.2.2=own,gw.2.1.1=X,gw.2.1.2=A,gw.2.2.1=nm,gw.2.2.2=s;intro T v x h w G r B;induction B with
 |@dO i a p=>
  dsimp only[lJ];refine qF λo u=>?_;induction o with
  |g C fs=>refine jf λg=>?_;generalize I:T.bJ C nm=J;induction J with|none=>trivial|some f=>refine hZ λS F=>jZ (w.bJ _ _ _ I) λH K L M=>tI (r.inst p u) λd m N V O W P R=>?_;refine F ?_;clear F;refine .val r λQ E k=>method_fn (G.bA.keeps r.base) O H.dp H.dH K L ?_ (k _ s.toks (iy rfl (.inl M) rfl));refine(?_:Bv (λx=>x.isSome) (EZ nm N)=fR fY);rw[R];refine lE ((P nm).2 (by simpa using g)) ?_;rfl
  |a xs=>
   refine jf λg=>r.lK p u λY D q=>gI (id D) λn e=>?_;rcases g with rfl|rfl
   .exact .val r λQ E k=>uY D.isList.typeIs afl PySem.F.slot_list_append PySem.F.type_list_append (λb c=>by cases c;exact gx _ e rfl) (k _ s.toks ⟨rfl,.inr (.inl ⟨_,rfl⟩),_,rfl,rfl⟩)
   .exact .val r λQ E k=>uY D.isList.typeIs afl afo PySem.F.type_list_extend (λb c=>by cases c;exact gx _ e rfl) (k _ s.toks ⟨rfl,.inr (.inl ⟨_,rfl⟩),_,rfl,rfl⟩)
  |d=>
   refine jf λg=>r.nK p u λn e=>?_;rcases g with rfl|rfl|rfl
   .exact .val r λQ E k=>uY (gx _ e rfl) Bx Js afs (λb c=>by cases c;exact gx _ e rfl) (k _ s.toks ⟨rfl,.inr (.inl ⟨_,rfl⟩),_,rfl,rfl⟩)
   .exact .val r λQ E k=>uY (gx _ e rfl) Bx By aft (λb c=>by cases c;exact gx _ e rfl) (k _ s.toks ⟨rfl,.inr (.inl ⟨_,rfl⟩),_,rfl,rfl⟩)
   .exact .val r λQ E k=>uY (gx _ e rfl) Bx Jr afr (λb c=>by cases c;exact gx _ e rfl) (k _ s.toks ⟨rfl,.inr (.inl ⟨_,rfl⟩),_,rfl,rfl⟩)
  |b a0=>
   refine jf λg=>r.dK p u λZ5 j q=>?_;rcases g with rfl|rfl|rfl
   .exact .val r λQ E k=>uY j.typeIs Bx Js afs j.mapOf.noDict (k _ s.toks ⟨rfl,.inr (.inl ⟨_,rfl⟩),_,rfl,rfl⟩)
   .exact .val r λQ E k=>uY j.typeIs Bx By aft j.mapOf.noDict (k _ s.toks ⟨rfl,.inr (.inl ⟨_,rfl⟩),_,rfl,rfl⟩)
   .exact .val r λQ E k=>uY j.typeIs Bx Jr afr j.mapOf.noDict (k _ s.toks ⟨rfl,.inr (.inl ⟨_,rfl⟩),_,rfl,rfl⟩)
  |_=>trivial
 |dQ b t=>dsimp only[lJ];refine jf λg=>?_;subst g;exact .val r λQ E k=>uY (za _ _ _) FB.plainAttrs_bytes ON ac4 (λb c=>by injection c) (k _ s.toks ⟨rfl,.inr (.inl ⟨_,rfl⟩),_,rfl,rfl⟩)
 |_=>trivial
structure iD(d:Nat)(l:List ji)(k:ii)(U:gA)(env:ji)(A:lj)(z:Va)(h:hV):Prop where
 cx:Cx A l d
 L:LR z k U env h
 fr:lU z l h
def iD.ext{d:Nat}(x:iD d l k U env A z h)(e:gS (iF l) [] z h t y):iD d l k U env A t y:=⟨x.cx,x.L.ext e kK (λZ Z Z Z=>kK),x.fr.ext e⟩
section
variable(T:ie)(d:Nat)
def SV(n:Nat):Prop:=∀A l k U env e z y (s:gK),iD d l k U env A z s.heap->gp z y s.heap->gF l [] (gL l []) A (iu e env) VR z s (iA T n k U e y)
def SB(n:Nat):Prop:=∀A l k U env e z y (s:gK),iD d l k U env A z s.heap->gp z y s.heap->gF l [] (gL l []) A (tV e env (iu e env)) (λZ b a=>a=b) z s (qf T n k U e y)
def SA(n:Nat):Prop:=∀A l k U env a c z y (s:gK),iD d l k U env A z s.heap->gp z y s.heap->gF l [] (gL l []) A (allTrue a c env) (λZ b e=>e=b) z s (Mg T n k U a c y)
def SL(n:Nat):Prop:=∀A l k U env a Z8 z y (s:gK),iD d l k U env A z s.heap->gp z y s.heap->gF l [] (gL l []) A (tX (qX Z8 (mG a env))) iC z s (kO T n k U a y)
end
def gF.cV(h:gF l own X A t P z s r):gF l own X A (tW y t) P z s r:=h.of_wp λZ Z x=>agl x
def gF.cI(h:gF l own X A t P z s r):gF l own X A (tW y t) P z s r:=h.of_wp λZ Z x=>agl x
def gF.dh(a:∀Q E,(Q () s)->gg (gk gh w) A u Q E s)(h:gF l own X A (t ()) P z s r):gF l own X A (u>>=t) P z s r:=h.of_wp λZ Z x=>gf (a _ _ x)
def gF.cZ{u:L->iM Unit}(c:∀b (s:gK) Q E,(Q () s)->gg (gk gh w) A (u b) Q E s)(h:gF l own X A t P z s r):gF l own X A (t>>=λb=>u b>>=λZ=>af0 b) P z s r:=by induction r with|a=>trivial|c C y=>exact λQ E x=>gf (h _ E x)|b a y=>exact λQ E x=>gf (h _ E λd e f b g r p=>gf (c b _ _ _ (gU (x d e f b g r p))))
def ab8{a b}(r:gp z y s.heap):gF l [] (gL l []) A (iu (.Constant c a b) env) VR z s (sq c y):=ZV r
def ab5{T:ie}{d n:Nat}(c:SV T d n)(S:iD d l k U env A z s.heap)(r:gp z y s.heap):gF l [] (gL l []) A (iu (.BinOp h t L Z8) env) VR z s (fS (iA T n k U h) (λa=>fS (iA T n k U L) λb=>hM t a b) y):=by rw[arm_eval_BinOp];refine .bind gL.pre (c _ _ _ _ _ _ _ _ _ S r) λa j m o q b Z x e p=>.bind gL.pre (.aZ (c _ _ _ _ _ _ _ _ _ (S.ext x) e)) λu v w B C D Z f g i=>.aW (.cV (ZS g (p.mono f.sub) i))
def abg{a b c}(r:gp z y s.heap):gF l [] (gL l []) A (iu (.UnaryOp .USub (.Constant (.int i) a b) c) env) VR z s (.b (.a (-i)) y):=by rw[afW];refine .val r λQ E d=>gf (SO (gf (lk (jp ?_))));exact neg_int (d _ _ (.dN _ _))
def abc{T:ie}{d n:Nat}(e:SV T d n)(g:SB T d n)(S:iD d l k U env A z s.heap)(r:gp z y s.heap):gF l [] (gL l []) A (iu (.IfExp h t L Z8) env) VR z s (fS (qf T n k U h) (λc=>if c then iA T n k U t else iA T n k U L) y):=by rw[arm_eval_IfExp];refine .bind gL.pre (g _ _ _ _ _ _ _ _ _ S r) λa i j m o b Z x f p=>?_;subst p;induction b with|true=>exact e _ _ _ _ _ _ _ _ _ (S.ext x) f|false=>exact e _ _ _ _ _ _ _ _ _ (S.ext x) f
def Pz(r:gp z y s.heap)(a:VR z v c):gF l own X A (xp c) (λZ b d=>d=b) z s (lO v y):=by induction a with|dS b=>exact .val r λQ E e=>Te (e _ s.toks rfl)|_=>trivial
def ab6{T:ie}{d n:Nat}{A:lj}{l:List ji}{k:ii}{U:gA}{env:ji}{z:Va}{y:H}{s:gK}{g c:gq}{e:uR}{Z8:oS}(h:SV T d n)(S:iD d l k U env A z s.heap)(r:gp z y s.heap):gF l [] (gL l []) A (iu (.BoolOp e [g,c] Z8) env) VR z s (fS (iA T n k U g) (λv=>fS (lO v) λb=>match e,b with
  |.And,fY=>fX v
  |.Or,fW=>fX v
  |_,_=>iA T n k U c) y):=by
 rw[arm_eval_BoolOp];refine dE rfl<|.bind gL.pre (h _ _ _ _ _ _ _ _ _ S r) λa D E F G b Z x o p=>.aW (.bind gL.pre (.aZ (Pz o p)) λI q t u w B Z i f C=>?_);subst C;have j:=p.mono i.sub;have m:=h A l k U env c t q (sU s u w) ((S.ext x).ext i) f;induction e<;>cases B;exact .dN f j;exact m;exact m;exact .dN f j
def ab7{T:ie}{d n:Nat}(i:JN L h=fY)(c:SV T d n)(S:iD d l k U env A z s.heap)(r:gp z y s.heap):gF l [] (gL l []) A (iu (.Compare N [L] [h] Z8) env) VR z s (fS (iA T n k U N) (λa=>fS (iA T n k U h) λb=>fS (gR L a b) λt=>fX (.e t)) y):=by
 rw[arm_eval_Compare];have e:Sx [L] [h] (Sq [h] env)=[iu h env]:=by refine(?_:[Sv L h (iu h env)]=_);exact lE (Sw i) rfl
 refine lE e<|.bind gL.pre (c _ _ _ _ _ _ _ _ _ S r) λa v f w B b Z x j p=>(?_:gF l [] (gL l []) A (do
  let g<-pC [b] (iu h env)
  xm Z8
  tW [b,g] (qv L b g)) VR f _ _)
 refine .bind gL.pre (.aZ (c _ _ _ _ _ _ _ _ _ (S.ext x) j)) λC D E F G H Z m o u=>.aW (.cV (.aD (Cz o (p.mono m.sub) u (by have:=S.cx.units;refine(?_:A.units+64<9900);exact iX this)) λf a b q=>?_));exact lE q<|.dS _
def ϴ(c:SB T d n)(S:iD d l k U env A z s.heap)(r:gp z y s.heap):gF l [] (gL l []) A (tV (.UnaryOp .Not e Z8) env h) (λZ b f=>f=b) z s (fS (qf T n k U e) (λb=>fX (!b)) y):=by rw[arm_isTrue_UnaryOp];refine .bind gL.pre (c _ _ _ _ _ _ _ _ _ S r) λa i j m o b Z x g p=>?_;subst p;exact .dN g rfl
def HO(r:gp z y s.heap)(a:c=.bool b):gF l own X A (xp c) (λZ b d=>d=b) z s (.b b y):=by subst a;exact .val r λQ E e=>Te (e _ s.toks rfl)
def KT(m:M h)(y:H):fS m (λa=>fX a) y=m y:=by unfold fS;cases m y<;>rfl
def Cx.cO(x:Cx A l d):A.units+64<cLine:=by have:=x.units;refine(?_:A.units+64<9900);exact iX this
def ϲ(i:JN t h=fY)(f:SV T d n)(S:iD d l k U env A z s.heap)(r:gp z y s.heap):gF l [] (gL l []) A (tV (.Compare L [t] [h] Z8) env N) (λZ b j=>j=b) z s (fS (iA T n k U L) (λa=>fS (iA T n k U h) λb=>gR t a b) y):=by
 rw[afY];have e:Sx [t] [h] (Sq [h] env)=[iu h env]:=by refine(?_:[Sv t h (iu h env)]=_);exact lE (Sw i) rfl
 refine lE e<|.bind gL.pre (f _ _ _ _ _ _ _ _ _ S r) λa E m F G b Z x o p=>(?_:gF l [] (gL l []) A (do
  let g<-pC [b] (iu h env)
  xm Z8
  let c<-tW [b,g] (qv t b g)
  pC [c] (xp c)) _ m _ _)
 refine .bind gL.pre (.aZ (f _ _ _ _ _ _ _ _ _ (S.ext x) o)) λq u H I J K Z v w B=>rE (KT (gR t a q) u)<|.aW (.bind gL.pre (.cI (Cz w (p.mono v.sub) B S.cx.cO)) λM O P Q R V Z W C D=>?_);exact .aZ (HO C D)
def ϳ(C:JN N L=fY)(i:SV T d n)(S:iD d l k U env A z s.heap)(r:gp z y s.heap):gF l [] (gL l []) A (tV (.Compare e1 [W,N] [P,L] Z8) env a0) (λZ b j=>j=b) z s (fS (iA T n k U e1) (λa=>fS (iA T n k U P) λb=>fS (gR W a b) λt=>if t then fS (iA T n k U L) λc=>gR N b c else fX fY) y):=by
 rw[afY];have e:Sx [W,N] [P,L] (Sq [P,L] env)=[iu P env,iu L env]:=by refine(?_:[iu P env,Sv N L (iu L env)]=_);exact lE (Sw C) rfl
 refine lE e<|.bind gL.pre (i _ _ _ _ _ _ _ _ _ S r) λa a8 D a9 b0 b Z x F p=>(?_:gF l [] (gL l []) A (do
  let f<-pC [b] (iu P env)
  xm Z8
  let c<-pC [b,f] (qv W b f)
  release [b,f] [c]
  if<-pC [c,f] (xp c)then testChain Z8 f [N] [iu L env]else pure fY) _ D _ _)
 refine .bind gL.pre (.aZ (i _ _ _ _ _ _ _ _ _ (S.ext x) F)) λm b1 b2 b3 b4 g Z o G q=>.aW (.bind gL.pre (.aZ (Cz G (p.mono o.sub) q S.cx.cO)) λH I J K M u Z v O R=>?_);refine .dh (λQ E h=>Fp h) ?_;have:gF l [] (gL l []) A (do if<-pC [u,g] (xp u)then testChain Z8 g [N] [iu L env]else pure fY) (λZ b j=>j=b) J (sU s K M) (fS (fX H) (λt=>if t then fS (iA T n k U L) λc=>gR N m c else fX fY) I):=by
  refine .bind gL.pre (.aZ (HO O R)) λb5 b6 V b7 b8 X Z w B Y=>?_;subst Y;induction X with|false=>exact .dN B rfl|true=>
   refine(?_:gF l [] (gL l []) A (do
    let f<-pC [g] (iu L env)
    xm Z8
    let c<-tW [g,f] (qv N g f)
    pC [c] (xp c)) _ V _ _)
   refine .bind gL.pre (.aZ (i _ _ _ _ _ _ _ _ _ ((((S.ext x).ext o).ext v).ext w) B)) λa1 a2 b9 c0 c1 c2 Z a3 a4 a5=>rE (KT (gR N m a1) a2)<|.aW (.bind gL.pre (.cI (Cz a4 (((q.mono v.sub).mono w.sub).mono a3.sub) a5 S.cx.cO)) λc3 c4 c5 c6 c7 c8 Z c9 a6 a7=>?_);exact .aZ (HO a6 a7)
 exact this
def ϱ(c:tV e env t=(do let v<-t;xm e.pos;pC [v] (xp v)))(r:gp z y s.heap)(h:gF l [] (gL l []) A t VR z s (m y)):gF l [] (gL l []) A (tV e env t) (λZ b d=>d=b) z s (fS m lO y):=lE c<|.bind gL.pre h λa g i j k b Z x f p=>.aW (.aZ (Pz f p))
def Ϯ(r:gp z y s.heap):gF l [] (gL l []) A (allTrue h [] env) (λZ b a=>a=b) z s (.b (h==.And) y):=by rw[arm_allTrue_nil];exact .dN r rfl
def ϭ{T:ie}{d n:Nat}{A:lj}{l:List ji}{k:ii}{U:gA}{env:ji}{z:Va}{y:H}{s:gK}{c:uR}{e:gq}{Z4:List gq}(h:SB T d n)(i:SA T d n)(S:iD d l k U env A z s.heap)(r:gp z y s.heap):gF l [] (gL l []) A (allTrue c (e::Z4) env) (λZ b j=>j=b) z s (fS (qf T n k U e) (λb=>match c,b with
  |.And,fY=>fX fY
  |.Or,fW=>fX fW
  |_,_=>Mg T n k U c Z4) y):=by
 rw[arm_allTrue_cons];refine .bind gL.pre (h _ _ _ _ _ _ _ _ _ S r) λa m o q t b Z x f p=>?_;subst p;have g:=i A l k U env c Z4 o m (sU s q t) (S.ext x) f;induction c<;>cases b;exact .dN f rfl;exact g;exact g;exact .dN f rfl
def aaK:tX ((fY,x)::Z4)=(do let v<-x;let r<-pC [v] (tX Z4);pure (v::r)):=rfl
def aar(r:gp z y s.heap):gF l [] (gL l []) A (tX (qX Z8 (mG [] env))) iC z s (.b [] y):=.dN r .dO
def aaq(c:mG (e::Z4) env=(fY,iu e env)::mG Z4 env)(f:SV T d n)(g:SL T d n)(S:iD d l k U env A z s.heap)(r:gp z y s.heap):gF l [] (gL l []) A (tX (qX Z8 (mG (e::Z4) env))) iC z s (fS (iA T n k U e) (λv=>fS (kO T n k U Z4) λh=>fX (v::h)) y):=by refine lE c<|(?_:gF l [] (gL l []) A (tX ((fY,iu e env)::qX Z8 (mG Z4 env))) iC z s _);refine lE aaK<|.bind gL.pre (f _ _ _ _ _ _ _ _ _ S r) λa q t u w b Z x i p=>.bind gL.pre (.aZ (g _ _ _ _ _ _ _ _ _ _ (S.ext x) i)) λB C D E F G Z j m o=>.dN m (.dN (p.mono j.sub) o)
def abd(g:SL T d n)(S:iD d l k U env A z s.heap)(r:gp z y s.heap):gF l [] (gL l []) A (iu (.List h Z8) env) VR z s (fS (kO T n k U h) (λc=>if c.length<=hJ then gM (.a c)else gc) y):=by rw[arm_eval_List];refine .aW (.bind gL.pre (g _ _ _ _ _ _ _ _ _ _ S r) λa o q i t b Z x f p=>?_);exact jf λj=>.bu f rfl (λi e=>vF (lc ..) e (p.mono (nV (f.fresh fY)))) (λZ Z Z e=>.dO e) λQ E m=>Fm (m _)<|rE p.length<|gu j oE
def abl{g}(i:SL T d n)(S:iD d l k U env A z s.heap)(r:gp z y s.heap):gF l [] (gL l []) A (iu (.Tuple h g Z8) env) VR z s (fS (kO T n k U h) (λc=>if c.length<=hJ then gM (.c c)else gc) y):=by rw[afV];refine .aW (.bind gL.pre (i _ _ _ _ _ _ _ _ _ _ S r) λa q t j u b Z x f p=>?_);exact jf λm=>.bu f rfl (λj e=>ti _ b 0 (lc ..) e (p.mono (nV (f.fresh fY)))) (λZ Z Z e=>.dO e) λQ E o=>Ta (o _)<|rE p.length<|gu m oE
def aba(r:gp z y s.heap):gF l [] (gL l []) A (iu (.Dict [] [] Z8) env) VR z s (gM .d y):=by refine .bu r rfl (λb e=>nF _ 0 (lc ..) e) (λZ Z Z e=>.dO e) λQ E a=>?_;rw[eval_Dict_empty];refine gf (lk ?_);exact Fo (a _)
def KL(h:sp o=fY):attributeBase o nm env t=t:=by
 induction o using jQ with
 |Call f a Z9 p=>
  induction f using jQ with
  |Name x q=>induction a with|cons _ _=>rfl|nil=>induction Z9 with|cons _ _=>rfl|nil=>exact tF h
  |_=>rfl
 |_=>rfl
def ab3(c:sp o=fY)(e:k_ T)(G:jM)(f:SV T d n)(S:iD d l k U env A z s.heap)(r:gp z y s.heap):gF l [] (gL l []) A (iu (.Attribute o nm Z8) env) VR z s (fS (iA T n k U o) (λv=>jx T v nm) y):=by rw[arm_eval_Attribute];refine lE (KL c)<|.bind gL.pre (f _ _ _ _ _ _ _ _ _ S r) λa i j m q b Z x g p=>.aW<|.cZ (λb s Q E h=>wpAny_letTemporaryGo h) (.aZ (c8 e G.bA g p))
def abk(e:GB i=fY)(c:SV T d n)(S:iD d l k U env A z s.heap)(r:gp z y s.heap):gF l [] (gL l []) A (iu (.Subscript o i Z8) env) VR z s (fS (iA T n k U o) (λv=>fS (iA T n k U i) λj=>iG v j) y):=by rw[BI];refine .bind gL.pre (c _ _ _ _ _ _ _ _ _ S r) λa q t u w b Z x f p=>.bind gL.pre (.aZ (c _ _ _ _ _ _ _ _ _ (S.ext x) f)) λB C D E F G Z g h m=>.aW (g4 e h (p.mono g.sub) m)
def Pm{T:ie}{d n:Nat}{A:lj}{l:List ji}{k:ii}{U:gA}{env:ji}{z:Va}{y:H}{s:gK}{e:Option gq}(a:SV T d n)(S:iD d l k U env A z s.heap)(r:gp z y s.heap):gF l [] (gL l []) A (SN (evalOpt e env)) VR z s ((match e with|none=>fX .c|some e=>iA T n k U e:M V) y):=by induction e with|none=>exact .dN r .dR|some e=>exact a _ _ _ _ _ _ _ _ _ S r
abbrev ve(a:Type):Type:=(a->gK->Prop)->(gv->gK->Prop)->gK->Prop
def KH(l:List ji)(own:List gG)(P:Va->hV->h->t->Prop)(z:Va)(s:gK)(a:h)(e:H)(Q:t->gK->Prop):Prop:=∀d c f b,gS (iF l) own z s.heap d c->gp d e c->P d c a b->Q b (sU s c f)
def gJ(l:List ji)(own:List gG)(X:XT)(τ:ve h)(P:Va->hV->t->h->Prop)(z:Va)(s:gK):R t->Prop|.b a b=>∀Q E,KH l own P z s a b Q->τ Q E s|.c C b=>∀Q E,KX X z s C b E->τ Q E s|.a=>True
def gJ.of(h:gF l own X A t P z s r):gJ l own X (gg (gk gh w) A t) (λz Z a b=>P z a b) z s r:=by induction r<;>exact h
def gJ.bE(h:gJ l own X (gg (gk gh w) A t) (λz Z a b=>P z a b) z s r):gF l own X A t P z s r:=by induction r<;>exact h
def gJ.aD(h:gJ l own X τ P z s r)(k:∀Q E,τ Q E s->t Q E s):gJ l own X t P z s r:=by induction r with|a=>trivial|c C y=>exact λQ E x=>k Q E (h Q E x)|b a y=>exact λQ E x=>k Q E (h Q E x)
def gJ.cH{X9:L->ve N}{g:W->M γ}(D:rc l own X)(_mono:∀Q Q' E w,(∀b s,Q b s->Q' b s)->(∀e s,E e s->w e s)->h Q E s->h Q' w s)(j:gJ l own X h P z s (m y))(F:∀a i d f n b,m y=.b a i->gS (iF l) own z s.heap d f->gp d i f->P d f a b->gJ l own X (X9 b) t d (sU s f n) (g a i)):gJ l own X (λQ E s=>h (λb G=>X9 b Q E G) E s) t z s (fS m g y):=by unfold fS;generalize e:m y=o;induction o with|a=>trivial|c C i=>rw[e]at j;exact λQ E k=>j _ E k|b a i=>rw[e]at j;dsimp only;have A:=F a i;generalize B:g a i=o;induction o with|a=>trivial|c C H=>refine λQ E k=>j _ E λd f n b x r p=>?_;have:=A d f n b e x r p;rw[B]at this;exact this Q E λe q u v=>k e q u (D _ _ _ _ _ _ _ _ x v)|b c H=>refine λQ E k=>j _ E λd f n b x r p=>?_;have:=A d f n b e x r p;rw[B]at this;exact this Q E λI q u J v K O=>k I q u J (x.trans v) K O
def gJ.bind{X9:L->ve N}{g:W->M γ}(f:rc l own X)(i:gJ l own X (gg (gk gh w) A t) P z s (m y))(j:∀a e c d k b,m y=.b a e->gS (iF l) own z s.heap c d->gp c e d->P c d a b->gJ l own X (X9 b) x c (sU s d k) (g a e)):gJ l own X (λQ E s=>gg (gk gh w) A t (λb n=>X9 b Q E n) E s) x z s (fS m g y):=gJ.cH f (λZ Z Z Z o p h=>jL h o p) i j
def gJ.quiet{X9:hV->oq->ve t}(n:rc l own X)(J:hV->Prop)(C:∀Q E,(∀c d,(∀b o,s.heap.get? b=fR o->c.get? b=fR o)->s.heap.objs.size<=c.objs.size->J c->X9 c d Q E (sU s c d))->τ Q E s)(h:∀c d,(∀b o,s.heap.get? b=fR o->c.get? b=fR o)->s.heap.objs.size<=c.objs.size->J c->gJ l own X (X9 c d) P z (sU s c d) r):gJ l own X τ P z s r:=by induction r with|a=>trivial|c u y=>exact λQ E x=>C Q E λc d k f j=>h c d k f j Q E λe g i m=>x e g i (n _ _ _ _ _ _ _ _ (gS.al k f) m)|b a y=>exact λQ E x=>C Q E λc d k f j=>h c d k f j Q E λq g i b m r p=>x q g i b ((gS.al k f).trans m) r p
def Pj{a b:Option gq}(o i:gv):∃c,Fh (.Slice a b fU p) fY o i=tW c (Fb o i):=⟨_,rfl⟩
def ab1{a b:Option gq}{c:gq}(o i:gv):∃d,Fh (.Slice a b (fR c) p) fY o i=tW d (Fb o i):=⟨_,rfl⟩
def Au(h:∀f d,(∀x o,s.heap.get? x=fR o->d.get? x=fR o)->s.heap.objs.size<=d.objs.size->d.IsSliceOf f a b c->Q (.ref f) {s with heap:=d}):gg (gk gh w) A (Sz "slice" [a,b,c]) Q E s:=Fo (h _ _ (λZ Z e=>iW _ e) (by rw[kt];exact jA _) (agO ..))
def abh{T:ie}{d n:Nat}{A:lj}{l:List ji}{k:ii}{U:gA}{env:ji}{z:Va}{y:H}{s:gK}{o:gq}{q t:Option gq}{F Z8:oS}(G:SV T d n)(S:iD d l k U env A z s.heap)(r:gp z y s.heap):gF l [] (gL l []) A (iu (.Subscript o (.Slice q t fU F) Z8) env) VR z s (fS (iA T n k U o) (λv=>fS (match q with|none=>fX .c|some e=>iA T n k U e) λl=>fS (match t with|none=>fX .c|some e=>iA T n k U e) λh=>lY v l h) y):=by
 rw[BI];refine .bind gL.pre (G _ _ _ _ _ _ _ _ _ S r) λv b8 K B b9 c Z x X p=>?_;have L:=S.ext x;refine gJ.bE (gJ.aD (τ:=λQ E s=>gg (gk gh w) A (SN (evalOpt q env)) (λa Y=>gg (gk gh w) A (SN (evalOpt t env)) (λb a0=>gg (gk gh w) A (Sz "slice" [a,b,.none]) (λi a1=>gg (gk gh w) A (yX o (.Slice q t fU F) c i) Q E a1) E a0) E Y) E s) ?_ λQ E a2=>?_)
 .refine gJ.bind gL.pre (.of (Pm G L X)) λM c0 c1 N c2 a3 Z O a4 a5=>gJ.bind gL.pre (.of (Pm G (L.ext O) a4)) λP R a6 D a7 a8 Z V a9 b0=>?_;have W:∀g f,(∀x o,D.get? x=fR o->f.get? x=fR o)->D.objs.size<=f.objs.size->f.IsSliceOf g a3 a8 .none->gF l [] (gL l []) A (yX o (.Slice q t fU F) c (.ref g)) VR a6 (sU s f a7) (lY v M P R):=λg f j m u=>k7 (Pj _ _) (a9.keep j m) ((p.mono O.sub).mono V.sub) (a5.mono V.sub) b0 u;generalize e:lY v M P R=b1;induction b1 with|a=>trivial|c C b2=>refine λQ E I=>Au λg f j m u=>?_;have:=W g f j m u;rw[e]at this;exact this Q E λb3 B J b4=>I b3 B J (gL.pre _ _ _ _ _ _ _ _ (gS.al j m) b4)|b a b2=>refine λQ E I=>Au λg f j m u=>?_;have:=W g f j m u;rw[e]at this;exact this Q E λK B J b b5 b6 b7=>I K B J b ((gS.al j m).trans b5) b6 b7
 .refine gf (jp ?_);rw[Sj];refine gf (jL a2 (λa c3 N=>?_) λZ Z x=>x);refine gf (jp (jL N (λb c4 D=>?_) λZ Z x=>x));refine gf (jp (gU (jL D (λi c5 f=>?_) λZ Z x=>x)));exact gf (lk f)
def ab4{D F}(P:SV T d n)(S:iD d l k U env A z s.heap)(r:gp z y s.heap):gF l [] (gL l []) A (iu (.Subscript o (.Slice fU fU (fR (.UnaryOp .USub (.Constant (.int 1) D F) h)) L) Z8) env) VR z s (fS (iA T n k U o) sY y):=by
 rw[BI];refine .bind gL.pre (P _ _ _ _ _ _ _ _ _ S r) λv J G u K c Z x R p=>?_;generalize H:(agN fU fU (fR (.UnaryOp .USub (.Constant (.int 1) D F) h)) L)=M;have N:∀Q E (s':gK),(∀t K,Q (.int (-1) t) {s' with toks:=K})->gg (gk gh w) A (iu (.UnaryOp .USub (.Constant (.int 1) D F) h) env) Q E s':=λQ E s' V=>by rw[afW];refine gf (SO (gf (lk (jp ?_))));exact neg_int (V _ _)
 refine gJ.bE (gJ.aD (τ:=λQ E s=>gg (gk gh w) A (iu (.UnaryOp .USub (.Constant (.int 1) D F) h) env) (λa W=>gg (gk gh w) A (Sz "slice" [.none,.none,a]) (λi X=>gg (gk gh w) A (yX o M c i) Q E X) E W) E s) ?_ λQ E Y=>?_)
 .have O:∀t g j f,(∀x o,u.get? x=fR o->f.get? x=fR o)->u.objs.size<=f.objs.size->f.IsSliceOf j .none .none (.int (-1) t)->gF l [] (gL l []) A (yX o M c (.ref j)) VR G (sU s f g) (sY v J):=λt g j f m q B=>ZP (by refine rE H<|ab1 _ _) (R.keep m q) p (.int (-1) t) B;generalize e:sY v J=a0;induction a0 with|a=>trivial|c C a1=>refine λQ E I=>N _ _ _ λt g=>Au λj f m q B=>?_;have:=O t g j f m q B;rw[e]at this;exact this Q E λa2 u g a3=>I a2 u g (gL.pre _ _ _ _ _ _ _ _ (gS.al m q) a3)|b a a1=>refine λQ E I=>N _ _ _ λt g=>Au λj f m q B=>?_;have:=O t g j f m q B;rw[e]at this;exact this Q E λG u g b a4 a5 a6=>I G u g b ((gS.al m q).trans a4) a5 a6
 .refine gf (jp ?_);refine rE H ?_;rw[Sj];refine gf (gU ?_);refine gf (jp (gU ?_));refine gf (jp ?_);refine jL Y (λa a8 a7=>?_) λZ Z x=>x;refine jL a7 (λi a9 f=>?_) λZ Z x=>x;exact gf (lk (H▸f))
set_option backward.match.sparseCases true in
def xM(A:lj)(f:gv)(a:List gv):ve gv:=λQ E s=>lF (gk gh w) A (.call f ⟨a,[]⟩) (λr s'=>match r with|.ok (.ret v)=>Q v s'|.ok _=>False|.error e=>E e s') s
section
variable(T:ie)(d:Nat)
def FS:Prop:=∀A l f c e z y (s:gK),Cx A l d->lU z l s.heap->gp z y s.heap->iC z c e->gJ l [] (gL l []) (xM A (.ref f) e) (λz Z a b=>VR z a b) z s (T.fn f c y)
end
def gp.cb(r:gp z y h)(k:∀b o,h.get? b=fR o->L.get? b=fR o)(n:h.objs.size<=L.objs.size)(l:jI z t)(f:∀i b x,t i b=fR x->z i b=fR x\/(i=y.n/\iI.objs.size<=x/\iR z x/\∃Z1,L.get? x=fR Z1))(s:∀b c x,t y.n b=fR x->t y.n c=fR x->b=c)(u:qy t L y.n o):gp t (iJ y o) L where
 bX:=λi b x e=>by
  rcases f i b x e with q|⟨rfl,_⟩
  .refine gI (r.bX i b x q) λo' d=>?_;have:=jt (r.lim _ _ d);exact⟨o',by simp[iJ,this,d]⟩
  .exact⟨o,by simp[iJ]⟩
 lim:=λi o' e=>by
  unfold iJ at e;dsimp only at e;by_cases q:i=y.n;subst q;exact nR _;rw[if_neg q]at e;exact ru (r.lim _ _ e)
 inj:=λi b j c x e m=>by
  rcases f i b x e with q|⟨rfl,_,v,_⟩<;>rcases f j c x m with d|⟨rfl,_,w,_⟩
  .exact r.inj _ _ _ _ _ q d
  .exact absurd q (w.2 _ _)
  .exact absurd d (v.2 _ _)
  .exact⟨rfl,s _ _ _ e m⟩
 there:=λi b x e=>by
  rcases f i b x e with q|⟨rfl,_,_,q⟩
  .exact gI (r.there _ _ _ q) λZ1 d=>⟨Z1,k _ _ d⟩
  .exact q
 new:=λi b x e=>by
  rcases f i b x e with q|⟨rfl,q,_⟩
  .exact r.new _ _ _ q
  .exact q
 aE:=λi o' e=>by
  unfold iJ at e;dsimp only at e;by_cases q:i=y.n;subst q;rw[if_pos rfl]at e;obtain rfl:=gz e;exact u
  .rw[if_neg q]at e;refine(r.aE i o' e).mono l (λZ Z Z Z q=>k _ _ q) λa A=>?_;rcases f _ _ _ A with g|⟨g,_⟩
   .exact g
   .exact absurd g q
 base:=λb o e=>k _ _ (r.base b o e)
 size:=gu r.size n
 aP:=r.aP
 tab:=λp B=>(r.tab p B).mono l (λj e=>by
  have:=jt (r.lim _ _ e);simp[iJ,this,e]) λZ e=>k _ _ e
noncomputable def rd(z:Va)(n:Nat)(a d:gG):Va:=λi c=>if i=n then fR (if c then d else a)else z i c
def Vc{a d:gG}(h:∀b,z n b=fU):jI z (rd z n a d):=λi c x e=>by
 unfold rd;by_cases q:i=n;subst q;rw[h]at e;injection e;exact lE (if_neg q)<|e
def pd(r:gp z y h)(a:h.objs.size<=x):iR z x:=⟨λm=>by
 have:x<811:=by unfold uB at m;simp only[gX,kK,or_false]at m;rcases m with rfl|rfl<;>decide
 exact absurd (gu (gu r.aP r.size) a) (aeV.mpr this),λi b e=>by
 refine gI (r.there _ _ _ e) λZ1 q=>absurd (iB q) (mf.mpr a)⟩
def Zg{d:Nat}(x:Cx A l (d+1)):Cx (A.under (.builtin "type.__call__" ⟨.ref C::h,[]⟩)) l d:=by
 refine⟨x.dN,?_,?_,?_⟩;have:=x.dO;simp only[Around.under,this];rfl;have a:(A.under (.builtin "type.__call__" ⟨.ref C::h,[]⟩)).depth=A.depth+1:=rfl;have:=x.depth;exact kZ (gC a) this;have a:(A.under (.builtin "type.__call__" ⟨.ref C::h,[]⟩)).units=A.units+1:=rfl;have:=x.units;exact kZ (gC a) this
def g7{T:ie}{d:Nat}(F:FS T d)(a2:K.In iI)(u:makesIn K C=fW)(a3:lS K (.ref C) "__init__"=fR (fR (.ref h)))(a4:BG K (.ref h)=fR (.type "function"))(a5:Cx A l (d+1))(a6:lU z l s.heap)(r:gp z y s.heap)(a7:iC z L N):gF l [] (gL l []) A (ju (.ref C) N) VR z s (nX T (fR (.b C h)) L y):=by
 obtain⟨f,g,O,t,Y8⟩:=s;have X:=a2.keeps r.base;have B:∀b o,f.get? b=fR o->((f.push sQ).push (rz C f.objs.size)).get? b=fR o:=λb o e=>iW _ (iW _ e);have P:f.objs.size<=((f.push sQ).push (rz C f.objs.size)).objs.size:=by rw[kt,kt];exact pA (jA _)
 have S:((f.push sQ).push (rz C f.objs.size)).get? (f.objs.size+1)=fR (rz C f.objs.size):=by heap_get
 have V:((f.push sQ).push (rz C f.objs.size)).get? f.objs.size=fR sQ:=iW _ (lu _ rfl);have j:rd z y.n (f.objs.size+1) f.objs.size y.n fY=fR (f.objs.size+1):=by simp[rd]
 have D:rd z y.n (f.objs.size+1) f.objs.size y.n fW=fR f.objs.size:=by simp[rd]
 have G:jI z (rd z y.n (f.objs.size+1) f.objs.size):=Vc λb=>r.fresh b;have W:∀i b x,rd z y.n (f.objs.size+1) f.objs.size i b=fR x->z i b=fR x\/(i=y.n/\f.objs.size<=x/\∃Z1,((f.push sQ).push (rz C f.objs.size)).get? x=fR Z1):=λi b x e=>by
  unfold rd at e;by_cases q:i=y.n
  .rw[if_pos q]at e;cases b;obtain rfl:=gz e;exact .inr ⟨q,jA _,_,S⟩;obtain rfl:=gz e;exact .inr ⟨q,ij _,_,V⟩
  .rw[if_neg q]at e;exact .inl e
 have a8:gp (rd z y.n (f.objs.size+1) f.objs.size) (iJ y (.g C [])) ((f.push sQ).push (rz C f.objs.size)):=by
  refine r.cb B P G (λi b x e=>?_) (λb c x e n=>?_) (sv _ _ (λZ=>fU) j D S (sv _ (#[]) 0 V rfl (λZ u=>by simp at u) (λZ=>rfl) (ij _)) (λx=>⟨λv e=>(by injection e),λZ=>rfl⟩))
  .rcases W i b x e with q|⟨a9,Y,b0⟩
   .exact .inl q
   .exact .inr (kg a9 (gu r.size Y) (pd r Y) b0)
  .induction b<;>induction c<;>first|rfl|(rw[j]at e;rw[D]at n;obtain rfl:=gz e;exact absurd (gz n) (jt (nR _)))|(rw[D]at e;rw[j]at n;obtain rfl:=gz e;exact absurd (gz n).symm (jt (nR _)))
 have H:gS (iF l) [] z f (rd z y.n (f.objs.size+1) f.objs.size) ((f.push sQ).push (rz C f.objs.size)):=⟨G,λi b a e=>(W i b a e).imp id λq=>q.2.1,λa o Z Z e=>GD B a o e,λZ Z Z o e=>gx o (B _ _ e) id,P⟩;have p:=F (A.under (.builtin "type.__call__" ⟨.ref C::N,[]⟩)) l h (.b y.n::L) (.ref (f.objs.size+1)::N) (rd z y.n (f.objs.size+1) f.objs.size) (iJ y (.g C [])) ⟨(f.push sQ).push (rz C f.objs.size),g,O,t,Y8⟩ (Zg a5) (a6.ext H) a8 (.dN (.dO j) (a7.mono G));have a0:=λ(R:pW->gK->Prop)=>make_core (A:=A) (R:=R) (g:=g) (d:=O) (t:=t) (os:=Y8) (rest:=N) (kw:=[]) (makes_of (M:=gk gh w) X u) (JJ X a3) (λb1=>bind_fn X b1 a4) (.inl rfl);have b2:nX T (fR (.b C h)) L y=fS (T.fn h (.b y.n::L)) (λr=>match r with|.c=>fX (.b y.n)|_=>gc) (iJ y (.g C [])):=rfl;refine lE b2 ?_;unfold fS;generalize e:T.fn h (.b y.n::L) (iJ y (.g C []))=b3;induction b3 with
 |a=>trivial
 |c b9 b4=>rw[e]at p;refine λQ E k=>sS (a0 _ (BL (p (λZ Z=>False) E λe I J b5=>k e I J (gL.pre _ _ _ _ _ _ _ _ H b5)) λr s' m=>?_));rcases r with e|(v|_|_|_)<;>first|exact m|exact m.elim
 |b a b4=>
  rw[e]at p;induction a with
  |c=>
   refine λQ E k=>sS (a0 _ (BL (p (λv s'=>v=.none/\Q (.ref (f.objs.size+1)) s') (λe s'=>E e s') λb6 I J b a1 b7 b8=>?_) λr s' m=>?_));cases b8;exact⟨rfl,k b6 I J _ (H.trans a1) b7 (.dO (a1.sub _ _ _ j))⟩
   .rcases r with e|(v|_|_|_)<;>first|exact m|exact m.elim
  |_=>trivial
def Dk(G:jM)(L:LR z k U env s.heap)(a:k.lookup f=fR .globalImplicit)(b:(f==("__debug__":f_))=fY)(r:gp z y s.heap)(e:lT K jK f=fR (fR c))(h:Q c s):gg (gk gh w) A (iu (.Name f p) env) Q E s:=ED L.kind (C_ L a) (GN G r.base L.az e h) b
def Dj(G:jM)(L:LR z k U env s.heap)(a:k.lookup f=fR .globalImplicit)(b:(f==("__debug__":f_))=fY)(r:gp z y s.heap)(e:lT K jK f=fR fU)(d:lH f=fR c)(g:f≠"__name__")(h:Q c s):gg (gk gh w) A (iu (.Name f p) env) Q E s:=ED L.kind (C_ L a) (Nl G r.base L.az L.bi e (XZ d) g h) b
def X_(h:lH nm=fR f):zg f:=jR (rX.mp h) λa b e Z=>(mU.mp (e▸qo a (.head b):(nm,f)∈FJ)).elim (λm=>mE m λs Z e=>.inr (.inl ⟨s,(congrArg wW e).symm⟩)) λm=>mE m λs Z e=>.inr (.inr ⟨s,(congrArg wW e).symm⟩)
def Gp(a:∀Q E,Q t s->gg (gk gh w) A (iu (.Name f p) env) Q E s)(h:gF l own X A (JQ Z8 t [] (qX Z8 (mG y env)) []) P z s r):gF l own X A (iu (.Call (.Name f p) y [] Z8) env) P z s r:=h.of_wp λQ E x=>by rw[BH];exact gf (a _ _ x)
structure qb(T:ie):Prop where
 bi:∀x nm,T.az x=fR (.f nm)->∃v,lH nm=fR v
def DC{T:ie}{d n:Nat}(a:SL T (d+1) n)(S:iD (d+1) l k U env A z s.heap)(r:gp z y s.heap)(Z8:oS):gF l [] (gL l []) A (tX (qX Z8 (mG h env))) iC z s (kO T n k U h y):=a _ _ _ _ _ _ _ _ _ _ S r
def Pl{T:ie}{d n:Nat}(t:jN h=fW)(u:h=[]->kO T n k U h=fX [])(w:k_ T)(L:qb T)(G:jM)(F:FS T d)(B:SL T (d+1) n)(S:iD (d+1) l k U env A z s.heap)(r:gp z y s.heap):gF l [] (gL l []) A (iu (.Call (.Name f p) h [] Z8) env) VR z s (fS (rg T k f) (λg=>if Ax g then fS (kO T n k U h) (λc=>nX T (fR g) c)else gc) y):=by
 unfold rg;by_cases e:k.lookup f=fR .globalImplicit
 .refine lE (if_pos e)<|qH λg q=>?_;induction g with|a a=>refine iT (w.fn _ _ q) λi j m=>Gp (λQ E x=>Dk G S.L e i r j x)<|Cy gL.pre G (.inl m) t r u (DC B S r Z8) λc D H I J K Z x o b=>gJ.bE ((F A l a c K H D (sU s I J) (S.cx.mono (jA _)) (S.fr.ext x) o b).aD λQ E x=>sS x)|b C V=>refine Bb (w.cls _ _ _ q) λi j m M N O=>Gp (λQ E x=>Dk G S.L e i r j x)<|Cy gL.pre G (.inl m) t r u (DC B S r Z8) λc D H I J K Z x o b=>g7 F G.bA M N O S.cx (S.fr.ext x) o b|f nm=>refine jZ (w.bi _ _ q) λi j m P=>?_;obtain rfl:=P;refine gI (L.bi _ _ q) λv b=>Gp (λQ E x=>Dj G S.L e i r j b m x)<|Cy gL.pre G (X_ b) t r u (DC B S r Z8) λc D H I J K Z x o R=>ZQ S.cx.dN b o R|_=>trivial
 .exact lE (if_neg e) trivial
def G0(a:jN h=fW)(b:h.length<20):Sy (h.length+([]:List Bz).length) (qX Z8 (mG h env)) (backToKw Z8 (keywordEach [] env))=fW:=by
 have c:(qX Z8 (mG h env)).all (λx=>!x.1)=fW:=by
  have:=Cj (Z8:=Z8) (env:=env) a;refine lE List.all_eq_not_any_not ?_;simpa using this
 unfold Sy;refine lE c ?_;simp only[aep,aeP,Bool.true_and];refine(?_:(fW&&decide (h.length+0<30))=fW);simp;exact gu b (iP _ _)
def abf{T:ie}{d n:Nat}(C:sp o=fY)(D:(L.endLine==Z8.line)=fW)(e:jN t=fW)(H:t.length<20)(I:t=[]->kO T n k U t=fX [])(J:k_ T)(G:jM)(F:FS T d)(K:SV T (d+1) n)(M:SL T (d+1) n)(S:iD (d+1) l k U env A z s.heap)(r:gp z y s.heap):gF l [] (gL l []) A (iu (.Call (.Attribute o nm L) t [] Z8) env) VR z s (fS (iA T n k U o) (λv=>fS (lJ T v nm) λm=>fS (kO T n k U t) λb=>nE T m v nm b) y):=by
 rw[afU];refine lE (KL C)<|.bind gL.pre (K _ _ _ _ _ _ _ _ _ S r) λv a5 a6 a7 a8 c Z x N p=>.aW ?_;unfold methodCall;refine lE (G0 e H) ?_;have O:JW fW o env L Z8=pure Z8:=by unfold JW;exact lE D rfl
 refine lE O<|.bind gL.pre (.aZ (g9 J G N p)) λm a9 b0 b1 b2 P Z f g R=>iT R ?_;intro V W i;obtain⟨b3,b4⟩:=P;subst V;refine .of_wp ?_ λQ E h=>gf (gU h);have j:=(S.ext x).ext f;refine Cy gL.pre G W e g I (DC M j g Z8) λb X Y a0 a1 a2 Z q u w=>?_;have B:=(p.mono f.sub).mono q.sub;induction m with|b a=>subst i;exact gJ.bE ((F A l a (v::b) (c::a2) Y X (sU s a0 a1) (S.cx.mono (jA _)) (j.fr.ext q) u (.dN B w)).aD λQ E x=>sS x)|a=>refine gy i ?_;intro Y7 a3 a4;obtain rfl:=a4;exact m4 a3 (λZ h=>nM h) u B w
def BZ(z:Va)(h:hV):It->gv->Prop|.a a,v=>VR z a v|.b a b,v=>∃T x c,v=.ref T/\IsTup h T #[x,c]/\VR z a x/\VR z b c
def sr(t:gq)(a:It):Prop:=match oK t with
 |some _=>match a with|.a _=>True|_=>False
 |none=>(uD t).isSome=fW
def Gr(h:sr t (.b a b)):∃ts k p,t=.Tuple ts k p:=by unfold sr at h;generalize e:oK t=q at h;induction q with|some _=>exact h.elim|none=>generalize c:uD t=d at h;induction d with|none=>exact fT h|some ts=>exact⟨ts,H_ c⟩
section
variable(A:lj)
structure oY(j:Va)(I:gG)(d:List gG)(k:List (Nat×O))(Z3:List It)(c:Nat->hV->Prop):Prop where
 frame:∀i h a,c i h->(∀b∈d,∀o,h.get? b=fR o->a.get? b=fR o)->c i a
 item:∀i e t (s:gK) z y (Q:gv->gK->Prop) (E:gv->gK->Prop),Z3[i]?=fR e->sr t e->c i s.heap->jI j z->gp z y s.heap->(∀g∈k,y.get g.1=fR g.2)->(∀b∈d,iR z b)->(∀v a f,BZ z a e v->c (i+1) a->(∀b o,b∉d->s.heap.get? b=fR o->a.get? b=fR o)->Q v (sU s a f))->gg (gk gh w) A (uZ (.ref I)) (λr l=>match r with|none=>False|some v=>gg (gk gh w) A (JV t (.ref I) v) (λZ m=>Q v m) E l) E s
 done:∀(s:gK) z y (Q:Option gv->gK->Prop) (E:gv->gK->Prop),c Z3.length s.heap->jI j z->gp z y s.heap->(∀g∈k,y.get g.1=fR g.2)->(∀b∈d,iR z b)->(∀a f,(∀b o,b∉d->s.heap.get? b=fR o->a.get? b=fR o)->Q fU (sU s a f))->gg (gk gh w) A (uZ (.ref I)) Q E s
 self:∀i (s:gK) (Q:gv->gK->Prop) (E:gv->gK->Prop),c i s.heap->Q (.ref I) s->gg (gk gh w) A (pD (.ref I)) Q E s
end
noncomputable def Hk:List String:=["enumerate","zip","dict_itemiterator","dict_reverseitemiterator","odict_iterator","itertools.zip_longest","itertools.pairwise"]
def GM{A:lj}(a:s.heap.get? I=fR o)(b:o.cls=.type nm)(c:o.data=.fields x)(d:Hk.contains nm=fY)(h:Q () s):gg (gk gh w) A (JV t (.ref I) v) Q E s:=by cases t<;>first|exact gU h|(induction v<;>first|exact gU h|(refine gf (wpAny_load a ?_);refine lE b (lE c ?_);refine(?_:gg _ _ (if(Hk.contains nm&&_)=fW then _ else _) _ _ _);refine(d).symm▸?_;exact gU h))
def oY.ci{A:lj}{b:Nat->hV->Prop}(W:Walks gh w A I [I] [I] n P b)(f:Z3.length=n)(l:∀i a v z h,Z3[i]?=fR a->P i v->BZ z h a v)(m:∀i h,b i h->∃o g,h.get? I=fR o/\o.cls=.type nm/\o.data=.fields g)(p:Hk.contains nm=fY):oY A z I [I] [] Z3 b where
 frame:=W.frame
 item:=λi a t s z y Q E c Z d Z Z Z Z e=>by
  have r:i<n:=by
   have:i<Z3.length:=by
    rcases yT i Z3.length with q|q
    .exact q
    .rw[wx q]at c;injection c
   exact gu this (gC f)
  refine W.item i s _ E r d λv j u x k B=>kJ (m _ _ k) λo g C D F=>GM C D F p (e v j u (l i a v z j c x) k B)
 done:=λs z y Q E d Z Z Z Z e=>W.done s Q E (f▸d) e
 self:=W.self
def Ϟ{A:lj}(d:A.handled=fU)(I:gG)(a c:Int)(n:Nat):oY A z I [I] [] ((me n).map λ(k:Nat)=>It.a (.a (a+c*k))) (λi h=>IsRangeIter h I (a+(i:Nat)*c) ((n:Int)-(i:Nat)) c):=by
 refine .ci (Walks.range d I a c n) (by simp) (λi m v z h e f=>?_) (λi h g=>jq _ _ g rfl rfl) gO;refine gI f ?_;intro t j;obtain rfl:=j;rw[lQ]at e;generalize b:(me n)[i]?=l;induction l with|none=>rw[b]at e;injection e|some k=>
  rw[b]at e;have:k=i:=by
   rcases yT i n with q|q
   .rw[IW q]at b;exact(gz b).symm
   .rw[wx (by simpa using q)]at b;injection b
  subst this;obtain rfl:=gz e;refine(?_:VR z (.a (a+c*(k:Int))) (.int (a+(k:Int)*c) t));rw[ae3 c];exact .dN _ _
def aaX{A:lj}(a:A.handled=fU)(I:gG)(x:f_)(t:oq):oY A z I [I] [] ((vm x).map .a) (λi h=>h.IsStrIter I "str_ascii_iterator" x t i):=by
 refine .ci (Walks.strAscii a I x t) (by simp[vm]) (λi m v z h e b=>?_) (nm:="str_ascii_iterator") (λi h d=>?_) gO;refine jR b ?_;intro c u f g;obtain rfl:=g;unfold vm at e;rw[lQ,lQ,rq,f]at e;obtain rfl:=gz e;exact VR.dP _ _;refine jy d ?_;intro o j k l;exact jq o _ j k l
def T5{A:lj}(F:A.handled=fU)(w:z i fY=fR a):oY A z I [I] [(i,.a xs)] (xs.map .a) (λj h=>h.IsListIter I a j) where
 frame:=λZ Z Z d G=>d.at λo e=>G I ge o e
 item:=λj S t s H y Q E f Z d k r l J g=>by have m:=l (i,.a xs) ge;refine r.lK (k _ _ _ w) m λK n q=>?_;rw[lQ]at f;generalize e:xs[j]?=L;induction L with|none=>rw[e]at f;exact nS f|some v=>rw[e]at f;obtain rfl:=gz f;refine gy (q.get j v e) λc M N=>agp d n.isList (by simpa using M) λp O P=>jy O ?_;intro o B C D;exact GM B C D gO (g c p s.toks N (iU o B C D) λb o u x=>P.extBut b o (λh=>u (by simp[h])) x)
 done:=λs H y Q E d k r l J g=>by have m:=l (i,.a xs) ge;refine r.lK (k _ _ _ w) m λK n q=>ago F d n.isList ?_ λp R=>g p s.toks λb o u e=>R b o (λh=>u (by simp[h])) e;rw[iq];have:=q.length;simp;exact gC this.symm
 self:=λZ Z Z Z d g=>wpAny_pyIter_listiter d g
def abV{A:lj}(J:A.handled=fU)(D:z i fY=fR a):oY A z I [I] [(i,.c xs)] (xs.map .a) (λj h=>IsTupIter h I a j) where
 frame:=λZ Z Z d K=>by refine gy d ?_;intro o e r;exact gx o (K I ge o e) r
 item:=λj k t s L y Q E f Z d l r m M g=>by have p:=m (i,.c xs) ge;refine r.tK (l _ _ _ D) p λu n w q=>?_;rw[lQ]at f;generalize e:xs[j]?=N;induction N with|none=>rw[e]at f;exact nS f|some v=>rw[e]at f;obtain rfl:=gz f;refine gy (q.get j v e) λc O P=>?_;have k:IsTup s.heap a u.toArray:=⟨_,w,rfl,_,rfl⟩;refine next_tuple_item d k (by simpa using O) λB R S=>jy R ?_;intro o F G H;exact GM F G H gO (g c B s.toks P (iU o F G H) λb o C x=>S.extBut b o (λh=>C (by simp[h])) x)
 done:=λs L y Q E d l r m M g=>by have p:=m (i,.c xs) ge;refine r.tK (l _ _ _ D) p λu n w q=>?_;have k:IsTup s.heap a u.toArray:=⟨_,w,rfl,_,rfl⟩;refine next_tuple_end J d k ?_ λB T=>g B s.toks λb o C e=>T b o (λh=>C (by simp[h])) e;rw[iq];have:=q.length;simp;exact gC this.symm
 self:=λZ Z Z Z d g=>wpAny_pyIter_tupleiter d g
def Md(xs:List V):∀(k:Int) (j:Nat) (a:It),(uh k xs)[j]?=fR a->∃v,xs[j]?=fR v/\a=.b (.a (k+j)) v:=by induction xs with|nil=>intro _ j _ e;exact nS e|cons x r b=>intro k j a e;induction j with|zero=>exact gx x rfl (by rw[<-gz e];simp)|succ j _=>refine gy (b (k+1) j a e) λv c d=>gx v c ?_;rw[d];congr 2;push_cast;exact by simp+arith
def Me:∀(xs:List V) (k:Int),(uh k xs).length=xs.length:=by intro a;induction a with|nil=>exact λZ=>rfl|cons _ r b=>exact λk=>congrArg (·+1) (b (k+1))
def u7{A:lj}(K:A.handled=fU)(G:e≠L)(H:z i fY=fR a):oY A z e [e,L] [(i,.a xs)] (uh 0 xs) (λj h=>(∃g,Jt h e L (j:Nat) g)/\h.IsListIter L a j) where
 frame:=λZ Z Z d p=>⟨by refine gP d ?_;intro M _;refine gI M ?_;intro g q;exact⟨g,p e (by simp) _ q⟩,d.2.at λo x=>p L (by simp) o x⟩
 item:=λj N t s O y Q E P R d u r w S l=>by have B:=w (i,.a xs) ge;refine hZ λa9 I=>r.lK (u _ _ _ H) B λT C q=>gy (Md xs 0 j N P) λv V W=>?_;obtain rfl:=W;refine gy (q.get j v V) λc X Y=>gP d ?_;intro a0 D;refine gI a0 ?_;intro g k;refine I ?_;clear I;obtain⟨b0,b1,Z8,rfl⟩:=Gr R;refine wpAny_pyNext_enum_item k D C.isList (by simpa using X) G λJ a1 a2 a3 Y3 p=>agh a1 λa4 a5 F=>l (.ref s.heap.objs.size) a4 (s.toks+1) (rh _ _ _ rfl ⟨_,(F.2 _ ((jt (iB k)).symm)).trans a3,rfl,_,rfl⟩ (by simpa using VR.dN _ _) Y) ⟨⟨c,by simpa using a5⟩,a2.at λo m=>(F.2 L G.symm).trans m⟩ λb o n m=>(F.2 b λf=>n (by simp[f])).trans (p b o (λf=>n (by simp[f])) (λf=>n (by simp[f])) m)
 done:=λs O y Q E d u r w S l=>by have B:=w (i,.a xs) ge;refine r.lK (u _ _ _ H) B λT C q=>gP d ?_;intro a6 D;refine gI a6 ?_;intro g k;refine wpAny_pyNext_enum_end K k D C.isList ?_ λJ a7=>l J s.toks λb o n m=>a7 b o (λf=>n (by simp[f])) m;rw[Me];have:=q.length;simp;exact gC this.symm
 self:=λZ s Z Z d l=>by refine gP d ?_;intro a8 _;refine gI a8 ?_;intro g k;exact Ke k l
def adH(xs:List V):∀(a:List V) (j:Nat) (b:It),(Bk xs a)[j]?=fR b->∃v u,xs[j]?=fR v/\a[j]?=fR u/\b=.b v u:=by induction xs with|nil=>intro _ j _ e;exact nS e|cons x r c=>intro a j b e;induction a with|nil=>exact nS e|cons d f _=>induction j with|zero=>exact jq x d rfl rfl (gz e).symm|succ j _=>exact c f j b e
def adI(xs:List V):∀a:List V,(Bk xs a).length=min xs.length a.length:=by induction xs with|nil=>intro a;exact(Nat.zero_min _).symm|cons x r b=>intro a;induction a using jg with|nil=>exact(Nat.min_zero _).symm|cons d c=>exact(congrArg (·+1) (b c)).trans (Nat.succ_min_succ _ _).symm
def Dq{b a c d e f:gG}(g:b∉[a,c,d,e,f]):b≠a/\b≠c/\b≠d/\b≠e/\b≠f:=by simpa only[gX,kK,or_false,not_or]using g
def Qs{a b c d e f g:gG}(i:b≠a/\c≠a/\d≠a/\e≠a/\b≠c/\b≠d/\b≠e/\c≠d/\c≠e/\d≠e)(j:∀x∈[a,b,c,d,e],f≠x)(k:∀x∈[a,b,c,d,e],g≠x):ZipApart a b c d e f g:=by refine hZ λF h=>DP i ?_;intro l n o p q r s t u v;refine pi (Dq (λm=>j f m rfl)) λw G y z A=>pi (Dq (λm=>k g m rfl)) λB H C D E=>h ?_;clear h;exact⟨l,n,o,p,q,r,s,t,u,v,w,y,z,A,B,C,D,E⟩
def adJ{A:lj}(a7:A.handled=fU){n g p w B a2 a3:gG}(a4:g≠n/\p≠n/\w≠n/\B≠n/\g≠p/\g≠w/\g≠B/\p≠w/\p≠B/\w≠B)(M:z i fY=fR a2)(N:z j fY=fR a3):oY A z n [n,g,p,w,B] [(i,.a xs),(j,.a L)] (Bk xs L) (λk h=>IsZip h n g p .none/\IsPair h g (.ref w) (.ref B)/\(∃a b,IsPair h p a b)/\h.IsListIter w a2 k/\h.IsListIter B a3 k) where
 frame:=λZ Z Z F C=>by refine pi F ?_;intro a b a8 d e;refine kS a8 ?_;intro x f c;exact su (C n (by simp) _ a) (C g (by simp) _ b) (qA x f (C p (by simp) _ c)) (d.at λo q=>C w (by simp) o q) (e.at λo q=>C B (by simp) o q)
 item:=λk a9 t s b0 y Q E b1 b2 F l r H I J=>by have R:=H (i,.a xs) ge;have S:=H (j,.a L) gZ;refine hZ λb3 K=>r.lK (l _ _ _ M) R λb4 T q=>r.lK (l _ _ _ N) S λb5 V W=>kJ (adH xs L k a9 b1) λv u b6 b7 b8=>?_;obtain rfl:=b8;refine gy (q.get k v b6) λc b9 c0=>gy (W.get k u b7) λd6 c1 c2=>pi F ?_;intro O P c3 X Y;refine kS c3 ?_;intro a b a0;refine K ?_;clear K;have D:=Qs a4 (λx m f=>(I x m).2 i fY (f▸l _ _ _ M)) (λx m f=>(I x m).2 j fY (f▸l _ _ _ N));obtain⟨d7,d8,Z8,rfl⟩:=Gr b2;refine wpAny_pyNext_zip_item D O P a0 X Y T.isList V.isList (by simpa using b9) (by simpa using c1) λa5 c4 c5 c6 c7 c8 Y3 C=>wpAny_letOwnedTupleGo_zip c4 λc9 d0 G=>J (.ref s.heap.objs.size) c9 s.toks (rh _ _ _ rfl ⟨_,(G.2 _ ((jt (iB O)).symm)).trans c8,rfl,_,rfl⟩ c0 c2) (su d0 ((G.2 _ D.TIz).trans (C g _ D.TIz D.TITO D.TIi1 D.TIi2 P)) (qA _ _ ((G.2 _ D.TOz).trans c5)) (c6.at λo f=>(G.2 _ D.i1z).trans f) (c7.at λo f=>(G.2 _ D.i2z).trans f)) λb o a1 f=>pi (Dq a1) λa6 d9 d1 d2 d3=>(G.2 b a6).trans (C b o a6 d1 d2 d3 f)
 done:=λs b0 y Q E F l r H I J=>by
  have R:=H (i,.a xs) ge;have S:=H (j,.a L) gZ;refine hZ λb3 K=>r.lK (l _ _ _ M) R λb4 T q=>r.lK (l _ _ _ N) S λb5 V W=>pi F ?_;intro O P d4 X Y;refine kS d4 ?_;intro a b a0;refine K ?_;clear K;have D:=Qs a4 (λx m f=>(I x m).2 i fY (f▸l _ _ _ M)) (λx m f=>(I x m).2 j fY (f▸l _ _ _ N));have d5:=q.length;refine wpAny_pyNext_zip_end a7 D O P a0 X Y T.isList V.isList ?_ λa5 m=>J a5 s.toks λb o a1 f=>have c:=Dq a1;m b o c.1 c.2.2.1 c.2.2.2.1 c.2.2.2.2 f;rw[adI];rcases Jd xs.length L.length with q|q
  .left;refine lE (Jh q) ?_;simp;exact gC d5.symm
  .right;refine lE (Ji q) ?_;simp;exact gC (W.length).symm
 self:=λZ s Z Z F J=>agn F.1 J
def ο(e:BE s.heap h b t i)(g:b[i]?=fR c)(j:∀f,BE f h b t (i+1)->oR h s.heap f->Q (.int (c.toNat:Int) s.toks) (sU s f (s.toks+1))):gg (gk gh w) A (afa (.ref h)) Q E s:=by refine jy (id e) λo d k a=>?_;refine gf (Fk (JD e) JF (tY JF (JD e) afM ?_ (afL _)));refine(?_:gg _ _ (field (.ref h) 0>>=_) _ _ s);refine gf (Ka d a rfl ?_);refine lE (if_neg (show¬((afI b t==pX)=fW)from l_))<|(?_:gg _ _ (field (.ref h) 1>>=_) _ _ s);refine gf (Ka d a rfl ?_);refine gf (qw rfl ?_);simp only[ae7,g];refine gf (Fq d a (by simp) (gf (wpAny_mkInt (gU (gx _ rfl (gU (j _ ?_ (sL ..))))))));exact iU _ (tR _ d (RT (xb a _))) ((RS ..).trans k) (by rw[xb a];simp[mV])
def ξ(j:A.handled=fU)(c:BE s.heap h b t i)(l:b[i]?=fU)(m:∀a e,tQ h s.heap a->(∃o,a.get? e=fR o/\o.cls=.type "StopIteration")->E (.ref e) {s with heap:=a}):gg (gk gh w) A (afa (.ref h)) Q E s:=by refine jy (id c) λo d q f=>?_;refine gf (Fk (JD c) JF (tY JF (JD c) afM ?_ (afL _)));refine(?_:gg _ _ (field (.ref h) 0>>=_) _ _ s);refine gf (Ka d f rfl ?_);refine lE (if_neg (show¬((afI b t==pX)=fW)from l_))<|(?_:gg _ _ (field (.ref h) 1>>=_) _ _ s);refine gf (Ka d f rfl ?_);refine gf (qw rfl ?_);simp only[ae7,l];refine gf (ze (gf (Fq d f (by simp) ?_)));exact Pc (show A.in1.handled=fU from j) λa e k n=>m a e (λb o p g=>k b o ((sL ..).extBut b o p g)) n
def LZ(g:A.handled=fU)(d:gG)(b:Array UInt8)(t:oq):Draws gh w A d [d] b.size (λi v=>∃c u,b[i]?=fR c/\v=.int (c.toNat:Int) u) (λi h=>BE h d b t i) where
 live:=λZ Z a=>let⟨o,e,_⟩:=a;⟨o,e⟩
 frame:=λZ Z Z a j=>gy a λo e r=>gx o (j d ge o e) r
 item:=λi s Q E f a k=>by refine ο a (c:=b[i]) (by simp[f]) λl m n=>k _ l (s.toks+1) (nF _ _ (by simp[f]) rfl) m n
 done:=λs Q E a p=>ξ g a (by simp) p
def Dz{M:lv}{c:Bool}(h:∀b,Q b s):gg M A (pure c) Q E s:=gU (h c)
set_option maxHeartbeats 1000000 in
set_option tactic.hygienic true in
def V9(x:Array UInt8)(t:oq):Meets (Builtin.«enumerate.__new__» ⟨[.type "enumerate",.bytes x t],[]⟩) (λZ R s=>R (.ok (.ret (.ref (s.heap.push {cls:=.type "bytes_iterator",data:=.fields #[.bytes x t,.int 0 0]}).objs.size))) {s with heap:=(s.heap.push {cls:=.type "bytes_iterator",data:=.fields #[.bytes x t,.int 0 0]}).push {cls:=.type "enumerate",data:=.fields #[.none,.bool fY,.ref s.heap.objs.size,mV 0,.none,.none]}}):=by
 revert x t;refine @(Of E1 ?_);generalize vN.1=x,vN.2=t;exact
 .of_wp λa b A R s h=>by
  obtain⟨e,g,d,f,Y8⟩:=s;have i:=sub_enumerate
  wp_walk
  refine wpAny_stack_any λj=>Dz λc=>?_;cases c
  .wp_walk using JE
   exact gx _ rfl h
  .wp_walk using JE
   exact gx _ rfl h
def Yq(h:∀a,Jt a (s.heap.objs.size+1) s.heap.objs.size 0 .none->BE a s.heap.objs.size x t 0->a.objs.size=s.heap.objs.size+2->(∀b o,s.heap.get? b=fR o->a.get? b=fR o)->Q (.ref (s.heap.objs.size+1)) {s with heap:=a}):gg (gk gh w) A (ju (.type "enumerate") [.bytes x t]) Q E s:=by
 refine callType_new PySem.F.called_enumerate gO (PySem.F.typeCall_enumerate_1 _) (PySem.F.newCall_enumerate_1 _) (λe=>afh e _) PySem.F.entry_enumerate_new (V9 x t) ?_;have c:(s.heap.push {cls:=.type "bytes_iterator",data:=.fields #[.bytes x t,.int 0 0]}).objs.size=s.heap.objs.size+1:=kt ..;refine lE c ?_;have d:Jt ((s.heap.push {cls:=.type "bytes_iterator",data:=.fields #[.bytes x t,.int 0 0]}).push {cls:=.type "enumerate",data:=.fields #[.none,.bool fY,.ref s.heap.objs.size,mV 0,.none,.none]}) (s.heap.objs.size+1) s.heap.objs.size 0 .none:=by
  have:=lu (s.heap.push {cls:=.type "bytes_iterator",data:=.fields #[.bytes x t,.int 0 0]}) (o:={cls:=.type "enumerate",data:=.fields #[.none,.bool fY,.ref s.heap.objs.size,mV 0,.none,.none]}) rfl;rw[c]at this;exact this
 refine⟨(gx _ d rfl),h _ d (iU _ (iW _ (lu _ rfl)) rfl rfl) (by rw[kt];exact lE c rfl) λb o f=>iW _ (iW _ f)⟩
def u6(C:A.handled=fU)(p:e≠L):oY A z e [e,L] [] (uh 0 (b.toList.map λu=>.a u.toNat)) (λj h=>(∃f,Jt h e L (j:Nat) f)/\BE h L b t j) where
 frame:=λZ Z Z a l=>⟨by refine gP a ?_;intro H _;refine gI H ?_;intro f q;exact⟨f,l e (by simp) _ q⟩,by obtain⟨_,o,x,r⟩:=a;exact gx o (l L (by simp) o x) r⟩
 item:=λj I a9 s J y Q E K M a N r O P i=>by
  refine hZ λb0 F=>gy (Md _ 0 j I K) λv m R=>?_;obtain rfl:=R;refine gP a ?_;intro S n;refine gI S ?_;intro f g;refine F ?_;clear F;have T:j<b.size:=by
   rcases yT j b.size with q|q
   .exact q
   .rw[wx (by simpa using q)]at m;injection m
  have D:=LZ (A:=A.in1) C L b t;obtain⟨b1,b2,Z8,rfl⟩:=Gr M;refine wpAny_pyNext_enum_itemD D g n T p (by simpa using p) λx G V W X Y a0 Y3 l=>agh X λa1 a2 w=>jR W ?_;intro c u a3 a4;obtain rfl:=a4;have a5:v=.a c.toNat:=by rw[lQ,rq,a3]at m;exact(gz m).symm
  subst a5;refine i (.ref s.heap.objs.size) a1 (V+1) (rh _ _ _ rfl ⟨_,(w.2 _ ((jt (iB g)).symm)).trans a0,rfl,_,rfl⟩ (by simpa using VR.dN _ _) (.dN _ _)) ⟨⟨_,by simpa using a2⟩,?_⟩ λb o k B=>?_;refine gy Y ?_;intro o x r;exact gx o ((w.2 L p.symm).trans x) r;exact(w.2 b λd=>k (by simp[d])).trans (l b o (λd=>k (by simp[d])) (λd=>k (by simp[d])) B)
 done:=λs J y Q E a N r O P i=>by refine gP a ?_;intro a6 n;refine gI a6 ?_;intro f g;have D:=LZ (A:=A.in1) C L b t;rw[Me,iq,kq]at n;exact wpAny_pyNext_enum_endD D g n λG a7=>i G s.toks λb o k B=>a7 b o (λd=>k (by simp[d])) B
 self:=λZ s Z Z a i=>by refine gP a ?_;intro a8 _;refine gI a8 ?_;intro f g;exact Ke g i
def rG(A:lj)(N:Nat)(z:Va)(h:hV)(a:lV)(e:gv):Prop:=∃I c d,e=.ref I/\oY A z I c a.ai a.am d/\d 0 h/\∀b∈c,N<=b/\iR z b/\b<h.objs.size
def μ{s:gK}(r:gp z y s.heap)(a:s.heap.objs.size<=b):iR z b:=pd r a
def j5(g:A.handled=fU)(m:N<=s.heap.objs.size)(r:gp z y s.heap)(p:VR z v x):gJ l own X (gg (gk gh w) A (pD x)) (rG A N) z s (jJ v y):=by
 have c:∀(o:iY),(∀b o',s.heap.get? b=fR o'->(s.heap.push o).get? b=fR o')/\s.heap.objs.size<=(s.heap.push o).objs.size:=λo=>⟨λZ Z e=>iW _ e,by rw[kt];exact jA _⟩;have h:∀(o:iY),∀b∈[s.heap.objs.size],N<=b/\iR z b/\b<(s.heap.push o).objs.size:=λo b u=>by refine lE (js.mp u)<|iy m (μ r (ij _)) (by rw[kt];exact nR _)
 induction p with
 |dP x t=>
  dsimp only[jJ];split
  .rename_i d;have B:x.cps.all (·<128)=fW:=by
    refine rE Array.all_toList<|d
   refine λQ E k=>wpAny_pyIter_ascii B (k z _ s.toks _ (gS.al (c _).1 (c _).2) (r.keep (c _).1 (c _).2) (rh _ _ _ rfl (aaX g _ x t) (iU _ (lu _ rfl) rfl rfl) (h _)))
  .trivial
 |@dO i a d=>dsimp only[jJ];generalize f:y.get i=C;induction C with|none=>exact lE (zx f) trivial|some o=>refine lE (zw f) ?_;induction o with|a xs=>refine r.lK d f λD j q=>λQ E k=>Kf j.isList (k z _ s.toks _ (gS.al (c _).1 (c _).2) (r.keep (c _).1 (c _).2) (rh _ _ _ rfl (T5 g d) (iU _ (lu _ rfl) rfl rfl) (h _)))|c xs=>refine r.tK d f λD n j q=>λQ E k=>iter_tuple (⟨_,j,rfl,_,rfl⟩) (k z _ s.toks _ (gS.al (c _).1 (c _).2) (r.keep (c _).1 (c _).2) (rh _ _ _ rfl (abV g d) (iU _ (lu _ rfl) rfl rfl) (h _)))|_=>trivial
 |_=>trivial
structure pG:Prop where
 a:lT K jK "range"=fR fU
 dG:lT K jK "enumerate"=fR fU
 zip:lT K jK "zip"=fR fU
 set:lT K jK "set"=fR fU
 du:lT K jK "sorted"=fR fU
def xL(m:M h)(f:h->M t)(g:t->M x)(y:H):fS (fS m f) g y=fS m (λa=>fS (f a) g) y:=by unfold fS;cases m y<;>rfl
def gJ.cF(h:gJ l own X τ P z s r)(e:r=t):gJ l own X τ P z s t:=e▸h
def aaQ(h:jN (e::r)=fW):mG (e::r) env=(fY,iu e env)::mG r env:=(AM h).1
def aaO(q:rc l own X)(r:jN (e::h)=fW)(G:jM)(L:LR z k U env s.heap)(n:k.lookup f=fR .globalImplicit)(u:lT K jK f=fR fU)(v:lH f=fR (.type nm))(B:f≠"__name__")(C:gp z y s.heap)(D:gF l own X A (tX (qX Z8 (mG (e::h) env))) iC z s (t y))(F:∀c d a b j i,gS (iF l) own z s.heap a b->gp a d b->iC a c i->gJ l own X (λQ E s=>gg (gk gh w) A (ju (.type nm) i) (λx m=>gg (gk gh w) A (pD x) Q E m) E s) (rG A N) a (sU s b j) (g c d)):gJ l own X (λQ E s=>gg (gk gh w) A (iu (.Call (.Name f p) (e::h) [] Z8) env) (λx m=>gg (gk gh w) A (pD x) Q E m) E s) (rG A N) z s (fS t g y):=by refine gJ.aD (gJ.bind q (.of D) λc d a b j i Z x H I=>F c d a b j i x H I) λQ E o=>?_;rw[BH];refine gf (Dj G L n ((ye L.b_ n).1) C u v B ?_);refine gP (AM (env:=env) r) λJ M=>?_;rw[J]at o|-;exact Sm (by exact lE (Cj M) rfl) (EE o)
def Oi{b c a:Int}(d:0<a):wZ b c a=(((c-b+a-1)/a).toNat:Int):=by
 unfold wZ;refine lE (if_pos d) ?_;split
 .rename_i h;have e:c-b+a-1=(c-b-1)+a:=by simp+arith
  refine lE e (lE (Int.add_ediv_of_dvd_right (Int.dvd_refl _)) (lE (Int.ediv_self (ma d)) ?_));have:0<=(c-b-1)/a:=ae1 (ra h) (by lia);lia
 .rename_i h;have:(c-b+a-1)/a<=0:=by
   have f:(c-b+a-1)/a<1:=Int.ediv_lt_of_lt_mul d (by lia);lia
  lia
def Ϡ{e c d:Int}(h:0<=e/\e<2^30)(i:0<=c/\c<2^30)(g:0<d/\d<2^30):af9 e c d=fW:=by
 have j:0<=wZ e c d/\wZ e c d<=2^30:=by
  unfold wZ;refine lE (if_pos g.1) ?_;split;have k:0<=(c-e-1)/d:=ae1 (by lia) (by lia);have l:(c-e-1)/d<=c-e-1:=Int.ediv_le_self _ (by lia);lia;lia
 have f:∀x:Int,-(2^40)<=x->x<=2^40->af8 x=fW:=λx a b=>by unfold af8;simp only[lr,decide_eq_true_eq];constructor<;>lia
 unfold af9;refine lE (f e (by lia) (by lia)) (lE (f c (by lia) (by lia)) (lE (f d (by lia) (by lia)) (lE (f _ (by lia) (by lia)) (lE (if_pos (show d>0 from g.1)) (lE (f (c+(d-1)) (by lia) (by lia)) ?_)))));simp
def Ϛ(b c a:Int)(n:Nat)(h:n=((c-b+a-1)/a).toNat):(vR b c a).map It.a=(me n).map λ(k:Nat)=>It.a (.a (b+a*k)):=by subst h;exact lE kR rfl
def LU{c d a:Int}(q:A.handled=fU)(x:N<=s.heap.objs.size)(B:0<=c/\c<2^30)(C:0<=d/\d<2^30)(g:0<a/\a<2^30)(m:gp z y s.heap)(D:IsRange s.heap r c d a t u v)(k:∀j f F b,gS (iF l) own z s.heap j f->gp j y f->rG A N j f ⟨[],(vR c d a).map .a⟩ b->Q b (sU s f F)):gg (gk gh w) A (pD (.ref r)) Q E s:=by
 have n:∀b o',s.heap.get? b=fR o'->(s.heap.push {cls:=.type "range_iterator",data:=.fields #[mV c,mV (wZ c d a),mV a]}).get? b=fR o':=λZ Z e=>iW _ e;have p:s.heap.objs.size<=(s.heap.push {cls:=.type "range_iterator",data:=.fields #[mV c,mV (wZ c d a),mV a]}).objs.size:=by rw[kt];exact jA _
 refine wpAny_pyIter_range D (Ϡ B C g) (k z _ s.toks _ (gS.al n p) (m.keep n p) (rh s.heap.objs.size ([s.heap.objs.size]) (λi h=>IsRangeIter h s.heap.objs.size (c+(i:Nat)*a) ((((d-c+a-1)/a).toNat:Int)-(i:Nat)) a) rfl ?_ ?_ ?_));refine lE (Ϛ c d a _ rfl)<|Ϟ q _ c a _;dsimp only;have:=lu s.heap (o:={cls:=.type "range_iterator",data:=.fields #[mV c,mV (wZ c d a),mV a]}) rfl;rw[Oi g.1]at this;refine lE (Oi g.1) ?_;simpa using this;refine λb G=>lE (js.mp G)<|iy x (pd m (ij _)) (by rw[kt];exact nR _)
def j7(f:A.handled=fU)(g:N<=s.heap.objs.size)(i:gp z y s.heap)(p:VR z v c):gJ l own X (λQ E s=>gg (gk gh w) A (ju (.type "range") [c]) (λx j=>gg (gk gh w) A (pD x) Q E j) E s) (rG A N) z s (AC v y):=by
 induction p with
 |dN n t=>
  dsimp only[AC];split
  .rename_i h;intro Q E k;have d:∀b o',s.heap.get? b=fR o'->(s.heap.push {cls:=.type "range",data:=.fields #[.int 0 s.toks,.int n t,.int 1 (s.toks+1)]}).get? b=fR o':=λZ Z e=>iW _ e;have a:s.heap.objs.size<=(s.heap.push {cls:=.type "range",data:=.fields #[.int 0 s.toks,.int n t,.int 1 (s.toks+1)]}).objs.size:=by rw[kt];exact jA _
   refine call_range_1<|LU f (gu g a) ⟨(kr _),by lia⟩ h ⟨by lia,by lia⟩ (i.keep d a) (afv ..) λm o q b x r p=>k m o q b ((gS.al d a).trans x) r p
  .trivial
 |_=>trivial
def j8(j:A.handled=fU)(m:N<=s.heap.objs.size)(n:gp z y s.heap)(o:VR z L P)(q:VR z W c2)(r:VR z v3 c3):gJ l own X (λQ E s=>gg (gk gh w) A (ju (.type "range") [P,c2,c3]) (λx B=>gg (gk gh w) A (pD x) Q E B) E s) (rG A N) z s (vS L W v3 y):=by
 induction o with
 |dN c t=>
  induction q with
  |dN d u=>
   induction r with
   |dN f v=>
    dsimp only[vS];split
    .rename_i h;refine iT h ?_;intro C D g;intro Q E k;have i:∀b o',s.heap.get? b=fR o'->(s.heap.push {cls:=.type "range",data:=.fields #[.int c t,.int d u,.int f v]}).get? b=fR o':=λZ Z e=>iW _ e;have a:s.heap.objs.size<=(s.heap.push {cls:=.type "range",data:=.fields #[.int c t,.int d u,.int f v]}).objs.size:=by rw[kt];exact jA _
     refine call_range_3 (ma g.1) ?_ (.inl (af4 (by lia)));exact LU j (gu m a) C D g (n.keep i a) (afv ..) λF G H b x I p=>k F G H b ((gS.al i a).trans x) I p
    .trivial
   |_=>trivial
  |_=>trivial
 |_=>trivial
def ZX(r:A.handled=fU)(C:N<=s.heap.objs.size)(m:gp z y s.heap)(p:VR z v c):gJ l own X (λQ E s=>gg (gk gh w) A (ju (.type "enumerate") [c]) (λx D=>gg (gk gh w) A (pD x) Q E D) E s) (rG A N) z s (xQ v y):=by
 have u:∀{f:hV},s.heap.objs.size+2<=f.objs.size->∀b∈[s.heap.objs.size+1,s.heap.objs.size],N<=b/\iR z b/\b<f.objs.size:=λd b F=>by
  have:s.heap.objs.size<=b/\b<=s.heap.objs.size+1:=by
   rcases gX.mp F with e|e
   .exact⟨(jo (gC e.symm)),(gC e)⟩
   .have:=js.mp e;exact⟨(gC this.symm),(pA (gC this))⟩
  exact iy (gu C this.1) (pd m this.1) (gu (oQ this.2) d)
 induction p with
 |dQ b t=>refine λQ E k=>Yq λf g n d h=>?_;have j:=gu (pz _ _) (gC d.symm);exact Ke g (k z f s.toks _ (gS.al h j) (m.keep h j) (rh _ _ _ rfl (u6 r (aeX _)) ⟨⟨_,g⟩,n⟩ (u (gC d.symm))))
 |@dO i a B=>
  dsimp only[xQ];rcases vE i y with⟨xs,G,o⟩|o
  .refine lE (nW o)<|m.lK B G λI H q=>λQ E k=>call_enumerate_list H.isList λf g n d h=>?_;have j:=gu (pz _ _) (gC d.symm);exact Ke g (k z f s.toks _ (gS.al h j) (m.keep h j) (rh _ _ _ rfl (u7 r (aeX _) B) ⟨⟨_,g⟩,n⟩ (u (gC d.symm))))
  .exact lE (lW o) trivial
 |_=>trivial
def m5(t:A.handled=fU)(B:N<=s.heap.objs.size)(d:gp z y s.heap)(p:VR z u c)(C:VR z v h):gJ l own X (λQ E s=>gg (gk gh w) A (ju (.type "zip") [c,h]) (λx D=>gg (gk gh w) A (pD x) Q E D) E s) (rG A N) z s (yE u v y):=by
 induction p with
 |@dO i a g=>
  induction C with
  |@dO j b m=>
   dsimp only[yE];rcases vE i y with⟨xs,F,e⟩|e
   .refine lE (nW e) ?_;rcases vE j y with⟨R,G,f⟩|f
    .refine lE (nW f)<|d.lK g F λS H q=>d.lK m G λT I V=>λQ E k=>call_zip_2 H.isList I.isList λJ n K L M O Y3 o=>?_;have r:=gu (pz _ _) (gC Y3.symm);refine agn n (k z J s.toks _ (gS.al o r) (d.keep o r) (rh _ _ _ rfl (adJ t ?_ g m) (su n K (qA _ _ L) M O) (λb P=>?_)))
     .refine(MF ?_ ?_ ?_ ?_ ?_ ?_ ?_ ?_ ?_ ?_)<;>first|exact jt (by lia)|exact tN (by lia)
     .have:s.heap.objs.size<=b/\b<=s.heap.objs.size+4:=by
       have:b=s.heap.objs.size+4\/b=s.heap.objs.size+2\/b=s.heap.objs.size+3\/b=s.heap.objs.size\/b=s.heap.objs.size+1:=by simpa using P
       lia
      exact iy (gu B this.1) (pd d this.1) (by exact gu (oQ this.2) (gC Y3.symm))
    .exact lE (lW f) trivial
   .exact lE (lW e) trivial
  |_=>trivial
 |_=>trivial
def aaN{q:f_×List gq}(h:AL k e=fR q):∃p Z8,e=.Call (.Name q.1 p) q.2 [] Z8/\k.lookup q.1=fR .globalImplicit/\(q.1="range"\/q.1="enumerate"\/q.1="zip"):=by
 refine bI h λu a h=>bI h λf b h=>?_;split at h;rename_i c;obtain rfl:=gz h;refine gI (HT a) λZ8 a=>gI (rS b) λp b=>⟨p,Z8,by rw[a,b,wy.mp c.1],c.2⟩;exact nS h
def Gf(D:pG)(G:jM)(J:SV T d n)(K:SL T d n)(S:iD d l k U env A z s.heap)(F:gp z y s.heap)(I:N<=s.heap.objs.size):gJ l [] (gL l []) (λQ E s=>gg (gk gh w) A (iu h env) (λx L=>gg (gk gh w) A (pD x) Q E L) E s) (rG A N) z s (tG (mZ T n) k U h y):=by
 revert d z y D G J K S F I;revert T n l k U env A N h s;refine @(qj E1 ?_);generalize gN.1.1.1.1=T,gN.1.1.1.2=n,gN.1.1.2=l,gN.1.2.1=k,gN.1.2.2=U,gN.2.1.1.1=env,gN.2.1.1.2=A,gN.2.1.2=N,gN.2.2.1=h,gN.2.2.2=s;intro d z y D G J K S F I;have H:=S.cx.dN;unfold tG;generalize e:AL k h=q;induction q with|none=>exact gJ.bind gL.pre (.of (J _ _ _ _ _ _ _ _ _ S F)) λv r j m o c Z x i p=>j5 H (gu I x.size) i p|some q=>
  refine kJ (aaN e) λp Z8 e R V=>?_;dsimp only;split
  .rename_i M;refine gP (uI.mp M) λM W=>lE e ?_;induction q with
   |mk f X=>
   induction X with|nil=>exact fT W|cons a a3=>
   have O:=λ{nm:String} (Y:lH f=fR (.type nm)) a0 a1 (g:∀b r j m o t,N<=(sU s m o).heap.objs.size->gp j r (sU s m o).heap->iC j b t->gJ l [] (gL l []) (λQ E s=>gg (gk gh w) A (ju (.type nm) t) (λx L=>gg (gk gh w) A (pD x) Q E L) E s) (rG A N) j (sU s m o) (xV f b r))=>aaO (p:=p) (Z8:=Z8) gL.pre M G S.L R a1 Y a0 F (K _ _ _ _ _ _ _ _ _ _ S F) λb r j m o t x i u=>g b r j m o t (gu I x.size) i u;rcases V with e|e|e<;>obtain rfl:f=_:=e
   .refine O (show lH "range"=fR (.type "range") by decide+kernel) (show fZ "range"≠_ by decide+kernel) D.a λb r j m o t B i u=>lE (if_pos rfl:xV _ b=Mx b) ?_;induction u with|dO=>trivial|dN C q=>induction q with|dO=>exact j7 H B i C|dN P q=>induction q with|dO=>trivial|dN a2 q=>induction q with|dO=>exact j8 H B i C P a2|dN _ _=>trivial
   .refine O (show lH "enumerate"=fR (.type "enumerate") by decide+kernel) (show fZ "enumerate"≠_ by decide+kernel) D.dG λb r j m o t B i u=>lE (rfl:xV "enumerate" b=fS (ig (sF b)) xQ) ?_;induction u with|dO=>trivial|dN C q=>induction q with|dO=>exact ZX H B i C|dN _ _=>trivial
   .refine O (show lH "zip"=fR (.type "zip") by decide+kernel) (show fZ "zip"≠_ by decide+kernel) D.zip λb r j m o t B i u=>lE (rfl:xV "zip" b=fS (ig (AO b)) λq=>yE q.1 q.2) ?_;induction u with|dO=>trivial|dN C q=>induction q with|dO=>trivial|dN P q=>induction q with|dO=>exact m5 H B i C P|dN _ _=>trivial
  .trivial
structure jH(fs own e:List gG)(z:Va)(h:hV)(d:Va)(c:hV):Prop where
 sub:jI z d
 new:∀i b a,d i b=fR a->z i b=fR a\/h.objs.size<=a
 keep:∀a o,iR z a->a∉own->a∉e->h.get? a=fR o->(a∉fs->c.get? a=fR o)/\∃f,c.get? a=fR {o with slots:=f}
 there:∀a,a∈own->a<h.objs.size->∀o,h.get? a=fR o->∃o',c.get? a=fR o'/\(NF o->NF o')
 size:h.objs.size<=c.objs.size
def gS.toV{fs own b:List gG}(x:gS fs own z h t y):jH fs own b z h t y:=⟨x.sub,x.new,λa o n m Z e=>x.keep a o n m e,x.there,x.size⟩
def gS.dc(x:gS fs t z h y L)(k:∀a∈t,a∈N):jH fs [] N z h y L:=⟨x.sub,x.new,λa o n Z m e=>x.keep a o n (λb=>m (k a b)) e,λZ m=>(nM m),x.size⟩
def jH.aC(x:jH fs own y z h t L)(n:iR z a)(l:a<h.objs.size):iR t a:=⟨n.1,λi b e=>by
 rcases x.new i b a e with q|q
 .exact n.2 i b q
 .exact absurd l (mf.mpr q)⟩
def jH.trans(x:jH fs own t z h y L)(c:jH fs own t y L N P):jH fs own t z h N P where
 sub:=x.sub.trans c.sub
 new:=λi b a e=>(c.new i b a e).elim (x.new i b a) λq=>.inr (gu x.size q)
 keep:=λa o n m f e=>by refine hZ λg d=>?_;obtain⟨j,B,p⟩:=x.keep a o n m f e;obtain⟨_,r,s⟩:=c.keep a _ (x.aC n (iB e)) m f p;refine d ?_;clear d;exact⟨λq=>(c.keep a o (x.aC n (iB e)) m f (j q)).1 q,r,s⟩
 there:=λa m l o e=>by refine hZ λg d=>gy (x.there a m l o e) λo' u k=>gy (c.there a m (pU l x.size) o' u) λv w A=>?_;refine d ?_;clear d;exact gx v w (λq=>A (k q))
 size:=gu x.size c.size
def jH.dN:jH fs own t z h z h:=(gS.dN fs own z h).toV
def jH.ext(x:jH fs own t z h y L)(k:∀a∈t,h.objs.size<=a):gS fs own z h y L:=⟨x.sub,x.new,λa o n m e=>x.keep a o n m (λb=>absurd (iB e) (mf.mpr (k a b))) e,x.there,x.size⟩
def jH.aM(c:∀b o,b∉t->h.get? b=fR o->x.get? b=fR o)(f:h.objs.size<=x.objs.size)(d:∀a∈own,a∉t):jH fs own t z h z x:=⟨jI.dN z,λZ Z Z e=>.inl e,λa o Z Z m e=>⟨λZ=>c a o m e,o.slots,c a o m e⟩,λa m Z o e=>gx o (c a o (d a m) e) id,f⟩
def gp.but{f:List gG}(r:gp z y h)(g:∀b∈f,iR z b)(k:∀b∈f,iI.objs.size<=b)(d:∀b o,b∉f->h.get? b=fR o->t.get? b=fR o)(l:h.objs.size<=t.objs.size):gp z y t where
 bX:=r.bX
 lim:=r.lim
 inj:=r.inj
 there:=λi b a e=>gI (r.there i b a e) λo q=>⟨o,d a o (λc=>(g a c).2 i b e) q⟩
 new:=r.new
 aE:=λi o e=>(r.aE i o e).mono (jI.dN z) λb a Z1 q m=>d a Z1 (λc=>(g a c).2 i b q) m
 base:=λb o e=>d b o (λc=>absurd (iB e) (mf.mpr (k b c))) (r.base b o e)
 size:=gu r.size l
 aP:=r.aP
 tab:=λp j=>(r.tab p j).mono (jI.dN z) (λZ e=>e) λo e=>d p.1 o (λc=>(g _ c).1 (Po j)) e
def lU.bL(x:lU z l h)(e:jH fs own t z h y N)(p:∀L∈iF l,L∉t):lU y l N:=λenv m=>by
 refine hZ λr i=>?_;obtain⟨a,L,o,b,c,d,f,g⟩:=x env m;refine i ?_;clear i;refine⟨a,L,?_⟩;have j:=e.aC f (iB c);by_cases n:L∈own;refine gy (e.there L n (iB c) o c) λo' q k=>Ab o' b q (k d) j g;refine gI ((e.keep L o f n (p L (Bs.mpr (gx env m b))) c).2) λs q=>Ab _ b q d j g
def LR.bL(x:LR z k U env h)(e:jH fs own y z h L N)(n:env.locals∉own/\env.locals∉y)(l:∀f c,env.cells.lookup f=fR c->(k.lookup f=fR .cell\/k.lookup f=fR .free)->c∉own/\c∉y):LR L k U env N where
 kind:=x.kind
 az:=x.az
 b_:=x.b_
 c_:=x.c_
 bi:=x.bi
 aH:=x.aH
 ns:=by refine gy x.ns λm a b=>gx m (NQ a λo q=>(e.keep _ o x.aC.1 n.1 n.2 q).2) (λf v i j=>gy (b f v i j) λc p q=>gx c p (q.mono e.sub))
 cell:=λf g=>by refine kJ (x.cell f g) λc s a b d=>jq c s a (KZ b λo q=>(e.keep _ o (x.offc f c a).1 (l f c a g).1 (l f c a g).2 q).2) (λv i=>gy (d v i) λu p q=>gx u p (q.mono e.sub))
 aC:=by refine gy x.ns λm w Z=>nN w ?_;intro o _ _ q _;exact⟨e.aC x.aC.1 (iB q),x.aC.2⟩
 offc:=λf c a=>by refine jZ (x.offc f c a) λp q r t=>kg (e.aC p t) q r (pU t e.size)
 cq:=x.cq
noncomputable def iH(k:ii)(env:ji):List gG:=env.locals::k.filterMap λa=>if a.2=.cell then env.cells.lookup a.1 else fU
def NV:env.locals∈iH k env:=rY
def Ζ(a:k.lookup x=fR .cell)(b:env.cells.lookup x=fR c):c∈iH k env:=by refine qp _ (Bs.mpr (gx (x,.cell) ?_ (by simpa using b)));have:=rX.mp a;refine jR this ?_;intro X7 d e _;refine lE e ?_;simp
def Az(L:LR z k U env h):∀a∈iH k env,iR z a:=λa b=>by
 rcases gX.mp b with rfl|b
 .exact L.aC.1
 .refine fE b λc Z e=>?_;by_cases q:c.2=.cell;rw[if_pos q]at e;exact(L.offc _ _ e).1;rw[if_neg q]at e;injection e
def G_{env:ji}(a:env.scope.kind=.function):(env.scope.kind==.class||(env.scope.kind==.module&&env.locals !=env.globals))=fY:=lE a rfl
def rM(x:f_)(v:V)(U:gA)(a:f_):(gW U x v).lookup a=if a=x then fR v else U.lookup a:=by
 refine lE jn ?_;by_cases q:a=x;subst q;simp;have:=beq_eq_false_iff_ne.mpr q;exact lE this (lE (if_neg q) rfl)
abbrev LP(k:ii)(env:ji):Va->hV->gA->Unit->Prop:=λz h U Z=>LR z k U env h
def zK(L:LR z k U env s.heap)(r:gp z y s.heap)(F:VR z v c):gJ l (iH k env) X (gg (gk gh w) A (storeName env x c)) (LP k env) z s (nx k U x v y):=by
 revert y c X A L r F;revert z k U env v l x s;refine @(lx E1 ?_);generalize gw.1.1.1=z,gw.1.1.2=k,gw.1.2.1=U,gw.1.2.2=env,gw.2.1.1=v,gw.2.1.2=l,gw.2.2.1=x,gw.2.2.2=s;intro y c X A L r F;unfold nx;generalize n:k.lookup x=T;induction T with|none=>trivial|some V=>
  induction V with
  |«local»=>
   refine gy L.ns λm H I=>?_;have J:env.kindOf x=fR .local:=by
    rcases L.aH x _ n with h|⟨h,_⟩
    .exact h
    .injection h
   refine λQ E K=>Td J H (λM C f=>?_) (G_ L.kind);refine K z M _ () (gS.cQ NV f (Heap.Ns.there C)) (r.sameBut L.aC.1 L.aC.2 f)<|{L with
    ns:=gx _ C (λd u e b=>by
     rw[rM]at b;by_cases q:d=x;rw[if_pos q]at b;obtain rfl:=gz b;exact gx c (by simp[q]) F;rw[if_neg q]at b;refine gy (I d u e b) λg i B=>gx g (by simp[q,i]) B)
    cell:=λd e=>by
     refine kJ (L.cell d e) λg R i B S=>?_;have N:=(L.offc d g i).2.2.1;refine gy B ?_;intro o G O;refine jq g R i (gx o ((f.2 _ N).trans G) O) (λu b=>?_);rw[rM]at b;have q:d≠x:=λj=>by subst j;rw[n]at e;rcases e with e|e<;>cases e
     rw[if_neg q]at b;exact S u b
    offc:=λd g a=>by refine jZ (L.offc d g a) λp q t u=>(kg p q t (by refine lE f.1 ?_;exact u))}
  |cell=>
   refine kJ (L.cell x (.inl n)) λg R i B S=>?_;have J:env.kindOf x=fR .cell:=by
    rcases L.aH x _ n with h|⟨h,_⟩
    .exact h
    .injection h
   refine gy (id B) λa4 a5 a6=>λQ E K=>wpAny_storeName_cell L.kind J i B λM C f=>?_;have P:=L.offc x g i;refine gy (id C) λo' W Y=>K z M _ () (gS.cQ (Ζ n i) f (gx o' W (λa7 j=>by rw[Y]at j;injection j))) (r.sameBut P.1 P.2.1 f)<|{L with
    ns:=by
     refine gy L.ns λm H I=>gx m (H.sameBut f (λj=>P.2.2.1 j.symm)) (λd u e b=>?_);rw[rM]at b;have q:d≠x:=λj=>by subst j;rw[n]at e;cases e
     rw[if_neg q]at b;exact I d u e b
    cell:=λd e=>by
     by_cases q:d=x;subst q;refine jq g (fR c) i C (λu b=>?_);rw[rM,if_pos rfl]at b;obtain rfl:=gz b;exact gx c rfl F;refine kJ (L.cell d e) λD a0 G O a1=>?_;have N:D≠g:=λj=>q (L.cq d x D G (j▸i));refine gy O ?_;intro o a2 a3;refine jq D a0 G (gx o ((f.2 _ N).trans a2) a3) (λu b=>?_);rw[rM,if_neg q]at b;exact a1 u b
    offc:=λd D a=>by refine jZ (L.offc d D a) λp q t u=>(kg p q t (by refine lE f.1 ?_;exact u))}
  |_=>trivial
def Ny(e:nu (t::ts)=fR xs):∃x p a,t=.Name x p/\nu ts=fR a/\xs=x::a:=bI e λx b c=>gI (rS b) λp d=>mI c λa f g=>ti x p a d f g.symm
def Nz:∀{ts:List gq} {xs:List f_},nu ts=fR xs->(xi ts env).length=xs.length/\(xi ts env).findIdx? (·.1)=fU:=by intro ts;induction ts with|nil=>intro xs e;obtain rfl:=gz e;exact⟨rfl,rfl⟩|cons t r a=>intro xs e;refine nN (Ny e) λx p i b c=>?_;obtain rfl:=b;refine gP c ?_;intro d f;obtain rfl:=f;refine gP (a d) λg h=>⟨congrArg (·+1) g,?_⟩;refine lE (List.findIdx?_cons) (lE h ?_);rfl
def gJ.block(L:LR z k U env s.heap)(i:∀C y e c,gL l [] z s.heap C y e c->X z s.heap C y e c)(h:gJ l [] (gL l []) τ P z s r):gJ l (iH k env) X τ (λd c a b=>P d c a b/\LR d k U env c) z s r:=by induction r with|a=>trivial|c C y=>exact λQ E x=>h Q E λe c g f=>x e c g (i _ _ _ _ f)|b a y=>exact λQ E x=>h Q E λd c g b f r p=>x d c g b (f.lift (Az L)) r ⟨p,L.ext f (by simp) λZ Z Z Z=>by simp⟩
def LV(h:rc l (iH k env) X):∀{ts:List gq} {xs:List f_} {b:List V} {a:List gv} {z:Va} {y:H} {s:gK} {U:gA},nu ts=fR xs->LR z k U env s.heap->gp z y s.heap->iC z b a->gJ l (iH k env) X (gg (gk gh w) A (xj ((xi ts env).map (·.2)) a)) (LP k env) z s (mQ k U xs b y):=by
 intro ts;induction ts with
 |nil=>intro xs b a z y s U e L r f;obtain rfl:=gz e;induction f with|dO=>intro Q E i;exact gU (i z s.heap s.toks () (gS.dN _ _ _ _) r L)|dN _ _=>trivial
 |cons t ts j=>
  intro xs b a z y s U e L r f;induction t using jQ with
  |Name x p=>have d:(nu ts).map (x::·)=fR xs:=e;generalize g:nu ts=m;induction m with|none=>rw[g]at d;exact nS d|some D=>rw[g]at d;obtain rfl:=gz d;induction f with|dO=>trivial|@dN v c b a n q=>refine gJ.aD (gJ.bind h (zK (A:=A) L r n) λℓ' F G I J _ _ o u B=>j g B u (iC.mono q o.sub)) λQ E C=>(?_:gg _ _ (pC a (pY (.Name x p) env c)>>=λZ=>xj ((xi ts env).map (·.2)) a) _ _ _);exact gf (jp (BT C))
  |_=>exact nS e
def m6(j:t≠h)(n:Nat):∀(i:Nat) (s:gK) (Q:List gv->gK->Prop) (E:gv->gK->Prop),s.heap.IsListIter h t i->s.heap.IsList t Z3->i+n<=Z3.size->(∀a,a.IsListIter h t (i+n)->oR h s.heap a->Q ((Z3.toList.drop i).take n) {s with heap:=a})->gg (gk gh w) A (draw (.ref h) n) Q E s:=by
 induction n with|zero=>refine λi s Q E b Z Z c=>(?_:gg _ _ (pure []) Q E s);exact gU (by simpa using c s.heap b (agP ..))|succ n k=>
  intro i s Q E b d e c;have f:i<Z3.size:=iX e;refine gf (agp b d (x:=Z3[i]) (by simp[f]) λr l g=>?_);refine gf (jp (k (i+1) _ _ _ l (d.extBut g.extBut j) (iX e) λm o p=>gU ?_));have q:Z3.toList.drop i=Z3[i]::Z3.toList.drop (i+1):=by simp[Eo,f]
  have:=c m (by refine lE (show i+(n+1)=i+1+n from(by simp+arith))<|o) (g.trans p);rw[q,List.take_succ_cons]at this;exact this
def ac8(c:A.handled=fU)(a:s.heap.IsList t Z3)(d:∀f,tQ s.heap.objs.size s.heap f->Q Z3.toList {s with heap:=f}):gg (gk gh w) A (SM (.ref t) Z3.size fU) Q E s:=by
 revert Q A E c a d;revert t s Z3;refine @(yk E1 ?_);generalize mC.1.1=t,mC.1.2=s,mC.2=Z3;intro Q A E c a d;have g:t≠s.heap.objs.size:=by refine gy a ?_;intro o j _;exact jt (iB j)
 refine gf ?_
 .refine gf (Ki a.typeIs slot_list_iter.lookup ?_);refine gU ?_;simp only[uJ,if_false];refine gf (jp (Kf a ?_));refine gf (jp (m6 g Z3.size 0 _ _ _ (iU _ (lu _ rfl) rfl rfl) (a.at λo e=>iW _ e) (by simp+arith) λk l h=>?_));have m:aeI Z3.size (QL 0 Z3.toList)=Z3.toList:=by
   exact lE yL<|uN (by simp)
  refine lE m<|lE (if_neg (by simp)) ?_;have n:k.IsList t Z3:=(a.at λo e=>iW _ e:(s.heap.push _).IsList t Z3).extBut h.extBut g;refine gf (jp (ago c l n (by simp) λp q=>?_));simp only[Option.isSome_none,uJ,if_false];refine gU (d p λb o i e=>q b o i (h.extBut b o i (iW _ e)))
def Gg(t:A.handled=fU)(r:gp z y s.heap)(D:VR z v x):gJ l own X (gg (gk gh w) A (SM x m fU)) (λz Z d F=>iC z d F) z s (kG v m y):=by
 unfold kG;induction D with
 |@dO i a u=>unfold Ov;rw[xL];refine qF λo B=>?_;have C:∀c:hV,tQ s.heap.objs.size s.heap c->∀b o,s.heap.get? b=fR o->c.get? b=fR o:=λc x b o e=>x b o (jt (iB e)) e;induction o with|a xs=>refine lE KS<|jf λh=>r.lK u B λd j q=>?_;have Y3:m=d.toArray.size:=lE lz (rE q.length (lE h rfl));refine λQ E k=>lE Y3<|tH (ac8 t j.isList λc p f=>?_);have g:=C c p;exact k z c s.toks _ (gS.al g f) (r.keep g f) (by simpa using q)|c xs=>refine lE KS<|jf λh=>r.tK u B λd n j q=>?_;have Y3:m=d.toArray.size:=lE lz (rE q.length (lE h rfl));refine λQ E k=>lE Y3<|tH (af3 t (⟨_,j,rfl,_,rfl⟩) λc p f=>?_);have g:=C c p;exact k z c s.toks _ (gS.al g f) (r.keep g f) (by simpa using q)|_=>trivial
 |_=>trivial
set_option tactic.hygienic true in
def LW(g:rc l (iH k env) X)(G:∀C y e c,gL l [] z s.heap C y e c->X z s.heap C y e c)(q:A.handled=fU)(L:LR z k U env s.heap)(r:gp z y s.heap)(j:BZ z s.heap N v):gJ l (iH k env) X (gg (gk gh w) A (pY t env v)) (LP k env) z s (nJ k U t N y):=by
 unfold nJ;generalize f:oK t=d;induction d with
 |some x=>obtain⟨p,rfl⟩:=rS f;induction N with|b _ _=>trivial|a v=>exact(zK L r j).aD λQ E h=>BT h
 |none=>
 generalize H:uD t=d;induction d with|none=>trivial|some ts=>
 obtain⟨W,Y,rfl⟩:=H_ H;refine lE sj ?_;induction N with
 |a u=>generalize e:nu ts=d;induction d with|none=>trivial|some xs=>refine lE sj<|gP (Nz (env:=env) e) λm n=>gJ.aD (gJ.bind g ((Gg q r j).block L G) λa0 a1 a2 c a3 a4 Z x I B=>LV (A:=A) g e B.2 I B.1) λQ E h=>?_;rw[assign_Tuple];unfold unpack;refine lE m (lE n ?_);exact gf (lk (gf (jp h)))
 |b a b=>
  generalize e:nu ts=d;induction d with|none=>trivial|some xs=>
   refine lE sj<|(?_:gJ _ _ _ _ _ _ _ ((if xs.length=2 then mQ k U xs [a,b]else gc:M gA) y));split;rename_i J;refine gP (Nz (env:=env) e) λm n=>nN j ?_;intro T x D K O;obtain rfl:=K;refine iT O ?_;intro P f R;refine gJ.quiet (X9:=λc S=>gg (gk gh w) A (xj ((xi ts env).map (·.2)) [x,D])) g (λZ=>True) (λQ E V=>?_) λc S F i Z=>LV g e (L.ext (gS.al (fs:=[]) (own:=[]) F i) (by simp) (λZ Z Z Z=>by simp)) (r.keep F i) (.dN f (.dN R .dO));rw[assign_Tuple];unfold unpack;refine lE m (lE n (lE J ?_));refine gf (lk (gf (jp (tH (af3 (items:=#[x,D]) q P λc f i=>?_)))));exact V c s.toks ((λc x b o e=>x b o (jt (iB e)) e) c f) i trivial;trivial
def Ye(e:fS m f y=.b b t):∃a c,m y=.b a c/\f a c=.b b t:=by unfold fS at e;generalize h:m y=d;induction d with|b a c=>rw[h]at e;exact nF a c rfl e|c _ _=>rw[h]at e;injection e|a=>rw[h]at e;injection e
def bK{G:Prop}(e:fS m f y=.b b h)(k:∀a c,m y=.b a c->f a c=.b b h->G):G:=jR (Ye e) k
def CN(e:im t y=.b u x):x=y/\∀g∈t,y.get g.1=fR g.2:=by
 unfold im at e;split at e;rename_i h;cases e;exact⟨rfl,h⟩;injection e
def Dm(m:M t)(y:H):(∃a c,m y=.b a c/\iL m y=.b a c)\/iL m y=.a:=by unfold iL;generalize h:m y=d;induction d with|b b e=>exact .inl (nF b e rfl rfl)|c _ _=>exact .inr rfl|a=>exact .inr rfl
def YV:∀{r:List It} {U:gA} {Z7 a:List V} {y c:H},jw h t x z L U Z7 r y=.b a c->Z7.length<=a.length:=by intro r;induction r with|nil=>intro U Z7 a y c e;refine bK e λZ i Z d=>?_;cases d;exact ij _|cons l r f=>intro U Z7 a y c e;refine bK e λZ i Z d=>bK d λZ m Z j=>bK j λb n Z g=>?_;induction b with|false=>exact f g|true=>refine bK g λv o Z k=>?_;have:=f k;rw[px]at this;exact gu (pz _ _) this
def oY.step{A:lj}{z:Va}{y:H}{s:gK}{j:List gG}{p:Va}{I:gG}{q:List (Nat×O)}{Z3:List It}{k:Nat->hV->Prop}(W:oY A p I j q Z3 k){i:Nat}{f:It}{t:gq}{N:gK->Prop}{Q:gv->gK->Prop}{E:gv->gK->Prop}(u:Z3[i]?=fR f)(B:sr t f)(C:k i s.heap)(D:jI p z)(r:gp z y s.heap)(F:∀g∈q,y.get g.1=fR g.2)(G:∀b∈j,iR z b)(J:∀v d l,BZ z d f v->k (i+1) d->(∀b o,b∉j->s.heap.get? b=fR o->d.get? b=fR o)->s.heap.objs.size<=d.objs.size->Q v (sU s d l)):gg (gk gh w) A (uZ (.ref I)) (λr m=>match r with|none=>N m|some v=>gg (gk gh w) A (JV t (.ref I) v) (λZ e=>Q v e) E m) E s:=by refine jL (Id (ij s.heap.objs.size) (W.item i f t s z y (λv e=>s.heap.objs.size<=e.heap.objs.size->Q v e) E u B C D r F G λv d l a b c n=>J v d l a b c n)) (λr m x=>?_) λZ Z x=>x.2;refine gP x ?_;intro n x;induction r with|none=>exact x.elim|some v=>exact jL (Id n x) (λZ e h=>h.2 h.1) λZ Z h=>h.2
def oY.fin{d:Nat->hV->Prop}(W:oY A t I h x Z3 d)(e:d Z3.length s.heap)(f:jI t z)(r:gp z y s.heap)(i:∀g∈x,y.get g.1=fR g.2)(j:∀b∈h,iR z b)(l:∀a c,(∀b o,b∉h->s.heap.get? b=fR o->a.get? b=fR o)->s.heap.objs.size<=a.objs.size->Q fU (sU s a c)):gg (gk gh w) A (uZ (.ref I)) Q E s:=tH (W.done s z y _ _ e f r i j λa c k m=>l a c k m)
def Lr{R:pW->gK->Prop}(I:Nat->gK->Prop)(b:∀n s,I n s->gg (gk gh w) A (uZ t) (λr d=>match r with
  |none=>R (.ok .next) d
  |some v=>gg (gk gh w) A (JV y t v) (λZ g=>gg (gk gh w) A (pY y env v) (λZ i=>gg (gk gh w) A (forIn z fW λc r=>if r=fW then do let L<-tV c env (iu c env);pure (Bn L)else pure (Bn r)) (λL f=>if L=fW then gg (gk gh w) A (iu N env) (λx j=>gg (gk gh w) A (ju (.builtin "list.append") [Z7,x]) (λZ k=>∃m,m<n/\I m k) (BO (gk gh w) A env λe s'=>R (.error e) s') j) (BO (gk gh w) A env λe s'=>R (.error e) s') f else∃m,m<n/\I m f) (BO (gk gh w) A env λe s'=>R (.error e) s') i) (BO (gk gh w) A env λe s'=>R (.error e) s') g) (BO (gk gh w) A env λe s'=>R (.error e) s') d) (BO (gk gh w) A env λe s'=>R (.error e) s') s)
 (n:Nat) (h:I n s):lF (gk gh w) A (.compLoop (.ListComp N [⟨y,P,z,0⟩] Q Z8) 0 t Z7 env) R s:=by
 revert s b n h;revert A t y env z N Z7 P Q Z8 R I;refine @(vO E1 ?_);generalize hG.1.1.1.1=A,hG.1.1.1.2=t,hG.1.1.2=y,hG.1.2.1.1=env,hG.1.2.1.2=z,hG.1.2.2=N,hG.2.1.1.1=Z7,hG.2.1.1.2=P,hG.2.1.2=Q,hG.2.2.1.1=Z8,hG.2.2.1.2=R,hG.2.2.2=I;intro s b n h;refine codeAny_loop rfl I (λn s p=>?_) n h;refine wpAny_noted ?_;rw[compTurn_list];refine gf (lk (gf (jL (b n s p) (λr d l=>?_) λZ Z a=>a)));induction r with|none=>exact gU l|some v=>refine gf (jL l (λZ g q=>?_) λZ Z a=>a);refine gf (jL q (λZ i u=>?_) λZ Z a=>a);refine gf (jL u (λB f o=>?_) λZ Z a=>a);induction B with|false=>exact gU ⟨rfl,o⟩|true=>exact gf (gf (jL o (λx j C=>gf (jL C (λZ k D=>gU (gU ⟨rfl,D⟩)) λZ Z a=>a)) λZ Z a=>a))
noncomputable def Cd:XT:=λZ Z Z Z Z Z=>True
def Cd.pre:rc l own Cd:=λZ Z Z Z Z Z Z Z Z Z=>trivial
def uC(T:ie)(n:Nat)(k:ii)(a:List gq):gA->M Bool:=λℓ'=>match a with|[]=>fX fW|[c]=>qf T n k ℓ' c|_=>gc
def l9(j:SB T d n)(S:iD d l k U env A z s.heap)(r:gp z y s.heap)(e:uC T n k h U y=.b b L)(i:∀f a g,gS (iF l) [] z s.heap f a->gp f L a->Q b (sU s a g)):gg (gk gh w) A (forIn h fW λc r=>if r=fW then do let N<-tV c env (iu c env);pure (Bn N)else pure (Bn r)) Q E s:=by
 induction h using jg with|nil=>cases e;exact agr (i z s.heap s.toks (gS.dN _ _ _ _) r)|cons c t=>
  induction t using jg with|cons _ _=>exact rI e rfl|nil=>
   have:=j A l k U env c z y s S r;rw[show qf T n k U c y=.b b L from e]at this;exact wpAny_tests_one (this Q E λf a g o x m p=>p▸i f a g x m)
def te{P:Prop}(h:∀G:Prop,(P->G)->G):P:=h P id
def Mq(a:nJ y z h t L=.b N P):sr h t:=by
 unfold nJ at a;unfold sr;generalize oK h=q at*;induction q with
 |some x=>induction t<;>first|trivial|exact rI a rfl
 |none=>generalize uD h=q at*;induction q with|some x=>rfl|none=>exact rI a rfl
inductive Tf(l:List ji)(h:List gG)(z:Va)(s:gK)(D:gG)(c:ji)(j:ii)(d:Nat)(k:Nat->hV->Prop)(C:gA->List V->Nat->H->Prop)(m:Nat)(s':gK):Prop|mk (b:Va) (e:H) (f:gA) (a:hV) (n:oq) (i:Nat) (Z7:List V) (g:List gv) (o:s'=(sU s a n)) (p:m=d-i) (q:i<=d) (r:jH (iF l) [] (c.locals::D::h) z s.heap b a) (t:gp b e a) (u:LR b j f c a) (v:a.PlainList D g.toArray) (w:iC b Z7 g) (x:k i a) (y:C f Z7 i e)
def YX{R:pW->gK->Prop}{a9:Nat->hV->Prop}(d1:SV T d n)(d2:SB T d n)(W:oY A z I N gs Z3 a9)(b0:Cx A l d)(d3:lU z l s.heap)(L:LR z P ℓ' h s.heap)(d4:∀F∈P,F.2≠.cell)(r:gp z y s.heap)(b1:s.heap.PlainList D #[])(d5:a9 0 s.heap)(E:∀b∈N,iI.objs.size<=b/\iR z b/\b<s.heap.objs.size)(S:iI.objs.size<=D/\iR z D)(b6:D≠h.locals)(b2:D∉N)(b3:h.locals∉N)(b7:∀F c,h.cells.lookup F=fR c->c≠D/\c∉N)(V:∀L∈iF l,L∉N/\L≠D/\L≠h.locals)(e:jw gs (λY d6=>nJ P Y a0 d6) (uC T n P a1) (λℓ'=>iA T n P ℓ' Q) im ℓ' [] Z3 y=.b vs a2)(d7:vs.length<=hJ)(d8:∀C M b8 f3 m,jH (iF l) [] (h.locals::D::N) z s.heap C M->gp C a2 M->iC C vs f3->M.PlainList D f3.toArray->iR C D->M.Ns h.locals m->R (.ok .next) (sU s M b8)):lF (gk gh w) A (.compLoop (.ListComp Q [⟨a0,a3,a1,0⟩] a4 Z8) 0 (.ref I) (.ref D) h) R s:=by
 revert d ℓ' y a3 a4 Z8 d1 d2 W b0 d3 L d4 r b1 d5 E S b6 b2 b3 b7 V e d7 d8;revert T n A z I N gs Z3 l P h D a0 a1 Q vs a2 s R a9;refine @(vP E1 ?_);generalize gH.1.1.1.1.1=T,gH.1.1.1.1.2=n,gH.1.1.1.2=A,gH.1.1.2.1=z,gH.1.1.2.2=I,gH.1.2.1.1.1=N,gH.1.2.1.1.2=gs,gH.1.2.1.2=Z3,gH.1.2.2.1=l,gH.1.2.2.2=P,gH.2.1.1.1.1=h,gH.2.1.1.1.2=D,gH.2.1.1.2=a0,gH.2.1.2.1=a1,gH.2.1.2.2=Q,gH.2.2.1.1.1=vs,gH.2.2.1.1.2=a2,gH.2.2.1.2=s,gH.2.2.2.1=R,gH.2.2.2.2=a9;intro d ℓ' y a3 a4 Z8 d1 d2 W b0 d3 L d4 r b1 d5 E S b6 b2 b3 b7 V e d7 d8;have d9:∀a∈iH P h,a=h.locals:=λa B=>by
  rcases gX.mp B with rfl|B
  .rfl
  .refine fE B λF h7 e=>?_;rw[if_neg (d4 F h7)]at e;exact nS e
 have b9:D<s.heap.objs.size:=by refine gI b1 ?_;clear b1;intro _ e;exact iB e
 refine Lr (Tf l N z s D h P Z3.length a9 λY Z7 i f4=>jw gs (λY d6=>nJ P Y a0 d6) (uC T n P a1) (λℓ'=>iA T n P ℓ' Q) im Y Z7 (Z3.drop i) f4=.b vs a2) ?_ Z3.length ⟨z,y,ℓ',s.heap,s.toks,0,[],[],rfl,rfl,jT _,jH.dN,r,L,b1,.dO,d5,by refine lE yL<|e⟩;rintro m s' ⟨C,f4,Y,M,k9,i,Z7,O,rfl,rfl,h8,a5,c0,f5,c1,B,f6,c2⟩;refine te λG p=>?_;have b4:∀b∈N,iR C b:=λb f=>a5.aC (E b f).2.1 (E b f).2.2;have f7:=a5.aC S.2 b9;generalize X:Z3.drop i=h9;induction h9 with|nil=>have i0:=uO h8 (QM.mp X);subst i0;rw[X]at c2;refine hZ λf8 p=>bK c2 λZ i1 e0 e1=>gP (CN e0) λi2 e2=>?_;obtain rfl:=i2;refine p ?_;clear p;cases e1;refine p (W.fin f6 a5.sub c0 e2 b4 λa6 e3 H a7=>?_);have e4:jH (iF l) [] (h.locals::D::N) C M C a6:=jH.aM (λb o f=>H b o λk=>f (by simp[k])) a7 (by simp);refine hZ λf8 p=>gy f5.ns λi3 i4 Z=>gI c1 ?_;clear c1;intro J K;refine p ?_;clear p;exact d8 C a6 e3 O i3 (a5.trans e4) (c0.but b4 (λb f=>(E b f).1) H a7) B ⟨J,H _ _ b2 K⟩ f7 (i4.at' λo e=>H _ _ b3 e)|cons i5 Z4=>
  have f9:i<Z3.length:=by
   rcases yT i Z3.length with q|q
   .exact q
   .rw[ww q]at X;exact nC X
  have i6:Z3[i]?=fR i5:=by
   have:=IV (xs:=Z3) (i:=i) (j:=0);rw[X]at this;simpa using this.symm
  have g0:Z3.drop (i+1)=Z4:=by
   have:=congrArg aeH X;rwa [Q_]at this
  rw[X]at c2;refine hZ λf8 p=>bK c2 λZ i1 e0 e1=>gP (CN e0) λi7 e2=>?_;obtain rfl:=i7;refine bK e1 λc3 l0 e5 i8=>p ?_;clear p;refine p (W.step i6 (Mq e5) f6 a5.sub c0 e2 b4 λv a6 e3 i9 j0 H a7=>?_);refine te λG p=>?_;have e4:jH (iF l) [] (h.locals::D::N) C M C a6:=jH.aM (λb o f=>H b o λk=>f (by simp[k])) a7 (by simp);have g1:a6.PlainList D O.toArray:=by refine gI c1 ?_;clear c1;intro J K;exact⟨J,H _ _ b2 K⟩
  have b8:=LW (l:=l) (s:=(sU s a6 e3)) (t:=a0) Cd.pre (λZ Z Z Z Z=>trivial) b0.dN (f5.bL (fs:=iF l) (own:=[]) (jH.aM H a7 (by simp)) ⟨by simp,b3⟩ λF c a Z=>⟨by simp,(b7 F c a).2⟩) (c0.but b4 (λb f=>(E b f).1) H a7) i9;dsimp only at e5;rw[e5]at b8;refine p (b8 _ _ λl1 j1 l2 Z b5 j2 g2=>?_);refine te λG p=>?_;have g3:j1.PlainList D O.toArray:=by refine gI g1 ?_;clear g1;intro J K;exact⟨J,(b5.keep D _ f7 (λk=>b6 (d9 _ k)) K).1 λk=>(V D k).2.1 rfl⟩
  have c4:=(a5.trans e4).trans (b5.dc λa B=>by simp[d9 a B]);have g4:=d3.bL c4 λL j3=>by
   have:=V L j3;intro k;rcases gX.mp k with k|k
   .exact this.2.2 k
   .rcases gX.mp k with k|k
    .exact this.2.1 k
    .exact this.1 k
  refine bK i8 λb e6 j4 c5=>p (l9 d2 ⟨b0,g2,g4⟩ j2 j4 λg5 e7 g6 a8 g7=>?_);refine te λG p=>?_;have g8:∀{e8 j5:Va} {B f:hV},gS (iF l) [] e8 B j5 f->iR e8 D->(∀b∈N,iR e8 b)->(∀o,B.get? D=fR o->f.get? D=fR o)/\∀b∈N,∀o,B.get? b=fR o->f.get? b=fR o:=λx j6 j7=>⟨λo g=>(x.keep D o j6 (by simp) g).1 λk=>(V D k).2.1 rfl,λb f o g=>(x.keep b o (j7 b f) (by simp) g).1 λk=>(V b k).1 f⟩;have c6:=g2.ext a8 (by simp) (λZ Z Z Z=>by simp);have c7:=c4.trans a8.toV;refine gP (g8 a8 (c4.aC S.2 b9) (λb f=>c4.aC (E b f).2.1 (E b f).2.2)) λj8 j9=>?_;have e9:e7.PlainList D O.toArray:=by refine gI g3 ?_;clear g3;intro J K;exact⟨J,j8 _ K⟩
  have g9:=W.frame _ _ _ (W.frame _ _ _ j0 (λb f o g=>(b5.keep b o (b4 b f) (λk=>b3 (d9 _ k▸f)) g).1 λk=>(V b k).1 f)) j9;refine p ?_;induction b with|false=>simp only[uJ,if_false]at c5|-;exact⟨Z3.length-(i+1),by lia,g5,e6,c3,e7,g6,i+1,Z7,O,rfl,rfl,f9,c7,g7,c6,e9,(iC.mono B (b5.sub.trans a8.sub)),g9,by refine lE g0<|c5⟩|true=>
   simp only[if_true]at c5|-;refine te λG p=>bK c5 λu h0 k0 h1=>?_;have f0:=d1 A l P c3 h Q g5 e6 (sU s e7 g6) ⟨b0,c6,(g4.ext a8)⟩ g7;rw[show iA T n P c3 Q e6=.b u h0 from k0]at f0;refine p (f0 _ _ λk1 h2 k2 c c8 k3 k4=>?_);clear p;refine te λG p=>gP (g8 c8 (c7.aC S.2 b9) (λb f=>c7.aC (E b f).2.1 (E b f).2.2)) λk5 k6=>?_;have h3:h2.PlainList D O.toArray:=by refine gI e9 ?_;clear e9;intro J K;exact⟨J,k5 _ K⟩
   have h4:=c6.ext c8 (by simp) (λZ Z Z Z=>by simp);have f1:=c7.trans c8.toV;have h5:=iC.mono B ((b5.sub.trans a8.sub).trans c8.sub);have l3:O.length<=Fg:=by
    refine rE h5.length ?_;have:(Z7++[u]).length<=vs.length:=by clear f0 c6 h4 h3 f1;exact YV h1
    simp only[px,IX]at this;have c9:=oE;exact lG c9 d7 this
   refine p (SY h3 λc9 k7 h6=>?_);have d0:∀b o,b∉[D]->h2.get? b=fR o->c9.get? b=fR o:=λb o f g=>(h6.2 b λk=>f (by simp[k])).trans g;have f2:=gC h6.1.symm;have k8:=k3.but (λb f=>by refine lE (js.mp f)<|f1.aC S.2 b9) (λb f=>by refine lE (js.mp f)<|S.1) d0 f2;refine⟨Z3.length-(i+1),by lia,k1,h0,c3,c9,k2,i+1,Z7++[u],O++[c],rfl,rfl,f9,f1.trans (jH.aM (λb o f=>d0 b o λk=>f (by simp at k;simp[k])) f2 (by simp)),k8,(h4.bL (fs:=iF l) (own:=[]) (jH.aM d0 f2 (by simp)) ⟨by simp,λk=>b6 (js.mp k).symm⟩ λF c a Z=>⟨by simp,λk=>(b7 F c a).1 (js.mp k)⟩),by simpa using k7,h5.append (.dN k4 .dO),?_,by refine lE g0<|h1⟩;exact W.frame _ _ _ (W.frame _ _ _ g9 k6) λb f o g=>d0 b o (λk=>b2 ((js.mp k)▸f)) g
def YR(env:ji):∀(d:ii) (Z7:List (f_×gG)),(∀a∈d,a.2=.free->∃c,env.cells.lookup a.1=fR c)->∃b,(forIn d Z7 λx m=>(let(t,y):=x;if y==.free then do let c<-cellOf env t;pure (Bn ((t,c)::m))else pure (Bn m):Sem (ForInStep (List (Str×Addr)))))=pure b/\∀x,b.lookup x=if(x,qU)∈d then env.cells.lookup x else Z7.lookup x:=by
 intro d;induction d with|nil=>intro Z7 _;exact gx Z7 rfl (λx=>by simp)|cons a r n=>
  intro Z7 g;obtain⟨nm,i⟩:=a;rw[List.forIn_cons];by_cases j:i=.free
  .subst j;refine gI (g (nm,.free) ge rfl) λc o=>gy (n ((nm,c)::Z7) λa h=>g a (qp _ h)) λb k l=>gx b ?_ (λx=>?_)
   .have e:cellOf env nm=pure c:=by unfold cellOf;exact lE o rfl
    simp only[beq_self_eq_true,if_true,e];exact k
   .rw[l];by_cases f:(x,qU)∈r;exact lE (if_pos f) (lE (if_pos (qp _ f)) rfl)
    .refine lE (if_neg f) (lE jn ?_);by_cases q:x=nm;subst q;simp[o];have:=beq_eq_false_iff_ne.mpr q;refine lE this ?_;rw[if_neg];simp[q,f]
  .refine gy (n Z7 λa h=>g a (qp _ h)) λb k l=>gx b ?_ (λx=>?_)
   .have:(i==qU)=fY:=by simpa using j
    simp only[this,uJ,if_false];exact k
   .rw[l];have:((x,qU)∈(nm,i)::r)↔(x,qU)∈r:=by
     rw[gX];constructor
     .rintro(h|h);cases h;exact absurd rfl j;exact h
     .exact .inr
    simp only[this]
def ta(h:mK k t=fW):t.kind=.function/\vK t.names=fW/\∀a∈t.names,(a.2=.local->t.names.lookup a.1=fR .local)/\(a.2=.free->t.names.lookup a.1=fR .free/\(k.lookup a.1=fR .cell\/k.lookup a.1=fR .free))/\a.2≠.cell:=by
 unfold mK at h;rw[lr,lr,lr,Bp]at h;refine gP h ?_;intro d f;refine gP d ?_;intro g i;refine gP g ?_;intro j _;refine iy (of_decide_eq_true j) i (λa l=>?_);have:=f a l;obtain⟨nm,c⟩:=a;induction c<;>dsimp only at this<;>(try injection this);exact iy (λZ=>of_decide_eq_true this) (λq=>by injection q) (by simp)
 .rw[lr]at this;refine iy (λq=>by injection q) (λZ=>⟨of_decide_eq_true this.1,?_⟩) (by simp);have b:=this.2;unfold KY at b;generalize e:k.lookup nm=m;induction m with|none=>rw[e]at b;injection b|some c=>rw[e]at b;induction c<;>first|exact .inl rfl|exact .inr rfl|injection b
 all_goals first|exact(iy (λq=>by injection q) (λq=>by injection q) (by simp))|injection this
def Lm(h:mK k t=fW):qD t.names=fU:=by unfold mK at h;rw[lr,lr,lr]at h;exact Jl.mp h.1.1.2
def Cp(g:mK k t=fW)(L:LR z k U env h):∃a,closureFor t env=pure a/\∀x,a.lookup x=if t.names.lookup x=fR .free then env.cells.lookup x else fU:=by
 refine iT (ta g) λo p d=>?_;obtain⟨a,i,j⟩:=YR env t.names [] λf l m=>by refine jR (L.cell f.1 ((d f l).2.1 m).2) λc Z e Z=>⟨c,e⟩
 refine gx a ?_ (λx=>?_);refine IN (congrArg (·>>=λn=>pure n) i) rfl
 .rw[j];by_cases b:(x,qU)∈t.names;exact lE (if_pos b) (lE (if_pos ((d _ b).2.1 rfl).1) rfl)
  .refine lE (if_neg b) ?_;rw[if_neg];rfl;refine λq=>jR (rX.mp q) λX7 r e Z=>b (by refine lE e ?_;simp)
def H3(e:U.lookup nm=fU):jW ((nm,.free)::r) U=jW r U:=aeh (show(U.lookup nm).map (λv=>(nm,v))=fU from e▸rfl)
def H5(e:U.lookup nm=fR v):jW ((nm,.free)::r) U=(nm,v)::jW r U:=QN (show(U.lookup nm).map (λv=>(nm,v))=fR (nm,v)from e▸rfl)
def H4(e:h≠.free):jW ((nm,h)::r) U=jW r U:=by unfold jW;refine lE IS ?_;induction h<;>first|rfl|exact absurd rfl e
def Gw(k:ii)(U:gA)(h:∀a∈k,a.2=.free->k.lookup a.1=fR .free)(x:f_):(jW k U).lookup x=if k.lookup x=fR .free then U.lookup x else fU:=by
 have g:∀(r:ii),(jW r U).lookup x=if(x,qU)∈r then U.lookup x else fU:=by
  intro r;induction r with|nil=>rfl|cons a r d=>
   obtain⟨nm,b⟩:=a;have i:((x,qU)∈(nm,b)::r)↔(x=nm/\b=.free)\/(x,qU)∈r:=by
    rw[gX];constructor
    .rintro(h|h);cases h;exact .inl ⟨rfl,rfl⟩;exact .inr h
    .rintro(⟨rfl,rfl⟩|h);exact .inl rfl;exact .inr h
   by_cases f:b=.free
   .subst f;generalize e:U.lookup nm=j;induction j with
    |none=>
     refine lE (H3 e) (lE d ?_);by_cases q:x=nm;subst q;simp[e];simp[q]
    |some v=>
     refine lE (H5 e) (lE jn ?_);by_cases q:x=nm;subst q;simp[e];have:=beq_eq_false_iff_ne.mpr q;refine lE this (lE d ?_);simp[q]
   .have:((x,qU)∈(nm,b)::r)↔(x,qU)∈r:=by rw[i];simp[f]
    simp only[this];exact lE (H4 f) (lE d rfl)
 rw[g];by_cases c:(x,qU)∈k;exact lE (if_pos c) (lE (if_pos (h _ c rfl)) rfl);refine lE (if_neg c) ?_;rw[if_neg];refine λq=>jR (rX.mp q) λX7 l e Z=>c (by refine lE e ?_;simp)
def Nb(b:rx)(env:ji)(h:b.names.lookup x=fR t):(u_ b env).names.lookup x=fR t\/(t=.free/\(u_ b env).names.lookup x=fR .cell):=by
 unfold u_;dsimp only;generalize b.names=c at h|-;induction c with|nil=>exact nS h|cons d r f=>
  obtain⟨nm,g⟩:=d;refine lE iZ ?_;rw[jn]at h;by_cases q:x=nm
  .subst q;simp only[beq_self_eq_true]at h;cases h;by_cases a:(t==qU&&env.scope.kind==.function&&env.kindOf x==fR .cell)=fW;refine lE (if_pos a) ?_;rw[lr,lr]at a;right;exact⟨by simpa using a.1.1,by simp⟩;refine lE (if_neg a) ?_;left;simp
  .have e:=beq_eq_false_iff_ne.mpr q;rw[e]at h;have:=f h;by_cases a:(g==qU&&env.scope.kind==.function&&env.kindOf nm==fR .cell)=fW;exact lE (if_pos a) (lE jn (lE e this));exact lE (if_neg a) (lE jn (lE e this))
def Ln{g:List (f_×gG)}(m:mK k t=fW)(n:∀x,g.lookup x=if t.names.lookup x=fR .free then env.cells.lookup x else fU)(L:LR z k U env h)(p:h.Ns C λZ=>fU)(r:iR z C/\iI.objs.size<=C)(s:∀a c,env.cells.lookup a=fR c->c≠C):LR z t.names (jW t.names U) (xk t g C env) h:=by
 refine iT (ta m) λu w i=>?_;have o:=Gw t.names U λa y b=>((i a y).2.1 b).1;have j:∀x c,g.lookup x=fR c->t.names.lookup x=fR .free/\env.cells.lookup x=fR c:=λx c e=>by
  rw[n]at e;by_cases q:t.names.lookup x=fR .free;rw[if_pos q]at e;exact⟨q,e⟩;rw[if_neg q]at e;injection e
 exact{
  kind:=u
  az:=L.az
  b_:=w
  c_:=λP q e=>by rw[Lm m]at e;injection e
  bi:=L.bi
  aH:=λx K e=>Nb t env e
  ns:=gx _ p (λx v l d=>by rw[o,l]at d;simp at d)
  cell:=λx f=>by
   have b:t.names.lookup x=fR .free:=by
    rcases f with f|f
    .refine jR (rX.mp f) λX7 A e Z=>absurd rfl (i (x,.cell) (by refine lE e ?_;simp)).2.2
    .exact f
   refine jR (rX.mp b) λX7 A e Z=>?_;have l:=((i (x,.free) (by refine lE e ?_;simp)).2.1 rfl).2;refine kJ (L.cell x l) λc B D E F=>jq c B ?_ E (λv d=>?_);refine(?_:g.lookup x=fR c);rw[n];exact lE (if_pos b) (lE D rfl);rw[o,if_pos b]at d;exact F v d
  aC:=r
  offc:=λx c e=>by
   have:=(j x c e).2;refine jZ (L.offc x c this) λG H M I=>kg G H (s x c this) I
  cq:=λx a c e J=>L.cq x a c (j x c e).2 (j a c J).2}
def N_(h:hV):(h.push {cls:=.type "list",dict:=fU,data:=.seq ([]:List gv).toArray}).PlainList h.objs.size #[]:=⟨_,lu _ rfl⟩
def ut{c n x:Nat}(h:c<n)(k:n<=x):c≠x:=jt (gu h k)
def tw{c n:Nat}(h:c<n)(k:n<=c):False:=uQ h k
def Gv(x:lU z l h):∀L∈iF l,L<h.objs.size:=λL b=>by refine fE b λenv c d=>?_;obtain⟨_,f,o,a,e,_⟩:=x env c;rw[d]at a;obtain rfl:=gz a;exact iB e
def U2(L:LR z k U env h):env.locals<h.objs.size:=by refine gy L.ns λm a Z=>nN a ?_;intro o _ _ e _;exact iB e
def Lo{H:List (f_×gG)}{O:gv->gG->pW->gK->Prop}(a9:mK k h=fW)(b0:∀x,H.lookup x=if h.names.lookup x=fR .free then env.cells.lookup x else fU)(b3:SV T d n)(b4:SB T d n)(J:iD d l k U env A Q N)(K:iI.objs.size<=N.objs.size)(R:gS (iF l) [] Q N z s.heap)(r:gp z y s.heap)(P:rG A N.objs.size z s.heap a0 it)(e:jw a0.ai (λe0 e1=>nJ h.names e0 a1 e1) (uC T n h.names a2) (λℓ'=>iA T n h.names ℓ' a3) im (jW h.names U) [] a0.am y=.b vs t)(b5:vs.length<=hJ)(b6:∀v D C B b7 m,gS (iF l) [] Q N v B->gp v (iJ t (.a vs)) B->v t.n fY=fR D->B.Ns C m->iR v C->N.objs.size<=C->O (.ref D) C (.ok .next) (sU s B b7)):gg (gk gh w) A (Ff []) (λZ7 V=>gg (gk gh w) A (Fe h env.globals H [] env.qual fU .none (fR env)) (λc4 e2=>lF (gk gh w) A (.compStart (.ListComp a3 [⟨a1,a4,a2,0⟩] h Z8) 0 it Z7 {c4 with scope:=u_ h env}) (O Z7 c4.locals) e2) E V) E s:=by
 revert T n U A Q y a0 it vs Z8 E O a9 b0 b3 b4 J K R r P e b5 b6;revert k h d l env N z a1 a2 a3 t s a4 H;refine @(yj E1 ?_);generalize gY.1.1.1.1=k,gY.1.1.1.2=h,gY.1.1.2.1=d,gY.1.1.2.2=l,gY.1.2.1.1=env,gY.1.2.1.2=N,gY.1.2.2=z,gY.2.1.1.1=a1,gY.2.1.1.2=a2,gY.2.1.2.1=a3,gY.2.1.2.2=t,gY.2.2.1.1=s,gY.2.2.1.2=a4,gY.2.2.2=H;intro T n U A Q y a0 it vs Z8 E O a9 b0 b3 b4 J K R r P e b5 b6;refine nN P ?_;intro I e3 f3 e4 e5;obtain rfl:=e4;refine iT e5 ?_;intro W c5 M;refine iT (ta a9) λe6 f4 c6=>?_;have S:=J.ext R;refine Fo (S_ (λu X=>(c6 u X).2.2) (by intro u X;simp at X) (λY c7 b8=>?_) e6);have c8:(s.heap.push {cls:=.type "list",dict:=fU,data:=.seq ([]:List gv).toArray}).PlainList s.heap.objs.size #[]:=N_ _;have c9:∀b o,s.heap.get? b=fR o->(s.heap.push {cls:=.type "list",dict:=fU,data:=.seq ([]:List gv).toArray}).get? b=fR o:=λZ Z e=>iW _ e;generalize e7:s.heap.push {cls:=.type "list",dict:=fU,data:=.seq ([]:List gv).toArray}=F at c7 b8 c8 c9|-;have j:F.objs.size=s.heap.objs.size+1:=by refine rE e7 ?_;rw[kt]
 have d0:s.heap.objs.size≠F.objs.size:=lE j<|jt (nR _);have d1:∀b o,F.get? b=fR o->Y.get? b=fR o:=λb o e=>b8.extBut b o (jt (iB e)) (iW _ e);have b1:∀b o,s.heap.get? b=fR o->Y.get? b=fR o:=λb o e=>d1 b o (c9 b o e);have d2:Y.objs.size=s.heap.objs.size+2:=by refine lE b8.1 ?_;rw[kt];exact lE j rfl
 have b9:=gu (pz _ _) (gC d2.symm);have d3:gS (iF l) [] z s.heap z Y:=gS.al b1 b9;have d4:=S.ext d3;have p:=R.size;have c0:∀b∈e3,(b:Nat)<s.heap.objs.size:=λb a5=>(M b a5).2.2;have d5:∀V:gK,V=(sU s Y (s.toks+([]:List (f_×gv)).length))->lF (gk gh w) A (.compLoop (.ListComp a3 [⟨a1,a4,a2,0⟩] h Z8) 0 (.ref I) (.ref s.heap.objs.size) (xk h H F.objs.size env)) (O (.ref s.heap.objs.size) F.objs.size) V:=by
  rintro V rfl;refine YX (ℓ':=jW h.names U) b3 b4 W S.cx d4.fr (Ln a9 b0 d4.L (by simpa using c7) ⟨pd r (jo (gC j.symm)),(lG K (gC j.symm) p)⟩ λu c a=>ut (J.L.offc u c a).2.2.2 (gu p (jo (gC j.symm)))) (λu X=>(c6 u X).2.2) (r.keep b1 b9) (by refine gI c8 ?_;intro c g;exact⟨c,d1 _ _ g⟩) (W.frame _ _ _ c5 λb Z o e=>b1 b o e) (λb a5=>iy (gu K (M b a5).1) ((M b a5).2.1) (pU (c0 b a5) b9)) ⟨by exact(gu K p),pd r (ij _)⟩ d0 (λf=>uP _ (c0 _ f)) (λf=>?_) (λu c a=>?_) (λL e8=>?_) e b5 λv B b7 e9 m c1 a6 d6 c2 d7 d8=>?_;exact tw (c0 _ f) (show s.heap.objs.size<=F.objs.size from(jo (gC j.symm)))
  .have f0:env.cells.lookup u=fR c:=by
    have:H.lookup u=fR c:=a;rw[b0]at this;split at this;exact this;injection this
   have G:=(J.L.offc u c f0).2.2.2;exact⟨ut G p,λf=>tw G (M c f).1⟩
  .have G:=Gv J.fr L e8;exact iy (λf=>tw G (M L f).1) (ut G p) (ut G (show N.objs.size<=F.objs.size from(gu p (jo (gC j.symm)))))
  .dsimp only at c1 a6 d6 c2 d7 d8;have a7:=((R.trans d3).toV.trans c1).ext λa a8=>by
    rcases gX.mp a8 with rfl|a8
    .exact gu p (jo (gC j.symm))
    .rcases gX.mp a8 with rfl|a8
     .exact p
     .exact(M a a8).1
   have c3:=nV (a:=s.heap.objs.size) (a6.fresh fY);have f1:gp (jl v t.n fY s.heap.objs.size) (iJ t (.a vs)) B:=by
    refine a6.cb (λZ Z e=>e) (ij _) c3 (λi b x e=>?_) (λb c x e b2=>?_) (jq _ e9 (lc ..) c2 (iC.mono d6 c3))
    .unfold jl at e;by_cases q:i=t.n/\b=fY;rw[if_pos q]at e;obtain rfl:=gz e;exact .inr (kg q.1 (by exact gu K p) d7 (gI c2 λZ g=>⟨_,g⟩));rw[if_neg q]at e;exact .inl e
    .unfold jl at e b2;induction b<;>cases c;rfl;rw[if_neg (by simp)]at b2;rw[a6.fresh]at b2;injection b2;rw[if_neg (by simp)]at e;rw[a6.fresh]at e;injection e;rfl
   have f2:gS (iF l) [] Q N (jl v t.n fY s.heap.objs.size) B:=⟨a7.sub.trans c3,λi b a e=>by
    unfold jl at e;by_cases q:i=t.n/\b=fY;rw[if_pos q]at e;obtain rfl:=gz e;exact .inr p;rw[if_neg q]at e;exact a7.new i b a e,a7.keep,a7.there,a7.size⟩
   have d9:iR v F.objs.size:=by have G:=pd r (jo (gC j.symm));exact c1.aC G (by exact gu (oQ (gC j)) (gC d2.symm))
   exact b6 _ _ _ B b7 m f2 f1 (lc ..) d8 ⟨d9.1,λi b f=>by
    unfold jl at f;by_cases q:i=t.n/\b=fY;rw[if_pos q]at f;exact d0 (gz f);rw[if_neg q]at f;exact d9.2 i b f⟩ (by exact gu p (jo (gC j.symm)))
 exact afZ (d5 _ rfl) (W.self 0 _ _ _ (W.frame _ _ _ c5 λb Z o e=>b1 b o e) (d5 _ rfl))
def Kz(l:List ji)(own:List gG)(X:XT)(τ:ve h)(P:Va->hV->t->h->Prop)(z:Va)(i:hV)(s:gK):R t->Prop|.b a d=>∀Q E,(∀f c g b,gS (iF l) own z i f c->gp f d c->P f c a b->Q b (sU s c g))->τ Q E s|.c C d=>∀Q E,(∀e c g,X z i C d e c->E e (sU s c g))->τ Q E s|.a=>True
def gJ.cw{X9:L->ve N}{g:W->M γ}(j:gJ l own X h P z s (m y))(B:∀a f i d n b,m y=.b a f->gS (iF l) own z s.heap i d->gp i f d->P i d a b->Kz l own X (X9 b) t z s.heap (sU s d n) (g a f)):gJ l own X (λQ E s=>h (λb D=>X9 b Q E D) E s) t z s (fS m g y):=by unfold fS;generalize e:m y=o;induction o with|a=>trivial|c C f=>rw[e]at j;exact λQ E k=>j _ E k|b a f=>rw[e]at j;dsimp only;have w:=B a f;generalize A:g a f=o;induction o with|a=>trivial|c C F=>refine λQ E k=>j _ E λi d n b x r p=>?_;have:=w i d n b e x r p;rw[A]at this;exact this Q E λe q u v=>k e q u v|b c F=>refine λQ E k=>j _ E λi d n b x r p=>?_;have:=w i d n b e x r p;rw[A]at this;exact this Q E λG q u H v I J=>k G q u H v I J
def Ha(h:mB e=fW):∀x,foldedSetIterable e env x=pure x:=λx=>by induction e using jQ<;>first|rfl|injection h
def abe{c:List gq}(e:mK k h=fW)(j:mB t=fW)(p:pG)(G:jM)(u:SL T d n)(i:SV T d n)(v:SB T d n)(S:iD d l k U env A z s.heap)(r:gp z y s.heap):gF l [] (gL l []) A (iu (.ListComp L [⟨N,t,c,0⟩] h Z8) env) VR z s (fS (tG (mZ T n) k U t) (λf=>fS (iL (jw f.ai (λB F=>nJ h.names B N F) (uC T n h.names c) (λℓ'=>iA T n h.names ℓ' L) im (jW h.names U) [] f.am)) λH=>if H.length<=hJ then gM (.a H)else gc) y):=by
 revert d z y e j p G u i v S r;revert k h t T n l U env A L N Z8 s c;refine @(yj E1 ?_);generalize gY.1.1.1.1=k,gY.1.1.1.2=h,gY.1.1.2.1=t,gY.1.1.2.2=T,gY.1.2.1.1=n,gY.1.2.1.2=l,gY.1.2.2=U,gY.2.1.1.1=env,gY.2.1.1.2=A,gY.2.1.2.1=L,gY.2.1.2.2=N,gY.2.2.1.1=Z8,gY.2.2.1.2=s,gY.2.2.2=c;intro d z y e j p G u i v S r;refine gy (Cp e S.L) λV W X=>iT (ta e) λY c5 a0=>?_;rw[ag1];refine gJ.bE (gJ.aD (gJ.cw (X9:=λK Q E a1=>gg (gk gh w) A (Ff []) (λZ7 a2=>gg (gk gh w) A (Fe h env.globals V [] env.qual fU .none (fR env)) (λM a3=>lF (gk gh w) A (.compStart (.ListComp L [⟨N,t,c,0⟩] h Z8) 0 K Z7 {M with scope:=u_ h env}) (Fa (gk gh w) A E fU Q Z7 M.locals) a3) E a2) E a1) (Gf p G i u S r (ij _)) λf a4 c6 c7 c8 K Z x a5 P=>?_) λQ E a6=>?_)
 .rcases Dm (jw f.ai (λB F=>nJ h.names B N F) (uC T n h.names c) (λℓ'=>iA T n h.names ℓ' L) im (jW h.names U) [] f.am) a4 with⟨H,c9,a7,a8⟩|q
  .refine lE (nW a8) ?_;split;rename_i a9;refine λQ E b0=>Lo e X i v S r.size x a5 P a7 a9 λb1 D C b2 b3 m b4 b5 b6 b7 b8 O=>gx m b7 (λR I=>?_);have J:∀b o,b∉[C]->b2.get? b=fR o->R.get? b=fR o:=λb o J g=>(I.2 b λb9=>J (by simp[b9])).trans g;have c0:=(b4.toV.trans (jH.aM J (gC I.1.symm) (by simp))).ext λa c1=>lE (js.mp c1)<|O;exact b0 b1 R b3 (.ref D) c0 (b5.sameBut b8 (gu r.size O) I) (.dO b6);trivial
  .exact lE (lW q) trivial
 .exact ST rfl (Ha j) W Y (λc2 c3 c4=>(a0 c2 c3).1 c4) a6
def Yx(r:gp z y h)(p:VR z u t)(e:vj y c u=fR v):∃a b n j d,t=.ref a/\h.get? a=fR (qM b n)/\nv c b.size=fR j/\b[j]?=fR d/\VR z v d:=by
 induction p with
 |@dO i a q=>
  unfold vj at e;dsimp only at e;generalize f:y.get i=g;induction g with|none=>rw[f]at e;injection e|some o=>
   rw[f]at e;induction o with
   |c xs=>dsimp only at e;generalize k:nv c xs.length=g;induction g with|none=>rw[k]at e;injection e|some j=>rw[k]at e;refine sJ (r.aE i _ f) λA b n l s m=>?_;rw[q]at l;obtain rfl:=gz l;refine gy (m.get j v e) λd w x=>MO a b.toArray n j d rfl s (by refine lE lz (rE m.length ?_);exact k) (by simpa using w) x
   |_=>exact nS e
 |_=>exact nS e
def Yy(r:gp z y h):∀{b:List (f_×V)} {Z5:List (f_×gv)} {f:List (V×f_)},ib (KR z) b Z5->ud y c b=fR f->ib (λ(p:V×f_) (m:f_×gv)=>p.2=m.1/\∃a d n j o,m.2=.ref a/\h.get? a=fR (qM d n)/\nv c d.size=fR j/\d[j]?=fR o/\VR z p.1 o) f Z5:=by
 intro b;induction b with|nil=>intro Z5 f x e;cases x;cases e;exact .dO|cons g b s=>
  intro Z5 f x e;cases x with|dN p q=>
   replace e:(match vj y c g.2,ud y c b with|some v,fR d=>fR ((v,g.1)::d)|_,_=>fU)=fR f:=e
   generalize i:vj y c g.2=k;induction k with|none=>rw[i]at e;injection e|some v=>rw[i]at e;generalize l:ud y c b=k;induction k with|none=>rw[l]at e;injection e|some d=>rw[l]at e;obtain rfl:=gz e;exact .dN ⟨p.1,Yx r p.2 i⟩ (s q l)
def GS(L:LR z k U env s.heap)(a:k.lookup x=fR .local\/k.lookup x=fR .free)(j:U.lookup x=fR v)(g:∀c,VR z v c->Q c s):gg (gk gh w) A (iu (.Name x p) env) Q E s:=by
 rcases a with a|a
 .have b:=ye L.b_ a;refine gy L.ns λm e f=>gy (f x v a j) λc i n=>?_;have d:env.kindOf x=fR .local:=by
   rcases L.aH x _ a with h|⟨h,_⟩
   .exact h
   .injection h
  exact sR (BU L.kind d e i (g _ n)) b.1
 .have b:=ye L.b_ a;refine kJ (L.cell x (.inr a)) λc q e f i=>gy (i v j) λr o l=>?_;obtain rfl:=o;rcases L.aH x _ a with d|⟨_,d⟩
  .exact sR (agi L.kind d e f (g _ l) b.2) b.1
  .exact sR (SZ L.kind d e f (g _ l)) b.1
def Ξ(L:LR z k U env s.heap)(b:k.lookup x=fR .local)(i:k.lookup y=fR .free)(d:U.lookup x=fR (.d h))(l:U.lookup y=fR P)(m:∀e,VR z P e->e=.ref a)(f:s.heap.DictOf (mj gh w) a Z5)(n:xq Z5 h=fR (.ref W))(g:s.heap.get? W=fR (qM N nT))(o:nv c N.size=fR j)(p:N[j]?=fR cv)(q:∀t r,Q (.ref s.heap.objs.size) {s with heap:=s.heap.push (qM #[cv,.str h t] 0),toks:=r}):gg (gk gh w) A (iu (.Tuple [.Subscript (.Subscript (.Name y p1) (.Name x p2) p3) (.Constant (.int c) c1 p4) p5,.Name x p6] k2 p7) env) Q E s:=by
 revert z k U P a Z5 W N nT j cv k2 p7 L b i d l m f n g o p q;revert env x y h c Q A p1 p2 p3 c1 p4 p5 p6 E s;refine @(Dt E1 ?_);generalize ic.1.1.1.1=env,ic.1.1.1.2=x,ic.1.1.2.1=y,ic.1.1.2.2=h,ic.1.2.1.1=c,ic.1.2.1.2=Q,ic.1.2.2.1=A,ic.1.2.2.2=p1,ic.2.1.1.1=p2,ic.2.1.1.2=p3,ic.2.1.2.1=c1,ic.2.1.2.2=p4,ic.2.2.1.1=p5,ic.2.2.1.2=p6,ic.2.2.2.1=E,ic.2.2.2.2=s;intro z k U P a Z5 W N nT j cv k2 p7 L b i d l m f n g o p q;rw[afV];refine gf (lk (gf ?_));refine Bw ?_;rw[BI];refine gf ?_;rw[BI];refine gf (GS L (.inr i) l λe u=>?_);obtain rfl:=m e u;refine gf (jp (GS L (.inl b) d λI v=>?_));cases v with|dP _ B=>
 refine gf (lk ?_);refine tO f.typeIs SH.lookup (SW (qh h B) f.mapOf n ?_) (vW rfl _ _);refine gf (jp (SO ?_));refine gf (lk ?_);refine jZ (Hm o) λC D F J=>tO (gx _ g rfl) afq.lookup (af2 (⟨_,g,rfl,_,rfl⟩) D F C p ?_) (vW rfl _ _);refine Bw (GS L (.inl b) d λK G=>?_);cases G with|dP _ H=>
 refine Jo<|Ta (q H _)
def LR.stored{m:f_->Option gv}(L:LR z k U env h)(l:k.lookup x=fR .local)(n:∀b u,k.lookup b=fR .local->U.lookup b=fR u->∃c,m b=fR c/\VR z u c)(r:y.Ns env.locals (λb=>if b=x then fR c else m b))(j:oR env.locals h y)(s:VR z v c):LR z k (gW U x v) env y:={L with
  ns:=gx _ r (λb u e d=>by
   rw[rM]at d;by_cases q:b=x;rw[if_pos q]at d;obtain rfl:=gz d;exact gx c (by simp[q]) s;rw[if_neg q]at d;refine gy (n b u e d) λf g i=>gx f (by simp[q,g]) i)
  cell:=λb e=>by
   refine kJ (L.cell b e) λf w g i A=>gy i ?_;intro o B C;refine jq f w g (gx o ((j.2 _ ((L.offc b f g).2.2.1)).trans B) C) (λu d=>?_);rw[rM]at d;have q:b≠x:=λD=>by subst D;rw[l]at e;rcases e with e|e<;>cases e
   rw[if_neg q]at d;exact A u d
  offc:=λb f a=>by refine jZ (L.offc b f a) λp q t u=>(kg p q t (by refine lE j.1 ?_;exact u))}
def ach{i:Nat}{a:f_}(b:(Z5.map (·.1)).Nodup)(e:Z5[i]?=fR (a,v)):xq Z5 a=fR v:=by unfold xq;induction Z5 generalizing i with|nil=>simp at e|cons p r c=>rw[iZ,jk]at b;refine lE Ep ?_;induction i with|zero=>simp at e;subst e;simp|succ i=>simp at e;have d:p.1≠a:=λf=>b.1 (yP.mpr (gx (a,v) (Eu e) f.symm));have:=c b.2 e;simp[d];simpa using this
def aaY(h:(mj gh w).is y x=fW):∃t,x=.str y t:=by induction x<;>simp[mj,Sa]at h;subst h;exact⟨_,rfl⟩
structure sh(z:Va)(a:hV)(W:List gG)(d:ji):Prop where
 aC:∀b∈W,iR z b/\b<a.objs.size/\iI.objs.size<=b
 cell:∀e c,d.cells.lookup e=fR c->c∉W
structure Lp(fs W:List gG)(z:Va)(d:hV)(k:ii)(e:ji)(c:Va)(f:H)(U:gA)(a:hV):Prop where
 xv:jH fs [] W z d c a
 kA:∀b o,b∉W->d.get? b=fR o->a.get? b=fR o
 r:gp c f a
 L:LR c k U e a
def sh.kb{W:List gG}(m:b∈W)(k:tQ b h t):(∀c o,c∉W->h.get? c=fR o->t.get? c=fR o)/\∀c o,c∉[b]->h.get? c=fR o->t.get? c=fR o:=⟨λc o a g=>k c o (λd=>a (d▸m)) g,λc o a g=>k c o (λd=>a (js.mpr d)) g⟩
def Lp.aa(P:Lp fs W z t k Q x y U N)(C:sh z t W Q)(m:b∈W)(d:tQ b N h)(e:N.objs.size<=h.objs.size):jH fs [] W z t x h/\gp x y h:=⟨P.xv.trans (jH.aM (sh.kb m d).1 e λZ f=>nM f),P.r.but (λc a=>js.mp a▸P.xv.aC (C.aC b m).1 (C.aC b m).2.1) (λc a=>js.mp a▸(C.aC b m).2.2) (sh.kb m d).2 e⟩
def Lp.same(P:Lp fs W z t k h Q y U x)(C:sh z t W h)(m:b∈W)(d:tQ b x N)(f:x.objs.size<=N.objs.size)(n:h.locals≠b):Lp fs W z t k h Q y U N:=⟨(P.aa C m d f).1,λc o i g=>(sh.kb m d).1 c o i (P.kA c o i g),(P.aa C m d f).2,P.L.bL (fs:=fs) (jH.aM (sh.kb m d).2 f λZ a=>nM a) ⟨kK,λa=>n (js.mp a)⟩ λj c e Z=>⟨kK,λa=>C.cell j c e (js.mp a▸m)⟩⟩
def Lp.stored(P:Lp fs W z t k h x y U Q)(C:sh z t W h)(m:b∈W)(a:oR b Q N)(L:LR x k ℓ' h N):Lp fs W z t k h x y ℓ' N:=⟨(P.aa C m a.extBut (gC a.1.symm)).1,λc o d g=>(sh.kb m a.extBut).1 c o d (P.kA c o d g),(P.aa C m a.extBut (gC a.1.symm)).2,L⟩
def Lp.push(P:Lp fs W z Q k a0 N y U t)(e:Z1.isFreed=fY)(f:∀h,h.get? t.objs.size=fR Z1->qy (jl N y.n fY t.objs.size) h y.n o):Lp fs W z Q k a0 (jl N y.n fY t.objs.size) (iJ y o) U (t.push Z1):=
 have a:∀c o,t.get? c=fR o->(t.push Z1).get? c=fR o:=λZ Z g=>iW _ g;have b:=kt .. ▸jA _;have d:=lu t e;have x:=gS.add P.r a b (ij _)
 ⟨P.xv.trans x.toV,λc o i g=>a _ _ (P.kA c o i g),P.r.add a b (ij _) ⟨_,d⟩ (f _ d),P.L.ext x kK λZ Z Z Z=>kK⟩
inductive Tg(fs h:List gG)(z:Va)(s:gK)(j:hV)(D I:gG)(k:ji)(l:ii)(n:f_)(o c p a:Nat)(C:List V->Nat->H->Prop)(m:Nat)(s':gK):Prop|mk (d:Va) (e:H) (f:gA) (b:hV) (q:oq) (i:Nat) (Z7:List V) (g:List gv) (r:s'=(sU s b q)) (t:m=c-i) (u:i<=c) (v:Lp fs h z j l k d e f b) (w:f.lookup n=fR (.b o)) (x:b.PlainList D g.toArray) (y:iC d Z7 g) (A:b.IsKeyIter I a i c p) (B:Z7.length=i) (E:C Z7 i e)
noncomputable def W3(n:Nat):List gG:=[n+2,n+1,n]
def UX(n:Nat):n∈W3 n:=.tail _ gZ
def UY(n:Nat):n+1∈W3 n:=.tail _ ge
def UZ(n:Nat):n+2∈W3 n:=.head _
def xF(m:b∈W3 n):n<=b/\b<n+3:=(mc ⟨pz _ _,nR _⟩ (mc ⟨jA _,ru (nR _)⟩ (mc ⟨ij _,Rf gO⟩ λZ m=>nM m)):∀b∈[n+2,n+1,n],n<=b/\b<n+3) b m
def LK{k:ii}{U:gA}{u:List (f_×gG)}{F:Nat}{a:gG}{v:V}{G:H}(M:mK k L=fW)(c9:∀x,u.lookup x=if L.names.lookup x=fR .free then env.cells.lookup x else fU)(a5:L.names.lookup x=fR .local)(a6:L.names.lookup N=fR .free)(S:iD d l k U env A z s.heap)(r:gp z y s.heap)(O:z F fY=fR a)(a0:U.lookup N=fR (.b F))(B:s.heap.DictAt (mj gh w) a Z5 W)(R:ib (λ(p:V×f_) (b5:f_×gv)=>p.2=b5.1/\∃a d0 n j a1,b5.2=.ref a/\s.heap.get? a=fR (qM d0 n)/\nv c d0.size=fR j/\d0[j]?=fR a1/\VR z p.1 a1) ps Z5)(e4:ps.length<=100)(e:tC ps [] y=.b v G)(a2:∀a3 a7 i1 a1,gS (iF l) [] z s.heap a3 a7->gp a3 G a7->VR a3 v a1->Q a1 (sU s a7 i1)):gg (gk gh w) A (pD (.ref a)) (λi2 i3=>gg (gk gh w) A (Ff []) (λZ7 b6=>gg (gk gh w) A (Fe L env.globals u [] env.qual fU .none (fR env)) (λg3 i4=>lF (gk gh w) A (.compStart (.ListComp (.Tuple [.Subscript (.Subscript (.Name N p1) (.Name x p2) p3) (.Constant (.int c) c1 p4) p5,.Name x p6] k2 p7) [⟨.Name x p8,.Name N p9,[],0⟩] L Z8) 0 i2 Z7 {g3 with scope:=u_ L env}) (Fa (gk gh w) A E fU Q Z7 g3.locals) i4) E b6) E i3) E s:=by
 revert d z y p5 k2 p7 p8 p9 Z8 k U F a v G M c9 a5 a6 S r O a0 B R e4 e a2;revert L x N l env A c ps Z5 Q p1 p2 p3 c1 p4 p6 E s W u;refine @(vP E1 ?_);generalize gH.1.1.1.1.1=L,gH.1.1.1.1.2=x,gH.1.1.1.2=N,gH.1.1.2.1=l,gH.1.1.2.2=env,gH.1.2.1.1.1=A,gH.1.2.1.1.2=c,gH.1.2.1.2=ps,gH.1.2.2.1=Z5,gH.1.2.2.2=Q,gH.2.1.1.1.1=p1,gH.2.1.1.1.2=p2,gH.2.1.1.2=p3,gH.2.1.2.1=c1,gH.2.1.2.2=p4,gH.2.2.1.1.1=p6,gH.2.2.1.1.2=E,gH.2.2.1.2=s,gH.2.2.2.1=W,gH.2.2.2.2=u;intro d z y p5 k2 p7 p8 p9 Z8 k U F a v G M c9 a5 a6 S r O a0 B R e4 e a2;revert d M S r O a0 B R e a2;revert z y p5 k2 p7 p8 p9 Z8 k U F a v G;refine @(yj E1 ?_);generalize gY.1.1.1.1=z,gY.1.1.1.2=y,gY.1.1.2.1=p5,gY.1.1.2.2=k2,gY.1.2.1.1=p7,gY.1.2.1.2=p8,gY.1.2.2=p9,gY.2.1.1.1=Z8,gY.2.1.1.2=k,gY.2.1.2.1=U,gY.2.1.2.2=F,gY.2.2.1.1=a,gY.2.2.1.2=v,gY.2.2.2=G;intro d M S r O a0 B R e a2;refine iT (ta M) λg4 Z d1=>?_;have e5:=S.cx.dN;have e6:=B.nodup;refine wpAny_pyIter_dict (r.aB O) B ?_;have d2:(s.heap.push {cls:=.type "dict_keyiterator",data:=.fields #[.ref a,.int 0 0,.int Z5.length 0,.int W 0]}).IsKeyIter s.heap.objs.size a 0 Z5.length W:=iU _ (lu _ rfl) rfl rfl;have e7:∀b o,s.heap.get? b=fR o->(s.heap.push {cls:=.type "dict_keyiterator",data:=.fields #[.ref a,.int 0 0,.int Z5.length 0,.int W 0]}).get? b=fR o:=λZ Z e=>iW _ e;have a8:(s.heap.push {cls:=.type "dict_keyiterator",data:=.fields #[.ref a,.int 0 0,.int Z5.length 0,.int W 0]}).objs.size=s.heap.objs.size+1:=kt ..;generalize s.heap.push {cls:=.type "dict_keyiterator",data:=.fields #[.ref a,.int 0 0,.int Z5.length 0,.int W 0]}=T at d2 e7 a8|-;refine Fo (S_ (λJ b7=>(d1 J b7).2.2) (by intro J b7;simp at b7) (λK a9 b0=>?_) g4);dsimp only at a9 b0|-;have b8:(T.push {cls:=.type "list",dict:=fU,data:=.seq ([]:List gv).toArray}).PlainList T.objs.size #[]:=N_ _;have b9:∀b o,T.get? b=fR o->(T.push {cls:=.type "list",dict:=fU,data:=.seq ([]:List gv).toArray}).get? b=fR o:=λZ Z e=>iW _ e;have b1:(T.push {cls:=.type "list",dict:=fU,data:=.seq ([]:List gv).toArray}).objs.size=s.heap.objs.size+2:=by rw[kt];exact lE a8 rfl
 generalize T.push {cls:=.type "list",dict:=fU,data:=.seq ([]:List gv).toArray}=e8 at a9 b0 b8 b9 b1|-;have c0:∀b o,e8.get? b=fR o->K.get? b=fR o:=λb o e=>b0.extBut b o (jt (iB e)) (iW _ e);have X:∀b o,s.heap.get? b=fR o->K.get? b=fR o:=λb o e=>c0 b o (b9 b o (e7 b o e));have d3:K.objs.size=s.heap.objs.size+3:=by refine lE b0.1 ?_;rw[kt];exact lE b1 rfl
 have c2:=gu (pz _ _) (gC d3.symm);have g5:=r.keep X c2;have e9:=S.ext (gS.al X c2);rw[b1]at a9;rw[a8]at b8;have g6:=Ln M c9 e9.L (by simpa using a9) ⟨pd r (pz _ _),by have:=r.size;exact(gu this (pz _ _))⟩ λJ c a=>ut (S.L.offc J c a).2.2.2 (pz _ _);have d4:=B.lt_size;have f0:=Gw L.names U (λJ b7 i5=>((d1 J b7).2.1 i5).1) N;rw[if_pos a6,a0]at f0;have C:sh z K (W3 s.heap.objs.size) (xk L u (s.heap.objs.size+2) env):=⟨λb c3=>iy (pd r (xF c3).1) (d3▸(xF c3).2) (gu r.size (xF c3).1),λJ c b2 m=>by
   have b2:u.lookup J=fR c:=b2;rw[c9]at b2;split at b2;exact tw (S.L.offc J c b2).2.2.2 (xF m).1;exact nS b2⟩
 have f1:∀{b:gG},b<s.heap.objs.size->b∉W3 s.heap.objs.size:=λq m=>tw q (xF m).1;have g7:=UX s.heap.objs.size;have f2:=UY s.heap.objs.size;have g8:=UZ s.heap.objs.size;have f3:(xk L u (s.heap.objs.size+2) env).locals≠s.heap.objs.size:=tN (Rf gO);have f4:(xk L u (s.heap.objs.size+2) env).locals≠s.heap.objs.size+1:=tN (nR _);have f5:s.heap.objs.size+1≠s.heap.objs.size:=tN (nR _);have i6:(xk L u (s.heap.objs.size+2) env).kindOf x=fR .local:=by
  rcases Nb L env a5 with h|⟨h,_⟩
  .exact h
  .cases h
 have c4:=R.length;have g9:∀b6:gK,b6=(sU s K (s.toks+([]:List (f_×gv)).length))->lF (gk gh w) A (.compLoop (.ListComp (.Tuple [.Subscript (.Subscript (.Name N p1) (.Name x p2) p3) (.Constant (.int c) c1 p4) p5,.Name x p6] k2 p7) [⟨.Name x p8,.Name N p9,[],0⟩] L Z8) 0 (.ref s.heap.objs.size) (.ref (s.heap.objs.size+1)) (xk L u (s.heap.objs.size+2) env)) (Fa (gk gh w) A E fU Q (.ref (s.heap.objs.size+1)) (s.heap.objs.size+2)) b6:=by
  rintro b6 rfl;refine Lr (Tg (iF l) (W3 s.heap.objs.size) z s K (s.heap.objs.size+1) s.heap.objs.size (xk L u (s.heap.objs.size+2) env) L.names N F Z5.length W a λZ7 i f=>tC (ps.drop i) Z7 f=.b v G) ?_ Z5.length ⟨z,y,jW L.names U,K,_,0,[],[],rfl,rfl,jT _,⟨jH.dN,λZ Z Z e=>e,g5,g6⟩,f0,by refine gI b8 ?_;clear b8;intro d5 g;exact⟨d5,c0 _ _ g⟩,.dO,d2.at λo e=>c0 _ _ (b9 _ _ e),rfl,by refine lE yL<|e⟩;clear b8 d2 c0 e7 b9 g5 g6 f0;rintro mm s' ⟨a3,f,d6,a7,h0,i,Z7,d7,rfl,rfl,d8,P,f6,d9,c5,e0,e1,D⟩;revert d p9 Z8 M S r O a0 B R e a2 d1 e5 e6 T a8 e8 a9 b0 b1 X d3 c2 e9 d4 C c4 d6 d8 P f6 d9 c5 e0 e1 D;revert z y k U p5 p7 p8 k2 F a v G K a3 f a7 h0 i Z7 d7;refine @(vP E1 ?_);generalize gH.1.1.1.1.1=z,gH.1.1.1.1.2=y,gH.1.1.1.2=k,gH.1.1.2.1=U,gH.1.1.2.2=p5,gH.1.2.1.1.1=p7,gH.1.2.1.1.2=p8,gH.1.2.1.2=k2,gH.1.2.2.1=F,gH.1.2.2.2=a,gH.2.1.1.1.1=v,gH.2.1.1.1.2=G,gH.2.1.1.2=K,gH.2.1.2.1=a3,gH.2.1.2.2=f,gH.2.2.1.1.1=a7,gH.2.2.1.1.2=h0,gH.2.2.1.2=i,gH.2.2.2.1=Z7,gH.2.2.2.2=d7;refine λd p9 Z8 M S r O a0 B R e a2 d1 e5 e6 T a8 e8 a9 b0 b1 X d3 c2 e9 d4 C c4 d6 d8 P f6 d9 c5 e0 e1 D=>te λh1 I=>?_;have h2:=(B.keep X).at' λo g=>P.kA a o (f1 d4) g;refine gI d9 ?_;clear d9;intro d5 h3;rcases yT i Z5.length with e2|i7
  .obtain⟨⟨c6,b5⟩,f7⟩:∃p,Z5[i]?=fR p:=⟨Z5[i],by simp[e2]⟩;obtain⟨a4,i8,i9,j0,d0,l4,j,a1,j1,h4,j2,j3,j4⟩:=R.dg i (c6,b5) f7;obtain rfl:b5=_:=j1;refine I ?_;clear I;refine wpAny_pyNext_dict_item e0 h2 f7 λl5 j5 j6 j7 f8=>te λh1 I=>gI (aaY j6) λt j8=>?_;have b3:=P.same C g7 f8.extBut (gC f8.1.symm) f3;refine gy b3.L.ns λh5 f9 j9=>?_;obtain rfl:=j8;refine I ?_;clear I;refine gU (BT (Td i6 f9 (λb4 k0 Y=>?_) (G_ (show(u_ L env).kind=.function from g4))));have c7:=b3.stored C g8 Y (b3.L.stored a5 j9 k0 Y (.dP c6 t));have h6:(gW d6 x (.d c6)).lookup N=fR (.b F):=by
    rw[rM,if_neg];exact f6;intro k1;rw[k1,a5]at a6;cases a6
   refine agr<|(?_:gg _ _ _ _ _ _);refine Ξ c7.L a5 a6 (by rw[rM];exact lE (if_pos rfl) rfl) h6 (λl6 k3=>by cases k3 with|dO q=>rw[P.xv.sub _ _ _ O]at q;obtain rfl:=gz q;rfl) ((B.keep X).at' λo g=>c7.kA a o (f1 d4) g).dictOf (ach e6 f7) (c7.kA j0 _ (f1 (iB h4)) (X _ _ h4)) j2 j3 λk4 l7=>?_;have h7:=nV (a:=b4.objs.size) (c7.r.fresh fY);refine SY (hsz:=by simpa using(rE c5.length (e1▸gu (gu d8 (c4▸e4)) (vc▸by decide)))) ⟨d5,iW _ ((Y.2 _ f4.symm).trans ((f8.2 _ f5).trans h3))⟩ λk5 k6 g0=>?_;have k7:=(c7.push (o:=.c [a4.1,.d a4.2]) rfl λh e=>ti _ ([a1,.str c6 k4]) 0 (lc ..) e (.dN ((j4.mono P.xv.sub).mono h7) (.dN (i9▸.dP _ _) .dO))).same C f2 g0.extBut (gC g0.1.symm) f4;have k8:ps.drop i=a4::ps.drop (i+1):=by have h8:=gu e2 (gC c4.symm);refine lE (Eo h8) ?_;congr 1;have:=oO h8;rw[i8]at this;exact(gz this).symm
   rw[k8]at D;have k9:tC (ps.drop (i+1)) (Z7++[.b f.n]) (iJ f (.c [a4.1,.d a4.2]))=.b v G:=D;exact⟨Z5.length-(i+1),Nat.sub_succ_lt_self _ _ e2,_,iJ f (.c [a4.1,.d a4.2]),gW d6 x (.d c6),k5,_,i+1,Z7++[.b f.n],d7++[.ref b4.objs.size],rfl,rfl,e2,k7,h6,by simpa using k6,
    (iC.mono c5 h7).append (.dN (.dO (lc ..)) .dO),gy j7 λo g g1=>gx o ((g0.2 _ f5.symm).trans (iW _ ((Y.2 _ f3.symm).trans g))) g1,by simp[e1],k9⟩
  .have l0:=uO d8 i7;obtain rfl:=l0.symm;refine I (tH (wpAny_pyNext_dict_end e5 e0 h2 (by simp) λj5 h9 l1=>?_));clear I;refine te λh1 I=>?_;have b3:=P.same C g7 h9 l1 f3;rw[ww (gC c4)]at D;have l2:=D;cases l2;refine gy b3.L.ns λh5 f9 Z=>I (gx h5 f9 (λb4 Y=>?_));clear I;refine gP (b3.aa C g8 Y.extBut (gC Y.1.symm)) λl3 e3=>?_;have g2:=nV (a:=s.heap.objs.size+1) (e3.fresh fY);have i0:=(Y.2 _ f4.symm).trans (h9 _ _ f5 h3);have g1:gp (jl a3 f.n fY (s.heap.objs.size+1)) (iJ f (.a Z7)) b4:=by
    refine e3.cb (λZ Z e=>e) (ij _) g2 (λi b x e=>?_) (λb c x e D=>?_) (jq _ d7 (lc ..) ⟨d5,i0⟩ (iC.mono c5 g2))
    .unfold jl at e;by_cases q:i=f.n/\b=fY;rw[if_pos q]at e;obtain rfl:=gz e;exact .inr ⟨q.1,(pA r.size),P.xv.aC (C.aC _ f2).1 (C.aC _ f2).2.1,_,i0⟩;rw[if_neg q]at e;exact .inl e
    .unfold jl at e D;induction b<;>cases c;rfl;rw[if_neg (by simp)]at D;rw[e3.fresh]at D;exact nS D;rw[if_neg (by simp)]at e;rw[e3.fresh]at e;exact nS e;rfl
   have c8:=((gS.al X c2).toV.trans l3).ext λb c3=>(xF c3).1;refine a2 _ b4 _ _ (⟨c8.sub.trans g2,λi b x e=>?_,c8.keep,c8.there,c8.size⟩:gS (iF l) [] z s.heap _ b4) g1 (.dO (lc ..));unfold jl at e;by_cases q:i=f.n/\b=fY;rw[if_pos q]at e;obtain rfl:=gz e;exact .inr (jA _);rw[if_neg q]at e;exact c8.new i b x e
 refine lE a8 (lE b1 ?_);exact afZ (g9 _ rfl) (wpAny_pyIter_keyiter (d2.at λo e=>c0 _ _ (b9 _ _ e)) (g9 _ rfl))
def LJ(a:V)(c:Int):M V:=match a with
 |.b i=>fS (lg i) fun
  |.d=>gM (.a [])
  |.b a=>Cv a c
  |_=>gc
 |_=>gc
def abb(e:mK k N=fW)(B:N.names.lookup x=fR .local)(j:N.names.lookup L=fR .free)(K:k_ T)(G:jM)(S:iD d l k U env A z s.heap)(r:gp z y s.heap):gF l [] (gL l []) A (iu (.ListComp (.Tuple [.Subscript (.Subscript (.Name L p1) (.Name x P) p3) (.Constant (.int c) c1 p4) p5,.Name x p6] k2 p7) [⟨.Name x p8,.Name L W,[],0⟩] N Z8) env) VR z s (fS (pP T k U L) (λv=>LJ v c) y):=by
 revert k d l z y s e B j K G S r;revert N x L T U env A p1 P p3 c c1 p4 p5 p6 k2 p7 p8 W Z8;refine @(vP E1 ?_);generalize gH.1.1.1.1.1=N,gH.1.1.1.1.2=x,gH.1.1.1.2=L,gH.1.1.2.1=T,gH.1.1.2.2=U,gH.1.2.1.1.1=env,gH.1.2.1.1.2=A,gH.1.2.1.2=p1,gH.1.2.2.1=P,gH.1.2.2.2=p3,gH.2.1.1.1.1=c,gH.2.1.1.1.2=c1,gH.2.1.1.2=p4,gH.2.1.2.1=p5,gH.2.1.2.2=p6,gH.2.2.1.1.1=k2,gH.2.2.1.1.2=p7,gH.2.2.1.2=p8,gH.2.2.2.1=W,gH.2.2.2.2=Z8;intro k d l z y s e B j K G S r;refine hZ λC b=>gy (Cp e S.L) λM O D=>?_;revert e S r b O D;revert k d l z y s C M;refine @(lx E1 ?_);generalize gw.1.1.1=k,gw.1.1.2=d,gw.1.2.1=l,gw.1.2.2=z,gw.2.1.1=y,gw.2.1.2=s,gw.2.2.1=C,gw.2.2.2=M;refine λe S r b O D=>iT (ta e) λb1 d2 a6=>jR (rX.mp j) λX7 d3 b2 Z=>b ?_;clear b;have b3:=((a6 (L,.free) (by refine lE b2 ?_;simp)).2.1 rfl).2;rw[ag1];refine gJ.bE (gJ.aD (gJ.bind (A:=A) (t:=iu (.Name L W) env) (X9:=λb4 Q E b5=>gg (gk gh w) A (pD b4) (λb6 b7=>gg (gk gh w) A (Ff []) (λZ7 b8=>gg (gk gh w) A (Fe N env.globals M [] env.qual fU .none (fR env)) (λa7 b9=>lF (gk gh w) A (.compStart (.ListComp (.Tuple [.Subscript (.Subscript (.Name L p1) (.Name x P) p3) (.Constant (.int c) c1 p4) p5,.Name x p6] k2 p7) [⟨.Name x p8,.Name L W,[],0⟩] N Z8) 0 b6 Z7 {a7 with scope:=u_ N env}) (Fa (gk gh w) A E fU Q Z7 a7.locals) b9) E b8) E b7) E b5) gL.pre (.of (LQ K G S.L r)) λv f d4 a8 a9 F m c0 n p=>?_) λQ E c2=>?_)
 .have H:U.lookup L=fR v:=by
   unfold pP at m;rcases b3 with h|h<;>rw[h]at m<;>dsimp only at m<;>cases c3:U.lookup L<;>rw[c3]at m<;>cases m<;>rfl
  have b0:=S.ext c0;induction p with
  |@dO i a I=>
   unfold LJ;dsimp only;generalize J:f.get i=u;induction u with|none=>exact lE (zx J) trivial|some o=>
    refine lE (zw J) ?_;cases o with
    |d=>refine hZ λC b=>gp.nK (s:=(sU s a8 a9)) n I J λd5 R=>gI ((rH (mj gh w) R).dictAt) λc4 X=>?_;refine b ?_;clear b;exact λQ E Y=>LK e D B j b0 n I H X .dO (by simp) (rfl:tC [] [] f=_) λa0 a1 a2 F a3 a4 P=>Y a0 a1 a2 F a3 a4 P
    |b c5=>
     refine hZ λC b=>gp.dK (s:=(sU s a8 a9)) n I J λZ5 R q=>gI R.dictAt λc4 X=>?_;refine b ?_;clear b;dsimp only;unfold Cv;generalize c6:ud f c c5=u;induction u with|none=>trivial|some g=>
      dsimp only;split
      .rename_i c7;generalize a5:tC g [] f=u;induction u with|a=>trivial|b v d6=>exact λQ E Y=>LK e D B j b0 n I H X (Yy n q c6) c7 a5 λa0 a1 a2 F a3 a4 P=>Y a0 a1 a2 F a3 a4 P|c _ _=>
        exfalso;have:∀(g:List (V×f_)) Z7 y,∃v f,tC g Z7 y=.b v f:=by intro g;induction g with|nil=>intro Z7 y;exact qA _ _ rfl|cons p r c8=>intro Z7 y;exact c8 _ _
        refine kS (this g [] f) λZ Z c9=>?_;rw[c9]at a5;injection a5
      .trivial
    |_=>trivial
  |_=>trivial
 .exact ST rfl (λZ=>rfl) O b1 (λd0 d1 H=>(a6 d0 d1).1 H) c2
def Kx(xs:List f_):Va->hV->List V->List (gv×gv)->Prop:=λz Z a c=>ib (λ(e:f_×V) (b:gv×gv)=>(∃t,b.1=.str e.1 t)/\VR z e.2 b.2) (xs.zip a) c/\a.length=xs.length
def Na(e:vB (h::Z9)=fR xs):∃s b p a,h=fR (.Constant (.str s) b p)/\vB Z9=fR a/\xs=s::a:=by refine bI e λs c d=>bI c λk f c=>?_;obtain rfl:=f;refine kS (PI c) λb p g=>?_;obtain rfl:=g;refine mI d λa i j=>xW s b p a rfl i j.symm
def j0(Z8:oS):∀(m:Nat) (Z9:List (Option gq)) (b:List gq) (xs:List f_) (z:Va) (y:H) (s:gK),(∀c,c<m->SV T d c)->vB Z9=fR xs->Z9.length=b.length->iD d l k U env A z s.heap->gp z y s.heap->gJ l [] (gL l []) (gg (gk gh w) A (Sr (SC Z9 b env Z8))) (Kx xs) z s (kO T m k U b y):=by
 intro m;induction m with|zero=>intros;trivial|succ m B=>
  intro Z9 b xs z y s g i e S r;induction b with
  |nil=>induction Z9 using jg with|nil=>obtain rfl:=gz i;exact λQ E f=>pairTrees_nil_walk (f z s.heap s.toks [] (gS.dN _ _ _ _) r ⟨.dO,rfl⟩)|cons _ _=>simp at e
  |cons v b=>
   induction Z9 using jg with|nil=>simp at e|cons b6 Z9=>
    have C:=Na i;refine pS C ?_;intro x j p n D F;obtain rfl:=D;refine gP F ?_;intro G I;obtain rfl:=I;have J:gF l [] (gL l []) A (iu (.Constant (.str x) j p) env) VR z s ((fX (V.d x):M V) y):=.val r λQ E k=>λZ Z Z=>k _ _ (.dP x _);have K:kO T (m+1) k U (v::b) y=R.a\/kO T (m+1) k U (v::b)=fS (iA T m k U v) λv=>fS (kO T m k U b) λb=>fX (v::b):=by induction v using jQ<;>first|exact .inr rfl|exact .inl rfl
    have L:gJ l [] (gL l []) (gg (gk gh w) A (Sr (SC (fR (.Constant (.str x) j p)::Z9) (v::b) env Z8))) (Kx (x::n)) z s (fS (fX (V.d x)) (λZ=>fS (iA T m k U v) λv=>fS (kO T m k U b) λb=>fX (v::b)) y):=by refine gJ.aD (gJ.bind gL.pre (.of J) λa b7 N O P b8 W o X Y=>?_) λQ E a0=>pairTrees_cons_walk a0;cases W;refine gJ.bind gL.pre (.of (g m (nR _) A l k U env v N _ (sU s O P) (S.ext o) X)) λu a1 a2 a3 a4 b9 Z a5 a6 a7=>gJ.cH gL.pre (λZ Z Z Z a8 a9 h=>jL h a8 a9) (B Z9 b n a2 a1 (sU s a3 a4) (λc b0=>g c (ru b0)) G (by simpa using e) ((S.ext o).ext a5) a6) λc0 c1 b1 b2 b3 c2 Z b4 b5 q=>?_;intro Q E f;cases Y with|dP _ t=>exact f b1 b2 b3 _ (gS.dN _ _ _ _) b5 ⟨.dN ⟨⟨t,rfl⟩,a7.mono b4.sub⟩ q.1,by simp[q.2]⟩
    rcases K with h|h
    .exact gJ.cF (r:=.a) trivial h.symm
    .exact L.cF (lE h rfl)
def Ο(x:ib (λ(e:f_×V) (a:gv×gv)=>(∃t,a.1=.str e.1 t)/\VR z e.2 a.2) (xs.zip h) y)(b:h.length=xs.length):allStrKeys y=fW/\(SI y).map (·.1)=xs/\ib (KR z) (xs.zip h) (SI y):=by
 induction xs generalizing h y with
 |nil=>induction h using jg with|nil=>cases x;exact iy rfl rfl .dO|cons _ _=>simp at b
 |cons k xs c=>induction h using jg with|nil=>simp at b|cons u h=>cases x with|@dN _ a _ _ p q=>refine gP p ?_;intro d f;refine gI d ?_;intro t g;obtain⟨m,n⟩:=a;subst g;refine iT (c q (by simpa using b)) λi j l=>iy i (by refine(?_:k::_=_);exact lE j rfl) (.dN ⟨rfl,f⟩ l)
def O4:∀{Z9:List (Option gq)} {xs:List f_},vB Z9=fR xs->Z9.all (·.isSome)=fW/\Z9.length=xs.length:=by intro Z9;induction Z9 with|nil=>intro xs e;obtain rfl:=gz e;exact⟨rfl,rfl⟩|cons j Z9 a=>intro xs e;refine pS (Na e) λs b p k c d=>?_;obtain rfl:=c;refine gP d ?_;intro f g;obtain rfl:=g;refine gP (a f) λh i=>⟨by exact lE IR (lE h rfl),congrArg (·+1) i⟩
def ab9(M:∀m,m<n->SV T d m)(v:vB Z9=fR xs)(B:Z9.length=h.length)(N:xs.Nodup)(D:0<xs.length)(O:xs.length<=10)(S:iD d l k U env A z s.heap)(r:gp z y s.heap):gF l [] (gL l []) A (iu (.Dict Z9 h Z8) env) VR z s (fS (kO T n k U h) (λF=>if xs.length=F.length then gM (.b (xs.zip F))else gc) y):=by
 revert d z y M v B N D O S r;revert n T Z9 xs l k U env A h Z8 s;refine @(vO E1 ?_);generalize hG.1.1.1.1=n,hG.1.1.1.2=T,hG.1.1.2=Z9,hG.1.2.1.1=xs,hG.1.2.1.2=l,hG.1.2.2=k,hG.2.1.1.1=U,hG.2.1.1.2=env,hG.2.1.2=A,hG.2.2.1.1=h,hG.2.2.1.2=Z8,hG.2.2.2=s;intro d z y M v B N D O S r;refine gP (O4 v) λa9 X=>?_;have Y:∀b o,s.heap.get? b=fR o->(s.heap.push {cls:=.type "dict",data:=.dict #[]}).get? b=fR o:=λZ Z e=>iW _ e;have a0:s.heap.objs.size<=(s.heap.push {cls:=.type "dict",data:=.dict #[]}).objs.size:=by rw[kt];exact jA _
 have a1:=pd r (ij _);have P:gS (iF l) [] z s.heap z (s.heap.push {cls:=.type "dict",data:=.dict #[]}):=gS.al Y a0;have G:=j0 Z8 n Z9 h xs z y {s with heap:=s.heap.push {cls:=.type "dict",data:=.dict #[]}} M v B (S.ext P) (r.keep Y a0);refine gJ.bE (gJ.aD (τ:=λQ E a2=>gg (gk gh w) A (Sr (SC Z9 h env Z8)) (λH I=>∃Z5,Carries (mj gh w) H Z5/\I.heap.DictOf (mj gh w) s.heap.objs.size []/\∀f,f.DictOf (mj gh w) s.heap.objs.size (merged [] Z5)->oR s.heap.objs.size I.heap f->Q (.ref s.heap.objs.size) (sU I f (I.toks+H.length))) E {a2 with heap:=a2.heap.push {cls:=.type "dict",data:=.dict #[]}}) ?_ λQ E b0=>wpAny_Dict_walk a9 B (by intro j;subst j;rw[<-X]at D;exact uP _ D) (gu (gu (gC X) O) gO) b0);unfold fS;generalize e:kO T n k U h y=b1;induction b1 with|a=>trivial|c C p=>rw[e]at G;exact λQ E R=>G _ E λe f b2 b3=>R e f b2 (gL.pre _ _ _ _ _ _ _ _ P b3)|b F p=>
  rw[e]at G;dsimp only;split
  .rename_i c3;refine λQ E R=>G _ E λb4 b5 c4 H V b6 a3=>iT (Ο a3.1 a3.2) λb7 b8 b9=>?_;have c0:=(V.keep _ _ a1 (by simp) (lu s.heap rfl)).1 λj=>tw (Gv S.fr _ j) (ij _);refine display_done_str b7 (by refine lE b8 ?_;exact N) (rH (mj gh w) c0) λJ a4 a5=>?_;have a6:∀b o,b∉[s.heap.objs.size]->b5.get? b=fR o->J.get? b=fR o:=λb o t g=>(a5.2 b λj=>t (by simp[j])).trans g;have a7:=gC a5.1.symm;have a8:=V.aC a1 (by rw[kt];exact nR _);have K:=b6.but (λb t=>by refine lE (js.mp t)<|a8) (λb t=>by refine lE (js.mp t)<|r.size) a6 a7;have W:=nV (a:=s.heap.objs.size) (K.fresh fY);have c1:gp (jl b4 p.n fY s.heap.objs.size) (iJ p (.b (xs.zip F))) J:=by
    refine K.cb (λZ Z e=>e) (ij _) W (λi b x e=>?_) (λb c x e L=>?_) (jq _ (SI H) (lc ..) a4 (b9.mono λZ Z q=>q.mono W))
    .unfold jl at e;by_cases q:i=p.n/\b=fY;rw[if_pos q]at e;obtain rfl:=gz e;exact .inr (kg q.1 r.size a8 (sG a4));rw[if_neg q]at e;exact .inl e
    .unfold jl at e L;induction b<;>cases c;rfl;rw[if_neg (by simp)]at L;rw[K.fresh]at L;injection L;rw[if_neg (by simp)]at e;rw[K.fresh]at e;injection e;rfl
   have u:=((P.trans V).toV.trans (jH.aM a6 a7 (by simp))).ext λa c2=>lE (js.mp c2)<|ij _;refine R _ J _ _ (⟨u.sub.trans W,λi b x e=>?_,u.keep,u.there,u.size⟩:gS (iF l) [] z s.heap _ J) c1 (.dO (lc ..));unfold jl at e;by_cases q:i=p.n/\b=fY;rw[if_pos q]at e;obtain rfl:=gz e;exact .inr (ij _);rw[if_neg q]at e;exact u.new i b x e
  .trivial
section
variable(T:ie)(d:Nat)
def Cc:Prop:=∀(n:Nat) A l k U env f p a b c e Z8 z y (s:gK),k.lookup f=fR .globalImplicit->T.az f=fR .c->iD d l k U env A z s.heap->gp z y s.heap->gF l [] (gL l []) A (iu (.Call (.Name f p) [.Lambda a b c e] [] Z8) env) VR z s (GF T n k U a c b y)
def sX:Prop:=∀(A:lj) (s:gK) (a:gG) (d:List gv) (Z6:List Int) (Q:gv->gK->Prop) (E:gv->gK->Prop),A.handled=fU->s.heap.IsList a d.toArray->sK d Z6->Z6.Nodup->Z6.length<64->(∀(B:gG) c g (f:List gv) e,(∀b o,s.heap.get? b=fR o->c.get? b=fR o)->s.heap.objs.size<=B->c.get? B=fR (kM "list" f.toArray e)->sK f (tE Z6)->Q (.ref B) (sU s c g))->gg (gk gh w) A (ju (.type "set") [.ref a]) (λx h=>gg (gk gh w) A (ju (.builtin "sorted") [x]) Q E h) E s
end
def abi{T:ie}{d n:Nat}(I:sX)(m:pG)(G:jM)(J:jN [e]=fW)(o:k.lookup (fZ "sorted")=fR .globalImplicit)(u:k.lookup (fZ "set")=fR .globalImplicit)(K:SV T d n)(S:iD d l k U env A z s.heap)(r:gp z y s.heap):gF l [] (gL l []) A (iu (.Call (.Name "sorted" h) [.Call (.Name "set" t) [e] [] L] [] Z8) env) VR z s (fS (iA T n k U e) AK y):=by
 have b:mG [e] env=[(fY,iu e env)]:=lE (aaQ J) rfl;refine gJ.bE (gJ.aD (gJ.bind (X9:=λx Q E M=>gg (gk gh w) A (ju (.type "set") [x]) (λN O=>gg (gk gh w) A (ju (.builtin "sorted") [N]) Q E O) E M) gL.pre (.of (K A l k U env e z y s S r)) λv C P R V c Z x f p=>?_) λQ E W=>?_)
 .unfold AK;induction p with
  |@dO i a X=>
   rcases vE i C with⟨xs,Y,b⟩|b
   .refine lE (nW b) ?_;generalize a0:qC xs=a1;induction a1 with|none=>trivial|some is=>
     refine lE sj ?_;split;rename_i D;refine gp.lK f X Y λa2 a3 q=>λQ E a4=>I A (sU s R V) a a2 is _ _ S.cx.dN a3.isList (Am a0 q) D.1 D.2 λB a5 a6 a7 a8 F g j a9=>?_;have H:=jo (yR g (iB j));exact a4 (jl P C.n fY B) a5 a6 (.ref B) (gS.add f F H g) (f.add F H g ⟨_,j⟩ (jq B a7 (lc ..) ⟨a8,j⟩ (MX a9))) (.dO (lc ..));trivial
   .exact lE (lW b) trivial
  |_=>trivial
 .rw[BH];refine gf (Dj G S.L o ((ye S.L.b_ o).1) r m.du (by decide+kernel:lH "sorted"=some (.builtin "sorted")) (by decide+kernel) ?_);refine PySem.callWith_builtin1 ?_;rw[BH];refine gf (Dj G S.L u ((ye S.L.b_ u).1) r m.set (by decide+kernel:lH "set"=some (.type "set")) (by decide+kernel) ?_);refine lE b<|PySem.callWith_type1 W
def HJ(e:r=.a):gF l own X A t P z s r:=e▸trivial
structure rA(T:ie)(d n:Nat):Prop where
 v:SV T d n
 b:SB T d n
 a:SA T d n
 l:SL T d n
def Gh(h:c=fW->gF l own X A t P z s (m y)):gF l own X A t P z s ((if c then m else gc) y):=by cases c with|true=>exact h rfl|false=>trivial
def Hb(h:mB e=fW):JN t e=fY:=by induction e using jQ<;>first|rfl|injection h
def aas{T:ie}{d n:Nat}(a:rA T d n):SL T d (n+1):=λA l k U env b Z8 z y s S r=>by
 induction b with|nil=>exact aar r|cons e Z4=>
  have c:kO T (n+1) k U (e::Z4) y=R.a\/(kO T (n+1) k U (e::Z4)=(fS (iA T n k U e) λv=>fS (kO T n k U Z4) λf=>fX (v::f))/\mG (e::Z4) env=(fY,iu e env)::mG Z4 env):=by induction e using jQ<;>first|exact .inr ⟨rfl,rfl⟩|exact .inl rfl
  rcases c with h|⟨h,g⟩
  .exact HJ h
  .exact lE h<|aaq g a.v a.l S r
def ϯ{T:ie}{d n:Nat}(a:rA T d n):SA T d (n+1):=λA l k U env c b z y s S r=>by induction b with|nil=>exact Ϯ r|cons e Z4=>exact ϭ a.b a.a S r
def ϵ{T:ie}{d n:Nat}(a:rA T d n):SB T d (n+1):=λA l k U env e z y s S r=>by
 have g:(tV e env (iu e env)=(do let v<-iu e env;xm e.pos;pC [v] (xp v)))->qf T (n+1) k U e=fS (iA T n k U e) lO->gF l [] (gL l []) A (tV e env (iu e env)) (λZ b j=>j=b) z s (qf T (n+1) k U e y):=λm o=>lE o<|ϱ m r (a.v A l k U env e z y s S r);induction e using jQ with
 |UnaryOp c x Z8=>induction c with|Not=>exact ϴ a.b S r|_=>exact g rfl rfl
 |BoolOp c p Z8=>exact a.a A l k U env c p z y s S r
 |IfExp _ _ _ _=>trivial
 |Compare u i f Z8=>
  rcases i with _|⟨c,_|⟨w,_|⟨B,i⟩⟩⟩
  .trivial
  .rcases f with _|⟨q,_|⟨t,f⟩⟩
   .trivial
   .exact Gh λh=>ϲ (Hb h) a.v S r
   .trivial
  .rcases f with _|⟨q,_|⟨t,_|⟨C,f⟩⟩⟩
   .trivial
   .trivial
   .exact Gh λh=>ϳ (Hb h) a.v S r
   .trivial
  .trivial
 |_=>exact g rfl rfl
def η(e:GV t x=fR i):∃c p,t=.USub/\x=.Constant (.int i) c p:=by induction t with|USub=>exact kS (HV e) λb p h=>nF b p rfl h|_=>exact qG e
def XQ(e:zv i=fW):∃g j k l,i=.Slice fU fU (fR (.UnaryOp .USub (.Constant (.int 1) g j) k)) l:=by
 unfold zv at e;generalize h:AR i=d;induction d with|none=>rw[h]at e;injection e|some q=>
  obtain⟨a,b,c⟩:=q;rw[h]at e;induction a with|some _=>injection e|none=>
  induction b with|some _=>injection e|none=>
  induction c with|none=>injection e|some s=>refine gI (PH h) λl m=>?_;obtain rfl:=m;dsimp only at e;generalize f:Ia s=d;induction d with|none=>rw[f]at e;injection e|some q=>obtain⟨n,x⟩:=q;rw[f]at e;induction n with|USub=>refine gI (acg f) λk o=>?_;obtain rfl:=o;refine kS (HV (of_decide_eq_true e)) λg j p=>?_;obtain rfl:=p;exact MM _ _ _ _ rfl|_=>injection e
def aat{q:Option gq×Option gq}(e:ym i=fR q):∃d,i=.Slice q.1 q.2 fU d:=by unfold ym at e;generalize h:AR i=f;induction f with|none=>rw[h]at e;exact qG e|some q=>obtain⟨a,b,c⟩:=q;rw[h]at e;induction c with|none=>obtain rfl:=gz e;exact PH h|some _=>exact qG e
def O7(e:Aq h=fR (t,b,x)):∃a,h=[.Lambda t b x a]:=by refine bI e λc d f=>gI (ace f) λp g=>?_;obtain rfl:=g;exact⟨p,vL d⟩
def Ag{b:Type}[Decidable c]{x:Option b}{a:b}(h:(if c then x else fU)=fR a):c/\x=fR a:=by
 by_cases q:c;rw[if_pos q]at h;exact⟨q,h⟩;rw[if_neg q]at h;exact qG h
def ϸ(e:AH f h=fR x):∃a b,f="sorted"/\h=[.Call (.Name "set" a) [x] [] b]:=bI e λc d e=>bI e λu g e=>gP (Ag e) λi j=>iT i λk l m=>gI (rS m) λa n=>gI (HT g) λb o=>nF a b l ((vL d).trans (by rw[o,n,wy.mp k,vL j]))
def ab0{q:f_×f_}(h:Pi e=fR q):∃a b c,e=.Subscript (.Name q.1 a) (.Name q.2 b) c:=bI h λZ d h=>bI h λZ f h=>mI h λZ g h=>gI (HZ d) λc i=>gI (rS f) λa j=>gI (rS g) λb k=>⟨a,b,c,by rw[i,j,k,<-h]⟩
def aaZ{q:(f_×f_)×Int}(h:Ph e=fR q):∃a b c d f g,e=.Subscript (.Subscript (.Name q.1.1 a) (.Name q.1.2 b) c) (.Constant (.int q.2) d f) g:=bI h λZ i h=>bI h λZ j h=>mI h λZ k h=>gI (HZ i) λg l=>PX (ab0 j) λa b c m=>kS (HV k) λd f n=>⟨a,b,c,d,f,g,by rw[l,m,n,<-h]⟩
def Yw{q:((f_×f_)×Int)×f_}(h:FL e=fR q):∃u a b c,e=.Tuple [u,.Name q.2 b] a c/\∃d f g i j k,u=.Subscript (.Subscript (.Name q.1.1.1 d) (.Name q.1.1.2 f) g) (.Constant (.int q.1.2) i j) k:=bI h λZ l h=>bI h λr m h=>bI h λZ n h=>mI h λZ o h=>kS (H_ l) λa c p=>gI (rS o) λb s=>⟨r.1,a,b,c,by rw[p,PC m,s,<-h],h▸aaZ n⟩
def Hj{q:gq×gq×List gq}(e:uu g=fR q):g=[⟨q.1,q.2.1,q.2.2,0⟩]:=bI e λc a b=>(vL a).trans (by obtain⟨t,i,f,n⟩:=c;refine gP (Ag b) λd h=>?_;rw[d,<-gz h])
def ζ{q:f_×f_}(e:Nx g=fR q):∃a b,g=[⟨.Name q.1 a,.Name q.2 b,[],0⟩]:=by refine bI e λr c e=>gP (Ag e) λd e=>bI e λZ f e=>mI e λZ h e=>gI (rS f) λa i=>gI (rS h) λb j=>⟨a,b,?_⟩;rw[Hj c,i,j,wy.mp d,<-e]
def Zw(e:vn t g=fR (x,h,c)):∃a b d f i j k l m n o,t=.Tuple [.Subscript (.Subscript (.Name h a) (.Name x b) d) (.Constant (.int c) n f) i,.Name x j] o k/\g=[⟨.Name x l,.Name h m,[],0⟩]:=by
 revert e;revert t g x h c;refine @(qJ E1 ?_);generalize iz.1.1.1=t,iz.1.1.2=g,iz.1.2=x,iz.2.1=h,iz.2.2=c;refine λe=>bI e λr v e=>bI e λp w e=>gP (Ag e) λp e=>?_;injection e with e;injection e with q e;injection e with y z;subst q;subst y;subst z
 refine pS (Yw v) λu o j k s A=>acz A λa b d n f i B=>kS (ζ w) λl m q=>?_;rw[B,p.1,p.2]at s;exact⟨a,b,d,f,i,j,k,l,m,n,o,s,q⟩
def I6{T:ie}:fS (rg T k f) (λg=>if Ax g then fS (kO T 0 k U t) λa=>nX T (fR g) a else gc) y=.a:=by
 unfold rg;by_cases h:k.lookup f=fR .globalImplicit
 .refine lE (if_pos h) ?_;cases T.az f with|none=>rfl|some g=>refine lE sj ?_;split<;>rfl
 .exact lE (if_neg h) rfl
def abj{T:ie}{d n:Nat}(w:k_ T)(L:qb T)(X:pG)(G:jM)(F:FS T d)(N:Cc T (d+1))(a5:sX)(C:rA T (d+1) n)(O:∀m,m<n->SV T (d+1) m):SV T (d+1) (n+1):=λA l k U env e z y s S r=>by
 revert w L F N C O S r;revert T d n A l k U env e z y s;refine @(vO E1 ?_);generalize hG.1.1.1.1=T,hG.1.1.1.2=d,hG.1.1.2=n,hG.1.2.1.1=A,hG.1.2.1.2=l,hG.1.2.2=k,hG.2.1.1.1=U,hG.2.1.1.2=env,hG.2.1.2=e,hG.2.2.1.1=z,hG.2.2.1.2=y,hG.2.2.2=s;intro w L F N C O S r;have v:=C.v;have Y:=C.b;have J:=C.l;have a0:∀{B:List gq},n≠0->B=[]->kO T n k U B=fX []:=λh e=>by subst e;induction n with|zero=>exact absurd rfl h|succ m=>rfl
 induction e using jQ with
 |Constant c b p=>exact ab8 r
 |Name x p=>exact LQ w G S.L r
 |BinOp a E b p=>exact ab5 v S r
 |UnaryOp E x p=>refine(?_:gF _ _ _ _ _ _ _ _ (CC E x y));unfold CC;generalize e:GV E x=u;induction u with|none=>trivial|some i=>refine jR (η e) λc d2 a6 a7=>?_;obtain rfl:=a6;obtain rfl:=a7;exact abg r
 |IfExp t b o p=>exact abc v Y S r
 |BoolOp E D p=>
  rcases D with _|⟨x,_|⟨d3,_|⟨d4,D⟩⟩⟩
  .trivial
  .trivial
  .exact ab6 v S r
  .trivial
 |Compare d5 a1 a2 p=>
  rcases a1 with _|⟨E,_|⟨d6,a1⟩⟩
  .trivial
  .rcases a2 with _|⟨d7,_|⟨d8,a2⟩⟩
   .trivial
   .exact Gh λh=>ab7 (Hb h) v S r
   .trivial
  .trivial
 |List D p=>exact abd J S r
 |Tuple D b p=>exact abl J S r
 |Dict Z9 a8 p=>
  refine(?_:gF _ _ _ _ _ _ _ _ (Gm (mZ T n) k U Z9 a8 y));unfold Gm;split;exact aba r
  .refine jf λa9=>qH λxs P=>?_;split;rename_i Q;exact ab9 (λm b0=>O m b0) P a9 Q.1 Q.2.1 Q.2.2 S r;trivial
 |Attribute o nm p=>
  refine(?_:gF _ _ _ _ _ _ _ _ ((if sp o then gc else _:M V) y));split;trivial;rename_i h;exact ab3 (by simpa using h) w G v S r
 |Subscript o i p=>
  refine(?_:gF _ _ _ _ _ _ _ _ (zP (mZ T n) k U o i y));unfold zP;by_cases R:zv i=fW;refine lE (if_pos R)<|hZ λK j=>PY (XQ R) λb1 d9 b2 b3 b4=>?_;obtain rfl:=b4;refine j ?_;clear j;exact ab4 v S r
  .refine lE (if_neg R) ?_;generalize e:ym i=u;induction u with|some q=>refine gI (aat e) λb3 b5=>?_;obtain rfl:=b5;exact abh v S r|none=>refine jf λh=>abk (by induction i using jQ<;>first|rfl|injection h) v S r
 |Call f B b6 p=>
  induction b6 with|cons _ _=>trivial|nil=>
   induction f using jQ with
   |Attribute o nm b7=>
    refine(?_:gF _ _ _ _ _ _ _ _ (zN T (mZ T n) k U o nm b7 B p y));unfold zN;split;trivial
    .rename_i h;simp only[wo,not_or,QA,Qz,decide_eq_true_eq,IM,Bm,Ei]at h;refine hZ λK j=>gP h ?_;intro b8 b9;refine gP b8 ?_;intro c0 c1;refine gP c0 ?_;intro c2 H;refine j ?_;clear j;by_cases I:n=0;subst I;exact HJ rfl;exact abf (by simpa using c2) (by simpa using H) (by simpa using c1) (by simpa using b9) (a0 I) w G F v J S r
   |Name f e0=>
    refine(?_:gF _ _ _ _ _ _ _ _ (xR T (mZ T n) n k U f B y));unfold xR;generalize c3:Aq B=u;induction u with
    |some q=>refine hZ λK j=>?_;obtain⟨e1,e2,a3⟩:=q;refine gI (O7 c3) λe3 c4=>?_;obtain rfl:=c4;refine j ?_;clear j;refine jf λP=>?_;generalize c5:T.az f=u;induction u with|none=>trivial|some g=>induction g with|c=>exact N n A l k U env _ _ _ _ _ _ _ z y s P c5 S r|_=>trivial
    |none=>
     generalize D:AH f B=u;induction u with|some q=>refine hZ λK j=>jR (ϸ D) λc6 c7 c8 c9=>?_;obtain rfl:=c8.symm;obtain rfl:=c9.symm;refine j ?_;clear j;refine jf λH=>abi a5 X G H.2.2 H.1 H.2.1 v S r|none=>
      dsimp only;split;trivial
      .rename_i h;by_cases I:n=0;subst I;exact HJ I6;exact Pl (by simpa using h) (a0 I) w L G F J S r
   |_=>trivial
 |ListComp a4 W a3 p=>
  refine(?_:gF _ _ _ _ _ _ _ _ (ui T (mZ T n) k U a4 W a3 y));unfold ui;generalize d0:vn a4 W=u;induction u with|some q=>refine hZ λK j=>?_;obtain⟨x,e4,c⟩:=q;obtain⟨b2,c6,c7,e5,e6,e7,e8,e9,f0,b1,f1,rfl,rfl⟩:=Zw d0;refine j ?_;clear j;refine jf λh=>abb h.2.2 h.1 h.2.1 w G S r|none=>
   generalize d1:uu W=u;induction u with|none=>trivial|some q=>
    obtain⟨t,i,f2⟩:=q;obtain rfl:=Hj d1;dsimp only;unfold Gn;split;trivial;rename_i h;simp only[wo,not_or,QA,Qz,IM,Bm,Ei]at h;exact abe (by simpa using h.1) (by simpa using h.2) X G C.l v Y S r
 |_=>trivial
def Vk{T:ie}{d:Nat}:rA T d 0:=⟨λZ Z Z Z Z Z Z Z Z Z Z=>trivial,λZ Z Z Z Z Z Z Z Z Z Z=>trivial,λZ Z Z Z Z Z Z Z Z Z Z Z=>trivial,λZ Z Z Z Z Z Z Z Z Z Z Z=>trivial⟩
def FF{T:ie}{d:Nat}(c:k_ T)(e:qb T)(f:pG)(G:jM)(F:FS T d)(g:Cc T (d+1))(i:sX):∀n,rA T (d+1) n:=by
 have:∀n,∀m,m<=n->rA T (d+1) m:=by
  intro n;induction n with|zero=>intro m a;obtain rfl:=aeT.mp a;exact Vk|succ n b=>
   intro m a;rcases yT m (n+1)with h|h
   .exact b m (Jc h)
   .obtain rfl:m=n+1:=uO a h;have I:=b n (ij _);exact⟨abj c e f G F g i I λm a=>(b m (jo a)).v,ϵ I,ϯ I,aas I⟩
 exact λn=>this n n (ij _)
def oA(k:ii)(env:ji):Va->hV->Fl->Flow->Prop|z,h,.a ℓ',.next=>LR z k ℓ' env h|z,_,.b v,.ret c=>VR z v c|_,_,_,_=>False
section
variable(T:ie)(d:Nat)
def SX(n:Nat):Prop:=∀A l k U env a z y (s:gK),iD d l k U env A z s.heap->gp z y s.heap->gJ l (iH k env) (gL l (iH k env)) (gg (gk gh w) A (qY a env)) (oA k env) z s (Mk T n k U a y)
def XL(n:Nat):Prop:=∀A l k U env a z y (s:gK),iD d l k U env A z s.heap->gp z y s.heap->gJ l (iH k env) (gL l (iH k env)) (gg (gk gh w) A (xl a env)) (oA k env) z s (lw T n k U a y)
end
def gJ.map{g:L->N}(h:gJ l own X τ P z s (m y))(k:∀c d a b,P c d a b->t c d (g a) b):gJ l own X τ t z s (fS m (λa=>fX (g a)) y):=by unfold fS;generalize e:m y=f;induction f with|a=>trivial|c C i=>rw[e]at h;exact h|b a i=>rw[e]at h;exact λQ E x=>h Q E λc d j b n r p=>x c d j b n r (k _ _ _ _ p)
def to(L:LR z k U env h):∀C y e a,gL l [] z h C y e a->gL l (iH k env) z h C y e a:=λZ Z Z Z r=>r.lift (Az L)
def rf{T:ie}{d n:Nat}(b:SV T d n)(S:iD d l k U env A z s.heap)(r:gp z y s.heap):gJ l (iH k env) (gL l (iH k env)) (gg (gk gh w) A (iu e env)) (λa f v c=>VR a v c/\LR a k U env f) z s (iA T n k U e y):=gJ.block S.L (to S.L) (.of (b A l k U env e z y s S r))
def iD.bz{d:Nat}(S:iD d l k U env A z h)(x:gS (iF l) (iH k env) z h t y)(L:LR t k ℓ' env y):iD d l k ℓ' env A t y:=⟨S.cx,L,S.fr.ext x⟩
set_option tactic.hygienic true in
def LY{T:ie}{d n:Nat}{c:gv}(P:k_ T)(G:jM)(m:SV T d n)(S:iD d l k U env A z s.heap)(r:gp z y s.heap)(B:VR z v c):gJ l (iH k env) (gL l (iH k env)) (gg (gk gh w) A (pY t env c)) (LP k env) z s (AN T (λℓ' R=>iA T n k ℓ' R) k U t v y):=by
 induction t using jQ with
 |Name x p=>exact(zK S.L r B).aD λQ E h=>BT h
 |Attribute o nm p=>
  refine gJ.aD (gJ.bind gL.pre (rf m S r) (X9:=λx Q E e=>gg (gk gh w) A (JY x nm c) Q E e) λu V W X Y x Z f C D=>?_) λQ E F=>?_;refine gP D ?_;intro H g;exact gJ.map (gJ.block g (to g) (.of (j9 P G.bA (λZ h=>nM h) C H (B.mono f.sub)))) λa0 a1 a b q=>q.2;rw[afT];exact gf (jp (jL F (λx e I=>gf (lk (gf (jp (jL I (λZ J K=>Fp K) λZ Z x=>x))))) λZ Z x=>x))
 |Subscript o i p=>
  refine(?_:gJ _ _ _ _ _ _ _ ((if sE i then _ else gc:M gA) y));split
  .rename_i a6;refine gJ.aD (gJ.bind gL.pre (rf m S r) (X9:=λx Q E e=>gg (gk gh w) A (iu i env) (λL J=>gg (gk gh w) A (setItem x L c) Q E J) E e) λu V W X Y x Z f C D=>?_) λQ E F=>?_;refine gP D ?_;intro H g;refine gJ.bind gL.pre (rf m (S.bz f g) C) λj a7 a0 a1 a8 L Z N a2 a3=>gP a3 ?_;intro a4 O;exact gJ.map (gJ.block O (to O) (.of (k6 (λZ h=>nM h) a2 (H.mono N.sub) a4 ((B.mono f.sub).mono N.sub)))) λa9 b0 a b q=>q.2;rw[arm_assign_Subscript];exact gf (jp (jL F (λx e I=>gf (jp (jL I (λL J K=>gf (lk (gf (jp (jL K (λZ b1 a5=>Fp a5) λZ Z x=>x))))) λZ Z x=>x))) λZ Z x=>x))
  .trivial
 |_=>trivial
def Pu(h:jN ts=fW):(xi ts env)=ts.map λt=>(fY,pY t env):=by induction ts with|nil=>rfl|cons t ts a=>refine gP (?_:jN ts=fW/\xi (t::ts) env=(fY,pY t env)::xi ts env) λb c=>c.trans (lE (a b) rfl);induction t using jQ<;>first|exact⟨h,rfl⟩|exact fT h
def m3{T:ie}{d n:Nat}(g:k_ T)(G:jM)(h:SV T d n):∀{ts:List gq} {b:List V} {a:List gv} {z:Va} {y:H} {s:gK} {U:gA},iD d l k U env A z s.heap->gp z y s.heap->iC z b a->gJ l (iH k env) (gL l (iH k env)) (gg (gk gh w) A (xj (ts.map λt=>pY t env) a)) (LP k env) z s (vX T (λℓ' i=>iA T n k ℓ' i) k U ts b y):=by
 intro ts;induction ts with
 |nil=>intro b a z y s U S r e;induction e with|dO=>intro Q E j;exact gU (j z s.heap s.toks () (gS.dN _ _ _ _) r S.L)|dN _ _=>trivial
 |cons t ts m=>intro b a z y s U S r e;induction e with|dO=>trivial|@dN v c b a o q=>refine gJ.aD (gJ.bind gL.pre (LY g G h S r o) λℓ' B C D F _ _ f p u=>m (S.bz f u) p (iC.mono q f.sub)) λQ E x=>(?_:gg _ _ (pC a (pY t env c)>>=λZ=>xj (ts.map λt=>pY t env) a) _ _ _);exact gf (jp x)
set_option tactic.hygienic true in
def ZN{T:ie}{d n:Nat}(a:k_ T)(G:jM)(b:SV T d n)(S:iD d l k U env A z s.heap)(r:gp z y s.heap)(e:VR z v c):gJ l (iH k env) (gL l (iH k env)) (gg (gk gh w) A (pY t env c)) (LP k env) z s (qc T (λℓ' f=>iA T n k ℓ' f) k U t v y):=by
 induction t using jQ with
 |Tuple ts B C=>
  refine(?_:gJ _ _ _ _ _ _ _ ((if jN ts then _ else gc:M gA) y));split
  .rename_i g;refine gJ.aD (gJ.bind gL.pre ((Gg S.cx.dN r e).block S.L (to S.L)) λD F H I J K Z h i p=>m3 a G b (S.bz h p.2) i p.1) λQ E j=>?_;rw[arm_assign_Tuple];unfold unpack;refine lE (Pu g) ?_;have m:(ts.map λt=>(fY,pY t env)).findIdx? (·.1)=fU:=by rw[aek];intro x o;refine mE o λt Z q=>?_;obtain rfl:=q;rfl
   have u:(ts.map λt=>(fY,pY t env)).map (·.2)=ts.map λt=>pY t env:=lE kR rfl;refine lE m (lE u ?_);rw[iq];exact gf (lk (gf (jp j)))
  .trivial
 |_=>exact LY a G b S r e
def Δ{b:List gG}(g:env.locals∉b)(h:∀d c,env.cells.lookup d=fR c->c∉b):∀a∈iH k env,a∉b:=λa f=>by
 rcases gX.mp f with rfl|f
 .exact g
 .refine fE f λd Z e=>?_;by_cases q:d.2=.cell;rw[if_pos q]at e;exact h _ _ e;rw[if_neg q]at e;injection e
def LR.cE{d:List gG}(L:LR z k U env h)(f:∀b o,b∉d->h.get? b=fR o->t.get? b=fR o)(g:h.objs.size<=t.objs.size)(i:env.locals∉d)(j:∀e c,env.cells.lookup e=fR c->c∉d):LR z k U env t:=L.bL (fs:=[]) (own:=[]) (jH.aM f g (by simp)) ⟨by simp,i⟩ λe c a Z=>⟨by simp,j e c a⟩
inductive Tl(l:List ji)(own f:List gG)(z:Va)(s:gK)(env:ji)(k:ii)(c:Nat)(g:Nat->hV->Prop)(C:gA->Nat->H->Prop)(m:Nat)(s':gK):Prop|mk (b:Va) (d:H) (e:gA) (a:hV) (h:oq) (i:Nat) (j:s'=(sU s a h)) (n:m=c-i) (o:i<=c) (p:jH (iF l) own f z s.heap b a) (q:gp b d a) (r:LR b k e env a) (t:g i a) (u:C e i d)
inductive U_(l:List ji)(own:List gG)(z:Va)(s:gK)(env:ji)(k:ii)(C:gA->H->Prop)(s':gK):Prop|mk (b:Va) (c:H) (d:gA) (a:hV) (e:oq) (f:s'=(sU s a e)) (g:gS (iF l) own z s.heap b a) (h:gp b c a) (i:LR b k d env a) (j:C d c)
def F9{R:pW->gK->Prop}{F:Nat->hV->Prop}(a5:XL T d n)(W:oY A z I h Q Z3 F)(S:iD d l k U env A z s.heap)(r:gp z y s.heap)(a6:F 0 s.heap)(p:∀b∈h,iI.objs.size<=b/\iR z b/\b<s.heap.objs.size)(G:env.locals∉h)(H:∀d6 c,env.cells.lookup d6=fR c->c∉h)(X:∀L∈iF l,L∉h)(e:lf Q (λD a7=>nJ k D P a7) (λℓ'=>lw T n k ℓ' N) im U Z3 y=.b f a0)(Y:∀E J a1 K,jH (iF l) (iH k env) h z s.heap E J->gp E a0 J->oA k env E J f K->R (.ok K) (sU s J a1)):lF (gk gh w) A (.forLoop P (.ref I) N [] env) R s:=by
 revert d I U y f a5 W S r a6 p G H X e Y;revert T n A z h Q Z3 l k env P N a0 s R F;refine @(Dt E1 ?_);generalize ic.1.1.1.1=T,ic.1.1.1.2=n,ic.1.1.2.1=A,ic.1.1.2.2=z,ic.1.2.1.1=h,ic.1.2.1.2=Q,ic.1.2.2.1=Z3,ic.1.2.2.2=l,ic.2.1.1.1=k,ic.2.1.1.2=env,ic.2.1.2.1=P,ic.2.1.2.2=N,ic.2.2.1.1=a0,ic.2.2.1.2=s,ic.2.2.2.1=R,ic.2.2.2.2=F;intro d I U y f a5 W S r a6 p G H X e Y;have a8:=Δ (k:=k) G H;refine codeAny_forLoop_any (Tl l (iH k env) h z s env k Z3.length F λD i b7=>lf Q (λD a7=>nJ k D P a7) (λℓ'=>lw T n k ℓ' N) im D (Z3.drop i) b7=.b f a0) ?_ Z3.length ⟨z,y,U,s.heap,s.toks,0,rfl,rfl,jT _,jH.dN,r,S.L,a6,by refine(yL).symm▸?_;exact e⟩;rintro m s' ⟨E,b7,D,J,f9,i,rfl,rfl,d7,M,a2,b8,b9,a3⟩;have O:∀b∈h,iR E b:=λb a=>M.aC (p b a).2.1 (p b a).2.2;cases u:Z3.drop i with|nil=>have d8:=uO d7 (QM.mp u);subst d8;rw[u]at a3;refine hZ λd9 V=>bK a3 λZ e0 a9 b0=>gP (CN a9) λe1 b1=>?_;obtain rfl:=e1.symm;refine V ?_;clear V;cases b0;refine W.fin b9 M.sub a2 b1 O λb2 b3 B C=>agd<|Y E b2 b3 .next (M.trans (jH.aM B C a8)) (a2.but O (λb a=>(p b a).1) B C) (b8.cE B C G H)|cons e2 Z4=>
  have e3:i<Z3.length:=by
   rcases yT i Z3.length with q|q
   .exact q
   .rw[ww q]at u;injection u
  have e4:Z3[i]?=fR e2:=by
   have:=IV (xs:=Z3) (i:=i) (j:=0);rw[u]at this;simpa using this.symm
  have e5:Z3.drop (i+1)=Z4:=by
   have:=congrArg aeH u;rwa [Q_]at this
  rw[u]at a3;refine hZ λd9 V=>bK a3 λZ e0 a9 b0=>gP (CN a9) λe6 b1=>?_;obtain rfl:=e6;refine bK b0 λc0 c1 b4 e7=>V ?_;clear V;refine W.step e4 (Mq b4) b9 M.sub a2 b1 O λv b2 b3 e8 e9 B C=>?_;have a1:=LW (l:=l) (s:=(sU s b2 b3)) (t:=P) Cd.pre (λZ Z Z Z Z=>trivial) S.cx.dN (b8.cE B C G H) (a2.but O (λb a=>(p b a).1) B C) e8;dsimp only at b4;rw[b4]at a1;refine a1 _ _ λf0 f1 f2 Z c2 f3 f4=>?_;have c3:∀{c4 f5:Va} {c5 a:hV},gS (iF l) (iH k env) c4 c5 f5 a->(∀b∈h,iR c4 b)->∀b∈h,∀o,c5.get? b=fR o->a.get? b=fR o:=λx f6 b a o g=>(x.keep b o (f6 b a) (λb5=>a8 b b5 a) g).1 λb5=>X b b5 a;have b6:=(M.trans (jH.aM B C a8)).trans c2.toV;refine bK e7 λc6 c7 f7 c8=>?_;have c9:=a5 A l k c0 env N f0 c1 (sU s f1 f2) ⟨S.cx,f4,(S.fr.bL b6 X)⟩ f3;rw[show lw T n k c0 N c1=.b c6 c7 from f7]at c9;refine c9 _ _ λd0 d1 d2 K d3 d4 a4=>?_;have d5:=b6.trans d3.toV;induction c6 with
  |a f8=>induction K with|next=>exact⟨Z3.length-(i+1),by omega,d0,c7,f8,d1,d2,i+1,rfl,rfl,e3,d5,d4,a4,W.frame _ _ _ (W.frame _ _ _ e9 (c3 c2 O)) (c3 d3 (λb a=>b6.aC (p b a).2.1 (p b a).2.2)),by refine(e5).symm▸?_;exact c8⟩|_=>exact a4.elim
  |b g0=>cases c8;induction K with|ret c=>exact Y d0 d1 d2 (.ret c) d5 d4 a4|_=>exact a4.elim
def acj{R:pW->gK->Prop}(B:SB T d n)(C:XL T d n)(S:iD d l k U env A z s.heap)(r:gp z y s.heap)(e:qO (λℓ'=>qf T n k ℓ' h) (λℓ'=>lw T n k ℓ' t) m U y=.b f L)(o:∀i a a2 j,gS (iF l) (iH k env) z s.heap i a->gp i L a->oA k env i a f j->R (.ok j) (sU s a a2)):lF (gk gh w) A (.whileLoop h t [] env) R s:=by
 revert d U y m f B C S r e o;revert T n l k env A z h t L s R;refine @(vO E1 ?_);generalize hG.1.1.1.1=T,hG.1.1.1.2=n,hG.1.1.2=l,hG.1.2.1.1=k,hG.1.2.1.2=env,hG.1.2.2=A,hG.2.1.1.1=z,hG.2.1.1.2=h,hG.2.1.2=t,hG.2.2.1.1=L,hG.2.2.1.2=s,hG.2.2.2=R;intro d U y m f B C S r e o;refine codeAny_whileLoop (λm=>U_ l (iH k env) z s env k λg p=>qO (λℓ'=>qf T n k ℓ' h) (λℓ'=>lw T n k ℓ' t) m g p=.b f L) ?_ m ⟨z,y,U,s.heap,s.toks,rfl,gS.dN _ _ _ _,r,S.L,e⟩;rintro m s' ⟨i,p,g,a,a3,rfl,x,a4,D,F⟩;induction m with|zero=>injection F|succ m=>
  refine bK F λb E a5 q=>?_;have G:=B A l k g env h i p (sU s a a3) (S.bz x D) a4;rw[show qf T n k g h p=.b b E from a5]at G;refine G _ _ λH I J a6 K M a7=>?_;subst a7;have N:=D.ext K (by simp) (λZ Z Z Z=>by simp);have u:=x.trans (K.lift (Az D));induction a6 with|false=>simp only[uJ,if_false]at q|-;cases q;exact agd (o H I J .next u M N)|true=>
   simp only[if_true]at q|-;refine bK q λO P a8 Q=>?_;have V:=C A l k g env t H E (sU s I J) (S.bz u N) M;rw[show lw T n k g t E=.b O P from a8]at V;refine V _ _ λW X Y j a0 a1 v=>?_;induction O with
   |a a9=>induction j with|next=>exact⟨m,nR _,W,P,a9,X,Y,rfl,u.trans a0,a1,v,Q⟩|_=>exact v.elim
   |b b0=>cases Q;induction j with|ret c=>exact o W X Y (.ret c) (u.trans a0) a1 v|_=>exact v.elim
def NL(L:LR z k U env h):Su env=fY:=by unfold Su;exact(L.kind).symm▸rfl
def abs(a:xS e=fW)(b:SV T d n)(S:iD d l k U env A z s.heap)(r:gp z y s.heap):gJ l (iH k env) (gL l (iH k env)) (gg (gk gh w) A (qY (.Expr e Z8) env)) (oA k env) z s (fS (iA T n k U e) (λZ=>fX (.a U)) y):=by
 refine gJ.aD (gJ.bind gL.pre (rf b S r) (X9:=λZ Q E f=>Q .next f) λv q g h i c Z x j p=>?_) λQ E m=>?_;exact λQ E o=>o g h i .next (gS.dN _ _ _ _) j p.2;exact SP m (NL S.L) (by induction e using jQ<;>first|rfl|injection a)
def abx(S:iD d l k U env A z s.heap)(r:gp z y s.heap):gJ l (iH k env) (gL l (iH k env)) (gg (gk gh w) A (qY (.Return fU Z8) env)) (oA k env) z s ((fX (.b .c):M Fl) y):=by intro Q E a;rw[Sk];exact gf (lk (gU (a z s.heap s.toks (.ret .none) (gS.dN _ _ _ _) r .dR)))
def abw(b:SV T d n)(S:iD d l k U env A z s.heap)(r:gp z y s.heap):gJ l (iH k env) (gL l (iH k env)) (gg (gk gh w) A (qY (.Return (fR e) Z8) env)) (oA k env) z s (fS (iA T n k U e) (λv=>fX (.b v)) y):=by
 refine gJ.aD (gJ.bind gL.pre (rf b S r) (X9:=λc Q E a=>Q (.ret c) a) λv q f g h c Z x i p=>?_) λQ E j=>?_;exact λQ E m=>m f g h (.ret c) (gS.dN _ _ _ _) i p.1;rw[Sk];exact gf (lk (gf (jL j (λc a o=>gU o) λZ Z x=>x)))
def abr(O:sE i=fW)(c:SV T d n)(S:iD d l k U env A z s.heap)(r:gp z y s.heap):gJ l (iH k env) (gL l (iH k env)) (gg (gk gh w) A (qY (.Delete [.Subscript o i p] Z8) env)) (oA k env) z s (fS (iA T n k U o) (λv=>fS (iA T n k U i) λj=>fS (uf v j) λZ=>fX (.a U)) y):=by
 refine gJ.aD (gJ.bind gL.pre (rf c S r) (X9:=λx Q E e=>gg (gk gh w) A (iu i env) (λa f=>gg (gk gh w) A (delItem x a) (λZ g=>Q EI g) E f) E e) λv P R V W x Z q t m=>?_) λQ E B=>?_;refine gJ.bind gL.pre (rf c (S.bz q m.2) t) λj X Y a0 a1 a Z C D b=>gJ.bind gL.pre (gJ.block b.2 (to b.2) (.of (ZW (λZ h=>nM h) D (m.1.mono C.sub) b.1))) λu a2 F G H Z Z a3 I J=>λQ E K=>K F G H .next (gS.dN _ _ _ _) I J.2;refine wpAny_Delete ?_;rw[arm_deleteEach_cons,arm_deleteEach_nil,arm_delete_Subscript];refine gf (gf (jL B (λx e L=>gf (jp (jL L (λa f M=>gf (lk (gf (jp (jL M (λZ g N=>Fp ?_) λZ Z x=>x))))) λZ Z x=>x))) λZ Z x=>x));exact gU N
def abu(m:SB T d n)(a:XL T d n)(S:iD d l k U env A z s.heap)(r:gp z y s.heap):gJ l (iH k env) (gL l (iH k env)) (gg (gk gh w) A (qY (.If t b o Z8) env)) (oA k env) z s (fS (qf T n k U t) (λc=>if c then lw T n k U b else lw T n k U o) y):=by
 refine gJ.aD (gJ.bind gL.pre (gJ.block S.L (to S.L) (.of (m A l k U env t z y s S r))) (X9:=λc Q E q=>gg (gk gh w) A (if c=fW then xl b env else xl o env) Q E q) λv e f g h c Z x i p=>?_) λQ E u=>?_
 .refine gP p ?_;intro B j;obtain rfl:=B;induction c with|true=>exact a A l k U env b f e (sU s g h) (S.bz x j) i|false=>exact a A l k U env o f e (sU s g h) (S.bz x j) i
 .rw[arm_exec_If];exact gf (lk (gf u))
def abz(a:SB T d n)(c:XL T d n)(S:iD d l k U env A z s.heap)(r:gp z y s.heap):gJ l (iH k env) (gL l (iH k env)) (gg (gk gh w) A (qY (.While t b [] Z8) env)) (oA k env) z s (iL (qO (λℓ'=>qf T n k ℓ' t) (λℓ'=>lw T n k ℓ' b) m U) y):=by
 rcases Dm (qO (λℓ'=>qf T n k ℓ' t) (λℓ'=>lw T n k ℓ' b) m U) y with⟨f,B,e,g⟩|q
 .refine(g).symm▸?_;exact λQ E h=>wpAny_While (acj a c S r e λi j o u x v p=>h i j o u x v p)
 .exact(q).symm▸trivial
def abt(u:mB h=fW)(v:pG)(G:jM)(B:SL T d n)(C:SV T d n)(D:XL T d n)(S:iD d l k U env A z s.heap)(r:gp z y s.heap):gJ l (iH k env) (gL l (iH k env)) (gg (gk gh w) A (qY (.For t h b [] Z8) env)) (oA k env) z s (fS (tG (mZ T n) k U h) (λg=>iL (lf g.ai (λj m=>nJ k j t m) (λℓ'=>lw T n k ℓ' b) im U g.am)) y):=by
 refine gJ.aD (gJ.cw (gJ.block S.L (to S.L) (Gf v G C B S r (ij _))) λg F a9 b0 b1 b2 Z x H P=>?_) λQ E J=>wpAny_For J (Ha u);refine gP P ?_;intro K M;refine nN K ?_;intro I b3 b4 N O;obtain rfl:=N;refine iT O ?_;intro W R e;rcases Dm (lf g.ai (λj m=>nJ k j t m) (λℓ'=>lw T n k ℓ' b) im U g.am) F with⟨f,b5,V,X⟩|q
 .refine(X).symm▸?_;refine λQ E Y=>F9 D W (S.bz x M) H R (λb o=>⟨gu r.size (e b o).1,(e b o).2⟩) (λi=>tw (U2 S.L) (e _ i).1) (λa0 c a i=>tw (S.L.offc a0 c a).2.2.2 (e _ i).1) (λL a1 i=>tw (Gv S.fr L a1) (e _ i).1) V λa2 a3 a4 a5 a6 a7 p=>Y a2 a3 a4 a5 ((x.toV.trans a6).ext λa a8=>(e a a8).1) a7 p
 .exact(q).symm▸trivial
def Pn{env:ji}{t e:gq}{a:Nat}(h:(match e with|.ListComp .. |.SetComp .. |.DictComp .. =>fY|_=>fW)=fW):BQ [t] e a env=pure fY:=by induction e using jQ<;>first|rfl|injection h
def abm{env:ji}{t e:gq}{a:Nat}(h:(match t with|.Name .. =>fY|_=>fW)=fW):BQ [t] e a env=pure fY:=by induction e using jQ<;>first|rfl|(induction t using jQ<;>first|rfl|injection h)
def HG{env:ji}{t e:gq}(h:(match e with|.Tuple .. =>fY|_=>fW)=fW):xo [t] e env=pure fU:=by
 induction t using jQ with
 |Tuple ts _ _=>induction e using jQ<;>first|rfl|injection h
 |List ts _=>induction e using jQ<;>first|rfl|injection h
 |_=>rfl
def OV{env:ji}{t e:gq}(h:(match t with|.Tuple .. |.List .. =>fY|_=>fW)=fW):xo [t] e env=pure fU:=by induction t using jQ<;>first|(cases h;done)|rfl
def abo(u:k_ T)(G:jM)(j:BQ [t] e Z8.line env=pure fY)(m:xo [t] e env=pure fU)(f:SV T d n)(S:iD d l k U env A z s.heap)(r:gp z y s.heap):gJ l (iH k env) (gL l (iH k env)) (gg (gk gh w) A (qY (.Assign [t] e Z8) env)) (oA k env) z s (fS (iA T n k U e) (λv=>fS (qc T (λℓ' g=>iA T n k ℓ' g) k U t v) λℓ'=>fX (.a ℓ')) y):=by
 generalize o:jN [t]=h;induction h with
 |false=>
  have B:∀v a,qc T (λℓ' g=>iA T n k ℓ' g) k U t v a=.a:=by induction t using jQ<;>first|(cases o;done)|(intro v a;rfl)
  generalize b:iA T n k U e y=h;induction h with|a=>exact lE (lW b) trivial|b v a=>exact lE (nW b) (lE (lW (B v a)) trivial)|c C a=>
   have:=rf (e:=e) f S r;rw[b]at this;unfold fS;refine lE b<|λQ E i=>J_ (this _ E i) j m
 |true=>
  refine gJ.aD (gJ.bind gL.pre (rf f S r) (X9:=λc Q E p=>gg (gk gh w) A (pY t env c) (λZ D=>Q EI D) E p) λv a P R V c Z F H q=>?_) λQ E I=>?_;refine gJ.bind gL.pre (ZN u G f (S.bz F q.2) H q.1) λℓ' W J K L _ _ X M N=>λQ E i=>i J K L .next (gS.dN _ _ _ _) M N;refine J_ (jL I (λc p O=>?_) λZ Z x=>x) j m;refine lE (Pu o)<|O
def ZR(e:rc l (iH k env) X):∀{xs:List f_} {b:List V} {a:List gv} {z:Va} {y:H} {s:gK} {U:gA},LR z k U env s.heap->gp z y s.heap->iC z b a->gJ l (iH k env) X (gg (gk gh w) A (xj (xs.map λn=>JO env n) a)) (LP k env) z s (mQ k U xs b y):=by
 intro xs;induction xs with
 |nil=>intro b a z y s U L r d;induction d with|dO=>intro Q E f;exact gU (f z s.heap s.toks () (gS.dN _ _ _ _) r L)|dN _ _=>trivial
 |cons x xs g=>intro b a z y s U L r d;induction d with|dO=>trivial|@dN v c b a h q=>refine gJ.aD (gJ.bind e (zK (A:=A) L r h) λℓ' p t u B _ _ i j m=>g m j (iC.mono q i.sub)) λQ E o=>(?_:gg _ _ (pC a (JO env x c)>>=λZ=>xj (xs.map λn=>JO env n) a) _ _ _);exact gf (jp (wpAny_bindName o))
def abK:∀{ts:List gq} {xs:List f_} {b:gA->gq->M V} {a:List V} {U:gA},nu ts=fR xs->vX T b k U ts a=mQ k U xs a:=by intro ts;induction ts with|nil=>intro xs b a U e;obtain rfl:=gz e;induction a<;>rfl|cons t r c=>intro xs b a U e;refine nN (Ny e) λx p d f g=>?_;obtain rfl:=f;refine gP g ?_;intro h i;obtain rfl:=i;induction a with|nil=>rfl|cons v a=>refine(?_:fS (nx k U x v) (λℓ'=>vX T b k ℓ' r a)=fS (nx k U x v) λℓ'=>mQ k ℓ' d a);congr 1;funext ℓ';exact c h
def aaT:∀{f:List V} {U ℓ':gA} {y h:H},mQ k U xs f y=.b ℓ' h->h=y/\xs.length=f.length/\ℓ'=(xs.zip f).reverse++U/\∀x∈xs,k.lookup x=fR .local\/k.lookup x=fR .cell:=by
 induction xs with
 |nil=>intro f U ℓ' y h e;induction f with|nil=>injection e with g j;exact kg j.symm rfl g.symm λZ m=>nM m|cons _ _ _=>exact rI e rfl
 |cons x xs l=>
  intro f U ℓ' y h e;induction f with|nil=>exact rI e rfl|cons v f _=>
   have g:fS (nx k U x v) (λℓ'=>mQ k ℓ' xs f) y=.b ℓ' h:=e;have i:(k.lookup x=fR .local\/k.lookup x=fR .cell)/\nx k U x v=fX (gW U x v):=by
    replace g:fS (match k.lookup x with|some .local|some .cell=>fX (gW U x v)|_=>gc) (λℓ'=>mQ k ℓ' xs f) y=.b ℓ' h:=g
    refine(?_:_/\(match k.lookup x with|some .local|some .cell=>fX (gW U x v)|_=>gc)=_)
    generalize k.lookup x=q at g|-;induction q with|none=>exact rI g rfl|some q=>induction q using agQ<;>first|exact rI g rfl|exact⟨.inl rfl,rfl⟩|exact⟨.inr rfl,rfl⟩
   rw[i.2]at g;refine jZ (l (U:=gW U x v) g) λa b c d=>kg a (congrArg Nat.succ b) (by refine lE c ?_;simp[gW]) (uK.mpr ⟨i.1,d⟩)
def aaU:∀{a:List V} {U:gA} {y:H},xs.length=a.length->(∀x∈xs,k.lookup x=fR .local\/k.lookup x=fR .cell)->mQ k U xs a y=.b ((xs.zip a).reverse++U) y:=by
 induction xs with
 |nil=>intro a U y e _;induction a with|nil=>rfl|cons _ _ _=>exact nomatch e
 |cons x xs b=>
  intro a U y e h;induction a with
  |nil=>exact nomatch e
  |cons v a _=>
   have c:nx k U x v=fX (gW U x v):=by
    refine(?_:(match k.lookup x with|some .local|some .cell=>fX (gW U x v)|_=>gc)=_)
    rcases h x rY with q|q<;>exact lE q rfl
   refine(?_:fS (nx k U x v) (λℓ'=>mQ k ℓ' xs a) y=_);refine lE c<|(?_:mQ k (gW U x v) xs a y=_);refine lE (b (yU e) λd f=>h d (qp _ f)) ?_;simp[gW]
def Nj{l m:List (f_×t)}(h:l.lookup x=fU):(l++m).lookup x=m.lookup x:=by rw[Br,h];rfl
def Nk{l m:List (f_×t)}(h:l.lookup x=fR v):(l++m).lookup x=fR v:=by rw[Br,h];rfl
def U7{l m:List (f_×t)}(h:(l.map (·.1)).Nodup)(p:l.Perm m)(x:f_):l.lookup x=m.lookup x:=by
 induction p with|nil=>rfl|cons a _ c=>exact lE jn (lE jn (lE (c (jk.mp (show(a.1::_).Nodup from h)).2) rfl))|trans p _ i j=>exact(i h).trans (j ((p.map (·.1)).nodup_iff.mp h))|swap a d l=>
  obtain⟨b,f⟩:=a;obtain⟨e,g⟩:=d;refine lE jn (lE jn (lE jn (lE jn ?_)));by_cases q:x=b
  .subst q;have:(x==e)=fY:=by simpa using wS (by intro q;simp[q]at h)
   refine lE this ?_;rw[beq_self_eq_true]
  .have:(x==b)=fY:=by simpa using q
   exact lE this rfl
def LR.cY(L:LR z k U env h)(e:∀x,ℓ'.lookup x=U.lookup x):LR z k ℓ' env h:={L with
 ns:=gy L.ns λm a b=>gx m a (λx v i j=>b x v i ((e x).symm.trans j))
 cell:=λx f=>kJ (L.cell x f) λc g a b d=>(jq c g a b (λv j=>d v ((e x).symm.trans j)))}
def aaV{k:ii}{xs:List f_}(d:xs.Nodup)(e:mQ k U xs h y=.b ℓ' t):∃c,mQ k U xs.reverse h.reverse y=.b c t/\∀x,ℓ'.lookup x=c.lookup x:=by
 refine gP (aaT e) λf g=>?_;obtain rfl:=f;refine iT g ?_;intro b i a;obtain rfl:=i;refine gx _ (aaU (by simpa using b) λx j=>a x (uM.mp j)) (λx=>?_);have l:xs.reverse.zip h.reverse=(xs.zip h).reverse:=by exact lE aeM (lE aeM (lE (List.reverse_zipWith b) rfl))
 refine lE l ?_;rw[List.reverse_reverse];have m:((xs.zip h).reverse++U).lookup x=((xs.zip h)++U).lookup x:=by
  have a:=U7 (by refine lE QT (lE (aew (gC b)) ?_);exact(QX xs).nodup_iff.mpr d) (QX _) x
  generalize q:(xs.zip h).lookup x=n;induction n with|none=>exact lE (Nj (a.trans q)) (lE (Nj q) rfl)|some v=>exact lE (Nk (a.trans q)) (lE (Nk q) rfl)
 exact m
def B8(a:∀t x,f t=fR x->∃p,t=.Name x p)(h:(ts.filterMap f).length=ts.length):nu ts=fR (ts.filterMap f):=by induction ts with|nil=>rfl|cons t ts b=>rw[IS]at h|-;generalize e:f t=c;induction c with|none=>rw[e]at h;have:=List.length_filterMap_le f ts;have h:(ts.filterMap f).length=ts.length+1:=h;lia|some x=>rw[e]at h;refine gI (a t x e) λp d=>?_;rw[d];refine(?_:(nu ts).map (x::·)=_);exact lE (b (yU h)) rfl
theorem q9:∀(n:Nat) (l:List f_),l.length<=n->l.eraseDups.length<=l.length|_,[],_=>by simp|n+1,a::l,h=>by refine lE aee ?_;have c:=wz (λb=>!b==a) l;simp only[qn];exact kZ c (q9 n (l.filter λb=>!b==a) (by simp at h;exact gu c h))
def r7:∀{l:List f_},l.eraseDups.length=l.length->l.Nodup:=by
 intro d;induction d with|nil=>exact λZ=>wG|cons a l e=>
  intro h;rw[aee]at h;simp only[qn]at h;have c:=uO (wz (λb=>!b==a) l) (kZ (gC h.symm) (q9 _ (l.filter λb=>!b==a) (ij _)));have f:l.filter (λb=>!b==a)=l:=by
   have:=Bq.mpr (aeo.mp c);exact this
  rw[f]at h;refine jk.mpr ⟨λm=>?_,e (yU h)⟩;have:=aeo.mp c a m;simp at this
def aaP{a b:_}{c d:_}(f:h.all (JS 8)=fY):xo [.Tuple ts a b] (.Tuple h c d) env=pure fU\/∃g,xo [.Tuple ts a b] (.Tuple h c d) env=pure (fR g)/\nu ts=fR g/\g.Nodup:=by
 revert a b c d f;revert ts h env;refine @(yk E1 ?_);generalize mC.1.1=ts,mC.1.2=h,mC.2=env;intro a b c d f;unfold xo;dsimp only;split;left;rfl
 .split;left;rfl
  .split;left;rfl
   .rename_i i;simp only[wo,not_or,bne_iff_ne,ne_eq,Decidable.not_not]at i;split;left;rfl
    .simp only[f];right;refine iU _ rfl (B8 (λt x e=>?_) i.1) (r7 i.2);split at e
     .split at e;obtain rfl:=gz e;exact⟨_,rfl⟩;injection e
     .injection e
def abp{g i:_}{j m:_}(I:xo [.Tuple ts g i] (.Tuple L j m) env=pure (fR h))(o:nu ts=fR h)(J:h.Nodup)(a:SV T d n)(S:iD d l k U env A z s.heap)(r:gp z y s.heap):gJ l (iH k env) (gL l (iH k env)) (gg (gk gh w) A (qY (.Assign [.Tuple ts g i] (.Tuple L j m) Z8) env)) (oA k env) z s (fS (iA T n k U (.Tuple L j m)) (λv=>fS (qc T (λℓ' b=>iA T n k ℓ' b) k U (.Tuple ts g i) v) λℓ'=>fX (.a ℓ')) y):=by
 revert d z y Z8 s I o J a S r;revert ts L env h T n l k U A g i j m;refine @(yj E1 ?_);generalize gY.1.1.1.1=ts,gY.1.1.1.2=L,gY.1.1.2.1=env,gY.1.1.2.2=h,gY.1.2.1.1=T,gY.1.2.1.2=n,gY.1.2.2=l,gY.2.1.1.1=k,gY.2.1.1.2=U,gY.2.1.2.1=A,gY.2.1.2.2=g,gY.2.2.1.1=i,gY.2.2.1.2=j,gY.2.2.2=m;intro d z y Z8 s I o J a S r;have R:∀{ts:List gq} {h},nu ts=fR h->ts.length=h.length:=by
  intro ts;induction ts with|nil=>intro h e;obtain rfl:=gz e;rfl|cons t ts a=>
   intro h e;induction t using jQ with
   |Name x p=>have f:(nu ts).map (x::·)=fR h:=e;generalize b:nu ts=q;induction q with|none=>rw[b]at f;injection f|some W=>rw[b]at f;obtain rfl:=gz f;simp[a b]
   |_=>injection e
 have Y:∀{ts:List gq} {h},nu ts=fR h->jN ts=fW:=by
  intro ts;induction ts with|nil=>intro _ _;rfl|cons t ts a=>
   intro h e;induction t using jQ with
   |Name x p=>have f:(nu ts).map (x::·)=fR h:=e;generalize b:nu ts=q;induction q with|none=>rw[b]at f;injection f|some W=>exact a b
   |_=>injection e
 refine gJ.aD (gJ.bind gL.pre (rf a S r) (X9:=λc Q E N=>gg (gk gh w) A (SM c h.length fU) (λZ3 O=>gg (gk gh w) A (xj (h.reverse.map λn=>JO env n) Z3.reverse) (λZ D=>Q EI D) E O) E N) λv u c3 a0 a1 c Z c4 a2 K=>?_) λQ E a3=>?_
 .have a4:qc T (λℓ' b=>iA T n k ℓ' b) k U (.Tuple ts g i) v=fS (kG v h.length) λF=>mQ k U h F:=by
   unfold qc;dsimp only;refine lE (if_pos (Y o)) (lE (R o) ?_);congr 1;funext F;exact abK o
  refine lE a4 ?_;rw[xL];refine gJ.bind gL.pre ((Gg (s:=(sU s a0 a1)) S.cx.dN a2 K.1).block K.2 (to K.2)) λF a5 c5 a6 a7 c6 Z c7 a8 M=>gP M ?_;intro M a9;generalize e:mQ k U h F a5=q;induction q with|a=>exact lE (lW e) trivial|b c8 b0=>refine lE (nW e)<|gy (aaV J e) λc9 f b2=>?_;have P:=ZR (A:=A) (X:=gL l (iH k env)) (s:=(sU s a6 a7)) gL.pre (xs:=h.reverse) a9 a8 (ib.reverse M);rw[f]at P;exact λQ E b3=>P (λZ D=>Q EI D) E λb4 b5 b6 Z b7 b8 b9=>b3 b4 b5 b6 .next b7 b8 (LR.cY b9 b2)|c C b0=>
   exfalso;have b1:∀{xs:List f_} {L:List V} {U:gA} {y:H} {C u},mQ k U xs L y≠.c C u:=by
    intro xs;induction xs with|nil=>intro L U y C u G;induction L<;>injection G|cons x xs a=>
     intro L U y C u G;induction L with|nil=>injection G|cons v L=>
      have B:fS (nx k U x v) (λℓ'=>mQ k ℓ' xs L) y=.c C u:=G;unfold nx at B;split at B;exact a B;exact a B;injection B
   exact b1 e
 .rw[afX];refine gf (lk ?_);refine lE (show BQ [Expr.Tuple ts g i] (.Tuple L j m) Z8.line env=pure fY from rfl)<|gf (gU ?_);refine lE (if_neg gO)<|gf (jL a3 (λc N c0=>?_) λZ Z x=>x);refine lE I<|gf (gU ?_);exact gf (ze (gf (jL c0 (λZ3 O c1=>gf (jL c1 (λZ D c2=>gU c2) λZ Z x=>x)) λZ Z x=>x)))
def v6(c:Av t=fW):iA T (n+1) k U (.ListComp t [⟨y,x,z,0⟩] h Z8)=if(!(mK k h)||!(mB x))=fW then gc else fS (tG (mZ T n) k U x) (λa=>fS (iL (jw a.ai (λd f=>nJ h.names d y f) (uC T n h.names z) (λℓ'=>iA T n h.names ℓ' t) im (jW h.names U) [] a.am)) λb=>if b.length<=hJ then gM (.a b)else gc):=by
 refine(?_:ui T (mZ T n) k U t [⟨y,x,z,0⟩] h=_);have e:vn t [⟨y,x,z,0⟩]=fU:=by unfold vn;exact lE (Jl.mp c) rfl
 unfold ui;refine lE e ?_;rfl
def gJ.cT(L:LR z k U env s.heap)(i:∀C y e c,gL l [] z s.heap C y e c->X z s.heap C y e c)(h:gJ l [] (gL l []) τ P z s r):gJ l (iH k env) X τ (λd c a b=>P d c a b/\gS (iF l) [] z s.heap d c) z s r:=by induction r with|a=>trivial|c C y=>exact λQ E x=>h Q E λe c g f=>x e c g (i _ _ _ _ f)|b a y=>exact λQ E x=>h Q E λd c g b f r p=>x d c g b (f.lift (Az L)) r ⟨p,f⟩
def aa0(L:LR z k U env h)(r:gp z y h)(w:VR z v c)(A:k.lookup x=fR .local){m:f_->Option gv}(B:∀x v,k.lookup x=fR .local->U.lookup x=fR v->∃c,m x=fR c/\VR z v c)(s:N.Ns env.locals λg=>if g=x then fR c else m g)(i:oR env.locals h N):gp z y N/\LR z k (gW U x v) env N/\gS (iF l) (iH k env) z h z N:=by
 refine iy (r.sameBut L.aC.1 L.aC.2 i) ?_ (gS.cQ NV i (Heap.Ns.there s));exact{L with
  ns:=gx _ s (λd u e b=>by
   rw[rM]at b;by_cases q:d=x;rw[if_pos q]at b;obtain rfl:=gz b;exact gx c (by simp[q]) w;rw[if_neg q]at b;refine gy (B d u e b) λf j n=>gx f (by simp[q,j]) n)
  cell:=λd e=>by
   refine kJ (L.cell d e) λf C j n D=>gy n ?_;intro o E F;refine jq f C j (gx o ((i.2 _ ((L.offc d f j).2.2.1)).trans E) F) (λu b=>?_);rw[rM]at b;have q:d≠x:=λg=>by subst g;rw[A]at e;rcases e with e|e<;>cases e
   rw[if_neg q]at b;exact D u b
  offc:=λd f a=>by refine jZ (L.offc d f a) λp q t u=>(kg p q t (by refine lE i.1 ?_;exact u))}
def abn(p:swapsWith (.ListComp W [⟨a0,a1,a2,0⟩] L Z8) (fR (.Name t N)) a3.line env=pure fW)(j:env.kindOf t=fR .local)(K:Av W=fW)(M:pG)(G:jM)(I:∀n,rA T d n)(S:iD d l k U env A z s.heap)(r:gp z y s.heap):gJ l (iH k env) (gL l (iH k env)) (gg (gk gh w) A (qY (.Assign [.Name t N] (.ListComp W [⟨a0,a1,a2,0⟩] L Z8) a3) env)) (oA k env) z s (fS (iA T n k U (.ListComp W [⟨a0,a1,a2,0⟩] L Z8)) (λv=>fS (qc T (λℓ' i=>iA T n k ℓ' i) k U (.Name t N) v) λℓ'=>fX (.a ℓ')) y):=by
 revert z y a3 n p j K M G I S r;revert W a0 a1 a2 L Z8 t N env T d l k U A s;refine @(Dt E1 ?_);generalize ic.1.1.1.1=W,ic.1.1.1.2=a0,ic.1.1.2.1=a1,ic.1.1.2.2=a2,ic.1.2.1.1=L,ic.1.2.1.2=Z8,ic.1.2.2.1=t,ic.1.2.2.2=N,ic.2.1.1.1=env,ic.2.1.1.2=T,ic.2.1.2.1=d,ic.2.1.2.2=l,ic.2.2.1.1=k,ic.2.2.1.2=U,ic.2.2.2.1=A,ic.2.2.2.2=s;intro z y a3 n p j K M G I S r;induction n with|zero=>trivial|succ n=>
  revert p S r a;revert z y a3 n;refine @(vQ E1 ?_);generalize ku.1.1=z,ku.1.2=y,ku.2.1=a3,ku.2.2=n;refine λp S r a=>lE (v6 K) ?_;split;trivial
  .rename_i f;simp only[wo,not_or,QA,Qz,IM,Bm,Ei]at f;refine gP f ?_;intro f O;replace f:mK k L=fW:=by simpa using f
   replace O:mB a1=fW:=by simpa using O
   refine gy (Cp f S.L) λb2 b3 b4=>iT (ta f) λb5 f1 b6=>?_;rw[xL];refine gJ.aD (gJ.cw (X9:=λX Q E b7=>gg (gk gh w) A (Ff []) (λZ7 b8=>gg (gk gh w) A (Fe L env.globals b2 [] env.qual fU .none (fR env)) (λY b9=>lF (gk gh w) A (.compStart (.ListComp W [⟨a0,a1,a2,0⟩] L Z8) 0 X Z7 {Y with scope:=u_ L env}) (Fa (gk gh w) A E (fR (pY (.Name t N) env)) (λZ s'=>Q EI s') Z7 Y.locals) b9) E b8) E b7) ((Gf M G (I n).v (I n).l S r (ij _)).cT S.L (to S.L)) λa4 c0 f2 f3 f4 X Z x c1 P=>?_) λQ E c2=>?_
   .refine gP P ?_;intro P c3;rcases Dm (jw a4.ai (λc4 c5=>nJ L.names c4 a0 c5) (uC T n L.names a2) (λℓ'=>iA T n L.names ℓ' W) im (jW L.names U) [] a4.am) c0 with⟨c6,a5,c7,c8⟩|q
    .rw[xL];refine lE (nW c8) ?_;split
     .rename_i c9;by_cases R:k.lookup t=fR .local
      .have V:∀v,qc T (λℓ' i=>iA T (n+1) k ℓ' i) k U (.Name t N) v=fX (gW U t v):=λv=>by
        refine(?_:nx k U t v=_);unfold nx;exact lE R rfl
       refine(?_:Kz _ _ _ _ _ _ _ _ (fS (qc T (λℓ' i=>iA T (n+1) k ℓ' i) k U (.Name t N) (.b a5.n)) (λℓ'=>fX (Fl.a ℓ')) (iJ a5 (.a c6))));rw[V];refine λQ E d0=>Lo f b4 (I n).v (I n).b S r.size c3 c1 P c7 c9 λd1 D C f5 f6 m a6 d2 d3 d4 d5 u=>?_;have a7:=S.L.ext a6 (by simp) λZ Z Z Z=>by simp
       refine gy a7.ns λf7 d6 d7=>?_;have a8:env.locals<s.heap.objs.size:=by refine gy S.L.ns λm d8 Z=>nN d8 ?_;intro o _ _ q _;exact iB q
       have a9:=ut a8 u;refine BT (Td j d6 (λd9 e0 b0=>?_) (G_ S.L.kind));refine iT (aa0 (l:=l) a7 d2 (.dO d3) R d7 e0 b0) λe1 e2 e3=>gx m (d4.sameBut b0 a9.symm) (λb1 H=>?_);have J:∀b o,b∉[C]->d9.get? b=fR o->b1.get? b=fR o:=λb o J g=>(H.2 b λB=>J (by simp[B])).trans g;have e4:∀a∈iH k env,a∉[C]:=λa F=>by
        have:a<s.heap.objs.size:=by
         rcases gX.mp F with rfl|F
         .exact a8
         .refine fE F λB Z e=>?_;by_cases q:B.2=.cell;rw[if_pos q]at e;exact(S.L.offc _ _ e).2.2.2;rw[if_neg q]at e;injection e
        simpa using ut this u
       have e5:=(((a6.lift (Az S.L)).trans e3).toV.trans (jH.aM J (gC H.1.symm) e4)).ext λa F=>lE (js.mp F)<|u;exact d0 d1 b1 _ .next e5 (e1.sameBut d5 (gu r.size u) H) (e2.cE J (gC H.1.symm) (by simpa using a9) λB c a=>by simpa using ut (S.L.offc B c a).2.2.2 u)
      .have e6:k.lookup t≠fR .cell:=λq=>by
        rcases S.L.aH t _ q with h|⟨h,_⟩
        .rw[j]at h;cases h
        .injection h
       have V:∀v y,qc T (λℓ' i=>iA T (n+1) k ℓ' i) k U (.Name t N) v y=.a:=λv y=>by refine(?_:nx k U t v y=_);unfold nx;generalize q:k.lookup t=e7;induction e7 with|none=>rfl|some e8=>induction e8<;>first|exact absurd q R|exact absurd q e6|rfl
       exact lE (lW (V _ _)) trivial
     .trivial
    .rw[xL];exact lE (lW q) trivial
   .refine lE (exec_Assign_Name_used _ _ _ _ p)<|gf (lk (gf ?_));exact gf (jL (ST rfl (Ha O) b3 b5 (λt j e9=>(b6 t j).1 e9) c2) (λZ s' f0=>gU (gU f0)) λZ Z e=>e)
def U9{a:List f_}(h:x∉a):(a.zip Y4).lookup x=fU:=by induction a generalizing Y4 with|nil=>rfl|cons p a b=>induction Y4 with|nil=>rfl|cons v Y4 _=>refine lE Bt (lE jn (lE (?_:(x==p)=fY) (b λm=>h (.tail _ m))));exact beq_eq_false_iff_ne.mpr λe=>h (e▸.head _)
def Yd{a:List f_}{b:List (f_×gv)}(c:a.length=Y4.length)(h:∀x v,(x,v)∈a.zip Y4->b.lookup x=fR v):a.filterMap (λn=>(b.lookup n).map (n,·))=a.zip Y4:=by induction a generalizing Y4 with|nil=>rfl|cons p a d=>induction Y4 with|cons v Y4 _=>exact lE IS (lE (h p v ge) (lE (d (yU c) λx v m=>h x v (.tail _ m)) rfl))|nil=>exact nomatch c
def IK{a:List f_}(b:a.Nodup)(x:f_)(u:gv)(m:(x,u)∈a.zip Y4):(a.zip Y4).lookup x=fR u:=by
 induction a generalizing Y4 with|nil=>exact nM m|cons p a c=>induction Y4 with|nil=>exact nM m|cons v Y4 _=>
   refine lE Bt (lE jn ?_);rcases gX.mp m with e|m
   .injection e with d f;rw[d,f,beq_self_eq_true]
   .exact lE (beq_eq_false_iff_ne.mpr λe:x=p=>(jk.mp b).1 (e▸(aeB m).1)) (c (jk.mp b).2 m)
def Nn{a:List f_}(m:x∈a.take Y4.length):∃v,(a.zip Y4).lookup x=fR v:=by
 induction a generalizing Y4 with|nil=>exact nM (List.take_nil▸m)|cons p a b=>induction Y4 with|nil=>exact nM m|cons v Y4 _=>
   refine lE Bt (lE jn ?_);by_cases q:x=p;exact lE (beq_iff_eq.mpr q) ⟨v,rfl⟩;exact lE (beq_eq_false_iff_ne.mpr q) (b ((gX.mp m).resolve_left q))
def R7{a b c:Nat}(h:a<=c)(d:c<=a+b):c=a+(b-(a+b-c)):=by lia
structure Ky(p:tP)(e:List f_):Prop where
 pos:p.posonlyargs=[]
 a:p.args.map (·.arg)=e
 b:p.kwonlyargs=[]
 c:p.vararg=fU
 d:p.kwarg=fU
def Zr{g:List f_}(h:g.Nodup)(u:Y4.length<=g.length)(p:g.length<=Y4.length+ds.length)(q:ds.length<=g.length)(s:ds.length<=1):∃l,(∀x v,(x,v)∈g.zip (Y4++ds.drop (Y4.length+ds.length-g.length))->l.lookup x=fR v)/\∀f:f_×gv->List (f_×gv)->iM (ForInStep (List (f_×gv))),(∀x r,f x r=if(jz x.1 r).isNone=fW then pure (.yield (r++[(x.1,x.2)]))else pure (.yield r))->forIn ((g.drop (g.length-ds.length)).zip ds) (g.zip Y4) f=pure l:=by
 induction ds with|nil=>exact⟨g.zip Y4,λx v m=>IK h x v (by simpa using m),λf i=>by rw[Jb];rfl⟩|cons c ds _=>
  obtain rfl:ds=[]:=List.eq_nil_of_length_eq_zero (aeT.mp (Ey s));have n:g≠[]:=by rintro rfl;exact absurd q (Rg _)
  obtain⟨d,a,rfl⟩:∃d a,g=d++[a]:=qA g.dropLast (g.getLast n) ((List.dropLast_concat_getLast n).symm);have j:(d++[a]).length=d.length+1:=px;have o:∀f:f_×gv->List (f_×gv)->iM (ForInStep (List (f_×gv))),forIn (((d++[a]).drop ((d++[a]).length-1)).zip [c]) ((d++[a]).zip Y4) f=(f (a,c) ((d++[a]).zip Y4)>>=λr=>match r with|.done b=>pure b|.yield b=>pure b):=λf=>by rw[show(d++[a]).drop ((d++[a]).length-1)=[a]from List.drop_left' (by rw[j];rfl)];refine(?_:(f _ _>>=_)=_);congr 1;funext r;induction r<;>rfl
  by_cases e:Y4.length=d.length+1
  .refine⟨(d++[a]).zip Y4,λx v m=>IK h x v ?_,λf i=>(o f).trans ?_⟩;rw[show Y4.length+[c].length-(d++[a]).length=1 by rw[e,j];exact Nat.add_sub_cancel_left ..]at m;exact(pn Y4)▸m;refine gI (Nn (by rw[e,<-j,I_];exact qo _ ge)) λv t=>?_;rw[i,t];rfl
  .have e:d.length=Y4.length:=by have:(d++[a]).length<=Y4.length+1:=p;lia
   have k:=aeL (r₁:=[a]) (r₂:=([]:List gv)) e;rw[pn]at k;have k:=k.trans (pn _);refine⟨d.zip Y4++[(a,c)],λx v m=>?_,λf i=>(o f).trans ?_⟩;rw[show Y4.length+[c].length-(d++[a]).length=0 by rw[j,e];exact Rh _]at m;have:=IK h x v m;exact(aeL (r₁:=[a]) (r₂:=[c]) e)▸this;rw[i,k,U9 (λm=>(nQ.mp h).2.2 _ m _ ge rfl)];rfl
def KP(d:Ky y.params t)(f:t.Nodup)(g:(ds=[]/\y.defaults=.none)\/(∃T o n,y.defaults=.ref T/\s.heap.get? T=fR o/\o.data=.seq ds.toArray n))(a:Y4.length<=t.length)(b:t.length<=Y4.length+ds.length)(c:ds.length<=t.length)(i:ds.length<=1):BindsTo s y ⟨Y4,[]⟩ (t.zip (Y4++ds.drop (Y4.length+ds.length-t.length))):=by
 revert d f g a b c i;revert t ds s y Y4;refine @(qJ E1 ?_);generalize iz.1.1.1=t,iz.1.1.2=ds,iz.1.2=s,iz.2.1=y,iz.2.2=Y4;intro d f g a b c i;have w:ds.drop (ds.length-t.length)=ds:=by rw[Nat.sub_eq_zero_of_le c];rfl
 have z:(aef (λn=>(jz n (t.zip Y4)).isNone) (aeI (t.length-ds.length) t))=[]:=by
  refine aei.mpr λx B=>?_;have C:x∈t.take Y4.length:=by have:t.take (t.length-ds.length)=(t.take Y4.length).take (t.length-ds.length):=lE List.take_take (lE (Jh (Nat.sub_le_iff_le_add.mpr b)) rfl);exact aez (this▸B)
  exact gI (Nn C) λv D=>lE D l_
 refine λM A E Q F=>gy (Zr f a b c i) λG H I=>?_;have J:gg M A (pure (List.filterMap (λn=>Bv (λx=>(n,x)) (jz n G)) (t++[])):iM (List (f_×gv))) Q E s:=gU (lE (pn t)<|lE (Yd (by rw[px,List.length_drop];exact R7 a b) H) F);have K:∀{k:Option (Array gv)->iM (List (f_×gv))},(∀j,(j.getD #[]).toList=ds->gg M A (k j) Q E s)->gg M A (seqItems? y.defaults>>=k) Q E s:=λ{k} l=>by
  rcases g with⟨rfl,e⟩|⟨T,o,n,e,L,N⟩
  .exact lE e<|gf (gU (l fU rfl))
  .exact lE e<|gf (wpAny_seqItems L N (l _ (by simp)))
 obtain⟨m,p,q,r,u⟩:=d;generalize O:y.params=P at m p q r u;induction P using agB with|mk R S V W Y kw a0=>
 obtain rfl:R=[]:=m;obtain rfl:W=[]:=q;obtain rfl:V=fU:=r;obtain rfl:kw=fU:=u;unfold bindArgs;refine lE O ?_;dsimp only;obtain rfl:S.map (·.arg)=t:=p;refine(K λj X=>?_);refine lE X (wE (if_neg λh=>absurd (of_decide_eq_true (uI.mp h).1) (mf.mpr a)) (lE w (lE z (wE (if_neg l_) ?_))));exact lE (I _ λZ Z=>rfl) J
structure q_ where
 ps:List f_
 dv:List V
 k:ii
 body:List jB
def Gk:Fl->M V|.a _=>fX .c|.b v=>fX v
structure sW(a:gG)(F:q_):Prop where
 aE:∃o b ds,iI.get? a=fR o/\o.data=.func b/\b.body=.stmts F.body/\b.scope.names=F.k/\b.scope.kind=.function/\b.scope.isCoroutine=fY/\b.scope.isGenerator=fY/\b.closure=[]/\b.globals=jK/\b.builtins=tT/\iI.CodeRec b.code b.qualname/\Ky b.params F.ps/\((ds=[]/\b.defaults=.none)\/(∃T o n,b.defaults=.ref T/\iI.get? T=fR o/\o.data=.seq ds.toArray n))/\ib (λv c=>∀z,VR z v c) F.dv ds/\(∀P q,qD F.k=fR (P,q)->∃c,b.code=.ref c/\JA iI c P/\(b.qualname++".<locals>.")++"<lambda>"=q/\iI.get? P=fU)
 a:F.ps.Nodup
 aH:vK F.k=fW
 pk:∀x∈F.ps,F.k.lookup x=fR .local\/F.k.lookup x=fR .cell
 nofree:∀x,F.k.lookup x≠fR .free
 dle:F.dv.length<=F.ps.length/\F.dv.length<=1
def Ni{l:List (f_×t)}(h:x∉l.map (·.1)):l.lookup x=fU:=by induction l with|nil=>rfl|cons p l a=>obtain⟨b,v⟩:=p;exact lE jn (lE (beq_eq_false_iff_ne.mpr λq:x=b=>h (q▸.head _)) (a λm=>h (.tail _ m)))
def Yc{x:f_}(c:y x=fR .local):∀{m:f_->Option gv},(t.map (·.1)).Nodup->bindL y t m x=(t.lookup x).or (m x):=by
 induction t with|nil=>intro m _;rfl|cons p t d=>
  obtain⟨a,v⟩:=p;intro m b;refine lE (d (jk.mp b).2) (lE jn ?_);by_cases q:x=a;refine lE (beq_iff_eq.mpr q) (lE (Ni (q▸(jk.mp b).1)) ?_);rw[<-q];simp[c]
  .refine lE (beq_eq_false_iff_ne.mpr q) ?_;by_cases h:y a=fR .local;refine lE (if_pos h) ?_;simp[q];exact lE (if_neg h) rfl
def Yb{x:f_}(c:y x=fR .cell):∀{m:f_->Option gv},(t.map (·.1)).Nodup->bindC y t m x=(t.lookup x).or (m x):=by
 induction t with|nil=>intro m _;rfl|cons p t d=>
  obtain⟨a,v⟩:=p;intro m b;refine lE (d (jk.mp b).2) (lE jn ?_);by_cases q:x=a;refine lE (beq_iff_eq.mpr q) (lE (Ni (q▸(jk.mp b).1)) ?_);rw[<-q];simp[c]
  .refine lE (beq_eq_false_iff_ne.mpr q) ?_;by_cases h:y a=fR .local;exact lE (if_pos h) rfl;refine lE (if_neg h) ?_;simp[q]
def K_:∀{n:Nat} {Z7:List (f_×gG)},((∃c,Z7.lookup x=fR c)\/(x,.cell)∈t)->∃c,(So n t Z7).lookup x=fR c:=by
 induction t with|nil=>intro n Z7 h;exact h.elim id λm=>nM m|cons p r b=>
  obtain⟨d,f⟩:=p;intro n Z7 h;have h:(∃c,Z7.lookup x=fR c)\/(x=d/\f=.cell)\/(x,.cell)∈r:=h.imp_right λh=>(gX.mp h).imp_left λe=>⟨congrArg pV e,(congrArg wW e).symm⟩;unfold So;split
  .refine b ?_;by_cases q:x=d;exact .inl ⟨n,lE jn (lE (beq_iff_eq.mpr q) rfl)⟩;exact h.elim (λh=>.inl (gI h λc h=>⟨c,lE jn (lE (beq_eq_false_iff_ne.mpr q) h)⟩)) λh=>.inr (h.resolve_left λa=>q a.1)
  .rename_i g;exact b (h.imp_right λh=>h.resolve_left λa=>g (by rw[a.2];rfl))
def adK{a:List f_}:∀{b:List V} {d:List gv},iC z b d->(a.zip b).lookup x=fR v->∃c,(a.zip d).lookup x=fR c/\VR z v c:=by
 induction a with|nil=>intro b d _ e;exact nS e|cons p a f=>
  intro b d r e;induction r with|dO=>exact nS e|dN g h _=>
   rw[Bt,jn]at e|-;split at e;exact gx _ rfl (gz e▸g);exact f h e
def R6{M:lv}(c:A.frames=fR (env::h))(d:env.frame=fR L)(b:Kl B (env::h) e t x s.heap)(f:∀a,yZ B h e t x a->s.heap.UpToSlots a->Q () {s with heap:=a}):gg M A (Fc env (.ref e)) Q E s:=by
 rcases b with b|⟨i,g,j,w,y,k,rfl,l,m,n⟩
 .exact wpAny_leaves_onW c d b f
 .refine wpAny_leaving_firstW c j d k i g l m n λa o=>jZ o ?_;intro p q r u;refine iT q ?_;intro _ _ v;exact f a (kg p g v r) u
set_option backward.match.sparseCases true in
def Gl{F:q_}(j:sW a F)(G:jM)(B:Cx A l (d+1))(S:lU z l s.heap)(r:gp z y s.heap)(M:t.length<=F.ps.length/\F.ps.length<=t.length+F.dv.length)(V:∀Z4,ib (λv c=>∀z,VR z v c) (F.dv.drop (t.length+F.dv.length-F.ps.length)) Z4->∀x v,(F.ps.zip L).lookup x=fR v->∃c,(F.ps.zip (t++Z4)).lookup x=fR c/\VR z v c)(R:pW->gK->Prop)(W:∀(Z4:List gv) (env:ji) (k:hV) (I:oq) (m:f_->Option gv),ib (λv c=>∀z,VR z v c) (F.dv.drop (t.length+F.dv.length-F.ps.length)) Z4->iD d (env::l) F.k (F.ps.zip L) env (A.deeper env) z k->gp z y k->env.frame=fR s.heap.objs.size->k.Ns env.locals m->(∀i,F.k.lookup i=fR .local->m i=(F.ps.zip (t++Z4)).lookup i)->(∀b o,s.heap.get? b=fR o->k.get? b=fR o)->s.heap.objs.size<k.objs.size->(∀a∈iH F.k env,s.heap.objs.size<=a)->gg (gk gh w) (A.deeper env) (xl F.body env) (λf s'=>R (.ok (.ret (match f with|.ret v=>v|_=>.none))) s') (λe s'=>gg (gk gh w) (A.deeper env) (Fc env e) (λZ X=>R (.error e) X) (λc0 X=>R (.error c0) X) s') (sU s k I)):lF (gk gh w) A (.call (.ref a) ⟨t,[]⟩) R s:=by
 revert a l d y L j G B S r M V W;revert A z t s F R;refine @(nI E1 ?_);generalize gT.1.1.1=A,gT.1.1.2=z,gT.1.2=t,gT.2.1.1=s,gT.2.1.2=F,gT.2.2=R;intro a l d y L j G B S r M V W;refine hZ λe6 a8=>?_;obtain⟨o,c1,ds,c2,c3,c4,Y,a0,c5,c6,c7,c8,c9,d0,d1,d2,a9,d3⟩:=j.aE;refine a8 ?_;clear a8;have N:=ib.length a9;have O:=r.base;have E:=KP d1 j.a (d2.imp id λd4=>sJ d4 λT o n C D a1=>ti T o n C (O _ _ D) a1) (M.1) (gu M.2 (aeN (gC N) _)) (by have:=j.dle.1;exact gu (gC N.symm) this) (by have:=j.dle.2;exact gu (gC N.symm) this);have b0:ib (λv c=>∀z,VR z v c) (F.dv.drop (t.length+F.dv.length-F.ps.length)) (ds.drop (t.length+ds.length-F.ps.length)):=rE N<|ib.drop a9 _;have b1:(t++ds.drop (t.length+ds.length-F.ps.length)).length=F.ps.length:=by simp;have:=j.dle.1;omega
 have a2:=V _ b0;have b2:=λenv k I m=>W _ env k I m b0;generalize t++ds.drop (t.length+ds.length-F.ps.length)=Q at b1 E a2 b2;have b3:((F.ps.zip Q).map (·.1)).Nodup:=lE (aew (gC b1.symm))<|j.a;refine codeAny_call_function B.cg (O _ _ c2) c3 c5 c6 c4 (d0.keeps O) (E _ _ _ _ ?_);refine lE c7<|wpAny_newFunctionEnv_cells a0 (λx d5=>?_) λenv u b4 x=>?_
 .have d6:=(aeB (show(x.1,x.2)∈F.ps.zip Q from d5)).1;refine lE Y ?_;rcases j.pk x.1 d6 with q|q
  .exact .inl q
  .refine .inr ⟨q,?_⟩;exact gI (K_ (.inr (Fd q))) λc e=>lE e rfl
 .obtain⟨p,b5,d7,d8⟩:=x;have H:env.locals=s.heap.objs.size:=lE u rfl;have b6:env.frame=fR s.heap.objs.size:=lE u rfl;have d9:env.cells=So (s.heap.objs.size+1) F.k []:=lE u (rE Y rfl);have a3:env.scope=c1.scope:=lE u rfl;have a4:∀i,env.kindOf i=F.k.lookup i:=λi=>by unfold afe;exact lE a3 (lE Y rfl)
  have a5:s.heap.objs.size<b4.heap.objs.size:=by have:=p.ns.lt;rwa [H]at this
  have b7:∀i c,env.cells.lookup i=fR c->s.heap.objs.size<c:=λi c e=>by have:=d8 i c (Fd e);rwa [H]at this
  have b8:∀i,F.k.lookup i=fR .local->bindL env.kindOf (F.ps.zip Q) (λZ=>fU) i=(F.ps.zip Q).lookup i:=λi J=>by refine lE (Yc (by rw[a4];exact J) b3) ?_;simp
  have e0:iD d (env::l) F.k (F.ps.zip L) env (A.deeper env) z b4.heap:=by
   refine⟨⟨B.dN,EB B.dO,by have:=B.depth;refine(?_:A.depth+1+4*d+4<=990);exact(iX this),by have:=B.units;exact(iX this)⟩,?_,?_⟩
   .exact{
     kind:=lE a3<|a0
     az:=lE u<|c8
     b_:=j.aH
     c_:=λP q e=>mF (d3 P q e) λc C D a1 e1=>n_ c (by refine lE u<|C) D (by refine lE u<|a1) e1
     bi:=lE u<|c9
     aH:=λi e7 e=>.inl (by rw[a4];exact e)
     ns:=gx _ p.ns (λi v J a6=>by refine lE (b8 i J)<|a2 i v a6)
     cell:=λi J=>by
      have b9:F.k.lookup i=fR .cell:=by
       rcases J with h|h
       .exact h
       .exact absurd h (j.nofree i)
      refine gI (K_ (n:=s.heap.objs.size+1) (Z7:=[]) (.inr (Fd b9))) λc e=>?_;rw[<-d9]at e;refine jq c _ e (b5 i c e) (λv a6=>?_);refine lE (Yb (by rw[a4];exact b9) b3)<|gy (a2 i v a6) λe2 C D=>gx e2 (lE C rfl) D
     aC:=lE H<|⟨pd r (ij _),r.size⟩
     offc:=λi c e=>by have a7:=b7 i c e;exact kg (pd r (jo a7)) (gu r.size (jo a7)) (by refine lE H<|(jt a7).symm) ((b5 i c e).lt)
     cq:=λi K c C D=>name_of_addr d7 (Fd C) (Fd D)}
   .intro e3 m;rcases gX.mp m with rfl|m
    .refine sJ p.ns λo' e8 e9 g e4 Z=>⟨by refine lE a3 (lE a0 ?_);decide,s.heap.objs.size,o',b6,by refine rE H<|g,(λf0 K=>by rw[e4]at K;injection K),pd r (ij _),r.size⟩
    .exact S.ext (gS.al (fs:=[]) (own:=[]) p.keep (jo a5)) e3 m
  have own:∀a∈iH F.k env,s.heap.objs.size<=a:=λb E=>by
   rcases gX.mp E with rfl|E
   .exact gC H.symm
   .refine fE E λK Z e=>?_;by_cases q:K.2=.cell;rw[if_pos q]at e;exact jo (b7 _ _ e);rw[if_neg q]at e;injection e
  refine kS p.same λk I e5=>?_;obtain rfl:=e5;exact⟨(G.nolim.keeps O).keeps p.keep,codeAny_func (b2 env k I _ e0 (r.keep p.keep (jo a5)) b6 p.ns b8 p.keep a5 own)⟩
def xU(c:env.frame=fR n):∀b∈iF (env::l),b∈iF l\/n<=b:=λb a=>by
 unfold iF at a;rw[IS,c]at a;rcases gX.mp a with rfl|a
 .exact .inr (ij _)
 .exact .inl a
def xC(l:List ji)(own:List gG)(z:Va)(h:hV)(C:gG)(f:H)(e:gv)(b:hV):Prop:=∃c B d g,e=.ref d/\rC (iF l) own z h c b/\(∀a o,iR z a->a∉own->h.get? a=fR o->a∉iF l->B.get? a=fR o)/\gp c f B/\yZ B l d (.ref C) g b/\lU c l b
def xC.dj(x:xC l own z h C t e y):gL l own z h C t e y:=pS x λa B b c d f=>pi f λg i j k m=>Ae a B b c d g i j (.inl k) m
def Og(N:x.frames=fR (env::l))(A:env.frame=fR h.objs.size)(D:∀b o,h.get? b=fR o->t.get? b=fR o)(O:h.objs.size<t.objs.size)(F:∀a∈own,h.objs.size<=a)(P:lU z l h)(R:gL (env::l) own z t C y e s'.heap)(S:∀j,xC l [] z h C y e j->Q () {s' with heap:=j}):gg (gk gh w) x (Fc env e) Q E s':=by
 refine hZ λG d=>pS R ?_;intro H B T V W X;obtain rfl:=W;refine pi X ?_;intro Y a0 a1 a2 a3;refine d ?_;clear d;refine R6 N A a2 λj q I=>S j ?_;have J:=xU (l:=l) A;have r:=((gS.al D (jo O)).bS Y).drop J (λb a4=>.inr (F b a4)) (own:=[]) (by simp);have s:∀b o,iR z b->h.get? b=fR o->b∉iF l->B.get? b=fR o:=λb o f c i=>by
  refine a0 b o f (λm=>absurd (iB c) (mf.mpr (F b m))) (D _ _ c) λm=>?_;rcases J b m with u|u
  .exact i u
  .exact absurd (iB c) (mf.mpr u)
 have a5:lU H l j:=λv m=>by refine hZ λG d=>?_;obtain⟨a6,L,K,k,n,p,a7,a8⟩:=a3 v (qp _ m);refine gI (I L K n p) λa9 g=>d ?_;clear d;exact⟨a6,L,_,k,g,p,a7,a8⟩
 refine Ae H B T V rfl ⟨r.sub,r.new,λb o f i c=>?_,λZ m=>nM m⟩ (λb o f Z c i=>s b o f c i) a1 q a5;refine⟨λi=>q.1 b o (s b o f c i),?_⟩;by_cases M:b∈iF l
 .refine gI ((r.keep b o f i c).2) λa9 g=>?_;have b0:NF o:=by
   refine hZ λG d=>fE M λv m e=>?_;obtain⟨_,L,K,k,n,p,_⟩:=P v m;refine d ?_;clear d;rw[e]at k;obtain rfl:=gz k;rw[c]at n;obtain rfl:=gz n;exact p
  refine gI (I b _ g b0) λb1 b2=>⟨b1,b2⟩
 .exact⟨o.slots,q.1 b o (s b o f c M)⟩
set_option backward.match.sparseCases true in
def Z_{F:q_}(D:sW a F)(G:jM)(I:XL T d n)(u:Cx A l (d+1))(w:lU z l s.heap)(r:gp z y s.heap)(B:iC z h t):gJ l [] (gL l []) (xM A (.ref a) t) (λz Z a b=>VR z a b) z s (vi T n F.ps F.dv F.k F.body h y):=by
 revert d y D G I u w r B;revert a T n A l z h t s F;refine @(qj E1 ?_);generalize gN.1.1.1.1=a,gN.1.1.1.2=T,gN.1.1.2=n,gN.1.2.1=A,gN.1.2.2=l,gN.2.1.1.1=z,gN.2.1.1.2=h,gN.2.1.2=t,gN.2.2.1=s,gN.2.2.2=F;intro d y D G I u w r B;unfold vi;split
 .rename_i a0;have H:=ib.length B;have a1:∀Z4,ib (λv c=>∀z,VR z v c) (F.dv.drop (t.length+F.dv.length-F.ps.length)) Z4->∀x v,(F.ps.zip (h++F.dv.drop (h.length+F.dv.length-F.ps.length))).lookup x=fR v->∃c,(F.ps.zip (t++Z4)).lookup x=fR c/\VR z v c:=λZ4 a3 x v e=>by
   refine adK ?_ e;refine lE H<|ib.append B (ib.mono a3 λZ Z a4=>a4 z)
  generalize b2:h++F.dv.drop (h.length+F.dv.length-F.ps.length)=i at a1;have a2:=λR=>Gl D G u w r (⟨(gu (gC H.symm) a0.1),(gu a0.2 (Rb (gC H) _))⟩) a1 R;change gJ l [] (gL l []) (xM A (.ref a) t) (λz Z a b=>VR z a b) z s (fS (lw T n F.k (F.ps.zip i) F.body) Gk y);generalize o:lw T n F.k (F.ps.zip i) F.body y=a5;induction a5 with
  |a=>exact lE (lW o) trivial
  |b f J=>
   have a6:∃v,(fS (lw T n F.k (F.ps.zip i) F.body) Gk y=.b v J)/\∀j k env g,oA F.k env j k f g->VR j v (match g with|.ret v=>v|_=>.none):=by refine lE (nW o) ?_;induction f with|a ℓ'=>exact gx .c rfl (λj k env g p=>by induction g<;>first|exact .dR|cases p)|b v=>exact gx v rfl (λj k env g p=>by induction g<;>first|exact p|cases p)
   refine gy a6 ?_;intro v K a7;refine lE K<|λQ E L=>a2 _ λZ4 env M N m Z O P S Z Z V W X=>?_;have q:=I (A.deeper env) (env::l) F.k (F.ps.zip i) env F.body z y (sU s M N) O P;rw[o]at q;refine q _ _ λj k Y g x a8 p=>L j k Y _ (((gS.al V (jo W)).trans x).drop (xU S) (λb a9=>.inr (X b a9)) (by simp)) a8 (a7 _ _ _ _ p)
  |c C J=>
   have K:fS (lw T n F.k (F.ps.zip i) F.body) Gk y=.c C J:=by unfold fS;exact lE o rfl
   refine lE K<|λQ E L=>a2 _ λZ4 env M N m Z O P S Z Z V W X=>?_;have q:=I (A.deeper env) (env::l) F.k (F.ps.zip i) env F.body z y (sU s M N) O P;rw[o]at q;refine q _ _ λe k Y R=>Og (EB u.dO) S V W X w R λb0 b1=>L e b0 Y b1.dj
 .trivial
noncomputable abbrev rJ(P:gG):List gv:=[.ref P,.type "Exception",.type "BaseException",.type "object"]
structure tZ(C P a:gG):Prop where
 aE:∃nm q N b c d e f g h i j k l,K.lookup C=fR (zc nm q C N b (rJ P) fW c d e f g h i j k l "Exception.__new__")
 init:lS K (.ref C) "__init__"=fR (fR (.ref a))
 fn:BG K (.ref a)=fR (.type "function")
 set:lS K (.ref C) "__setattr__"=fR (fR (.builtin "object.__setattr__"))
 dL:lS K (.ref C) "why"=fR fU
noncomputable def lX(C t:gG)(d:Option gG):iY:={cls:=.ref C,dict:=d,data:=.fields #[.ref t,.none,.none,.none,.bool fY,.none]}
def agw(e:(List.contains [afK "Exception",.type "BaseException",.type "object"] (.type X))=b):(uU C::rJ P).contains (.type X)=b:=lE aec (lE aec (lE e rfl))
def x7(a:gG):fR {cls:=.ref C,data:=.fields (#[.ref a,.none,.none,.none,.bool fY,.none]++(List.replicate 0 (mV 0)).toArray)}=fR (lX C a fU):=by simp[lX]
def Κ{R:pW->gK->Prop}{Y8:qt}{nm q:f_}{b:List gv}(a:h.get? C=fR (zc nm q C N x (rJ P) fW y b z L Q W k1 k2 k3 k5 "Exception.__new__"))(c:R (.ok (.ret (.ref (h.objs.size+1)))) ⟨(h.push {cls:=.type "tuple",data:=.seq #[v]}).push (lX C h.objs.size fU),g,d,t,Y8⟩):lF (gk gh w) A (.builtin "Exception.__new__" ⟨[.ref C,v],[]⟩) R ⟨h,g,d,t,Y8⟩:=by refine codeAny_builtinAt RN.entry ?_;refine agt (agt (PySem.wpAt_stack λp i=>agu (wP "Exception" (h:=agu ?_))));have f:((h.push {cls:=.type "tuple",data:=.seq #[v]}).push (lX C h.objs.size fU)).get? C=_:=iW _ (iW _ a);refine wL a (g:=wL a (g:=wL a (g:=wL a (g:=wL a (g:=wL a (g:=wL a (g:=wL a (g:=wL a (g:=wA {cls:=.type "tuple",data:=.seq #[v]} (g:=wA (lX C h.objs.size fU) (e:=IN gQ (x7 h.objs.size)) (g:=wL f (g:=wP (.done (.ret (.ref (h.push {cls:=.type "tuple",data:=.seq #[v]}).objs.size))) (h:=?_)))))))))))));rw[kt];exact c
def Θ{Y8:qt}{nm q:f_}{b:List gv}{M:lv}(a:h.get? C=fR (zc nm q C N x (rJ P) fW y b z L W k0 k1 k2 k3 k5 "Exception.__new__"))(c:Q () ⟨h,g,d,t,Y8⟩):gg M A (JR "Exception.__new__" ⟨[.ref C,v],[]⟩) Q E ⟨h,g,d,t,Y8⟩:=wL a (g:=wL a (g:=wL a (g:=wL a (g:=wL a (g:=wL a (g:=wL a (g:=wP () (h:=c))))))))
def Η{Y8:qt}{nm q:f_}{c:List gv}{M:lv}(a:h.get? C=fR (zc nm q C N y (rJ P) fW z c L W dd k0 k1 k2 k3 k5 "Exception.__new__"))(b:h.get? e=fR x)(f:x.cls=.ref C)(i:Q () ⟨h,g,d,t,Y8⟩):gg M A (JR "Exception.__init__" ⟨[.ref e,v],[]⟩) Q E ⟨h,g,d,t,Y8⟩:=by obtain⟨j,k,l,m⟩:=x;obtain rfl:j=_:=f;exact wL b (g:=wL a (g:=wL b (g:=wL a (g:=wP () (h:=i)))))
def Ε{Y8:qt}(X:K.In h)(Y:tZ C P y)(c:gg (gk gh w) (A.under (.builtin "type.__call__" ⟨[.ref C,v],[]⟩)) (ju (.ref y) [.ref (h.objs.size+1),v]) (λr s'=>r=.none/\Q (.ref (h.objs.size+1)) s') E ⟨(h.push {cls:=.type "tuple",data:=.seq #[v]}).push (lX C h.objs.size fU),g,d,t,Y8⟩):gg (gk gh w) A (ju (.ref C) [v]) Q E ⟨h,g,d,t,Y8⟩:=by
 revert P y g d t Y8 X Y c;revert h C v Q E A;refine @(nI E1 ?_);generalize gT.1.1.1=h,gT.1.1.2=C,gT.1.2=v,gT.2.1.1=Q,gT.2.1.2=E,gT.2.2=A;intro P y g d t Y8 X Y c;refine hZ λB i=>?_;obtain⟨nm,q,N,D,F,G,H,I,J,L,M,O,R,S,k⟩:=Y.aE;refine i ?_;clear i;have a:=X _ _ k;refine sS (E_ (wL a (g:=wL a (g:=wP (.again (.call (.builtin "type.__call__") ⟨[.ref C,v],[]⟩)) (h:=⟨rfl,?_⟩)))));refine codeAny_call_builtin_at (RC _ (by decide+kernel)) entry_typeCall (wpAny_check_type_call_sub a ?_);refine wL a (g:=wL a (g:=wL a (g:=wC (.call (.builtin "Exception.__new__") ⟨[.ref C,v],[]⟩) (g:=codeAny_call_builtin_code (RC _ (RN).quiet) (Θ a (Κ a ?_))))));have f:∀b o,h.get? b=fR o->((h.push {cls:=.type "tuple",data:=.seq #[v]}).push (lX C h.objs.size fU)).get? b=fR o:=λb o e=>iW _ (iW _ e);have l:=f _ _ a;have m:((h.push {cls:=.type "tuple",data:=.seq #[v]}).push (lX C h.objs.size fU)).get? (h.objs.size+1)=fR (lX C h.objs.size fU):=by heap_get
 have p:(uU C::rJ P).contains (.ref C)=fW:=by simp
 have j:EW (gk gh w) ((h.push {cls:=.type "tuple",data:=.seq #[v]}).push (lX C h.objs.size fU)) (Fi (.ref (h.objs.size+1))) (.ref C):=(afO m).andThen .now;refine wE (t':=isInstance (.ref (h.objs.size+1)) (.ref C)>>=λb=>if(!b)=fW then rule "type.call.new-gave-other-type">>=λZ=>BP (.ref (h.objs.size+1))else
  pC [.ref (h.objs.size+1)] (callSpecial? (.ref (h.objs.size+1)) "__init__" [v] [])>>=λr=>match r with|none=>BP (.ref (h.objs.size+1))|some r=>if(r !=pX)=fW then rule "type.call.init-returned-value">>=λZ=>PySem.typeNameOf r>>=λn=>(raiseErrorMade "TypeError" (toString "__init__() should return None, not '"++toString n++toString "'"):iM Unit)>>=λZ=>BP (.ref (h.objs.size+1))else BP (.ref (h.objs.size+1))) gQ ?_
 refine gf (gf (j.here (wpAny_isSubtype_exc l ?_)));rw[p];refine gf (jp (gf (gf (j.here (((JJ X Y.init).keeps f).here ?_)))));refine jp (gf (((bind_fn X (.ref (h.objs.size+1)) Y.fn).keeps f).here (gf (jL c (λr s' s=>?_) λZ Z x=>x))));refine gP s ?_;intro u z;obtain rfl:=u;exact gU (gU z)
def Ι{Y8:qt}(X:K.In h)(Y:tZ C P y)(c:h.get? e=fR (lX C z fU))(j:∀a k,a.get? e=fR (lX C k fU)->(∀b o,b≠e->h.get? b=fR o->a.get? b=fR o)->h.objs.size<=a.objs.size->Q .none ⟨a,g,d,t,Y8⟩):gg (gk gh w) A (ju (.builtin "Exception.__init__") [.ref e,v]) Q E ⟨h,g,d,t,Y8⟩:=by
 refine hZ λp i=>?_;obtain⟨nm,q,N,r,s,u,B,D,G,H,I,J,L,M,l⟩:=Y.aE;refine i ?_;clear i;have F:=RN;refine sS (Sp F.init.plain F.initEntry (Η (X _ _ l) c rfl ?_));have f:(h.push {cls:=.type "tuple",data:=.seq #[v]}).get? e=_:=iW _ c;refine wA {cls:=.type "tuple",data:=.seq #[v]} (g:=wL f (g:=wL f (g:=wU (RU λx=>x.setIfInBounds 0 (.ref h.objs.size)) f (g:=wP (.done (.ret .none)) (h:=?_)))));refine j _ h.objs.size ?_ (λb o m n=>?_) ?_;refine lE (tR _ (iW _ c) rfl) ?_;rfl;refine lE (EJ _ _ (wS m)) ?_;exact iW _ n;rw[RQ,kt];exact jA _
def A0(a:gv):refuseLoop a "__setattr__" [.type "Exception",.type "BaseException",.type "object"]=pure ():=by kernel_rfl
def Λ{R:pW->gK->Prop}(X:K.In s.heap)(Y:tZ C P x)(a:s.heap.get? e=fR (lX C t fU))(i:∀c h d,c.get? e=fR (lX C t (fR d))->(∀b o,b≠e->s.heap.get? b=fR o->c.get? b=fR o)->s.heap.objs.size<=c.objs.size->R (.ok (.ret .none)) (sU s c h)):lF (gk gh w) A (.call (.builtin "object.__setattr__") ⟨[.ref e,.str "why" h,v],[]⟩) R s:=by
 revert P x X Y a i;revert C t e s A h v R;refine @(lx E1 ?_);generalize gw.1.1.1=C,gw.1.1.2=t,gw.1.2.1=e,gw.1.2.2=s,gw.2.1.1=A,gw.2.1.2=h,gw.2.2.1=v,gw.2.2.2=R;intro P x X Y a i;refine hZ λp f=>?_;obtain⟨nm,q,N,r,u,y,z,B,M,O,Q,S,T,V,D⟩:=Y.aE;refine f ?_;clear f;have I:EV s.heap e (lX C t fU) C fU:=⟨a,rfl,rfl,trivial⟩;have g:=PySem.F.store_object;have j:EX K C=fR {name:=nm,bases:=r,mro:=.ref C::rJ P,ns:=N,qualname:=q,hasDict:=fW,slotNames:=u,subclasses:=y,abstract:=z,collection:=B,hasDel:=fY}:=by unfold EX;exact lE D rfl
 have k:EW (gk gh w) s.heap (mroOf (.ref C)) (.ref C::rJ P):=(Sg X j).andThen .now;refine Sp g.slot.plain g.entry (@check_slot (gk gh w) _ _ s "object.__setattr__" "object" "__setattr__" (.ref e) [.str "why" h,v] [] _ g.kind g.split (I.type.andThen (looks_mroIn X (by unfold mroIn;exact lE j rfl))) (g.args (.ref e) (.str "why" h) v) ?_);rw[osa_eq,refuse_eq];refine gf (gf (I.type.here (gf (k.here ?_))));rw[agb,agb,A0];refine gU (gf (I.type.here (gf ((JJ X Y.dL).here (gf (gU ?_))))));refine gf (gU (gf (gf (Kc a (gf ((Sg X j).here ?_))))));refine gf (SQ (gf (wpAny_update (iW _ a) (gU (gf ?_)))));have m:=jt (iB a);have E:rD ((s.heap.push sQ).update e λo=>{o with dict:=fR s.heap.objs.size}) s.heap.objs.size (λZ=>fU) 0:=sv sQ (#[]) 0 ((EJ _ _ m).trans (lu _ rfl)) rfl (λZ k=>by simp at k) (λZ=>rfl) (ij _);refine gU (gf ?_);refine PJ E rfl λc F l=>hZ λp f=>tI (id F) λo W a0 G H a1 a2 J=>?_;refine f ?_;clear f;refine gf (agj G (by refine lE H ?_;exact ag9 (by refine lE vc<|gu J (iP _ _))) (gU (i c _ s.heap.objs.size ?_ (λb o L n=>?_) ?_)));refine lE (l.2 e m) (lE (tR _ (iW _ a) rfl) ?_);rfl;refine lE (l.2 b (jt (iB n))) (lE (EJ _ _ (wS L)) ?_);exact iW _ n;refine lE l.1 ?_;rw[RQ,kt];exact jA _
def Μ(X:K.In s.heap)(Y:tZ C P t)(i:s.heap.get? e=fR (lX C h fU))(j:∀f g d,f.get? e=fR (lX C h (fR d))->(∀b o,b≠e->s.heap.get? b=fR o->f.get? b=fR o)->s.heap.objs.size<=f.objs.size->Q () (sU s f g)):gg (gk gh w) A (JY (.ref e) "why" v) Q E s:=set_plain X (⟨i,rfl,rfl,trivial⟩:EV s.heap e (lX C h fU) C fU) Y.set (Λ X Y i λf g d a b c=>j f g d a b c)
structure Fw(a:gG):Prop where
 fn:∃k d b e f c g h i j l,sW a ⟨["self","why"],[],k,[.Expr (.Call (.Attribute (.Name "Exception" d) "__init__" b) [.Name "self" e,.Name "why" f] [] c) g,.Assign [.Attribute (.Name "self" h) "why" i] (.Name "why" j) l]⟩/\(b.endLine==c.line)=fW/\k.lookup (fZ "self")=fR .local/\k.lookup (fZ "why")=fR .local/\k.lookup (fZ "Exception")=fR .globalImplicit/\∀x∈k,x.2≠.cell
 az:lT K jK "Exception"=fR fU
def v9:JP "Exception"=fR (.type "Exception"):=by decide+kernel
def B0:Fi (.type "Exception")=pure (.type "type"):=by first|rfl|kernel_rfl
def A9:Manifest.isStub "Exception"=fY:=by decide+kernel
def x8:findCls [] (.type "Exception") (.type "type") "__init__"=fR (.val (.builtin "Exception.__init__")):=by kernel_rfl
def x9{c:iM Bool}(h:Q (.builtin "Exception.__init__",[]) {s with toks:=s.toks+1}):gg (gk gh w) A (getMethod (.type "Exception") "__init__" c) Q E s:=by
 have X:Frag.In [] s.heap:=λZ Z e=>by injection e
 have b:EW (gk gh w) s.heap (Fi (.type "Exception")) (.type "type"):=Sc B0;refine gf (gf (b.here ((JJ X type_tga).here ?_)));dsimp only;refine(if_pos canon_tga).symm▸?_;refine gf (jL ?_ (λZ Z a=>gU a) λZ Z a=>a);have d:EW (gk gh w) s.heap (ag8 (.type "Exception")) fU:=Sc (by unfold ag8;dsimp only;exact(A9).symm▸rfl);refine cls_open X d b type_tga (looks_hook X (by rfl)) (by rfl) x8 (gU (by refine(?_:gg _ _ (handedOut (.builtin "Exception.__init__")) _ _ _);refine lE (handedOut_of (by rfl))<|gU h))
def M7(G:jM)(a:∀b o,iI.get? b=fR o->s.heap.get? b=fR o)(Y:tZ C P t)(B:Fw t)(i:A.depth<aga)(f:s.heap.get? e=fR (lX C y fU))(V:iI.objs.size<=e)(j:∀D c W d,D.get? e=fR (lX C W (fR d))->(∀b o,b≠e->s.heap.get? b=fR o->D.get? b=fR o)->s.heap.objs.size<=D.objs.size->Q .none (sU s D c)):gg (gk gh w) A (ju (.ref t) [.ref e,v]) Q E s:=by
 revert C P y A G a Y B i f V j;revert t e Q v E s;refine @(nI E1 ?_);generalize gT.1.1.1=t,gT.1.1.2=e,gT.1.2=Q,gT.2.1.1=v,gT.2.1.2=E,gT.2.2=s;intro C P y A G a Y B i f V j;refine hZ λc1 F=>?_;obtain⟨k,H,X,I,J,g,c2,a0,a1,c3,c4,K,a2,L,M,a3,a4⟩:=B.fn;revert Y i f j F K a2 L M a3 a4;revert C P y A c1 k H X I J g c2 a0 a1 c3 c4;refine @(Dt E1 ?_);generalize ic.1.1.1.1=C,ic.1.1.1.2=P,ic.1.1.2.1=y,ic.1.1.2.2=A,ic.1.2.1.1=c1,ic.1.2.1.2=k,ic.1.2.2.1=H,ic.1.2.2.2=X,ic.2.1.1.1=I,ic.2.1.1.2=J,ic.2.1.2.1=g,ic.2.1.2.2=c2,ic.2.2.1.1=a0,ic.2.2.1.2=a1,ic.2.2.2.1=c3,ic.2.2.2.2=c4;intro Y i f j F K a2 L M a3 a4;obtain⟨o,l,ds,p,a5,a6,u,N,a7,a8,c5,a9,b0,b1,b2,b3,b4,_⟩:=K.aE;refine F ?_;clear F;revert p a5 a6 u N a7 a8 c5 a9 b0 b1 b2 b3 b4 right;revert o l ds;refine @(yk E1 ?_);generalize mC.1.1=o,mC.1.2=l,mC.2=ds;intro p a5 a6 u N a7 a8 c5 a9 b0 b1 b2 b3 b4 right;have d2:ds=[]:=by cases b4;rfl
 subst d2;have d3:=KP (Y4:=[.ref e,v]) b2 K.a (b3.imp id λb5=>sJ b5 λT o n d4 d5 d6=>ti T o n d4 (a _ _ d5) d6) (by simp) (by simp) (by simp) (by simp);refine sS (codeAny_call_def i (a _ _ p) a5 (G.nolim.keeps a) (b1.keeps a) a6 d3 (by refine(u).symm▸?_;exact a4) (λx d7=>?_) (λc6 z b6=>?_) a7 a8 N)
 .refine(u).symm▸?_;have:x=(fZ "self",uU e)\/x=(fZ "why",v):=by simpa using d7
  rcases this with rfl|rfl
  .exact L
  .exact M
 .have b7:∀O,(callEnv l s.heap.objs.size t).kindOf O=k.lookup O:=λO=>by refine(?_:l.scope.names.lookup O=_);exact lE u rfl
  generalize R:callEnv l s.heap.objs.size t=env at*;have c7:env.locals=s.heap.objs.size:=rE R rfl;have S:env.scope.kind=.function:=rE R<|N;have d8:env.globals=jK:=rE R<|a9;have d9:env.builtins=tT:=rE R<|b0;have c8:∀{h:hV} {c:oq} {Z8:oS} {A:lj} {E:gv->gK->Prop} {Q:gv->gK->Prop},h.Ns s.heap.objs.size (λx=>(([fZ "self",fZ "why"].zip ([uU e,v]++QL ([uU e,v].length+([]:List gv).length-[fZ "self","why"].length) []))).reverse.lookup x)->Q (.ref e) (sU s h c)->gg (gk gh w) A (iu (.Name "self" Z8) env) Q E (sU s h c):=λb8 h=>sR (BU S ((b7 _).trans L) (by refine lE c7<|b8) (by rfl) h) gO;have c9:∀{h:hV} {c:oq} {Z8:oS} {A:lj} {E:gv->gK->Prop} {Q:gv->gK->Prop},h.Ns s.heap.objs.size (λx=>(([fZ "self","why"].zip ([uU e,v]++QL ([uU e,v].length+([]:List gv).length-["self","why"].length) []))).reverse.lookup x)->Q v (sU s h c)->gg (gk gh w) A (iu (.Name "why" Z8) env) Q E (sU s h c):=λb8 h=>sR (BU S ((b7 _).trans M) (by refine lE c7<|b8) (by rfl) h) gO;have b9:∀b o,iI.get? b=fR o->c6.get? b=fR o:=λb o q=>b6 _ _ (a _ _ q);rw[zb];refine gf (SP ?_ (by unfold Su;exact lE S rfl) (by rfl));rw[afU];refine gf<|(?_:gg _ _ (iu (.Name "Exception" H) env) _ _ _);refine ED S ((b7 _).trans a3) (Nl G b9 d8 d9 B.az v9 gO ?_) gO;refine gf (lk ?_);unfold methodCall;have e0:Sy ([Expr.Name "self" I,.Name "why" J].length+([]:List Bz).length) (qX g (mG [.Name "self" I,.Name "why" J] env)) (backToKw g (keywordEach [] env))=fW:=by rfl
  refine(e0).symm▸?_;have e1:JW fW (.Name "Exception" H) env X g=pure g:=by unfold JW;exact(a2).symm▸rfl
  refine(e1).symm▸?_;refine gf (jp (x9 ?_));refine gf (gU ?_);refine RA rfl (EE (Bw (c8 z (Bw (c9 z (Jo ?_))))));refine Ι (G.bA.keeps b9) Y (b6 _ _ f) λe2 W e3 c0 e4=>?_;have d0:∀{m},c6.Ns s.heap.objs.size m->e2.Ns s.heap.objs.size m:=λb5=>nN b5 λo e5 e6 q r=>vx o e5 e6 (c0 _ _ (tN (iB f)) q) r;rw[zb];refine gf (J_ (c9 (d0 z) ?_) (by rfl) (by rfl));refine(?_:gg _ _ (pY (.Attribute (.Name "self" a0) "why" a1) env v) _ _ _);rw[afT];refine gf (jp (c8 (d0 z) (gf (lk (gf (jp ?_))))));refine Μ (G.bA.keeps (λb o q=>c0 b o (λe7=>absurd (iB q) (mf.mpr (e7▸V))) (b9 b o q))) Y e3 λe8 e9 d f0 f1 f2=>Fp ?_;rw[Sl];refine gU<|j e8 e9 W d f0 (λb o d1 p=>f1 b o d1 (c0 b o d1 (b6 b o p))) (gu (jo z.lt) (gu e4 f2))
def ϗ(Y:tZ C P y)(i:A.handled=fU)(h:gg (gk gh w) A x (λv a=>∃e t d,v=.ref e/\K.In a.heap/\a.heap.get? e=fR (lX C t d)/\E (.ref e) a) E s):gg (gk gh w) A (raiseStmt env (fR x) fU) Q E s:=by refine hZ λj b=>?_;obtain⟨nm,q,N,r,u,z,B,D,k,F,G,H,I,J,l⟩:=Y.aE;refine b ?_;clear b;refine gf (jL h (λv a m=>?_) λZ Z x=>x);refine hZ λj b=>nN m ?_;intro e t k n o;obtain rfl:=n;refine iT o ?_;intro X c p;obtain⟨L,g,d,M,Y8⟩:=a;refine b ?_;clear b;have f:=X _ _ l;exact wL c (g:=wL c (g:=wL f (g:=wL c (g:=wL c (g:=wL f (g:=wL c (g:=wH i (g:=wX (.ref e) (h:=p)))))))))
def ua(T:ie):Prop:=∀x C,T.az x=fR (.e C)->(x==("__debug__":f_))=fY/\lT K jK x=fR (fR (.ref C))/\sf K (.ref C)=fW/\∃P a,tZ C P a/\Fw a
def I2(f:lU z l h)(g:∀L∈iF l,B.get? L=fU):h.FunFrames B l:=by induction l with|nil=>trivial|cons env l j=>refine hZ λn i=>?_;obtain⟨a,L,o,b,c,d,_⟩:=f env rY;refine i ?_;clear i;refine iy a (rL L o b (g L (Bs.mpr (gx env rY b))) c d) (j (λe m=>f e (qp _ m)) λk m=>g k ?_);exact fE m λe m q=>Bs.mpr (gx e (qp _ m) q)
def abv{d n:Nat}(J:ua T)(G:jM)(j:SV T d n)(S:iD d l k U env A z s.heap)(r:gp z y s.heap):gJ l (iH k env) (gL l (iH k env)) (gg (gk gh w) A (qY (.Raise (fR (.Call (.Name c h) [a] [] N)) fU Z8) env)) (oA k env) z s (fS (rg T k c) (λg=>match g with
  |.e C=>fS (iA T n k U a) λv=>match v with|.d _=>ls C|_=>gc
  |_=>gc) y):=by
 revert y d J G j S r;revert T l k U env A z c h a N Z8 s n;refine @(yj E1 ?_);generalize gY.1.1.1.1=T,gY.1.1.1.2=l,gY.1.1.2.1=k,gY.1.1.2.2=U,gY.1.2.1.1=env,gY.1.2.1.2=A,gY.1.2.2=z,gY.2.1.1.1=c,gY.2.1.1.2=h,gY.2.1.2.1=a,gY.2.1.2.2=N,gY.2.2.1.1=Z8,gY.2.2.1.2=s,gY.2.2.2=n;intro y d J G j S r;unfold rg;by_cases M:k.lookup c=fR .globalImplicit
 .refine lE (if_pos M) ?_;generalize u:T.az c=O;induction O with|none=>trivial|some g=>
   refine lE sj ?_;induction g with
   |e C=>
    revert j S r u;revert y d C;refine @(yk E1 ?_);generalize mC.1.1=y,mC.1.2=d,mC.2=C;intro j S r u;dsimp only;refine hZ λa3 i=>?_;obtain⟨b7,b8,b9,P,d9,Y,c0⟩:=J c C u;refine i ?_;clear i;have B:jN [a]=fW\/iA T n k U a=gc:=by cases a<;>first|exact .inl rfl|(right;cases n<;>rfl)
    rcases B with B|B
    .have F:=rf (e:=a) j S r;have a4:∀(Q:Flow->gK->Prop) (E:gv->gK->Prop),gg (gk gh w) A (iu a env) (λv V=>K.In V.heap/\gg (gk gh w) A (ju (.ref C) [v]) (λv W=>∃e t d,v=.ref e/\K.In W.heap/\W.heap.get? e=fR (lX C t d)/\E (.ref e) W) E V) E s->gg (gk gh w) A (qY (.Raise (fR (.Call (.Name c h) [a] [] N)) fU Z8) env) Q E s:=λQ E c1=>by
      rw[arm_exec_Raise];refine gf (lk (ϗ Y S.cx.dN ?_));refine gf (jL (wpAny_Call_ofName (Dk G S.L M b7 r b8 ?_)) (λv e0 c2=>gf (lk (gU c2))) λZ Z x=>x);refine gP (AM B) λc3 c4=>lE c3<|FK (.inl b9) (Cj c4)<|Bw (jL c1 (λv V a5=>Jo ⟨a5.1,a5.2⟩) λZ Z x=>x)
     generalize D:iA T n k U a y=O;induction O with
     |a=>exact lE (lW D) trivial
     |c c5 a6=>
      have:(fS (iA T n k U a) (λv=>match v with|.d _=>ls C|_=>gc) y:R Fl)=.c c5 a6:=by unfold fS;exact lE D rfl
      refine lE this ?_;rw[D]at F;exact λQ E X=>a4 Q E (F _ E X)
     |b v a6=>
      refine lE (nW D) ?_;rw[D]at F;induction v with
      |d x=>
       refine λQ E X=>a4 Q E (F _ E λa7 f e1 c6 a0 H p=>?_);refine gP p ?_;intro e2 e3;have a1:=G.bA.keeps H.base;refine⟨a1,Ε a1 Y ?_⟩;have a8:∀b o,f.get? b=fR o->((f.push {cls:=.type "tuple",data:=.seq #[c6]}).push (lX C f.objs.size fU)).get? b=fR o:=λb o e=>iW _ (iW _ e);have a9:=S.fr.ext a0;have b0:∀L∈iF l,iR a7 L/\iI.objs.size<=L/\L<f.objs.size:=λL m=>by refine hZ λa3 i=>fE m λc7 c8 c9=>hZ λa3 i=>?_;obtain⟨_,e4,o,b1,d0,e5,d1,d2⟩:=a9 c7 c8;refine i ?_;clear i;refine i ?_;clear i;rw[c9]at b1;obtain rfl:=gz b1;exact iy d1 d2 (iB d0)
       refine M7 G (λb o e=>a8 _ _ (H.base b o e)) Y c0 (by have:=S.cx.depth;refine(?_:A.depth+1<1000);exact iX this) (by heap_get) (pA H.size) λa2 d3 b2 d4 b3 d5 d6=>?_;have I:∀b o,f.get? b=fR o->a2.get? b=fR o:=λb o q=>d5 b o (jt (ru (iB q))) (a8 _ _ q);have b4:f.objs.size<=a2.objs.size:=by refine gu ?_ d6;rw[kt,kt];exact by simp+arith
       have b5:=a9.ext (gS.al (fs:=[]) (own:=[]) I b4);refine⟨rfl,f.objs.size+1,b2,fR d4,rfl,a1.keeps I,b3,X (.ref (f.objs.size+1)) a2 d3 (Ae a7 (hideAll f (iF l)) (f.objs.size+1) (.ref b2) rfl (a0.bS (gS.al I b4).n) (λb o d7 d8 u b6=>hideAll_get _ ((a0.keep b o d7 d8 u).1 b6) b6) (H.but (λb m=>(b0 b m).1) (λb m=>(b0 b m).2.1) (λb o m q=>hideAll_get _ q m) (gC (hideAll_size _ _).symm)) (.inr ⟨λb o q=>I b o (of_hideAll _ q),?_,I2 b5 λL m=>hideAll_none _ m,_,_,b3,rfl,rfl,rfl,rfl⟩) b5)⟩;exact Heap.get?_none_of_le (by rw[hideAll_size];exact jA _)
      |_=>trivial
    .exact lE B trivial
   |_=>trivial
 .exact lE (if_neg M) trivial
def Vq(h:Ch (.ListComp x y z p)=fW):∃t i f,y=[⟨t,i,f,0⟩]/\Av x=fW:=by refine gP (uI.mp (show((uu y).isSome&&Av x)=fW from h)) λa b=>iE a λc e=>?_;obtain⟨t,i,f⟩:=c;exact vx t i f (Hj e) b
def abq(o:k_ T)(q:pG)(G:jM)(I:∀n,rA T d n)(S:iD d l k U env A z s.heap)(r:gp z y s.heap):gJ l (iH k env) (gL l (iH k env)) (gg (gk gh w) A (qY (.Assign [t] e Z8) env)) (oA k env) z s ((if Ch e then fS (iA T n k U e) λv=>fS (qc T (λℓ' u=>iA T n k ℓ' u) k U t v) λℓ'=>fX (.a ℓ')else gc) y):=by
 revert d z y e Z8 s o q G I S r;revert T l k U env A t n;refine @(lx E1 ?_);generalize gw.1.1.1=T,gw.1.1.2=l,gw.1.2.1=k,gw.1.2.2=U,gw.2.1.1=env,gw.2.1.2=A,gw.2.2.1=t,gw.2.2.2=n;intro d z y e Z8 s o q G I S r;split
 .rename_i f;have x:=(I n).v;have b:=λ(B:BQ [t] e Z8.line env=pure fY) (D:xo [t] e env=pure fU)=>abo o G B D x S r;induction e using jQ with
  |ListComp O a3 F p=>
   induction t using jQ with
   |Name c H=>refine nN (Vq f) λP R V W X=>?_;obtain rfl:=W;have M:swapsWith (.ListComp O [⟨P,R,V,0⟩] F p) (fR (.Name c H)) Z8.line env=pure (env.blockKind==.function&&env.kindOf c==fR .local&&H.line==p.line&&!(F.names.any λ(n,k)=>n==c&&(k==.local||k==.cell))):=rfl;generalize g:(env.blockKind==.function&&env.kindOf c==fR .local&&H.line==p.line&&!(F.names.any λ(n,k)=>n==c&&(k==.local||k==.cell)))=J;induction J with|true=>exact abn (M.trans (lE g rfl)) (by simp only[lr]at g;exact beq_iff_eq.mp g.1.1.2) X q G I S r|false=>exact b (M.trans (lE g rfl)) (OV rfl)
   |_=>exact b (abm rfl) (HG rfl)
  |SetComp _ _ _ _=>injection f
  |DictComp _ _ _ _ _=>injection f
  |Tuple a i j=>
   induction t using jQ with
   |Tuple ts K a4=>
    have Y:a.all (JS 8)=fY:=by have:(jN a&&!(a.all (JS 8)))=fW:=f;simpa using(lr _ _|>.mp this).2
    rcases aaP Y with h|⟨a5,B,D,a0⟩
    .exact b rfl h
    .exact abp B D a0 x S r
   |List ts K=>
    generalize m:iA T n k U (.Tuple a i j) y=J;induction J with|a=>exact lE (lW m) trivial|b v L=>exact lE (nW m) (lE (lW ((λZ Z=>rfl) v L)) trivial)|c C L=>
     have N:=rf (e:=.Tuple a i j) x S r;rw[m]at N;have a1:fS (iA T n k U (.Tuple a i j)) (λv=>fS (qc T (λℓ' u=>iA T n k ℓ' u) k U (.List ts K) v) λℓ'=>fX (Fl.a ℓ')) y=.c C L:=by unfold fS;exact lE m rfl
     refine lE a1 ?_;intro Q E a2;rw[afX];refine gf (lk ?_);refine lE (show BQ [Expr.List ts K] (.Tuple a i j) Z8.line env=pure fY from rfl)<|gf (gU ?_);refine lE (if_neg gO)<|gf (N _ E a2)
   |_=>exact b rfl (OV rfl)
  |_=>exact b (Pn rfl) (HG rfl)
 .trivial
def Zt(e:zH ts=fR (o,i)):∃p,ts=[.Subscript o i p]:=by refine bI e λc a b=>gI (HZ b) λp d=>?_;obtain rfl:=d;exact⟨p,vL a⟩
def ϖ(e:AB x c=fR (nm,a)):∃d f,x=fR (.Call (.Name nm d) [a] [] f)/\c=fU:=by revert x c e;revert nm a;refine @(Of E1 ?_);generalize vN.1=nm,vN.2=a;intro x c e;induction c with|some _=>exact qG e|none=>refine bI e λq i e=>?_;obtain rfl:=i;refine bI e λj k e=>?_;obtain⟨g,r,Z9⟩:=j;refine gP (Ag e) λh e=>bI e λm l e=>bI e λb n e=>?_;cases e;have h:=wy.mp h;subst h;refine gI (rS l) λd o=>?_;obtain rfl:=o;obtain rfl:=vL n;refine gI (HT k) λf p=>?_;obtain rfl:=p;exact nF d f rfl rfl
def aby(m:k_ T)(u:ua T)(j:pG)(G:jM)(I:∀n,rA T d n)(f:XL T d n):SX T d (n+1):=λA l k U env v z y s S r=>by
 induction v using afG with
 |Expr e p=>
  refine(?_:gJ _ _ _ _ _ _ _ ((if xS e then _ else gc:M Fl) y));split;rename_i h;exact abs h (I n).v S r;trivial
 |Return e p=>induction e with|none=>exact abx S r|some e=>exact abw (I n).v S r
 |Assign ts e p=>induction ts using jg with|nil=>trivial|cons t ts=>induction ts using jg with|nil=>exact abq m j G I S r|cons _ _=>trivial
 |Delete ts p=>
  refine(?_:gJ _ _ _ _ _ _ _ (zR (mZ T n) k U ts y));unfold zR;generalize e:zH ts=g;induction g with|none=>trivial|some q=>
   obtain⟨o,i⟩:=q;refine gI (Zt e) λF w=>?_;obtain rfl:=w;dsimp only;split;trivial;rename_i h;exact abr (by simpa using h) (I n).v S r
 |If t b o p=>exact abu (I n).b f S r
 |While t b o p=>induction o with|nil=>exact abz (I n).b f S r|cons _ _=>trivial
 |For x B b o p=>
  induction o with|cons _ _=>trivial|nil=>
   refine(?_:gJ _ _ _ _ _ _ _ (zU (mZ T n) (CD T n) k U x B b y));unfold zU;split;trivial;rename_i h;exact abt (by simpa using h) j G (I n).l (I n).v f S r
 |Raise e c p=>refine(?_:gJ _ _ _ _ _ _ _ (zW T (mZ T n) k U e c y));unfold zW;generalize q:AB e c=g;induction g with|none=>trivial|some C=>obtain⟨nm,a⟩:=C;refine jR (ϖ q) λH J D E=>?_;obtain rfl:=D;obtain rfl:=E;exact abv u G (I n).v S r
 |_=>trivial
set_option backward.match.sparseCases true in
def acA(o:SX T d n)(q:XL T d n):XL T d (n+1):=λA l k U env t z y s S r=>by
 induction t with|nil=>intro Q E b;rw[Sl];exact gU (b z s.heap s.toks .next (gS.dN _ _ _ _) r S.L)|cons g Z4=>
  have e:lw T (n+1) k U (g::Z4)=fS (Mk T n k U g) (λf=>match f with|.a ℓ'=>lw T n k ℓ' Z4|.b v=>fX (.b v)):=rfl;refine lE e<|gJ.aD (gJ.bind gL.pre (o A l k U env g z y s S r) (X9:=λa Q E u=>gg (gk gh w) A (match a with|.next=>xl Z4 env|f=>pure f) Q E u) λf B h i j a Z x m p=>?_) λQ E C=>?_
  .induction f with
   |a ℓ'=>induction a with|next=>exact q A l k ℓ' env Z4 h B (sU s i j) (S.bz x p) m|_=>cases p
   |b v=>induction a with|ret c=>exact λQ E b=>gU (b h i j (.ret c) (gS.dN _ _ _ _) m p)|_=>cases p
  .rw[zb];exact gf C
theorem Pb(c:k_ T)(e:ua T)(f:pG)(G:jM)(I:∀n,rA T d n):∀n,SX T d n/\XL T d n|0=>⟨λZ Z Z Z Z Z Z Z Z Z Z=>trivial,λZ Z Z Z Z Z Z Z Z Z Z=>trivial⟩|n+1=>have⟨a,b⟩:=Pb c e f G I n;⟨aby c e f G I b,acA a b⟩
structure Tb where
 az:f_->Option G
 bJ:gG->f_->Option gG
 ce:gG->Option f_
 attr:gG->f_->Bool
 funs:gG->Option q_
noncomputable def Tb.at(B:Tb)(f:gG->List V->M V):ie:=⟨B.az,B.bJ,f,B.ce,B.attr⟩
def CJ(B:Tb)(N:Nat):Nat->gG->List V->M V|0=>λZ Z=>gc|d+1=>λa b=>match B.funs a with|some F=>vi (B.at (CJ B N d)) N F.ps F.dv F.k F.body b|none=>gc
def k_.at{B:Tb}(h:k_ (B.at f)):k_ (B.at g):=⟨h.attr,h.bJ,h.val,h.fn,h.cls,h.bi⟩
def ua.at{B:Tb}(h:ua (B.at f)):ua (B.at g):=h
def qb.at{B:Tb}(h:qb (B.at f)):qb (B.at g):=⟨h.bi⟩
def FS.up(F:FS T d):FS T (d+1):=λA l f a b z y s c e r g=>F A l f a b z y s (c.mono (jA _)) e r g
theorem I0{B:Tb}(b:k_ (B.at λZ Z=>gc))(g:qb (B.at λZ Z=>gc))(h:ua (B.at λZ Z=>gc))(c:pG)(G:jM)(i:sX)(j:∀d f,FS (B.at f) d->Cc (B.at f) (d+2))(k:∀a F,B.funs a=fR F->sW a F):∀d,FS (B.at (CJ B N d)) (3*d)|0=>λZ Z Z Z Z Z Z Z Z Z Z Z=>trivial|d+1=>λA l f o w z y s p q r t=>by have m:=I0 (N:=N) b g h c G i j k d;have u:=λn=>(Pb b.at h.at c G (FF b.at g.at c G m.up (j _ _ m) i) n).2;refine(?_:gJ _ _ _ _ _ _ _ ((match B.funs f with|some F=>vi (B.at (CJ B N d)) N F.ps F.dv F.k F.body o|none=>gc) y));generalize e:B.funs f=v;induction v with|none=>trivial|some F=>exact Z_ (k _ _ e) G (u N) (p.mono (ij _)) q r t
def abA(a:p∈qL)(b:h∈qL)(e:p.1=h.1):p=h:=by unfold qL at a b;simp only[gX,kK,or_false]at a b;rcases a with rfl|rfl<;>rcases b with rfl|rfl<;>first|rfl|exact absurd e gO
def gp.cC{q:f_}(r:gp z y h)(l:tQ P h L)(s:(P,q)∈qL)(B:iI.get? P=fU)(C:h.objs.size<=L.objs.size)(m:h.objs.size<=c)(u:L.CodeRec (.ref c) q)(D:zt (jl z y.n fY c) (iJ y (.f q)) L P q):gp (jl z y.n fY c) (iJ y (.f q)) L:=by
 have v:∀i b x,z i b=fR x->x≠P:=λi b x e=>tN (pU (HL s) (gu r.aP (r.new _ _ _ e)));exact{
 bX:=λi b x e=>by
  unfold jl at e;by_cases q:i=y.n/\b=fY;refine gP q ?_;intro E F;obtain rfl:=E;obtain rfl:=F;exact⟨.f _,by simp[iJ];rfl⟩;rw[if_neg q]at e;refine gI (r.bX i b x e) λo' d=>⟨o',?_⟩;have:=jt (r.lim _ _ d);simp[iJ,this,d]
 lim:=λi o' e=>by
  unfold iJ at e;dsimp only at e;by_cases q:i=y.n;subst q;exact nR _;rw[if_neg q]at e;exact ru (r.lim _ _ e)
 inj:=λi b j w x e g=>by
  unfold jl at e g;by_cases q:i=y.n/\b=fY<;>by_cases d:j=y.n/\w=fY;exact⟨q.1.trans d.1.symm,q.2.trans d.2.symm⟩;rw[if_pos q]at e;rw[if_neg d]at g;obtain rfl:=gz e;refine gI (r.there _ _ _ g) λZ1 n=>absurd (iB n) (mf.mpr m);rw[if_neg q]at e;rw[if_pos d]at g;obtain rfl:=gz g;refine gI (r.there _ _ _ e) λZ1 n=>absurd (iB n) (mf.mpr m);rw[if_neg q]at e;rw[if_neg d]at g;exact r.inj _ _ _ _ _ e g
 there:=λi b x e=>by
  unfold jl at e;by_cases q:i=y.n/\b=fY
  .rw[if_pos q]at e;obtain rfl:=gz e;exact by refine yv u ?_;intro w o I t G H _;cases G;exact⟨o,H⟩
  .rw[if_neg q]at e;exact gI (r.there _ _ _ e) λZ1 d=>⟨Z1,l _ _ (v _ _ _ e) d⟩
 new:=λi b x e=>by
  unfold jl at e;by_cases q:i=y.n/\b=fY;rw[if_pos q]at e;obtain rfl:=gz e;exact gu r.size m;rw[if_neg q]at e;exact r.new _ _ _ e
 aE:=λi o' e=>by
  unfold iJ at e;dsimp only at e;by_cases q:i=y.n;subst q;rw[if_pos rfl]at e;obtain rfl:=gz e;intro a f;rw[lc]at f;obtain rfl:=gz f;exact u
  .rw[if_neg q]at e;exact(r.aE i o' e).mono (nV (r.fresh fY)) (λb a Z f q=>l _ _ (v _ _ _ f) q) λa f=>by unfold jl at f;rw[if_neg (λk=>q k.1)]at f;exact f
 base:=λb o e=>l _ _ (λk=>by rw[k,B]at e;injection e) (r.base b o e)
 size:=gu r.size C
 aP:=r.aP
 tab:=λp A=>by
  by_cases k:p.1=P;obtain rfl:p=(P,q):=abA A s k;exact D
  .exact(r.tab p A).mono (nV (r.fresh fY)) (λj e=>by
    have:=jt (r.lim _ _ e);simp[iJ,this,e]) λZ e=>l _ _ k e}
def gS.cC(r:gp z y h)(d:tQ P h t)(f:P∈uB)(g:h.objs.size<=t.objs.size)(j:h.objs.size<=c):gS fs [] z h (jl z y.n fY c) t where
 sub:=nV (r.fresh fY)
 new:=λi b x e=>by
  unfold jl at e;by_cases q:i=y.n/\b=fY;rw[if_pos q]at e;obtain rfl:=gz e;exact .inr j;rw[if_neg q]at e;exact .inl e
 keep:=λa o n Z e=>by
  have:=d a o (λk=>n.1 (k▸f)) e;exact⟨λZ=>this,o.slots,this⟩
 there:=λZ m=>nM m
 size:=g
def O8{q:f_}(e:qD k=fR (P,q)):(P,q)∈qL:=by
 unfold qD at e;split at e;cases e;exact .head _
 .split at e;cases e;exact .tail _ ge;injection e
def YT:∀{l:List gv},EU l->tU Z8 l=fR y->tU Z8 (l++[mV a,mV b,c])=fR z->z=y:=λ{l} h=>by
 fun_induction EU l with
 |case1=>intro e;injection e
 |case2 g t i u x Z4 d=>
  simp only[En,tU];split;intro e f;exact(gz f).symm.trans (gz e);exact d h
 |case3 l j k=>exact h.elim
def YS:∀{l:List gv},EU l->tU Z8 l=fU->tU Z8 (l++[mV a,mV b,c])=fR y->y=c:=λ{l} h=>by
 fun_induction EU l with
 |case1=>
  intro _ e;simp only[pT,mV,tU]at e;split at e;exact(gz e).symm;injection e
 |case2 f t g u x Z4 d=>
  simp only[En,tU];split;intro e;injection e;exact d h
 |case3 l i j=>exact h.elim
def xu:Prop:=∃a o,mg "__builtins__"=fR (.ref a)/\a≠tT/\a≠jK/\iI.get? a=fR o/\o.cls=.type "module"/\o.dict=fR tT/\o.data=.plain
def xu.at{h:hV}(b:xu)(k:∀b o,iI.get? b=fR o->h.get? b=fR o)(c:iI.get? P=fU):h.BuiltinsAt mg P:=by refine PW b ?_;intro d o e f g a i;exact Gy d o e f g (λj=>by rw[j,c]at a;injection a) (k _ _ a) i
def P1{q:f_}(T:mK k h=fW)(V:ya N=fW)(K:qD k=fR (P,q))(M:xu)(G:jM)(L:LR z k U env s.heap)(r:gp z y s.heap)(H:∀X d c3 f g n c4 p,gS (iF l) [] z s.heap X d->gp X (iJ y (.f q)) d->s.heap.objs.size<=f->d.get? f=fR (y_ "<lambda>" q N W h n c4 g p)->iR X f->d.CodeRec (.ref g) q->(∀x,n.lookup x=if h.names.lookup x=fR .free then env.cells.lookup x else fU)->Q (.ref f) (sU s d c3)):gg (gk gh w) A (iu (.Lambda N W h lp) env) Q E s:=by
 revert k U l Q A E T V K M G L r H;revert h N P z env y W lp s q;refine @(qj E1 ?_);generalize gN.1.1.1.1=h,gN.1.1.1.2=N,gN.1.1.2=P,gN.1.2.1=z,gN.1.2.2=env,gN.2.1.1.1=y,gN.2.1.1.2=W,gN.2.1.2=lp,gN.2.2.1=s,gN.2.2.2=q;intro k U l Q A E T V K M G L r H;have c5:defaultsOf N env=([],[]):=by rw[NG V];rfl
 refine mF (L.c_ P q K) λc b1 b2 c6 O=>?_;have Y:=O8 K;refine gy (Cp T L) λn b3 b4=>jy (r.tab _ Y) λb5 b6 C b7=>?_;have b8:=G.g.keeps r.base;have c7:jK≠P:=λR=>by refine nN G.g λo d5 d6 e Z=>?_;rw[R,O]at e;injection e
 refine kla_eval c5<|lE c6 ?_;cases a0:tU lp b5.toList with
 |none=>
  refine kla_makeFunction b3 L.az b8 b1 (b2.keeps r.base) b6 C a0 c7 (M.at r.base O) λg p d c8 S a1 b9 a2 c9=>?_;have v:∀b o,d.get? b=fR o->(d.push (y_ "<lambda>" q N W h n ((mg "__name__").getD .none) g p)).get? b=fR o:=λb o e=>iW _ e;have c0:tQ P s.heap (d.push (y_ "<lambda>" q N W h n ((mg "__name__").getD .none) g p)):=λb o d0 e=>v _ _ (S b o d0 e);have u:=jo (yR a1 b9);have D:s.heap.objs.size<=(d.push (y_ "<lambda>" q N W h n ((mg "__name__").getD .none) g p)).objs.size:=by rw[kt];exact pA u
  have c1:(d.push (y_ "<lambda>" q N W h n ((mg "__name__").getD .none) g p)).CodeRec (.ref g) q:=by refine yv a2 ?_;intro F o I t a3 J B;exact xW F o I t a3 (v _ _ J) B
  have a4:gp (jl z y.n fY g) (iJ y (.f q)) (d.push (y_ "<lambda>" q N W h n ((mg "__name__").getD .none) g p)):=by
   refine r.cC c0 Y O D a1 c1 (iU _ (v _ _ c9) ?_ (λZ8 a5 a6=>?_));exact lE Eh<|TriplesOk_snoc _ _ _ _ C
   .rw[Eh]at a6;cases a7:tU Z8 b5.toList with
    |some d7=>
     have:=YT C a7 a6;subst this;refine kJ (b7 Z8 a5 a7) λj a a3 J B=>?_;have:=jt (r.lim _ _ B);exact jq j a a3 (nV (r.fresh fY) _ _ _ J) (by simp[iJ,this,B])
    |none=>
     have:=YS C a7 a6;subst this;exact jq y.n g rfl (lc ..) (by simp[iJ])
  refine H _ _ _ d.objs.size g n _ p (gS.cC r c0 (Po Y) D a1) a4 u (lu _ rfl) ?_ c1 b4;refine⟨λm=>?_,λi b e=>?_⟩
  .have d1:=r.size;have:d.objs.size<811:=by
    unfold uB at m;simp only[gX,kK,or_false]at m;rcases m with m|m<;>(refine lE m ?_;decide)
   exact absurd (gu r.aP (gu d1 u)) (aeV.mpr this)
  .unfold jl at e;by_cases R:i=y.n/\b=fY;rw[if_pos R]at e;obtain rfl:=gz e;exact absurd b9 (uP _);rw[if_neg R]at e;refine gI (r.there _ _ _ e) λZ1 d2=>absurd (iB d2) (mf.mpr u)
 |some a5=>
  refine hZ λd8 c2=>jR (b7 lp a5 a0) λj a d3 d4=>?_;obtain rfl:=d3;refine gP d4 ?_;intro J B;refine c2 ?_;clear c2;refine kla_makeFunctionHit b3 L.az b8 b1 (b2.keeps r.base) b6 C a0 (M.at r.base O) λp d c8 S u=>?_;have v:∀b o,s.heap.get? b=fR o->(d.push {cls:=.type "function",data:=.func (kla_fn "<lambda>" q N W h n ((mg "__name__").getD .none) (.ref a) p)}).get? b=fR o:=λb o e=>iW _ (S b o e);have D:s.heap.objs.size<=(d.push {cls:=.type "function",data:=.func (kla_fn "<lambda>" q N W h n ((mg "__name__").getD .none) (.ref a) p)}).objs.size:=by rw[kt];exact pA u
  have a4:=r.cb (o:=.f q) v D (jI.dN z) (λi b x e=>.inl e) (λb c x e=>by rw[r.fresh]at e;injection e) (λa e=>by rw[r.fresh]at e;injection e);have a2:d.CodeRec (.ref a) q:=by refine yv (r.aE j _ B a J) λF o I t a8 a9 b0=>xW F o I t a8 (S _ _ a9) b0
  refine H z _ _ d.objs.size a n _ p (gS.al v D) a4 u (lu _ rfl) (pd r u) ?_ b4;refine yv a2 ?_;intro F o I t a8 a9 b0;exact xW F o I t a8 (iW _ a9) b0
def O9{g:List (f_×gG)}(n:mK k t=fW)(o:∀x,g.lookup x=if t.names.lookup x=fR .free then env.cells.lookup x else fU)(L:LR z k U env h)(p:y.scope=t)(u:y.globals=jK)(w:y.builtins=tT)(i:y.cells=g)(A:h.Ns y.locals λZ=>fU)(B:iR z y.locals/\iI.objs.size<=y.locals)(C:∀a c,env.cells.lookup a=fR c->c≠y.locals):LR z t.names (jW t.names U) y h:=by
 refine iT (ta n) λD E j=>?_;have r:=Gw t.names U λa F b=>((j a F).2.1 b).1;have l:∀x c,g.lookup x=fR c->t.names.lookup x=fR .free/\env.cells.lookup x=fR c:=λx c e=>by
  rw[o]at e;by_cases q:t.names.lookup x=fR .free;rw[if_pos q]at e;exact⟨q,e⟩;rw[if_neg q]at e;injection e
 exact{
  kind:=lE p<|D
  az:=u
  b_:=E
  c_:=λP q e=>by rw[Lm n]at e;injection e
  bi:=w
  aH:=λx Q e=>.inl (by unfold afe;refine lE p<|e)
  ns:=gx _ A (λx v m d=>by rw[r,m]at d;simp at d)
  cell:=λx f=>by
   have b:t.names.lookup x=fR .free:=by
    rcases f with f|f
    .refine jR (rX.mp f) λX7 G e Z=>absurd rfl (j (x,.cell) (by refine lE e ?_;simp)).2.2
    .exact f
   refine jR (rX.mp b) λX7 G e Z=>?_;have m:=((j (x,.free) (by refine lE e ?_;simp)).2.1 rfl).2;refine kJ (L.cell x m) λc H I J K=>jq c H ?_ J (λv d=>?_);refine lE i ?_;rw[o];exact lE (if_pos b) (lE I rfl);rw[r,if_pos b]at d;exact K v d
  aC:=B
  offc:=λx c e=>by rw[i]at e;have:=(l x c e).2;refine jZ (L.offc x c this) λM N R O=>kg M N (C x c this) O
  cq:=λx a c e s=>by rw[i]at e s;exact L.cq x a c (l x c e).2 (l a c s).2}
def P0{q:f_}(b7:k_ T)(b8:qb T)(G:jM)(F:FS T d)(b9:SL T (d+1) n)(a8:mK k h=fW)(c0:h.isCoroutine=fY)(c1:h.isGenerator=fY)(c2:ya as=fW)(c3:jN P=fW)(c4:P≠[])(c5:h.names.lookup W=fR .globalImplicit)(c6:T.az W=fR (.a a))(a9:A.frames=fR l)(c7:A.handled=fU)(b0:A.depth+1+4*(d+1)+4<=990)(c8:A.units+3+40*(d+1)+40<=9800)(b1:lU z l s.heap)(r:gp z y s.heap)(L:LR z k U env s.heap)(c9:s.heap.get? f=fR (y_ nm q as (.Call (.Name W hp) P [] Z8) h t pm N a0))(d0:s.heap.CodeRec (.ref N) q)(d1:∀x,t.lookup x=if h.names.lookup x=fR .free then env.cells.lookup x else fU):gJ l [] (xC l []) (xM A (.ref f) []) (λz Z a b=>VR z a b) z s (fS (kO T n h.names (jW h.names U) P) (λj=>T.fn a j) y):=by
 refine iT (ta a8) λb2 e6 d2=>?_;have d3:(fS (rg T h.names W) (λg=>if Ax g then fS (kO T n h.names (jW h.names U) P) (λj=>nX T (fR g) j)else gc) y)=(fS (kO T n h.names (jW h.names U) P) (λj=>T.fn a j) y):=by unfold rg;rw[if_pos c5,c6,sj];rfl
 have O:bindArgs (kla_fn nm q as (.Call (.Name W hp) P [] Z8) h t pm (.ref N) a0) ⟨[],[]⟩=pure []:=by rw[NG c2];rfl
 have S:∀(R:pW->gK->Prop),(∀(i:hV) (d4:oq),(∀b o,s.heap.get? b=fR o->i.get? b=fR o)->s.heap.objs.size<i.objs.size->gp z y i->iD (d+1) (qW q h s.heap.objs.size f (.ref N) t::l) h.names (jW h.names U) (qW q h s.heap.objs.size f (.ref N) t) (A.deeper (qW q h s.heap.objs.size f (.ref N) t)) z i->gg (gk gh w) (A.deeper (qW q h s.heap.objs.size f (.ref N) t)) (iu (.Call (.Name W hp) P [] Z8) (qW q h s.heap.objs.size f (.ref N) t)) (λv s'=>R (.ok (.ret v)) s') (λe s'=>gg (gk gh w) (A.deeper (qW q h s.heap.objs.size f (.ref N) t)) (Fc (qW q h s.heap.objs.size f (.ref N) t) e) (λZ V=>R (.error e) V) (λd5 V=>R (.error d5) V) s') (sU s i d4))->lF (gk gh w) A (.call (.ref f) ⟨[],[]⟩) R s:=λR d6=>by
  refine kla_callFunE (by show A.depth<1000;exact iX b0) c9 rfl c0 c1 rfl d0 ?_;rw[O];refine gU (S_ (λJ X=>(d2 J X).2.2) (by intro J X;exact nM X) (λu d7 Y=>⟨(G.nolim.keeps r.base).fresh _ Y,?_⟩) b2);show lF _ _ (.expr _ (qW q h s.heap.objs.size f (.ref N) t)) _ _;have a1:∀b o,s.heap.get? b=fR o->u.get? b=fR o:=λb o e=>Y.extBut b o (jt (iB e)) (iW _ e);have d8:u.objs.size=s.heap.objs.size+1:=by rw[Y.1,kt]
  have B:s.heap.objs.size<u.objs.size:=by rw[d8];exact nR _
  have K:gS (iF l) [] z s.heap z u:=gS.al a1 (jo B);have b3:iR z s.heap.objs.size/\iI.objs.size<=s.heap.objs.size:=⟨pd r (ij _),r.size⟩;have b4:u.Ns s.heap.objs.size λZ=>fU:=by simpa using d7
  have d9:LR z h.names (jW h.names U) (qW q h s.heap.objs.size f (.ref N) t) u:=O9 a8 d1 (L.ext K kK (λZ Z Z Z=>kK)) rfl rfl rfl rfl b4 b3 (λJ c e=>jt (L.offc J c e).2.2.2);refine kla_codeExpr (d6 u _ a1 B (r.keep a1 (jo B)) ⟨⟨c7,EB a9,by show A.depth+1+4*(d+1)+4<=990;exact b0,by show A.units+3+40*(d+1)+40<=9800;exact c8⟩,d9,?_⟩);intro a2 m;rcases gX.mp m with rfl|m
  .refine sJ b4 ?_;intro o' e7 e8 g e0 _;exact⟨by show h.kind≠_;rw[b2];decide,s.heap.objs.size,o',rfl,g,(λj M=>by rw[e0]at M;injection M),b3⟩
  .exact b1.ext K a2 m
 have D:=λ(b5:gK) (H:iD (d+1) (qW q h s.heap.objs.size f (.ref N) t::l) h.names (jW h.names U) (qW q h s.heap.objs.size f (.ref N) t) (A.deeper (qW q h s.heap.objs.size f (.ref N) t)) z b5.heap) (I:gp z y b5.heap)=>Pl (f:=W) (p:=hp) (Z8:=Z8) c3 (λM=>absurd M c4) b7 b8 G F b9 H I;rw[d3]at D;have a3:(qW q h s.heap.objs.size f (.ref N) t).frame=fR s.heap.objs.size:=rfl;generalize qW q h s.heap.objs.size f (.ref N) t=a2 at S D a3;cases e:fS (kO T n h.names (jW h.names U) P) (λj=>T.fn a j) y with|a=>trivial|b v e1=>rw[e]at D;refine λQ E a4=>S _ λi a5 a6 B I H=>D (sU s i a5) H I _ _ λe2 b6 a7 b x e3 p=>?_;have K:gS (iF (a2::l)) [] z s.heap z i:=gS.al a6 (jo B);exact a4 e2 b6 a7 _ ((K.trans x).drop (xU a3) (λb O=>nM O) (by simp)) e3 p|c C e1=>rw[e]at D;refine λQ E a4=>S _ λi a5 a6 B I H=>D (sU s i a5) H I _ _ λe b6 a7 R=>Og (EB a9) a3 a6 B (λZ m=>nM m) b1 R λe4 e5=>a4 e e4 a7 e5
noncomputable def HX(s:jB):Option gq:=if h:s.ctorIdx=3 then R_ (motive_2:=λZ=>Option gq) s h λe Z=>e else fU
set_option tactic.hygienic true in
def acf(h:HX s=fR e):∃p,s=.Return (fR e) p:=by
 unfold HX at h;split at h;rename_i b;exact R_ (motive_2:=λs=>∀b,R_ (motive_2:=λZ=>Option gq) s b (λe Z=>e)=fR e->∃p,s=.Return (fR e) p) s b (λa p Z q=>⟨p,by obtain rfl:a=fR e:=q;rfl⟩) b h;exact nS h
def CQ:EH->Option (f_×f_)|.ExceptHandler a nm b _=>match nm with|some _=>fU|none=>a.bind λe=>(oK e).bind λx=>(sF b).bind λs=>(HX s).bind λr=>(HY r).bind λt=>fR (x,t)
def J4(e:CQ h=fR (x,t)):∃c b d f g,h=.ExceptHandler (fR (.Name x c)) fU [.Return (fR (.Constant (.str t) b d)) f] g:=by obtain⟨v,nm,w,g⟩:=h;induction nm with|some _=>exact qG e|none=>refine hZ λi a=>bI e λn j e=>?_;obtain rfl:=j;refine bI e λy k e=>bI e λs l e=>bI e λr m e=>bI e λt' o e=>a ?_;clear a;cases e;refine hZ λi a=>gI (rS k) λc p=>?_;obtain rfl:=p;refine kS (PI o) λb d q=>?_;obtain rfl:=q;refine gI (acf m) λf u=>?_;obtain rfl:=u;refine a ?_;clear a;obtain rfl:=vL l;exact K8 _ _ _ _ _ rfl
def Cm(k:ii)(C:gG):List EH->Option f_
 |[]=>fU
 |h::r=>match CQ h with
  |none=>fU
  |some (x,t)=>if(x==("__debug__":f_))=fY/\k.lookup x=fR .globalImplicit then
   match lT K jK x with
   |some (fR c)=>match exmOne K (.ref C) c with|some fW=>fR t|some fY=>Cm k C r|none=>fU
   |_=>fU
   else fU
structure FA(T:ie):Prop where
 has:∀f,T.az f=fR .c->∃a F c g h i j k l b d e,(f==("__debug__":f_))=fY/\lT K jK f=fR (fR (.ref a))/\sf K (.ref a)=fW/\sW a F/\F.ps=[c]/\F.dv=[]/\F.k.lookup c=fR .local/\(c==("__debug__":f_))=fY/\F.body=[.Try [.Expr (.Call (.Name c g) [] [] h) i] (d::e) [] [] j,.Return (fR (.Constant (.str "done") b k)) l]/\∀C t,T.ce C=fR t->Cm F.k C (d::e)=fR t
def On{b a c}(d:∀e f,Q (.ret (.str t e)) {s with toks:=f}):gg (gk gh w) A (xl [.Return (fR (.Constant (.str t) b a)) c] env) Q E s:=by rw[zb,Sk];exact gf (gf (lk (gf (wpAny_Constant_str (gU (gU (d _ _)))))))
def J5(G:jM)(n:env.scope.kind=.function)(p:env.globals=jK)(u:∀x,k.lookup x=fR .globalImplicit->env.kindOf x=fR .globalImplicit)(D:∀b o,iI.get? b=fR o->B.get? b=fR o):∀{j:List EH} {s:gK},Cm k C j=fR t->yZ B y h (.ref C) z s.heap->(∀f F H,yZ B y h (.ref C) z f->s.heap.UpToSlots f->Q (.ret (.str t F)) (sU s f H))->gg (gk gh w) A (handleBy (.ref h) env j) Q E s:=by
 intro j;induction j with|nil=>intro _ e _ _;injection e|cons M r I=>
  intro s e d l;replace e:(match CQ M with
   |none=>fU
   |some (x,t)=>if(x==("__debug__":f_))=fY/\k.lookup x=fR .globalImplicit then
    match lT K jK x with
    |some (fR c)=>match exmOne K (.ref C) c with|some fW=>fR t|some fY=>Cm k C r|none=>fU
    |_=>fU
    else fU)=fR t:=e
  generalize g:CQ M=i;induction i with|none=>rw[g]at e;exact nS e|some V=>
   obtain⟨x,t'⟩:=V;refine PZ (J4 g) λN b O P R W=>?_;obtain rfl:=W;revert n p u D I d l e g;revert k C t B y h z Q A env E r s x t' N b O P R;refine @(vP E1 ?_);generalize gH.1.1.1.1.1=k,gH.1.1.1.1.2=C,gH.1.1.1.2=t,gH.1.1.2.1=B,gH.1.1.2.2=y,gH.1.2.1.1.1=h,gH.1.2.1.1.2=z,gH.1.2.1.2=Q,gH.1.2.2.1=A,gH.1.2.2.2=env,gH.2.1.1.1.1=E,gH.2.1.1.1.2=r,gH.2.1.1.2=s,gH.2.1.2.1=x,gH.2.1.2.2=t',gH.2.2.1.1.1=N,gH.2.2.1.1.2=b,gH.2.2.1.2=O,gH.2.2.2.1=P,gH.2.2.2.2=R;intro n p u D I d l e g;rw[g]at e;dsimp only at e;split at e
   .rename_i S;generalize m:lT K jK x=i;induction i with|none=>rw[m]at e;exact nS e|some v=>induction v with|none=>rw[m]at e;exact nS e|some c=>rw[m]at e;dsimp only at e;have T:∀b o,iI.get? b=fR o->s.heap.get? b=fR o:=λb o J=>d.1 b o (D b o J);generalize L:exmOne K (.ref C) c=i;induction i with|none=>rw[L]at e;exact nS e|some X=>rw[L]at e;refine gy d.there λZ1 Y a0=>?_;have a1:EW (gk gh w) s.heap (Fi (.ref h)) (.ref C):=a0▸(afO Y).andThen .now;have a2:=exm_one (λa o J=>T a o (G.bA a o J)) a1 L;refine wpAny_handleBy_cons (codeAny_handlers_test ?_) (by intro q;cases q);refine ED n (u x S.2) (GN G T p m ?_) S.1;refine a2.here ?_;induction X with|false=>exact I e d l|true=>obtain rfl:=(gz e).symm;refine codeAny_handlers_suite<|lands_againW d λf a3 a4=>On λF H=>l f F H a3 a4
   .exact nS e
def Yv(E:env.frame=fR h.objs.size)(F:∀b o,h.get? b=fR o->t.get? b=fR o)(O:h.objs.size<t.objs.size)(P:lU z l h)(Q:iI.objs.size<=h.objs.size)(R:xC (env::l) [] z t C y e x):∃j B q v,e=.ref q/\yZ B (env::l) q (.ref C) v x/\(∀b o,iI.get? b=fR o->B.get? b=fR o)/\∀k,yZ B (env::l) q (.ref C) v k->x.UpToSlots k->gS (iF l) [] z h j k/\gp j y k:=by
 refine pS R ?_;intro j B q v S T;obtain rfl:=S;refine pi T ?_;intro V W c X Y;refine CT j B q v rfl X c.base (λk n G=>?_);have H:=xU (l:=l) E;have A:=((gS.al F (jo O)).bS V).drop H (λb a0=>.inr (nM a0)) (own:=[]) (by simp);have I:h.objs.size<k.objs.size:=by obtain⟨a7,L,J,r,w,D,a8,a9⟩:=Y env ge;rw[E]at r;obtain rfl:=gz r;refine gI (G _ J w D) λa1 g=>iB g
 have K:∀b o,iR z b->h.get? b=fR o->b∉iF l->B.get? b=fR o:=λb o s d u=>by
  refine W b o s kK (F _ _ d) λm=>?_;rcases H b m with f|f
  .exact u f
  .exact absurd (iB d) (mf.mpr f)
 refine⟨⟨A.sub,A.new,λb o s u d=>?_,(λZ m=>nM m),jo I⟩,?_⟩
 .refine⟨λu=>n.1 b o (K b o s d u),?_⟩;by_cases M:b∈iF l
  .refine gI ((A.keep b o s u d).2) λa1 g=>?_;have a2:NF o:=by
    refine hZ λb0 N=>fE M λa3 m e=>?_;obtain⟨_,L,J,r,w,D,_⟩:=P a3 m;refine N ?_;clear N;rw[e]at r;obtain rfl:=gz r;rw[d]at w;obtain rfl:=gz w;exact D
   refine gI (G b _ g a2) λa4 a5=>⟨a4,a5⟩
  .exact⟨o.slots,n.1 b o (K b o s d M)⟩
 .exact{
   bX:=c.bX
   lim:=c.lim
   inj:=c.inj
   there:=λi b a e=>gI (c.there i b a e) λo f=>⟨o,n.1 _ _ f⟩
   new:=c.new
   aE:=λi o e=>(c.aE i o e).mono (jI.dN j) λZ Z Z Z f=>n.1 _ _ f
   base:=λb o e=>n.1 _ _ (c.base b o e)
   size:=gu Q (jo I)
   aP:=c.aP
   tab:=λp a6=>(c.tab p a6).mono (jI.dN j) (λZ e=>e) λZ e=>n.1 _ _ e}
noncomputable def nG(T:ie):ie:={T with az:=λx=>match T.az x with|some .c=>fU|g=>g}
def yb(e:(nG T).az x=fR g):T.az x=fR g/\g≠.c:=by unfold nG at e;dsimp only at e;generalize q:T.az x=a;induction a with|none=>rw[q]at e;injection e|some b=>rw[q]at e;cases b<;>cases e<;>exact⟨rfl,λc=>by injection c⟩
def NJ(h:k_ T):k_ (nG T):=⟨h.attr,h.bJ,λx v e=>h.val x v (yb e).1,λx f e=>h.fn x f (yb e).1,λx C f e=>h.cls x C f (yb e).1,λx nm e=>h.bi x nm (yb e).1⟩
def NH(h:qb T):qb (nG T):=⟨λx nm e=>h.bi x nm (yb e).1⟩
def NI:pP (nG T) k U x=pP T k U x:=by
 unfold pP nG;cases k.lookup x with|none=>rfl|some a=>
  induction a<;>try rfl
  dsimp only;cases T.az x with|none=>rfl|some g=>induction g<;>rfl
def Vm:xH T k U e y=.a\/xH T k U e=iA (nG T) (n+2) k U e:=by
 induction e using jQ with
 |Constant c a b=>exact .inr rfl
 |Name x p=>exact .inr NI.symm
 |Subscript o i p=>
  induction o using jQ with
  |Name x d=>induction i using jQ with|Constant c a b=>refine .inr<|(?_:fS (pP T k U x) (λv=>fS (sq c) λj=>iG v j)=fS (pP (nG T) k U x) (λv=>fS (sq c) λj=>iG v j));exact lE NI rfl|_=>exact .inl rfl
  |_=>exact .inl rfl
 |_=>exact .inl rfl
def Vo:∀{a:List gq} {y:H},jN a=fW->xI T k U a y=.a\/xI T k U a y=kO (nG T) (a.length+3) k U a y:=by
 intro a;induction a with|nil=>exact λZ=>.inr rfl|cons e r f=>
  intro y c;have d:jN [e]=fW/\jN r=fW:=by induction e using jQ<;>first|exact⟨rfl,c⟩|injection c
  have g:kO (nG T) ((e::r).length+3) k U (e::r)=fS (iA (nG T) (r.length+3) k U e) λv=>fS (kO (nG T) (r.length+3) k U r) λi=>fX (v::i):=by refine(?_:(if jN [e]then _ else gc)=_);exact lE (if_pos d.1) rfl
  refine lE g<|(?_:fS (xH T k U e) _ y=_\/fS (xH T k U e) _ y=_);rcases Vm (U:=U)with h|h
  .exact .inl (lW h)
  .refine lE (show r.length+3=r.length+1+2 from rfl) (rE h ?_);generalize q:xH T k U e y=j;induction j with|a=>exact .inl (lW q)|c C l=>right;unfold fS;exact lE q rfl|b v l=>
    refine lE (nW q) (lE (nW q) ?_);rcases f d.2 with b|b
    .exact .inl (lW b)
    .right;unfold fS;exact lE b rfl
def π(a:k_ T)(b:qb T)(c:pG)(G:jM)(e:sX)(F:FS T d)(n:Nat):SL (nG T) (d+1) n:=(FF (NJ a) (NH b) c G (show FS (nG T) d from F) (by intro _ _ _ _ _ _ _ _ _ _ _ _ _ _ _ _ _ f;exact absurd rfl (yb f).2) e n).l
def F8(e:o.data=.func h):sf [(f,o)] (.ref f)=fW:=by obtain⟨a,b,c,d⟩:=o;subst e;unfold sf;dsimp only;rw[show([(f,(⟨a,b,.func h,d⟩:iY))]:Frag).lookup f=fR ⟨a,b,.func h,d⟩ by refine lE jn ?_;rw[beq_self_eq_true]]
def ω(e:h.get? f=fR o):Frag.In [(f,o)] h:=λa o' b=>by
 rw[jn]at b;split at b;rename_i q;obtain rfl:=gz b;exact lE (eq_of_beq q)<|e;injection b
def Px{a:f_}{b}(L:LR z k U env s.heap)(g:k.lookup a=fR .local)(i:(a==("__debug__":f_))=fY)(j:s.heap.Ns env.locals m)(l:m a=fR (.ref f))(n:s.heap.get? f=fR o)(p:o.data=.func N)(h:xM B (.ref f) [] (λZ d=>∀D F,Q (.ret (.str "done" D)) {d with toks:=F}) (λe d=>gg (gk gh w) B (noteFrame e env) (λZ u=>gg (gk gh w) B (setFlight e fU) (λZ A=>gg (gk gh w) B (handleBy e env (t::y)) (λc C=>c≠.next/\Q c C) E A) E u) E d) s):gg (gk gh w) B (xl [.Try [.Expr (.Call (.Name a P) [] [] W) p3] (t::y) [] [] p4,.Return (fR (.Constant (.str "done") b p5)) p6] env) Q E s:=by
 revert z k U m o f y s P W p3 p4 N a L g i j l n p h;revert env B Q t E p5 p6 b;refine @(lx E1 ?_);generalize gw.1.1.1=env,gw.1.1.2=B,gw.1.2.1=Q,gw.1.2.2=t,gw.2.1.1=E,gw.2.1.2=p5,gw.2.2.1=p6,gw.2.2.2=b;intro z k U m o f y s P W p3 p4 N a L g i j l n p h;have G:env.kindOf a=fR .local:=by
  rcases L.aH a _ g with h|⟨h,_⟩
  .exact h
  .injection h
 rw[zb];refine gf (wpAny_Try_except ?_);rw[zb];refine gf (SP ?_ (NL L) rfl);rw[BH];refine gf (sR (BU L.kind G j l ?_) i);refine Sf rfl (keeps_K (F8 p)) (Jn ⟨ω n,?_⟩);refine sS (BL h λr d q=>?_);induction r with
 |error e=>refine jL q (λZ u H=>jL H (λZ A I=>jL I (λc C J=>?_) λZ Z x=>x) λZ Z x=>x) λZ Z x=>x;refine gP J ?_;intro K M;induction c with|next=>exact absurd rfl K|_=>exact gU M
 |ok c=>induction c with|ret v=>rw[Sl];refine gU<|gU<|On q|_=>exact q.elim
set_option backward.match.sparseCases true in
def abR{q:f_}(a5:k_ T)(a6:qb T)(b3:pG)(G:jM)(b4:xu)(b5:sX)(b6:FA T)(F:FS T d)(b7:k.lookup f=fR .globalImplicit)(b8:T.az f=fR .c)(a7:mK k L=fW)(b9:L.isCoroutine=fY)(c0:L.isGenerator=fY)(a8:ya as=fW)(a9:jN N=fW)(c1:N≠[])(c2:L.names.lookup W=fR .globalImplicit)(c3:T.az W=fR (.a a))(c4:qD k=fR (P,q))(S:iD (d+2) l k U env A z s.heap)(r:gp z y s.heap):gF l [] (gL l []) A (iu (.Call (.Name f p) [.Lambda as (.Call (.Name W hp) N [] cp) L lp] [] Z8) env) VR z s (lZ T (fS (xI T L.names (jW L.names U) N) λj=>T.fn a j) (iJ y (.f q))):=by
 revert k P z a5 a6 b3 G b4 b5 b6 F b7 b8 a7 b9 c0 a8 a9 c1 c2 c3 c4 S r;revert T d f L as N W a l U env A y p hp cp lp Z8 s q;refine @(vP E1 ?_);generalize gH.1.1.1.1.1=T,gH.1.1.1.1.2=d,gH.1.1.1.2=f,gH.1.1.2.1=L,gH.1.1.2.2=as,gH.1.2.1.1.1=N,gH.1.2.1.1.2=W,gH.1.2.1.2=a,gH.1.2.2.1=l,gH.1.2.2.2=U,gH.2.1.1.1.1=env,gH.2.1.1.1.2=A,gH.2.1.1.2=y,gH.2.1.2.1=p,gH.2.1.2.2=hp,gH.2.2.1.1.1=cp,gH.2.2.1.1.2=lp,gH.2.2.1.2=Z8,gH.2.2.2.1=s,gH.2.2.2.2=q;intro k P z a5 a6 b3 G b4 b5 b6 F b7 b8 a7 b9 c0 a8 a9 c1 c2 c3 c4 S r;have a0:fS (xI T L.names (jW L.names U) N) (λj=>T.fn a j) (iJ y (.f q))=.a\/fS (xI T L.names (jW L.names U) N) (λj=>T.fn a j) (iJ y (.f q))=fS (kO (nG T) (N.length+3) L.names (jW L.names U) N) (λj=>T.fn a j) (iJ y (.f q)):=by
  rcases Vo (U:=jW L.names U) a9 with h|h
  .exact .inl (lW h)
  .right;unfold fS;exact lE h rfl
 refine hZ λe7 K=>?_;obtain⟨i4,I,c5,i5,i6,i7,i8,i9,j0,b,j1,j2,e8,e9,f0,f1,d8,f2,c6,d9,e0,f3⟩:=b6.has f b8;refine K ?_;clear K;have e1:∀(c7:R V) (c8:List jB),fS (kO (nG T) (N.length+3) L.names (jW L.names U) N) (λj=>T.fn a j) (iJ y (.f q))=c7->I.body=c8->∀(Q:gv->gK->Prop) (E:gv->gK->Prop),(∀n u g M i D b0 c9 m,gS (iF l) [] z s.heap n u->(∀b o,u.get? b=fR o->g.get? b=fR o)->u.objs.size<g.objs.size->lU n l u->iI.objs.size<=u.objs.size->i.frame=fR u.objs.size->LR n I.k (I.ps.zip []) i g->g.Ns i.locals m->m c5=fR (.ref D)->g.get? D=fR b0->b0.data=.func c9->gp n (iJ y (.f q)) g->gJ (i::l) [] (xC (i::l) []) (xM (A.deeper i) (.ref D) []) (λz Z a b=>VR z a b) n (sU s g M) c7->gg (gk gh w) (A.deeper i) (xl c8 i) (λf s'=>Q (match f with|.ret v=>v|_=>.none) s') (λe s'=>gg (gk gh w) (A.deeper i) (Fc i e) (λZ d0=>E e d0) (λe2 d0=>E e2 d0) s') (sU s g M))->gg (gk gh w) A (iu (.Call (.Name f p) [.Lambda as (.Call (.Name W hp) N [] cp) L lp] [] Z8) env) Q E s:=λc7 c8 f4 f5 Q E a1=>by
  obtain rfl:=f4;obtain rfl:=f5;rw[BH];refine gf (Dk G S.L b7 e8 r e9 ?_);refine FK (.inl f0) rfl<|Bw<|P1 (l:=l) a7 a8 c4 b4 G S.L r λn u j3 D f6 j4 j5 j6 J d1 j7 e3 j8 f7 f8=>Jo ⟨G.bA.keeps d1.base,sS ?_⟩;have f9:∀Z4,ib (λv c=>∀z,VR z v c) (I.dv.drop ([uU D].length+I.dv.length-I.ps.length)) Z4->∀x v,(I.ps.zip ([]:List V)).lookup x=fR v->∃c,(I.ps.zip ([uU D]++Z4)).lookup x=fR c/\VR n v c:=λZ Z x v e=>by rw[Jb]at e;injection e
  refine Gl f1 G S.cx (S.fr.ext J) d1 (by refine lE d8 (lE f2 ?_);exact⟨ij _,ij _⟩) f9 _ λZ4 i g M m j9 b1 b2 O a2 a3 H X k0=>?_;have g0:g.CodeRec (.ref f6) q:=by refine hZ λe7 K=>yv f7 ?_;intro g1 o j t g2 g3 g4;refine K ?_;clear K;exact xW g1 o j t g2 (H _ _ g3) g4
  have a4:=P0 (s:=(sU s g M)) (NJ a5) (NH a6) G (show FS (nG T) d from F) (π a5 a6 b3 G b5 F (N.length+3)) a7 b9 c0 a8 a9 c1 c2 (by unfold nG;dsimp only;exact lE c3 rfl) b1.cx.dO b1.cx.dN (by have:=S.cx.depth;refine(?_:A.depth+1+1+4*(d+1)+4<=990);exact iX this) (by have:=S.cx.units;exact iX this) b1.fr b2 ((S.L.ext J kK λZ Z Z Z=>kK).ext (gS.al (fs:=[]) H (jo X)) kK λZ Z Z Z=>kK) (H _ _ e3) g0 f8;have g5:m c5=fR (.ref D):=by refine lE (a3 c5 c6) (lE d8 (lE aeF (lE Bt (lE jn ?_))));rw[beq_self_eq_true]
  exact a1 n u g M i D _ _ m J H X (S.fr.ext J) d1.size O b1.L a2 g5 (H _ _ e3) rfl b2 a4
 unfold lZ;rcases a0 with a0|a0
 .exact lE a0 trivial
 .refine lE a0 ?_;generalize e:fS (kO (nG T) (N.length+3) L.names (jW L.names U) N) (λj=>T.fn a j) (iJ y (.f q))=d2;induction d2 with|a=>trivial|b v g6=>refine λQ E a1=>e1 _ _ e e0 Q E λn u g M i D b0 c9 m J H X e4 Y3 O Y a2 a3 d3 d4 b2 a4=>Px Y c6 d9 a2 a3 d3 d4 (a4 _ _ λd5 e5 g7 k1 g8 g9 Z=>?_);exact λh0 d6=>a1 d5 e5 d6 _ (J.trans (((gS.al H (jo X)).trans g8).drop (xU O) (λb d7=>nM d7) (by simp))) g9 (.dP _ _)|c C g6=>dsimp only;generalize h1:T.ce C=d2;induction d2 with|none=>trivial|some t=>refine λQ E a1=>e1 _ _ e e0 Q E λn u g M i D b0 c9 m J H X e4 Y3 O Y a2 a3 d3 d4 b2 a4=>Px Y c6 d9 a2 a3 d3 d4 (a4 _ _ λe2 e5 g7 R=>?_);refine pS (Yv O H X e4 Y3 R) λd5 B k2 k3 h2 h3=>?_;obtain rfl:=h2;refine iT h3 ?_;intro h4 d7 K;refine wpAny_looks_onW (EB S.cx.dO) O h4 λk4 h5 h6=>wpAny_landsW h5 λk5 h7 h8=>J5 G Y.kind Y.az (λx h9=>C_ (s:={s with heap:=g}) Y h9) d7 (f3 C t h1) h7 λe6 h0 d6 i0 i1=>⟨by simp,?_⟩;refine gP (K e6 i0 ((h6.trans h8).trans i1)) λi2 i3=>a1 d5 e6 d6 _ (J.trans i2) i3 (.dP _ _)
def Py(h:k_ T)(i:qb T)(j:pG)(G:jM)(m:xu)(o:sX)(q:FA T)(F:FS T d):Cc T (d+2):=by
 intro n A l k U env f p R t V W Z8 z y s u v S r;induction t using jQ with
 |Call w X x Y=>
  induction w using jQ with
  |Name B a0=>
   induction x with|cons _ _=>trivial|nil=>
    unfold GF;dsimp only;split
    .rename_i b;refine gP b ?_;intro b C;simp only[lr,IM,Bm,List.isEmpty_eq_false_iff]at b;refine hZ λa1 e=>gP b ?_;intro D E;refine gP D ?_;intro H I;refine gP H ?_;intro J K;refine gP J ?_;intro L M;obtain⟨N,O⟩:=L;refine e ?_;clear e;generalize P:T.az B=c;induction c with|none=>trivial|some g=>
      induction g with
      |a a=>generalize Q:qD k=c;induction c with|none=>trivial|some a2=>exact abR h i j G m o q F u v N O M K I (by simpa using E) C P Q S r
      |_=>trivial
    .trivial
  |_=>trivial
 |_=>trivial
def rb(xs:Array Nat):Prop:=xs.toList.Pairwise (·<·)
def vT(h:rb xs)(b:i<j)(a:j<xs.size):xs.getD i 0<xs.getD j 0:=by have c:=List.pairwise_iff_getElem.mp h i j (by simpa using Jg b a) (by simpa using a) b;simpa[wm,Jg b a,a]using c
def XX(h:rb xs):∀(d a b:Nat),b<=xs.size->a<=b->b<=a+d->(∀i<a,xs.getD i 0<j)->(∀i,b<=i->i<xs.size->j<=xs.getD i 0)->(Jx xs j d a b<=xs.size/\(∀i<Jx xs j d a b,xs.getD i 0<j)/\∀i,Jx xs j d a b<=i->i<xs.size->j<=xs.getD i 0):=by
 intro t;induction t with|zero=>intro a b c l m n o;have:=uO l m;subst this;exact iy c n o|succ d r=>
  intro a b c l m n o;rw[show Jx xs j (d+1) a b=if a<b then _ else a from rfl];by_cases p:a<b
  .refine lE (if_pos p) ?_;have s:a<=(a+b)/2:=(Nat.le_div_iff_mul_le gO).mpr (iX l);have f:(a+b)/2<b:=Nat.div_lt_of_lt_mul (iX p);by_cases g:xs.getD ((a+b)/2) j<j
   .refine lE (if_pos g) ?_;have k:xs.getD ((a+b)/2) 0<j:=by
     simp only[wm,show(a+b)/2<xs.size from(gu f c),dif_pos]at g|-;exact g
    refine r _ b c f (kZ s m) (λi q=>?_) o;by_cases e:i=(a+b)/2;exact lE e<|k;exact Jg (vT h (Je (Jc q) e) (gu f c)) k
   .refine lE (if_neg g) ?_;have k:j<=xs.getD ((a+b)/2) 0:=by
     simp only[wm,show(a+b)/2<xs.size from(gu f c),dif_pos]at g|-;exact r_ g
    refine r a _ (gu (jo f) c) s (Jc (pU f m)) n (λi q u=>?_);by_cases e:i=(a+b)/2;exact lE e<|k;exact jo (yR k (vT h (Je q (wS e)) u))
  .refine lE (if_neg p) ?_;have:=uO l (r_ p);subst this;exact iy c n o
def KM(h:rb xs)(j:Nat):oT xs j<=xs.size/\(∀i<oT xs j,xs.getD i 0<j)/\∀i,oT xs j<=i->i<xs.size->j<=xs.getD i 0:=XX h _ _ _ (ij _) (jT _) (iP _ _) (λi a=>absurd a (Bu _)) λi b c=>absurd c (mf.mpr b)
def FH(h:rb xs)(a:k<=xs.size)(b:∀i<k,xs.getD i 0<j)(c:∀i,k<=i->i<xs.size->j<=xs.getD i 0):oT xs j=k:=by
 refine iT (KM h j) λd e f=>?_;rcases Nat.lt_trichotomy (oT xs j) k with q|q|q
 .exact absurd (b _ q) (mf.mpr (f _ (ij _) (gu q a)))
 .exact q
 .exact absurd (e _ q) (mf.mpr (c _ (ij _) (gu q d)))
def XW(h:rb xs)(e:xs[i]?=fR j):oT xs j=i/\oT xs (j+1)=i+1:=by
 have c:=(adU.mp e).1;have b:xs.getD i 0=j:=by simp[wm,c,(adU.mp e).2]
 constructor
 .refine FH h (jo c) (λk a=>b▸vT h a c) λk a d=>?_;by_cases q:k=i;exact lE q (lE b (ij _));exact jo (b▸vT h (Je a (wS q)) d)
 .refine FH h c (λk a=>?_) λk a d=>?_
  .by_cases q:k=i;exact lE q (lE b (nR _));exact ru (b▸vT h (Je (Jc a) q) c)
  .exact b▸vT h a d
def ϣ(h:rb xs)(o:xs[oT xs j]?≠fR j):rb (Jz xs (oT xs j) j):=by
 refine iT (KM h j) λr s f=>?_;generalize oT xs j=p at r s f o;unfold rb at*;rw[SetTable.toList_insertAt];have g:∀i,i<xs.size->xs.toList[i]?=fR (xs.getD i 0):=λi v=>by simp[wm,v]
 refine List.pairwise_append.mpr (iy (h.sublist (aeK ..)) (qr.mpr ⟨λw d=>?_,h.sublist (List.drop_sublist ..)⟩) (λx y w d=>?_))
 .refine gE d λk a=>?_;rw[IV]at a;have b:p+k<xs.size:=by simpa using(uL.mp a).1
  rw[g _ b]at a;have e:=gz a;have c:=f (p+k) (pz _ _) b;rw[e]at c;rcases Nat.lt_or_eq_of_le c with q|q
  .exact q
  .exfalso;subst q;by_cases t:k=0;subst t;refine o<|rE rq (lE (g p b) ?_);exact congrArg fR e;exact uP _ (yR (f p (ij _) (iX b)) (e▸vT h (Rf (Nat.pos_of_ne_zero t)) b))
 .refine gE y λk a=>?_;have n:k<p:=by
   have:=(uL.mp a).1;simp at this;lia
  rw[List.getElem?_take_of_lt n,g k (gu n r)]at a;have e:=gz a;have c:=s k n;rw[e]at c;rcases gX.mp d with rfl|d
  .exact c
  .refine gE d λm l=>?_;rw[IV]at l;have b:p+m<xs.size:=by simpa using(uL.mp l).1
   rw[g _ b]at l;have u:=f (p+m) (pz _ _) b;rw[(gz l)]at u;exact gu c u
def Ϥ(n:Nat):rb (Array.range n):=by unfold rb;refine lE Array.toList_range<|aeC
def qa(Y9:Bool)(t:pB):Prop:=rb t.place/\t.led=Y9
def abM(Y9:Bool):qa Y9 (.fresh 0 0 Y9):=⟨.nil,rfl⟩
def DI(h:qa Y9 t)(n:Nat):qa Y9 (t.standIn n):=⟨Ϥ n,h.2⟩
def abO(h:qa Y9 t)(n:Nat):qa Y9 (t.orStandIn n):=by
 unfold afC;split;exact h;exact DI h n
def υ{t:pB}(h:∀i,t.slot j≠.live i):t.place[oT t.place j]?≠fR j:=λe=>by refine h (oT t.place j) ?_;unfold afE;dsimp only;refine lE e ?_;simp
def KC(t:pB)(p:Jw):(t.advance p).dummy=p.dummy:=by unfold SetTable.advance;split<;>rfl
def MB(t:pB)(f:Nat->Int)(h:Int)(n:Nat)(p:Jw):xg t f h (n+1) p=(match t.slot p.j with|.empty=>fR (.empty p.j p.dummy)|.dummy=>xg t f h n (t.advance {p with dummy:=fR p.j})|.live i=>if f i==h then fR (.candidate p.j i (t.advance p))else xg t f h n (t.advance p)):=rfl
def ϒ:∀(g:Nat) (p:Jw) (j:Nat) (a:Option Nat),(∀d,p.dummy=fR d->t.slot d=.dummy)->xg t f h g p=fR (.empty j a)->t.slot j=.empty/\∀d,a=fR d->t.slot d=.dummy:=by
 intro m;induction m with|zero=>intro _ _ _ _ e;injection e|succ g k=>
  intro p j a l e;rw[MB]at e;generalize b:t.slot p.j=n;induction n with|empty=>rw[b]at e;cases e;exact⟨b,l⟩|dummy=>rw[b]at e;refine k _ j a (λd c=>?_) e;rw[KC]at c;obtain rfl:=gz c;exact b|live i=>
   rw[b]at e;dsimp only at e;split at e;cases e;exact k _ j a (λd c=>l d (by rwa [KC]at c)) e
def H7{t:pB}(e:t.freeSlot h=fR (j,d)):∀i,t.slot j≠.live i:=by unfold afy at e;generalize a:t.probe (λZ=>h+1) h (t.probeStart h)=c;induction c with|none=>rw[a]at e;injection e|some m=>rw[a]at e;induction m with|candidate _ _ _=>exact nS e|empty f g=>refine gP (ϒ _ _ _ _ (λd k=>by injection k) a) λl n=>?_;induction g with|none=>cases e;intro i q;have q:t.slot f=.live i:=q;rw[l]at q;cases q|some b=>cases e;intro i q;have q:t.slot b=.live i:=q;rw[n b rfl]at q;cases q
def abN{Y9:Bool}{t:pB}(h:qa Y9 t)(b:Array (Int×gv))(a:Int)(x:gv):qa Y9 (BN t b a x).2.1:=by unfold BN;generalize e:t.freeSlot a=c;induction c with|some p=>obtain⟨d,f⟩:=p;exact abO (t:=(t.put d).1) ⟨ϣ h.1 (υ (H7 e)),h.2⟩ _|none=>exact DI h _
def abP(h:qa Y9 t)(e:t.relaid x n=fR (t',o)):qa Y9 t':=by refine bI e λY5 Z e=>?_;cases e;refine⟨?_,h.2⟩;refine(?_:List.Pairwise _ _);refine lE Ja ?_;rw[QU];refine agy _ (λa j c b d k f=>?_) aeC;refine mI d λZ Z g=>?_;obtain rfl:=g;refine mI f λZ Z i=>?_;obtain rfl:=i;exact c
def abQ(h:qa Y9 t)(a:Array (Int×gv))(n:Nat):qa Y9 (vb t a n).2.1:=by
 unfold vb;generalize e:t.relaid (a.map (·.1)) n=b;induction b with|none=>exact DI h _|some p=>
  obtain⟨t',o⟩:=p;dsimp only;split;exact abP h e;exact DI h _
theorem B7[DecidableEq f]:∀(l u:List f),l.Nodup->(∀x∈l,x∈u)->l.length<=u.length|[],_,_,_=>jT _|x::r,u,a,h=>by rw[jk]at a;have b:=h x ge;have g:=B7 r (u.erase x) a.2 λc d=>(aex (λe:c=x=>a.1 (by refine rE e<|d))).mpr (h c (.tail _ d));rw[aen b]at g;have:=aeq b;refine lE qn ?_;lia
noncomputable def qg(a:Nat):Nat->Nat×Nat->Nat×Nat|0,p=>p|n+1,p=>qg a n (BC a p.1 p.2)
def J8(a:Nat):∀(m n:Nat) (p:Nat×Nat),qg a (m+n) p=qg a n (qg a m p):=by intro b;induction b with|zero=>intro n p;rw[Jk];rfl|succ m c=>intro n p;rw[aeW];exact c n _
def K0(a:Nat):∀(n:Nat) (p:Nat×Nat),(qg a n p).2=p.2/32^n:=by intro b;induction b with|zero=>exact λp=>(Nat.div_one _).symm|succ n c=>refine λp=>(?_:(qg a n _).2=_);rw[c];refine(?_:p.2/32/32^n=_);rw[Nat.div_div_eq_div_mul,Nat.pow_succ,Nat.mul_comm]
def J9:∀(n:Nat) (p:Nat×Nat),p.1<t+1->(qg t n p).1<t+1:=by intro a;induction a with|zero=>exact λZ h=>h|succ n b=>exact λp Z=>b _ (Jj _ (Ez _))
noncomputable def uz(a:Nat):Nat->Nat->Nat|0,i=>i|n+1,i=>uz a n ((i*5+1)% (a+1))
def K1(a:Nat):∀(n i:Nat),(qg a n (i,0)).1=uz a n i:=by intro b;induction b with|zero=>exact λZ=>rfl|succ n c=>refine λi=>(?_:(qg a n ((i*5+1+0/32)% (a+1),0/32)).1=_);rw[Nat.zero_div,aeP];exact c _
def rN(m:Nat):Prop:=m=7\/m=31\/m=127
def HI:∀{a i:Nat},uz h (a+b) i=uz h b (uz h a i):=by intro a;induction a with|zero=>rw[Jk];exact λ{_}=>rfl|succ n c=>rw[aeW];exact c
noncomputable def NU(a:Nat):Nat->Nat->List Nat|0,_=>[]|n+1,i=>i::NU a n ((i*5+1)% (a+1))
theorem Α:∀{n i j:Nat},j∈NU t n i->∃m<n,uz t m i=j
 |n+1,i,j,h=>by
  rcases gX.mp h with rfl|h
  .exact gx 0 (Ez _) rfl
  .refine gy (Α h) λm a e=>gx (m+1) (Nat.succ_lt_succ a) e
def Vh(a:Nat):Bool:=Rd (uz a (a+1) 0) 0&&(me (a+1)).all λj=>(NU a (a+1) 0).any λx=>Rd x j
def Nu(h:rN t):Vh t=fW:=by rcases h with rfl|rfl|rfl<;>decide+kernel
def Mu(h:rN t)(a:j<t+1):∃m<t+1,uz t m 0=j:=by refine gy (wu.mp (Bp.mp (uI.mp (Nu h)).2 j (yQ.mpr a))) λx b c=>?_;obtain rfl:=aeQ c;exact Α b
def H9(h:rN t)(d:i<t+1)(f:j<t+1):∃m<t+1,uz t m i=j:=by
 refine gy (Mu h d) λp g b=>gy (Mu h f) λq k c=>?_;rcases Jd p q with l|l
 .refine gx (q-p) (by omega) ?_;refine lE b.symm (lE HI.symm ?_);rw[aeO l];exact c
 .by_cases e:p=q;exact gx 0 (Ez _) (b.symm.trans (e▸c));refine gx (t+1-p+q) (by omega) ?_;rw[HI,<-b,<-HI (a:=p),aeO (jo g),aeQ (uI.mp (Nu h)).1];exact c
def Lv(h:rN t)(a:i<t+1)(b:x<2^64)(c:j<t+1):∃k<t+14,(qg t k (i,x)).1=j:=by
 have d:(qg t 13 (i,x)).2=0:=by rw[K0];exact Nat.div_eq_of_lt (Jg b gO)
 refine gy (H9 h (J9 13 (i,x) a) c) λm f g=>gx (13+m) (iX f) ?_;have e:qg t 13 (i,x)=((qg t 13 (i,x)).1,0):=rE d rfl;rw[J8];refine lE e ?_;rw[K1];exact g
def aau{t:pB}(a:t.dummies=#[])(j:Nat):t.slot j=.empty\/(∃i,t.slot j=.live i)/\j∈t.place.toList:=by
 unfold afE;by_cases e:t.place[oT t.place j]?=fR j;refine .inr ⟨⟨_,if_pos (by refine lE e ?_;simp)⟩,?_⟩;exact Eu (by rw[rq];exact e)
 .have:¬((t.place[oT t.place j]?==fR j)=fW):=by simpa using e
  refine lE (if_neg this) (lE a ?_);exact .inl rfl
noncomputable def HH(t:pB)(p:Nat×Nat):Jw:={j:=p.1,more:=uT t.mask p.1-p.1,i:=p.1,perturb:=p.2,dummy:=fU}
theorem J1(b:t.dummies=#[]):∀(more j a:Nat) (p:Nat×Nat),(∃e,xg t (λZ=>h+1) h (a+more+1) {j:=j,more:=more,i:=p.1,perturb:=p.2,dummy:=fU}=fR (.empty e fU))\/(j∈t.place.toList/\xg t (λZ=>h+1) h (a+more+1) {j:=j,more:=more,i:=p.1,perturb:=p.2,dummy:=fU}=xg t (λZ=>h+1) h a (HH t (BC t.mask p.1 p.2)))
 |more,j,a,p=>by
  rw[MB];rcases aau b j with e|⟨⟨i,e⟩,m⟩
  .exact lE e<|.inl ⟨j,rfl⟩
  .refine lE e ?_;dsimp only;refine lE (if_neg (by simp;exact ma (qm _))) ?_;cases more with|zero=>refine .inr ⟨m,?_⟩;rfl|succ more=>
    have c:t.advance {j:=j,more:=more+1,i:=p.1,perturb:=p.2,dummy:=fU}={j:=j+1,more:=more,i:=p.1,perturb:=p.2,dummy:=fU}:=rfl;refine lE c ?_;rcases J1 b more (j+1) a p with⟨d,q⟩|⟨_,q⟩
    .exact .inl ⟨d,q⟩
    .exact .inr ⟨m,q⟩
def J0(f:t.dummies=#[]):∀(m a:Nat) (p:Nat×Nat),10*m<=a->(∃e,xg t (λZ=>h+1) h a (HH t p)=fR (.empty e fU))\/∀k<m,(qg t.mask k p).1∈t.place.toList:=by
 intro g;induction g with|zero=>exact λZ Z Z=>.inr λk c=>absurd c (Bu _)|succ m i=>
  intro a p j;have l:uT t.mask p.1-p.1<=9:=by unfold uT;split<;>lia
  obtain⟨b,d⟩:∃b,a=b+(uT t.mask p.1-p.1)+1:=⟨a-(uT t.mask p.1-p.1)-1,by lia⟩;rcases J1 f (uT t.mask p.1-p.1) p.1 b p with⟨e,q⟩|⟨n,q⟩
  .exact .inl ⟨e,by refine lE d<|q⟩
  .rcases i b (BC t.mask p.1 p.2) (lG l j (gC d))with⟨e,o⟩|r
   .exact .inl ⟨e,by refine lE d<|q.trans o⟩
   .refine .inr λk c=>?_;induction k with|zero=>exact n|succ k=>exact r k (Ey c)
def H8{t:pB}(a:t.dummies=#[])(b:rN t.mask)(c:t.place.size<=t.mask)(h:Int):∃j,t.freeSlot h=fR (j,fY):=by
 have d:oU h<2^64:=by unfold oU;have:=QC h (show(0:Int)<2^64 by decide);have:=QD h (show(2^64:Int)≠0 by decide);lia
 have f:t.probeStart h=HH t (oU h% (t.mask+1),oU h):=rfl;unfold afy SetTable.probe;refine lE f ?_;rcases J0 a (t.mask+15) (10*ET t.mask) (oU h% (t.mask+1),oU h) (ij _)with⟨e,q⟩|r
 .exact⟨e,lE q rfl⟩
 .exfalso;have:=B7 (me (t.mask+1)) t.place.toList List.nodup_range λj g=>by
   refine gy (Lv b (Jj (oU h) (Ez _)) d (yQ.mp g)) λk i e=>?_;have:=r k (pA i);rw[e]at this;exact this
  rw[QR,kq]at this;exact uQ this c
def R0:∀(m a:Nat) (p:Nat×Nat),m<=a->(∃j,BB t Y5 a p.1 p.2=fR j/\(Y5.getD j (fR 0)).isNone=fW)\/∀k<m,¬(Y5.getD (qg t k p).1 (fR 0)).isNone=fW:=by
 intro m;induction m with|zero=>exact λZ Z Z=>.inr λk b=>absurd b (Bu _)|succ m d=>
  intro a p h;induction a with|zero=>exact absurd h (Rg _)|succ a _=>
  have c:BB t Y5 (a+1) p.1 p.2=(match(me (uT t p.1+1-p.1)).find? λk=>(Y5.getD (p.1+k) (fR 0)).isNone with|some k=>fR (p.1+k)|none=>BB t Y5 a (BC t p.1 p.2).1 (BC t p.1 p.2).2):=rfl
  generalize e:((me (uT t p.1+1-p.1)).find? λk=>(Y5.getD (p.1+k) (fR 0)).isNone)=q at c;induction q with|some k=>exact .inl (gx (p.1+k) c (QP (p:=λk=>(Y5.getD (p.1+k) (fR 0)).isNone) e))|none=>
   rcases d a (BC t p.1 p.2) (Ey h)with⟨j,q,f⟩|r
   .exact .inl (gx j (c.trans q) f)
   .refine .inr λk b=>?_;induction k with|succ k=>exact r k (Ey b)|zero=>
     have:=aej.mp e 0 (yQ.mpr (by unfold uT;split<;>lia));exact this
theorem Vj:∀{l:List (Option Nat)},(∀x∈l,x.isNone=fY)->(l.filterMap id).length=l.length|[],_=>rfl|none::r,h=>by have:=h fU ge;injection this|some x::r,h=>lE (QN (f:=id) rfl) (lE qn (lE qn (lE (Vj λa b=>h a (.tail _ b)) rfl)))
structure xA(a:Nat)(Y5:Array (Option Nat))(k:Nat):Prop where
 size:Y5.size=a+1
 perm:(Y5.toList.filterMap id).Perm (me k)
def R1(o:xA t Y5 k)(m:rN t)(n:k<=t)(h:Int):∃j,BB t Y5 (ET t) (oU h% (t+1)) (oU h)=fR j/\xA t (Y5.setIfInBounds j (fR k)) (k+1):=by
 have p:oU h<2^64:=by unfold oU;have:=QC h (show(0:Int)<2^64 by decide);have:=QD h (show(2^64:Int)≠0 by decide);lia
 have g:=o.perm.length_eq;rw[QR]at g;have c:=o.size;rcases R0 (t+15) (ET t) (oU h% (t+1),oU h) (ij _)with⟨j,e,b⟩|r
 .refine⟨j,e,by refine lE Array.size_setIfInBounds ?_;exact c,?_⟩;have a:j<Y5.size:=by
   apply QB;intro q;rw[IL,Qt (r_ q)]at b;injection b
  have i:Y5.toList[j]?=fR fU:=by rw[IL,yF a]at b;refine lE rq (lE (yF a) ?_);generalize q:Y5[j]=s;induction s with|none=>rfl|some x=>rw[q]at b;injection b
  refine lE Array.toList_setIfInBounds ?_;have d:j<Y5.toList.length:=lE kq<|a;have u:Y5.toList=Y5.toList.take j++fU::Y5.toList.drop (j+1):=by
   have:=Ra j Y5.toList;rw[Eo d]at this;rw[oO d]at i;rw[gz i]at this;exact this.symm
  refine lE (List.set_eq_take_append_cons_drop .. |>.trans (if_pos d)) (lE aeg (lE (QN (f:=id) rfl) ?_));have l:=o.perm;rw[u,aeg,aeh rfl]at l;refine lE aeD<|QV.trans ((IO _ l).trans (List.perm_append_singleton _ _).symm)
 .exfalso;have:=Vj λx v=>by
   refine gE v λj a=>?_;have w:j<Y5.size:=by
    have:=(uL.mp a).1;rwa [kq]at this
   refine gy (Lv m (Jj (oU h) (Ez _)) p (show j<t+1 from(gu w (gC c)))) λy z e=>?_;have:=r y (pA z);rw[e,IL,<-rq,a]at this;induction x with|none=>exact absurd rfl this|some _=>rfl
  have A:Y5.toList.length=Y5.size:=kq;rw[A,g]at this;exact uQ (gu (gC c.symm) (gC this.symm)) n
def Q9(d:rN t):∀(a:List Int) (k:Nat) (Y5:Array (Option Nat)),xA t Y5 k->k+a.length<=t+1->∃c,a.foldl (λ(Z7:Option (Array (Option Nat)×Nat)) h=>do
 let(Y5,k)<-Z7;let j<-BB t Y5 (ET t) (oU h% (t+1)) (oU h)
 pure (Y5.setIfInBounds j (fR k),k+1)) (fR (Y5,k))=fR (c,k+a.length)/\xA t c (k+a.length):=by
 intro f;induction f with|nil=>exact λk Y5 o Z=>gx Y5 rfl o|cons h r g=>intro k Y5 o b;rw[qn]at b;refine gy (R1 o d (iX b) h) λj e o'=>gy (g (k+1) _ o' (iX b)) λi l m=>gx i ?_ (by refine lE qn (lE (show k+(r.length+1)=k+1+r.length from(by simp+arith)) ?_);exact m);refine lE QQ (lE qn (lE (show k+(r.length+1)=k+1+r.length from(by simp+arith)) (rE l ?_)));congr 1;refine(?_:(do let j<-BB t Y5 (ET t) (oU h% (t+1)) (oU h);pure (Y5.setIfInBounds j (fR k),k+1))=_);exact lE e rfl
def R4(a:Nat):xA a (Ef (a+1) fU) 0:=by
 refine⟨Qx,?_⟩;have:(Ef (a+1) (fU:Option Nat)).toList.filterMap id=[]:=by refine lE Array.toList_replicate<|List.filterMap_eq_nil_iff.mpr λx b=>(List.mem_replicate.mp b).2
 exact lE this<|.nil
def Q8(b:rN h)(a:Array Int)(c:a.size<=h+1):∃Y5,afB h a=fR Y5/\xA h Y5 a.size:=by refine gy (Q9 b a.toList 0 _ (R4 h) (by refine lE kq ?_;exact iX c)) λd e o=>?_;rw[kq,Jk]at e o;refine gx d ?_ o;unfold afB;rw[<-adT];exact lE e rfl
def ϡ{t:pB}(b:afD y-1=m)(c:rN m)(d:h.size<=m+1):∃t' o,t.relaid h y=fR (t',o)/\t'.mask=m/\t'.dummies=#[]/\t'.plain=t.plain/\t'.place.size=h.size/\o.toList.Perm (me h.size):=by
 refine gy (Q8 c h d) λY5 e a=>?_;have f:((me (m+1)).filterMap λj=>(Y5.getD j fU).map λk=>(j,k)).map (·.2)=Y5.toList.filterMap id:=by refine rE (ag2 Y5) (lE List.filterMap_filterMap (lE List.map_filterMap (lE a.size ?_)));congr 1;funext j;refine lE IL ?_;cases Y5[j]? with|none=>rfl|some x=>induction x<;>rfl
 have p:=a.perm;rw[<-f]at p;have g:t.relaid h y=fR ({mask:=m,place:=(((me (m+1)).filterMap λj=>(Y5.getD j fU).map λk=>(j,k)).map (·.1)).toArray,dummies:=#[],finger:=t.finger,led:=t.led,moves:=t.movedTo m,plain:=t.plain},(((me (m+1)).filterMap λj=>(Y5.getD j fU).map λk=>(j,k)).map (·.2)).toArray):=by unfold SetTable.relaid SetTable.laid;exact lE b (lE e rfl)
 refine Gy _ _ g rfl rfl rfl ?_ (by refine lE Ja ?_;exact p);have:=p.length_eq;rw[iq,QR]at this;refine lE lz ?_;rw[iq];exact this
structure t_(t:pB)(n:Nat):Prop where
 cJ:t.dummies=#[]
 dN:t.plain=fW
 size:t.place.size=n
 cg:(t.mask=7/\n<=4)\/(t.mask=31/\n<=18)\/(t.mask=127/\n<=76)
def aaA(Y9:Bool):t_ (.fresh 0 0 Y9) 0:=⟨rfl,rfl,rfl,.inl ⟨rfl,by decide⟩⟩
structure Cb(t:pB)(n:Nat):Prop where
 cJ:t.dummies=#[]
 a:t.plain=fW
 size:t.place.size=n
 cg:(t.mask=7/\n<=5)\/(t.mask=31/\n<=19)\/(t.mask=127/\n<=77)
def t_.dO(h:t_ t n):rN t.mask/\n+1<=t.mask:=by
 rcases h.cg with⟨a,b⟩|⟨a,b⟩|⟨a,b⟩
 .exact⟨.inl a,(kZ (gC a.symm) b)⟩
 .exact⟨.inr (.inl a),(kZ (gC a.symm) b)⟩
 .exact⟨.inr (.inr a),(kZ (gC a.symm) b)⟩
def N0(xs:Array Nat)(p j:Nat):(Jz xs p j).size=xs.size+1:=by
 have:=(afA xs p j).length_eq;rw[kq,kq,adV]at this;exact this
def aaB(h:t_ t y.size)(c:Int)(x:gv):Cb (BN t y c x).2.1 (y.size+1)/\(BN t y c x).2.2=(fY,fY):=by
 refine gP h.dO λi d=>gI (H8 h.cJ i (by refine lE h.size ?_;exact jo d) c) λj e=>?_;have k:(Jz y (oT t.place j) (c,x)).size=y.size+1:=by
  have:=(afA y (oT t.place j) (c,x)).length_eq;rw[kq,kq,adV]at this;exact this
 have f:(t.put j).1.place.size=y.size+1:=by refine(?_:(Jz _ _ _).size=_);rw[N0];exact lE h.size rfl
 have g:(t.put j).1.dummies=#[]:=by refine(?_:(if afz t.dummies j then _ else t.dummies)=#[]);refine lE h.cJ ?_;have:afz #[] j=fY:=rfl;exact lE this rfl
 have l:(t.put j).1.fits (y.size+1)=fW:=by unfold afx Jy;refine lE f (lE g ?_);simp;exact d
 unfold BN;refine lE e ?_;dsimp only;have m:(t.put j).2=oT t.place j:=rfl;refine lE m (lE k ?_);unfold afC;refine lE l<|⟨⟨g,h.dN,f,?_⟩,rfl⟩;rcases h.cg with⟨a,b⟩|⟨a,b⟩|⟨a,b⟩
 .exact .inl ⟨a,(oQ b)⟩
 .exact .inr (.inl ⟨a,(oQ b)⟩)
 .exact .inr (.inr ⟨a,(oQ b)⟩)
def aaD(h:Cb t n)(c:t.tooFull=fY):t_ t n:=by
 refine⟨h.cJ,h.a,h.size,?_⟩;unfold afF Jy at c;rw[h.size,h.cJ]at c;simp at c;rcases h.cg with⟨a,b⟩|⟨a,b⟩|⟨a,b⟩
 .exact .inl ⟨a,by rw[a]at c;lia⟩
 .exact .inr (.inl ⟨a,by rw[a]at c;lia⟩)
 .exact .inr (.inr ⟨a,by rw[a]at c;lia⟩)
def aaC{t:pB}(h:Cb t x.size)(c:t.tooFull=fW)(y:x.size<=64):t_ (vb t x (uS x.size)).2.1 x.size:=by
 unfold afF Jy at c;rw[h.size,h.cJ]at c;simp at c;have l:uS x.size=x.size*4:=if_neg (by lia);refine lE l ?_;have n:∃m,afD (x.size*4)-1=m/\((m=31/\x.size<=18)\/(m=127/\x.size<=76)):=by
  rcases h.cg with⟨a,b⟩|⟨a,b⟩|⟨a,b⟩
  .rw[a]at c;have:x.size=5:=by lia
   refine lE this<|gx 31 (by decide+kernel) (.inl ⟨rfl,by decide⟩)
  .rw[a]at c;have:x.size=19:=by lia
   refine lE this<|gx 127 (by decide+kernel) (.inr ⟨rfl,by decide⟩)
  .rw[a]at c;lia
 refine gy n ?_;intro m p d;have q:rN m:=by
  rcases d with⟨a,_⟩|⟨a,_⟩
  .exact .inr (.inl a)
  .exact .inr (.inr a)
 have i:(x.map (·.1)).size=x.size:=Qw;refine acy (ϡ (t:=t) p q (by refine lE i ?_;rcases d with⟨a,b⟩|⟨a,b⟩<;>lia)) λt' o e j k s f g=>?_;rw[i]at f g;have u:coversAll o x.size=fW:=List.isPerm_iff.mpr g;have v:(o.filterMap (x[·]?)).size=x.size:=by refine rE kq (lE Array.toList_filterMap (lE ((g.filterMap _).length_eq) ?_));rw[ag2];exact lE kq rfl
 have w:t'.fits x.size=fW:=by unfold afx Jy;refine lE f (lE k (lE j ?_));simp;rcases d with⟨a,b⟩|⟨a,b⟩<;>lia
 have r:(vb t x (x.size*4)).2.1=t':=by unfold vb;refine lE e ?_;dsimp only;exact lE v (lE u (lE w rfl))
 refine lE r<|⟨k,s.trans h.a,f,.inr ?_⟩;refine lE j<|d
structure rF(Y9:Bool)(Z6:List Int)(a:Array (Int×gv))(t:pB):Prop where
 el:ElemsOf (ot gh w) a.toList
 pm:∃b,(a.toList.map (·.2)).Perm b/\sK b Z6
 lt:a.size<SG
 fits:t.fits a.size=fW
 tok:qa Y9 t
 bU:t_ t a.size
structure Ca(Y9:Bool)(Z6:List Int)(a:Array (Int×gv))(t:pB):Prop where
 el:ElemsOf (ot gh w) a.toList
 pm:∃b,(a.toList.map (·.2)).Perm b/\sK b Z6
 lt:a.size<SG
 fits:t.fits a.size=fW
 tok:qa Y9 t
 bU:Cb t a.size
 dN:a.size<=64
def p_(Y9:Bool)(Z6:List Int)(h:hV)(a:gG):Prop:=∃o b c t,h.get? a=fR o/\o.ExactSet/\o.data=.set b c t/\rF Y9 Z6 b t
def rF.size(d:rF Y9 Z6 h t):h.size=Z6.length:=by refine gy d.pm λb p i=>?_;have a:=p.length_eq;rw[iq,kq]at a;exact a.trans (Rk i)
def Ca.perm(d:Ca Y9 Z6 h t)(p:X8.toList.Perm h.toList)(a:t'.fits X8.size=fW)(b:qa Y9 t')(c:t_ t' X8.size):rF Y9 Z6 X8 t' where
 el:=d.el.perm p
 pm:=gy d.pm λe q i=>gx e ((p.map _).trans q) i
 lt:=by
  have:=p.length_eq;rw[kq,kq]at this;exact lE this<|d.lt
 fits:=a
 tok:=b
 bU:=c
def p_.put{h:hV}(e:h.get? a=fR o)(f:o.ExactSet)(b:o.data=.set y x t):(h.update a (EK X8 t')).get? a=fR {o with data:=.set X8 (x+1) t'}/\(rF Y9 Z6 X8 t'->p_ Y9 Z6 (h.update a (EK X8 t')) a):=by
 have c:(h.update a (EK X8 t')).get? a=fR {o with data:=.set X8 (x+1) t'}:=by
  have:=tR (EK X8 t') e (lE (putSet_of X8 t' b) rfl);rw[putSet_of X8 t' b]at this;exact this
 exact⟨c,λd=>CT _ X8 (x+1) t' c f rfl d⟩
def aag{g:Bool->iM Unit}(q:∀(b:Bool) (f:gK) (Q':Unit->gK->Prop),Q' () f->gg (gk gh w) A (g b) Q' E f)(i:s.heap.get? a=fR o)(j:o.ExactSet)(k:o.data=.set z L t)(d:Ca Y9 Z6 x y){R:Option Bool->gK->Prop}(h:∀c,oR a s.heap c->p_ Y9 Z6 c a->R (fR fW) {s with heap:=c}):gg (gk gh w) A (do
  storeSet a x y
  if(!fY&&y.tooFull)=fW then do
   g (vb y x (uS x.size)).2.2
   storeSet a (vb y x (uS x.size)).1 (vb y x (uS x.size)).2.1
   pure (fR fW)
   else pure (fR fW)) R E s:=by
 refine gf (agq i k ?_ (ag3 d.lt));refine gP (p_.put (Y9:=Y9) (Z6:=Z6) (X8:=x) (t':=y) i j k) λl r=>?_;have m:=sL s.heap a (EK x y);split;rename_i e;have n:=relayAll_perm y x (uS x.size);have Y3:(vb y x (uS x.size)).1.size=x.size:=rE kq (lE n.length_eq (lE kq rfl));have p:=d.perm n (relayAll_fits y x (uS x.size)) (abQ d.tok x (uS x.size)) (by refine lE Y3<|aaC d.bU (by simpa using e) d.dN);refine gf (q _ _ _ ?_);refine gf (agq l rfl ?_ (ag3 p.lt));refine gP (p_.put l j rfl) λZ u=>gU (h _ (m.trans (sL _ a _)) (u p));rename_i e;exact gU (h _ m (r ⟨d.el,d.pm,d.lt,d.fits,d.tok,aaD d.bU (by simpa using e)⟩))
def aa4(u:p_ Y9 Z6 s.heap a)(y:k∉Z6)(z:Z6.length+1<=64)(h:∀g,oR a s.heap g->p_ Y9 (Z6++[k]) g a->Q fW {s with heap:=g}):gg (gk gh w) A (setAddHashed a (.int k x) ((ot gh w).hash k)) Q E s:=by
 revert Y9 Z6 s u y z h;revert a k Q A x E;refine @(nI E1 ?_);generalize gT.1.1.1=a,gT.1.1.2=k,gT.1.2=Q,gT.2.1.1=A,gT.2.1.2=x,gT.2.2=E;intro Y9 Z6 s u y z h;refine DT u ?_;intro o c a3 t B R C d;have I:(ot gh w).is k (.int k x)=fW:=intKind_is _ _ _ _;have D:(BD k x).scannable=fW:=rfl;have F:=d.el;have J:=d.fits;refine jp (gf (Kh B C J ?_));dsimp only;refine lE (byScan_of D d.lt F) ?_;simp only[↓reduceIte];refine gf<|gf (ze ?_);refine gf (wpAny_setScan_of I B C J F ?_);have S:List.findIdx? (λe:Int×gv=>(ot gh w).is k e.2) c.toList=fU:=by
  refine aek.mpr λe T=>?_;refine gy d.pm λf p i=>?_;have:∀{f:List gv} {Z6:List Int},sK f Z6->k∉Z6->∀v∈f,(ot gh w).is k v=fY:=λ{f Z6} i=>by
   induction i with|nil=>intro _ v j;exact nM j|cons n t r V=>
    intro G v j;rw[gX,not_or]at G;rcases gX.mp j with rfl|j
    .simp[ot,afJ];exact λe=>G.1 e.symm
    .exact V G.2 v j
  exact this i y _ (p.mem_iff.mp (i_ T))
 refine lE S ?_;have a4:∀(b:Bool) {q:gK} {Q':Unit->gK->Prop},Q' () q->gg (gk gh w) A (match b with|true=>rule "set.scan.the-table-gave-way"|false=>pure ()) Q' E q:=λb q Q' l=>by induction b<;>first|exact gU l|exact ze l
 have m:=layNew_perm t c ((ot gh w).hash k) (.int k x);have K:=layNew_fits t c ((ot gh w).hash k) (.int k x);have M:=abN d.tok c ((ot gh w).hash k) (.int k x);refine gP (aaB d.bU ((ot gh w).hash k) (.int k x)) λH N=>?_;generalize a5:BN t c ((ot gh w).hash k) (.int k x)=L at m K M H N|-;obtain⟨O,W,a6,a7⟩:=L;refine gP (nU N) λX Y=>?_;obtain rfl:=X;obtain rfl:=Y;rw[Qy]at m;have Y3:=d.size;have P:O.size=c.size+1:=by
  have:=m.length_eq;rw[px,kq,kq,IX]at this;exact this
 have a0:Ca Y9 (Z6++[k]) O W:={
  el:=(F.push I D).perm m
  pm:=by refine gy d.pm λf p i=>gx (f++[.int k x]) ((m.map _).trans ?_) (IntsAre.append i (.cons _ _ .nil));refine lE kT<|p.append_right _
  lt:=by have:SG=4096:=rfl;lia
  fits:=K
  tok:=M
  bU:=lE P<|H
  dN:=(lG z (gC Y3) (gC P))}
 refine gf (qw rfl ?_);refine lE (if_pos H.a)<|gf<|lE (hashByValue_scannable 8 D)<|gU<|aag ?_ B R C a0 ?_
 .intro b q Q' l;induction b<;>first|exact gU l|exact ze l
 .intro g a1 a2;exact gU (h g a1 a2)
abbrev o_:Bool:=w.params.followText "set-order"
noncomputable abbrev ri(Y9:Bool):iY:={cls:=.type "set",dict:=fU,data:=.set #[] 0 (.fresh 0 0 Y9)}
def p_.at(x:p_ Y9 Z6 h a)(e:∀o,h.get? a=fR o->y.get? a=fR o):p_ Y9 Z6 y a:=pS x λo b c t d r=>Ad o b c t (e o d) r
def aa8{R:pW->gK->Prop}{G:Array RP->Array RP->Prop}{p:Nat->gK->Prop}(W:WalksS gh w A.in1 I y x G n P p)(S:gG)(q:S∉y)(Z6:List Int)(r:Z6.length=n)(F:Z6.Nodup)(H:∀i v,P i v->∃t,v=.int (Z6.getD i 0) t)(a:n<=64):∀(k i:Nat) (s:gK),n-i=k->i<=n->p i s->p_ Y9 (Z6.take i) s.heap S->(∀s',Moved (S::x) G s s'->p_ Y9 Z6 s'.heap S->R (.ok (.ret .none)) s')->lF (gk gh w) A (.builtin "set.update.loop" ⟨[.ref S,.ref I],[]⟩) R s:=by
 have u:S∉x:=λh=>q (W.sub _ h);have z:∀b∈x,b∈S::x:=λb a=>qp _ a;intro k;induction k with|zero=>intro i s d B g f j;have J:=uO B (aeS d);subst J;refine BK af1<|lE (EC Rj _)<|(?_:gg _ A.in1 (uZ (.ref I)>>=_) _ _ s);refine gf (W.done s _ _ g λs' c=>?_);rw[uN (gC r)]at f;exact gU (j s' (c.mono z) (f.at λo e=>c.heap S _ u e))|succ k K=>
  intro i s d B g f j;have l:=aeU d;refine BK af1<|lE (EC Rj _)<|(?_:gg _ A.in1 (uZ (.ref I)>>=_) _ _ s);refine gf (W.item i s _ _ l g λv s' L M c=>?_);refine gI (H i v L) λt N=>?_;obtain rfl:=N;have O:Z6[i]?=fR (Z6.getD i 0):=by refine lE tM (lE (oO (gu l (gC r.symm))) ?_);rfl
  have C:Z6.take (i+1)=Z6.take i++[Z6.getD i 0]:=lE IZ (lE O rfl);have Q:Z6.getD i 0∉Z6.take i:=by
   have:=F.sublist (aeK (i+1) Z6);rw[C,nQ]at this;exact λm=>this.2.2 _ m _ (js.mpr rfl) rfl
  refine gf (jp ?_);refine jp<|gf ((ot gh w).pyHash (intKind_is _ _ _ _) ?_);refine aa4 (f.at λo e=>c.heap S _ u e) Q (by refine lE aes ?_;lia) λY D E=>?_;rw[<-C]at E;refine gU ⟨JX Rj _,K (i+1) _ (congrArg Nat.pred d) l (W.frame _ s' _ _ M (jA _) λb a o e=>?_) E λT V X=>?_⟩;rw[D.2 b (λh:b=S=>q (by refine rE h<|a))];exact e;refine j T (Moved.trans W.gtrans ((c.mono z).then_heap (jA _) λb o a e=>?_) V) X;rw[D.2 b (λh:b=S=>a (by refine lE h<|rY))];exact e
def aa9(a:gv)(h:X5 (.ref s.heap.objs.size) {s with heap:=s.heap.push (ri (!o_))}):lF (gk gh w) A (.call (.builtin "set.__new__") ⟨[.type "set",a],[]⟩) (Fj X5 E) s:=by
 refine E_<|(?_:gg _ A.in1 (do JR "set.__new__" ⟨[.type "set",a],[]⟩;again (.builtin "set.__new__" ⟨[.type "set",a],[]⟩)) _ _ s);refine gf (qw (PySem.F.newCall_set_1 a) (gU ⟨JX afm _,BK PySem.F.entry_set_new ?_⟩));refine lE (EC afm _) ?_;have b:=sub_set_self;obtain⟨c,g,d,e,Y8⟩:=s
 wp_walk
 refine zd (gU ?_);simp only[newObj];refine gf (SQ (gU ?_));exact gU h
set_option maxHeartbeats 3200000 in
def Yr(p:A.handled=fU)(q:s.heap.IsList l Z3)(j:sK Z3.toList Z6)(u:Z6.Nodup)(d:Z3.size<=64)(h:∀(a:hV) (k:Nat),p_ (!o_) Z6 a s.heap.objs.size->(∀b o,b<s.heap.objs.size->s.heap.get? b=fR o->a.get? b=fR o)->Q (.ref s.heap.objs.size) (sU s a k)):gg (gk gh w) A (ju (.type "set") [.ref l]) Q E s:=by
 revert Z3 p q j u d h;revert Z6 Q A l E s;refine @(nI E1 ?_);generalize gT.1.1.1=Z6,gT.1.1.2=Q,gT.1.2=A,gT.2.1.1=l,gT.2.1.2=E,gT.2.2=s;intro Z3 p q j u d h;have L:Z6.length=Z3.size:=by
  have:=Rk j;rw[kq]at this;exact this.symm
 refine kS afi.mro λc b5 b6=>sS (E_ ?_);refine gU ⟨RC _ (by decide+kernel),BK PySem.F.entry_type_call ?_⟩;refine lE (Around.under_plain (weight_type_call_type "set" [.ref l] []) rfl)<|wC (.call (.builtin "set.__new__") ⟨[.type "set",.ref l],[]⟩) (g:=?_);refine BL (aa9 (.ref l) (E:=λZ Z=>False) (X5:=λB C=>B=.ref s.heap.objs.size/\C={s with heap:=s.heap.push (ri (!o_))}) ⟨rfl,rfl⟩) λr C x=>?_;induction r with|error e=>exact x.elim|ok M=>
  induction M with
  |ret B=>
   refine gP x ?_;intro N O;obtain rfl:=N;obtain rfl:=O;generalize b7:(!o_)=Y9 at h|-;have f:(s.heap.push (ri Y9)).get? s.heap.objs.size=fR (ri Y9):=lu _ rfl;have P:Shared.TypeIs {s with heap:=s.heap.push (ri Y9)} (.ref s.heap.objs.size) "set":=gx _ f rfl;refine wL f (g:=?_);refine wL f (g:=?_);refine wC (.call (.builtin "set.__init__") ⟨[.ref s.heap.objs.size,.ref l],[]⟩) (g:=?_);refine BL (Sp (R:=Fj (λr D=>r=.none/\∃a k,D=(sU s a k)/\p_ Y9 Z6 a s.heap.objs.size/\(∀b o,b<s.heap.objs.size->s.heap.get? b=fR o->a.get? b=fR o)) λZ Z=>False) afi.init.plain PySem.F.entry_set_init (check_set_init_1 P ?_)) λX6 D y=>?_
   .obtain⟨S,F,G,H,I⟩:=q;obtain⟨b8,T,b9,V⟩:=S;simp only at G I;subst G;subst I;have m:(s.heap.push (ri Y9)).get? l=fR {cls:=.type "list",dict:=T,data:=.seq Z3 H,slots:=V}:=iW _ F;have J:(s.heap.push (ri Y9)).IsList l Z3:=⟨_,m,rfl,H,rfl⟩;refine wL f (g:=?_);refine wL f (g:=?_);refine wL m (g:=?_);refine wL m (g:=?_);refine wL m (g:=?_);refine wE (t':=(pD (.ref l)>>=λW=>runValue (.builtin "set.update.loop" ⟨[.ref s.heap.objs.size,W],[]⟩)>>=λZ=>pure ())>>=λZ=>BP pX) gQ (gf (gf ?_));refine Kf J<|gf (wpAny_runValue ?_);have K:=iB F;have X:l≠(s.heap.push (ri Y9)).objs.size:=by
     rw[kt];exact jt (ru K)
    have Y:s.heap.objs.size∉[(s.heap.push (ri Y9)).objs.size,l]:=by rw[kt];simp only[gX,kK,or_false,not_or];exact⟨jt (nR _),tN K⟩
    have a0:∀(i:Nat) (v:gv),Z3[i]?=fR v->∃t,v=.int (Z6.getD i 0) t:=λi v a1=>IntsAre.int_at j i v (by refine lE rq ?_;exact a1);refine aa8 (Y9:=Y9) ((Si (by simp[p]) _ l X Z3).toS) s.heap.objs.size Y Z6 L u a0 d (Z3.size-0) 0 _ (by simp+arith) (jT _) ⟨(iU _ (lu _ rfl) rfl rfl),(J.push _)⟩ ?hS0 ?hR
    case hS0=>have a2:((s.heap.push (ri Y9)).push {cls:=.type "list_iterator",data:=.fields #[.ref l,.int 0 0]}).get? s.heap.objs.size=fR (ri Y9):=iW _ f;exact CT _ (#[]) 0 (.fresh 0 0 Y9) a2 (iy rfl rfl rfl) rfl ⟨λe a3=>by simp at a3,(gx ([]) .nil .nil),by decide,rfl,abM Y9,aaA Y9⟩
    case hR=>
     intro s' n z;obtain⟨a,c0,c1,a4,c2⟩:=s';have a5:=n.gens;have a6:=n.drawn;have a7:=n.os;subst a5;subst a6;subst a7;refine gU<|(?_:gg _ _ (BP pX) _ _ _);refine gU ⟨rfl,a,a4,rfl,z,λb o d e=>?_⟩;have a8:b≠(s.heap.push (ri Y9)).objs.size:=by rw[kt];exact jt (ru d)
     exact n.heap b o (by simp only[gX,kK,or_false,not_or];exact⟨(jt d),a8⟩) (iW _ (iW _ e))
   .induction X6 with|error e=>exact y.elim|ok a9=>induction a9 with|ret r=>refine gP y ?_;intro b0 b1;obtain rfl:=b0;refine jR b1 ?_;intro a k b2 b3;obtain rfl:=b2;refine gP b3 ?_;intro z b4;refine wP (.done (.ret (.ref s.heap.objs.size))) (h:=?_);exact h _ _ z b4|_=>exact y.elim
  |_=>exact x.elim
def yo:Slot "set_iterator" "__next__" "set_iterator.__next__":=.of (owner:="set_iterator") (n:="__next__") (by rw[BS];refine lE BJ ?_;kernel_rfl) (by decide+kernel) (by decide+kernel) (by decide+kernel) (by first|exact .inl (by decide+kernel)|exact .inr GC) (by rw[JU];kernel_rfl)
def OO:Slot "set_iterator" "__iter__" "set_iterator.__iter__":=.of (owner:="set_iterator") (n:="__iter__") (by rw[BS];refine lE BJ ?_;kernel_rfl) (by decide+kernel) (by decide+kernel) (by decide+kernel) (by first|exact .inl (by decide+kernel)|exact .inr GC) (by rw[JU];kernel_rfl)
def Mc:JT table "set_iterator.__next__"=fR Builtin.«set_iterator.__next__»:=entryFor_of_tree gQ
def u4:JT table "set_iterator.__iter__"=fR Builtin.«dict_keyiterator.__iter__»:=ag0 (id':="dict_keyiterator.__iter__") gQ rfl (by decide+kernel) gQ
def u3:JT table "set.__iter__"=fR Builtin.«frozenset.__iter__»:=ag0 (id':="frozenset.__iter__") gQ rfl (by decide+kernel) gQ
def NW:Manifest.owners.lookup (String.ofList ['r','o','t','a','r','e','t','i','_','t','e','s'].reverse)=fR Manifest.sig_set_iterator:=by kernel_rfl
def KG(a:gv):JM "set_iterator.__next__" ⟨[a],[]⟩:=by refine lE (agc (id:="set_iterator.__next__") (n:=['_','_','t','x','e','n','_','_']) gQ NW) ?_;kernel_rfl
def Vp(a:gv):JM "set_iterator.__iter__" ⟨[a],[]⟩:=by refine lE (agc (id:="set_iterator.__iter__") (n:=['_','_','r','e','t','i','_','_']) gQ NW) ?_;kernel_rfl
def v0(h:i<l.length):(l[i]::l.eraseIdx i).Perm l:=by rw[List.eraseIdx_eq_take_drop_succ];exact(QV.symm).trans (.of_eq (by refine rE (Eo h) ?_;rw[Ra]))
def Φ{c:Type}{Y2:Nat->Nat}(b:Nat):∀(k:Nat) (left:List c) (a:Array c),left.length=b->(SE Y2 b k left a).toList.Perm (a.toList++left):=by
 induction b with|zero=>intro _ left a h;rw[aem.mp h,pn];exact .refl _|succ b e=>
  intro k left a h;have d:Y2 k% left.length<left.length:=Jj _ (yR (jT _) (gC h.symm));have u:SE Y2 (b+1) k left a=(λo:Option c=>(Ri (motive:=λZ=>Array c) a (λx=>SE Y2 b (k+1) (left.eraseIdx (Y2 k% left.length)) (a.push x)) o:Array c)) left[Y2 k% left.length]?:=by kernel_rfl
  rw[u,(oO d)];refine(e (k+1) _ _ (by refine lE (List.length_eraseIdx_of_lt d) ?_;lia)).trans ?_;refine lE Qy ?_;rw[Em];exact List.Perm.append_left _ (v0 d)
def Υ{a:Type}(Y2:Nat->Nat)(xs:Array a):(SD Y2 xs).toList.Perm xs.toList:=by
 have:=Φ (Y2:=Y2) xs.size 0 xs.toList #[] kq;rwa [pT]at this
def rO(a c:Nat)(b:Array (Int×gv)):List gv:=if o_ then(SD (w.params.setOrder a c) b).toList.map (·.2)else b.toList.map (·.2)
def Do(a c:Nat)(b:Array (Int×gv)):(rO a c b).Perm (b.toList.map (·.2)):=by
 unfold rO;split;exact(Υ _ _).map _;exact .refl _
def qk(t:pB)(i:Nat):Nat:=if o_ then 0 else match i with|0=>0|i+1=>t.place.getD i 0+1
def XY(h:rb t.place)(b:o_=fY)(a:i<=t.place.size):oT t.place (qk t i)=i:=by unfold qk;refine lE b ?_;induction i with|zero=>exact FH h (jT _) (λi a=>absurd a (Bu _)) λZ Z Z=>jT _|succ i=>have c:i<t.place.size:=a;exact(XW h (by simp[wm,c])).2
def OE(f:s.heap.get? a=fR o)(g:o.data=.set y z t)(d:rF (!o_) Z6 y t)(j:i<=y.size)(h:Q ((rO a z y)[i]?.map λx=>(x,qk t (i+1))) s):gg (gk gh w) A (setNext a (qk t i) i z) Q E s:=by
 revert o Z6 E f g d j h;revert y t i Q A a z s;refine @(lx E1 ?_);generalize gw.1.1.1=y,gw.1.1.2=t,gw.1.2.1=i,gw.1.2.2=Q,gw.2.1.1=A,gw.2.1.2=a,gw.2.2.1=z,gw.2.2.2=s;intro o Z6 E f g d j h;refine gf (Kh f g d.fits ?_);refine gf (gf (zd (gU ?_)));by_cases b:o_=fW;refine lE (if_pos b) (lE (if_neg (by simp)) ?_);refine gf<|gf (Kh f g d.fits ?_);refine gf (gf (zd (gU ?_)));refine lE (if_pos b)<|gf (zd (gU (gU ?_)));have l:rO a z y=(SD (w.params.setOrder a z) y).toList.map (·.2):=if_pos b;have n:∀k,qk t k=0:=λk=>if_pos b;rw[l,lQ,rq,n,aeZ]at h;rw[n];exact h
 .have m:o_=fY:=by simpa using b
  refine lE (if_neg b) ?_;have q:t.led=fW:=lE d.tok.2 (lE m rfl);refine(?_:gg _ _ (if(!t.plain&&decide (y.size>1))=fW then _ else _) _ _ _);rw[if_neg (by refine lE d.bU.dN ?_;simp)];refine gf (qw (a:=()) ?_ ?_);refine(?_:(if(!t.led&&!y.isEmpty)=fW then _ else _)=_);rw[if_neg (by refine lE q ?_;simp)]
  .rw[XY d.tok.1 m (by refine lE d.bU.size<|j)];refine gU ?_;have l:rO a z y=y.toList.map (·.2):=if_neg b;rw[l,lQ,rq]at h;by_cases c:i<y.size
   .have p:i<t.place.size:=lE d.bU.size<|c;rw[yF c]at h;refine lE (yF c) (lE (yF p) ?_);have e:qk t (i+1)=t.place[i]+1:=by
     unfold qk;refine lE m ?_;simp[wm,p]
    rw[e]at h;exact h
   .rw[Qt (r_ c)]at h;refine lE (Qt (r_ c)) ?_;exact h
noncomputable abbrev aaj(a b i n c:Nat):iY:={cls:=.type "set_iterator",data:=.fields #[.int b 0,.int i 0,.ref a,.int n 0,.int c 0]}
def sg(h:hV)(b a c i n d:Nat):Prop:=∃o,h.get? b=fR o/\o.cls=.type "set_iterator"/\o.data=.fields #[.int c 0,.int i 0,.ref a,.int n 0,.int d 0]
def sg.dN{s:gK}(h:sg s.heap t a x i n y):s.TypeIs (.ref t) "set_iterator":=jy h λo b c Z=>gx o b c
def aa7(b:s.heap.get? a=fR o)(e:o.ExactSet)(c:o.data=.set h x t)(d:rF (!o_) Z6 h t)(f:Q (.ref s.heap.objs.size) {s with heap:=s.heap.push (aaj a 0 0 h.size x)}):gg (gk gh w) A (pD (.ref a)) Q E s:=by
 revert o Z6 t E b e c d f;revert h Q A a s x;refine @(nI E1 ?_);generalize gT.1.1.1=h,gT.1.1.2=Q,gT.1.2=A,gT.2.1.1=a,gT.2.1.2=s,gT.2.2=x;intro o Z6 t E b e c d f;have g:s.TypeIs (.ref a) "set":=gx o b e.1;refine agm g afp (tY afp g u3 ?_ (PySem.F.args_set_iter_1 _));unfold Builtin.«frozenset.__iter__» agJ slotArgs;simp only[List.isEmpty_nil,Bm,uJ,↓reduceIte,bind_assoc,aep,bne_self_eq_false];refine gf (gU ?_)
 try dsimp only
 refine gf (gU ?_);refine gf (gf (Tc b c d.fits (gU ?_)));refine gf (gf (Kh b c d.fits ?_));refine gf (gf (zd (gU ?_)));refine gU<|(?_:gg _ _ (if(!o_&&(!t.plain&&decide (h.size>1)))=fW then _ else _) _ _ _);rw[if_neg (by refine lE d.bU.dN ?_;simp)];refine gf (gU ?_);refine gf (wpAny_setEpoch_of b c d.fits ?_);refine gf (Fo (gU ⟨_,rfl,"set_iterator",_,(gx _ (lu _ rfl) rfl),yo.lookup,?_⟩));exact f
def aal(c:sg s.heap y a (qk t i) i h.size z)(e:s.heap.get? a=fR o)(f:o.data=.set h z t)(d:rF (!o_) Z6 h t)(g:i<h.size)(j:(rO a z h)[i]?=fR x)(k:∀l,sg l y a (qk t (i+1)) (i+1) h.size z->oR y s.heap l->Q (fR x) {s with heap:=l}):gg (gk gh w) A (uZ (.ref y)) Q E s:=by
 revert o Z6 x c e f d g j k;revert y a t i z h Q A E s;refine @(qj E1 ?_);generalize gN.1.1.1.1=y,gN.1.1.1.2=a,gN.1.1.2=t,gN.1.2.1=i,gN.1.2.2=z,gN.2.1.1.1=h,gN.2.1.1.2=Q,gN.2.1.2=A,gN.2.2.1=E,gN.2.2.2=s;intro o Z6 x c e f d g j k;refine jy (id c) λq m p b=>gf (SR (Fk c.dN yo (tY yo c.dN Mc ?_ (KG _))));refine gf (gU ?_);refine gf (age m b ?_)
 try dsimp only
 refine gf (Tc e f d.fits ?_);refine lE (if_neg (by simp)) ?_
 try dsimp only
 refine gf (OE e f d (jo g) ?_);refine lE j ?_
 try dsimp only[Option.map_some]
 refine gf (Fq m b (by simp) ?_);have n:=tR (RU (·.setIfInBounds 0 (mV (qk t (i+1):Int)))) m (RT (xb b _));refine gf (Fq n (xb b _) (by simp) ?_);refine gU (gx _ rfl (gU (k _ (iU _ (tR (RU (·.setIfInBounds 1 (mV ((i:Int)+1)))) n (RT (xb (xb b _) _))) ?_ ?_) ((sL ..).trans (sL ..)))));rw[RS,RS];exact p;rw[xb (xb b _)];simp[mV]
def aak(l:A.handled=fU)(c:sg s.heap y a (qk t h.size) h.size h.size x)(f:s.heap.get? a=fR o)(i:o.data=.set h x t)(d:rF (!o_) Z6 h t)(m:∀j,tQ y s.heap j->Q fU {s with heap:=j}):gg (gk gh w) A (uZ (.ref y)) Q E s:=by
 revert o Z6 E l c f i d m;revert y a t x h Q A s;refine @(lx E1 ?_);generalize gw.1.1.1=y,gw.1.1.2=a,gw.1.2.1=t,gw.1.2.2=x,gw.2.1.1=h,gw.2.1.2=Q,gw.2.2.1=A,gw.2.2.2=s;intro o Z6 E l c f i d m;refine jy (id c) λB n C p=>?_;have q:(rO a x h)[h.size]?=fU:=by refine wx ?_;refine lE ((Do a x h).length_eq) ?_;rw[iq];refine lE kq<|ij _
 refine gf (SR (Fk c.dN yo (tY yo c.dN Mc ?_ (KG _))));refine gf (gU ?_);refine gf (age n p ?_)
 try dsimp only
 refine gf (Tc f i d.fits ?_);refine lE (if_neg (by simp)) ?_
 try dsimp only
 refine gf (OE f i d (ij _) ?_);refine lE q ?_
 try dsimp only[Option.map_none]
 refine gf (Fq n p (by simp) ?_);refine Pc (show A.in1.handled=fU from l) λj e k r=>gy r λo' u v=>gf (agf (gx o' u v) isSubtype_stop ?_);exact gU (m j λb o z g=>k b o ((sL ..).extBut b o z g))
def aam(a:sg s.heap t b x i n y)(h:Q (.ref t) s):gg (gk gh w) A (pD (.ref t)) Q E s:=by refine agm a.dN OO (tY OO a.dN u4 ?_ (Vp _));exact gU ⟨_,rfl,"set_iterator",_,a.dN,yo.lookup,h⟩
def aa6(a:s.TypeIs (.ref r) "set")(h:Q fY s):gg (gk gh w) A (agK (.ref r)) Q E s:=by
 revert Q A E s a h;revert r;refine @(Hp E1 ?_);generalize AA=r;intro Q A E s a h;refine gf (Ki a PySem.F.slot_set_len.lookup ?_);generalize d:("set.__len__":String)=e
 wp_delta
 refine lE (show splitId e=fR ("set","__len__")from by subst d;decide+kernel) ?_;subst d;refine gf (agf (b:=fW) a (by rw[JU];kernel_rfl) ?_);refine agg (λc=>absurd c gO) (λZ=>?_);refine agg (λZ=>?_) (λc=>absurd (by decide+kernel) c);refine gf (wpAny_typeOf a ?_);exact gU h
def zq(h:hV)(a:gG)(b:Array (Int×gv))(c:Nat)(t:pB):Prop:=∃o,h.get? a=fR o/\o.ExactSet/\o.data=.set b c t
def sg.at(x:sg h t b y i n z)(e:∀o,h.get? t=fR o->L.get? t=fR o):sg L t b y i n z:=gy x λo a r=>gx o (e o a) r
def zq.at(x:zq h a y z t)(e:∀o,h.get? a=fR o->L.get? a=fR o):zq L a y z t:=gy x λo b r=>gx o (e o b) r
def aai(z:A.handled=fU)(B:a≠I)(d:rF (!o_) Z6 x t):Walks gh w A I [I,a] [I] x.size (λi v=>(rO a y x)[i]?=fR v) (λi h=>sg h I a (qk t i) i x.size y/\zq h a x y t) where
 sub:=λb f=>by simp at f;simp[f]
 frame:=λZ Z Z c n=>⟨c.1.at λo e=>n I (by simp) o e,c.2.at λo e=>n a (by simp) o e⟩
 item:=λi s Q E p c g=>by
  obtain⟨l,o,j,q,k⟩:=c;have C:i<(rO a y x).length:=by refine lE ((Do a y x).length_eq) ?_;rw[iq];exact lE kq<|p
  have r:=oO C;refine aal l j k d p r λm D u=>g _ m s.toks r ⟨D,o,?_,q,k⟩ λb o f e=>?_;exact lE (u.2 a B)<|j;exact lE (u.2 b λh=>f (by simp[h]))<|e
 done:=λs Q E c g=>by obtain⟨l,o,j,q,k⟩:=c;exact aak z l j k d λm F=>g m s.toks λb o f e=>F b o (λh=>f (by simp[h])) e
 self:=λZ Z Z Z c g=>aam c.1 g
def aaf(d:rF (!o_) Z6 x t):KdlSrc gh w "set" a a x.size (λi v=>(rO a y x)[i]?=fR v) (λh=>zq h a x y t) where
 type:=λZ c=>jy c λo b f Z=>gx o b f.1
 there:=λZ c=>gy c λo b Z=>⟨iB b,iB b⟩
 keep:=λZ Z c k=>c.at λo e=>k a (.inl rfl) o e
 notList:=by decide
 notTuple:=by decide
 hint:=λZ Z Z Z c g=>aa6 (jy c λo b f Z=>gx o b f.1) g
 iter:=λA s l c=>by
  refine jy c ?_;intro o b f j;have m:qk t 0=0:=by unfold qk;split<;>rfl
  exact jq _ _ (λZ Z g=>aa7 b f j d g) (aai l (jt (iB b)) d) ⟨(iU _ (lu _ rfl) rfl (lE m rfl)),o,iW _ b,f,j⟩
def N5(p:xs.Perm y):∀{Z6:List Int},sK y Z6->∃e,sK xs e/\e.Perm Z6:=by
 induction p with
 |nil=>intro Z6 h;cases h;exact gx ([]) .nil .nil
 |cons x _ f=>intro Z6 h;cases h with|cons n t r=>refine gy (f r) λe a b=>gx (n::e) (.cons n t a) (b.cons n)
 |swap x j l=>intro Z6 h;cases h with|cons n t r=>cases r with|cons m u r=>exact gx (m::n::_) (.cons m u (.cons n t r)) (.swap n m _)
 |trans _ _ g i=>intro Z6 h;refine gy (i h) λe a b=>gy (g a) λZ9 c d=>gx Z9 c (d.trans b)
def Hw:sX:=by
 intro A s a W Z6 Q E n w p x g h;have y:=vc;refine Yr n w (by simpa using p) x (by refine lE lz ?_;exact gu (gC (Rk p)) (jo g)) λz X B C=>?_;refine DT B ?_;intro o c j t r D F d;have Y3:=d.size;refine RB Rq Rs Rp (Rm _) ?_;refine gf (gU ?_);refine gf (tH (kdu_collect (aaf d) n (iU o r D F) (lG (gC y.symm) g (gC Y3)) λf G Z7 H k u=>?_));have I:Z7.toList=rO s.heap.objs.size j c:=by
  refine List.ext_getElem? λi=>?_;by_cases q:i<Z7.size;have J:Z7.toList[i]?=fR Z7[i]:=lE rq (lE (yF q) rfl);refine lE J<|(k.2 i Z7[i] (yF q)).symm;rw[wx (by refine lE kq<|r_ q),wx (by have:=k.1;exact gu (gC (by refine lE ((Do _ j c).length_eq) ?_;rw[iq];exact lE kq rfl)) (gu (gC this.symm) (r_ q)))]
 refine gy d.pm λY K L=>gy (N5 (I▸(Do s.heap.objs.size j c).trans K) L) λa0 M N=>?_;have O:Z7.toList.length=c.size:=lE kq<|k.1;refine gf (Fm ?_ (by lia));have l:(f.push (kM "list" Z7.toList.toArray 0)).get? f.objs.size=fR (kM "list" Z7.toList.toArray 0):=lu _ rfl;have v:∀b o,z.get? b=fR o->(f.push (kM "list" Z7.toList.toArray 0)).get? b=fR o:=λb o q=>iW _ (H b o q);refine gf (jp (tY Ru (gx _ l rfl) Rn (list_sort_tree l M (lG g (gC Y3) (gC O)) λP a1 R S T=>gx _ rfl ?_) (Rl _)));refine gU (gx _ rfl ?_);refine gI (Ry l) λe V=>h f.objs.size _ G P.toList e (λb o q=>?_) (gu (jo (iB r)) u) (by refine lE yG ?_;exact V) (OQ (S.trans N) T▸R);have m:=C b o (iB q) q;refine lE (Rz (jt (pU (iB m) u)) (iB (v b o m)))<|v b o m
noncomputable def Ct:List gq->List V|[]=>[]|.Constant (.int i) _ _::r=>.a i::Ct r|_::r=>.c::Ct r
def sy(d:jB):q_:=⟨(wb d).args.map (·.arg),Ct (wb d).defaults,(rU d).names,wc d⟩
def zY:List (gG×jB):=[(139,(lP 12 0)),(153,(lP 12 2)),(160,(lP 12 3)),(167,(lP 12 4)),(181,(lP 12 6)),(188,(lP 12 7)),(195,(lP 12 8)),(202,(lP 12 9)),(209,(lP 12 10)),(216,(lP 12 11)),(223,(lP 12 12)),(235,(zB 19)),(240,(zB 20)),(279,(zB 28)),(284,(zB 29)),(291,(zB 31)),(308,(zB 34)),(320,(zB 36)),(327,(zB 38)),(332,(zB 39)),(339,(zB 40)),(344,(zB 41)),(356,(zB 43)),(363,(zB 44)),(368,(zB 45)),(375,(zB 46)),(382,(zB 47)),(389,(zB 48)),(394,(zB 49)),(399,(zB 52)),(404,(zB 53)),(418,(lP 58 0)),(425,(lP 58 1)),(439,(zB 59)),(446,(zB 60)),(451,(zB 61)),(458,(zB 62)),(465,(zB 63)),(472,(zB 64)),(479,(zB 65)),(487,(zB 66)),(494,(zB 67)),(501,(zB 68)),(515,(lP 71 0)),(522,(lP 71 1)),(536,(zB 72)),(543,(zB 73)),(550,(zB 74)),(557,(zB 75)),(564,(zB 76)),(571,(zB 77)),(578,(zB 78)),(585,(zB 79)),(590,(zB 80)),(597,(zB 82)),(604,(zB 83)),(611,(zB 84)),(618,(zB 85)),(625,(zB 86)),(632,(zB 87)),(639,(zB 88)),(644,(zB 89)),(651,(zB 90)),(658,(zB 91)),(673,(lP 93 0)),(733,(zB 95)),(740,(zB 96)),(747,(zB 97)),(754,(zB 98)),(761,(zB 99)),(768,(zB 100)),(775,(zB 101)),(789,(zB 104)),(796,(zB 105)),(803,(zB 106)),(808,(zB 107)),(813,(zB 108))]
noncomputable def td:List (f_×G):=[(fZ "number_of",.a 235),(fZ "octets_of",.a 240),(fZ "pointer_octets",.a 279),(fZ "pointer_of",.a 284),(fZ "new_points",.a 291),(fZ "points",.a 308),(fZ "space_of",.a 320),(fZ "new_dead",.a 327),(fZ "dead_keys",.a 332),(fZ "list_of",.a 339),(fZ "key_for",.a 344),(fZ "add_key",.a 356),(fZ "dead_points",.a 363),(fZ "dead_between",.a 368),(fZ "move_above",.a 375),(fZ "drop_dead",.a 382),(fZ "merge_dead",.a 389),(fZ "copy_keys",.a 394),(fZ "row_octets",.a 399),(fZ "octets_row",.a 404),(fZ "load_dir",.a 439),(fZ "store_dir",.a 446),(fZ "want_name",.a 451),(fZ "new_dir",.a 458),(fZ "make_root",.a 465),(fZ "child_of",.a 472),(fZ "want_free",.a 479),(fZ "add_dir",.a 487),(fZ "share_of",.a 494),(fZ "change_use",.a 501),(fZ "set_octets",.a 536),(fZ "set_of",.a 543),(fZ "load_set",.a 550),(fZ "store_set",.a 557),(fZ "new_head",.a 564),(fZ "head_of",.a 571),(fZ "snap_name",.a 578),(fZ "chain",.a 585),(fZ "own_snaps",.a 590),(fZ "zap_name",.a 597),(fZ "marks_zap",.a 604),(fZ "note_of",.a 611),(fZ "put_mark",.a 618),(fZ "mark",.a 625),(fZ "mark_info",.a 632),(fZ "copy_mark",.a 639),(fZ "marks_of",.a 644),(fZ "drop_mark",.a 651),(fZ "drop_marks",.a 658),(fZ "relink",.a 733),(fZ "take_snapshot",.a 740),(fZ "unique_of",.a 747),(fZ "head_unique",.a 754),(fZ "recount",.a 761),(fZ "can_drop",.a 768),(fZ "drop_snapshot",.a 775),(fZ "_law_name",.a 789),(fZ "_law_put",.a 796),(fZ "_law_deed_right",.a 803),(fZ "_law_is_same",.a 808),(fZ "law",.a 813),(fZ "_law_tried",.c),(fZ "MemBase",.b 226 139),(fZ "DirInfo",.b 428 418),(fZ "SetInfo",.b 525 515),(fZ "Heap",.b 722 673),(fZ "Missing",.e 63),(fZ "Exists",.e 75),(fZ "Misused",.e 99),(fZ "InvalidName",.e 111),(fZ "Corrupt",.e 51),(fZ "Broken",.e 123),(fZ "Busy",.e 87),(fZ "NAMES",.d (.a 1)),(fZ "POINTER",.d (.a 53)),(fZ "PLACE",.d (.a 7)),(fZ "PARTS",.d (.a 22)),(fZ "MOST_PLACES",.d (.a 3)),(fZ "NUMBER",.d (.a 8)),(fZ "FIELDS",.d (.a 15)),(fZ "MOST_LETTERS",.d (.a 12)),(fZ "ROOT",.d (.d "root")),(fZ "LETTERS",.d (.d "abcdefghijklmnopqrstuvwxyz0123456789-_.")),(fZ "len",.f "len"),(fZ "sum",.f "sum"),(fZ "sorted",.f "sorted"),(fZ "bytes",.f "bytes"),(fZ "str",.f "str"),(fZ "int",.f "int"),(fZ "max",.f "max"),(fZ "any",.f "any"),(fZ "all",.f "all")]
noncomputable def Df:List ((gG×f_)×gG):=[((226,"new_note"),153),((226,"note"),160),((226,"set_note"),167),((226,"drop"),181),((226,"new_zap"),188),((226,"rows"),195),((226,"get"),202),((226,"put"),209),((226,"take"),216),((226,"names"),223),((428,"row"),425),((525,"row"),522)]
noncomputable def Ci:List (gG×List f_):=[(226,["last","notes","zaps"]),(428,["parent","head","children","props","origin","used","below","quota","reserved","refquota"]),(525,["pointer","dir","guid","prev","prev_made","next","made","refs","dead","snaps","clones","holds","referenced","unique","is_snap","deferred"]),(722,["sector","blocks","gone","next","written"])]
noncomputable def Cn:List (gG×f_):=[(63,"missing"),(75,"exists"),(111,"no name"),(99,"misused")]
def uq(C:gG)(x:f_):Option gG:=(Df.find? λe=>decide (e.1.1=C)&&decide (e.1.2=x)).map (·.2)
def si(C:gG)(x:f_):Bool:=match Ci.lookup C with|some l=>l.any λa=>decide (a=x)|none=>fY
def TB:Tb:=⟨λx=>td.lookup x,uq,λC=>Cn.lookup C,si,λa=>(zY.lookup a).map sy⟩
def F(d:Nat):gG->List V->M V:=CJ TB 40 d
def Tt(d:Nat):ie:=TB.at (F d)
def jD(m:M h)(f:h->M t)(g:t->M x):fS (fS m f) g=fS m λa=>fS (f a) g:=by funext y;exact xL m f g y
def Cl(m:M h):fS m fX=m:=by funext y;unfold fS;cases m y<;>rfl
def mJ(f:h->M t):fS (gc:M h) f=gc:=rfl
def lm(c:Prop)[Decidable c](m a:M h)(f:h->M t):fS (if c then m else a) f=if c then fS m f else fS a f:=by split<;>rfl
structure Ck where
 v:{c:Type}->ii->gA->gq->(V->M c)->M c
 b:{c:Type}->ii->gA->gq->(Bool->M c)->M c
 a:{c:Type}->ii->gA->uR->List gq->(Bool->M c)->M c
 l:{c:Type}->ii->gA->List gq->(List V->M c)->M c
def Cu(v:V)(c:Int):M V:=match v with
 |.b i=>fS (lg i) fun
  |.d=>gM (.a [])
  |.b a=>Cv a c
  |_=>gc
 |_=>gc
section
variable(J:Ck)(k:ii)(U:gA)
def Co(e:gq)(K:lV->M h):M h:=match AL k e with|some q=>if jN q.2&&!q.2.isEmpty then J.l k U q.2 λa=>fS (xV q.1 a) K else gc|none=>J.v k U e λv=>fS (jJ v) K
end
section
variable(T:ie)(I:Ev)(J:Ck)(n:Nat)(k:ii)(U:gA)
def Le(l:gq)(c:List EF)(d:List gq)(K:Bool->M h):M h:=match c,d with|[e],[r]=>if mB r then J.v k U l λa=>J.v k U r λb=>fS (gR e a b) K else gc|_,_=>gc
def Lf(l:gq)(f:List EF)(g:List gq)(K:Bool->M h):M h:=match f,g with|[d],[r]=>if mB r then J.v k U l λa=>J.v k U r λb=>fS (gR d a b) K else gc|[d,i],[r,e]=>if mB e then J.v k U l λa=>J.v k U r λb=>fS (gR d a b) λt=>if t then J.v k U e λc=>fS (gR i b c) K else K fY else gc|_,_=>gc
def YF(c:uR)(d:List gq)(K:V->M h):M h:=match d with
 |[x,a]=>J.v k U x λv=>fS (lO v) λb=>match c with|.And=>if b then J.v k U a K else K v|.Or=>if b then K v else J.v k U a K
 |_=>gc
def YD(Z9:List (Option gq))(a:List gq)(K:V->M h):M h:=match Z9,a with|[],[]=>fS (gM .d) K|Z9,a=>if Z9.length=a.length then fS (ig (vB Z9)) λxs=>if xs.Nodup/\0<xs.length/\xs.length<=10 then J.l k U a λb=>if xs.length=b.length then fS (gM (.b (xs.zip b))) K else gc else gc else gc
noncomputable def FQ(e:Option gq)(K:V->M h):M h:=match e with|none=>K .c|some e=>J.v k U e K
def FT(o i:gq)(K:V->M t):M t:=if zv i then J.v k U o λv=>fS (sY v) K else match ym i with|some (a,b)=>J.v k U o λv=>FQ J k U a λl=>FQ J k U b λh=>fS (lY v l h) K|none=>if sE i then J.v k U o λv=>J.v k U i λj=>fS (iG v j) K else gc
def FN(o:gq)(nm:f_)(b:oS)(a:List gq)(p:oS)(K:V->M h):M h:=if sp o||!(b.endLine==p.line)||!(jN a)||!(decide (a.length<20))then gc else J.v k U o λv=>fS (lJ T v nm) λm=>J.l k U a λc=>fS (nE T m v nm c) K
def FP(f:f_)(a:List gq)(K:V->M h):M h:=match Aq a with|some _=>fS (xR T I n k U f a) K|none=>match AH f a with|some e=>if k.lookup (fZ "sorted")=fR .globalImplicit/\k.lookup (fZ "set")=fR .globalImplicit/\jN [e]=fW then J.v k U e λv=>fS (AK v) K else gc|none=>if !(jN a)then gc else fS (rg T k f) λg=>if Ax g then J.l k U a λb=>fS (nX T (fR g) b) K else gc
def Ld(f:gq)(a:List gq)(p:oS)(K:V->M h):M h:=match f with|.Attribute o nm b=>FN T J k U o nm b a p K|.Name f _=>FP T I J n k U f a K|_=>gc
def Lg(f g b:gq)(i:List gq)(a:rx)(K:V->M h):M h:=if !(mK k a)||!(mB b)then gc else Co J k U b λd=>fS (iL (jw d.ai (λj l=>nJ a.names j g l) (λℓ'=>match i with|[]=>fX fW|[c]=>J.b a.names ℓ' c fX|_=>gc) (λℓ'=>J.v a.names ℓ' f fX) im (jW a.names U) [] d.am)) λe=>if e.length<=hJ then fS (gM (.a e)) K else gc
def FM(b:gq)(d:List xa)(a:rx)(K:V->M h):M h:=match vn b d with|some (x,e,c)=>if a.names.lookup x=fR .local/\a.names.lookup e=fR .free/\mK k a=fW then fS (pP T k U e) λv=>fS (Cu v c) K else gc|none=>match uu d with|some (f,g,i)=>Lg J k U b f g i a K|none=>gc
def Li(e:gq)(K:V->M h):M h:=match e with|.Constant c _ _=>fS (sq c) K|.Name x _=>fS (pP T k U x) K|.BinOp l g r _=>J.v k U l λa=>J.v k U r λb=>fS (hM g a b) K|.UnaryOp g e _=>fS (CC g e) K|.IfExp t b o _=>J.b k U t λc=>if c then J.v k U b K else J.v k U o K|.BoolOp g j _=>YF J k U g j K|.Compare l m q _=>Le J k U l m q λt=>K (.e t)|.List j _=>J.l k U j λd=>if d.length<=hJ then fS (gM (.a d)) K else gc|.Tuple j _ _=>J.l k U j λd=>if d.length<=hJ then fS (gM (.c d)) K else gc|.Dict Z9 d _=>YD J k U Z9 d K|.Attribute o nm _=>if sp o then gc else J.v k U o λv=>fS (jx T v nm) K|.Subscript o i _=>FT J k U o i K|.Call f s u p=>if u.isEmpty then Ld T I J n k U f s p K else gc|.ListComp w y z _=>FM T J k U w y z K|_=>gc
def YE(e x:gq)(a:xh)(K:Bool->M h):M h:=match a with|.Not=>J.b k U x λb=>K (!b)|_=>J.v k U e λv=>fS (lO v) K
def Lc(e:gq)(K:Bool->M h):M h:=match e with|.UnaryOp a x p=>YE J k U (.UnaryOp a x p) x a K|.BoolOp a b _=>J.a k U a b K|.IfExp .. =>gc|.Compare l c d _=>Lf J k U l c d K|e=>J.v k U e λv=>fS (lO v) K
noncomputable def Lb(a:uR)(c:List gq)(K:Bool->M h):M h:=match c with|[]=>K (a==.And)|x::r=>J.b k U x λb=>match a with|.And=>if b then J.a k U a r K else K fY|.Or=>if b then K fW else J.a k U a r K
def Lh(a:List gq)(K:List V->M h):M h:=match a with|[]=>K []|x::r=>if jN [x]then J.v k U x λv=>J.l k U r λb=>K (v::b)else gc
end
def Lk(T:ie):Nat->Ck|0=>⟨λZ Z Z Z=>gc,λZ Z Z Z=>gc,λZ Z Z Z Z=>gc,λZ Z Z Z=>gc⟩|n+1=>⟨λk U e K=>Li T (mZ T n) (Lk T n) n k U e K,λk U e K=>Lc (Lk T n) k U e K,λk U b a K=>Lb (Lk T n) k U b a K,λk U a K=>Lh (Lk T n) k U a K⟩
structure pZ(I:Ev)(J:Ck):Prop where
 v:∀{c:Type} k U e (K:V->M c),J.v k U e K=fS (I.v k U e) K
 b:∀{c:Type} k U e (K:Bool->M c),J.b k U e K=fS (I.b k U e) K
 a:∀{c:Type} k U d e (K:Bool->M c),J.a k U d e K=fS (I.a k U d e) K
 l:∀{c:Type} k U e (K:List V->M c),J.l k U e K=fS (I.l k U e) K
def YI{I:Ev}{J:Ck}{k:ii}{U:gA}(h:pZ I J)(l c d)(K:V->M x):Le J k U l c d (λt=>K (.e t))=fS (Mi I k U l c d) K:=by
 rcases c with _|⟨e,_|⟨f,c⟩⟩
 .rfl
 .rcases d with _|⟨r,_|⟨g,d⟩⟩
  .rfl
  .refine(?_:(if mB r then J.v k U l λa=>J.v k U r λb=>fS (gR e a b) λt=>K (.e t)else gc)=fS (if mB r then fS (I.v k U l) λa=>fS (I.v k U r) λb=>fS (gR e a b) λt=>fX (.e t)else gc) K);simp only[lm,h.v,jD,mJ];rfl
  .rfl
 .rfl
def YJ{I:Ev}{J:Ck}{k:ii}{U:gA}(h:pZ I J)(l f d)(K:Bool->M x):Lf J k U l f d K=fS (Mj I k U l f d) K:=by
 rcases f with _|⟨g,_|⟨i,_|⟨j,f⟩⟩⟩
 .rfl
 .rcases d with _|⟨r,_|⟨e,d⟩⟩
  .rfl
  .refine(?_:(if mB r then J.v k U l λa=>J.v k U r λb=>fS (gR g a b) K else gc)=fS (if mB r then fS (I.v k U l) λa=>fS (I.v k U r) λb=>gR g a b else gc) K);simp only[lm,h.v,jD,mJ]
  .rfl
 .rcases d with _|⟨r,_|⟨e,_|⟨m,d⟩⟩⟩
  .rfl
  .rfl
  .refine(?_:(if mB e then J.v k U l λa=>J.v k U r λb=>fS (gR g a b) λt=>if t then J.v k U e λc=>fS (gR i b c) K else K fY else gc)=fS (if mB e then fS (I.v k U l) λa=>fS (I.v k U r) λb=>fS (gR g a b) λt=>if t then fS (I.v k U e) λc=>gR i b c else fX fY else gc) K);simp only[lm,h.v,jD,mJ];rfl
  .rfl
 .rfl
def YM{T:ie}{I:Ev}{J:Ck}{n:Nat}{k:ii}{U:gA}(h:pZ I J)(f a)(K:V->M t):FP T I J n k U f a K=fS (xR T I n k U f a) K:=by unfold FP;generalize c:Aq a=b;induction b with|some x=>rfl|none=>unfold xR;refine lE c ?_;generalize d:AH f a=b;induction b with|some x=>simp only[h.v,jD,lm,mJ]|none=>simp only[h.l,jD,lm,mJ]
def Lj{I:Ev}{J:Ck}{k:ii}{U:gA}(h:pZ I J) e (K:lV->M t):Co J k U e K=fS (tG I k U e) K:=by unfold Co tG;generalize AL k e=q;induction q with|some q=>simp only[h.l,jD,lm,mJ]|none=>simp only[h.v,jD]
def YK{T:ie}{I:Ev}{J:Ck}{k:ii}{U:gA}(h:pZ I J)(b a d)(K:V->M t):FM T J k U b a d K=fS (ui T I k U b a d) K:=by unfold FM;generalize e:vn b a=c;induction c with|some x=>unfold ui;refine lE e ?_;simp only[jD,lm,mJ];rfl|none=>unfold ui;refine lE e ?_;generalize f:uu a=c;induction c with|none=>rfl|some x=>unfold Lg Gn;simp only[Lj h,h.v,h.b,jD,lm,mJ,Cl]<;>rfl
def YN{T:ie}{I:Ev}{J:Ck}{n:Nat}{k:ii}{U:gA}(h:pZ I J) e (K:V->M y):Li T I J n k U e K=fS (O_ T I n k U e) K:=by
 induction e using jQ with
 |Compare l A B p=>exact YI h ..
 |BinOp l j r p=>refine(?_:(J.v k U l λa=>J.v k U r λb=>fS (hM j a b) K)=fS (fS (I.v k U l) λa=>fS (I.v k U r) λb=>hM j a b) K);simp only[h.v,jD]
 |IfExp t b o p=>refine(?_:(J.b k U t λc=>if c then J.v k U b K else J.v k U o K)=fS (fS (I.b k U t) λc=>if c then I.v k U b else I.v k U o) K);simp only[h.v,h.b,jD,lm]
 |BoolOp j g p=>
  rcases g with _|⟨x,_|⟨w,_|⟨C,r⟩⟩⟩
  .rfl
  .rfl
  .refine(?_:J.v k U x _=fS (fS (I.v k U x) _) K);rw[h.v,jD];congr;funext v;rw[jD];congr;funext b;induction j<;>induction b<;>first|rfl|exact h.v ..
  .rfl
 |List g p=>refine(?_:(J.l k U g λd=>if d.length<=hJ then fS (gM (.a d)) K else gc)=fS (fS (I.l k U g) λd=>if d.length<=hJ then gM (.a d)else gc) K);simp only[h.l,jD,lm,mJ]
 |Tuple g q p=>refine(?_:(J.l k U g λd=>if d.length<=hJ then fS (gM (.c d)) K else gc)=fS (fS (I.l k U g) λd=>if d.length<=hJ then gM (.c d)else gc) K);simp only[h.l,jD,lm,mJ]
 |Dict Z9 d p=>
  rcases Z9 with _|⟨x,Z9⟩
  .rcases d with _|⟨w,d⟩
   .rfl
   .rfl
  .refine(?_:@ite _ _ (_) _ _=fS (@ite _ _ (_) _ _) K);simp only[h.l,jD,lm,mJ]
 |Attribute o nm p=>refine(?_:(if sp o then gc else J.v k U o λv=>fS (jx T v nm) K)=fS (if sp o then gc else fS (I.v k U o) λv=>jx T v nm) K);simp only[h.v,jD,lm,mJ]
 |Subscript o i p=>
  refine(?_:FT J k U o i K=fS (zP I k U o i) K);have z:∀{y:Type} (e:Option gq) (K:V->M y),FQ J k U e K=fS (Go I k U e) K:=λe K=>by induction e<;>first|rfl|exact h.v ..
  unfold FT zP;rw[lm];congr 1;simp only[h.v,jD]
  .cases ym i with|some x=>simp only[h.v,z,jD]|none=>simp only[h.v,jD,lm,mJ]
 |Call f m s p=>refine(?_:(if s.isEmpty then Ld T I J n k U f m p K else gc)=fS (if s.isEmpty then Mh T I n k U f m p else gc) K);rw[lm];congr 1;induction f using jQ with|Attribute o nm u=>refine(?_:FN T J k U o nm u m p K=fS (zN T I k U o nm u m p) K);simp only[FN,zN,h.v,h.l,jD,lm,mJ]|Name f D=>exact YM h ..|_=>rfl
 |ListComp E F G p=>exact YK h ..
 |_=>rfl
def YH{I:Ev}{J:Ck}{k:ii}{U:gA}(h:pZ I J) e (K:Bool->M t):Lc J k U e K=fS (OX I k U e) K:=by
 induction e using jQ with
 |UnaryOp a x p=>induction a<;>first|(refine(?_:J.b k U x _=fS (fS (I.b k U x) _) K);rw[h.b,jD];rfl)|(refine(?_:J.v k U _ _=fS (fS (I.v k U _) lO) K);rw[h.v,jD])
 |BoolOp a b p=>exact h.a ..
 |IfExp=>rfl
 |Compare l c d p=>exact YJ h ..
 |_=>exact(h.v ..).trans (jD ..).symm
def YG{I:Ev}{J:Ck}{k:ii}{U:gA}(h:pZ I J)(a e)(K:Bool->M t):Lb J k U a e K=fS (OW I k U a e) K:=by induction e with|nil=>rfl|cons x r=>refine(?_:J.b k U x _=fS (fS (I.b k U x) _) K);rw[h.b,jD];congr;funext b;induction a<;>induction b<;>first|rfl|exact h.a ..
def YL{I:Ev}{J:Ck}{k:ii}{U:gA}(h:pZ I J) e (K:List V->M t):Lh J k U e K=fS (OY I k U e) K:=by induction e with|nil=>rfl|cons x r=>refine(?_:@ite _ _ (_) _ _=fS (@ite _ _ (_) _ _) K);simp only[h.v,h.l,jD,lm,mJ];rfl
theorem YO(T:ie):∀n,pZ (mZ T n) (Lk T n)|0=>⟨λZ Z Z Z=>rfl,λZ Z Z Z=>rfl,λZ Z Z Z Z=>rfl,λZ Z Z Z=>rfl⟩|n+1=>have h:=YO T n;⟨λZ Z Z Z=>YN h _ _,λZ Z Z Z=>YH h _ _,λZ Z Z Z Z=>YG h _ _ _,λZ Z Z Z=>YL h _ _⟩
noncomputable def ke(a:gA->M h)(b:V->M h):Fl->M h:=λf=>match f with|.a U=>a U|.b v=>b v
def jF(x:f_)(U:gA)(a:It):M gA:=match a with|.a v=>fX (gW U x v)|_=>gc
def rn(x c:f_)(U:gA)(d:It):M gA:=match d with|.a v=>fS (kG v 2) λe=>mQ [(x,.local),(c,.local)] U [x,c] e|.b a b=>fX (gW (gW U x a) c b)
noncomputable def mM(xs:List f_)(U:gA):gA:=xs.filterMap λx=>(U.lookup x).map λv=>(x,v)
def re(C:gG)(v:V):M h:=match v with|.d _=>ls C|_=>gc
structure zj where
 s:{a:Type}->ii->gA->jB->(gA->M a)->(V->M a)->M a
 l:{a:Type}->ii->gA->List jB->(gA->M a)->(V->M a)->M a
section
variable(T:ie)(I:Ev)(J:Ck)(X:Ex)(Y:zj)(k:ii)(U:gA)
def Cr(t:gq)(v:V)(K:gA->M h):M h:=match t with|.Name x _=>fS (nx k U x v) K|.Attribute o nm _=>J.v k U o λu=>fS (mP T u nm v) λZ=>K U|.Subscript o i _=>if sE i then J.v k U o λu=>J.v k U i λj=>fS (pe u j v) λZ=>K U else gc|_=>gc
def FX(U:gA)(ts:List gq)(i:Nat)(a:List V)(K:gA->M h):M h:=match ts with|[]=>K U|t::ts=>Cr T J k U t (a.getD i .c) λℓ'=>FX ℓ' ts (i+1) a K
def Lw(t:gq)(v:V)(K:gA->M h):M h:=match t with|.Tuple ts _ _=>if jN ts then fS (kG v ts.length) λa=>FX T J k U ts 0 a K else gc|t=>Cr T J k U t v K
def YZ(ts:List gq)(e:gq)(a:gA->M h):M h:=match ts with|[t]=>if Ch e then J.v k U e λv=>Lw T J k U t v a else gc|_=>gc
def FU(ts:List gq)(a:gA->M h):M h:=match zH ts with|some (o,i)=>if !(sE i)then gc else J.v k U o λv=>J.v k U i λj=>fS (uf v j) λZ=>a U|none=>gc
def FV(d a:gq)(b:List jB)(e:gA->M h)(f:V->M h):M h:=if !(mB a)then gc else
 Co J k U a λc=>fS (iL (lf c.ai (λg i=>nJ k g d i) (λℓ'=>Y.l k ℓ' b (λℓ'=>fX (.a ℓ')) λv=>fX (.b v)) im U c.am)) (ke e f)
def FW(e c:Option gq):M h:=match AB e c with
 |some (c,a)=>fS (rg T k c) λg=>match g with|.e C=>J.v k U a λv=>re C v|_=>gc
 |none=>gc
def Lx(s:jB)(a:gA->M h)(d:V->M h):M h:=match s with|.Expr e _=>if xS e then J.v k U e λZ=>a U else gc|.Return fU _=>d .c|.Return (fR e) _=>J.v k U e d|.Assign ts e _=>YZ T J k U ts e a|.Delete ts _=>FU J k U ts a|.If t b o _=>J.b k U t λc=>if c then Y.l k U b a d else Y.l k U o a d|.While t b o _=>if o.isEmpty then fS (iL (qO (λℓ'=>J.b k ℓ' t fX) (λℓ'=>Y.l k ℓ' b (λℓ'=>fX (.a ℓ')) λv=>fX (.b v)) 100 U)) (ke a d)else gc|.For f g b o _=>if o.isEmpty then FV J Y k U f g b a d else gc|.Raise e c _=>FW T J k U e c|_=>gc
noncomputable def Ly(c:List jB)(a:gA->M h)(b:V->M h):M h:=match c with|[]=>a U|s::r=>Y.s k U s (λℓ'=>Y.l k ℓ' r a b) b
end
def Lz(T:ie):Nat->zj|0=>⟨λZ Z Z Z Z=>gc,λZ Z Z Z Z=>gc⟩|n+1=>⟨λk U s a b=>Lx T (Lk T n) (Lz T n) k U s a b,λk U c a b=>Ly (Lz T n) k U c a b⟩
structure Fs(X:Ex)(Y:zj):Prop where
 s:∀{c:Type} k U e (a:gA->M c) b,Y.s k U e a b=fS (X.s k U e) (ke a b)
 l:∀{c:Type} k U e (a:gA->M c) b,Y.l k U e a b=fS (X.l k U e) (ke a b)
def E9:ke (λU=>fX (.a U)) (λv=>fX (.b v))=fX:=by funext f;induction f<;>rfl
def FY{T:ie}{I:Ev}{J:Ck}{k:ii}{U:gA}(h:pZ I J)(t v)(K:gA->M x):Cr T J k U t v K=fS (AN T (λℓ' a=>I.v k ℓ' a) k U t v) K:=by induction t using jQ with|Attribute o nm p=>refine(?_:(J.v k U o λu=>fS (mP T u nm v) λZ=>K U)=fS (fS (I.v k U o) λu=>fS (mP T u nm v) λZ=>fX U) K);simp only[h.v,jD];rfl|Subscript o i p=>refine(?_:(if sE i then J.v k U o λu=>J.v k U i λj=>fS (pe u j v) λZ=>K U else gc)=fS (if sE i then fS (I.v k U o) λu=>fS (I.v k U i) λj=>fS (pe u j v) λZ=>fX U else gc) K);simp only[h.v,jD,lm,mJ];rfl|_=>rfl
def Zb{T:ie}{I:Ev}{J:Ck}{k:ii}(h:pZ I J):∀(ts:List gq) (U:gA) (i:Nat) (a:List V) (K:gA->M x),a.length=i+ts.length->FX T J k U ts i a K=fS (vX T (λℓ' b=>I.v k ℓ' b) k U ts (a.drop i)) K:=by
 intro d;induction d with
 |nil=>
  intro U i a K e;have:a.drop i=[]:=by rw[QM];simp at e;exact gC e
  exact lE this rfl
 |cons t ts f=>
  intro U i a K e;have c:i<a.length:=by simp at e;exact iX (gC e.symm)
  have:a.drop i=a.getD i .c::a.drop (i+1):=by refine lE (Eo c) ?_;simp[c]
  refine lE this<|(?_:Cr T J k U t (a.getD i .c) _=fS (fS (AN T (λℓ' b=>I.v k ℓ' b) k U t (a.getD i .c)) λℓ'=>vX T (λℓ' b=>I.v k ℓ' b) k ℓ' ts (a.drop (i+1))) K);rw[FY h,jD];congr;funext ℓ';exact f ℓ' (i+1) a K (by simp at e;exact sT e)
def ac9{n:Nat}(h:∀a,a.length=n->f a=g a):fS (kG v n) f=fS (kG v n) g:=by
 unfold kG;rw[jD,jD];congr;funext xs;by_cases e:xs.length=n;exact lE (if_pos e)<|h xs e;exact lE (if_neg e) rfl
def Y_{T:ie}{I:Ev}{J:Ck}{k:ii}{U:gA}(h:pZ I J)(t v)(K:gA->M x):Lw T J k U t v K=fS (qc T (λℓ' d=>I.v k ℓ' d) k U t v) K:=by induction t using jQ with|Tuple ts a b=>refine(?_:(if jN ts then fS (kG v ts.length) λc=>FX T J k U ts 0 c K else gc)=fS (if jN ts then fS (kG v ts.length) λc=>vX T (λℓ' d=>I.v k ℓ' d) k U ts c else gc) K);rw[lm];congr 1;rw[jD];exact ac9 λc e=>lE (Zb h ts U 0 c K (sT e)) rfl|Attribute o nm p=>exact FY h (.Attribute o nm p) v K|Subscript o i p=>exact FY (T:=T) h (.Subscript o i p) v K|_=>rfl
def Za{T:ie}{I:Ev}{J:Ck}{X:Ex}{Y:zj}{k:ii}{U:gA}(h:pZ I J)(f:Fs X Y) s (a:gA->M y) d:Lx T J Y k U s a d=fS (OZ T I X k U s) (ke a d):=by
 have i:∀b ℓ',Y.l k ℓ' b (λℓ'=>fX (Fl.a ℓ')) (λv=>fX (.b v))=X.l k ℓ' b:=λb ℓ'=>by rw[f.l];refine lE E9 ?_;rw[Cl]
 induction s using afG with
 |Expr e p=>refine(?_:(if xS e then J.v k U e λZ=>a U else gc)=fS (if xS e then fS (I.v k U e) λZ=>fX (.a U)else gc) (ke a d));simp only[h.v,jD,lm,mJ];rfl
 |Return e p=>induction e with|none=>rfl|some e=>refine(?_:J.v k U e d=fS (fS (I.v k U e) λv=>fX (.b v)) (ke a d));simp only[h.v,jD];rfl
 |Assign ts e p=>
  rcases ts with _|⟨t,_|⟨t',ts⟩⟩
  .rfl
  .refine(?_:@ite _ _ (_) _ _=fS (@ite _ _ (_) _ _) (ke a d));simp only[h.v,jD,lm,mJ,Y_ h];rfl
  .rfl
 |Delete ts p=>refine(?_:FU J k U ts a=fS (zR I k U ts) (ke a d));unfold FU zR;cases zH ts with|none=>rfl|some x=>simp only[h.v,jD,lm,mJ];rfl
 |If t b o p=>refine(?_:(J.b k U t λc=>if c then Y.l k U b a d else Y.l k U o a d)=fS (fS (I.b k U t) λc=>if c then X.l k U b else X.l k U o) (ke a d));simp only[h.b,f.l,jD,lm]
 |While t b o p=>refine(?_:(if o.isEmpty then fS (iL (qO (λℓ'=>J.b k ℓ' t fX) (λℓ'=>Y.l k ℓ' b (λℓ'=>fX (.a ℓ')) λv=>fX (.b v)) 100 U)) (ke a d)else gc)=fS (if o.isEmpty then iL (qO (λℓ'=>I.b k ℓ' t) (λℓ'=>X.l k ℓ' b) 100 U)else gc) (ke a d));simp only[h.b,i,jD,lm,mJ,Cl]
 |For j l b o p=>refine(?_:(if o.isEmpty then FV J Y k U j l b a d else gc)=fS (if o.isEmpty then zU I X k U j l b else gc) (ke a d));rw[lm];congr 1;unfold FV zU;simp only[Lj h,i,jD,lm,mJ,Cl]
 |Raise e c p=>refine(?_:FW T J k U e c=fS (zW T I k U e c) (ke a d));unfold FW zW;cases AB e c with|none=>rfl|some x=>dsimp only;rw[jD];congr;funext g;induction g with|e C=>dsimp only;rw[h.v,jD];congr;funext v;induction v<;>rfl|_=>rfl
 |_=>rfl
def Zc{X:Ex}{Y:zj}{k:ii}{U:gA}(d:Fs X Y) b (c:gA->M h) a:Ly Y k U b c a=fS (Pa X k U b) (ke c a):=by induction b with|nil=>rfl|cons s r=>refine(?_:Y.s k U s _ a=fS (fS (X.s k U s) _) (ke c a));rw[d.s,jD];congr;funext f;induction f<;>first|rfl|exact d.l ..
theorem Zd(T:ie):∀n,Fs (CD T n) (Lz T n)|0=>⟨λZ Z Z Z Z=>rfl,λZ Z Z Z Z=>rfl⟩|n+1=>have h:=Zd T n;⟨λZ Z Z Z Z=>Za (YO T n) h _ _ _,λZ Z Z Z Z=>Zc h _ _ _⟩
def vh(T:ie)(n:Nat)(F:q_)(a:List V):M V:=if a.length<=F.ps.length/\F.ps.length<=a.length+F.dv.length then
  (Lz T n).l F.k (F.ps.zip (a++F.dv.drop (a.length+F.dv.length-F.ps.length))) F.body (λZ=>fX .c) fX
 else gc
def KV(T:ie)(n:Nat)(F:q_)(a:List V):vi T n F.ps F.dv F.k F.body a=vh T n F a:=by
 unfold vi vh;split;rw[(Zd T n).l];congr;rfl
def ik(e:zY.lookup a=fR D:=by rfl)(h:vh (Tt d) 40 (sy D) t=p:=by kernel_rfl):F (d+1) a t=p:=by refine(?_:(match(zY.lookup a).map sy with|some b=>vi (TB.at (CJ TB 40 d)) 40 b.ps b.dv b.k b.body t|none=>gc)=p);refine lE e<|(KV _ _ _ _).trans h
abbrev ga(d:Nat)(v:V)(n:String):M V:=jx (Tt d) v (fZ n)
abbrev sa(d:Nat)(v:V)(n:String)(x:V):M Unit:=mP (Tt d) v (fZ n) x
abbrev mm(d:Nat)(v:V)(n:String):M Mt:=lJ (Tt d) v (fZ n)
abbrev cl(d:Nat)(m:Mt)(v:V)(n:String)(l:List V):M V:=nE (Tt d) m v (fZ n) l
abbrev lo(l:gA)(n:String):M V:=ig (jz (fZ n) l)
section
variable(d:Nat)
def Tx(a:V):F (d+1) 139 [a]=fS (sa d a "last" (.a (.ofNat 0))) λx=>fS (gM .d) λv=>fS (sa d a "notes" v) λx=>fS (gM .d) λv=>fS (sa d a "zaps" v) λx=>fS (mm d a "new_zap") λm=>fS (cl d m a "new_zap" []) λx=>fX V.c:=ik
def b0(b:V) u (v:V):=fS (ga d b "last") λj=>fS (pe u j v) λx=>fS (ga d b "last") λa=>fX a
def Tz(b c:V):F (d+1) 153 [b,c]=fS (ga d b "last") λa=>fS (hM .Add a (.a (.ofNat 1))) λv=>fS (sa d b "last" v) λx=>fS (s_ [c]) λv=>fS (ga d b "notes") λu=>b0 d b u v:=ik
def TA(e f:V):F (d+1) 160 [e,f]=fS (ga d e "notes") λb=>fS (gR .NotIn f b) λc=>if c then ls 63 else fS (ga d e "notes") λv=>fS (iG v f) λa=>fX a:=ik
def TF(a b c:V):F (d+1) 167 [a,b,c]=fS (mm d a "note") λm=>fS (cl d m a "note" [b]) λx=>fS (s_ [c]) λv=>fS (ga d a "notes") λu=>fS (pe u b v) λx=>fX V.c:=ik
def b1(c:Bool)(a e:V):=if c then fS (ga d a "notes") λv=>fS (uf v e) λx=>fX V.c else fS (ga d a "zaps") λb=>fS (gR .In e b) λc=>if c then fS (ga d a "zaps") λv=>fS (uf v e) λx=>fX V.c else ls 63
def Kq(a e:V):F (d+1) 181 [a,e]=fS (ga d a "notes") λb=>fS (gR .In e b) λc=>b1 d c a e:=ik
def b2(b:V) u (v:V):=fS (ga d b "last") λj=>fS (pe u j v) λx=>fS (ga d b "last") λa=>fX a
def Ks(b:V):F (d+1) 188 [b]=fS (ga d b "last") λa=>fS (hM .Add a (.a (.ofNat 1))) λv=>fS (sa d b "last" v) λx=>fS (gM .d) λv=>fS (ga d b "zaps") λu=>b2 d b u v:=ik
def TE(e f:V):F (d+1) 195 [e,f]=fS (ga d e "zaps") λb=>fS (gR .NotIn f b) λc=>if c then ls 63 else fS (ga d e "zaps") λv=>fS (iG v f) λa=>fX a:=ik
def Tw(b c e:V):F (d+1) 202 [b,c,e]=fS (mm d b "rows") λm=>fS (cl d m b "rows" [c]) λv=>fS (mm d v "get") λm=>fS (cl d m v "get" [e]) λa=>fX a:=ik
def b3(a e:V)(f g:V):=fS (hM .Pow (.a (.ofNat 2)) (.a (.ofNat 64))) λc=>fS (gR .Lt a c) λb=>if !b then ls 99 else fS (mm d e "rows") λm=>fS (cl d m e "rows" [f]) λu=>fS (pe u g a) λx=>fX V.c
def TC(b c e a:V):F (d+1) 209 [b,c,e,a]=fS (gR .LtE (.a (.ofNat 0)) a) λt=>if t then b3 d a b c e else ls 99:=ik
def TG(b f e:V):F (d+1) 216 [b,f,e]=fS (mm d b "rows") λm=>fS (cl d m b "rows" [f]) λv=>fS (gR .NotIn e v) λc=>if c then ls 63 else fS (mm d v "pop") λm=>fS (cl d m v "pop" [e]) λa=>fX a:=ik
def Ty(b c:V):F (d+1) 223 [b,c]=fS (mm d b "rows") λm=>fS (cl d m b "rows" [c]) λv=>fS (rQ [v]) λa=>fX a:=ik
def Uz(c:V):F (d+1) 235 [c]=fS (xQ c) λe=>fS (iL (jw e.ai (rn "place" "octet") (λℓ'=>fX fW) (λℓ'=>fS (lo ℓ' "octet") λa=>fS (lo ℓ' "place") λb=>fS (hM .Mult (.a (.ofNat 8)) b) λb=>fS (hM .LShift a b) λa=>fX a) im [] [] e.am)) λf=>if f.length<=hJ then fS (gM (.a f)) λv=>fS (yr [v]) λa=>fX a else gc:=ik
def b4(e f:V):=fS (AC e) λc=>fS (iL (jw c.ai (jF "place") (λℓ'=>fX fW) (λℓ'=>fS (lo ℓ' "number") λa=>fS (lo ℓ' "place") λb=>fS (hM .Mult (.a (.ofNat 8)) b) λb=>fS (hM .RShift a b) λa=>fS (hM .BitAnd a (.a (.ofNat 255))) λa=>fX a) im [("number",f)] [] c.am)) λd=>if d.length<=hJ then fS (gM (.a d)) λv=>fS (s_ [v]) λa=>fX a else gc
def b5(a d:V):=fS (hM .Pow (.a (.ofNat 256)) a) λc=>fS (gR .Lt d c) λb=>if !b then ls 99 else b4 a d
def UA(a b:V):F (d+1) 240 [a,b]=fS (gR .LtE (.a (.ofNat 0)) a) λt=>if t then b5 b a else ls 99:=ik
def UD:F (d+1) 279 [V.c]=fS (s_ [.a (.ofNat 53)]) λa=>fX a:=ik
def b6(v e:V):=fS (hM .Mult (.a (.ofNat 7)) v) λb=>fS (hM .Add (.a (.ofNat 1)) b) λl=>fS (gR .Gt v (.a (.ofNat 0))) λc=>if c then fS (lY e l (.a (.ofNat 22))) λa=>fS (Cf [a]) λd=>fS (lO d) λb=>if b then ls 51 else fS (gR .Eq v (.a (.ofNat 0))) λc=>if c then fX V.c else gc else fS (lY e l (.a (.ofNat 53))) λa=>fS (Cf [a]) λd=>fS (lO d) λb=>if b then ls 51 else fS (gR .Eq v (.a (.ofNat 0))) λc=>if c then fX V.c else gc
def b7(a:V):=fS (iG a (.a (.ofNat 0))) λv=>fS (gR .Gt v (.a (.ofNat 3))) λb=>if b then ls 51 else b6 v a
def b8(c:Bool)(a:V):=if c then ls 51 else b7 a
def UE(b:V):F (d+1) 284 [b]=fS (kW [b]) λa=>fS (gR .Lt a (.a (.ofNat 53))) λc=>b8 c b:=ik
def Ux(b:V):F (d+1) 291 [b]=fS (mm d b "new_note") λm=>fS (cl d m b "new_note" [V.f {toList:=[]}]) λa=>fX a:=ik
def b9(v:V):=fS (kW [v]) λe=>fS (vS (.a (.ofNat 0)) e (.a (.ofNat 53))) λb=>fS (iL (jw b.ai (jF "at") (λℓ'=>fX fW) (λℓ'=>fS (lo ℓ' "octets") λv=>fS (lo ℓ' "at") λl=>fS (lo ℓ' "at") λa=>fS (hM .Add a (.a (.ofNat 53))) λh=>fS (lY v l h) λv=>fS (F d 284 [v]) λa=>fX a) im [("octets",v)] [] b.am)) λc=>if c.length<=hJ then fS (gM (.a c)) λa=>fX a else gc
def Vs(c:Bool)(v:V):=if c then ls 123 else b9 d v
def UF(b e:V):F (d+1) 308 [b,e]=fS (mm d b "note") λm=>fS (cl d m b "note" [e]) λv=>fS (kW [v]) λa=>fS (hM .Mod a (.a (.ofNat 53))) λa=>fS (gR .NotEq a (.a (.ofNat 0))) λc=>Vs d c v:=ik
def UM(b:V):F (d+1) 320 [b]=fS (jJ b) λc=>fS (iL (jw c.ai (jF "pointer") (λℓ'=>fX fW) (λℓ'=>gc) im [] [] c.am)) λe=>if e.length<=hJ then fS (gM (.a e)) λv=>fS (yr [v]) λa=>fX a else gc:=ik
def VD(ℓ':gA):=fS (lo ℓ' "base") λv=>fS (mm d v "put") λm=>fS (lo ℓ' "dead") λa=>fS (lo ℓ' "key") λb=>fS (pR [b]) λc=>fS (lo ℓ' "base") λe=>fS (F d 291 [e]) λf=>fS (cl d m v "put" [a,c,f]) λx=>fX (Fl.a ℓ')
def VO(b:lV)(c e v:V):=fS (iL (lf b.ai (jF "key") (VD d) im (gW [("base",c),("keys",e)] "dead" v) b.am)) λa=>ke (λℓ'=>fS (lo ℓ' "dead") λa=>fX a) (λa=>fX a) a
def Uu(a b:V):F (d+1) 327 [a,b]=fS (mm d a "new_zap") λm=>fS (cl d m a "new_zap" []) λv=>fS (AK b) λc=>fS (jJ c) λe=>VO d e a b v:=ik
def V_(b:lV):=fS (iL (jw b.ai (jF "name") (λℓ'=>fX fW) (λℓ'=>fS (lo ℓ' "name") λv=>fS (CV [v]) λa=>fX a) im [] [] b.am)) λc=>if c.length<=hJ then fS (gM (.a c)) λv=>fS (rQ [v]) λa=>fX a else gc
def TZ(a b:V):F (d+1) 332 [a,b]=fS (mm d a "names") λm=>fS (cl d m a "names" [b]) λv=>fS (jJ v) λc=>V_ c:=ik
def Ul(a b e:V):F (d+1) 339 [a,b,e]=fS (mm d a "get") λm=>fS (pR [e]) λv=>fS (cl d m a "get" [b,v]) λv=>fS (gR .Is v V.c) λc=>if c then ls 63 else fX v:=ik
def Uf(e f:V):F (d+1) 344 [e,f]=fS (jJ e) λg=>fS (iL (jw g.ai (jF "key") (λℓ'=>fS (lo ℓ' "key") λa=>fS (lo ℓ' "birth") λb=>fS (gR .Lt a b) λa=>fX a) (λℓ'=>fS (lo ℓ' "key") λa=>fX a) im [("birth",f)] [] g.am)) λh=>if h.length<=hJ then fS (gM (.a h)) λv=>fS (gM (.a [])) λb=>fS (gR .NotEq v b) λc=>if c then fS (iG v (V.a (ae4 0))) λa=>fX a else fX V.c else gc:=ik
def Wg(f h:V)(e:List V)(i:V):=fS (F d 339 [f,h,e.getD 1 V.c]) λv=>fS (F d 308 [f,v]) λv=>fS (jJ v) λg=>fS (iL (jw g.ai (jF "pointer") (λℓ'=>fS (lo ℓ' "pointer") λv=>fS (ga d v "birth") λa=>fS (lo ℓ' "key") λb=>fS (gR .Gt a b) λa=>fX a) (λℓ'=>fS (lo ℓ' "pointer") λa=>fX a) im [("key",i)] [] g.am)) λe=>if e.length<=hJ then fS (gM (.a e)) λv=>fS (gM (.a [])) λb=>fS (gR .NotEq v b) λc=>if c then gc else fX V.c else gc
def Wh(a e f:V)(b:List V):=fS (mm d a "put") λm=>fS (pR [e]) λv=>fS (cl d m a "put" [f,v,b.getD 0 V.c]) λx=>fS (gR .IsNot (b.getD 1 V.c) V.c) λc=>if c then Wg d a f b e else fX V.c
def Wi(a v:V)(b c:V):=fS (F d 291 [a]) λe=>fS (F d 344 [v,b]) λv=>fS (gM (.c [e,v])) λv=>fS (kG v 2) λf=>Wh d a b c f
def Wj(c:Bool)(a v:V)(b e:V):=if c then ls 75 else Wi d a v b e
def TM(a b e:V):F (d+1) 356 [a,b,e]=fS (F d 332 [a,b]) λv=>fS (gR .In e v) λc=>Wj d c a v e b:=ik
def Wk(ℓ':gA):=fS (lo ℓ' "found") λv=>fS (mm d v "extend") λm=>fS (lo ℓ' "base") λa=>fS (lo ℓ' "base") λb=>fS (lo ℓ' "dead") λc=>fS (lo ℓ' "key") λe=>fS (F d 339 [b,c,e]) λf=>fS (F d 308 [a,f]) λg=>fS (cl d m v "extend" [g]) λx=>fX (Fl.a ℓ')
def Wl(b:lV)(c e v:V):=fS (iL (lf b.ai (jF "key") (Wk d) im (gW [("base",c),("dead",e)] "found" v) b.am)) λa=>ke (λℓ'=>fS (lo ℓ' "found") λa=>fX a) (λa=>fX a) a
def T_(a b:V):F (d+1) 363 [a,b]=fS (gM (.a [])) λv=>fS (F d 332 [a,b]) λc=>fS (jJ c) λe=>Wl d e a b v:=ik
def Wm(e:lV)(g h:V):=fS (iL (jw e.ai (jF "pointer") (λℓ'=>fS (lo ℓ' "low") λa=>fS (lo ℓ' "pointer") λv=>fS (ga d v "birth") λb=>fS (gR .Lt a b) λt=>if t then fS (lo ℓ' "high") λc=>fS (gR .LtE b c) λa=>fX a else fX fY) (λℓ'=>fS (lo ℓ' "pointer") λa=>fX a) im [("high",g),("low",h)] [] e.am)) λf=>if f.length<=hJ then fS (gM (.a f)) λa=>fX a else gc
def TW(a b c e:V):F (d+1) 368 [a,b,c,e]=fS (F d 363 [a,b]) λv=>fS (jJ v) λf=>Wm d f e c:=ik
def Wn(ℓ':gA):=fS (lo ℓ' "one") λa=>fS (lo ℓ' "key") λb=>fS (gR .GtE a b) λc=>if c then fS (lo ℓ' "base") λv=>fS (lo ℓ' "dead") λh=>fS (lo ℓ' "one") λi=>fS (F d 339 [v,h,i]) λv=>fS (lo (gW ℓ' "some" v) "found") λe=>fS (mm d e "extend") λm=>fS (lo (gW ℓ' "some" v) "base") λj=>fS (F d 308 [j,v]) λk=>fS (cl d m e "extend" [k]) λx=>fS (lo (gW ℓ' "some" v) "base") λf=>fS (mm d f "take") λm=>fS (lo (gW ℓ' "some" v) "dead") λl=>fS (lo (gW ℓ' "some" v) "one") λn=>fS (pR [n]) λo=>fS (cl d m f "take" [l,o]) λx=>fS (lo (gW ℓ' "some" v) "base") λg=>fS (mm d g "drop") λm=>fS (cl d m g "drop" [v]) λx=>fX (Fl.a (gW ℓ' "some" v))else fX (Fl.a ℓ')
def Wo(b:lV)(c e:V)(f v:V):=fS (iL (lf b.ai (jF "one") (Wn d) im (gW [("base",c),("dead",e),("key",f)] "found" v) b.am)) λa=>ke (λℓ'=>fS (lo ℓ' "found") λa=>fX a) (λa=>fX a) a
def Ut(a b c:V):F (d+1) 375 [a,b,c]=fS (gM (.a [])) λv=>fS (F d 332 [a,b]) λe=>fS (jJ e) λf=>Wo d f a b c v:=ik
def Wp(ℓ':gA):=fS (lo ℓ' "base") λv=>fS (mm d v "drop") λm=>fS (lo ℓ' "dead") λa=>fS (cl d m v "drop" [a]) λx=>fX V.c
def Wq(ℓ':gA):=fS (lo ℓ' "base") λv=>fS (mm d v "drop") λm=>fS (lo ℓ' "base") λa=>fS (lo ℓ' "dead") λb=>fS (lo ℓ' "key") λc=>fS (F d 339 [a,b,c]) λe=>fS (cl d m v "drop" [e]) λx=>fX (Fl.a ℓ')
def Wr(b:lV)(c e:V):=fS (iL (lf b.ai (jF "key") (Wq d) im [("base",c),("dead",e)] b.am)) λa=>ke (Wp d) (λa=>fX a) a
def Ua(a b:V):F (d+1) 382 [a,b]=fS (F d 332 [a,b]) λv=>fS (jJ v) λc=>Wr d c a b:=ik
def Ws(ℓ':gA):=fS (lo ℓ' "base") λv=>fS (lo ℓ' "other") λa=>fS (F d 382 [v,a]) λx=>fX V.c
def Wt(b:lV)(c e f:V):=fS (iL (lf b.ai (jF "pointer") (λℓ'=>gc) im [("base",c),("dead",e),("other",f)] b.am)) λa=>ke (Ws d) (λa=>fX a) a
def Us(a c b:V):F (d+1) 389 [a,c,b]=fS (F d 363 [a,b]) λv=>fS (jJ v) λe=>Wt d e a c b:=ik
def Wu(c:lV)(f g:V):=fS (iL (jw c.ai (jF "key") (λℓ'=>fS (lo ℓ' "key") λa=>fS (lo ℓ' "most") λb=>fS (gR .Lt a b) λa=>fX a) (λℓ'=>fS (lo ℓ' "key") λa=>fX a) im [("most",f)] [] c.am)) λe=>if e.length<=hJ then fS (gM (.a e)) λv=>fS (F d 327 [g,v]) λa=>fX a else gc
def TU(a b c:V):F (d+1) 394 [a,b,c]=fS (F d 332 [a,b]) λv=>fS (jJ v) λe=>Wu d e c a:=ik
def Wv(b:lV) m:=fS (iL (jw b.ai (jF "number") (λℓ'=>fX fW) (λℓ'=>fS (lo ℓ' "number") λv=>fS (F d 240 [v,.a (.ofNat 8)]) λa=>fX a) im [] [] b.am)) λc=>if c.length<=hJ then fS (gM (.a c)) λv=>fS (cl d m (V.f {toList:=[]}) "join" [v]) λa=>fX a else gc
def UI(a:V):F (d+1) 399 [a]=fS (mm d (V.f {toList:=[]}) "join") λm=>fS (jJ a) λb=>Wv d b m:=ik
def Ww(b:V):=fS (kW [b]) λv=>fS (vS (.a (.ofNat 0)) v (.a (.ofNat 8))) λc=>fS (iL (jw c.ai (jF "at") (λℓ'=>fX fW) (λℓ'=>fS (lo ℓ' "octets") λv=>fS (lo ℓ' "at") λl=>fS (lo ℓ' "at") λa=>fS (hM .Add a (.a (.ofNat 8))) λh=>fS (lY v l h) λv=>fS (F d 235 [v]) λa=>fX a) im [("octets",b)] [] c.am)) λe=>if e.length<=hJ then fS (gM (.a e)) λa=>fX a else gc
def Wx(c:Bool)(a:V):=if c then ls 123 else Ww d a
def UB(b:V):F (d+1) 404 [b]=fS (kW [b]) λa=>fS (hM .Mod a (.a (.ofNat 8))) λa=>fS (gR .NotEq a (.a (.ofNat 0))) λc=>Wx d c b:=ik
def Wy(v a:V):=fS (kG v 5) λb=>fS (sa d a "used" (b.getD 0 V.c)) λx=>fS (sa d a "below" (b.getD 1 V.c)) λx=>fS (sa d a "quota" (b.getD 2 V.c)) λx=>fS (sa d a "reserved" (b.getD 3 V.c)) λx=>fS (sa d a "refquota" (b.getD 4 V.c)) λx=>fX V.c
def Wz(a:V)(b:List V)(c:V):=fS (sa d a "children" (b.getD 2 V.c)) λx=>fS (sa d a "props" (b.getD 3 V.c)) λx=>fS (sa d a "origin" (b.getD 4 V.c)) λx=>fS (lY c (.a (.ofNat 5)) V.c) λv=>Wy d v a
def Ts(a b:V):F (d+1) 418 [a,b]=fS (lY b V.c (.a (.ofNat 5))) λv=>fS (kG v 5) λc=>fS (sa d a "parent" (c.getD 0 V.c)) λx=>fS (sa d a "head" (c.getD 1 V.c)) λx=>Wz d a c b:=ik
def WA(c e:V)(f v:V):=fS (ga d c "quota") λg=>fS (ga d c "reserved") λh=>fS (ga d c "refquota") λi=>fS (gM (.a [e,f,g,h,i])) λb=>fS (hM .Add v b) λa=>fX a
def WB(a v:V)(b c e:V):=fS (ga d a "origin") λf=>fS (gM (.a [v,b,c,e,f])) λv=>fS (ga d a "used") λg=>fS (ga d a "below") λh=>WA d a g h v
def Tu(a:V):F (d+1) 425 [a]=fS (ga d a "parent") λv=>fS (ga d a "head") λb=>fS (ga d a "children") λc=>fS (ga d a "props") λe=>WB d a v b c e:=ik
def Um(b c:V):F (d+1) 439 [b,c]=fS (mm d b "note") λm=>fS (cl d m b "note" [c]) λv=>fS (F d 404 [v]) λv=>fS (nX (Tt d) (fR (G.b 428 418)) [v]) λa=>fX a:=ik
def UN(a c b:V):F (d+1) 446 [a,c,b]=fS (mm d a "set_note") λm=>fS (mm d b "row") λe=>fS (cl d e b "row" []) λv=>fS (F d 399 [v]) λv=>fS (cl d m a "set_note" [c,v]) λx=>fX V.c:=ik
def WC(d:V):=fS (jJ d) λe=>fS (iL (jw e.ai (jF "letter") (λℓ'=>fX fW) (λℓ'=>fS (lo ℓ' "letter") λa=>fS (gR .In a (V.d "abcdefghijklmnopqrstuvwxyz0123456789-_.")) λt=>fX (V.e t)) im [] [] e.am)) λf=>if f.length<=hJ then fS (gM (.a f)) λv=>fS (zu [v]) λv=>fS (lO v) λb=>if !b then fS (hM .Add (V.d "no name: ") d) λv=>re 111 v else fS (gM (.c [V.d ".",V.d ".."])) λb=>fS (gR .In d b) λc=>if c then fS (hM .Add (V.d "no name: ") d) λv=>re 111 v else fX V.c else gc
def WD b (a:V):=fS (gR .LtE b (.a (.ofNat 12))) λb=>if !b then fS (hM .Add (V.d "no name: ") a) λv=>re 111 v else WC a
def WE(t:Bool) b (a:V):=if t then WD b a else fS (hM .Add (V.d "no name: ") a) λv=>re 111 v
def UT(a:V):F (d+1) 451 [a]=fS (kW [a]) λb=>fS (gR .LtE (.a (.ofNat 1)) b) λt=>WE t b a:=ik
def WF(c v:V)(e f b:V):=fS (gM (.a [c,.a (.ofNat 0),v,e,f,.a (.ofNat 0),.a (.ofNat 0),.a (.ofNat 0),.a (.ofNat 0),.a (.ofNat 0)])) λv=>fS (mm d b "new_note") λm=>fS (F d 399 [v]) λv=>fS (cl d m b "new_note" [v]) λa=>fX a
def Uv(a b c:V):F (d+1) 458 [a,b,c]=fS (mm d a "new_zap") λm=>fS (cl d m a "new_zap" []) λv=>fS (mm d a "new_zap") λm=>fS (cl d m a "new_zap" []) λe=>WF d b v e c a:=ik
def Uo(a:V):F (d+1) 465 [a]=fS (F d 458 [a,.a (.ofNat 0),.a (.ofNat 0)]) λv=>fS (mm d a "put") λm=>fS (cl d m a "put" [.a (.ofNat 1),V.d "root",v]) λx=>fX v:=ik
def TS(b c e:V):F (d+1) 472 [b,c,e]=fS (mm d b "get") λm=>fS (F d 439 [b,c]) λv=>fS (ga d v "children") λv=>fS (cl d m b "get" [v,e]) λa=>fX a:=ik
def US(e f b:V):F (d+1) 479 [e,f,b]=fS (F d 451 [b]) λx=>fS (F d 472 [e,f,b]) λa=>fS (gR .IsNot a V.c) λc=>if c then fS (hM .Add (V.d "there is one already: ") b) λv=>re 75 v else fX V.c:=ik
def TQ(f g h i:V):F (d+1) 501 [f,g,h,i]=fS (iL (qO (λℓ'=>fS (lo ℓ' "place") λa=>fS (gR .NotEq a (.a (.ofNat 0))) λb=>if b then fS (lo ℓ' "used") λa=>fS (gR .NotEq a (.a (.ofNat 0))) λb=>if b then fX fW else fS (lo ℓ' "below") λa=>fS (gR .NotEq a (.a (.ofNat 0))) λb=>if b then fX fW else fX fY else fX fY) (λℓ'=>fS (lo ℓ' "base") λv=>fS (lo ℓ' "place") λj=>fS (F d 439 [v,j]) λv=>fS (F d 494 [v]) λc=>fS (ga d v "used") λa=>fS (lo (gW (gW ℓ' "info" v) "before" c) "used") λb=>fS (hM .Add a b) λk=>fS (sa d v "used" k) λx=>fS (ga d v "below") λa=>fS (lo (gW (gW ℓ' "info" v) "before" c) "below") λb=>fS (hM .Add a b) λl=>fS (sa d v "below" l) λx=>fS (lo (gW (gW ℓ' "info" v) "before" c) "base") λm=>fS (lo (gW (gW ℓ' "info" v) "before" c) "place") λn=>fS (F d 446 [m,n,v]) λx=>fS (F d 494 [v]) λa=>fS (hM .Sub a c) λo=>fS (ga d v "parent") λp=>fS (gM (.c [.a (.ofNat 0),o,p])) λq=>fS (kG q 3) λe=>fX (Fl.a (gW (gW (gW (gW (gW ℓ' "info" v) "before" c) "used" (e.getD 0 V.c)) "below" (e.getD 1 V.c)) "place" (e.getD 2 V.c)))) 100 [("base",f),("place",g),("used",h),("below",i)])) λa=>ke (λℓ'=>fX V.c) (λa=>fX a) a:=ik
def WG(a:V)(b:List V)(c:V):=fS (sa d a "unique" (b.getD 4 V.c)) λx=>fS (sa d a "is_snap" (b.getD 5 V.c)) λx=>fS (sa d a "deferred" (b.getD 6 V.c)) λx=>fS (sa d a "pointer" c) λx=>fX V.c
def WH(a:V)(b:List V)(c:V):=fS (sa d a "snaps" (b.getD 0 V.c)) λx=>fS (sa d a "clones" (b.getD 1 V.c)) λx=>fS (sa d a "holds" (b.getD 2 V.c)) λx=>fS (sa d a "referenced" (b.getD 3 V.c)) λx=>WG d a b c
def WI(b:V)(a:List V)(c e:V):=fS (sa d b "refs" (a.getD 6 V.c)) λx=>fS (sa d b "dead" (a.getD 7 V.c)) λx=>fS (lY c (.a (.ofNat 8)) V.c) λv=>fS (kG v 7) λa=>WH d b a e
def WJ(a:V)(b:List V)(c e:V):=fS (sa d a "prev" (b.getD 2 V.c)) λx=>fS (sa d a "prev_made" (b.getD 3 V.c)) λx=>fS (sa d a "next" (b.getD 4 V.c)) λx=>fS (sa d a "made" (b.getD 5 V.c)) λx=>WI d a b c e
def TH(a b e:V):F (d+1) 515 [a,b,e]=fS (lY b V.c (.a (.ofNat 8))) λv=>fS (kG v 8) λc=>fS (sa d a "dir" (c.getD 0 V.c)) λx=>fS (sa d a "guid" (c.getD 1 V.c)) λx=>WJ d a c b e:=ik
def WK(c e:V)(f g v:V):=fS (ga d c "referenced") λh=>fS (ga d c "unique") λi=>fS (ga d c "is_snap") λj=>fS (ga d c "deferred") λk=>fS (gM (.a [e,f,g,h,i,j,k])) λb=>fS (hM .Add v b) λa=>fX a
def WL(v b:V)(c e:V)(f g:V)(h i a:V):=fS (gM (.a [v,b,c,e,f,g,h,i])) λv=>fS (ga d a "snaps") λj=>fS (ga d a "clones") λk=>fS (ga d a "holds") λl=>WK d a j k l v
def WM(a v:V)(b c e:V):=fS (ga d a "next") λf=>fS (ga d a "made") λg=>fS (ga d a "refs") λh=>fS (ga d a "dead") λi=>WL d v b c e f g h i a
def TJ(a:V):F (d+1) 522 [a]=fS (ga d a "dir") λv=>fS (ga d a "guid") λb=>fS (ga d a "prev") λc=>fS (ga d a "prev_made") λe=>WM d a v b c e:=ik
def UJ(c:V):F (d+1) 536 [c]=fS (mm d c "row") λm=>fS (cl d m c "row" []) λv=>fS (F d 399 [v]) λa=>fS (ga d c "pointer") λv=>fS (F d 279 [v]) λb=>fS (hM .Add a b) λa=>fX a:=ik
def WN(c:Bool)(b v e:V):=if c then ls 99 else fS (lY b v V.c) λv=>fS (F d 284 [v]) λv=>fS (nX (Tt d) (fR (G.b 525 515)) [e,v]) λa=>fX a
def UK(b:V):F (d+1) 543 [b]=fS (kW [b]) λa=>fS (hM .Sub a (.a (.ofNat 53))) λv=>fS (lY b V.c v) λf=>fS (F d 404 [f]) λe=>fS (kW [e]) λa=>fS (gR .NotEq a (.a (.ofNat 15))) λc=>WN d c b v e:=ik
def Un(b c:V):F (d+1) 550 [b,c]=fS (mm d b "note") λm=>fS (cl d m b "note" [c]) λv=>fS (F d 543 [v]) λa=>fX a:=ik
def UO(a b c:V):F (d+1) 557 [a,b,c]=fS (mm d a "set_note") λm=>fS (F d 536 [c]) λv=>fS (cl d m a "set_note" [b,v]) λx=>fX V.c:=ik
def WO(b e:V)(f v:V)(g a:V):=fS (gM (.a [b,e,.a (.ofNat 0),.a (.ofNat 0),.a (.ofNat 0),f,.a (.ofNat 0),v,g,.a (.ofNat 0),.a (.ofNat 0),.a (.ofNat 0),.a (.ofNat 0),.a (.ofNat 0),.a (.ofNat 0)])) λv=>fS (mm d a "new_note") λm=>fS (nX (Tt d) (fR (G.b 525 515)) [v,V.c]) λv=>fS (F d 536 [v]) λv=>fS (cl d m a "new_note" [v]) λv=>fS (F d 439 [a,b]) λc=>fS (sa d c "head" v) λx=>fS (F d 446 [a,b,c]) λx=>fX v
def Uw(a b c e:V):F (d+1) 564 [a,b,c,e]=fS (gM (.a [.a (.ofNat 0)])) λv=>fS (F d 327 [a,v]) λv=>fS (mm d a "new_zap") λm=>fS (cl d m a "new_zap" []) λf=>WO d b e c v f a:=ik
def Ud(b c:V):F (d+1) 571 [b,c]=fS (F d 550 [b,c]) λv=>fS (ga d v "dir") λv=>fS (F d 439 [b,v]) λv=>fS (ga d v "head") λa=>fX a:=ik
def WP(ℓ':gA):=fS (lo ℓ' "base") λv=>fS (mm d v "get") λm=>fS (lo ℓ' "snaps") λe=>fS (lo ℓ' "name") λf=>fS (cl d m v "get" [e,f]) λa=>fS (lo ℓ' "snap") λb=>fS (gR .Eq a b) λc=>if c then fS (lo ℓ' "name") λv=>fX (Fl.b v)else fX (Fl.a ℓ')
def WQ(b:lV)(c e v:V):=fS (iL (lf b.ai (jF "name") (WP d) im (gW [("base",c),("snap",e)] "snaps" v) b.am)) λa=>ke (λℓ'=>ls 63) (λa=>fX a) a
def UL(a b:V):F (d+1) 578 [a,b]=fS (F d 571 [a,b]) λv=>fS (F d 550 [a,v]) λv=>fS (ga d v "snaps") λv=>fS (mm d a "names") λm=>fS (cl d m a "names" [v]) λc=>fS (jJ c) λe=>WQ d e a b v:=ik
def WR(c e:V)(b:List V):=fS (iL (qO (λℓ'=>fS (lo ℓ' "here") λa=>fS (gR .NotEq a (.a (.ofNat 0))) λa=>fX a) (λℓ'=>fS (lo ℓ' "found") λv=>fS (mm d v "append") λm=>fS (lo ℓ' "here") λf=>fS (cl d m v "append" [f]) λx=>fS (lo ℓ' "base") λv=>fS (lo ℓ' "here") λg=>fS (F d 550 [v,g]) λv=>fS (ga d v "prev") λv=>fX (Fl.a (gW ℓ' "here" v))) 100 (gW (gW [("base",c),("place",e)] "found" (b.getD 0 V.c)) "here" (b.getD 1 V.c)))) λa=>ke (λℓ'=>fS (lo ℓ' "found") λa=>fX a) (λa=>fX a) a
def TP(a b:V):F (d+1) 585 [a,b]=fS (gM (.a [])) λv=>fS (F d 550 [a,b]) λc=>fS (ga d c "prev") λe=>fS (gM (.c [v,e])) λv=>fS (kG v 2) λf=>WR d a b f:=ik
def WS(c:lV)(f v:V):=fS (iL (jw c.ai (jF "snap") (λℓ'=>fS (lo ℓ' "base") λv=>fS (lo ℓ' "snap") λg=>fS (F d 550 [v,g]) λv=>fS (ga d v "dir") λa=>fS (lo ℓ' "own") λb=>fS (gR .Eq a b) λa=>fX a) (λℓ'=>fS (lo ℓ' "snap") λa=>fX a) im [("base",f),("own",v)] [] c.am)) λe=>if e.length<=hJ then fS (gM (.a e)) λa=>fX a else gc
def UC(a b:V):F (d+1) 590 [a,b]=fS (F d 550 [a,b]) λv=>fS (ga d v "dir") λv=>fS (F d 585 [a,b]) λc=>fS (sY c) λe=>fS (jJ e) λf=>WS d f a v:=ik
def UU(c:V):F (d+1) 597 [c]=fS (pR [c]) λb=>fS (hM .Add (V.d "marks") b) λa=>fX a:=ik
def Ur(b c:V):F (d+1) 604 [b,c]=fS (mm d b "get") λm=>fS (F d 597 [c]) λv=>fS (cl d m b "get" [.a (.ofNat 1),v]) λa=>fX a:=ik
def WT(a v b:V):=fS (mm d a "get") λm=>fS (cl d m a "get" [v,b]) λv=>fS (gR .Is v V.c) λc=>if c then fS (hM .Add (V.d "no such mark: ") b) λv=>re 63 v else fX v
def WU(c:Bool)(a b v:V):=if c then fS (hM .Add (V.d "no such mark: ") a) λv=>re 63 v else WT d b v a
def Uy(a b e:V):F (d+1) 611 [a,b,e]=fS (F d 604 [a,b]) λv=>fS (gR .Is v V.c) λc=>WU d c e a v:=ik
def WV(a b:V)(c v e:V):=fS (mm d a "put") λm=>fS (mm d a "new_note") λf=>fS (gM (.a [b,c])) λg=>fS (F d 399 [g]) λh=>fS (cl d f a "new_note" [h]) λi=>fS (cl d m a "put" [v,e,i]) λx=>fX V.c
def WW a (b e:V) (f g v:V):=fS (gR .IsNot a V.c) λc=>if c then fS (hM .Add (V.d "there is such a mark: ") b) λv=>re 75 v else WV d e f g v b
def WX m (b v:V) (e f:V) (c g h:V):=fS (cl d m b "put" [.a (.ofNat 1),v,e]) λx=>fS (F d 604 [b,f]) λv=>fS (mm d b "get") λm=>fS (cl d m b "get" [v,c]) λa=>WW d a c b g h v
def WY(a b:V)(c e f:V):=fS (mm d a "put") λm=>fS (F d 597 [b]) λv=>fS (mm d a "new_zap") λg=>fS (cl d g a "new_zap" []) λh=>WX d m a v h b c e f
def WZ(a b:V)(c v e:V):=fS (mm d a "put") λm=>fS (mm d a "new_note") λf=>fS (gM (.a [b,c])) λg=>fS (F d 399 [g]) λh=>fS (cl d f a "new_note" [h]) λi=>fS (cl d m a "put" [v,e,i]) λx=>fX V.c
def W_(b f:V)(e g h:V):=fS (F d 604 [b,f]) λv=>fS (mm d b "get") λm=>fS (cl d m b "get" [v,e]) λa=>fS (gR .IsNot a V.c) λc=>if c then fS (hM .Add (V.d "there is such a mark: ") e) λv=>re 75 v else WZ d b g h v e
def Xa(c:Bool)(a b:V)(e f g:V):=if c then WY d a b e f g else W_ d a b e f g
def UG(b e f g h:V):F (d+1) 618 [b,e,f,g,h]=fS (F d 451 [f]) λx=>fS (F d 604 [b,e]) λa=>fS (gR .Is a V.c) λc=>Xa d c b e f g h:=ik
def Up(a e f g:V):F (d+1) 625 [a,e,f,g]=fS (F d 590 [a,e]) λb=>fS (gR .NotIn f b) λc=>if c then ls 99 else fS (F d 550 [a,f]) λv=>fS (ga d v "guid") λh=>fS (ga d v "made") λv=>fS (F d 618 [a,e,g,h,v]) λx=>fX V.c:=ik
def Uq(b c e:V):F (d+1) 632 [b,c,e]=fS (mm d b "note") λm=>fS (F d 611 [b,c,e]) λv=>fS (cl d m b "note" [v]) λv=>fS (F d 404 [v]) λv=>fS (kG v 2) λf=>fS (gM (.c [f.getD 0 V.c,f.getD 1 V.c])) λa=>fX a:=ik
def TV(a b c e:V):F (d+1) 639 [a,b,c,e]=fS (F d 632 [a,b,c]) λv=>fS (kG v 2) λf=>fS (F d 618 [a,b,e,f.getD 0 V.c,f.getD 1 V.c]) λx=>fX V.c:=ik
def Xb(e f:V):=fS (gM (.a [])) λv=>fS (jJ v) λb=>fS (iL (jw b.ai (jF "name") (λℓ'=>fX fW) (λℓ'=>fS (lo ℓ' "base") λv=>fS (lo ℓ' "head") λg=>fS (lo ℓ' "name") λh=>fS (F d 632 [v,g,h]) λv=>fS (iG v (.a (.ofNat 1))) λv=>fS (lo ℓ' "name") λi=>fS (gM (.c [v,i])) λa=>fX a) im [("base",e),("head",f)] [] b.am)) λc=>if c.length<=hJ then fS (gM (.a c)) λv=>fS (rQ [v]) λv=>fS (jJ v) λb=>fS (iL (jw b.ai (rn "made" "name") (λℓ'=>fX fW) (λℓ'=>fS (lo ℓ' "name") λa=>fX a) im [] [] b.am)) λc=>if c.length<=hJ then fS (gM (.a c)) λa=>fX a else gc else gc
def Xc(e v f:V):=fS (mm d e "names") λm=>fS (cl d m e "names" [v]) λv=>fS (jJ v) λb=>fS (iL (jw b.ai (jF "name") (λℓ'=>fX fW) (λℓ'=>fS (lo ℓ' "base") λv=>fS (lo ℓ' "head") λg=>fS (lo ℓ' "name") λh=>fS (F d 632 [v,g,h]) λv=>fS (iG v (.a (.ofNat 1))) λv=>fS (lo ℓ' "name") λi=>fS (gM (.c [v,i])) λa=>fX a) im [("base",e),("head",f)] [] b.am)) λc=>if c.length<=hJ then fS (gM (.a c)) λv=>fS (rQ [v]) λv=>fS (jJ v) λb=>fS (iL (jw b.ai (rn "made" "name") (λℓ'=>fX fW) (λℓ'=>fS (lo ℓ' "name") λa=>fX a) im [] [] b.am)) λc=>if c.length<=hJ then fS (gM (.a c)) λa=>fX a else gc else gc
def Xd(c:Bool)(a b v:V):=if c then Xb d a b else Xc d a v b
def Ku(a b:V):F (d+1) 644 [a,b]=fS (F d 604 [a,b]) λv=>fS (gR .Is v V.c) λc=>Xd d c a b v:=ik
def Ub(a b c:V):F (d+1) 651 [a,b,c]=fS (mm d a "drop") λm=>fS (F d 611 [a,b,c]) λv=>fS (cl d m a "drop" [v]) λx=>fS (mm d a "take") λm=>fS (F d 604 [a,b]) λv=>fS (cl d m a "take" [v,c]) λx=>fX V.c:=ik
def Xe(ℓ':gA):=fS (lo ℓ' "base") λv=>fS (mm d v "drop") λm=>fS (lo ℓ' "some") λa=>fS (cl d m v "drop" [a]) λx=>fS (lo ℓ' "base") λv=>fS (mm d v "take") λm=>fS (lo ℓ' "head") λb=>fS (F d 597 [b]) λc=>fS (cl d m v "take" [.a (.ofNat 1),c]) λx=>fX V.c
def Xf(ℓ':gA):=fS (lo ℓ' "base") λv=>fS (lo ℓ' "head") λa=>fS (lo ℓ' "name") λb=>fS (F d 651 [v,a,b]) λx=>fX (Fl.a ℓ')
def Xg(b v e:V):=fS (mm d b "names") λm=>fS (cl d m b "names" [v]) λf=>fS (jJ f) λc=>fS (iL (lf c.ai (jF "name") (Xf d) im (gW [("base",b),("head",e)] "some" v) c.am)) λa=>ke (Xe d) (λa=>fX a) a
def Xh(c:Bool)(a v b:V):=if c then fX V.c else Xg d a v b
def Kt(a b:V):F (d+1) 658 [a,b]=fS (F d 604 [a,b]) λv=>fS (gR .Is v V.c) λc=>Xh d c a v b:=ik
def Xi(a v b:V):=fS (mm d a "put") λm=>fS (ga d v "clones") λv=>fS (pR [b]) λc=>fS (cl d m a "put" [v,c,b]) λx=>fX V.c
def Xj(a v:V)(b c:V):=fS (mm d a "take") λm=>fS (ga d v "clones") λe=>fS (pR [b]) λf=>fS (cl d m a "take" [e,f]) λx=>Xi d a v c
def Xk(b e:V)(f g:V):=fS (F d 550 [b,e]) λv=>fS (ga d v "next") λa=>fS (gR .Eq a f) λc=>if c then fS (sa d v "next" g) λx=>fS (F d 557 [b,e,v]) λx=>fX V.c else Xj d b v f g
def Kv(b a e f:V):F (d+1) 733 [b,a,e,f]=fS (gR .Eq a (.a (.ofNat 0))) λc=>if c then fX V.c else Xk d b a e f:=ik
def Xl(a c:V)(v e b:V):=fS (F d 557 [a,c,v]) λx=>fS (mm d a "put") λm=>fS (ga d v "snaps") λv=>fS (cl d m a "put" [v,e,b]) λx=>fX b
def Xm(v:V)(a:List V)(b c:V)(e f:V):=fS (sa d v "prev" (a.getD 0 V.c)) λx=>fS (sa d v "prev_made" (a.getD 1 V.c)) λx=>fS (sa d v "dead" (a.getD 2 V.c)) λx=>fS (sa d v "unique" (a.getD 3 V.c)) λx=>Xl d b c v e f
def Xn(v a:V)(b c:V)(e f g:V):=fS (ga d v "prev_made") λh=>fS (F d 356 [a,b,h]) λx=>fS (gM (.c [c,e,b,.a (.ofNat 0)])) λi=>fS (kG i 4) λj=>Xm d v j a f g c
def Xo(v:V)(b:List V)(a e:V)(f c:V):=fS (sa d v "dead" (b.getD 2 V.c)) λx=>fS (sa d v "unique" (b.getD 3 V.c)) λx=>fS (F d 557 [a,e,v]) λx=>fS (mm d a "put") λm=>fS (ga d v "snaps") λv=>fS (cl d m a "put" [v,f,c]) λx=>fX c
def Xp(b c:V)(e v:V)(f g h:V):=fS (gM (.c [b,c,e,.a (.ofNat 0)])) λi=>fS (kG i 4) λa=>fS (sa d v "prev" (a.getD 0 V.c)) λx=>fS (sa d v "prev_made" (a.getD 1 V.c)) λx=>Xo d v a f g h b
def Xq(e k:V)(f v:V)(h i j:V):=fS (F d 394 [e,k,f]) λg=>fS (ga d v "prev_made") λa=>fS (F d 332 [e,g]) λb=>fS (gR .NotIn a b) λc=>if c then Xn d v e g h f i j else Xp d h f g v e i j
def Xr m (a e:V) (v b:V) (f g:V):=fS (cl d m a "new_note" [e]) λc=>fS (ga d v "prev") λh=>fS (F d 733 [a,h,b,c]) λx=>fS (ga d v "dead") λi=>Xq d a i f v c b g
def Xs(a v:V)(b c:V)(e f:V):=fS (mm d a "new_note") λm=>fS (ga d v "pointer") λg=>fS (nX (Tt d) (fR (G.b 525 515)) [b,g]) λh=>fS (F d 536 [h]) λi=>Xr d m a i v c e f
def Xu m (a v:V) (c e:V) (f g h:V):=fS (cl d m a "new_zap" []) λi=>fS (ga d v "referenced") λj=>fS (gM (.a [.a (.ofNat 0),c,i,j,.a (.ofNat 0),.a (.ofNat 1),.a (.ofNat 0)])) λb=>fS (hM .Add e b) λk=>Xs d a v k f g h
def Xv(e f:V)(g h:V)(b c:V)(i a:V)(v j:V):=fS (gM (.a [e,f,g,h,b,c,.a (.ofNat 1),i])) λk=>fS (mm d a "new_zap") λm=>fS (cl d m a "new_zap" []) λl=>fS (mm d a "new_zap") λm=>Xu d m a v l k b c j
def Xw(v a:V)(b c:V)(e f:V):=fS (ga d v "dir") λg=>fS (ga d v "prev") λh=>fS (ga d v "prev_made") λi=>fS (ga d v "dead") λj=>Xv d g a h i b c j e v f
def Xx(c:Bool)(a v:V)(b e:V)(f g:V):=if c then fS (hM .Add (V.d "there is one already: ") a) λv=>re 75 v else Xw d v b e f g a
def UP(b f e g h:V):F (d+1) 740 [b,f,e,g,h]=fS (F d 451 [e]) λx=>fS (F d 550 [b,f]) λv=>fS (mm d b "get") λm=>fS (ga d v "snaps") λi=>fS (cl d m b "get" [i,e]) λa=>fS (gR .IsNot a V.c) λc=>Xx d c e v h f g b:=ik
def UQ(b c:V):F (d+1) 747 [b,c]=fS (F d 550 [b,c]) λv=>fS (ga d v "next") λe=>fS (F d 550 [b,e]) λf=>fS (ga d f "dead") λg=>fS (ga d v "prev_made") λh=>fS (ga d v "made") λv=>fS (F d 368 [b,g,h,v]) λv=>fS (F d 320 [v]) λa=>fX a:=ik
def Xy(c e:V):=fS (ga d c "prev") λv=>fS (F d 550 [e,v]) λv=>fS (ga d c "referenced") λa=>fS (ga d v "referenced") λb=>fS (hM .Sub a b) λa=>fS (ga d c "dead") λv=>fS (F d 363 [e,v]) λv=>fS (F d 320 [v]) λb=>fS (hM .Add a b) λa=>fX a
def Xz(c:Bool)(b e:V):=if c then fS (ga d b "referenced") λa=>fX a else Xy d b e
def Ue(e b:V):F (d+1) 754 [e,b]=fS (ga d b "prev") λa=>fS (gR .Eq a (.a (.ofNat 0))) λc=>Xz d c b e:=ik
def XA(b e:V):=fS (F d 550 [b,e]) λv=>fS (ga d v "is_snap") λa=>fS (gR .Eq a (.a (.ofNat 1))) λc=>if c then fS (F d 747 [b,e]) λf=>fS (sa d v "unique" f) λx=>fS (F d 557 [b,e,v]) λx=>fX V.c else fS (F d 754 [b,v]) λf=>fS (sa d v "unique" f) λx=>fS (F d 557 [b,e,v]) λx=>fX V.c
def UH(b a:V):F (d+1) 761 [b,a]=fS (gR .NotEq a (.a (.ofNat 0))) λc=>if c then XA d b a else fX V.c:=ik
def XB(c v:V):=fS (mm d c "names") λm=>fS (ga d v "holds") λv=>fS (cl d m c "names" [v]) λa=>fS (gM (.a [])) λb=>fS (gR .Eq a b) λt=>fX (V.e t)
def XC(b:Bool)(a v:V) t:=if b then XB d a v else fX (V.e t)
def TN(c e:V):F (d+1) 768 [c,e]=fS (F d 550 [c,e]) λv=>fS (ga d v "refs") λa=>fS (gR .Eq a (.a (.ofNat 1))) λt=>fS (lO (V.e t)) λb=>XC d b c v t:=ik
def XD(ℓ':gA):=fS (lo ℓ' "base") λv=>fS (lo ℓ' "info") λj=>fS (ga d j "next") λk=>fS (F d 761 [v,k]) λx=>fS (lo ℓ' "info") λv=>fS (ga d v "prev") λa=>fS (gR .NotEq a (.a (.ofNat 0))) λb=>if b then fS (lo ℓ' "base") λv=>fS (lo ℓ' "info") λf=>fS (ga d f "prev") λg=>fS (F d 550 [v,g]) λv=>fS (ga d v "next") λa=>fS (lo ℓ' "info") λv=>fS (ga d v "next") λb=>fS (gR .Eq a b) λb=>if b then fS (lo ℓ' "base") λv=>fS (lo ℓ' "info") λc=>fS (ga d c "prev") λe=>fS (F d 761 [v,e]) λx=>fS (lo ℓ' "base") λv=>fS (lo ℓ' "info") λh=>fS (ga d h "dir") λi=>fS (lo ℓ' "gone") λl=>fS (F d 320 [l]) λb=>fS (hM .Sub (.a (.ofNat 0)) b) λm=>fS (F d 501 [v,i,m,.a (.ofNat 0)]) λx=>fX V.c else fS (lo ℓ' "base") λv=>fS (lo ℓ' "info") λc=>fS (ga d c "dir") λe=>fS (lo ℓ' "gone") λh=>fS (F d 320 [h]) λb=>fS (hM .Sub (.a (.ofNat 0)) b) λi=>fS (F d 501 [v,e,i,.a (.ofNat 0)]) λx=>fX V.c else fS (lo ℓ' "base") λv=>fS (lo ℓ' "info") λf=>fS (ga d f "dir") λg=>fS (lo ℓ' "gone") λc=>fS (F d 320 [c]) λb=>fS (hM .Sub (.a (.ofNat 0)) b) λe=>fS (F d 501 [v,g,e,.a (.ofNat 0)]) λx=>fX V.c
def XE(ℓ':gA):=fS (lo ℓ' "base") λv=>fS (mm d v "drop") λm=>fS (lo ℓ' "part") λa=>fS (cl d m v "drop" [a]) λx=>fX (Fl.a ℓ')
def XF(ℓ':gA):=fS (lo ℓ' "base") λv=>fS (lo ℓ' "later") λe=>fS (ga d e "dead") λf=>fS (lo ℓ' "info") λg=>fS (ga d g "dead") λh=>fS (F d 389 [v,f,h]) λx=>fS (lo ℓ' "info") λv=>fS (ga d v "prev") λv=>fS (lo ℓ' "info") λi=>fS (ga d i "prev_made") λj=>fS (gM (.c [v,j])) λv=>fS (kG v 2) λb=>fS (lo ℓ' "later") λu=>fS (sa d u "prev" (b.getD 0 V.c)) λx=>fS (lo ℓ' "later") λu=>fS (sa d u "prev_made" (b.getD 1 V.c)) λx=>fS (lo ℓ' "base") λv=>fS (lo ℓ' "info") λk=>fS (ga d k "next") λl=>fS (lo ℓ' "later") λn=>fS (F d 557 [v,l,n]) λx=>fS (lo ℓ' "base") λv=>fS (lo ℓ' "info") λo=>fS (ga d o "prev") λp=>fS (lo ℓ' "snap") λq=>fS (lo ℓ' "info") λr=>fS (ga d r "next") λs=>fS (F d 733 [v,p,q,s]) λx=>fS (lo ℓ' "base") λv=>fS (mm d v "take") λm=>fS (lo ℓ' "base") λt=>fS (lo ℓ' "base") λw=>fS (lo ℓ' "snap") λy=>fS (F d 571 [w,y]) λz=>fS (F d 550 [t,z]) λA=>fS (ga d A "snaps") λB=>fS (lo ℓ' "base") λC=>fS (lo ℓ' "snap") λD=>fS (F d 578 [C,D]) λE=>fS (cl d m v "take" [B,E]) λx=>fS (lo ℓ' "info") λv=>fS (ga d v "clones") λv=>fS (lo ℓ' "info") λG=>fS (ga d G "holds") λH=>fS (lo ℓ' "snap") λI=>fS (gM (.c [v,H,I])) λv=>fS (jJ v) λc=>fS (iL (lf c.ai (jF "part") (XE d) im ℓ' c.am)) λa=>ke (XD d) (λa=>fX a) a
def XG(ℓ':gA):=fS (lo ℓ' "io") λv=>fS (mm d v "free") λm=>fS (lo ℓ' "pointer") λa=>fS (lo ℓ' "txg") λb=>fS (cl d m v "free" [a,b]) λx=>fX (Fl.a ℓ')
def XH(b f:V)(g h:V)(i j:V)(v k:V):=fS (F d 375 [b,f,g]) λc=>fS (jJ c) λe=>fS (iL (lf e.ai (jF "pointer") (XG d) im (gW (gW (gW [("base",b),("io",h),("snap",i),("txg",j)] "info" v) "later" k) "gone" c) e.am)) λa=>ke (XF d) (λa=>fX a) a
def XI(v a:V)(c e f:V):=fS (ga d v "next") λg=>fS (F d 550 [a,g]) λb=>fS (ga d b "dead") λh=>fS (ga d v "prev_made") λi=>XH d a h i c e f v b
def XJ(a c:V)(v e f:V):=fS (F d 768 [a,c]) λg=>fS (lO g) λb=>if !b then ls 87 else XI d v a e c f
def XK(c:Bool)(a b:V)(v e f:V):=if c then ls 99 else XJ d a b v e f
def Uc(b f e g:V):F (d+1) 775 [b,f,e,g]=fS (F d 550 [b,e]) λv=>fS (ga d v "is_snap") λa=>fS (gR .NotEq a (.a (.ofNat 1))) λc=>XK d c b e v f g:=ik
def Uj(a:V):F (d+1) 789 [a]=fS (gM (.a [V.d "m",V.d "n",V.d "o",V.d "M",V.d "",V.d "abcdefghijklm"])) λv=>fS (hM .Mod a (.a (.ofNat 6))) λj=>fS (iG v j) λa=>fX a:=ik
def Uk(e a f:V):F (d+1) 796 [e,a,f]=fS (gM (.c [V.d "m",V.d "n",V.d "o"])) λb=>fS (gR .NotIn a b) λc=>if c then fX (V.d "no name")else fS (gR .In a e) λc=>if c then fX (V.d "exists")else fS (pe e a f) λx=>fX (V.d "done"):=ik
def XM(c:V)(b:List V)(e a:V)(f v:V):=fS (F d 740 [c,b.getD 0 V.c,e,a,f]) λg=>fS (mm d v "append") λm=>fS (hM .Add (.a (.ofNat 1000)) a) λh=>fS (gM (.a [b.getD 0 V.c,g,h,a,V.e fW])) λi=>fS (cl d m v "append" [i]) λx=>fX (V.e fW)
def XN(v a c:V)(e:List V):=fS (kW [v]) λf=>fS (pR [f]) λb=>fS (hM .Add (V.d "s") b) λg=>fS (hM .Add (.a (.ofNat 1000)) a) λh=>XM d c e g a h v
def Vt(c:V)(b:List V)(e a:V)(f v:V):=fS (F d 740 [c,b.getD 0 V.c,e,a,f]) λg=>fS (mm d v "append") λm=>fS (hM .Add (.a (.ofNat 1000)) a) λh=>fS (gM (.a [b.getD 0 V.c,g,h,a,V.e fW])) λi=>fS (cl d m v "append" [i]) λx=>fX (V.e fW)
def Vu(v a c:V)(e:List V):=fS (kW [v]) λf=>fS (pR [f]) λb=>fS (hM .Add (V.d "s") b) λg=>fS (hM .Add (.a (.ofNat 1000)) a) λh=>Vt d c e g a h v
def Vv(b:List V)(c:List V)(e:V):=fS (fS (gM (.f "_law_deed_right.<locals>.<lambda>")) λx=>lZ (Tt d) (fS (fS (fS (fS (iG (b.getD 0 V.c) (.a (.ofNat 1))) λv=>fX [v,b.getD 1 V.c]) λb=>fX (c.getD 0 V.c::b)) λb=>fX (e::b)) λb=>F d 625 b)) λa=>fS (gR .Eq a (V.d "misused")) λt=>fX (V.e t)
def Vw(b:List V)(c:List V)(e:V):=fS (fS (gM (.f "_law_deed_right.<locals>.<lambda>")) λx=>lZ (Tt d) (fS (fS (fS (fS (iG (b.getD 0 V.c) (.a (.ofNat 1))) λv=>fX [v,b.getD 1 V.c]) λb=>fX (c.getD 0 V.c::b)) λb=>fX (e::b)) λb=>F d 625 b)) λa=>fS (gR .Eq a (V.d "misused")) λt=>fX (V.e t)
def Vx(c:List V)(e:List V)(f:V):=fS (fS (gM (.f "_law_deed_right.<locals>.<lambda>")) λx=>lZ (Tt d) (fS (fS (fS (fS (iG (c.getD 0 V.c) (.a (.ofNat 1))) λv=>fX [v,c.getD 1 V.c]) λc=>fX (e.getD 0 V.c::c)) λc=>fX (f::c)) λc=>F d 625 c)) λa=>fS (iG (c.getD 0 V.c) (.a (.ofNat 2))) λv=>fS (iG (c.getD 0 V.c) (.a (.ofNat 3))) λg=>fS (gM (.c [v,g])) λv=>fS (F d 796 [e.getD 1 V.c,c.getD 1 V.c,v]) λb=>fS (gR .Eq a b) λt=>fX (V.e t)
def Vy(a:List V)(c:List V)(e:V):=fS (iG (a.getD 0 V.c) (.a (.ofNat 4))) λv=>fS (lO v) λb=>if !b then Vw d a c e else Vx d a c e
def Vz(c:List V)(e:List V)(f:V):=fS (iG (c.getD 0 V.c) (.a (.ofNat 0))) λa=>fS (gR .NotEq a (e.getD 0 V.c)) λb=>if b then Vv d c e f else Vy d c e f
def VA(a:List V)(v:V)(b:List V)(c:V):=fS (hM .FloorDiv (a.getD 1 V.c) (.a (.ofNat 11))) λe=>fS (F d 789 [e]) λf=>fS (gM (.c [v,f])) λv=>fS (kG v 2) λa=>Vz d a b c
def VB(c:List V)(v:V)(e:List V)(f:V):=fS (hM .FloorDiv (c.getD 1 V.c) (.a (.ofNat 2))) λa=>fS (kW [v]) λb=>fS (hM .Mod a b) λj=>fS (iG v j) λv=>VA d c v e f
def VC(c:V)(e:List V)(b:List V):=fS (fS (gM (.f "_law_deed_right.<locals>.<lambda>")) λx=>lZ (Tt d) (F d 639 [c,e.getD 0 V.c,b.getD 0 V.c,b.getD 1 V.c])) λa=>fS (gR .Eq a (V.d "missing")) λt=>fX (V.e t)
def VE(c:List V)(b:List V)(e:V):=fS (iG (c.getD 1 V.c) (b.getD 0 V.c)) λv=>fS (F d 796 [c.getD 1 V.c,b.getD 1 V.c,v]) λv=>fS (fS (gM (.f "_law_deed_right.<locals>.<lambda>")) λx=>lZ (Tt d) (F d 639 [e,c.getD 0 V.c,b.getD 0 V.c,b.getD 1 V.c])) λa=>fS (gR .Eq a v) λt=>fX (V.e t)
def VF(a:List V)(b:List V)(e:V):=fS (gR .NotIn (a.getD 0 V.c) (b.getD 1 V.c)) λc=>if c then VC d e b a else VE d b a e
def VG(b:List V)(c:List V)(e:V):=fS (mm d (b.getD 1 V.c) "pop") λm=>fS (cl d m (b.getD 1 V.c) "pop" [c.getD 0 V.c,V.c]) λx=>fS (fS (gM (.f "_law_deed_right.<locals>.<lambda>")) λx=>lZ (Tt d) (F d 651 [e,b.getD 0 V.c,c.getD 0 V.c])) λa=>fS (gR .Eq a (V.d "done")) λt=>fX (V.e t)
def VH(b:List V)(c:List V)(e:V):=fS (mm d (b.getD 1 V.c) "pop") λm=>fS (cl d m (b.getD 1 V.c) "pop" [c.getD 0 V.c,V.c]) λx=>fS (fS (gM (.f "_law_deed_right.<locals>.<lambda>")) λx=>lZ (Tt d) (F d 651 [e,b.getD 0 V.c,c.getD 0 V.c])) λa=>fS (gR .Eq a (V.d "missing")) λt=>fX (V.e t)
def VI(a:List V)(b:List V)(e:V):=fS (gR .In (a.getD 0 V.c) (b.getD 1 V.c)) λc=>if c then VG d b a e else VH d b a e
def VJ(a v:V)(b e f:V):=fS (lO a) λc=>if c then fS (iG v (.a (.ofNat 1))) λg=>fS (F d 775 [b,e,g,f]) λx=>fS (pe v (.a (.ofNat 4)) (V.e fY)) λx=>fX (V.e fW)else fX (V.e fW)
def VK(v:V)(a:List V)(c e f:V):=fS (kW [v]) λb=>fS (hM .Mod (a.getD 1 V.c) b) λj=>fS (iG v j) λv=>fS (iG v (.a (.ofNat 4))) λg=>VJ d g v c e f
def VL(e:List V)(c:List V)(f v:V)(g h:V):=fS (hM .Mod (e.getD 1 V.c) (.a (.ofNat 5))) λa=>fS (gR .Eq a (.a (.ofNat 0))) λb=>if b then fS (mm d (c.getD 1 V.c) "clear") λm=>fS (cl d m (c.getD 1 V.c) "clear" []) λx=>fS (F d 658 [f,c.getD 0 V.c]) λx=>fX (V.e fW)else VK d v e f g h
def VM(a v:V)(b e f:V):=fS (lO a) λc=>if c then fS (iG v (.a (.ofNat 1))) λg=>fS (F d 775 [b,e,g,f]) λx=>fS (pe v (.a (.ofNat 4)) (V.e fY)) λx=>fX (V.e fW)else fX (V.e fW)
def VN(v:V)(a:List V)(c e f:V):=fS (kW [v]) λb=>fS (hM .Mod (a.getD 1 V.c) b) λj=>fS (iG v j) λv=>fS (iG v (.a (.ofNat 4))) λg=>VM d g v c e f
def VP(a:List V)(g:List V)(c v:V)(e f:V):=fS (gR .Eq (a.getD 0 V.c) (.a (.ofNat 6))) λb=>if b then VL d a g c v e f else VN d v a c e f
def VQ(a:List V)(f:List V)(b:List V)(e v:V)(g h:V):=fS (gR .Eq (a.getD 0 V.c) (.a (.ofNat 5))) λc=>if c then VI d f b e else VP d a b e v g h
def VS(g h:V)(a:List V)(b:List V)(e v:V)(i j:V):=fS (gM (.c [g,h])) λk=>fS (kG k 2) λf=>fS (gR .Eq (a.getD 0 V.c) (.a (.ofNat 4))) λc=>if c then VF d f b e else VQ d a f b e v i j
def VT(a:List V)(b:List V)(c v:V)(e f:V):=fS (hM .FloorDiv (a.getD 1 V.c) (.a (.ofNat 2))) λg=>fS (F d 789 [g]) λh=>fS (hM .FloorDiv (a.getD 1 V.c) (.a (.ofNat 13))) λi=>fS (F d 789 [i]) λj=>VS d h j a b c v e f
def VU(a:List V)(v:V)(b:List V)(e f g:V):=fS (gR .Lt (a.getD 0 V.c) (.a (.ofNat 4))) λc=>if c then VB d a v b e else VT d a b e v f g
def VV(v a c:V)(e:List V)(f:List V)(g:V):=fS (gM (.a [])) λb=>fS (gR .Eq v b) λb=>if b then Vu d v a c e else VU d f v e c g a
def VW(b:Bool)(v a c:V)(e:List V)(f:List V)(g:V):=if b then XN d v a c e else VV d v a c e f g
def VX(c v:V)(e f:V)(a:List V)(g h i:V):=fS (iG c v) λv=>fS (gM (.c [e,v])) λv=>fS (kG v 2) λj=>fS (iG f (V.d "snaps")) λv=>fS (gR .Eq (a.getD 0 V.c) (.a (.ofNat 0))) λb=>VW d b v g h j a i
def VY(b:List V)(a c:V)(e f:V):=fS (hM .Mod (b.getD 1 V.c) (.a (.ofNat 2))) λv=>fS (iG a (V.d "heads")) λg=>fS (iG g v) λh=>fS (iG a (V.d "told")) λi=>VX d i v h a b c e f
def Uh(a b c x e:V):F (d+1) 803 [a,b,c,x,e]=fS (hM .Mod x (.a (.ofNat 8))) λv=>fS (hM .FloorDiv x (.a (.ofNat 8))) λf=>fS (gM (.c [v,f])) λv=>fS (kG v 2) λg=>VY d g c e a b:=ik
def VZ(ℓ':gA):=fS (lo ℓ' "told") λv=>fS (Cu v (gV 1)) λv=>fS (rQ [v]) λv=>fS (jJ v) λe=>fS (iL (jw e.ai (rn "made" "name") (λℓ'=>fX fW) (λℓ'=>fS (lo ℓ' "name") λa=>fX a) im [] [] e.am)) λf=>if f.length<=hJ then fS (gM (.a f)) λv=>fS (lo (gW ℓ' "names" v) "base") λg=>fS (lo (gW ℓ' "names" v) "head") λh=>fS (F d 644 [g,h]) λa=>fS (gR .NotEq a v) λc=>if c then fX (Fl.b (V.e fY))else fS (jJ v) λe=>fS (iL (jw e.ai (jF "name") (λℓ'=>fX fW) (λℓ'=>fS (lo ℓ' "base") λv=>fS (lo ℓ' "head") λi=>fS (lo ℓ' "name") λk=>fS (F d 632 [v,i,k]) λa=>fX a) im (mM ["base","head"] (gW ℓ' "names" v)) [] e.am)) λf=>if f.length<=hJ then fS (gM (.a f)) λa=>fS (jJ v) λe=>fS (iL (jw e.ai (jF "name") (λℓ'=>fX fW) (λℓ'=>fS (lo ℓ' "told") λv=>fS (lo ℓ' "name") λj=>fS (iG v j) λa=>fX a) im (mM ["told"] (gW ℓ' "names" v)) [] e.am)) λf=>if f.length<=hJ then fS (gM (.a f)) λb=>fS (gR .NotEq a b) λc=>if c then fX (Fl.b (V.e fY))else fX (Fl.a (gW ℓ' "names" v))else gc else gc else gc
def Wa(b:lV)(c e:V):=fS (iL (lf b.ai (rn "head" "told") (VZ d) im [("base",c),("world",e)] b.am)) λa=>ke (λℓ'=>fX (V.e fW)) (λa=>fX a) a
def Ui(b a:V):F (d+1) 808 [b,a]=fS (iG a (V.d "heads")) λu=>fS (iG a (V.d "told")) λv=>fS (yE u v) λc=>Wa d c b a:=ik
def tn:q_:={sy (zB 108)with body:=(wc (zB 108)).tail}
def Q1(ℓ':gA):M V:=fS (lo ℓ' "heads") λv=>fS (jJ v) λe=>fS (iL (jw e.ai (jF "head") (λℓ'=>fX fW) (λℓ'=>fS (lo ℓ' "base") λv=>fS (lo ℓ' "head") λc=>fS (F d 644 [v,c]) λa=>fX a) im (mM ["base"] ℓ') [] e.am)) λf=>if f.length<=hJ then fS (gM (.a f)) λa=>fS (gM (.a [])) λv=>fS (gM (.a [])) λc=>fS (gM (.a [v,c])) λb=>fS (gR .Eq a b) λt=>fX (V.e t)else gc
def Q0(ℓ':gA):M V:=fS (lo ℓ' "base") λv=>fS (ga d v "zaps") λv=>fS (kW [v]) λv=>fS (lo ℓ' "base") λc=>fS (mm d c "names") λm=>fS (cl d m c "names" [.a (.ofNat 1)]) λe=>fS (gM (.a [v,e])) λa=>fS (lo ℓ' "many") λv=>fS (lY v (.a (.ofNat 1)) V.c) λb=>fS (gR .NotEq a b) λb=>if b then fX (V.e fY)else fS (lo ℓ' "base") λv=>fS (ga d v "notes") λv=>fS (kW [v]) λa=>fS (lo ℓ' "many") λv=>fS (iG v (.a (.ofNat 0))) λb=>fS (gR .Gt a b) λb=>if b then fX (V.e fY)else Q1 d ℓ'
def Q5(ℓ':gA):M Fl:=fS (lo ℓ' "row") λv=>fS (iG v (.a (.ofNat 4))) λv=>fS (lO v) λc=>if c then fS (lo ℓ' "base") λv=>fS (lo ℓ' "io") λa=>fS (lo ℓ' "row") λb=>fS (iG b (.a (.ofNat 1))) λe=>fS (F d 775 [v,a,e,.a (.ofNat 99)]) λx=>fX (Fl.a ℓ')else fX (Fl.a ℓ')
def P9(ℓ':gA):M V:=fS (lo ℓ' "world") λv=>fS (iG v (V.d "snaps")) λv=>fS (jJ v) λb=>fS (iL (lf b.ai (jF "row") (Q5 d) im ℓ' b.am)) λa=>ke (Q0 d) (λa=>fX a) a
def Q4(ℓ':gA):M Fl:=fS (fS (gM (.f "law.<locals>.<lambda>")) λx=>lZ (Tt d) (fS (fS (lo (mM ["base","head"] ℓ') "base") λv=>fS (fS (lo (mM ["base","head"] ℓ') "head") λv=>fX [v,V.d "zz"]) λb=>fX (v::b)) λb=>F d 632 b)) λa=>fS (gR .NotEq a (V.d "missing")) λc=>if c then fX (Fl.b (V.e fY))else fS (fS (gM (.f "law.<locals>.<lambda>")) λx=>lZ (Tt d) (fS (fS (lo (mM ["base","head"] ℓ') "base") λv=>fS (fS (lo (mM ["base","head"] ℓ') "head") λv=>fS (fS (lo (mM ["base","head"] ℓ') "head") λv=>fX [v,V.d "m"]) λb=>fX (v::b)) λb=>fX (v::b)) λb=>F d 625 b)) λa=>fS (gR .NotEq a (V.d "misused")) λc=>if c then fX (Fl.b (V.e fY))else fS (lo ℓ' "base") λv=>fS (lo ℓ' "head") λe=>fS (F d 658 [v,e]) λx=>fS (lo ℓ' "base") λv=>fS (lo ℓ' "head") λf=>fS (F d 658 [v,f]) λx=>fX (Fl.a ℓ')
def P8(ℓ':gA):M V:=fS (lo ℓ' "heads") λv=>fS (jJ v) λb=>fS (iL (lf b.ai (jF "head") (Q4 d) im ℓ' b.am)) λa=>ke (P9 d) (λa=>fX a) a
def Q3(ℓ':gA):M Fl:=fS (lo ℓ' "base") λv=>fS (lo ℓ' "io") λa=>fS (lo ℓ' "world") λc=>fS (lo ℓ' "x") λe=>fS (lo ℓ' "at") λb=>fS (hM .Add (.a (.ofNat 2)) b) λf=>fS (F d 803 [v,a,c,e,f]) λv=>fS (lO v) λb=>if !b then fX (Fl.b (V.e fY))else fS (lo ℓ' "base") λv=>fS (lo ℓ' "world") λg=>fS (F d 808 [v,g]) λv=>fS (lO v) λb=>if !b then fX (Fl.b (V.e fY))else fX (Fl.a ℓ')
def P7(v:V)(b:List V)(e f g h:V):M V:=fS (lY v V.c (.a (.ofNat 10))) λi=>fS (xQ i) λc=>fS (iL (lf c.ai (rn "at" "x") (Q3 d) im (gW (gW (gW (gW (gW (gW [("script",v)] "base" (b.getD 0 V.c)) "io" (b.getD 1 V.c)) "root" e) "heads" f) "world" g) "many" h) c.am)) λa=>ke (P8 d) (λa=>fX a) a
def Wb(a:List V)(b v:V)(c e f:V):=fS (ga d (a.getD 0 V.c) "zaps") λg=>fS (kW [g]) λh=>fS (mm d (a.getD 0 V.c) "names") λm=>fS (cl d m (a.getD 0 V.c) "names" [.a (.ofNat 1)]) λi=>fS (gM (.a [b,h,i])) λj=>P7 d v a c e f j
def Wc(a c:V)(b:List V)(v e:V):=fS (gM (.a [])) λf=>fS (gM (.b [("heads",a),("told",c),("snaps",f)])) λg=>fS (ga d (b.getD 0 V.c) "notes") λh=>fS (kW [h]) λi=>Wb d b i v e a g
def Wd(a b:V)(c:List V)(v e:V):=fS (gM (.a [a,b])) λf=>fS (gM .d) λg=>fS (gM .d) λh=>fS (gM (.a [g,h])) λi=>Wc d f i c v e
def We(a:List V)(v:V):=fS (F d 465 [a.getD 0 V.c]) λb=>fS (F d 564 [a.getD 0 V.c,b,.a (.ofNat 1),.a (.ofNat 1)]) λc=>fS (F d 487 [a.getD 0 V.c,b,V.d "d"]) λe=>fS (F d 564 [a.getD 0 V.c,e,.a (.ofNat 1),.a (.ofNat 2)]) λf=>Wd d c f a v b
def Ug(v:V):vh (Tt d) 40 tn [v]=fS (nX (Tt d) (fR (G.b 226 139)) []) λa=>fS (nX (Tt d) (fR (G.b 722 673)) []) λb=>fS (gM (.c [a,b])) λc=>fS (kG c 2) λe=>We d e v:=by kernel_rfl
def TL(a b c:V):F (d+1) 487 [a,b,c]=fS (F d 479 [a,b,c]) λx=>fS (F d 458 [a,b,.a (.ofNat 0)]) λv=>fS (mm d a "put") λm=>fS (F d 439 [a,b]) λe=>fS (ga d e "children") λf=>fS (cl d m a "put" [f,c,v]) λx=>fX v:=ik
def Wf(a v:V):=fS (sa d a "gone" v) λx=>fS (sa d a "next" (.a (.ofNat 1))) λx=>fS (sa d a "written" (.a (.ofNat 0))) λx=>fX V.c
def Tv(a:V):F (d+1) 673 [a]=fS (sa d a "sector" (.a (.ofNat 16))) λx=>fS (gM .d) λv=>fS (sa d a "blocks" v) λx=>fS (gM .d) λv=>Wf d a v:=ik
end
def vY(r:R h)(Q:h->H->Prop)(X:gG->H->Prop):Prop:=match r with|.b a b=>Q a b|.c C b=>X C b|.a=>False
structure wp{b:Type}(m:M b)(Q:b->H->Prop)(X:gG->H->Prop)(y:H):Prop where
 a:vY (m y) Q X
def qd{l:List Nat}(h:l.Nodup)(i j:Nat)(c:l[i]?=fR a)(d:l[j]?=fR b)(n:i<j):a≠b:=λe=>jt n ((List.getElem?_inj (uL.mp c).1 h).mp (c.trans (e▸d.symm)))
def gj(h:Q a y):wp (fX a) Q X y:=⟨h⟩
def PN(h:X C y):wp (ls C) Q X y:=⟨h⟩
abbrev Bd(f:h->M t)(Q:t->H->Prop)(X:gG->H->Prop):h->H->Prop:=λa b=>wp (f a) Q X b
def fV(h:wp m (Bd f Q X) X y):wp (fS m f) Q X y:=by obtain⟨h⟩:=h;refine⟨?_⟩;unfold fS;generalize e:m y=b;induction b with|b a c=>rw[e]at h;exact h.a|c C c=>rw[e]at h;exact h|a=>rw[e]at h;exact h
def wR(h:wp (f a) Q X y):wp (fS (fX a) f) Q X y:=⟨h.a⟩
def h_(e:m=t)(h:wp t Q X y):wp m Q X y:=e▸h
def pg(h:wp m Q' t y)(k:∀a b,Q' a b->Q a b)(c:∀C b,t C b->X C b):wp m Q X y:=by obtain⟨h⟩:=h;refine⟨?_⟩;generalize e:m y=d;induction d with|b a b=>rw[e]at h;exact k _ _ h|c C b=>rw[e]at h;exact c _ _ h|a=>rw[e]at h;exact h
def Ba(h:wp m Q (λZ Z=>False) y):wp (iL m) Q X y:=by obtain⟨h⟩:=h;refine⟨?_⟩;unfold iL;generalize e:m y=b;induction b with|b a c=>rw[e]at h;exact h|c C c=>rw[e]at h;exact h.elim|a=>rw[e]at h;exact h
def wN(h:wp m (Bd f Q X) (λZ Z=>False) y):wp (fS (iL m) f) Q X y:=fV (Ba h)
def kI(e:x=fR a)(h:Q a y):wp (ig x) Q X y:=lE e<|⟨h⟩
def g_[Decidable c](e:c)(h:wp m Q X y):wp (if c then m else t) Q X y:=lE (if_pos e)<|h
def jr[Decidable c](e:¬c)(h:wp t Q X y):wp (if c then m else t) Q X y:=lE (if_neg e)<|h
def nL[Decidable c](h:c->wp m Q X y)(a:¬c->wp t Q X y):wp (if c then m else t) Q X y:=by
 split;exact h ‹_›;exact a ‹_›
section
variable{K:Type}[DecidableEq K]
def CH(k:K):je ([]:List (K×V)) k=fU:=rfl
def pJ(e:K×V)(r:List (K×V))(k:K):je (e::r) k=if e.1=k then fR e.2 else je r k:=by unfold je;refine lE Ep ?_;by_cases h:e.1=k<;>simp[h]
def tc(a:List (K×V))(k:K):(a.any λe=>decide (e.1=k))=(je a k).isSome:=by induction a with|nil=>rfl|cons e r b=>rw[pJ];refine lE wt (lE b ?_);by_cases h:e.1=k<;>simp[h]
def CG{k:K}:(je t k).isSome=fW↔k∈t.map (·.1):=by
 induction t with|nil=>simp[CH]|cons e r a=>
  rw[pJ];refine lE iZ ?_;rw[gX];by_cases h:e.1=k;simp[h]
  .refine lE (if_neg h) ?_;rw[a];constructor;exact .inr
   .rintro(q|q);exact absurd q.symm h;exact q
def C0(b:List (K×V))(k q:K)(v:V):je (b.map λe=>if e.1=k then(e.1,v)else e) q=if q=k then(je b k).map (λZ=>v)else je b q:=by
 induction b with|nil=>simp[CH]|cons e r c=>
  refine lE iZ ?_;rw[pJ];refine lE c ?_;rw[pJ,pJ];by_cases h:e.1=k
  .by_cases a:q=k;subst a;simp[h];have:¬k=q:=λd=>a d.symm;simp[h,a,this]
  .by_cases a:q=k;subst a;simp[h];simp[h,a]
def B9(b:List (K×V))(k q:K)(v:V)(h:je b k=fU):je (b++[(k,v)]) q=if q=k then fR v else je b q:=by
 induction b with
 |nil=>
  rw[pT,pJ,CH];by_cases a:q=k;subst a;simp;have:¬k=q:=λd=>a d.symm;simp[a,this]
 |cons e r f=>
  rw[pJ]at h;by_cases c:e.1=k;rw[if_pos c]at h;injection h
  .rw[if_neg c]at h;refine lE En ?_;rw[pJ];refine lE (f h) ?_;rw[pJ];by_cases a:q=k;subst a;simp[c];simp[a]
def Mo(a:List (K×V))(k q:K)(v:V):je (jm a k v) q=if q=k then fR v else je a q:=by
 unfold jm;rw[tc];split
 .rename_i h;rw[C0];split;exact iE h λx e=>lE e rfl;rfl
 .rename_i h;exact B9 a k q v (by simpa using h)
def CF(b:List (K×V))(k q:K):je (nZ b k) q=if q=k then fU else je b q:=by
 induction b with|nil=>simp[nZ,CH]|cons e r c=>
  unfold nZ at*;refine lE yM ?_;by_cases h:e.1=k
  .simp only[h,decide_true,Bm,uJ,if_false,c,pJ];by_cases a:q=k;simp[a];have:¬k=q:=λd=>a d.symm;simp[a,this]
  .simp only[h,decide_false,Ei,if_true,pJ,c];by_cases a:q=k;subst a;simp[h];simp[a]
def Hv(a:List (K×V))(k:K)(v:V):(jm a k v).length=if(je a k).isSome then a.length else a.length+1:=by
 unfold jm;rw[tc];split;rw[iq];exact lE px rfl
def Ϲ(a:List (K×V))(k:K)(v:V):(jm a k v).map (·.1)=if(je a k).isSome then a.map (·.1)else a.map (·.1)++[k]:=by
 unfold jm;rw[tc];split
 .exact lE kR<|Et λe Z=>by refine(?_:(if e.1=k then(e.1,v)else e).1=e.1);split<;>rfl
 .simp
def Ox{c:List (K×V)}(k:K)(v:V)(h:(c.map (·.1)).Nodup):((jm c k v).map (·.1)).Nodup:=by
 rw[Ϲ];split;exact h;rename_i d;rw[CG]at d;exact nQ.mpr (iy h (rZ _ _) (λa f b e=>by rw[js]at e;subst e;exact λq=>d (q▸f)))
def Zs(a:List (K×V))(k:K):(nZ a k).map (·.1)=(a.map (·.1)).filter λx=>!decide (x=k):=lE yN rfl
def Gb(k:K)(h:(t.map (·.1)).Nodup):((nZ t k).map (·.1)).Nodup:=by rw[Zs];exact h.filter _
def zG{k:K}(h:(t.map (·.1)).Nodup)(a:(je t k).isSome=fW):(nZ t k).length+1=t.length:=by
 induction t with|nil=>injection a|cons e r b=>
  rw[iZ,jk]at h;unfold nZ at*;refine lE yM ?_;by_cases q:e.1=k
  .subst q;have c:(r.filter λx=>!decide (x.1=e.1))=r:=by
    rw[Bq];intro x d;have:x.1≠e.1:=λf=>h.1 (f▸i_ d);simp[this]
   simp[c]
  .rw[pJ,if_neg q]at a;simp only[q,decide_false,Ei,if_true,qn];exact lE (b h.2 a) rfl
end
structure S where
 aa:Nat
 ac:Int->Option (Array UInt8)
 ae:Int->Option (List (f_×Int))
 nn:Nat
 nz:Nat
noncomputable def S.aX(s:S)(p:Int)(c:Array UInt8):S:={s with ac:=λq=>if q=p then fR c else s.ac q}
noncomputable def S.aO(s:S)(c:Array UInt8):S:={s with aa:=s.aa+1,ac:=λq=>if q=s.aa+1 then fR c else s.ac q,nn:=s.nn+1}
noncomputable def S.bf(s:S)(p:Int):S:={s with ac:=λq=>if q=p then fU else s.ac q,nn:=s.nn-1}
noncomputable def S.aF(s:S)(p:Int)(c:List (f_×Int)):S:={s with ae:=λq=>if q=p then fR c else s.ae q}
noncomputable def S.aA(s:S):S:={s with aa:=s.aa+1,ae:=λq=>if q=s.aa+1 then fR []else s.ae q,nz:=s.nz+1}
noncomputable def S.ba(s:S)(p:Int):S:={s with ae:=λq=>if q=p then fU else s.ae q,nz:=s.nz-1}
noncomputable def zV(e:List (f_×Int)):List (f_×V):=e.map λp=>(p.1,.a p.2)
structure ZO(o:O)(e:List (f_×Int)):Prop where
 aE:(o=.d/\e=[])\/o=.b (zV e)
 nd:(e.map (·.1)).Nodup
 dN:e.length<=60
structure B_ where
 a:Nat
 b:Nat
 zh:Int->Nat
noncomputable def vg(s:S)(L:B_):O:=.g 226 [(fZ "last",.a s.aa),(fZ "notes",.b L.a),(fZ "zaps",.b L.b)]
def NO(g:Option O)(a:List (Int×V)):Prop:=g=fR (.e a)\/(g=fR .d/\a=[])
def NO.ex(h:NO g t):∃o,g=fR o:=by
 rcases h with h|⟨h,_⟩
 .exact⟨_,h⟩
 .exact⟨_,h⟩
structure jV(L:B_)(b:Nat)(s:S)(y:H):Prop where
 fin:∀i o,y.get i=fR o->i<y.n
 ob:y.get b=fR (vg s L)
 on:∃a,NO (y.get L.a) a/\(a.map (·.1)).Nodup/\a.length=s.nn/\∀k,je a k=(s.ac k).map V.f
 oz:∃c,y.get L.b=fR (.e c)/\(c.map (·.1)).Nodup/\c.length=s.nz/\∀k,je c k=(s.ae k).map λZ=>V.b (L.zh k)
 z:∀k e,s.ae k=fR e->∃o,y.get (L.zh k)=fR o/\ZO o e
 inj:∀k d,(s.ae k).isSome=fW->(s.ae d).isSome=fW->L.zh k=L.zh d->k=d
 sep:L.a≠L.b
 bD:∀k,(s.ae k).isSome=fW->L.a≠L.zh k
 top:∀k:Int,(s.aa:Int)<k->s.ac k=fU/\s.ae k=fU
 bt:∀k,s.ac k=fU\/s.ae k=fU
 cnt:s.nn+s.nz<=s.aa/\s.aa<=50000
def zn(L:B_)(b:Nat)(s:S)(i:Nat):Prop:=i=b\/i=L.a\/i=L.b\/∃k,(s.ae k).isSome=fW/\i=L.zh k
def St(b:Nat)(s:S)(ts:List (Nat×O))(y:H):Prop:=∃L,jV L b s y/\(ts.map (·.1)).Nodup/\∀t∈ts,y.get t.1=fR t.2/\¬zn L b s t.1
def St.get(h:St b s ts y)(m:(i,o)∈ts):y.get i=fR o:=jy h λZ Z Z k=>(k _ m).1
def St.sub(h:St b s ts y)(m:Z2.Sublist ts):St b s Z2 y:=jy h λL a c d=>iU L a (c.sublist (m.map _)) (λt e=>d t (m.subset e))
def xG(h:jV L b s y)(a:y.get i=fR o'):(iJ y o).get i=fR o':=by
 have:=h.fin _ _ a;refine(?_:(if i=y.n then fR o else y.get i)=_);exact lE (if_neg (jt this))<|a
def FC:(iJ y o).get y.n=fR o:=by simp[iJ]
def jV.add(h:jV L b s y)(o:O):jV L b s (iJ y o) where
 fin:=λi o' e=>by
  unfold iJ at e|-;dsimp only at e|-;by_cases q:i=y.n;exact oQ (gC q);rw[if_neg q]at e;exact ru (h.fin _ _ e)
 ob:=xG h h.ob
 on:=gy h.on λd a c=>gx d (a.imp (xG h) (And.imp_left (xG h))) c
 oz:=gy h.oz λd a c=>gx d (xG h a) c
 z:=λk e q=>gy (h.z k e q) λo' a c=>gx o' (xG h a) c
 inj:=h.inj
 sep:=h.sep
 bD:=h.bD
 top:=h.top
 bt:=h.bt
 cnt:=h.cnt
def jV.lt(h:jV L b s y)(m:zn L b s i):i<y.n:=by
 rcases m with rfl|rfl|rfl|⟨k,a,rfl⟩
 .exact h.fin _ _ h.ob
 .exact gy h.on λZ e Z=>gI e.ex λZ e=>h.fin _ _ e
 .exact gy h.oz λZ e Z=>h.fin _ _ e
 .refine iE a λe c=>gy (h.z k e c) λo g Z=>h.fin _ _ g
def St.alloc(h:St b s ts y)(o:O):St b s ((y.n,o)::ts) (iJ y o):=by
 refine jy h ?_;intro L a d c;refine iU L (a.add o) ?_ (λt m=>?_);refine lE iZ ?_;rw[jk];refine⟨λm=>?_,d⟩;refine mE m λt f e=>?_;have:=a.fin _ _ (c t f).1;exact uQ this (gC e.symm)
 .rcases gX.mp m with rfl|m
  .exact⟨FC,λg=>uP _ (a.lt g)⟩
  .exact⟨xG a (c t m).1,(c t m).2⟩
inductive kB(i:Nat)(o o':O):List (Nat×O)->List (Nat×O)->Prop|dN {r}:kB i o o' ((i,o)::r) ((i,o')::r)|dO {t r a}:kB i o o' r a->kB i o o' (t::r) (t::a)
def kB.cK(h:kB i o o' ts Z2):Z2.map (·.1)=ts.map (·.1):=by induction h with|dN=>rfl|dO _ a=>exact lE iZ (lE iZ (lE a rfl))
def kB.mem(h:kB i o o' ts Z2):(i,o)∈ts:=by induction h with|dN=>exact .head _|dO _ a=>exact .tail _ a
def kB.of(h:kB i o o' ts Z2)(b:(ts.map (·.1)).Nodup):∀t∈Z2,t=(i,o')\/(t∈ts/\t.1≠i):=by
 induction h with
 |@dN r=>
  intro t m;rcases gX.mp m with rfl|m
  .exact .inl rfl
  .refine .inr ⟨.tail _ m,λd=>?_⟩;rw[iZ,jk]at b;have:=i_ (f:=pV) m;rw[d]at this;exact b.1 this
 |@dO t' r k e g=>
  rw[iZ,jk]at b;intro t m;rcases gX.mp m with rfl|m
  .exact .inr ⟨.head _,λd=>by
    have:=i_ (f:=pV) e.mem;rw[<-d]at this;exact b.1 this⟩
  .exact(g b.2 t m).imp id λj=>gP j λa c=>⟨.tail _ a,c⟩
def vU:(jY y i o).get i=fR o:=by simp[jY]
def jO(h:j≠i):(jY y i o).get j=y.get j:=by simp[jY,h]
def jV.put(h:jV L b s y)(a:i<y.n)(n:¬zn L b s i)(o:O):jV L b s (jY y i o) where
 fin:=λj o' e=>by
  by_cases q:j=i;subst q;exact a;rw[jO q]at e;exact h.fin _ _ e
 ob:=lE (jO λq=>n (.inl q.symm))<|h.ob
 on:=lE (jO λq=>n (.inr (.inl q.symm)))<|h.on
 oz:=lE (jO λq=>n (.inr (.inr (.inl q.symm))))<|h.oz
 z:=λk e q=>by rw[jO λz=>n (.inr (.inr (.inr (gx k (lE q rfl) z.symm))))];exact h.z k e q
 inj:=h.inj
 sep:=h.sep
 bD:=h.bD
 top:=h.top
 bt:=h.bt
 cnt:=h.cnt
def St.put(h:St b s ts y)(u:kB i o o' ts Z2):St b s Z2 (jY y i o'):=by
 refine jy h ?_;intro L d e f;refine gP (f _ u.mem) λj g=>iU L (d.put (d.fin _ _ j) g o') (by refine lE u.cK ?_;exact e) (λt m=>?_);rcases u.of e t m with rfl|⟨a,c⟩
 .exact⟨vU,g⟩
 .exact lE (jO c)<|f t a
def iS(g:y.get i=fR o)(h:Q o y):wp (lg i) Q X y:=⟨by unfold lg;refine lE g<|h⟩
def ph(h:Q () (jY y i o)):wp (oG i o) Q X y:=⟨h⟩
def kz(g:y.get i=fR (.g C fs))(a:si C nm=fW)(b:fs.lookup nm=fR v)(h:Q v y):wp (jx (Tt d) (.b i) nm) Q X y:=by refine fV (iS g ?_);refine g_ a (kI b h)
def oL(g:y.get i=fR (.g C fs))(a:si C nm=fW)(b:fs.length<=100)(h:Q () (jY y i (.g C (jm fs nm x)))):wp (mP (Tt d) (.b i) nm x) Q X y:=by refine fV (iS g ?_);exact g_ ⟨a,b⟩ (ph h)
def A_(g:y.get i=fR (.g C fs))(b:fs.lookup nm=fU)(c:uq C nm=fR a)(h:Q (.b a) y):wp (lJ (Tt d) (.b i) nm) Q X y:=by
 refine fV (iS g ?_);refine g_ (by refine lE b ?_;rfl) ?_;have e:(match(Tt d).bJ C nm with|some a=>fX (Mt.b a)|none=>gc)=fX (Mt.b a):=by refine(?_:(match uq C nm with|some a=>fX (Mt.b a)|none=>gc)=_);exact lE c rfl
 exact h_ e (gj h)
def S.dN{s s':S}(b:s.aa=s'.aa)(d:s.ac=s'.ac)(h:s.ae=s'.ae)(i:s.nn=s'.nn)(j:s.nz=s'.nz):s=s':=by obtain⟨a,c,e,f,g⟩:=s;obtain⟨k,l,m,n,o⟩:=s';subst b;subst d;subst h;subst i;subst j;rfl
def jV.aH(h:jV L b s y):b≠L.a/\b≠L.b/\∀k,(s.ae k).isSome=fW->b≠L.zh k/\L.a≠L.zh k/\L.b≠L.zh k:=by
 refine gy h.on λw f Z=>gy h.oz λx p Z=>?_;have m:=h.ob;have t:∀{i:Nat} {fs:List (f_×V)},y.get i=fR (.g 226 fs)->i≠L.a:=λg q=>by subst q;rcases f with f|⟨f,_⟩<;>(rw[g]at f;cases f)
 have l:∀{i j:Nat} {o o':O},y.get i=fR o->y.get j=fR o'->o≠o'->i≠j:=λa c n e=>by subst e;rw[a]at c;obtain rfl:=gz c;exact n rfl
 refine iy (t m) (l m p (by unfold vg;intro d;injection d)) (λk r=>?_);refine iE r λe u=>gy (h.z k e u) λo g v=>?_;rcases v.aE with⟨rfl,_⟩|rfl
 .exact iy (l m g (by unfold vg;intro d;injection d)) (h.bD k r) (l p g (by intro d;injection d))
 .exact iy (l m g (by unfold vg;intro d;injection d)) (h.bD k r) (l p g (by intro d;injection d))
def jV.bump(h:jV L b s y)(a:s.aa<50000):jV L b {s with aa:=s.aa+1} (jY y b (vg {s with aa:=s.aa+1} L)):=by
 refine iT h.aH λc d f=>{
  fin:=λj o' e=>by
   by_cases q:j=b;subst q;exact h.fin _ _ h.ob;rw[jO q]at e;exact h.fin _ _ e
  ob:=vU
  on:=lE (jO c.symm)<|h.on
  oz:=lE (jO d.symm)<|h.oz
  z:=λk e q=>by rw[jO (f k (by exact lE q rfl)).1.symm];exact h.z k e q
  inj:=h.inj
  sep:=h.sep
  bD:=h.bD
  top:=λk g=>h.top k (by have:((s.aa+1:Nat):Int)<k:=g;exact Ek this)
  bt:=h.bt
  cnt:=⟨by have:=h.cnt.1;exact(pA this),a⟩}
def jV.bg(h:jV L b s y)(c:(t.map (·.1)).Nodup)(d:t.length=nn)(f:∀k,je t k=(x k).map V.f)(i:∀k:Int,(s.aa:Int)<k->x k=fU)(l:∀k,x k=fU\/s.ae k=fU)(m:nn+s.nz<=s.aa):jV L b {s with ac:=x,nn:=nn} (jY y L.a (.e t)):=by
 refine iT h.aH λn p o=>{
  fin:=λj o' e=>by
   by_cases q:j=L.a;subst q;exact gy h.on λZ g Z=>gI g.ex λZ g=>h.fin _ _ g;rw[jO q]at e;exact h.fin _ _ e
  ob:=lE (jO n)<|h.ob
  on:=n_ t (.inl vU) c d f
  oz:=lE (jO h.sep.symm)<|h.oz
  z:=λk e q=>by rw[jO (o k (by exact lE q rfl)).2.1.symm];exact h.z k e q
  inj:=h.inj
  sep:=h.sep
  bD:=h.bD
  top:=λk a=>⟨i k a,(h.top k a).2⟩
  bt:=l
  cnt:=⟨m,h.cnt.2⟩}
def jV.af(h:jV L b s y)(d:s.ae p=fR t)(u:ZO o e):jV L b (s.aF p e) (jY y (L.zh p) o):=by
 refine iT h.aH λD E l=>?_;have f:(s.ae p).isSome=fW:=lE d rfl;have m:∀k,((s.aF p e).ae k).isSome=(s.ae k).isSome:=λk=>by
  refine(?_:(if k=p then fR e else s.ae k).isSome=_);split;rename_i q;exact lE q (lE f rfl);rfl
 exact{
  fin:=λj o' e=>by
   by_cases q:j=L.zh p;subst q;exact gy (h.z p t d) λZ g Z=>h.fin _ _ g;rw[jO q]at e;exact h.fin _ _ e
  ob:=lE (jO (l p f).1)<|h.ob
  on:=lE (jO (l p f).2.1)<|h.on
  oz:=by
   refine lE (jO (l p f).2.2)<|mF h.oz λv w x A B=>n_ v w x A (λk=>(B k).trans ?_);refine(?_:Bv _ (s.ae k)=Bv _ (if k=p then fR e else s.ae k));split;rename_i q;exact lE q (lE d rfl);rfl
  z:=λk n q=>by
   have q:(if k=p then fR e else s.ae k)=fR n:=q;by_cases z:k=p;rw[if_pos z]at q;obtain rfl:=gz q;subst z;exact gx o vU u;rw[if_neg z]at q;rw[jO λC=>z (h.inj k p (lE q rfl) f C)];exact h.z k n q
  inj:=λk r a c=>h.inj k r (m k▸a) (m r▸c)
  sep:=h.sep
  bD:=λk i=>h.bD k (m k▸i)
  top:=λk i=>⟨(h.top k i).1,by refine(?_:(if k=p then fR e else s.ae k)=fU);have:=(h.top k i).2;refine lE (if_neg λq=>by rw[q,d]at this;exact sN this)<|this⟩
  bt:=λk=>by
   rcases h.bt k with q|q
   .exact .inl q
   .refine .inr<|(?_:(if k=p then fR e else s.ae k)=fU);refine lE (if_neg λz=>by rw[z,d]at q;exact sN q) ?_;exact q
  cnt:=h.cnt}
def jV.less{d:List (Int×V)}(h:jV L b s y)(x:s.ae p=fR t)(o:(d.map (·.1)).Nodup)(A:d.length+1=s.nz)(r:∀k,je d k=if k=p then fU else(s.ae k).map λZ=>V.b (L.zh k)):jV L b (s.ba p) (jY y L.b (.e d)):=by
 refine iT h.aH λB u v=>?_;have l:∀k e,(s.ba p).ae k=fR e->s.ae k=fR e/\k≠p:=λk e q=>by
  have q:(if k=p then fU else s.ae k)=fR e:=q;by_cases z:k=p;rw[if_pos z]at q;injection q;rw[if_neg z]at q;exact⟨q,z⟩
 have i:∀k,((s.ba p).ae k).isSome=fW->(s.ae k).isSome=fW:=λk f=>iE f λe w=>lE ((l k e w).1) rfl;exact{
  fin:=λj o' e=>by
   by_cases q:j=L.b;subst q;exact gy h.oz λZ g Z=>h.fin _ _ g;rw[jO q]at e;exact h.fin _ _ e
  ob:=lE (jO u)<|h.ob
  on:=lE (jO h.sep)<|h.on
  oz:=n_ d vU o (by refine(?_:d.length=s.nz-1);lia) (λk=>(r k).trans (by refine(?_:_=Bv _ (if k=p then fU else s.ae k));split<;>rfl))
  z:=λk e q=>by have m:=l k e q;rw[jO (v k (lE m.1 rfl)).2.2.symm];exact h.z k e m.1
  inj:=λk n a c=>h.inj k n (i k a) (i n c)
  sep:=h.sep
  bD:=λk f=>h.bD k (i k f)
  top:=λk f=>⟨(h.top k f).1,by refine(?_:(if k=p then fU else s.ae k)=fU);refine lE ((h.top k f).2) ?_;split<;>rfl⟩
  bt:=λk=>by
   rcases h.bt k with q|q
   .exact .inl q
   .refine .inr<|(?_:(if k=p then fU else s.ae k)=fU);refine lE q ?_;split<;>rfl
  cnt:=⟨by have:=h.cnt.1;refine(?_:s.nn+(s.nz-1)<=s.aa);lia,h.cnt.2⟩}
def CI{v u a:V}:jz (fZ "last") [(fZ "last",v),(fZ "notes",u),(fZ "zaps",a)]=fR v:=by kernel_rfl
def F7{v u a:V}:jz (fZ "notes") [(fZ "last",v),(fZ "notes",u),(fZ "zaps",a)]=fR u:=by kernel_rfl
def Ms{v u a:V}:jz (fZ "zaps") [(fZ "last",v),(fZ "notes",u),(fZ "zaps",a)]=fR a:=by kernel_rfl
def Ϻ{v u a x:V}:jm [(fZ "last",v),(fZ "notes",u),(fZ "zaps",a)] "last" x=[(fZ "last",x),(fZ "notes",u),(fZ "zaps",a)]:=by kernel_rfl
def vf:si 226 "last"=fW:=by decide+kernel
def KI:si 226 "notes"=fW:=by decide+kernel
def FG:si 226 "zaps"=fW:=by decide+kernel
def Gs{nm:f_}{v u b:V}(h:(["last","notes","zaps"].all λx=>!(nm==x))=fW):jz nm [(fZ "last",v),(fZ "notes",u),(fZ "zaps",b)]=fU:=by simp only[IR,List.all_nil,Bool.and_true,lr,Bl]at h;refine iT h ?_;intro a c e;exact lE jn (lE a (lE jn (lE c (lE jn (lE e rfl)))))
def xJ(h:jV L b s y)(a:Q (.a s.aa) y):wp (jx (Tt d) (.b b) "last") Q X y:=kz h.ob vf CI a
def uc(h:jV L b s y)(a:Q (.b L.a) y):wp (jx (Tt d) (.b b) "notes") Q X y:=kz h.ob KI F7 a
def xK(h:jV L b s y)(a:Q (.b L.b) y):wp (jx (Tt d) (.b b) "zaps") Q X y:=kz h.ob FG Ms a
def KK(h:St b s ts y)(c:(uq 226 nm==fR a&&["last","notes","zaps"].all λx=>!(nm==x))=fW)(e:Q (.b a) y):wp (lJ (Tt d) (.b b) nm) Q X y:=by refine gy h ?_;intro L h _;rw[lr]at c;exact A_ h.ob (Gs c.2) (eq_of_beq c.1) e
def wM(h:St b s ts y)(c:(uq 226 nm==fR a&&["last","notes","zaps"].all λx=>!(nm==x))=fW)(e:wp (f (.b a)) Q X y):wp (fS (lJ (Tt d) (.b b) nm) f) Q X y:=fV (KK h c e)
def KJ(h:jV L b s y)(a:Q () (jY y b (vg {s with aa:=s.aa+1} L))):wp (mP (Tt d) (.b b) "last" (.a ((s.aa:Int)+gV 1))) Q X y:=oL h.ob vf gO<|lE Ϻ<|a
def Ah(g:y.get i=fR (.e h))(a:Q (je h p).isSome y):wp (m_ (.a p) (.b i)) Q X y:=by refine fV (iS g (gj ?_));rw[tc];exact a
def NO.got(h:NO g t)(a:(je t k).isSome=fW):g=fR (.e t):=by
 rcases h with h|⟨_,rfl⟩
 .exact h
 .injection a
def M2(g:NO (y.get i) h)(a:Q (je h p).isSome y):wp (m_ (.a p) (.b i)) Q X y:=by
 rcases g with g|⟨g,rfl⟩
 .exact Ah g a
 .exact fV (iS g (gj a))
def Aw(h:St b s ts y)(g:s.ac p=fR c)(i:Q (.f c) y):wp (F (d+1) 160 [.b b,.a p]) Q X y:=by
 refine hZ λl f=>gy h ?_;intro L h _;refine mF h.on λj a m n k=>f ?_;clear f;have e:je j p=fR (.f c):=by rw[k];exact lE g rfl
 have a:=a.got (lE e rfl);refine h_ (TA d _ _) (fV (uc h (fV (fV (Ah a (gj ?_))))));refine lE e<|jr (by simp) (fV (uc h (fV ?_)));exact fV (iS a (kI e (gj i)))
def Oy(g:y.get i=fR (.e h))(a:h.length<=hJ)(b:Q () (jY y i (.e (jm h p x)))):wp (pe (.b i) (.a p) x) Q X y:=fV (iS g (g_ a (ph b)))
def Oz(g:NO (y.get i) h)(b:h.length<=hJ)(a:Q () (jY y i (.e (jm h p x)))):wp (pe (.b i) (.a p) x) Q X y:=by
 rcases g with g|⟨g,rfl⟩
 .exact Oy g b a
 .exact fV (iS g (ph a))
def LG(g:y.get i=fR (.e h))(a:(je h p).isSome=fW)(b:h.length<=hJ)(c:Q () (jY y i (.e (nZ h p)))):wp (uf (.b i) (.a p)) Q X y:=fV (iS g (g_ ⟨by rw[tc];exact a,b⟩ (ph c)))
def vC(h:n<=50000):n<=hJ:=by unfold hJ;exact gu h (iP _ _)
def Pd{p:Int}(h:jV L b s y)(e:(t.map (·.1)).Nodup)(f:t.length=s.nn)(a:∀k,je t k=(s.ac k).map V.f)(g:p<=s.aa)(i:s.ae p=fU)(j:nn=if(s.ac p).isSome then s.nn else s.nn+1)(l:nn+s.nz<=s.aa):jV L b {s with ac:=λq=>if q=p then fR c else s.ac q,nn:=nn} (jY y L.a (.e (jm t p (.f c)))):=by
 refine h.bg (Ox _ _ e) ?_ (λk=>?_) (λk d=>?_) (λk=>?_) l;rw[Hv,a];exact lE Jm (lE j (lE f rfl));rw[Mo,a];split<;>rfl;exact lE (if_neg (ma (El g d)))<|(h.top k d).1
 .by_cases q:k=p;subst q;exact .inr i;exact lE (if_neg q)<|h.bt k
def OD{ts:List (Nat×O)}(h:St b s ts y)(f:s.ac p=fR x)(r:∀j,St b (s.aX p c) ts j->Q .c j):wp (F (d+2) 167 [.b b,.a p,.f c]) Q X y:=by
 refine h_ (TF (d+1) _ _ _) (fV (KK (a:=160) h (by decide+kernel) (fV (Aw h f (fV (gj (fV ?_)))))));refine hZ λA k=>gy (id h) λL e l=>mF e.on λB u v o w=>?_;refine k ?_;clear k;have g:=e.cnt;refine uc e (fV (Oz u (vC (lG (gC o) g.1 g.2)) (gj (r _ ?_))));have z:s.ae p=fU:=by
  rcases e.bt p with q|q
  .rw[f]at q;injection q
  .exact q
 refine iU L (Pd e v o w (wq.mp λi=>by rw[(e.top p i).1]at f;injection f) z (by exact lE f rfl) g.1) l.1 (λt m=>?_);refine gP (l.2 t m) λa n=>⟨by refine lE (jO λi=>n (.inr (.inl i))) ?_;exact a,n⟩
def x_{ts:List (Nat×O)}(h:St b s ts y)(j:s.aa+1<=50000)(r:∀k,St b (s.aO c) ts k->Q (.a (s.aa+1:Int)) k):wp (F (d+1) 153 [.b b,.f c]) Q X y:=by refine gy h ?_;intro L e l;have f:=e.bump j;refine h_ (Tz d _ _)<|fV<|xJ e<|wR<|fV<|KJ e<|wR<|fV<|uc f<|fV<|xJ f<|fV<|mF f.on λx u v g w=>?_;have o:=e.cnt;have g:=g;have p:=e.top (s.aa+1) (qm _);refine Oz u (vC (lG j o.1 (gC g))) ?_;have q:=Pd (c:=c) f v g w (by exact qm _) p.2 (by exact lE p.1 rfl) (by exact iX o.1);refine fV (xJ q (gj (r _ (iU L q l.1 (λt m=>?_)))));refine gP (l.2 t m) λa n=>⟨by refine lE (jO λi=>n (.inr (.inl i))) (lE (jO λi=>n (.inl i)) ?_);exact a,n⟩
def CA(h:St b s ts y)(v:s.ac p=fR c)(w:∀i,St b (s.bf p) ts i->Q .c i):wp (F (d+1) 181 [.b b,.a p]) Q X y:=by
 refine hZ λC j=>gy h ?_;intro L e l;refine mF e.on λx f o z r=>j ?_;clear j;have g:(je x p).isSome=fW:=by rw[r];exact lE v rfl
 have f:=f.got g;have u:=e.cnt;refine h_ (Kq d _ _)<|fV<|uc e<|fV<|Ah f<|g_ g<|fV<|uc e<|fV<|LG f g (vC (lG (gC z) u.1 u.2))<|gj<|w _ ?_;have D:=zG o g;refine iU L (e.bg (Gb _ o) (by lia) (λk=>?_) (λk A=>?_) (λk=>?_) (by lia)) l.1 (λt m=>?_);rw[CF,r];split<;>rfl
 .split;rfl;exact(e.top k A).1
 .rcases e.bt k with q|q
  .refine .inl<|(?_:(if k=p then fU else s.ac k)=fU);refine lE q ?_;split<;>rfl
  .exact .inr q
 .refine gP (l.2 t m) λa n=>⟨by refine lE (jO λB=>n (.inr (.inl B))) ?_;exact a,n⟩
def CB(h:St b s ts y)(i:s.ae p=fR e)(A:∀l,St b (s.ba p) ts l->Q .c l):wp (F (d+1) 181 [.b b,.a p]) Q X y:=by
 refine hZ λG o=>gy h ?_;intro L f r;refine mF f.on λH B I J C=>mF f.oz λD u v w x=>o ?_;clear o;have E:s.ac p=fU:=by
  rcases f.bt p with q|q
  .exact q
  .rw[i]at q;injection q
 have j:(je D p).isSome=fW:=by rw[x];exact lE i rfl
 have z:=f.cnt;refine h_ (Kq d _ _)<|fV<|uc f<|fV<|M2 B<|jr (by rw[C];refine lE E ?_;decide)<|fV<|xK f<|fV<|Ah u<|g_ j<|fV<|xK f<|fV<|LG u j (vC (lG (gC w) z.1 z.2))<|gj<|A _ ?_;refine iU L (f.less i (Gb _ v) ((zG v j).trans w) λk=>by rw[CF,x]) r.1 (λt m=>?_);refine gP (r.2 t m) λa n=>⟨by refine lE (jO λc=>n (.inr (.inr (.inl c)))) ?_;exact a,λc=>n ?_⟩;rcases c with c|c|c|⟨k,g,c⟩
 .exact .inl c
 .exact .inr (.inl c)
 .exact .inr (.inr (.inl c))
 .refine .inr (.inr (.inr (gx k ?_ c)));have g:(if k=p then fU else s.ae k).isSome=fW:=g;split at g;injection g;exact g
noncomputable def ov:Option Int->V|some n=>.a n|none=>.c
noncomputable def jU(e:List (f_×Int))(k:f_):List (f_×Int):=e.filter λx=>!decide (x.1=k)
def uj(e:List (f_×Int))(k:f_):je (zV e) k=(e.lookup k).map V.a:=by
 induction e with|nil=>rfl|cons x r a=>
  unfold zV at*;refine lE iZ ?_;rw[pJ];refine lE jn ?_;by_cases h:x.1=k;subst h;simp
  .have:(k==x.1)=fY:=by simpa using λb=>h b.symm
   exact lE (if_neg h) (lE this a)
def IG(e:List (f_×Int)):(zV e).map (·.1)=e.map (·.1):=by unfold zV;exact lE kR rfl
def Gc(e:List (f_×Int))(k:f_):nZ (zV e) k=zV (jU e k):=by unfold nZ zV jU;exact lE yN rfl
def U5{e:List (f_×Int)}(h:e.lookup k=fU):k∉e.map (·.1):=λm=>by have a:=CG.mpr (by rw[IG];exact m);rw[uj,h]at a;injection a
def ϻ(h:e.lookup k=fU):jm (zV e) k (.a n)=zV (e++[(k,n)]):=by unfold jm;rw[tc,uj];refine lE h ?_;unfold zV;exact lE kT rfl
def ZO.more(d:ZO o e)(h:e.lookup k=fU)(f:e.length<60):ZO (.b (zV (e++[(k,n)]))) (e++[(k,n)]) where
 aE:=.inr rfl
 nd:=by refine lE kT<|nQ.mpr (iy d.nd (rZ _ _) (λa g b c=>by have c:=js.mp c;subst c;exact λq=>U5 h (q▸g)))
 dN:=lE px<|f
def ZO.less(a:ZO o e)(k:f_):ZO (.b (zV (jU e k))) (jU e k) where
 aE:=.inr rfl
 nd:=a.nd.sublist (IU.map _)
 dN:=gu (wz _ _) a.dN
def ac2:pf "get" v h=zZ v h:=by kernel_rfl
def PD:pf "pop" v h=yg v h:=by kernel_rfl
def abZ:pf "append" v h=Cg v h:=by kernel_rfl
def ac1:pf "extend" v h=CE v h:=by kernel_rfl
def ac0:pf "clear" v h=zC v h:=by kernel_rfl
def jV.more{p:Int}{l:List (Int×V)}(h:jV L b s y)(u:y.get j=fR .d)(r:¬zn L b s j)(v:p<=s.aa)(w:s.ac p=fU)(x:s.ae p=fU)(A:(l.map (·.1)).Nodup)(B:l.length=s.nz)(t:∀k,je l k=(s.ae k).map λZ=>V.b (L.zh k))(C:s.nn+(s.nz+1)<=s.aa):jV {L with zh:=λk=>if k=p then j else L.zh k} b {s with ae:=λq=>if q=p then fR []else s.ae q,nz:=s.nz+1} (jY y L.b (.e (jm l p (.b j)))):=by
 revert b h u r v w x A B t C;revert L s y j p l;refine @(nI E1 ?_);generalize gT.1.1.1=L,gT.1.1.2=s,gT.1.2=y,gT.2.1.1=j,gT.2.1.2=p,gT.2.2=l;intro b h u r v w x A B t C;refine iT h.aH λG E F=>?_;have D:∀k,k≠p->(s.ae k).isSome=fW->L.zh k≠j:=λk Z f z=>r (.inr (.inr (.inr (gx k f z.symm))));exact{
  fin:=λi o' e=>by
   by_cases q:i=L.b;subst q;exact gy h.oz λZ g Z=>h.fin _ _ g;rw[jO q]at e;exact h.fin _ _ e
  ob:=lE (jO E)<|h.ob
  on:=by exact lE (jO h.sep)<|h.on
  oz:=by
   refine n_ _ vU (Ox _ _ A) ?_ (λk=>?_);rw[Hv,t];refine lE x<|(?_:l.length+1=s.nz+1);exact congrArg (·+1) B
   .rw[Mo,t];by_cases q:k=p;subst q;simp;simp[q]
  z:=λk e q=>by
   have q:(if k=p then fR []else s.ae k)=fR e:=q;refine(?_:∃o,(jY y L.b _).get (if k=p then j else L.zh k)=fR o/\ZO o e);by_cases d:k=p;rw[if_pos d]at q|-;obtain rfl:=gz q;refine lE (jO (λz=>r (.inr (.inr (.inl z)))))<|gx .d u ⟨.inl ⟨rfl,rfl⟩,wG,jT _⟩;rw[if_neg d]at q|-;rw[jO (F k (lE q rfl)).2.2.symm];exact h.z k e q
  inj:=λk m a c g=>by
   have a:(if k=p then fR []else s.ae k).isSome=fW:=a;have c:(if m=p then fR []else s.ae m).isSome=fW:=c;have g:(if k=p then j else L.zh k)=(if m=p then j else L.zh m):=g;by_cases d:k=p<;>by_cases n:m=p;exact lE d (lE n rfl);rw[if_pos d,if_neg n]at g;rw[if_neg n]at c;exact absurd g.symm (D m n c);rw[if_neg d,if_pos n]at g;rw[if_neg d]at a;exact absurd g (D k d a);rw[if_neg d,if_neg n]at g;rw[if_neg d]at a;rw[if_neg n]at c;exact h.inj k m a c g
  sep:=h.sep
  bD:=λk f=>by
   have f:(if k=p then fR []else s.ae k).isSome=fW:=f;refine(?_:L.a≠if k=p then j else L.zh k);by_cases d:k=p;exact lE (if_pos d)<|λz=>r (.inr (.inl z.symm));rw[if_neg d]at f|-;exact h.bD k f
  top:=λk f=>⟨(h.top k f).1,by refine(?_:(if k=p then fR []else s.ae k)=fU);refine lE (if_neg (by have f:(s.aa:Int)<k:=f;exact ma (El v f))) ?_;exact(h.top k f).2⟩
  bt:=λk=>by
   by_cases d:k=p;subst d;exact .inl w;refine(?_:s.ac k=fU\/(if k=p then fR []else s.ae k)=fU);exact lE (if_neg d)<|h.bt k
  cnt:=⟨C,h.cnt.2⟩}
def AV(a:Q (.b y.n) (iJ y o)):wp (gM o) Q X y:=⟨a⟩
def vI{y:H}(h:St b s ts y)(f:s.aa+1<=50000)(l:∀o,St b s.aA ts o->Q (.a (s.aa+1:Int)) o):wp (F (d+1) 188 [.b b]) Q X y:=by
 revert ts Q X h f l;revert b s d y;refine @(vQ E1 ?_);generalize ku.1.1=b,ku.1.2=s,ku.2.1=d,ku.2.2=y;intro ts Q X h f l;refine gy h ?_;intro L e p;have q:=e.bump f;have g:=q.add .d;refine h_ (Ks d _)<|fV<|xJ e<|wR<|fV<|KJ e<|fV<|AV<|fV<|xK g<|fV<|xJ g<|fV<|mF g.oz λD z A i B=>?_;have r:=e.cnt;have i:=i;have u:=e.top (s.aa+1) (qm _);refine Oy z (vC (lG f r.1 (gC i))) ?_;have C:¬zn L b {s with aa:=s.aa+1} (jY y b (vg {s with aa:=s.aa+1} L)).n:=λc=>uP _ (q.lt c);have v:=g.more FC C (by exact qm _) u.1 u.2 A i B (by exact oQ r.1);refine fV (xJ v (gj (l _ (iU _ v p.1 (λt m=>?_)))));refine gP (p.2 t m) λa n=>?_;have w:=jt (e.fin _ _ a);refine⟨?_,λc=>n ?_⟩;refine lE (jO λc=>n (.inr (.inr (.inl c))))<|(?_:(if t.1=y.n then fR O.d else(jY y b _).get t.1)=_);exact lE (if_neg w) (lE (jO λc=>n (.inl c)) a)
 .rcases c with c|c|c|⟨k,j,c⟩
  .exact .inl c
  .exact .inr (.inl c)
  .exact .inr (.inr (.inl c))
  .have j:(if k=(s.aa+1:Int)then fR []else s.ae k).isSome=fW:=j;have c:t.1=if k=(s.aa+1:Int)then y.n else L.zh k:=c
   by_cases x:k=(s.aa+1:Int);rw[if_pos x]at c;exact absurd c w;rw[if_neg x]at c j;exact .inr (.inr (.inr (gx k j c)))
def Dw(h:jV L b s y)(f:s.ae p=fR e)(g:Q (.b (L.zh p)) y):wp (F (d+1) 195 [.b b,.a p]) Q X y:=by
 refine mF h.oz λi a k l j=>?_;have c:je i p=fR (.b (L.zh p)):=by rw[j];exact lE f rfl
 refine h_ (TE d _ _)<|fV<|xK h<|fV<|fV<|Ah a<|gj<|lE c<|jr (by simp)<|fV<|xK h<|fV<|fV<|iS a<|kI c<|gj g
def Dg(h:jV L b s y)(a:Q (.b 195) y):wp (lJ (Tt d) (.b b) "rows") Q X y:=A_ h.ob (Gs (by decide+kernel)) (by decide+kernel) a
def Nv{nm:f_}(a:ZO o e)(g:y.get i=fR o)(b:nm="get"\/nm="pop"\/nm="clear")(c:Q .a y):wp (lJ (Tt d) (.b i) nm) Q X y:=by rcases a.aE with⟨rfl,_⟩|rfl<;>exact fV (iS g (g_ b (gj c)))
def I8(c:ZO o e)(g:y.get i=fR o)(a:Q (ov (e.lookup nm)) y):wp (zZ (.b i) [.d nm]) Q X y:=by
 rcases c.aE with⟨rfl,rfl⟩|rfl
 .exact fV (iS g (gj a))
 .refine fV (iS g (gj ?_));rw[uj];generalize b:e.lookup nm=d;induction d with|none=>rw[b]at a;exact a|some n=>rw[b]at a;exact a
def M3(b:ZO o e)(g:y.get i=fR o)(a:Q (e.lookup nm).isSome y):wp (m_ (.d nm) (.b i)) Q X y:=by
 rcases b.aE with⟨rfl,rfl⟩|rfl
 .exact fV (iS g (gj a))
 .refine fV (iS g (gj ?_));rw[tc,uj];exact lE Jm<|a
def uk(h:St b s ts y)(c:s.ae p=fR e)(i:Q (ov (e.lookup nm)) y):wp (F (d+2) 202 [.b b,.a p,.d nm]) Q X y:=by refine gy h ?_;intro L a j;refine gy (a.z _ _ c) λo g f=>h_ (Tw (d+1) _ _ _)<|fV<|Dg a<|fV<|Dw a c<|fV<|Nv f g (.inl rfl)<|fV<|(?_:wp (pf "get" _ _) _ _ _);refine lE ac2<|I8 f g (gj i)
def ϑ:hM .Pow (.a (gV 2)) (.a (gV 64))=fX (.a 18446744073709551616):=by kernel_rfl
def vM(h:St b s ts y)(f:s.ae p=fR e)(l:e.lookup nm=fU)(r:e.length<60)(u:0<=n/\n<18446744073709551616)(v:∀w,St b (s.aF p (e++[(nm,n)])) ts w->Q .c w):wp (F (d+2) 209 [.b b,.a p,.d nm,.a n]) Q X y:=by
 refine gy h ?_;intro L i x;refine gy (i.z _ _ f) λo g z=>h_ (TC (d+1) _ _ _ _)<|wR<|g_ (decide_eq_true u.1)<|lE ϑ<|wR<|wR<|jr (by refine lE (decide_eq_true u.2) ?_;decide)<|fV<|Dg i<|fV<|Dw i f<|fV ?_;have A:∀o',o'=.b (zV (e++[(nm,n)]))->St b (s.aF p (e++[(nm,n)])) ts (jY y (L.zh p) o'):=λo' C=>by
  refine iU L (i.af f (C▸z.more l r)) x.1 (λt m=>?_);refine gP (x.2 t m) λa B=>⟨by rw[jO λc=>B (.inr (.inr (.inr (gx p (by refine lE f ?_;rfl) c))))];exact a,λc=>B ?_⟩;rcases c with c|c|c|⟨k,j,c⟩
  .exact .inl c
  .exact .inr (.inl c)
  .exact .inr (.inr (.inl c))
  .refine .inr (.inr (.inr (gx k ?_ c)));have j:(if k=p then fR (e++[(nm,n)])else s.ae k).isSome=fW:=j;split at j;rename_i q;exact lE q (lE f rfl);exact j
 rcases z.aE with⟨rfl,rfl⟩|rfl
 .exact fV (iS g (ph (gj (v _ (A _ rfl)))))
 .refine fV (iS g (g_ (by unfold zV;rw[iq];unfold hJ;exact iX r) (ph (gj (v _ (A _ ?_))))));exact lE (ϻ l) rfl
def DH(h:St b s ts y)(f:s.ae p=fR e)(r:e.lookup nm=fR n)(x:∀u,St b (s.aF p (jU e nm)) ts u->Q (.a n) u):wp (F (d+2) 216 [.b b,.a p,.d nm]) Q X y:=by
 refine gy h ?_;intro L j v;refine gy (j.z _ _ f) λo g i=>h_ (TG (d+1) _ _ _)<|fV<|Dg j<|fV<|Dw j f<|fV<|fV<|M3 i g<|gj<|lE r<|jr (by simp)<|fV<|Nv i g (.inr (.inl rfl))<|fV<|(?_:wp (pf "pop" _ _) _ _ _);refine lE PD ?_;have z:St b (s.aF p (jU e nm)) ts (jY y (L.zh p) (.b (zV (jU e nm)))):=by
  refine iU L (j.af f (i.less nm)) v.1 (λt m=>?_);refine gP (v.2 t m) λa w=>⟨by rw[jO λc=>w (.inr (.inr (.inr (gx p (by refine lE f ?_;rfl) c))))];exact a,λc=>w ?_⟩;rcases c with c|c|c|⟨k,l,c⟩
  .exact .inl c
  .exact .inr (.inl c)
  .exact .inr (.inr (.inl c))
  .refine .inr (.inr (.inr (gx k ?_ c)));have l:(if k=p then fR (jU e nm)else s.ae k).isSome=fW:=l;split at l;rename_i q;exact lE q (lE f rfl);exact l
 rcases i.aE with⟨rfl,rfl⟩|rfl
 .injection r
 .refine fV (iS g (fV (kI (by rw[uj];exact lE r rfl) (g_ (by unfold zV;rw[iq];have:=i.dN;exact gu this (iP _ _)) (fV (ph (gj (gj (x _ ?_)))))))));rw[Gc];exact z
def pH(h:St b s ts y)(o:O)(c:∀i a,St b s ((i,o)::ts) a->Q (.b i) a):wp (gM o) Q X y:=⟨c _ _ (h.alloc o)⟩
def wO(h:St b s ts y)(o:O)(c:∀i a,St b s ((i,o)::ts) a->wp (f (.b i)) Q X a):wp (fS (gM o) f) Q X y:=fV (pH h o c)
def vH(h:St b s ts y)(j:s.ae p=fR e)(k:∀i a,St b s ((i,.a ((qK (e.map (·.1))).map .d))::ts) a->Q (.b i) a):wp (F (d+2) 223 [.b b,.a p]) Q X y:=by
 refine gy (id h) λL c m=>gy (c.z _ _ j) λo g l=>h_ (Ty (d+1) _ _)<|fV<|Dg c<|fV<|Dw c j<|fV ?_;rcases l.aE with⟨rfl,rfl⟩|rfl
 .exact fV (iS g (pH h _ λi a f=>gj (k i a f)))
 .refine fV (iS g (g_ (by unfold zV;rw[iq];have:=l.dN;exact iX this) ?_));rw[IG];exact pH h _ λi a f=>gj (k i a f)
def Kn(Z9:List (f_×V))(U:gA):Prop:=∀p∈Z9,U.lookup p.1=fR p.2
def Kn.set(h:Kn Z9 U)(n:(Z9.all λp=>!(p.1==x))=fW):Kn Z9 (gW U x v):=λp m=>by
 have:=Bp.mp n p m;refine lE jn ?_;have e:(p.1==x)=fY:=by simpa using this
 exact lE e<|h p m
def Kn.add(h:Kn Z9 U)(n:(Z9.all λp=>!(p.1==x))=fW):Kn ((x,v)::Z9) (gW U x v):=λp m=>by
 rcases gX.mp m with rfl|m
 .refine lE jn ?_;rw[beq_self_eq_true]
 .exact h.set n p m
def Kn.tail{Z9:List (f_×V)}{U:gA}{p:f_×V}(h:Kn (p::Z9) U):Kn Z9 U:=λq m=>h q (.tail _ m)
def Kn.dN:Kn [] U:=λZ m=>nM m
def Kn.cons{Z9:List (f_×V)}{U:gA}{p:f_×V}(e:U.lookup p.1=fR p.2)(h:Kn Z9 U):Kn (p::Z9) U:=λq m=>by
 rcases gX.mp m with rfl|m
 .exact e
 .exact h q m
def acq(h:Kn Z9 U)(m:(x,v)∈Z9)(a:Q v y):wp (ig (jz x U)) Q X y:=kI (h _ m) a
def wK(h:Kn Z9 U)(m:(x,v)∈Z9)(a:wp (f v) Q X y):wp (fS (ig (jz x U)) f) Q X y:=fV (acq h m a)
def mS(h:∀g∈t,y.get g.1=fR g.2)(a:Q () y):wp (im t) Q X y:=⟨by unfold im;refine lE (if_pos h)<|a⟩
def wa(a:Q (gW U x v) y):wp (jF x U (.a v)) Q X y:=⟨a⟩
def zD{P:List V->List V->H->Prop}(n:(Z9.all λp=>!(p.1==x))=fW)(d:∀Z7 Z4 y,P Z7 Z4 y->∀g∈z,y.get g.1=fR g.2)(j:∀Z7 v Z4 U y,Kn ((x,v)::Z9) U->P Z7 (v::Z4) y->wp (L U) (λt b=>if t then wp (N U) (λe f=>P (Z7++[e]) Z4 f) X b else P Z7 Z4 b) X y):∀(Z3 Z7:List V) (U:gA) (y:H),Kn Z9 U->P Z7 Z3 y->(∀Z7 y,P Z7 [] y->Q Z7 y)->wp (jw z (jF x) L N im U Z7 (Z3.map .a)) Q X y:=by intro l;induction l with|nil=>exact λZ7 U y Z p a=>fV (mS (d _ _ _ p) (gj (a _ _ p)))|cons v Z4 i=>intro Z7 U y k p a;have c:=k.add (v:=v) n;refine fV (mS (d _ _ _ p) (fV (wa (fV (pg (j Z7 v Z4 _ y c p) (λt b h=>?_) λZ Z h=>h)))));induction t with|true=>exact fV (pg h (λe f h=>i _ _ _ c.tail h a) λZ Z h=>h)|false=>exact i _ _ _ c.tail h a
def xO{I:H->Prop}{b ws:List V}(n:(Z9.all λp=>!(p.1==x))=fW)(f:b.length=ws.length)(m:∀y,I y->∀g∈t,y.get g.1=fR g.2)(o:∀(k:Nat) v i U y,b[k]?=fR v->ws[k]?=fR i->Kn ((x,v)::Z9) U->I y->wp (z U) (λa c=>a=i/\I c) (λZ Z=>False) y)(k:Kn Z9 U)(q:I y)(r:∀c,I c->Q ws c):wp (iL (jw t (jF x) (λZ=>fX fW) z im U [] (b.map .a))) Q X y:=by
 refine Ba (zD (P:=λZ7 Z4 y=>∃j,Z7=ws.take j/\Z4=b.drop j/\I y) n (λZ7 Z4 y s=>jy s λZ Z Z h=>m y h) ?_ b [] U y k (iU 0 rfl rfl q) ?_);rintro Z7 v Z4 U y u ⟨j,rfl,e,d⟩;refine gj ?_;have w:Z4=b.drop (j+1):=rE Q_ (rE e rfl);have l:j<ws.length:=f▸(Jf λA=>by rw[ww A]at e;injection e);refine pg (o j v ws[j] U y (by refine rE (List.head?_drop) (rE e ?_);rfl) (oO l) u d) ?_ λZ Z h=>h;rintro a c ⟨rfl,h⟩;refine iU (j+1) ?_ w h;refine lE IZ (lE (oO l) ?_);rfl
 .rintro Z7 y ⟨j,rfl,e,d⟩;have:b.length<=j:=by
   have:=congrArg rW e;simp at this;lia
  refine lE (uN (gu (gC f.symm) this))<|r y d
def YW{I:H->Prop}(n:(((x,V.c)::Z9).all λp=>!(p.1==t))=fW)(n':(Z9.all λp=>!(p.1==x))=fW)(e:∀y,I y->∀g∈z,y.get g.1=fR g.2)(g:V->V->V):∀(c:List (V×V)) (Z7:List V) (U:gA) (y:H),(∀p∈c,∀U y,Kn ((t,p.2)::(x,p.1)::Z9) U->I y->wp (L U) (λa b=>a=g p.1 p.2/\I b) X y)->Kn Z9 U->I y->(∀b,I b->Q (Z7++c.map λp=>g p.1 p.2) b)->wp (jw z (rn x t) (λZ=>fX fW) L im U Z7 (c.map λp=>.b p.1 p.2)) Q X y:=by intro l;induction l with|nil=>exact λZ7 U y Z Z i d=>fV (mS (e _ i) (gj (by have:=d y i;rwa [IY,pn]at this)))|cons p r o=>intro Z7 U y f k i d;have j:Kn ((t,p.2)::(x,p.1)::Z9) (gW (gW U x p.1) t p.2):=(k.add n').add n;refine fV (mS (e _ i) (fV (show wp (fX (gW (gW U x p.1) t p.2)) _ _ _ from gj (fV (gj (fV (pg (f p ge _ y j i) ?_ λZ Z h=>h)))))));rintro a b ⟨rfl,h⟩;refine o _ _ _ (λq m=>f q (.tail _ m)) j.tail.tail h λb h=>?_;have:=d b h;rwa [iZ,QK]at this
def vp{X:gG->H->Prop}{x:f_}{Z9:List (f_×V)}{b:List (Nat×O)}{c:gA->M Fl}{P:List V->H->Prop}{R:V->H->Prop}{Q:Fl->H->Prop}(n:(Z9.all λp=>!(p.1==x))=fW)(d:∀Z4 y,P Z4 y->∀g∈b,y.get g.1=fR g.2)(e:∀v Z4 U y,Kn ((x,v)::Z9) U->P (v::Z4) y->wp (c U) (λf a=>match f with|.a ℓ'=>Kn Z9 ℓ'/\P Z4 a|.b r=>R r a) X y)(i:∀ℓ' a,Kn Z9 ℓ'->P [] a->Q (.a ℓ') a)(j:∀r a,R r a->Q (.b r) a):∀(Z3:List V) (U:gA) (y:H),Kn Z9 U->P Z3 y->wp (lf b (jF x) c im U (Z3.map .a)) Q X y:=by intro l;induction l with|nil=>exact λU y k p=>fV (mS (d _ _ p) (gj (i _ _ k p)))|cons v Z4 m=>refine λU y k p=>fV (mS (d _ _ p) (fV (wa (fV (pg (e v Z4 _ y (k.add n) p) (λf a h=>?_) λZ Z h=>h)))));induction f with|a ℓ'=>exact m ℓ' a h.1 h.2|b r=>exact gj (j r a h)
noncomputable def oF(n:Int)(k:Nat):Int:=n/256^k% 256
def ug(n:Int):List Int:=(me 8).map (oF n)
def E8(n:Int):Array UInt8:=byteArr (ug n)
def Rw(Z6:List Int):Array UInt8:=nY (Z6.map E8)
def hO(n:Int):Prop:=0<=n/\n<4611686018427387904
def Cw(n:Int)(k:Nat):0<=oF n k/\oF n k<256:=⟨QD _ gO,QC _ gO⟩
def Zz(m:Nat):∀k,((me k).map λj=>oF (m:Int) j*256^j).sum=((m% 256^k:Nat):Int):=by intro a;induction a with|zero=>simp[Nat.mod_one]|succ k b=>refine lE aeD (lE kT (lE QZ (lE b (lE Nat.mod_pow_succ ?_))));unfold oF;simp[ae3]
def Tj(n:Int):(E8 n).toList.map (λu=>V.a u.toNat)=(ug n).map V.a:=by
 refine lE kR<|Et λx a=>mE a λk Z b=>?_;obtain rfl:=b;have h:=Cw n k;refine(?_:V.a ((oF n k).toNat.toUInt8.toNat:Int)=V.a (oF n k));have e:(oF n k).toNat.toUInt8.toNat=(oF n k).toNat:=by refine lE Nat.toUInt8_eq (lE UInt8.toNat_ofNat' ?_);lia
 refine lE e ?_;congr 1;lia
def Kk(n:Int):(E8 n).size=8:=by unfold E8;rw[byteArr_size];rfl
def PQ(h:x.natAbs<2^64)(a:Q (.a (x*t)) y):wp (hM .Mult (.a x) (.a t)) Q X y:=g_ (decide_eq_true h) (gj a)
def act(h:0<=t)(a:Q (.a (x.fdiv (2^t.toNat))) y):wp (hM .RShift (.a x) (.a t)) Q X y:=g_ h (gj a)
def acs(h:(0<=t/\t<=1000)/\x.natAbs<2^64)(a:Q (.a (x*2^t.toNat)) y):wp (hM .LShift (.a x) (.a t)) Q X y:=g_ h (gj a)
def v_(h:t≠0)(a:Q (.a (x.fmod t)) y):wp (hM .Mod (.a x) (.a t)) Q X y:=g_ h (gj a)
def ϐ:hM .Pow (.a (gV 256)) (.a (gV 8))=fX (.a 18446744073709551616):=by kernel_rfl
def ϛ:AC (.a (gV 8))=fX ⟨[],((me 8).map λ(k:Nat)=>V.a (0+1*(k:Int))).map .a⟩:=by kernel_rfl
def An(is:List Int):qC (is.map .a)=fR is:=by induction is with|nil=>rfl|cons i r a=>refine(?_:(qC (r.map .a)).map (i::·)=_);exact lE a rfl
def Zy(n:Int)(k:Nat):afb (n.fdiv (2^(gV 8*(0+1*(k:Int))).toNat)) 255=oF n k:=by
 have e:(gV 8*(0+1*(k:Int))).toNat=8*k:=by lia
 have p:((2:Int)^(8*k))=256^k:=lE ae5 rfl;rw[bitAnd_m8];refine lE e (lE (Int.fdiv_eq_ediv_of_nonneg _ (ae6 gO)) (lE p ?_));rfl
def Ym(h:St b s ts y)(m:(i,.a (is.map .a))∈ts)(a:∀x∈is,0<=x/\x<256)(c:is.length<=1000)(d:Q (.f (byteArr is)) y):wp (s_ [.b i]) Q X y:=by refine fV (fV (iS (h.get m) (gj ?_)));exact fV (kI (An is) (g_ ⟨a,by unfold hJ;exact(gu c (iP _ _))⟩ (gj d)))
def Pk{is:List Int}(h:St b s ts y)(m:(i,.a (is.map .a))∈ts)(a:∀x∈is,0<=x)(c:is.sum<2^62)(d:Q (.a is.sum) y):wp (yr [.b i]) Q X y:=by refine fV (fV (iS (h.get m) (gj ?_)));exact fV (kI (An is) (g_ ⟨a,c⟩ (gj d)))
def ψ(h:St b s ts y)(f:hO n)(p:∀a,St b s ts a->Q (.f (E8 n)) a):wp (F (d+1) 240 [.a n,.a (gV 8)]) Q X y:=by
 refine h_ (UA d _ _)<|wR<|g_ (decide_eq_true f.1)<|lE ϐ<|wR<|wR<|jr (by refine lE (decide_eq_true (show n<18446744073709551616 by have:=f.2;exact yJ this gO)) ?_;decide) ?_;unfold b4;refine lE ϛ<|wR<|fV<|xO (Z9:=[(fZ "number",.a n)]) (ws:=(ug n).map .a) gQ (by unfold ug;simp) (λZ Z g m=>nM m) ?_ (Kn.cons gQ Kn.dN) h λa q=>?_
 .intro k v r U y c e j h;have l:k<8:=by
   refine gI (uL.mp c) λg Z=>?_;simpa using g
  have t:v=.a (0+1*(k:Int)):=by rw[lQ,IW l]at c;exact(gz c).symm
  have u:r=.a (oF n k):=by unfold ug at e;rw[lQ,lQ,IW l]at e;exact(gz e).symm
  subst t;subst u;refine wK j gZ<|wK j ge<|fV<|PQ gO<|fV<|act (by exact kr _)<|wR<|gj ⟨?_,h⟩;exact congrArg V.a (Zy n k)
 .refine g_ (by unfold ug hJ;simp)<|wO q _ λi a o=>fV<|Ym o ge (λx w=>?_) (by unfold ug;simp) (gj (p _ (o.sub hW)));refine mE w λk Z z=>?_;obtain rfl:=z;exact Cw n k
def u5(n:Int):uh 0 ((ug n).map V.a)=((me 8).map λ(k:Nat)=>(V.a (k:Int),V.a (oF n k))).map λp=>.b p.1 p.2:=by kernel_rfl
def OK(a u:V):V:=((iV a).bind λa=>(iV u).map λu=>V.a (u*2^(8*a).toNat)).getD .c
def φ{n:Int}(h:St b s ts y)(c:hO n)(o:∀a,St b s ts a->Q (.a n) a):wp (F (d+1) 235 [.f (E8 n)]) Q X y:=by
 refine h_ (Uz d _)<|wR ?_;rw[Tj,u5];have q:((me 8).map λ(k:Nat)=>(V.a (k:Int),V.a (oF n k))).map (λp=>OK p.1 p.2)=((me 8).map λ(k:Nat)=>oF n k*256^k).map V.a:=by rw[kR,kR];refine Et λk Z=>(?_:V.a (oF n k*2^(8*(k:Int)).toNat)=V.a (oF n k*256^k));exact lE (show(8*(k:Int)).toNat=8*k by lia) (lE ae5 rfl)
 refine wN<|YW (by decide+kernel) (by rfl) (λZ Z g m=>nM m) OK _ _ _ _ ?_ Kn.dN h λa r=>?_
 .refine λp m U y e h=>mE m λk f t=>?_;obtain rfl:=t;have f:=yQ.mp f;have z:=Cw n k;refine wK e ge<|wK e gZ<|fV<|PQ gO<|fV<|acs ⟨⟨?_,?_⟩,?_⟩<|gj ⟨rfl,h⟩;exact kr _;lia;lia
 .rw[pT];refine lE q ?_;have j:((me 8).map λ(k:Nat)=>oF n k*256^k).sum=n:=by
   refine gI (QE c.1) λm u=>?_;obtain rfl:=u;rw[Zz];have:=c.2;exact lE (Nat.mod_eq_of_lt (by lia)) rfl
  refine g_ (by unfold hJ;simp)<|wO r _ λi a l=>fV<|Pk l ge (λx v=>?_) (by refine lE j<|c.2) (gj ?_);refine mE v λk Z w=>?_;obtain rfl:=w;exact Int.mul_nonneg (Cw n k).1 (ae6 gO);exact lE j<|o _ (l.sub hW)
def X0:lJ T (.f b) "join"=fX .a:=by kernel_rfl
def ac3:pf "join" v h=Ao v h:=by kernel_rfl
def Yo(a:List (Array UInt8)):zA (a.map .f)=fR a:=by induction a with|nil=>rfl|cons i r b=>refine(?_:(zA (r.map .f)).map (i::·)=_);exact lE b rfl
def Yu(h:∀c∈t,c.size=8):(nY t).size=8*t.length:=by induction t with|nil=>rfl|cons c r a=>refine lE Qv (lE (a λx m=>h x (.tail _ m)) (lE (h c ge) (lE qn ?_)));exact Nat.add_comm _ _
def xE(Z6:List Int):(Rw Z6).size=8*Z6.length:=by refine lE (Yu (by intro c m;refine mE m λn Z a=>?_;obtain rfl:=a;exact Kk n)) ?_;rw[iq]
def Yt(h:∀c∈t,c.size=8):∀{k:Nat} {c:Array UInt8},t[k]?=fR c->mY (nY t).toList (8*k) (8*k+8)=c.toList:=by induction t with|nil=>intro k c e;injection e|cons a r d=>intro k c e;have b:a.toList.length=8:=lE kq<|h a ge;refine(?_:((a++nY r).toList.take (8*k+8)).drop (8*k)=_);refine lE Eh ?_;induction k with|zero=>have e:=gz e;subst e;refine lE (aeJ (gC b.symm))<|(?_:(a.toList.take 8).drop 0=_);exact lE yL (lE (uN (gC b)) rfl)|succ k=>have e:=e;have:=d (λx m=>h x (.tail _ m)) e;refine rE this (lE List.take_append (lE aed ?_));refine lE (uN (gu (gC b) (iP _ _))) (lE (ww (gu (gC b) (iP _ _))) ?_);rw[pT];refine lE b ?_;congr 1
def PR(a:Q (!decide (x=h)) y):wp (gR .NotEq (.a x) (.a h)) Q X y:=⟨a⟩
def acm(a:Q (decide (x=h)) y):wp (gR .Eq (.a x) (.a h)) Q X y:=⟨a⟩
def Χ(h:y.get i=fR (.a xs))(a:Q ⟨[(i,.a xs)],xs.map .a⟩ y):wp (jJ (.b i)) Q X y:=fV (iS h (gj a))
def Ω(h:y.get i=fR (.c xs))(a:Q ⟨[(i,.c xs)],xs.map .a⟩ y):wp (jJ (.b i)) Q X y:=fV (iS h (gj a))
def wJ(a:wp (f (!decide (x=h))) Q X y):wp (fS (gR .NotEq (.a x) (.a h)) f) Q X y:=fV (PR a)
def wI(a:wp (f (decide (x=h))) Q X y):wp (fS (gR .Eq (.a x) (.a h)) f) Q X y:=fV (acm a)
def wV(h:y.get i=fR (.a xs))(a:wp (f ⟨[(i,.a xs)],xs.map .a⟩) Q X y):wp (fS (jJ (.b i)) f) Q X y:=fV (Χ h a)
def ql(h:y.get i=fR (.a xs))(a:Q xs y):wp (nh (.b i)) Q X y:=fV (iS h (gj a))
def xY(h:c.size<=50000)(a:Q (.a c.size) y):wp (kW [.f c]) Q X y:=g_ (by unfold hJ;exact gu h (iP _ _)) (gj a)
def GL(g:y.get i=fR (.a xs))(h:xs.length<=50000)(a:Q (.a xs.length) y):wp (kW [.b i]) Q X y:=fV (iS g (g_ (by unfold hJ;exact gu h (iP _ _)) (gj a)))
def CY(h:0<=i)(a:i<1000000):un (.a i)=fR i.toNat:=if_pos ⟨h,by lia⟩
def CS(h:0<=i)(a:i<1000000):rK m (.a i)=fR i.toNat:=if_pos ⟨h,by lia⟩
def ϙ{a b:Int}(c:0<=a)(d:a<1073741824)(e:0<b)(f:b<1073741824)(g:Q ⟨[],(vR 0 a b).map .a⟩ y):wp (vS (.a (gV 0)) (.a a) (.a b)) Q X y:=g_ (kg ⟨by decide,by decide+kernel⟩ ⟨c,d⟩ e f) (gj g)
def N9(a:c.size=0)(g:y.get i=fR (.a (t.map .f)))(h:(nY t).size<=hJ/\2<=t.length)(b:Q (.f (nY t)) y):wp (Ao (.f c) [.b i]) Q X y:=g_ a (fV (ql g (fV (kI (Yo _) (g_ h (gj b))))))
def AF(h:St b s ts y)(m:(i,.a (Z6.map .a))∈ts)(q:∀n∈Z6,hO n)(o:2<=Z6.length/\Z6.length<=60)(r:∀a,St b s ts a->Q (.f (Rw Z6)) a):wp (F (d+2) 399 [.b i]) Q X y:=by
 refine h_ (UI (d+1) _)<|(?_:wp (fS (lJ _ _ _) _) _ _ _);refine lE X0<|wR<|wV (h.get m)<|fV<|xO (ws:=(Z6.map E8).map .f) (by rfl) (by simp) (λy h g t=>?_) ?_ Kn.dN h λa e=>?_
 .cases t with|head=>exact h.get m|tail _ u=>exact nM u
 .intro k v z U y c f w h;rw[lQ]at c;rw[kR,lQ]at f;generalize l:Z6[k]?=x;induction x with|none=>rw[l]at c;injection c|some n=>rw[l]at c f;obtain rfl:=gz c;obtain rfl:=gz f;exact wK w ge<|fV<|ψ h (q n (Eu l)) λa e=>gj ⟨rfl,e⟩
 .refine g_ (by simp;exact gu o.2 (iP _ _))<|wO e _ λj a p=>fV<|(?_:wp (pf "join" _ _) _ _ _);refine lE ac3<|N9 rfl (p.get ge) ⟨?_,?_⟩ (gj (r _ (p.sub hW)));refine(?_:(Rw Z6).size<=hJ);rw[xE];unfold hJ;lia;rw[iq];exact o.1
def Hg(h:St b s ts y)(t:∀n∈Z6,hO n)(u:Z6.length<=60)(w:∀i a,St b s ((i,.a (Z6.map .a))::ts) a->Q (.b i) a):wp (F (d+2) 404 [.f (Rw Z6)]) Q X y:=by
 have e:=xE Z6;have l:(Rw Z6).size<=50000:=by lia
 refine h_ (UB (d+1) _)<|fV (xY l ?_);refine fV (v_ gO ?_);refine fV (PR ?_);refine lE e<|jr ?_ (fV (xY l (fV (ϙ (kr _) (by lia) gO (by decide+kernel) ?_))))
 .have:((8*Z6.length:Nat):Int).fmod 8=0:=by
   refine lE (Int.fmod_eq_emod_of_nonneg _ gO) ?_;lia
  refine lE (show gV 8=8 from rfl) (lE this ?_);decide
 .have x:vR 0 ((Rw Z6).size:Int) (gV 8)=(me Z6.length).map λ(k:Nat)=>.a (gV 0+gV 8*(k:Int)):=by
   unfold vR;refine lE e ?_;congr 2;lia
  refine lE x<|fV<|xO (Z9:=[(fZ "octets",.f (Rw Z6))]) (ws:=Z6.map .a) gQ (by simp) (λZ Z g m=>nM m) ?_ (Kn.cons gQ Kn.dN) h λa o=>?_
  .intro k v E U y p r q h;have f:k<Z6.length:=by
    refine gI (uL.mp p) λg Z=>?_;simpa using g
   rw[lQ,IW f]at p;obtain rfl:=gz p;rw[lQ,oO f]at r;obtain rfl:=gz r;have z:=(CY (by exact kr _) (by lia)).trans (congrArg fR (show(0+8*(k:Int)).toNat=8*k by lia));have A:rK (Rw Z6).size (.a (gV 0+gV 8*(k:Int)+gV 8))=fR (8*k+8):=(CS (by exact kr _) (by lia)).trans (congrArg fR (show(0+8*(k:Int)+8).toNat=8*k+8 by lia));refine wK q gZ<|wK q ge<|wK q ge<|wR<|fV<|g_ (by refine lE e ?_;exact gu (gu (gC e.symm) l) gO)<|fV<|kI z<|fV<|kI A<|gj ?_;have B:mY (Rw Z6).toList (8*k) (8*k+8)=(E8 Z6[k]).toList:=by refine Yt (by intro c m;refine mE m λn Z C=>?_;obtain rfl:=C;exact Kk n) ?_;refine lE lQ (lE (oO f) ?_);rfl
   refine lE B (lE yG ?_);exact fV<|φ h (t _ (Er f)) λa o=>gj ⟨rfl,o⟩
  .exact g_ (by simp;exact gu u (iP _ _))<|wO o _ λj a D=>gj (w _ _ D)
noncomputable def vt:Array UInt8:=Ef 53 0
def ώ:F (d+1) 279 [.c]=fX (.f vt):=(UD d).trans gQ
def Ϗ:F (d+1) 284 [.f vt]=fX .c:=(UE d _).trans gQ
def aa2(T:ie)(v:V):List (f_×V)->M h->M h|[],K=>K|p::r,K=>fS (mP T v p.1 p.2) λZ=>aa2 T v r K
def Ow{k:f_}(h:k∉fs.map (·.1)):jm fs k v=fs++[(k,v)]:=by unfold jm;rw[tc,if_neg];rw[CG];exact h
noncomputable def NK:List f_->Bool|[]=>fW|x::r=>!(r.any λa=>decide (a=x))&&NK r
def Dn:∀{l:List f_},NK l=fW->l.Nodup:=by intro a;induction a with|nil=>exact λZ=>wG|cons x r b=>intro h;have h:(!(r.any (·==x))&&NK r)=fW:=h;rw[lr,Bl,QJ]at h;exact jk.mpr ⟨λm=>h.1 x m (by simp),b h.2⟩
def Dy{K:M t}:∀{Z5 fs:List (f_×V)} {y:H},St b s ((i,.g C fs)::ts) y->(Z5.all λp=>si C p.1)=fW->((fs++Z5).map (·.1)).Nodup->(fs++Z5).length<=100->(∀a,St b s ((i,.g C (fs++Z5))::ts) a->wp K Q X a)->wp (aa2 (Tt d) (.b i) Z5 K) Q X y:=by
 intro k;induction k with|nil=>intro fs y h _ _ _ c;exact c y (by rw[pn];exact h)|cons p r l=>
  intro fs y h f g j c;rw[IR,lr]at f;have n:p.1∉fs.map (·.1):=λm=>by rw[kT,nQ]at g;exact g.2.2 _ m _ ge rfl
  have e:fs++p::r=(fs++[p])++r:=by simp
  refine fV (oL (h.get ge) f.1 (by simp at j;exact gu (pz _ _) j) ?_);refine lE (Ow n)<|l (h.put .dN) f.2 (e▸g) (e▸j) λa o=>c a (by refine lE e ?_;exact o)
def DD{a c:V}(h:St b s ts y)(m:(j,.a xs)∈ts)(e:xs.length<=1000)(f:un a=fR l)(g:rK xs.length c=fR u)(i:∀k d,St b s ((k,.a (mY xs l u))::ts) d->Q (.b k) d):wp (lY (.b j) a c) Q X y:=fV (ql (h.get m) (g_ (by unfold hJ;exact gu e (iP _ _)) (fV (kI f (fV (kI g (pH h _ i)))))))
def AP(h:y.get j=fR (.a xs))(a:xs.length=n)(b:Q xs y):wp (kG (.b j) n) Q X y:=fV (fV (iS h (gj (g_ a (gj b)))))
def rR(h:y.get j=fR (.c xs))(a:xs.length=n)(b:Q xs y):wp (kG (.b j) n) Q X y:=fV (fV (iS h (gj (g_ a (gj b)))))
def GX(h:St b s ts y)(c:∀i a,St b s ((i,.g C [])::ts) a->wp (F d t (.b i::x)) (λr e=>r=.c/\Q (.b i) e) X a):wp (nX (Tt d) (fR (.b C t)) x) Q X y:=by refine(?_:wp (fS (gM (.g C [])) λf=>fS (F d t (f::x)) λr=>match r with|.c=>fX f|_=>gc) Q X y);refine fV (pH h _ λi a g=>fV (pg (c i a g) ?_ λZ Z h=>h));rintro r e ⟨rfl,c⟩;exact gj c
def FD(h:St b s ts y)(m:(j,.a xs)∈ts)(c:(k,.a t)∈ts)(d:xs.length+t.length<=1000)(e:∀i a,St b s ((i,.a (xs++t))::ts) a->Q (.b i) a):wp (hM .Add (.b j) (.b k)) Q X y:=fV (ql (h.get m) (fV (ql (h.get c) (g_ (by unfold hJ;exact gu d (iP _ _)) (pH h _ e)))))
structure hY where
 an:Int
 aw:Int
 ah:Int
 aQ:Int
 dN:Int
 made:Int
 bq:Int
 ag:Int
 au:Int
 av:Int
 holds:Int
 a_:Int
 bd:Int
 aL:Int
 bp:Int
noncomputable def hY.row(x:hY):List Int:=[x.an,x.aw,x.ah,x.aQ,x.dN,x.made,x.bq,x.ag,x.au,x.av,x.holds,x.a_,x.bd,x.aL,x.bp]
noncomputable def li(x:hY):List (f_×V):=[(fZ "dir",.a x.an),(fZ "guid",.a x.aw),(fZ "prev",.a x.ah),(fZ "prev_made",.a x.aQ),(fZ "next",.a x.dN),(fZ "made",.a x.made),(fZ "refs",.a x.bq),(fZ "dead",.a x.ag),(fZ "snaps",.a x.au),(fZ "clones",.a x.av),(fZ "holds",.a x.holds),(fZ "referenced",.a x.a_),(fZ "unique",.a x.bd),(fZ "is_snap",.a x.aL),(fZ "deferred",.a x.bp),(fZ "pointer",.c)]
def jE(x:hY):O:=.g 525 (li x)
def yl(h:St b s ts y)(m:(i,jE x)∈ts)(a:Q (.a x.an) y):wp (jx (Tt d) (.b i) "dir") Q X y:=kz (h.get m) (by decide+kernel) (show(li x).lookup _=fR (.a x.an) by kernel_rfl) a
def OB(h:St b s ts y)(m:(i,jE x)∈ts)(a:Q (.a x.aw) y):wp (jx (Tt d) (.b i) "guid") Q X y:=kz (h.get m) (by decide+kernel) (show(li x).lookup _=fR (.a x.aw) by kernel_rfl) a
def rj(h:St b s ts y)(m:(i,jE x)∈ts)(a:Q (.a x.ah) y):wp (jx (Tt d) (.b i) "prev") Q X y:=kz (h.get m) (by decide+kernel) (show(li x).lookup _=fR (.a x.ah) by kernel_rfl) a
def vV(h:St b s ts y)(m:(i,jE x)∈ts)(a:Q (.a x.aQ) y):wp (jx (Tt d) (.b i) "prev_made") Q X y:=kz (h.get m) (by decide+kernel) (show(li x).lookup _=fR (.a x.aQ) by kernel_rfl) a
def tD(h:St b s ts y)(m:(i,jE x)∈ts)(a:Q (.a x.dN) y):wp (jx (Tt d) (.b i) "next") Q X y:=kz (h.get m) (by decide+kernel) (show(li x).lookup _=fR (.a x.dN) by kernel_rfl) a
def Hz(h:St b s ts y)(m:(i,jE x)∈ts)(a:Q (.a x.made) y):wp (jx (Tt d) (.b i) "made") Q X y:=kz (h.get m) (by decide+kernel) (show(li x).lookup _=fR (.a x.made) by kernel_rfl) a
def OJ(h:St b s ts y)(m:(i,jE x)∈ts)(a:Q (.a x.bq) y):wp (jx (Tt d) (.b i) "refs") Q X y:=kz (h.get m) (by decide+kernel) (show(li x).lookup _=fR (.a x.bq) by kernel_rfl) a
def uw(h:St b s ts y)(m:(i,jE x)∈ts)(a:Q (.a x.ag) y):wp (jx (Tt d) (.b i) "dead") Q X y:=kz (h.get m) (by decide+kernel) (show(li x).lookup _=fR (.a x.ag) by kernel_rfl) a
def AJ(h:St b s ts y)(m:(i,jE x)∈ts)(a:Q (.a x.au) y):wp (jx (Tt d) (.b i) "snaps") Q X y:=kz (h.get m) (by decide+kernel) (show(li x).lookup _=fR (.a x.au) by kernel_rfl) a
def OA(h:St b s ts y)(m:(i,jE x)∈ts)(a:Q (.a x.av) y):wp (jx (Tt d) (.b i) "clones") Q X y:=kz (h.get m) (by decide+kernel) (show(li x).lookup _=fR (.a x.av) by kernel_rfl) a
def Hx(h:St b s ts y)(m:(i,jE x)∈ts)(a:Q (.a x.holds) y):wp (jx (Tt d) (.b i) "holds") Q X y:=kz (h.get m) (by decide+kernel) (show(li x).lookup _=fR (.a x.holds) by kernel_rfl) a
def AI(h:St b s ts y)(m:(i,jE x)∈ts)(a:Q (.a x.a_) y):wp (jx (Tt d) (.b i) "referenced") Q X y:=kz (h.get m) (by decide+kernel) (show(li x).lookup _=fR (.a x.a_) by kernel_rfl) a
def aah(h:St b s ts y)(m:(i,jE x)∈ts)(a:Q (.a x.bd) y):wp (jx (Tt d) (.b i) "unique") Q X y:=kz (h.get m) (by decide+kernel) (show(li x).lookup _=fR (.a x.bd) by kernel_rfl) a
def Hy(h:St b s ts y)(m:(i,jE x)∈ts)(a:Q (.a x.aL) y):wp (jx (Tt d) (.b i) "is_snap") Q X y:=kz (h.get m) (by decide+kernel) (show(li x).lookup _=fR (.a x.aL) by kernel_rfl) a
def aa5(h:St b s ts y)(m:(i,jE x)∈ts)(a:Q (.a x.bp) y):wp (jx (Tt d) (.b i) "deferred") Q X y:=kz (h.get m) (by decide+kernel) (show(li x).lookup _=fR (.a x.bp) by kernel_rfl) a
def OF(h:St b s ts y)(m:(i,jE x)∈ts)(a:Q .c y):wp (jx (Tt d) (.b i) "pointer") Q X y:=kz (h.get m) (by decide+kernel) (show(li x).lookup _=fR .c by kernel_rfl) a
def OH(h:St b s ts y)(u:kB i (jE x) (jE {x with ah:=n}) ts Z2)(c:∀a,St b s Z2 a->Q () a):wp (mP (Tt d) (.b i) "prev" (.a n)) Q X y:=oL (h.get u.mem) (by decide+kernel) gO (by refine lE (show jm (li x) "prev" (.a n)=li {x with ah:=n} by kernel_rfl)<|c _ (h.put u))
def OG(h:St b s ts y)(u:kB i (jE x) (jE {x with aQ:=n}) ts Z2)(c:∀a,St b s Z2 a->Q () a):wp (mP (Tt d) (.b i) "prev_made" (.a n)) Q X y:=oL (h.get u.mem) (by decide+kernel) gO (by refine lE (show jm (li x) "prev_made" (.a n)=li {x with aQ:=n} by kernel_rfl)<|c _ (h.put u))
def aad(h:St b s ts y)(u:kB i (jE x) (jE {x with dN:=n}) ts Z2)(c:∀a,St b s Z2 a->Q () a):wp (mP (Tt d) (.b i) "next" (.a n)) Q X y:=oL (h.get u.mem) (by decide+kernel) gO (by refine lE (show jm (li x) "next" (.a n)=li {x with dN:=n} by kernel_rfl)<|c _ (h.put u))
def aac(h:St b s ts y)(u:kB i (jE x) (jE {x with ag:=n}) ts Z2)(c:∀a,St b s Z2 a->Q () a):wp (mP (Tt d) (.b i) "dead" (.a n)) Q X y:=oL (h.get u.mem) (by decide+kernel) gO (by refine lE (show jm (li x) "dead" (.a n)=li {x with ag:=n} by kernel_rfl)<|c _ (h.put u))
def OI(h:St b s ts y)(u:kB i (jE x) (jE {x with bd:=n}) ts Z2)(c:∀a,St b s Z2 a->Q () a):wp (mP (Tt d) (.b i) "unique" (.a n)) Q X y:=oL (h.get u.mem) (by decide+kernel) gO (by refine lE (show jm (li x) "unique" (.a n)=li {x with bd:=n} by kernel_rfl)<|c _ (h.put u))
def GW(h:St b s ts y)(m:(r,.a (x.row.map .a))∈ts)(f:∀i a,St b s ((i,jE x)::ts) a->Q (.b i) a):wp (nX (Tt (d+1)) (fR (.b 525 515)) [.b r,.c]) Q X y:=by refine GX h λi n g=>h_ (TH d _ _ _) (fV (DD g (.tail _ m) gO rfl (CS gO (by decide+kernel)) λj o c=>fV (AP (c.get ge) rfl ?_)));refine Dy (Z5:=[(fZ "dir",.a x.an),(fZ "guid",.a x.aw),(fZ "prev",.a x.ah),(fZ "prev_made",.a x.aQ),(fZ "next",.a x.dN),(fZ "made",.a x.made),(fZ "refs",.a x.bq),(fZ "dead",.a x.ag)]) (c.sub hW) gQ (Dn gQ) gO λp k=>fV (DD k (.tail _ m) gO (CY gO (by decide+kernel)) rfl λj q e=>fV (AP (e.get ge) rfl ?_));exact Dy (Z5:=[(fZ "snaps",.a x.au),(fZ "clones",.a x.av),(fZ "holds",.a x.holds),(fZ "referenced",.a x.a_),(fZ "unique",.a x.bd),(fZ "is_snap",.a x.aL),(fZ "deferred",.a x.bp),(fZ "pointer",.c)]) (e.sub hW) gQ (Dn gQ) gO λt l=>gj ⟨rfl,f _ _ l⟩
structure mW where
 bO:Int
 dN:Int
 aK:Int
 bZ:Int
 bP:Int
 cr:Int
 below:Int
 bY:Int
 bx:Int
 bw:Int
noncomputable def mW.row(x:mW):List Int:=[x.bO,x.dN,x.aK,x.bZ,x.bP,x.cr,x.below,x.bY,x.bx,x.bw]
noncomputable def qe(x:mW):List (f_×V):=[(fZ "parent",.a x.bO),(fZ "head",.a x.dN),(fZ "children",.a x.aK),(fZ "props",.a x.bZ),(fZ "origin",.a x.bP),(fZ "used",.a x.cr),(fZ "below",.a x.below),(fZ "quota",.a x.bY),(fZ "reserved",.a x.bx),(fZ "refquota",.a x.bw)]
def pa(x:mW):O:=.g 428 (qe x)
def ZC(h:St b s ts y)(m:(i,pa x)∈ts)(a:Q (.a x.bO) y):wp (jx (Tt d) (.b i) "parent") Q X y:=kz (h.get m) (by decide+kernel) (show(qe x).lookup _=fR (.a x.bO) by kernel_rfl) a
def LL(h:St b s ts y)(m:(i,pa x)∈ts)(a:Q (.a x.dN) y):wp (jx (Tt d) (.b i) "head") Q X y:=kz (h.get m) (by decide+kernel) (show(qe x).lookup _=fR (.a x.dN) by kernel_rfl) a
def Ge(h:St b s ts y)(m:(i,pa x)∈ts)(a:Q (.a x.aK) y):wp (jx (Tt d) (.b i) "children") Q X y:=kz (h.get m) (by decide+kernel) (show(qe x).lookup _=fR (.a x.aK) by kernel_rfl) a
def ZD(h:St b s ts y)(m:(i,pa x)∈ts)(a:Q (.a x.bZ) y):wp (jx (Tt d) (.b i) "props") Q X y:=kz (h.get m) (by decide+kernel) (show(qe x).lookup _=fR (.a x.bZ) by kernel_rfl) a
def ZB(h:St b s ts y)(m:(i,pa x)∈ts)(a:Q (.a x.bP) y):wp (jx (Tt d) (.b i) "origin") Q X y:=kz (h.get m) (by decide+kernel) (show(qe x).lookup _=fR (.a x.bP) by kernel_rfl) a
def ZJ(h:St b s ts y)(m:(i,pa x)∈ts)(a:Q (.a x.cr) y):wp (jx (Tt d) (.b i) "used") Q X y:=kz (h.get m) (by decide+kernel) (show(qe x).lookup _=fR (.a x.cr) by kernel_rfl) a
def ZA(h:St b s ts y)(m:(i,pa x)∈ts)(a:Q (.a x.below) y):wp (jx (Tt d) (.b i) "below") Q X y:=kz (h.get m) (by decide+kernel) (show(qe x).lookup _=fR (.a x.below) by kernel_rfl) a
def ZF(h:St b s ts y)(m:(i,pa x)∈ts)(a:Q (.a x.bY) y):wp (jx (Tt d) (.b i) "quota") Q X y:=kz (h.get m) (by decide+kernel) (show(qe x).lookup _=fR (.a x.bY) by kernel_rfl) a
def ZH(h:St b s ts y)(m:(i,pa x)∈ts)(a:Q (.a x.bx) y):wp (jx (Tt d) (.b i) "reserved") Q X y:=kz (h.get m) (by decide+kernel) (show(qe x).lookup _=fR (.a x.bx) by kernel_rfl) a
def ZG(h:St b s ts y)(m:(i,pa x)∈ts)(a:Q (.a x.bw) y):wp (jx (Tt d) (.b i) "refquota") Q X y:=kz (h.get m) (by decide+kernel) (show(qe x).lookup _=fR (.a x.bw) by kernel_rfl) a
def ZE(h:St b s ts y)(u:kB i (pa x) (pa {x with dN:=n}) ts Z2)(c:∀a,St b s Z2 a->Q () a):wp (mP (Tt d) (.b i) "head" (.a n)) Q X y:=oL (h.get u.mem) (by decide+kernel) gO (by refine lE (show jm (qe x) "head" (.a n)=qe {x with dN:=n} by kernel_rfl)<|c _ (h.put u))
def θ(h:St b s ts y)(m:(r,.a (x.row.map .a))∈ts)(f:∀i a,St b s ((i,pa x)::ts) a->Q (.b i) a):wp (nX (Tt (d+1)) (fR (.b 428 418)) [.b r]) Q X y:=by refine GX h λi n g=>h_ (Ts d _ _) (fV (DD g (.tail _ m) gO rfl (CS gO (by decide+kernel)) λj o c=>fV (AP (c.get ge) rfl ?_)));refine Dy (Z5:=[(fZ "parent",.a x.bO),(fZ "head",.a x.dN),(fZ "children",.a x.aK),(fZ "props",.a x.bZ),(fZ "origin",.a x.bP)]) (c.sub hW) gQ (Dn gQ) gO λp k=>fV (DD k (.tail _ m) gO (CY gO (by decide+kernel)) rfl λj q e=>fV (AP (e.get ge) rfl ?_));exact Dy (Z5:=[(fZ "used",.a x.cr),(fZ "below",.a x.below),(fZ "quota",.a x.bY),(fZ "reserved",.a x.bx),(fZ "refquota",.a x.bw)]) (e.sub hW) gQ (Dn gQ) gO λt l=>gj ⟨rfl,f _ _ l⟩
def hY.ok(x:hY):Prop:=∀n∈x.row,hO n
def hY.ok.an{x:hY}(h:x.ok):hO x.an:=h _ (show _∈x.row from .head _)
def hY.ok.aw{x:hY}(h:x.ok):hO x.aw:=h _ (show _∈x.row from .tail _ ge)
def hY.ok.ah{x:hY}(h:x.ok):hO x.ah:=h _ (show _∈x.row from .tail _ gZ)
def hY.ok.aQ{x:hY}(h:x.ok):hO x.aQ:=h _ (show _∈x.row from .tail _ jh)
def hY.ok.dN{x:hY}(h:x.ok):hO x.dN:=h _ (show _∈x.row from .tail _ mq)
def hY.ok.made{x:hY}(h:x.ok):hO x.made:=h _ (show _∈x.row from .tail _ pb)
def hY.ok.bq{x:hY}(h:x.ok):hO x.bq:=h _ (show _∈x.row from .tail _ my)
def hY.ok.ag{x:hY}(h:x.ok):hO x.ag:=h _ (show _∈x.row from .tail _ (.tail _ my))
def hY.ok.au{x:hY}(h:x.ok):hO x.au:=h _ (show _∈x.row from .tail _ (.tail _ (.tail _ my)))
def hY.ok.av{x:hY}(h:x.ok):hO x.av:=h _ (show _∈x.row from .tail _ (.tail _ (.tail _ (.tail _ my))))
def hY.ok.holds{x:hY}(h:x.ok):hO x.holds:=h _ (show _∈x.row from .tail _ (.tail _ (.tail _ (.tail _ (.tail _ my)))))
def hY.ok.a_{x:hY}(h:x.ok):hO x.a_:=h _ (show _∈x.row from .tail _ (.tail _ (.tail _ (.tail _ (.tail _ (.tail _ my))))))
def hY.ok.bd{x:hY}(h:x.ok):hO x.bd:=h _ (show _∈x.row from .tail _ (.tail _ (.tail _ (.tail _ (.tail _ (.tail _ (.tail _ my)))))))
def hY.ok.aL{x:hY}(h:x.ok):hO x.aL:=h _ (show _∈x.row from .tail _ (.tail _ (.tail _ (.tail _ (.tail _ (.tail _ (.tail _ (.tail _ my))))))))
def hY.ok.bp{x:hY}(h:x.ok):hO x.bp:=h _ (show _∈x.row from .tail _ (.tail _ (.tail _ (.tail _ (.tail _ (.tail _ (.tail _ (.tail _ (.tail _ my)))))))))
def pK(h:hO x)(k:∀n∈l,hO n):∀n∈x::l,hO n:=λn m=>(gX.mp m).elim (λe=>e▸h) (k n)
def hY.bN(a:hO h)(b:hO t)(c:hO x)(d:hO y)(e:hO z)(f:hO L)(g:hO N)(i:hO P)(j:hO Q)(k:hO W)(l:hO a0)(n:hO a1)(o:hO a2)(p:hO a3)(q:hO a4):hY.ok ⟨h,t,x,y,z,L,N,P,Q,W,a0,a1,a2,a3,a4⟩:=pK a (pK b (pK c (pK d (pK e (pK f (pK g (pK i (pK j (pK k (pK l (pK n (pK o (pK p (pK q (λZ m=>nomatch m)))))))))))))))
def mW.ok(x:mW):Prop:=∀n∈x.row,hO n
def mW.ok.put{x:mW}(h:x.ok)(f:hO z):({x with dN:=z}:mW).ok:=mc (h _ ge) (mc f λn m=>h n (.tail _ (.tail _ m)))
def iK(x:hY):Array UInt8:=Rw x.row++vt
def lq(x:mW):Array UInt8:=Rw x.row
def DA(x:hY):x.row.length=15:=rfl
def zJ(a:mW):a.row.length=10:=rfl
def Vd(h:u.size+v.size<=50000)(a:Q (.f (u++v)) y):wp (hM .Add (.f u) (.f v)) Q X y:=g_ (by unfold hJ;exact gu h (iP _ _)) (gj a)
def OM{a b:V}(d:c.size<=50000)(e:un a=fR l)(f:rK c.size b=fR u)(g:Q (.f (mY c.toList l u).toArray) y):wp (lY (.f c) a b) Q X y:=g_ (by unfold hJ;exact gu d (iP _ _)) (fV (kI e (fV (kI f (gj g)))))
def ME:vt.size=53:=by unfold vt;exact Qx
def zM{x:hY}:(iK x).size=173:=by refine lE Qv ?_;rw[xE];exact lE ME rfl
def s0:(mY (iK x).toList 0 120).toArray=Rw x.row:=by
 unfold iK mY;have:(Rw x.row).toList.length=120:=by refine lE kq ?_;rw[xE];rfl
 exact lE yL (lE Eh (lE (aeJ (by lia)) (lE (uN (by lia)) (lE yG rfl))))
def r9:(mY (iK x).toList 120 173).toArray=vt:=by
 unfold iK mY;have:(Rw x.row).toList.length=120:=by rw[kq,xE];rfl
 have a:vt.toList.length=53:=by rw[kq,ME]
 rw[Eh,uN (by rw[px];lia),aed,ww (by lia),this,pT,Rh,yL,yG]
def aae(h:St b s ts y)(m:(i,jE x)∈ts)(c:∀j e,St b s ((j,.a (x.row.map .a))::ts) e->Q (.b j) e):wp (F (d+1) 522 [.b i]) Q X y:=by revert b s ts y Q X h m c;revert i x d;refine @(yk E1 ?_);generalize mC.1.1=i,mC.1.2=x,mC.2=d;intro b s ts y Q X h m c;refine h_ (TJ d _)<|fV<|yl h m<|fV<|OB h m<|fV<|rj h m<|fV<|vV h m<|fV<|tD h m<|fV<|Hz h m<|fV<|OJ h m<|fV<|uw h m<|wO h _ λk l a=>fV<|AJ a (.tail _ m)<|fV<|OA a (.tail _ m)<|fV<|Hx a (.tail _ m)<|fV<|AI a (.tail _ m)<|fV<|aah a (.tail _ m)<|fV<|Hy a (.tail _ m)<|fV<|aa5 a (.tail _ m)<|wO a _ λn o f=>fV<|FD f gZ ge gO λp q g=>gj (c _ _ (g.sub (.cons_cons _ (.cons _ hW))))
def ZI(h:St b s ts y)(m:(i,pa t)∈ts)(e:∀j c,St b s ((j,.a (t.row.map .a))::ts) c->Q (.b j) c):wp (F (d+1) 425 [.b i]) Q X y:=h_ (Tu d _)<|fV<|ZC h m<|fV<|LL h m<|fV<|Ge h m<|fV<|ZD h m<|fV<|ZB h m<|wO h _ λk l a=>fV<|ZJ a (.tail _ m)<|fV<|ZA a (.tail _ m)<|fV<|ZF a (.tail _ m)<|fV<|ZH a (.tail _ m)<|fV<|ZG a (.tail _ m)<|wO a _ λn o f=>fV<|FD f gZ ge gO λp q g=>gj (e _ _ (g.sub (.cons_cons _ (.cons _ hW))))
def HA(h:St b s ts y)(m:(i,jE x)∈ts)(e:x.ok)(f:∀a,St b s ts a->Q (.f (iK x)) a):wp (F (d+3) 536 [.b i]) Q X y:=by refine h_ (UJ (d+2) _)<|fV<|A_ (h.get m) (show(li x).lookup _=fU by kernel_rfl) (show uq 525 _=fR 522 by decide+kernel)<|fV<|aae h m λj k g=>fV<|AF g ge e ⟨by rw[DA];decide,by rw[DA];decide⟩ λl c=>fV<|OF c (.tail _ m)<|fV<|h_ ώ (gj<|fV<|Vd ?_<|gj<|f _<|c.sub hW);have:=@zM x;unfold iK at this;rw[Qv]at this;lia
def aab(h:St b s ts y)(f:x.ok)(g:∀j a,St b s ((j,jE x)::ts) a->Q (.b j) a):wp (F (d+3) 543 [.f (iK x)]) Q X y:=by have c:=@zM x;refine h_ (UK (d+2) _)<|fV<|xY (by lia)<|wR<|lE c<|fV<|OM (by lia) rfl (CS gO (by decide+kernel))<|lE s0<|fV<|Hg h f (by rw[DA];decide) λk l e=>fV<|GL (e.get ge) (by rw[iq];exact Re rfl)<|wJ<|jr (by rw[iq,DA];decide)<|fV<|OM (by lia) (CY gO (by decide+kernel)) (lE c rfl)<|lE r9<|fV<|h_ Ϗ<|gj<|fV<|GW e ge λm n i=>gj<|g _ _<|i.sub (.cons_cons _ hW)
def oc(h:St b s ts y)(e:s.ac p=fR (iK x))(f:x.ok)(g:∀j c,St b s ((j,jE x)::ts) c->Q (.b j) c):wp (F (d+4) 550 [.b b,.a p]) Q X y:=h_ (Un (d+3) _ _)<|wM (a:=160) h (by decide+kernel)<|fV<|Aw h e<|fV<|aab h f λj c i=>gj (g _ _ i)
def DG(h:St b s ts y)(f:s.ac p=fR c)(m:(i,jE x)∈ts)(g:x.ok)(j:∀e,St b (s.aX p (iK x)) ts e->Q .c e):wp (F (d+4) 557 [.b b,.a p,.b i]) Q X y:=h_ (UO (d+3) _ _ _)<|wM (a:=167) h (by decide+kernel)<|fV<|HA h m g λn k=>fV<|OD k f λo l=>gj (j _ l)
def CZ(h:St b s ts y)(e:s.ac p=fR (lq t))(f:t.ok)(g:∀j c,St b s ((j,pa t)::ts) c->Q (.b j) c):wp (F (d+3) 439 [.b b,.a p]) Q X y:=h_ (Um (d+2) _ _)<|wM (a:=160) h (by decide+kernel)<|fV<|Aw h e<|fV<|Hg h f (by rw[zJ];decide) λl m i=>fV<|θ i ge λn o k=>gj<|g _ _<|k.sub (.cons_cons _ hW)
def aaS(h:St b s ts y)(f:s.ac p=fR c)(m:(i,pa t)∈ts)(g:t.ok)(j:∀e,St b (s.aX p (lq t)) ts e->Q .c e):wp (F (d+3) 446 [.b b,.a p,.b i]) Q X y:=h_ (UN (d+2) _ _ _)<|wM (a:=167) h (by decide+kernel)<|fV<|A_ (h.get m) (show(qe t).lookup _=fU by kernel_rfl) (show uq 428 _=fR 425 by decide+kernel)<|fV<|ZI h m λo q k=>fV<|AF k ge g ⟨by rw[zJ];decide,by rw[zJ];decide⟩ λr l=>fV<|OD l f λu n=>gj<|j _<|n.sub hW
def MC(h:St b s ts y)(f:s.ac p=fR (iK x))(g:x.ok)(i:s.ac x.an=fR (lq t))(j:t.ok)(k:∀a,St b s ts a->Q (.a t.dN) a):wp (F (d+5) 571 [.b b,.a p]) Q X y:=h_ (Ud (d+4) _ _)<|fV<|oc h f g λl m c=>fV<|yl c ge<|fV<|CZ c i j λn o e=>fV<|LL e ge<|gj<|k _<|e.sub (.cons _ hW)
noncomputable def lh(k:Nat):f_:=fZ (toString (gV k))
def GZ:∀k<100,MW (lh k)=fR (gV k):=by decide+kernel
def GY(b:j<100)(c:k<100)(h:lh j=lh k):j=k:=by have a:=GZ j b;rw[h,GZ k c]at a;exact(QF (gz a)).symm
structure iN where
 z:Int
 ks:List (Nat×Int)
def iN.af(D:iN):List (f_×Int):=D.ks.map λp=>(lh p.1,p.2)
structure jG(s:S)(D:iN):Prop where
 ae:s.ae D.z=fR D.af
 ac:∀p∈D.ks,s.ac p.2=fR #[]
 lt:∀p∈D.ks,p.1<100
 nk:(D.ks.map (·.1)).Nodup
 nn:(D.ks.map (·.2)).Nodup
 len:D.ks.length<=40
 cS:D.z<=s.aa
 len':∀p∈D.ks,p.2<=s.aa
def Dr(h:m.Perm (l.map f)):∃g:List t,g.Perm l/\m=g.map f:=by generalize e:l.map f=n at h;induction h generalizing l with|nil=>exact gx ([]) (by rw[aev.mp e]) rfl|cons x h k=>exact kJ (QS.mp e) λa r b d i=>gy (k i) λg p j=>gx (a::g) (b▸p.cons a) (by rw[j,<-d];rfl)|swap x A r=>exact kJ (QS.mp e) λa B b d i=>kJ (QS.mp i) λc o j q s=>gx (c::a::o) (by rw[b,j];exact .swap ..) (by rw[<-d,<-q,<-s];rfl)|trans _ _ u v=>refine gy (v e) λC w d=>gy (u d.symm) λy z b=>gx y (z.trans w) b
def Op{D:iN}(b:∀p∈D.ks,p.1<100)(c:(D.ks.map (·.1)).Nodup)(m:(k,p)∈D.ks):D.af.lookup (lh k)=fR p:=by
 have e:=b _ m;obtain⟨d,Z9⟩:=D;unfold iN.af;induction Z9 with|nil=>exact nM m|cons a r f=>
  refine lE iZ (lE jn ?_);rw[iZ,jk]at c;rcases gX.mp m with rfl|m
  .simp
  .have g:(lh k==lh a.1)=fY:=by
    simp only[beq_eq_false_iff_ne];intro d;have:=GY e (b _ ge) d;exact c.1 (this▸i_ m)
   refine lE g<|f (λp h=>b p (.tail _ h)) c.2 m
def ϩ{D:iN}(b:∀p∈D.ks,p.1<100)(d:k<100)(m:k∉D.ks.map (·.1)):D.af.lookup (lh k)=fU:=by
 obtain⟨c,Z9⟩:=D;unfold iN.af;induction Z9 with|nil=>rfl|cons a r e=>
  rw[iZ,gX,not_or]at m;refine lE iZ (lE jn ?_);have f:(lh k==lh a.1)=fY:=by simp only[beq_eq_false_iff_ne];exact λc=>m.1 (GY d (b _ ge) c)
  refine lE f<|e (λp g=>b p (.tail _ g)) m.2
def yq{k:Nat}(h:k<100000)(a:Q (.d (lh k)) y):wp (pR [.a (k:Int)]) Q X y:=by unfold pR;exact g_ (⟨(kr _),by lia⟩) (gj a)
def uF(a:Q (CW v) y):wp (gR .Is v .c) Q X y:=gj a
def AZ(a:Q (!CW v) y):wp (gR .IsNot v .c) Q X y:=gj a
def HD(h:St b s ts y)(m:(i,.a (is.map .a))∈ts)(e:is.length<64)(c:∀j d,St b s ((j,.a ((tE is).map .a))::ts) d->Q (.b j) d):wp (rQ [.b i]) Q X y:=by refine fV (iS (h.get m) (g_ (by rw[iq];exact e) ?_));induction is with|nil=>exact pH h _ c|cons a r=>exact fV (kI (show qC (V.a a::r.map .a)=fR (a::r)from An (a::r)) (pH h _ c))
def xP(h:St b s ts y)(e:jG s D)(z:∀(L:List Nat) i t,L.Perm (D.ks.map (·.1))->St b s ((i,.a ((L.map gV).map .a))::ts) t->Q (.b i) t):wp (F (d+3) 332 [.b b,.a D.z]) Q X y:=by
 refine h_ (TZ (d+2) _ _)<|wM (a:=223) h (by decide+kernel)<|fV<|vH h e.ae λR S j=>wV (j.get ge)<|gy (Dr (f:=lh) (l:=D.ks.map (·.1)) (m:=qK (D.af.map (·.1))) ((yp _).trans (by unfold iN.af;refine lE kR (lE kR ?_);exact List.Perm.refl _))) λL o A=>?_;rw[A]at j|-;have u:L.length=D.ks.length:=by refine lE o.length_eq ?_;rw[iq]
 have w:=e.len;refine fV<|xO (ws:=(L.map gV).map .a) (by rfl) (by simp) (λy h g B=>?_) ?_ Kn.dN j λT C=>?_
 .cases B with|head=>exact h.get ge|tail _ E=>exact nM E
 .intro k v V U y c q G h;rw[lQ,lQ]at c q;generalize r:L[k]?=H;induction H with|none=>rw[r]at c;exact nS c|some n=>
   rw[r]at c q;obtain rfl:=gz c;obtain rfl:=gz q;have I:n<100:=by
    have:=o.mem_iff.mp (Eu r);refine mE this λp J K=>?_;obtain rfl:=K;exact e.lt p J
   exact wK G ge<|fV<|fV<|kI (GZ n I)<|gj<|gj ⟨rfl,h⟩
 .refine g_ (by simp;exact gu (gu (gC u) w) gO)<|wO C _ λW Y M=>fV<|HD M ge (by simp;exact kZ (gC u) w) λa0 a1 x=>gj<|gy (Dr (m:=tE (L.map gV)) (HC _)) λN O P=>?_;rw[P]at x;exact z N _ _ (O.trans o) (x.sub (.cons_cons _ (.cons _ hW)))
def CX{X:gG->H->Prop}{D:iN}(h:St b s ts y)(e:s.ae D.z=fR D.af)(c:∀p∈D.ks,p.1<100)(f:(D.ks.map (·.1)).Nodup)(m:(k,p)∈D.ks)(g:Q (.a p) y):wp (F (d+3) 339 [.b b,.a D.z,.a (k:Int)]) Q X y:=h_ (Ul (d+2) _ _ _)<|wM (a:=202) h (by decide+kernel)<|fV<|yq (by have:=c _ m;exact gu this (iP _ _))<|fV<|uk h e<|lE (Op c f m)<|fV<|uF<|jr l_<|gj g
def NE(h:St b s ts y)(e:s.aa+1<=50000)(f:∀c,St b (s.aO #[]) ts c->Q (.a (s.aa+1:Int)) c):wp (F (d+2) 291 [.b b]) Q X y:=h_ (Ux (d+1) _)<|wM (a:=153) h (by decide+kernel)<|fV<|x_ h e λc g=>gj (f _ g)
def Ϙ:vS (.a (gV 0)) (.a ((0:Nat):Int)) (.a (gV 53))=fX ⟨[],[]⟩:=by kernel_rfl
def Hn(h:St b s ts y)(e:s.ac p=fR #[])(f:∀i c,St b s ((i,.a [])::ts) c->Q (.b i) c):wp (F (d+2) 308 [.b b,.a p]) Q X y:=h_ (UF (d+1) _ _)<|wM (a:=160) h (by decide+kernel)<|fV<|Aw h e<|fV<|xY gO<|fV<|v_ gO<|wJ<|jr gO<|fV<|xY gO<|fV<|h_ Ϙ<|gj<|wN<|fV<|mS (by intro g m;exact nM m)<|gj<|g_ (jT _)<|wO h _ λi c j=>gj (f _ _ j)
def AX(a:∀g∈h,y.get g.1=fR g.2)(b:Q [] y):wp (iL (jw h t x z im U [] [])) Q X y:=Ba<|fV<|mS a<|gj b
def g1(h:St b s ts y)(m:(i,o)∈ts):∀g∈[(i,o)],y.get g.1=fR g.2:=λg a=>by cases a with|head=>exact h.get m|tail _ c=>exact nM c
def HF(h:St b s ts y)(m:(i,.a [])∈ts)(e:∀a,St b s ts a->Q (.a 0) a):wp (F (d+1) 320 [.b i]) Q X y:=h_ (UM d _)<|wV (h.get m)<|fV<|AX (g1 h m)<|g_ (jT _)<|wO h _ λi a c=>fV<|Pk (is:=[]) c ge (by intro x m;exact nM m) (by decide+kernel)<|gj<|e _<|c.sub hW
def NA(h:St b s ts y)(m:(i,.a (is.map .a))∈ts)(o:(j,.a [])∈ts)(g:is.length<=60)(f:Q (!decide (is=[])) y):wp (gR .NotEq (.b i) (.b j)) Q X y:=by
 have k:∀n,j_ (iQ y n) (is.map .a)=fR (is.map .int):=λn=>by clear f g m;induction is with|nil=>rfl|cons a r e=>refine(?_:(match iQ y n (.a a)with|some d=>(j_ (iQ y n) (r.map .a)).map (d::·)|none=>fU)=_);refine lE e ?_;induction n<;>rfl
 have l:iQ y 3 (.b i)=fR (.list (is.map .int)):=by refine(?_:(match y.get i with|some (.a xs)=>(j_ (iQ y 2) xs).map xe|some (.c xs)=>(j_ (iQ y 2) xs).map .tuple|_=>fU)=_);refine lE (h.get m) ?_;dsimp only;rw[k];rfl
 have p:iQ y 3 (.b j)=fR (.list []):=by refine(?_:(match y.get j with|some (.a xs)=>(j_ (iQ y 2) xs).map xe|some (.c xs)=>(j_ (iQ y 2) xs).map .tuple|_=>fU)=_);exact lE (h.get o) rfl
 have q:qV (.list (is.map EL))=fW:=by
  have a:sO (is.map EL)=fW:=by clear f g m k l;induction is with|nil=>rfl|cons a r e=>refine lE iZ ?_;simp[sO,sM,e]
  have c:se (is.map EL)=0:=by clear f g m k l a;induction is with|nil=>rfl|cons a r e=>refine lE iZ ?_;simp[se,sP,e]
  unfold qV;simp[sM,sP,a,c]
 refine fV ⟨?_⟩;unfold qz;dsimp only;refine lE l (lE p ?_);dsimp only;refine lE (if_pos ⟨q,(by unfold qV;simp[sM,sP,sO,se])⟩) ?_;have:qu (.list (is.map EL)) (.list [])=decide (is=[]):=by induction is<;>simp[qu,xc]
 refine lE this<|gj f
structure xy(s s':S):Prop where
 aa:s.aa<=s'.aa
 ac:∀p:Int,p<=s.aa->s'.ac p=s.ac p
 ae:∀p:Int,p<=s.aa->s'.ae p=s.ae p
def jG.keep(h:jG s D)(a:s.aa<=s'.aa)(b:s'.ae D.z=s.ae D.z)(c:∀p∈D.ks,s'.ac p.2=s.ac p.2):jG s' D where
 ae:=b.trans h.ae
 ac:=λp m=>(c p m).trans (h.ac p m)
 lt:=h.lt
 nk:=h.nk
 nn:=h.nn
 len:=h.len
 cS:=by have:=h.cS;exact I4 this a
 len':=λp m=>by have:=h.len' p m;exact I4 this a
def S.aG(s:S)(D:iN)(k:Nat):S:=(s.aO #[]).aF D.z (D.af++[(lh k,(s.aa+1:Int))])
noncomputable def iN.aG(D:iN)(k:Nat)(n:Int):iN:=⟨D.z,D.ks++[(k,n)]⟩
def jG.add(h:jG s D)(g:k<100)(i:k∉D.ks.map (·.1))(j:D.ks.length<40):jG (s.aG D k) (D.aG k (s.aa+1:Int)) where
 ae:=by refine(?_:(if D.z=D.z then fR (D.af++[(lh k,(s.aa+1:Int))])else _)=fR (iN.af ⟨D.z,D.ks++[(k,_)]⟩));refine lE (if_pos rfl) ?_;unfold iN.af;exact lE kT rfl
 ac:=λp m=>by
  refine(?_:(if p.2=(s.aa+1:Int)then fR #[]else s.ac p.2)=fR #[]);rcases mU.mp m with m|m
  .have:=h.len' p m;exact lE (if_neg (kY (oo this)))<|h.ac p m
  .cases m with|head=>exact lE (if_pos rfl) rfl|tail _ d=>exact nM d
 lt:=λp m=>by
  rcases mU.mp m with m|m
  .exact h.lt p m
  .cases m with|head=>exact g|tail _ d=>exact nM d
 nk:=by refine lE kT<|nQ.mpr (iy h.nk (rZ _ _) (λa f c b=>by have b:=js.mp b;subst b;exact λq=>i (q▸f)))
 nn:=by refine lE kT<|nQ.mpr (iy h.nn (rZ _ _) (λa f c b=>by have b:=js.mp b;refine mE f λp l e=>?_;have:=h.len' p l;lia))
 len:=by exact lE px<|j
 cS:=by refine(?_:D.z<=((s.aa+1:Nat):Int));have:=h.cS;exact ra this
 len':=λp m=>by
  refine(?_:p.2<=((s.aa+1:Nat):Int));rcases mU.mp m with m|m
  .have:=h.len' p m;exact ra this
  .cases m with|head=>exact qm _|tail _ d=>exact nM d
def kB.same(m:(i,o)∈ts):kB i o o ts ts:=by induction ts with|nil=>exact nM m|cons t r a=>exact(gX.mp m).elim (λe=>e▸.dN) λm=>.dO (a m)
def St.ne(h:St b s ((j,o)::ts) y)(m:(i,o')∈ts):i≠j:=λc=>by refine jy h ?_;intro _ _ a _;rw[iZ,jk]at a;subst c;have:=i_ (f:=pV) m;exact a.1 this
def cm(h:wp (F d a (v::t)) Q X y):wp (nE (Tt d) (.b a) v nm t) Q X y:=⟨h.a⟩
def wY(h:wp (F d a (v::t)) (Bd f Q X) X y):wp (fS (nE (Tt d) (.b a) v nm t) f) Q X y:=fV (cm h)
def pM{a:gA->M t}(h:wp (a U) Q X y):wp (ke a x (.a U)) Q X y:=h
def F0{a:gA->M x}(h:wp (t v) Q X y):wp (ke a t (.b v)) Q X y:=h
def Od(a:jG s D)(e:k<100)(f:k∉D.ks.map (·.1))(g:D.ks.length<40)(h:s.aa+1<=50000)(i:St b (s.aO #[]) ts y)(j:∀c,St b (s.aG D k) ts c->Q .c c):wp (F (d+2) 209 [.b b,.a D.z,.d (lh k),.a (s.aa+1:Int)]) Q X y:=by refine vM i ?_ (ϩ a.lt e f) (by unfold iN.af;rw[iq];exact gu g (iP _ _)) ⟨(kr _),(BY h)⟩ j;exact a.ae
def Dh{nm:f_}(g:y.get i=fR (.a xs))(a:nm="append"\/nm="extend")(b:Q .a y):wp (lJ (Tt d) (.b i) nm) Q X y:=fV (iS g (g_ a (gj b)))
def Ml(h:St b s ((j,.a [])::ts) y)(m:(i,.a [])∈ts)(c:∀a,St b s ts a->Q .c a):wp (nE (Tt d) .a (.b i) "extend" [.b j]) Q X y:=by refine(?_:wp (pf "extend" _ _) _ _ _);refine lE ac1<|fV (ql (h.get (.tail _ m)) (fV (ql (h.get ge) (g_ ⟨jT _,(h.ne m)⟩ (fV (ph (gj (c _ ?_))))))));exact(h.put (kB.same (.tail _ m))).sub hW
def Ga{D:iN}(h:St b s ts y)(c:jG s D)(g:∀i m,St b s ((i,.a [])::ts) m->Q (.b i) m):wp (F (d+4) 363 [.b b,.a D.z]) Q X y:=by
 revert ts y Q X h c g;revert b s d D;refine @(vQ E1 ?_);generalize ku.1.1=b,ku.1.2=s,ku.2.1=d,ku.2.2=D;intro ts y Q X h c g;refine h_ (T_ (d+3) _ _)<|wO h _ λi t n=>fV<|xP n c λL j o q f=>wV (f.get ge) ?_;revert h g t n q f;revert ts y Q X i L j o;refine @(lx E1 ?_);generalize gw.1.1.1=ts,gw.1.1.2=y,gw.1.2.1=Q,gw.1.2.2=X,gw.2.1.1=i,gw.2.1.2=L,gw.2.2.1=j,gw.2.2.2=o;refine λh g t n q f=>wN<|vp (Z9:=[(fZ "base",.b b),(fZ "dead",.a D.z),(fZ "found",.b i)]) (R:=λZ Z=>False) (P:=λZ4 y=>(∃R:List Nat,Z4=(R.map gV).map V.a/\∀k∈R,∃p,(k,p)∈D.ks)/\St b s ((j,.a ((L.map gV).map .a))::(i,.a [])::ts) y) gQ (λZ y h=>g1 h.2 ge) ?_ ?_ (λZ Z h=>h.elim) _ _ _ (Kn.cons gQ (Kn.cons gQ (Kn.cons gQ Kn.dN))) ⟨(gx L rfl (λk r=>?_)),f⟩
 .rintro v Z4 U y a ⟨⟨R,e,u⟩,h⟩;induction R using jg with|nil=>injection e|cons k R=>cases e;refine gI (u k ge) λp l=>wK a mq<|fV<|Dh (h.get gZ) (.inr rfl)<|wK a gZ<|wK a gZ<|wK a jh<|wK a ge<|fV<|CX h c.ae c.lt c.nk l<|fV<|Hn h (c.ac _ l) λz o f=>fV<|Ml f gZ λA w=>gj (iy a.tail (gx R rfl (λk r=>u k (.tail _ r))) w)
 .rintro ℓ' m a ⟨_,h⟩;exact pM<|wK a jh<|gj<|g _ _<|h.sub hW
 .refine mE (q.mem_iff.mp r) λp l x=>?_;obtain rfl:=x;exact⟨p.2,l⟩
def Zi{e f:V}(h:St b s ts y)(g:jG s D)(k:∀i c,St b s ((i,.a [])::ts) c->Q (.b i) c):wp (F (d+5) 368 [.b b,.a D.z,e,f]) Q X y:=h_ (TW (d+4) _ _ _ _)<|fV<|Ga h g λi m a=>wV (a.get ge)<|fV<|AX (g1 a ge)<|g_ (jT _)<|wO a _ λj n l=>gj<|k _ _<|l.sub (.cons_cons _ hW)
def S.cj(s:S)(D:iN)(k:Nat)(n:Int):S:=(s.aF D.z (jU D.af (lh k))).bf n
noncomputable def iN.but(D:iN)(k:Nat):iN:=⟨D.z,D.ks.filter λp=>!decide (p.1=k)⟩
def Yl{D:iN}(a:k<100)(b:∀p∈D.ks,p.1<100):jU D.af (lh k)=(D.but k).af:=by unfold jU iN.af iN.but;refine lE yN ?_;congr 1;refine IT λp c=>(?_:(!decide (lh p.1=lh k))=!decide (p.1=k));congr 1;exact decide_eq_decide.mpr ⟨GY (b p c) a,λd=>lE d rfl⟩
def De{D:iN}:p∈(D.but k).ks↔p∈D.ks/\p.1≠k:=by unfold iN.but;simp
def Nc{D:iN}(d:(D.ks.map (·.2)).Nodup){p q:Nat×Int}(g:p∈D.ks)(h:q∈D.ks)(e:p.2=q.2):p=q:=by
 obtain⟨j,Z9⟩:=D;induction Z9 with|nil=>exact nM g|cons a r i=>
  rw[iZ,jk]at d;rcases gX.mp g with b|b<;>rcases gX.mp h with c|c
  .exact lE b (lE c rfl)
  .have:=i_ (f:=wW) c;rw[<-e,b]at this;exact absurd this d.1
  .have:=i_ (f:=wW) b;rw[e,c]at this;exact absurd this d.1
  .exact i d.2 b c
def jG.drop(h:jG s D)(m:(k,n)∈D.ks):jG (s.cj D k n) (D.but k) where
 ae:=by refine(?_:(if D.z=D.z then fR (jU D.af (lh k))else _)=_);exact lE (if_pos rfl) (lE (Yl (h.lt _ m) h.lt) rfl)
 ac:=λp a=>by refine gP (De.mp a) λa b=>(?_:(if p.2=n then fU else s.ac p.2)=_);rw[if_neg λc=>b (lE (Nc h.nn a m c) rfl)];exact h.ac p a
 lt:=λp a=>h.lt p (De.mp a).1
 nk:=h.nk.sublist (IU.map _)
 nn:=h.nn.sublist (IU.map _)
 len:=gu (wz _ _) h.len
 cS:=h.cS
 len':=λp a=>h.len' p (De.mp a).1
def Yk{D:iN}(b:(D.ks.map (·.1)).Nodup)(m:(k,n)∈D.ks):(D.but k).ks.length+1=D.ks.length:=by
 obtain⟨c,Z9⟩:=D;unfold iN.but;induction Z9 with|nil=>exact nM m|cons a r d=>
  rw[iZ,jk]at b;refine lE yM ?_;by_cases q:a.1=k
  .have:(r.filter λp=>!decide (p.1=k))=r:=Bq.mpr λp e=>by
    have:p.1≠k:=λc=>b.1 (by refine lE q (rE c ?_);exact i_ e);simp[this]
   simp[q,this]
  .rcases gX.mp m with rfl|m
   .exact absurd rfl q
   .simp[q,d b.2 m]
def Lq{I:H->Prop}{is:List Nat}(t:Nat->Bool)(n:(Z9.all λp=>!(p.1==x))=fW)(j:∀y,I y->∀g∈z,y.get g.1=fR g.2)(l:∀(k:Nat) U y,k∈is->Kn ((x,.a (k:Int))::Z9) U->I y->wp (L U) (λr a=>r=t k/\I a) (λZ Z=>False) y)(m:∀(v:V) U y,Kn ((x,v)::Z9) U->I y->wp (N U) (λr a=>r=v/\I a) (λZ Z=>False) y)(k:Kn Z9 U)(o:I y)(q:∀a,I a->Q (((is.filter t).map gV).map .a) a):wp (iL (jw z (jF x) L N im U [] (((is.map gV).map V.a).map .a))) Q X y:=by
 refine Ba (zD (P:=λZ7 Z4 y=>∃A B,is=A++B/\Z7=((A.filter t).map gV).map V.a/\Z4=(B.map gV).map V.a/\I y) n (λZ7 Z4 y s=>DR s λZ Z Z Z Z h=>j y h) ?_ _ [] U y k (rL ([]) is rfl rfl rfl o) ?_)
 .rintro Z7 v Z4 U y f ⟨A,B,e,rfl,d,b⟩;induction B using jg with|nil=>exact cN d|cons c B=>cases d;refine pg (l c U y (by refine lE e ?_;simp) f b) ?_ λZ Z h=>h;rintro r a ⟨rfl,b⟩;generalize i:t c=u;induction u with|true=>refine pg (m _ U a f b) ?_ λZ Z h=>h;rintro r w ⟨rfl,b⟩;exact rL (A++[c]) B (by refine lE e ?_;simp) (by rw[QO];simp[i]) rfl b|false=>exact rL (A++[c]) B (by refine lE e ?_;simp) (by rw[QO];simp[i]) rfl b
 .rintro Z7 y ⟨A,B,e,rfl,d,b⟩;have:B=[]:=by induction B using jg<;>first|rfl|exact nC d
  subst this;rw[pn]at e;subst e;exact q y b
def GQ(a:Q (decide (x<h)) y):wp (gR .Lt (.a x) (.a h)) Q X y:=gj a
def O3{d i:Nat}{L:List Nat}{k:Nat}(h:St b s ts y)(m:(i,.a ((L.map gV).map .a))∈ts)(j:L.length<=60)(l:∀v n,(v=.c\/∃q∈L,v=.a (q:Int))->St b s ts n->Q v n):wp (F (d+1) 344 [.b i,.a (k:Int)]) Q X y:=by
 refine h_ (Uf d _ _)<|wV (h.get m)<|fV<|Lq (Z9:=[(fZ "birth",.a (k:Int))]) (λc=>decide (c<k)) gQ (λy h=>g1 h m) ?_ ?_ (Kn.cons gQ Kn.dN) h λx r=>?_;refine λc U y Z a h=>wK a ge<|wK a gZ<|fV<|GQ<|gj ⟨?_,h⟩;exact decide_eq_decide.mpr Bo;exact λv U y a h=>wK a ge<|gj ⟨rfl,h⟩
 .have f:=wz (λc=>decide (c<k)) L;have o:∀c∈L.filter (λc=>decide (c<k)),c∈L:=λc t=>(wD.mp t).1;generalize L.filter (λc=>decide (c<k))=B at f o|-;refine g_ (by simp;exact gu (gu f j) gO)<|wO r _ λz C u=>wO u _ λD E g=>fV<|NA g gZ ge (by simp;exact gu f j) ?_;have p:=g.sub (.cons _ hW);rcases B.eq_nil_or_concat with rfl|⟨A,c,e⟩
  .exact jr l_<|gj<|l _ _ (.inl rfl) p
  .rw[List.concat_eq_append]at e;subst e;refine g_ (by simp)<|fV<|fV<|iS (g.get gZ) ?_;have w:nv (ae4 0) (((A++[c]).map gV).map V.a).length=fR A.length:=by
    unfold nv;refine lE (if_neg gO) (lE (if_pos ⟨by simp;exact Fv,by decide+kernel⟩) ?_);simp;lia
   refine fV<|kI w<|kI (by simp)<|gj<|l _ _ (.inr (gx c (o c (by simp)) rfl)) p
structure Fy(s s':S)(D:iN)(L:List Nat):Prop where
 z:D.z=(s.aa+1:Int)
 ok:jG s' D
 perm:(D.ks.map (·.1)).Perm L
 grow:xy s s'
 aa:s'.aa=s.aa+1+L.length
 nn:s'.nn=s.nn+L.length
 a:s'.nz=s.nz+1
 new:∀p∈D.ks,(s.aa+1:Int)<p.2
structure Fx(s s':S)(D D':iN)(b:Nat):Prop where
 z:D'.z=D.z
 ks:D'.ks=D.ks.filter λp=>decide (p.1<b)
 ok:jG s' D'
 aa:s'.aa=s.aa
 nn:s'.nn+D.ks.length=s.nn+D'.ks.length
 a:s'.nz=s.nz
 ae:∀p,p≠D.z->s'.ae p=s.ae p
 ac:∀p,p∉D.ks.map (·.2)->s'.ac p=s.ac p
structure Kj(s s':S)(D:iN):Prop where
 aa:s'.aa=s.aa
 nn:s'.nn+D.ks.length=s.nn
 a:s'.nz+1=s.nz
 ae:∀p,p≠D.z->s'.ae p=s.ae p
 ac:∀p,p∉D.ks.map (·.2)->s'.ac p=s.ac p
def xy.aG{s a:S}(g:xy s a)(h:(s.aa:Int)<D.z):xy s (a.aG D k) where
 aa:=by have:=g.aa;exact pA this
 ac:=λp b=>by refine(?_:(if p=(a.aa+1:Int)then _ else a.ac p)=_);have:=g.aa;exact lE (if_neg (kY (oB b (kP.mpr this))))<|g.ac p b
 ae:=λp b=>by refine(?_:(if p=D.z then _ else a.ae p)=_);exact lE (if_neg (kY (El b h)))<|g.ae p b
def St.bC(h:St b s ts y)(d:s.ac p=fR c):1<=s.nn:=by refine gy h ?_;intro L h _;refine mF h.on λe Z Z f g=>?_;induction e using jg with|nil=>have:=g p;rw[d]at this;injection this|cons a r=>simp only[<-f];exact oQ (jT _)
def St.cy(h:St b s ts y)(d:s.ae p=fR c):1<=s.nz:=by refine gy h ?_;intro L h _;refine mF h.oz λe Z Z f g=>?_;induction e using jg with|nil=>have:=g p;rw[d]at this;injection this|cons a r=>simp only[<-f];exact oQ (jT _)
def St.aS(h:St b s ts y)(a:s.ac p=fR c):p<=s.aa:=by refine gy h ?_;intro L h _;exact wq.mp λd=>by rw[(h.top p d).1]at a;injection a
def St.bv(h:St b s ts y)(a:s.ae p=fR c):p<=s.aa:=by refine gy h ?_;intro L h _;exact wq.mp λd=>by rw[(h.top p d).2]at a;injection a
def St.dw(h:St b s ts y)(a:s.ac p=fR c)(d:s.ae p=fR e):False:=by
 refine gy h ?_;intro L h _;rcases h.bt p with q|q
 .rw[a]at q;injection q
 .rw[d]at q;injection q
def Gz{is:List Int}(h:St b s ts y)(m:(i,.a (is.map .a))∈ts)(a:Q (decide (n∈is)) y):wp (m_ (.a n) (.b i)) Q X y:=fV (iS (h.get m) (fV (kI (An is) (gj a))))
def Vf(h:St b s ts y)(g:jG s D)(i:k<100)(j:k∉D.ks.map (·.1))(l:D.ks.length<40)(f:s.aa+1<=50000)(m:∀u,St b (s.aG D k) ts u->Q .c u):wp (F (d+4) 356 [.b b,.a D.z,.a (k:Int)]) Q X y:=by
 revert ts y X h g i j l f m;revert b s D k Q d;refine @(nI E1 ?_);generalize gT.1.1.1=b,gT.1.1.2=s,gT.1.2=D,gT.2.1.1=k,gT.2.1.2=Q,gT.2.2=d;intro ts y X h g i j l f m;refine h_ (TM (d+3) _ _ _)<|fV<|xP h g λL J K o w=>fV<|Gz w ge ?_;have A:¬decide ((k:Int)∈L.map gV)=fW:=by simp only[decide_eq_true_eq];refine λB=>mE B λc f e=>?_;have:=QF e;subst this;exact j (o.mem_iff.mp f)
 refine jr A<|fV<|NE w f λM C=>fV<|O3 C ge (by have:=g.len;refine lE o.length_eq ?_;rw[iq];exact gu this (iP _ _)) λv N E G=>wO G _ λO P q=>fV<|rR (q.get ge) rfl<|wM (a:=209) q (by decide+kernel)<|fV<|yq (gu i (iP _ _)) ?_;have n:=g.add i j l;refine wY<|Od g i j l f q<|λR r=>fV<|AZ ?_;rcases E with rfl|⟨c,f,rfl⟩
 .exact jr l_<|gj<|m _<|r.sub (.cons _ hW)
 .refine mE (o.mem_iff.mp f) λp H e=>?_;subst e;have x:(p.1,p.2)∈(D.aG k (s.aa+1:Int)).ks:=qT _ H;refine g_ rfl<|fV<|CX (D:=D.aG k (s.aa+1:Int)) r n.ae n.lt n.nk x<|fV<|Hn r (n.ac _ x) λS T t=>wV (t.get ge)<|fV<|AX (g1 t ge)<|g_ (jT _)<|wO t _ λV W I=>wO I _ λY a0 z=>fV<|NA (is:=[]) z gZ ge (jT _)<|jr l_<|gj<|m _<|z.sub (.cons _ (.cons _ (.cons _ (.cons _ hW))))
inductive Tr(b:Nat)(s:S)(ts:List (Nat×O))(j:Nat)(d:List Nat)(Z4:List V)(y:H):Prop|mk (a:S) (c:iN) (R:List Nat) (e:Z4=((R:List Nat).map gV).map V.a) (f:d=c.ks.map (·.1)++R) (g:c.z=(s.aa+1:Int)) (h:jG a c) (i:xy s a) (k:a.aa=s.aa+1+c.ks.length) (l:a.nn=s.nn+c.ks.length) (m:a.nz=s.nz+1) (n:(∀p∈c.ks,(s.aa+1:Int)<p.2)) (o:St b a ((j,.a ((d.map gV).map .a))::ts) y)
def NB(h:St b s ts y)(m:(i,.a ((L.map gV).map .a))∈ts)(r:L.Nodup)(A:∀k∈L,k<100)(t:L.length<=40)(B:s.aa+1+L.length<=50000)(C:∀s' D' E,Fy s s' D' L->St b s' ts E->Q (.a D'.z) E):wp (F (d+3) 327 [.b b,.b i]) Q X y:=by
 revert ts y Q X h m r A t B C;revert b s i L d;refine @(qJ E1 ?_);generalize iz.1.1.1=b,iz.1.1.2=s,iz.1.2=i,iz.2.1=L,iz.2.2=d;intro ts y Q X h m r A t B C;refine h_ (Uu (d+2) _ _)<|wM h (by decide+kernel)<|wY<|vI h (gu (pz _ _) B) λa3 M=>gy (Dr (m:=tE (L.map gV)) (HC _)) λN u Y=>?_;have O:=u.length_eq;refine fV<|fV<|ql (M.get m)<|fV<|kI (An _)<|g_ ⟨(agz _ (λa c (n:a≠c) e=>n (QF e)) r),by rw[iq];exact(iX t)⟩<|pH M _ λj a4 G=>?_;rw[Y]at G;refine wV (G.get ge)<|wN<|vp (Z9:=[(fZ "base",.b b),(fZ "dead",.a (s.aa+1:Int))]) (R:=λZ Z=>False) (P:=Tr b s ts j N) gQ (λ_ y ⟨_,_,_,_,_,_,_,_,_,_,_,_,h⟩=>g1 h ge) ?_ ?_ (λZ Z h=>h.elim) _ _ _ (Kn.cons gQ (Kn.cons gQ Kn.dN)) ⟨s.aA,⟨(s.aa+1:Int),[]⟩,N,rfl,rfl,rfl,?_,?_,rfl,rfl,rfl,(λp m=>nM m),G⟩
 .rintro v Z4 U y g ⟨o,w,R,e,f,l,x,H,z,nn,I,J,h⟩;induction R using jg with|nil=>exact cN e|cons k R=>
   cases e;obtain⟨a5,q⟩:=w;have l:=l;subst l;have K:=A k (u.mem_iff.mp (by refine lE f ?_;simp));have S:q.length<40:=by
    have:=congrArg rW f;simp at this;exact lG t (gC O) (gC this.symm)
   have T:k∉q.map (·.1):=λn=>by have V:=u.nodup_iff.mpr r;rw[f,nQ]at V;exact V.2.2 _ n _ ge rfl
   have W:o.aa+1<=50000:=by
    have:=congrArg rW f;simp at this;lia
   refine wK g gZ<|wM h (by decide+kernel)<|wK g jh<|wK g ge<|fV<|yq (gu K (iP _ _))<|wK g gZ<|fV<|NE h W λa6 a0=>wY<|Od (D:=⟨_,q⟩) x K T S W a0 λa7 a1=>gj ⟨g.tail,o.aG ⟨_,q⟩ k,iN.aG ⟨_,q⟩ k (o.aa+1:Int),R,rfl,?_,rfl,x.add K T S,H.aG (by dsimp only;exact qm _),?_,?_,I,λp m=>?_,a1⟩;refine lE f ?_;unfold iN.aG;simp;unfold iN.aG;simp;exact congrArg (·+1) z;unfold iN.aG;simp;exact congrArg (·+1) nn
   .rcases mU.mp m with m|m
    .exact J p m
    .cases m with|head=>exact ra (kP.mpr (gC z.symm))|tail _ n=>exact nM n
 .rintro ℓ' E g ⟨o,w,R,e,f,l,x,H,z,nn,I,J,h⟩;have:R=[]:=by induction R using jg<;>first|rfl|exact nC e
  subst this;rw[pn]at f;have len:w.ks.length=L.length:=by refine rE O (lE f ?_);rw[iq]
  refine pM<|wK g gZ<|gj<|rE l<|C o w _ ⟨l,x,f▸u,H,(rB z len),(rB nn len),I,J⟩ (h.sub hW)
 .exact{ae:=by refine(?_:(if(s.aa+1:Int)=s.aa+1 then fR []else _)=_);exact lE (if_pos rfl) rfl,ac:=λp m=>nM m,lt:=λp m=>nM m,nk:=wG,nn:=wG,len:=jT _,cS:=by exact qm _,len':=λp m=>nM m}
 .exact⟨jA _,λZ Z=>rfl,λp a2=>by refine(?_:(if p=(s.aa+1:Int)then _ else s.ae p)=_);exact lE (if_neg (kY (oo a2))) rfl⟩
def YY(h:St b s ts y)(a:jG s D)(j:s.aa+60<=50000)(r:∀s' D' L k,L.Perm ((D.ks.map (·.1)).filter λc=>decide (c<t))->Fy s s' D' L->St b s' ts k->Q (.a D'.z) k):wp (F (d+4) 394 [.b b,.a D.z,.a (t:Int)]) Q X y:=by
 refine h_ (TU (d+3) _ _ _)<|fV<|xP h a λL B C e l=>wV (l.get ge)<|fV<|Lq (Z9:=[(fZ "most",.a (t:Int))]) (λc=>decide (c<t)) gQ (λy h=>g1 h ge) ?_ ?_ (Kn.cons gQ Kn.dN) l λE u=>?_;refine λc U y Z f h=>wK f ge<|wK f gZ<|fV<|GQ<|gj ⟨?_,h⟩;exact decide_eq_decide.mpr Bo;exact λv U y f h=>wK f ge<|gj ⟨rfl,h⟩
 .have i:=wz (λc=>decide (c<t)) L;have m:=a.len;have n:L.length=D.ks.length:=by refine lE e.length_eq ?_;rw[iq]
  have g:(L.filter λc=>decide (c<t)).Perm ((D.ks.map (·.1)).filter λc=>decide (c<t)):=e.filter _;have o:(L.filter λc=>decide (c<t)).Nodup:=(e.nodup_iff.mpr a.nk).filter _;have q:∀c∈L.filter (λc=>decide (c<t)),c<100:=λc j=>by refine mE (e.mem_iff.mp (wD.mp j).1) λp g w=>?_;obtain rfl:=w;exact a.lt p g
  generalize L.filter (λc=>decide (c<t))=M at i g o q|-;refine g_ (by simp;unfold hJ;exact lG m (gC n) i)<|wO u _ λG H x=>fV<|NB x ge o q (lG m (gC n) i) (by lia) λs' D' I z A=>gj<|r s' D' M _ g z<|A.sub (.cons _ hW)
def Yj{D b:iN}{R:List Nat}(e:b.ks=D.ks.filter λp=>decide (p.1<t)||decide (p.1∈k::R))(d:t<=k)(f:k∉R):(b.but k).ks=D.ks.filter λp=>decide (p.1<t)||decide (p.1∈R):=by
 refine(?_:b.ks.filter _=_);refine lE e (lE List.filter_filter ?_);refine IT λp Z=>?_;rw[yI];simp only[lr,Bl,decide_eq_false_iff_not,wo,decide_eq_true_eq,gX];constructor
 .rintro⟨h,a|c|c⟩;exact .inl a;exact absurd c h;exact .inr c
 .rintro(a|c);exact⟨(jt (gu a d)),.inl a⟩;exact⟨λg=>f (g▸c),.inr (.inr c)⟩
def aao{D:iN}{R:List Nat}(b:k<h):(D.ks.filter λp=>decide (p.1<h)||decide (p.1∈k::R))=D.ks.filter λp=>decide (p.1<h)||decide (p.1∈R):=by
 refine IT λp Z=>?_;rw[yI];simp only[wo,decide_eq_true_eq,gX];constructor
 .rintro(a|a|a);exact .inl a;exact .inl (gu (oQ (gC a)) b);exact .inr a
 .rintro(a|a);exact .inl a;exact .inr (.inr a)
def aco(a:Q (decide (h<=x)) y):wp (gR .GtE (.a x) (.a h)) Q X y:=gj a
inductive Tq(b:Nat)(s:S)(ts:List (Nat×O))(D:iN)(d i j:Nat)(L:List Nat)(Z4:List V)(y:H):Prop|mk (a:S) (c:iN) (R:List Nat) (e:Z4=((R:List Nat).map gV).map V.a) (f:R.Nodup) (g:(∀k∈R,∃p,(k,p)∈c.ks)) (h:c.z=D.z) (l:(c.ks=D.ks.filter λp=>decide (p.1<d)||decide (p.1∈R))) (m:jG a c) (n:a.aa=s.aa) (o:a.nn+D.ks.length=s.nn+c.ks.length) (q:a.nz=s.nz) (r:(∀p,p≠D.z->a.ae p=s.ae p)) (t:(∀p,p∉D.ks.map (·.2)->a.ac p=s.ac p)) (u:St b a ((j,.a ((L.map gV).map .a))::(i,.a [])::ts) y)
def ε(h:St b s ts y)(I:jG s D)(l:∀s' D' i T,Fx s s' D D' t->St b s' ((i,.a [])::ts) T->Q (.b i) T):wp (F (d+4) 375 [.b b,.a D.z,.a (t:Int)]) Q X y:=by
 revert y Q X h I l;revert b s ts D t d;refine @(nI E1 ?_);generalize gT.1.1.1=b,gT.1.1.2=s,gT.1.2=ts,gT.2.1.1=D,gT.2.1.2=t,gT.2.2=d;intro y Q X h I l;refine h_ (Ut (d+3) _ _ _)<|wO h _ λi a0 V=>fV<|xP V I λL j a1 J O=>wV (O.get ge) ?_;have W:=J.nodup_iff.mpr I.nk;refine wN<|vp (Z9:=[(fZ "base",.b b),(fZ "dead",.a D.z),(fZ "key",.a (t:Int)),(fZ "found",.b i)]) (R:=λZ Z=>False) (P:=Tq b s ts D t i j L) gQ (λ_ y ⟨_,_,_,_,_,_,_,_,_,_,_,_,_,_,h⟩=>g1 h ge) ?_ ?_ (λZ Z h=>h.elim) _ _ _ (Kn.cons gQ (Kn.cons gQ (Kn.cons gQ (Kn.cons gQ Kn.dN)))) ⟨s,D,L,rfl,W,(λk z=>?_),rfl,?_,I,rfl,rfl,rfl,(λZ Z=>rfl),(λZ Z=>rfl),O⟩
 .rintro v Z4 U y m ⟨n,A,R,e,o,B,r,u,g,C,K,E,G,H,h⟩;induction R using jg with|nil=>exact cN e|cons k R=>
   revert X l V J O W m r g C K E G H h e o B u;revert Q i a0 L j a1 v Z4 U y n A k R;refine @(yj E1 ?_);generalize gY.1.1.1.1=Q,gY.1.1.1.2=i,gY.1.1.2.1=a0,gY.1.1.2.2=L,gY.1.2.1.1=j,gY.1.2.1.2=a1,gY.1.2.2=v,gY.2.1.1.1=Z4,gY.2.1.1.2=U,gY.2.1.2.1=y,gY.2.1.2.2=n,gY.2.2.1.1=A,gY.2.2.1.2=k,gY.2.2.2=R;intro X l V J O W m r g C K E G H h e o B u;cases e;rw[jk]at o;refine wK m ge<|wK m mq<|fV<|aco ?_;by_cases z:t<=k
   .refine gI (B k ge) λp a=>?_;revert X a;revert p;refine @(Hp E1 ?_);generalize AA=p;intro X a;have w:=λv=>m.set (x:="some") (v:=v) gQ;obtain⟨b0,M⟩:=A;have r:=r;subst r;refine g_ (decide_eq_true (kP.mpr z))<|wK m gZ<|wK m jh<|wK m ge<|fV<|CX (D:=⟨D.z,M⟩) h g.ae g.lt g.nk a<|wK (w _) pb<|fV<|Dh (h.get gZ) (.inr rfl)<|wK (w _) gZ<|fV<|Hn h (g.ac _ a) λb1 b2 a4=>fV<|Ml a4 gZ λb3 a2=>wK (w _) gZ<|wM a2 (by decide+kernel)<|wK (w _) jh<|wK (w _) ge<|fV<|yq (gu (g.lt _ a) (iP _ _))<|wY<|DH a2 g.ae (Op g.lt g.nk a) λb4 Y=>?_;have a3:=g.ac _ a;refine wK (w _) gZ<|wM Y (by decide+kernel)<|wY<|CA Y a3 λb5 a5=>gj ⟨(w _).tail,n.cj ⟨D.z,M⟩ k p,iN.but ⟨D.z,M⟩ k,R,rfl,o.2,(λc S=>?_),rfl,Yj u z o.1,g.drop a,C,?_,E,(λq l=>?_),(λq l=>?_),a5⟩;refine gI (B c (.tail _ S)) λa6 a7=>⟨a6,De.mpr ⟨a7,λN=>o.1 (N▸S)⟩⟩;have b6:=Yk g.nk a;have b7:1<=n.nn:=Y.bC a3;refine(?_:n.nn-1+D.ks.length=s.nn+(iN.but ⟨D.z,M⟩ k).ks.length);lia;refine(?_:(if q=D.z then _ else n.ae q)=_);exact lE (if_neg l)<|G q l
    .refine(?_:(if q=p then fU else n.ac q)=_);rw[if_neg];exact lE (H q l) rfl;intro N;have a8:(k,p)∈D.ks:=by
      have a:=a;rw[show M=_ from u]at a;exact(wD.mp a).1
     have:=i_ (f:=wW) a8;exact l (N▸this)
   .refine jr (by refine lE decide_eq_true_eq ?_;exact λN=>z (kP.mp N))<|gj ⟨m.tail,n,A,R,rfl,o.2,(λc S=>B c (.tail _ S)),r,u.trans (aao (Jf z)),g,C,K,E,G,H,h⟩
 .rintro ℓ' T m ⟨n,A,R,e,o,B,r,u,g,C,K,E,G,H,h⟩;have:R=[]:=by induction R using jg<;>first|rfl|exact nC e
  subst this;refine pM<|wK m mq<|gj<|l n A _ _ ⟨r,u.trans ?_,g,C,K,E,G,H⟩ (h.sub hW);refine IT λp Z=>?_;simp
 .refine mE (J.mem_iff.mp z) λp a a9=>?_;obtain rfl:=a9;exact⟨p.2,a⟩
 .refine(Bq.mpr λp a=>?_).symm;have:=J.mem_iff.mpr (i_ a);simp[this]
inductive Th(b:Nat)(s:S)(ts:List (Nat×O))(D:iN)(j:Nat)(L:List Nat)(Z4:List V)(y:H):Prop|mk (a:S) (R:List Nat) (c:Z4=((R:List Nat).map gV).map V.a) (d:R.Nodup) (e:(∀k∈R,∃p,(k,p)∈D.ks)) (f:(∀p∈D.ks,p.1∈R->a.ac p.2=fR #[])) (g:a.ae=s.ae) (h:a.aa=s.aa) (i:a.nn+D.ks.length=s.nn+R.length) (l:a.nz=s.nz) (m:(∀p,p∉D.ks.map (·.2)->a.ac p=s.ac p)) (n:St b a ((j,.a ((L.map gV).map .a))::ts) y)
def m8(h:St b s ts y)(a:jG s D)(i:∀s' r,Kj s s' D->St b s' ts r->Q .c r):wp (F (d+4) 382 [.b b,.a D.z]) Q X y:=by
 revert y Q X h a i;revert b s ts D d;refine @(qJ E1 ?_);generalize iz.1.1.1=b,iz.1.1.2=s,iz.1.2=ts,iz.2.1=D,iz.2.2=d;intro y Q X h a i;refine h_ (Ua (d+3) _ _)<|fV<|xP h a λL j O t G=>wV (G.get ge)<|wN<|vp (Z9:=[(fZ "base",.b b),(fZ "dead",.a D.z)]) (R:=λZ Z=>False) (P:=Th b s ts D j L) gQ (λ_ y ⟨_,_,_,_,_,_,_,_,_,_,_,h⟩=>g1 h ge) ?_ ?_ (λZ Z h=>h.elim) _ _ _ (Kn.cons gQ (Kn.cons gQ Kn.dN)) ⟨s,L,rfl,(t.nodup_iff.mpr a.nk),(λk J=>?_),(λp f Z=>a.ac p f),rfl,rfl,?_,rfl,(λZ Z=>rfl),G⟩
 .rintro v Z4 U y l ⟨g,R,e,n,u,w,m,x,z,H,A,h⟩;induction R using jg with|nil=>exact cN e|cons k R=>
   cases e;rw[jk]at n;refine gI (u k ge) λp f=>?_;have o:g.ae D.z=fR D.af:=lE m<|a.ae;have I:=w _ f ge;refine wK l gZ<|wM h (by decide+kernel)<|wK l gZ<|wK l jh<|wK l ge<|fV<|CX h o a.lt a.nk f<|wY<|CA h I λK B=>gj ⟨l.tail,g.bf p,R,rfl,n.2,(λc M=>u c (.tail _ M)),(λq i C=>?_),m,x,?_,H,(λq i=>?_),B⟩;refine(?_:(if q.2=p then fU else g.ac q.2)=_);refine lE (if_neg λE=>n.1 (by have:=Nc a.nn i f E;rw[this]at C;exact C))<|w q i (.tail _ C);have:=h.bC I;rw[qn]at z;refine(?_:g.nn-1+D.ks.length=s.nn+R.length);lia;refine(?_:(if q=p then fU else g.ac q)=_);exact lE (if_neg λ(E:q=p)=>i (E▸(i_ f)))<|A q i
 .rintro ℓ' r l ⟨g,R,e,n,u,w,m,x,z,H,A,h⟩;have:R=[]:=by induction R using jg<;>first|rfl|exact nC e
  subst this;have o:g.ae D.z=fR D.af:=lE m<|a.ae;have S:=h.cy o;refine pM<|wK l ge<|wM h (by decide+kernel)<|wK l gZ<|wY<|CB h o λK B=>gj<|i (g.ba D.z) _ ⟨x,z,?_,λp f=>?_,A⟩ (B.sub hW);refine(?_:g.nz-1+1=s.nz);lia;refine(?_:(if p=D.z then fU else g.ae p)=_);exact lE (if_neg f) (lE m rfl)
 .refine mE (t.mem_iff.mp J) λp f N=>?_;obtain rfl:=N;exact⟨p.2,f⟩
 .refine lE t.length_eq ?_;rw[iq]
def W5(h:St b s ts y)(c:jG s D)(f:∀s' e,Kj s s' D->St b s' ts e->Q .c e):wp (F (d+5) 389 [.b b,v,.a D.z]) Q X y:=h_ (Us (d+4) _ _ _)<|fV<|Ga h c λi k a=>wV (a.get ge)<|wN<|fV<|mS (g1 a ge)<|gj<|pM<|fV<|kI gQ<|fV<|kI gQ<|fV<|m8 a c λs' l g j=>gj<|f s' _ g<|j.sub hW
noncomputable def vD:f_:="abcdefghijklmnopqrstuvwxyz0123456789-_."
def pc(nm:f_):Bool:=decide (1<=nm.length)&&decide (nm.length<=12)&&(nm.cps.toList.all λc=>decide (c∈vD.cps.toList))&&!decide (nm=".")&&!decide (nm="..")
noncomputable def uv(nm:f_):Bool:=nm.cps.toList.all (λc=>decide (c<128))&&decide (nm.length<=100)
def Yi(a:List Bool):zy (a.map .e)=fR a:=by induction a with|nil=>rfl|cons i r b=>refine(?_:(zy (r.map .e)).map (i::·)=_);exact lE b rfl
def R8(h:nm.length<=100)(a:Q (.a nm.length) y):wp (kW [.d nm]) Q X y:=g_ (by unfold hJ;exact gu h (iP _ _)) (gj a)
def FE(h:x.length+t.length<=1000)(a:Q (.d (x++t)) y):wp (hM .Add (.d x) (.d t)) Q X y:=g_ (by unfold hJ;exact gu h (iP _ _)) (gj a)
def PP(a:Q (decide (x<=h)) y):wp (gR .LtE (.a x) (.a h)) Q X y:=gj a
def Ψ(h:(nm.cps.toList.all λc=>decide (c<128))=fW)(a:Q ⟨[],(vm nm).map .a⟩ y):wp (jJ (.d nm)) Q X y:=g_ h (gj a)
def Vg{a:List Bool}(h:St b s ts y)(m:(i,.a (a.map .e))∈ts)(c:Q (.e (a.all id)) y):wp (zu [.b i]) Q X y:=fV (ql (h.get m) (fV (kI (Yi a) (gj c))))
def vJ(a:(fZ x).length<=100)(b:nm.length<=100)(c:X C y):wp (fS (hM .Add (.d (fZ x)) (.d nm)) λv=>re C v) Q X y:=fV (FE (kZ a b) (PN c))
def M4(a:Q (decide (c∈vD.cps.toList)) y):wp (gR .In (.d ⟨#[c]⟩) (.d vD)) Q X y:=gj a
def Ic(a:uv nm=fW)(h:St b s ts y)(q:pc nm=fW->∀l,St b s ts l->Q .c l)(f:pc nm=fY->∀l,St b s ts l->X 111 l):wp (F (d+1) 451 [.d nm]) Q X y:=by
 revert ts y d a h q f;revert nm b s Q X;refine @(qJ E1 ?_);generalize iz.1.1.1=nm,iz.1.1.2=b,iz.1.2=s,iz.2.1=Q,iz.2.2=X;intro ts y d a h q f;unfold uv at a;rw[lr,decide_eq_true_eq]at a;refine gP a ?_;intro a i;refine h_ (UT d _)<|fV<|R8 i<|fV<|PP ?_;by_cases n:1<=nm.length
 .refine g_ (decide_eq_true (by exact kP.mpr n))<|fV<|PP ?_;by_cases o:nm.length<=12
  .refine jr (by rw[decide_eq_true (show(nm.length:Int)<=gV 12 by exact kP.mpr o)];decide)<|fV<|Ψ a ?_;refine fV<|xO (ws:=(nm.cps.toList.map λc=>decide (c∈vD.cps.toList)).map .e) (by rfl) (by unfold vm;simp) (λZ Z g m=>nM m) ?_ Kn.dN h λE A=>?_
   .intro k v G U y j r B h;unfold vm at j;rw[lQ]at j;rw[lQ,lQ]at r;cases u:nm.cps.toList[k]? with|none=>rw[u]at j;injection j|some c=>rw[u]at j r;obtain rfl:=gz j;obtain rfl:=gz r;exact wK B ge<|fV<|M4<|gj ⟨rfl,h⟩
   .have C:nm.cps.toList.length=nm.length:=rfl;refine g_ (by rw[iq,iq];refine lE C ?_;exact gu i (iP _ _))<|wO A _ λH I t=>fV<|Vg t ge<|wR ?_;have D:((nm.cps.toList.map λc=>decide (c∈vD.cps.toList)).all id)=nm.cps.toList.all λc=>decide (c∈vD.cps.toList):=lE List.all_map rfl;refine lE D ?_;cases w:nm.cps.toList.all λc=>decide (c∈vD.cps.toList)with|false=>exact g_ rfl<|vJ (by decide+kernel) i<|f (by unfold pc;refine lE w ?_;simp) _<|t.sub hW|true=>
     refine jr gO<|wO t _ λJ K x=>fV<|fV<|iS (x.get ge)<|fV<|kI (show uA [V.d ".",V.d ".."]=fR [fZ ".",".."]from rfl)<|gj ?_;have z:=x.sub (.cons _ hW);refine nL (λe=>?_) λe=>?_
     .refine vJ (by decide+kernel) i<|f ?_ _ z;unfold pc;have e:=of_decide_eq_true e;rcases gX.mp e with p|p
      .simp[p]
      .rw[js]at p;simp[p]
     .refine gj<|q ?_ _ z;rw[decide_eq_true_eq,gX,js,not_or]at e;unfold pc;refine lE w ?_;simp[n,o,e.1,e.2]
  .refine g_ (by rw[decide_eq_false (show¬(nm.length:Int)<=gV 12 by exact yK.mpr (Bo.mpr (Jf o)))];rfl)<|vJ (by decide+kernel) i<|f ?_ _ h;unfold pc;simp[o]
 .refine jr (by refine lE decide_eq_true_eq ?_;exact yK.mpr (Bo.mpr (Jf n)))<|vJ (by decide+kernel) i<|f ?_ _ h;unfold pc;simp[n]
noncomputable def tb(a b c d:Int):mW:=⟨a,0,b,c,d,0,0,0,0,0⟩
def Gd(b:hO p)(c:hO h)(d:hO t)(e:hO o):(tb p h t o).ok:=by have a:hO 0:=⟨by decide,by decide⟩;exact mc b (mc a (mc c (mc d (mc e (mc a (mc a (mc a (mc a (mc a λZ m=>nM m)))))))))
def Mp{n k:Nat}(h:n+k<=50000):hO ((n:Int)+(k:Int)):=⟨(kr _),(BY h)⟩
def NC(h:St b s ts y)(i:hO p)(j:hO o)(c:s.aa+3<=50000)(k:∀f,St b (s.aA.aA.aO (lq (tb p (s.aa+1:Int) (s.aa+2:Int) o))) ts f->Q (.a (s.aa+3:Int)) f):wp (F (d+3) 458 [.b b,.a p,.a o]) Q X y:=by
 refine h_ (Uv (d+2) _ _ _)<|wM h (by decide+kernel)<|wY<|vI h (iX c) λt g=>wM g (by decide+kernel)<|wY<|vI g (by exact jo c) λu l=>?_;refine wO l _ λv w e=>wM (a:=153) e (by decide+kernel) ?_;have m:((s.aA.aa:Nat):Int)+1=(s.aa+2:Int):=by exact rfl
 rw[m]at e;have n:=Gd i (Mp ((iX c):s.aa+1<=50000)) (Mp ((jo c):s.aa+2<=50000)) j;refine fV<|AF e ge n ⟨by rw[zJ];decide,by rw[zJ];decide⟩ λx q=>wY<|x_ q (by exact c) λz r=>gj ?_;refine lE (by refine(?_:((s.aa+1+1:Nat):Int)+1=_);exact rfl)<|k _ (r.sub hW)
structure Ds where
 ak:Int
 aw:Int
 made:Nat
 ag:iN
 au:Int
 av:Int
 holds:Int
 bn:Int
 name:f_
noncomputable def oI:List Ds->Int|[]=>0|x::_=>x.ak
noncomputable def qI:List Ds->Nat|[]=>0|x::_=>x.made
def Ds.ax(x:Ds)(a b:Int)(r:List Ds):hY:=⟨a,x.aw,oI r,(qI r:Int),b,(x.made:Int),x.bn,x.ag.z,x.au,x.av,x.holds,0,0,x.bn,0⟩
def V2(h:St b s ts y)(c:s.ae 1=fR [])(e:s.aa+3<=50000)(i:∀f,St b ((s.aA.aA.aO (lq (tb 0 (s.aa+1:Int) (s.aa+2:Int) 0))).aF 1 [(fZ "root",(s.aa+3:Int))]) ts f->Q (.a (s.aa+3:Int)) f):wp (F (d+4) 465 [.b b]) Q X y:=by
 refine h_ (Uo (d+3) _)<|fV<|NC h ⟨by decide,by decide⟩ ⟨by decide,by decide⟩ e λl g=>wM (a:=209) g (by decide+kernel)<|wY<|?_;have j:(s.aA.aA.aO (lq (tb 0 (s.aa+1:Int) (s.aa+2:Int) 0))).ae 1=fR []:=by
  have:=h.bv c;refine(?_:(if(1:Int)=((s.aa+1:Nat):Int)+1 then fR []else if(1:Int)=(s.aa+1:Int)then fR []else s.ae 1)=fR []);exact lE (if_neg (Fu this)) (lE (if_neg (kY (oo this))) (lE c rfl))
 exact vM g j rfl gO ⟨(kr _),(BY e)⟩ λm k=>gj (i _ k)
def Ve(h:St b s ts y)(c:s.ac p=fR (lq t))(f:t.ok)(e:s.ae t.aK=fR [])(i:hO p)(j:uv nm=fW)(k:pc nm=fW)(g:s.aa+3<=50000)(l:∀n,St b ((s.aA.aA.aO (lq (tb p (s.aa+1:Int) (s.aa+2:Int) 0))).aF t.aK [(nm,(s.aa+3:Int))]) ts n->Q (.a (s.aa+3:Int)) n):wp (F (d+6) 487 [.b b,.a p,.d nm]) Q X y:=by
 revert ts y Q X h c f e i j k g l;revert b s p t nm d;refine @(nI E1 ?_);generalize gT.1.1.1=b,gT.1.1.2=s,gT.1.2=p,gT.2.1.1=t,gT.2.1.2=nm,gT.2.2=d;intro ts y Q X h c f e i j k g l;refine h_ (TL (d+5) _ _ _)<|fV<|h_ (US (d+4) _ _ _)<|fV<|Ic j h (λZ A o=>?_) λq=>by rw[k]at q;injection q
 refine fV<|h_ (TS (d+3) _ _ _)<|wM o (by decide+kernel)<|fV<|CZ o c f λB C m=>fV<|Ge m ge<|wY<|uk m e<|gj<|fV<|AZ<|jr l_<|gj<|fV<|NC (m.sub hW) i ⟨by decide,by decide⟩ g λD r=>wM (a:=209) r (by decide+kernel) ?_;have w:(s.aA.aA.aO (lq (tb p (s.aa+1:Int) (s.aa+2:Int) 0))).ac p=fR (lq t):=by refine(?_:(if p=((s.aa+1+1:Nat):Int)+1 then _ else s.ac p)=_);exact lE (if_neg (kY (ra (h.aS c)))) (lE c rfl)
 have u:=h.bv e;have x:(s.aA.aA.aO (lq (tb p (s.aa+1:Int) (s.aa+2:Int) 0))).ae t.aK=fR []:=by refine(?_:(if t.aK=((s.aa+1:Nat):Int)+1 then fR []else if t.aK=(s.aa+1:Int)then fR []else s.ae t.aK)=fR []);exact lE (if_neg (Fu u)) (lE (if_neg (kY (oo u))) (lE e rfl))
 refine fV<|CZ r w f λE G v=>fV<|Ge v ge<|wY<|vM v x rfl gO ⟨(kr _),(BY g)⟩ λH z=>gj<|l _<|z.sub hW
def M6{x:Ds}(h:∀n∈[t,x.aw,oI r,(qI r:Int),y,(x.made:Int),x.bn,x.ag.z,x.au,x.av,x.holds],hO n):(x.ax t y r).ok:=
 have a:hO 0:=⟨by decide,by decide⟩
 hY.bN (h _ ge) (h _ gZ) (h _ jh) (h _ mq) (h _ pb) (h _ my) (h _ (.tail _ my)) (h _ (.tail _ (.tail _ my))) (h _ (.tail _ (.tail _ (.tail _ my)))) (h _ (.tail _ (.tail _ (.tail _ (.tail _ my))))) (h _ (.tail _ (.tail _ (.tail _ (.tail _ (.tail _ my)))))) a a (h _ (.tail _ my)) a
def ι(h:St b s ts y)(j:s.ac p=fR (lq t))(k:t.ok)(u:hO p)(v:hO z)(f:s.aa+10<=50000)(w:∀c D l,Fy s c D [0]->St b ((c.aA.aO (iK (Ds.ax ⟨(c.aa+2:Int),z,1,D,(c.aa+1:Int),0,0,0,""⟩ p 0 []))).aX p (lq {t with dN:=(c.aa+2:Int)})) ts l->Q (.a (c.aa+2:Int)) l):wp (F (d+6) 564 [.b b,.a p,.a (gV 1),.a z]) Q X y:=by
 refine h_ (Uw (d+5) _ _ _ _)<|wO h _ λN O A=>fV<|NB (L:=[0]) A ge (by simp) (by simp) (by simp) (by simp;exact iX f) λc D P g n=>wM (a:=188) n (by decide+kernel) ?_;have i:c.aa=s.aa+2:=g.aa;refine wY<|vI n (kZ f (gC i)) λR B=>wO B _ λS T o=>wM (a:=153) o (by decide+kernel) ?_;have C:hO D.z:=lE g.z<|⟨(kr _),by lia⟩;have e:hO 0:=⟨by decide,by decide⟩;refine fV<|GW (x:=Ds.ax ⟨(c.aa+2:Int),z,1,D,(c.aa+1:Int),0,0,0,""⟩ p 0 []) o ge λV W E=>fV<|HA E ge (M6 (mc u (mc v (mc e (mc e (mc e (mc (show hO 1 from⟨by decide,by decide⟩) (mc e (mc C (mc ⟨(kr _),by lia⟩ (mc e (mc e λZ m=>nM m)))))))))))) λY G=>wY<|x_ G (by refine(?_:c.aa+1+1<=50000);exact kZ f (gC i)) λa0 H=>?_;refine lE (by refine(?_:((c.aa+1:Nat):Int)+1=_);exact rfl) ?_;have q:=h.aS j;have r:(c.aA.aO (iK (Ds.ax ⟨(c.aa+2:Int),z,1,D,(c.aa+1:Int),0,0,0,""⟩ p 0 []))).ac p=fR (lq t):=by refine(?_:(if p=((c.aa+1:Nat):Int)+1 then _ else c.ac p)=_);exact lE (if_neg (kY (oB q (kP.mpr (gC i.symm))))) (lE (g.grow.ac p q) (lE j rfl))
 refine fV<|CZ H r k λa1 a2 I=>fV<|ZE I .dN λa3 J=>?_;have K:({t with dN:=(c.aa+2:Int)}:mW).ok:=k.put ⟨(kr _),(oB (kP.mpr f) (kP.mpr (gC i)))⟩;refine fV<|aaS J r ge K λa4 M=>gj<|w c D _ g<|M.sub (.cons _ (.cons _ (.cons _ hW)))
set_option genInjectivity true in
inductive Ro where|j|f|an (h:Nat)|i (h:Nat)|d (h:Nat)|e (h:Nat) (x:f_)|b (h Y7:Nat)|a (h Y7:Nat)|g (h Y7:Nat)|h (h Y7:Nat)|c (h:Nat) (a:Int)
noncomputable def Ro.ctorIdx:Ro->Nat:=@Ro.rec (λZ=>Nat) 0 1 (λZ=>2) (λZ=>3) (λZ=>4) (λZ Z=>5) (λZ Z=>6) (λZ Z=>7) (λZ Z=>8) (λZ Z=>9) (λZ Z=>10)
abbrev pF:Type:=Int->Ro
noncomputable def Ds.id(x:Ds):Nat:=if x.bn=1 then x.made else 0
structure ny(s:S)(own:pF)(h:Nat)(a b:Int)(x:Ds)(r:List Ds):Prop where
 ac:s.ac x.ak=fR (iK (x.ax a b r))
 bo:(x.ax a b r).ok
 pos:0<x.ak
 aV:own x.ak=.b h x.id
 ag:jG s x.ag
 aN:own x.ag.z=.a h x.id
 ownp:∀p∈x.ag.ks,own p.2=.c h x.ag.z
 two:x.bn=1->s.ae x.av=fR []/\own x.av=.g h x.id/\s.ae x.holds=fR []/\own x.holds=.h h x.id
def mH(s:S)(own:pF)(h:Nat)(a:Int):Int->List Ds->Prop|_,[]=>True|b,x::r=>ny s own h a b x r/\mH s own h a x.ak r
def mH.mem:∀{l:List Ds} {a:Int} {x:Ds},mH s own h t a l->x∈l->∃n r,ny s own h t n x r:=by
 intro l;induction l with|nil=>intro _ _ _ m;exact nM m|cons d r b=>
  intro a x c m;rcases gX.mp m with rfl|m
  .exact qA a r c.1
  .exact b c.2 m
def KF(a:St b s ts y)(u:kB i (.a xs) (.a (xs++[x])) ts Z2)(e:xs.length<=1000)(f:∀c,St b s Z2 c->Q .c c):wp (nE (Tt d) .a (.b i) "append" [x]) Q X y:=by refine(?_:wp (pf "append" _ _) _ _ _);refine lE abZ<|fV (ql (a.get u.mem) (g_ (by unfold hJ;exact gu e (iP _ _)) (fV (ph (gj (f _ (a.put u)))))))
def Ig{X:gG->H->Prop}{y:H}{a:gA->M Bool}{b:gA->M Fl}{Q:Fl->H->Prop}{n:Nat}{U:gA}(h:wp (a U) (λt c=>if t then wp (b U) (λf d=>match f with|.a ℓ'=>wp (qO a b n ℓ') Q X d|.b v=>Q (.b v) d) X c else Q (.a U) c) X y):wp (qO a b (n+1) U) Q X y:=by refine fV (pg h (λt c h=>?_) λZ Z h=>h);cases t with|false=>exact gj h|true=>refine fV (pg h (λf d h=>?_) λZ Z h=>h);cases f with|a ℓ'=>exact h|b v=>exact gj h
def Yz(g:t=λℓ'=>fS (ig (jz (fZ "here") ℓ')) λa=>fS (gR EG a (V.a (gV 0))) λa=>fX a)(q:z=λℓ'=>fS (ig (jz (fZ "found") ℓ')) λv=>fS (lJ (Tt (d+4)) v "append") λm=>fS (ig (jz (fZ "here") ℓ')) λw=>fS (nE (Tt (d+4)) m v "append" [w]) λx=>fS (ig (jz (fZ "base") ℓ')) λv=>fS (ig (jz (fZ "here") ℓ')) λA=>fS (F (d+4) 550 [v,A]) λv=>fS (jx (Tt (d+4)) v "prev") λv=>fX (Fl.a (gW ℓ' "here" v))):∀(r:List Ds) (n:Nat) (U:gA) (Z7:List V) (j:Int) (y:H),r.length<n->Z7.length+r.length<=100->Kn [(fZ "here",.a (oI r)),(fZ "base",.b b),(fZ "found",.b i)] U->mH s own h L j r->St b s ((i,.a Z7)::ts) y->(∀ℓ' k,Kn [(fZ "base",.b b),(fZ "found",.b i)] ℓ'->St b s ((i,.a (Z7++r.map λx=>V.a x.ak))::ts) k->Q (.a ℓ') k)->wp (qO t z n U) Q X y:=by
 intro r;induction r with|nil=>refine λn U Z7 j y e Z c Z f l=>gI (aeR (tN (yR (jT _) e))) λn B=>?_;obtain rfl:=B;refine Ig<|lE g<|wK c ge<|wJ<|gj<|l _ _ c.tail (by refine lE IY ?_;rw[pn];exact f)|cons x r C=>
  refine λn U Z7 j y e o c D f l=>gI (aeR (tN (yR (jT _) e))) λn E=>?_;obtain rfl:=E;refine gP D ?_;intro p G;refine Ig<|lE g (lE q ?_);rw[qn]at e o;have I:(!decide (x.ak=gV 0))=fW:=by
   have:=p.pos;simp;exact ma this
  refine wK c ge<|wJ<|gj<|lE (show oI (x::r)=x.ak from rfl) (lE I (lE (if_pos rfl) ?_));refine wK c jh<|fV<|Dh (f.get ge) (.inl rfl)<|wK c ge<|fV<|KF f .dN (iX o) λO J=>wK c gZ<|wK c ge<|fV<|oc J p.ac p.bo λP K u=>fV<|rj u ge<|gj<|rE g (rE q ?_);refine(C n) _ (Z7++[.a x.ak]) x.ak K (Ey e) (by refine lE px ?_;exact iX o) (c.tail.add gQ) G (u.sub hW) λℓ' k M N=>l _ _ M ?_;refine lE iZ ?_;rw[QK];exact N
def YA(j:St b s ts y)(a:mH s own h t 0 (x::r))(e:r.length<=60)(k:∀i c,St b s ((i,.a (r.map λx=>V.a x.ak))::ts) c->Q (.b i) c):wp (F (d+5) 585 [.b b,.a x.ak]) Q X y:=h_ (TP (d+4) _ _)<|wO j _ λi p l=>fV<|oc l a.1.ac a.1.bo λq u f=>fV<|rj f ge<|wO f _ λv m g=>fV<|rR (g.get ge) rfl<|wN<|Yz rfl rfl r 100 _ [] x.ak m (iX e) (by simp;exact gu e (iP _ _)) (Kn.cons gQ (Kn.cons gQ (Kn.cons gQ Kn.dN))) a.2 (g.sub (.cons _ hW)) λℓ' c n o=>pM<|wK n gZ<|gj<|k _ _ o
def XR(a:St b s ts y)(m:(i,.a xs)∈ts)(d:xs.length<=1000)(e:∀j c,St b s ((j,.a xs.reverse)::ts) c->Q (.b j) c):wp (sY (.b i)) Q X y:=fV (ql (a.get m) (g_ (by unfold hJ;exact gu d (iP _ _)) (pH a _ e)))
def Ν(l:St b s ts y)(a:mH s own h t 0 (x::r))(f:r.length<=60)(m:∀i q,St b s ((i,.a ((r.reverse.map λx=>x.ak).map V.a))::ts) q->Q (.b i) q):wp (F (d+6) 590 [.b b,.a x.ak]) Q X y:=by
 revert ts y own h Q X l a f m;revert b s t x r d;refine @(nI E1 ?_);generalize gT.1.1.1=b,gT.1.1.2=s,gT.1.2=t,gT.2.1.1=x,gT.2.1.2=r,gT.2.2=d;intro ts y own h Q X l a f m;refine h_ (UC (d+5) _ _)<|fV<|oc l a.1.ac a.1.bo λH I u=>fV<|yl u ge<|fV<|YA u a f λJ K z=>fV<|XR z ge (by rw[iq];exact gu f (iP _ _)) λC L o=>?_;rw[<-QT]at o;refine wV (o.get ge) ?_;have g:=o.sub (.cons_cons _ (.cons _ hW));refine wN<|zD (Z9:=[(fZ "base",.b b),(fZ "own",.a t)]) (P:=λZ7 Z4 y=>∃A B,r.reverse=A++B/\Z7=A.map (λx:Ds=>V.a x.ak)/\Z4=B.map (λx:Ds=>V.a x.ak)/\St b s ((C,.a (r.reverse.map λx=>V.a x.ak))::ts) y) gQ (λZ Z y D=>DR D λZ Z Z Z Z h=>g1 h ge) ?_ _ _ _ _ (Kn.cons gQ (Kn.cons gQ Kn.dN)) (rL ([]) r.reverse rfl rfl rfl g) ?_
 .rintro Z7 v Z4 U y j ⟨A,B,e,rfl,k,p⟩;induction B using jg with|nil=>exact cN k|cons c B=>cases k;refine kS (a.mem (.tail _ (uM.mp (by refine lE e ?_;simp)))) λn E w=>wK j gZ<|wK j ge<|fV<|oc p w.ac w.bo λM N g=>fV<|yl g ge<|wK j jh<|wI<|gj<|lE (show decide ((c.ax t n E).an=t)=fW from decide_eq_true rfl) (lE (if_pos rfl) ?_);exact wK j ge<|gj (rL (A++[c]) B (by refine lE e ?_;simp) (by simp) rfl (g.sub hW))
 .rintro Z7 y ⟨A,B,e,rfl,k,p⟩;have:B=[]:=by induction B using jg<;>first|rfl|exact nC k
  subst this;rw[pn]at e;refine rE e<|g_ (by rw[iq];refine lE aer ?_;exact gu f (iP _ _))<|wO p _ λO R G=>gj<|m _ _ ?_;refine lE kR<|G.sub (.cons_cons _ hW)
def GO{b:List (f_×Int)}(m:k∈b.map (·.1)):∃v,b.lookup k=fR v:=by
 induction b with|nil=>exact nM m|cons a r c=>
  by_cases e:k=a.1;exact⟨a.2,lE jn (lE (beq_iff_eq.mpr e) rfl)⟩;exact gI (c ((gX.mp m).resolve_left e)) λv h=>⟨v,lE jn (lE (beq_eq_false_iff_ne.mpr e) h)⟩
def tr{a:List (f_×Int)}(h:a.lookup k=fR v):(k,v)∈a:=jR (rX.mp h) λb c e Z=>e▸qo _ ge
def W4{a:List (f_×Int)}(h:a.lookup k=fR v):k∈a.map (·.1):=i_ (tr h)
def aa1{s:S}(h:s.ac p=fR c):s.aX p c=s:=by
 refine S.dN rfl ?_ rfl rfl rfl;funext q;refine(?_:(if q=p then fR c else s.ac q)=s.ac q);split;rename_i e;exact lE e (lE h rfl);rfl
def aav(a:St b s ts y)(n:s.ac p=fR (iK x))(o:x.ok)(q:s.ac x.an=fR (lq L))(u:L.ok)(w:s.ac L.dN=fR (iK z))(A:z.ok)(g:s.ae z.au=fR t)(i:t.lookup nm=fR p)(B:∀k,t.lookup k=fR p->k=nm)(C:∀j,St b s ts j->Q (.d nm) j):wp (F (d+6) 578 [.b b,.a p]) Q X y:=by
 revert y x L Q X a n o q u w A g i B C;revert b s ts p z t nm d;refine @(lx E1 ?_);generalize gw.1.1.1=b,gw.1.1.2=s,gw.1.2.1=ts,gw.1.2.2=p,gw.2.1.1=z,gw.2.1.2=t,gw.2.2.1=nm,gw.2.2.2=d;intro y x L Q X a n o q u w A g i B C;refine h_ (UL (d+5) _ _)<|fV<|MC a n o q u λM J=>fV<|oc J w A λN O D=>fV<|AJ D ge<|wM D (by decide+kernel)<|wY<|vH D g λK S I=>wV (I.get ge)<|wN<|vp (Z9:=[(fZ "base",.b b),(fZ "snap",.a p),(fZ "snaps",.a z.au)]) (R:=λr y=>r=.d nm/\St b s ts y) (P:=λZ4 y=>(∃R:List f_,Z4=R.map V.d/\nm∈R/\∀k∈R,k∈t.map (·.1))/\St b s ((K,.a ((qK (t.map (·.1))).map .d))::ts) y) gQ (λZ y h=>g1 h.2 ge) ?_ ?_ ?_ _ _ _ (Kn.cons gQ (Kn.cons gQ (Kn.cons gQ Kn.dN))) ⟨(iU _ rfl ((yp _).mem_iff.mpr (W4 i)) (λk E=>(yp _).mem_iff.mp E)),I.sub (.cons_cons _ hW)⟩
 .rintro v Z4 U y f ⟨⟨R,e,l,G⟩,a⟩;induction R using jg with|nil=>exact nM l|cons k R=>
   cases e;refine gI (GO (G k ge)) λv m=>wK f gZ<|wM a (by decide+kernel)<|wK f mq<|wK f ge<|wY<|uk a g<|lE m<|wK f jh<|wI<|nL (λc=>?_) λc=>?_;have c:=of_decide_eq_true c;obtain rfl:=c.symm;have:=B k m;subst this;exact wK f ge<|gj ⟨rfl,a.sub hW⟩
   .refine gj (iy f.tail (iU R rfl ?_ (λk E=>G k (.tail _ E))) a);rcases gX.mp l with H|H
    .subst H;rw[i]at m;obtain rfl:=gz m;exact absurd (decide_eq_true rfl) c
    .exact H
 .rintro ℓ' j f ⟨⟨R,e,l,G⟩,a⟩;induction R using jg with|nil=>exact nM l|cons k R=>exact nC e
 .rintro r j ⟨rfl,a⟩;exact F0<|gj<|C _ a
def Ok(c:St b s ts y)(e:∀a,St b s ts a->Q .c a):wp (F (d+1) 733 [.b b,.a 0,o,n]) Q X y:=h_ (Kv d _ _ _ _)<|wI<|g_ rfl<|gj<|e _ c
def Ol(f:St b s ts y)(g:p≠0)(a:s.ac p=fR (iK x))(h:x.ok)(i:x.dN=o)(j:({x with dN:=n}:hY).ok)(k:∀c,St b (s.aX p (iK {x with dN:=n})) ts c->Q .c c):wp (F (d+5) 733 [.b b,.a p,.a o,.a n]) Q X y:=by refine h_ (Kv (d+4) _ _ _ _)<|wI<|jr (by refine lE decide_eq_true_eq ?_;exact g)<|fV<|oc f a h λq r e=>fV<|tD e ge<|wI<|g_ (decide_eq_true i)<|fV<|aad e .dN λt l=>fV<|DG l a ge j λu m=>gj<|k _<|m.sub hW
def ac5(h:x.bd=0):({x with bd:=0}:hY)=x:=by cases x;cases h;rfl
def Oj(r:St b s ts y)(t:p≠0)(j:s.ac p=fR (iK x))(k:x.ok)(u:x.bd=0)(q:x.a_=0)(v:x.aL=1->s.ac x.dN=fR (iK l)/\l.ok/\jG s D'/\l.ag=D'.z)(m:x.aL≠1->jG s D/\x.ag=D.z/\(x.ah≠0->s.ac x.ah=fR (iK l)/\l.ok/\l.a_=0))(n:∀g,St b s ts g->Q .c g):wp (F (d+7) 761 [.b b,.a p]) Q X y:=by
 revert ts y D' D Q X r t j k u q v m n;revert b s p x l d;refine @(nI E1 ?_);generalize gT.1.1.1=b,gT.1.1.2=s,gT.1.2=p,gT.2.1.1=x,gT.2.1.2=l,gT.2.2=d;intro ts y D' D Q X r t j k u q v m n;refine h_ (UH (d+6) _ _)<|wJ<|g_ (by rw[Bl,decide_eq_false_iff_not];exact t)<|fV<|oc r j k λw Y i=>fV<|Hy i ge<|wI ?_;have z:∀{y:H},St b s ((w,jE x)::ts) y->∀{K:V->M V},(∀g,St b s ts g->wp (K .c) Q X g)->wp (fS (mP (Tt (d+6)) (.b w) "unique" (.a 0)) λZ=>fS (F (d+6) 557 [.b b,.a p,.b w]) K) Q X y:=λh K L=>by refine fV<|OI h .dN λI a=>?_;rw[ac5 u]at a;refine fV<|DG a j ge k λJ f=>?_;rw[aa1 j]at f;exact L _ (f.sub hW)
 refine nL (λc=>?_) λc=>?_;have c:=of_decide_eq_true c;refine jZ (v c) λA B C N=>fV<|h_ (UQ (d+5) _ _)<|fV<|oc i j k λO I a=>fV<|tD a ge<|fV<|oc a A B λP J f=>fV<|uw f ge<|fV<|vV f gZ<|fV<|Hz f gZ<|lE N<|fV<|Zi f C λa0 R E=>fV<|HF E ge λa1 S=>gj<|z (S.sub (.cons _ (.cons _ hW))) λg o=>gj (n _ o)
 .have c:x.aL≠1:=λG=>c (decide_eq_true G);refine fV<|h_ (Ue (d+5) _ _)<|fV<|rj i ge<|wI<|nL (λe=>?_) λe=>?_;refine fV<|AI i ge<|gj<|lE q<|z i λg o=>gj (n _ o);refine iT (m c) λT W m=>iT (m λG=>e (decide_eq_true G)) λA B C=>fV<|rj i ge<|fV<|oc i A B λO I a=>fV<|AI a gZ<|fV<|AI a ge<|wR<|fV<|uw a gZ<|lE W<|fV<|Ga a T λP J f=>fV<|HF f ge λR E=>wR<|gj<|lE q (lE C ?_);exact z (E.sub (.cons _ hW)) λg o=>gj (n _ o)
def Ys(k:St b s ts y)(l:s.ac p=fR (iK x))(m:x.ok)(n:x.bq=1)(o:s.ae x.holds=fR [])(q:∀f,St b s ts f->Q (.e fW) f):wp (F (d+5) 768 [.b b,.a p]) Q X y:=by
 refine h_ (TN (d+4) _ _)<|fV<|oc k l m λv w c=>fV<|OJ c ge<|wI<|wR<|g_ (decide_eq_true n)<|wM c (by decide+kernel)<|fV<|Hx c ge<|wY<|vH c o λr z t=>wO t _ λu a e=>fV<|⟨?_⟩;have h:∀{i:Nat},a.get i=fR (.a [])->iQ a 3 (.b i)=fR (.list []):=λ{i} g=>by refine(?_:(match a.get i with|some (.a xs)=>(j_ (iQ a 2) xs).map xe|some (.c xs)=>(j_ (iQ a 2) xs).map .tuple|_=>fU)=_);exact lE g rfl
 have j:qV (.list [])=fW:=by unfold qV;simp[sM,sP,sO,se]
 refine(?_:vY (qz (.b r) (.b u) a) _ _);unfold qz;dsimp only;refine lE (h (e.get gZ)) (lE (h (e.get ge)) ?_);dsimp only;refine lE (if_pos ⟨j,j⟩) (lE (show qu (.list []) (.list [])=fW by simp[qu,xc]) ?_);exact gj (q _ (e.sub (.cons _ (.cons _ hW))))
noncomputable def hY.taken(I:hY)(a b:Int)(t:Nat)(c d:Int):hY:=⟨I.an,a,I.ah,I.aQ,b,(t:Int),1,I.ag,0,c,d,I.a_,0,1,0⟩
noncomputable def hY.behind(I:hY)(n:Int)(t:Nat)(a:Int):hY:={I with ah:=n,aQ:=(t:Int),ag:=a,bd:=0}
structure KB(s s':S)(I:hY)(e f:Int)(t:Nat)(nm:f_)(h:List (f_×Int))(D':iN)(g:Nat)(i:hY):Prop where
 ok:jG s' D'
 z:(s.aa:Int)<D'.z
 pts:∀p∈D'.ks,(s.aa:Int)+3<p.2
 ne:D'.z≠s.aa+1/\D'.z≠s.aa+2/\D'.z≠s.aa+3
 dC:D'.ks.length<=g+1
 aa:s.aa+3<=s'.aa/\s'.aa<=s.aa+g+5
 b:s'.nz=s.nz+3
 nn:s'.nn=s.nn+1+D'.ks.length
 ac:s'.ac (s.aa+3:Int)=fR (iK (I.taken f e t (s.aa+1:Int) (s.aa+2:Int)))
 c:s'.ae (s.aa+1:Int)=fR []
 d:s'.ae (s.aa+2:Int)=fR []
 a:s'.ac e=fR (iK (I.behind (s.aa+3:Int) t D'.z))
 sz:s'.ae I.au=fR (h++[(nm,(s.aa+3:Int))])
 ah:I.ah≠0->s'.ac I.ah=fR (iK {i with dN:=(s.aa+3:Int)})
 bg:∀q:Int,q<=s.aa->q≠e->(q≠I.ah\/I.ah=0)->s'.ac q=s.ac q
 zaps:∀q:Int,q<=s.aa->q≠I.au->s'.ae q=s.ae q
 bo:(I.taken f e t (s.aa+1:Int) (s.aa+2:Int)).ok/\(I.behind (s.aa+3:Int) t D'.z).ok
def abD{I:hY}(a:I.ok)(e:hO h)(f:hO x)(g:hO c)(i:hO y)(j:t<100):(I.taken h x t c y).ok:=by have b:hO 0:=⟨by decide,by decide⟩;have d:hO 1:=⟨by decide,by decide⟩;exact hY.bN a.an e a.ah a.aQ f (⟨(kr _),by lia⟩) d a.ag b g i a.a_ b d b
def XV{I:hY}(a:I.ok)(b:hO n)(c:hO z)(d:t<100):(I.behind n t z).ok:=hY.bN a.an a.aw b (⟨(kr _),by lia⟩) a.dN a.made a.bq c a.au a.av a.holds a.a_ (⟨by decide,by decide⟩) a.aL a.bp
def Dl{W:hY}(a:W.ok)(b:hO n):({W with dN:=n}:hY).ok:=hY.bN a.an a.aw a.ah a.aQ b a.made a.bq a.ag a.au a.av a.holds a.a_ a.bd a.aL a.bp
def Pp{Q:V->H->Prop}{D':iN}(f:St b s ((i,jE I)::ts) y)(g:s.ac z=fR c)(k:(I.behind n t D'.z).ok)(l:s.ae I.au=fR h)(o:h.lookup nm=fU)(p:h.length<60)(q:0<=n/\n<18446744073709551616)(r:∀w,St b ((s.aX z (iK (I.behind n t D'.z))).aF I.au (h++[(nm,n)])) ts w->Q (.a n) w):wp (fS (gM (O.c [.a n,.a (t:Int),.a D'.z,V.a (gV 0)])) λA=>fS (kG A 4) λa=>fS (mP (Tt (d+6)) (.b i) "prev" (a.getD 0 V.c)) λx=>fS (mP (Tt (d+6)) (.b i) "prev_made" (a.getD 1 V.c)) λx=>fS (mP (Tt (d+6)) (.b i) "dead" (a.getD 2 V.c)) λx=>fS (mP (Tt (d+6)) (.b i) "unique" (a.getD 3 V.c)) λx=>fS (F (d+6) 557 [.b b,.a z,.b i]) λx=>fS (lJ (Tt (d+6)) (.b b) "put") λm=>fS (jx (Tt (d+6)) (.b i) "snaps") λv=>fS (nE (Tt (d+6)) m (.b b) "put" [v,.d nm,.a n]) λx=>fX (.a n)) Q X y:=by revert ts y c h X Q f g k l o p q r;revert b s i I z n t nm d D';refine @(qj E1 ?_);generalize gN.1.1.1.1=b,gN.1.1.1.2=s,gN.1.1.2=i,gN.1.2.1=I,gN.1.2.2=z,gN.2.1.1.1=n,gN.2.1.1.2=t,gN.2.1.2=nm,gN.2.2.1=d,gN.2.2.2=D';intro ts y c h X Q f g k l o p q r;refine wO f _ λj J e=>fV<|rR (e.get ge) rfl<|?_;have e:=e.sub hW;refine fV<|OH e .dN λK B=>fV<|OG B .dN λL C=>fV<|aac C .dN λM D=>fV<|OI D .dN λN E=>fV<|DG E g ge k λP u=>wM u (by decide+kernel)<|fV<|AJ u ge<|wY<|vM u (show(s.aX z _).ae I.au=fR h from l) o p q λR G=>gj<|r _<|G.sub hW
def aaw{Q:V->H->Prop}{I A:hY}{t B:Nat}{D:iN}(w:St b s ts y)(g:uv nm=fW)(b9:pc nm=fW)(W:s.ac h=fR (iK I))(ok:I.ok)(G:jG s D)(a6:I.ag=D.z)(Y:I.aQ=(B:Int))(a0:B<100)(b4:t<100)(c0:hO h)(c1:hO N)(a7:s.ae I.au=fR x)(a8:x.lookup nm=fU)(b5:x.length<60)(a1:D.ks.length<39)(a2:s.aa+100<=50000)(J:I.ah≠0->I.ah≠h/\s.ac I.ah=fR (iK A)/\A.ok/\A.dN=h)(v:∀s' D' l,KB s s' I h N t nm x D' D.ks.length A->St b s' ts l->Q (.a (s.aa+3:Int)) l):wp (F (d+7) 740 [.b b,.a h,.d nm,.a (t:Int),.a N]) Q X y:=by
 revert ts y B D w g b9 W ok G a6 Y a0 b4 c0 c1 a7 a8 b5 a1 a2 J v;revert b s nm h N x d X Q I A t;refine @(vO E1 ?_);generalize hG.1.1.1.1=b,hG.1.1.1.2=s,hG.1.1.2=nm,hG.1.2.1.1=h,hG.1.2.1.2=N,hG.1.2.2=x,hG.2.1.1.1=d,hG.2.1.1.2=X,hG.2.1.2=Q,hG.2.2.1.1=I,hG.2.2.1.2=A,hG.2.2.2=t;intro ts y B D w g b9 W ok G a6 Y a0 b4 c0 c1 a7 a8 b5 a1 a2 J v;have a9:=w.aS W;have a3:=w.bv a7;refine h_ (UP (d+6) _ _ _ _ _)<|fV<|Ic g w (λZ d3 c2=>?_) λz=>by rw[b9]at z;injection z
 refine fV<|oc c2 W ok λi d4 n=>wM n (by decide+kernel)<|fV<|AJ n ge<|wY<|uk n a7<|lE a8<|fV<|AZ<|jr l_<|fV<|yl n ge<|fV<|rj n ge<|fV<|vV n ge<|fV<|uw n ge<|wO n _ λd5 d6 P=>?_;revert w G a6 Y a0 a1 v a9 a3 c2 d4 n P;revert ts y B D d3 i d5 d6;refine @(lx E1 ?_);generalize gw.1.1.1=ts,gw.1.1.2=y,gw.1.2.1=B,gw.1.2.2=D,gw.2.1.1=d3,gw.2.1.2=i,gw.2.2.1=d5,gw.2.2.2=d6;refine λw G a6 Y a0 a1 v a9 a3 c2 d4 n P=>wM P (by decide+kernel)<|wY<|vI P ((iX a2)) λg8 d7=>wM d7 (by decide+kernel)<|wY<|vI d7 (by refine(?_:s.aa+1+1<=50000);exact(iX a2)) λg9 c3=>?_;have d8:((s.aA.aa:Nat):Int)+1=(s.aa+2:Int):=by exact rfl
 have d9:((s.aA.aA.aa:Nat):Int)+1=(s.aa+3:Int):=by exact rfl
 refine lE d8<|fV<|AI c3 gZ<|wO c3 _ λh0 h1 f0=>fV<|FD f0 gZ ge gO λh2 h3 c4=>wM (a:=153) c4 (by decide+kernel)<|fV<|OF c4 mq ?_;have e0:(I.taken N h t (s.aa+1:Int) (s.aa+2:Int)).ok:=abD ok c1 c0 ⟨(kr _),by lia⟩ ⟨(kr _),by lia⟩ b4;refine fV<|GW c4 ge λh4 h5 f1=>fV<|HA f1 ge e0 λh6 f2=>wY<|x_ f2 (by refine(?_:s.aa+1+1+1<=50000);exact(iX a2)) λf3 a4=>?_;refine lE d9 ?_;have a4:=a4.sub (.cons _ (.cons _ (.cons _ hW)));generalize a5:s.aA.aA.aO (iK (I.taken N h t (s.aa+1:Int) (s.aa+2:Int)))=m at a4;have C:m.aa=s.aa+3:=rE a5 rfl;have h7:m.nn=s.nn+1:=rE a5 rfl;have h8:m.nz=s.nz+2:=rE a5 rfl;have M:∀q:Int,m.ac q=if q=(s.aa+3:Int)then fR (iK (I.taken N h t (s.aa+1:Int) (s.aa+2:Int)))else s.ac q:=λq=>by refine rE a5<|(?_:(if q=((s.aA.aA.aa:Nat):Int)+1 then _ else s.ac q)=_);exact lE d9 rfl
 have b0:∀q:Int,m.ae q=if q=(s.aa+2:Int)then fR []else if q=(s.aa+1:Int)then fR []else s.ae q:=λq=>by refine rE a5<|(?_:(if q=((s.aA.aa:Nat):Int)+1 then fR []else if q=(s.aa+1:Int)then fR []else s.ae q)=_);exact lE d8 rfl
 clear a5;refine fV<|rj a4 ge<|fV ?_;have e1:∀{Q':V->H->Prop} (K:∀r l,r.aa=m.aa->r.nn=m.nn->r.nz=m.nz->r.ae=m.ae->(∀q:Int,(q≠I.ah\/I.ah=0)->r.ac q=m.ac q)->(I.ah≠0->r.ac I.ah=fR (iK {A with dN:=(s.aa+3:Int)}))->St b r ((i,jE I)::ts) l->Q' .c l),wp (F (d+6) 733 [.b b,.a I.ah,.a h,.a (s.aa+3:Int)]) Q' X f3:=λK=>by
  by_cases e:I.ah=0;refine lE e<|Ok a4 λl b1=>K m l rfl rfl rfl rfl (λZ Z=>rfl) (λz=>absurd e z) b1
  .refine jZ (J e) λf4 b6 c5 e2=>?_;have f5:m.ac I.ah=fR (iK A):=by
    rw[M];exact lE (if_neg (by have:=w.aS b6;exact(I1 this))) (lE b6 rfl)
   exact Ol a4 e f5 c5 e2 (Dl c5 ⟨(kr _),by lia⟩) λl b1=>K (m.aX I.ah (iK {A with dN:=(s.aa+3:Int)})) l rfl rfl rfl rfl (λq v=>by
    refine(?_:(if q=I.ah then _ else m.ac q)=_);rcases v with v|v
    .exact lE (if_neg v) rfl
    .exact absurd v e) (λZ=>if_pos rfl) b1
 refine e1 λr h9 E i0 i1 b2 R f6 e3=>?_;clear e1;have f7:jG r D:=by
  refine G.keep ((gu (gu (pz _ _) (gC C.symm)) (gC E.symm))) ?_ λp g=>?_;have:=G.cS;refine lE b2 ?_;rw[b0];exact lE (if_neg ((I1 this))) (lE (if_neg ((kY (oo this)))) rfl)
  .have:=G.len' p g;by_cases e:I.ah=0;refine lE (R _ (.inr e)) ?_;rw[M];exact lE (if_neg ((I1 this))) rfl
   .refine jZ (J e) λf4 b6 c5 e2=>?_;have ne:p.2≠I.ah:=λz=>by
     have n:=G.ac p g;rw[z,b6]at n;have P:=congrArg Eg (gz n);rw[zM]at P;injection P
    refine lE (R _ (.inl ne)) ?_;rw[M];exact lE (if_neg ((I1 this))) rfl
 refine fV<|uw e3 ge<|lE a6<|fV<|YY e3 f7 ((lG a2 (gC C) (gC E))) λu j L i2 f8 o e4=>?_;have c6:L.length<=D.ks.length:=by refine lE f8.length_eq<|gu (wz _ _) (by rw[iq];exact ij _)
 have c7:j.ks.length=L.length:=by refine rE o.perm.length_eq ?_;rw[iq]
 refine fV<|vV e4 ge<|fV<|xP e4 o.ok λf9 i3 i4 g0 T=>fV<|fV<|Gz T ge<|gj<|lE Y ?_;have T:=T.sub hW;have g1:=o.aa;have b3:=o.z;have e5:∀(f:S) (k:iN) (y:H),St b f ((i,jE I)::ts) y->jG f k->k.z=j.z->k.ks.length<=L.length+1->f.aa=u.aa+(k.ks.length-j.ks.length)->j.ks.length<=k.ks.length->f.nn=u.nn+(k.ks.length-j.ks.length)->f.nz=u.nz->xy r f->(∀p∈k.ks,(r.aa+1:Int)<p.2)->(∀(l:H),St b ((f.aX h (iK (I.behind (s.aa+3:Int) t k.z))).aF I.au (x++[(nm,(s.aa+3:Int))])) ts l->Q (.a (s.aa+3:Int)) l)/\(I.behind (s.aa+3:Int) t k.z).ok/\f.ac h=fR (iK I)/\f.ae I.au=fR x:=λf k y c3 g2 b7 g3 i5 i6 i7 i8 O e6=>by
  have g4:f.ac h=fR (iK I):=by
   refine lE (O.ac h (by lia)) ?_;by_cases e:I.ah=0;refine lE (R _ (.inr e)) ?_;rw[M];exact lE (if_neg ((I1 a9))) (lE W rfl);refine lE (R _ (.inl (J e).1.symm)) ?_;rw[M];exact lE (if_neg ((I1 a9))) (lE W rfl)
  have g5:f.ae I.au=fR x:=by refine lE (O.ae _ (by lia)) (lE b2 ?_);rw[b0];exact lE (if_neg ((I1 a3))) (lE (if_neg ((kY (oo a3)))) (lE a7 rfl))
  have e7:(I.behind (s.aa+3:Int) t k.z).ok:=XV ok ⟨(kr _),by lia⟩ (by refine lE b7 (lE b3 ?_);exact⟨(kr _),by lia⟩) b4;refine kg (λl b1=>v _ k l ?_ b1) e7 g4 g5;have g6:∀p∈k.ks,p.2≠h:=λp g=>by have:=e6 p g;lia
  exact{
   ok:=g2.keep (ij _) (by refine(?_:(if k.z=I.au then _ else f.ae k.z)=_);exact lE (if_neg (by refine lE b7 (lE b3 ?_);lia)) rfl) λp g=>by refine(?_:(if p.2=h then _ else f.ac p.2)=_);exact lE (if_neg (g6 p g)) rfl
   z:=lE b7 (lE b3 ((oB (kP.mpr (gC C.symm)) (kP.mpr (gC E.symm)))))
   pts:=λp g=>by have:=e6 p g;lia
   ne:=lE b7 (lE b3 (⟨(ma (oB (kP.mpr (gC C.symm)) (kP.mpr (gC E.symm)))),⟨(ma (oB (kP.mpr (gC C.symm)) (kP.mpr (gC E.symm)))),(ma (oB (kP.mpr (gC C.symm)) (kP.mpr (gC E.symm))))⟩⟩))
   dC:=(gu g3 (Rb c6 _))
   aa:=by refine(?_:s.aa+3<=f.aa/\f.aa<=_);lia
   b:=by refine(?_:f.nz=_);have:=o.a;lia
   nn:=by refine(?_:f.nn=_);have:=o.nn;lia
   ac:=by
    refine(?_:(if(s.aa+3:Int)=h then _ else f.ac _)=_);refine lE (if_neg ((xz a9))) (lE (O.ac _ ((oB (kP.mpr (gC C.symm)) (kP.mpr (gC E.symm))))) ?_);by_cases e:I.ah=0;refine lE (R _ (.inr e)) ?_;rw[M];exact lE (if_pos rfl) rfl;refine lE (R _ (.inl (by have:=w.aS (J e).2.1;exact(xz this)))) ?_;rw[M];exact lE (if_pos rfl) rfl
   c:=by refine(?_:(if(s.aa+1:Int)=I.au then _ else f.ae _)=_);refine lE (if_neg ((ma (oo a3)))) (lE (O.ae _ ((oB (kP.mpr (gC C.symm)) (kP.mpr (gC E.symm))))) (lE b2 ?_));rw[b0];exact lE (if_neg (kY (qm _))) (lE (if_pos rfl) rfl)
   d:=by refine(?_:(if(s.aa+2:Int)=I.au then _ else f.ae _)=_);refine lE (if_neg ((xz a3))) (lE (O.ae _ ((oB (kP.mpr (gC C.symm)) (kP.mpr (gC E.symm))))) (lE b2 ?_));rw[b0];exact lE (if_pos rfl) rfl
   a:=if_pos rfl
   sz:=if_pos rfl
   ah:=λe=>by refine(?_:(if I.ah=h then _ else f.ac _)=_);refine lE (if_neg (J e).1) (lE (O.ac _ (by have:=w.aS (J e).2.1;lia)) ?_);exact f6 e
   bg:=λq b8 c8 g7=>by refine(?_:(if q=h then _ else f.ac q)=_);refine lE (if_neg c8) (lE (O.ac q (by lia)) (lE (R q g7) ?_));rw[M];exact lE (if_neg ((I1 b8))) rfl
   zaps:=λq b8 c8=>by refine(?_:(if q=I.au then _ else f.ae q)=_);refine lE (if_neg c8) (lE (O.ae q (by lia)) (lE b2 ?_));rw[b0];exact lE (if_neg ((I1 b8))) (lE (if_neg ((kY (oo b8)))) rfl)
   bo:=⟨e0,e7⟩}
 refine nL (λc=>?_) λc=>?_
 .have e8:B∉j.ks.map (·.1):=λz=>by
   have:(B:Int)∈f9.map gV:=i_ (g0.mem_iff.mpr z);rw[decide_eq_true this]at c;injection c
  refine fV<|vV T ge<|lE Y<|fV<|Vf T o.ok a0 e8 ((lG a1 c6 (gC c7))) (by lia) λi9 e9=>jZ (e5 _ (j.aG B (u.aa+1:Int)) _ e9 (o.ok.add a0 e8 ((lG a1 c6 (gC c7)))) rfl (by refine(?_:(j.ks++[_]).length<=_);refine lE px<|(?_:j.ks.length+1<=_);exact(oQ (gC c7))) (by refine(?_:u.aa+1=u.aa+((j.ks++[_]).length-_));refine lE px<|(?_:_=u.aa+(j.ks.length+1-j.ks.length));lia) (by refine(?_:_<=(j.ks++[_]).length);refine lE px<|(jA _)) (by refine(?_:u.nn+1=u.nn+((j.ks++[_]).length-_));refine lE px<|(?_:_=u.nn+(j.ks.length+1-j.ks.length));lia) rfl (o.grow.aG (by refine lE b3<|(qm _))) (λp g=>by
    rcases mU.mp g with g|g
    .exact o.new p g
    .cases g with|head=>refine(?_:(r.aa+1:Int)<(u.aa+1:Int));exact(ra (kP.mpr (gC g1.symm)))|tail _ z=>exact nM z)) λc9 d0 d1 d2=>?_
  exact Pp e9 d1 d0 d2 a8 b5 ⟨(kr _),by lia⟩ c9
 .refine jZ (e5 u j _ T o.ok rfl (by lia) (by lia) (ij _) (by lia) rfl o.grow o.new) λc9 d0 d1 d2=>Pp T d1 d0 d2 a8 b5 ⟨by lia,by lia⟩ c9
structure Ft(s:S)(x m u l:hY)(p:Int)(n o r:iN)(y:Nat)(t:mW)(sz:Int)(v:List (f_×Int))(nm:f_):Prop where
 b:s.ac p=fR (iK x)
 bV:x.ok
 g:x.aL=1
 h:x.bq=1
 i:x.ag=n.z
 xD:jG s n
 cz:s.ae x.av=fR []
 e:s.ae x.holds=fR []
 c:s.ac x.dN=fR (iK m)
 cM:m.ok
 dk:m.ag=o.z
 a:jG s o
 yu:m.bd=0/\m.a_=0
 np:x.dN≠0/\x.dN≠p
 dJ:x.aQ=(y:Int)
 wn:x.ah≠0->x.ah≠p/\x.ah≠x.dN/\s.ac x.ah=fR (iK u)/\u.ok/\u.dN=p/\u.aL=1/\u.bd=0/\u.a_=0
 ln:m.aL=1->m.dN≠p/\m.dN≠x.dN/\(m.dN≠x.ah\/x.ah=0)/\s.ac m.dN=fR (iK l)/\l.ok/\l.ag=r.z/\jG s r/\r.z≠n.z/\r.z≠o.z/\r.z≠sz/\r.z≠x.av/\r.z≠x.holds/\(∀q∈r.ks,q.2∉n.ks.map (·.2))/\∀q∈r.ks,q.2∉o.ks.map (·.2)
 f:n.z≠o.z/\n.z≠sz/\o.z≠sz/\x.av≠x.holds/\x.av≠n.z/\x.av≠o.z/\x.av≠sz/\x.holds≠n.z/\x.holds≠o.z/\x.holds≠sz
 ps:∀q∈n.ks,q.2∉o.ks.map (·.2)
 d:s.ac x.an=fR (lq t)
 ca:t.ok
 k:x.an≠0
 j:(t.dN=x.dN/\m.au=sz)\/(t.dN≠p/\t.dN≠x.dN/\(t.dN≠x.ah\/x.ah=0)/\∃w,s.ac t.dN=fR (iK w)/\w.ok/\w.au=sz)
 sz:s.ae sz=fR v
 dq:v.lookup nm=fR p
 bd:∀k,v.lookup k=fR p->k=nm
noncomputable def hY.ay(a x:hY):hY:={a with ah:=x.ah,aQ:=x.aQ}
noncomputable def hY.bF(a:hY)(n:Int):hY:={a with dN:=n}
structure BX(s s':S)(x e f:hY)(p:Int)(d b c:iN)(h:Nat)(g:Int)(i:List (f_×Int))(nm:f_):Prop where
 aa:s'.aa=s.aa
 a:s'.nz+3=s.nz
 nn:s'.nn+1+d.ks.length+b.ks.length=s.nn+c.ks.length
 z:c.z=b.z
 ks:c.ks=b.ks.filter λp=>decide (p.1<h)
 ok:jG s' c
 ay:s'.ac x.dN=fR (iK (e.ay x))/\(e.ay x).ok
 ah:x.ah≠0->s'.ac x.ah=fR (iK (f.bF x.dN))/\(f.bF x.dN).ok
 dl:s'.ae g=fR (jU i nm)
 bg:∀q,q≠p->q≠x.dN->(q≠x.ah\/x.ah=0)->q∉d.ks.map (·.2)->q∉b.ks.map (·.2)->s'.ac q=s.ac q
 zaps:∀q,q≠g->q≠d.z->q≠b.z->q≠x.av->q≠x.holds->s'.ae q=s.ae q
def Ma:(lq y).size=80:=by unfold lq;rw[xE];rfl
def tz{q:Int}(h:jG s D)(a:s.ac q=fR (iK x)):q∉D.ks.map (·.2):=λm=>by refine mE m λp b c=>?_;obtain rfl:=c;have:=h.ac p b;rw[a]at this;have:=congrArg Eg (gz this);rw[zM]at this;injection this
def NM{q:Int}(h:jG s D)(a:s.ac q=fR (lq x)):q∉D.ks.map (·.2):=λm=>by refine mE m λp b c=>?_;obtain rfl:=c;have:=h.ac p b;rw[a]at this;have:=congrArg Eg (gz this);rw[Ma]at this;injection this
def OC{s:S}{p q:Int}(h:s.ac p=fR (iK x))(a:s.ac q=fR (lq y)):q≠p:=λe=>by rw[e,h]at a;have:=congrArg Eg (gz a);rw[zM,Ma]at this;cases this
def GH{b x:hY}(a:b.ok)(c:x.ok):(b.ay x).ok:=hY.bN a.an a.aw c.ah c.aQ a.dN a.made a.bq a.ag a.au a.av a.holds a.a_ a.bd a.aL a.bp
def YB{v:V}(a:St b s ts y)(c:∀f,St b s ts f->Q .c f):wp (F (d+1) 501 [.b b,.a p,.a 0,.a (gV 0)]) Q X y:=by
 revert s ts y v a c;revert b Q d p X;refine @(qJ E1 ?_);generalize iz.1.1.1=b,iz.1.1.2=Q,iz.1.2=d,iz.2.1=p,iz.2.2=X;intro s ts y v a c;refine h_ (TQ d _ _ _ _)<|wN<|Ig ?_;have e:Kn [(fZ "place",.a p),(fZ "used",.a 0),(fZ "below",.a (gV 0))] [(fZ "base",V.b b),(fZ "place",V.a p),(fZ "used",V.a 0),(fZ "below",V.a (gV 0))]:=Kn.cons gQ (Kn.cons gQ (Kn.cons gQ Kn.dN));refine wK e ge<|wJ<|nL (λZ=>?_) λZ=>?_;exact wK e gZ<|wJ<|jr gO<|wK e jh<|wJ<|jr gO<|gj<|pM<|gj<|c _ a;exact gj<|pM<|gj<|c _ a
def o7(f:Kn ((fZ "base",.b b)::Z9) U)(a:(((fZ "base",V.b b)::Z9).all λp=>!(p.1=="part"))=fW)(e:St b s ((i,.c [.a c,.a h,.a p])::ts) y)(g:s.ae c=fR [])(j:s.ae h=fR [])(k:c≠h)(l:s.ac p=fR n)(o:∀ℓ' A,Kn ((fZ "base",.b b)::Z9) ℓ'->St b ((((s.ba c).ba h)).bf p) ts A->t (.a ℓ') A):wp (iL (lf [(i,.c [.a c,.a h,.a p])] (jF "part") (λℓ'=>fS (ig (jz (fZ "base") ℓ')) λv=>fS (lJ (Tt (d+1)) v "drop") λm=>fS (ig (jz (fZ "part") ℓ')) λC=>fS (nE (Tt (d+1)) m v "drop" [C]) λx=>fX (Fl.a ℓ')) im U ([V.a c,.a h,.a p].map .a))) t X y:=by revert Z9 ts y n t X f a e g j k l o;revert b U s i c h p d;refine @(lx E1 ?_);generalize gw.1.1.1=b,gw.1.1.2=U,gw.1.2.1=s,gw.1.2.2=i,gw.2.1.1=c,gw.2.1.2=h,gw.2.2.1=p,gw.2.2.2=d;intro Z9 ts y n t X f a e g j k l o;have q:=f.add (v:=.a c) a;refine Ba<|fV<|mS (g1 e ge)<|fV<|wa<|fV<|wK q gZ<|wM e (by decide+kernel)<|wK q ge<|wY<|CB e g λD r=>gj ?_;have u:=q.tail.add (v:=.a h) a;refine fV<|mS (g1 r ge)<|fV<|wa<|fV<|wK u gZ<|wM r (by decide+kernel)<|wK u ge<|wY<|CB r (by refine(?_:(if h=c then fU else s.ae h)=_);exact lE (if_neg k.symm) (lE j rfl)) λE w=>gj ?_;have z:=u.tail.add (v:=.a p) a;refine fV<|mS (g1 w ge)<|fV<|wa<|fV<|wK z gZ<|wM w (by decide+kernel)<|wK z ge<|wY<|CA w l λF B=>gj<|fV<|mS (g1 B ge)<|gj<|o _ _ z.tail<|B.sub hW
def St.cW(h:St b s ts y){p q:Int}(f:s.ae p=fR c)(g:s.ae q=fR e)(i:p≠q):2<=s.nz:=by refine gy h ?_;intro L h _;refine mF h.oz λk Z a j d=>?_;exact lG (gC j) (gC (zG a (by rw[d];exact lE f rfl))) (gC (zG (Gb p a) (by rw[CF];refine lE (if_neg i.symm) ?_;rw[d];exact lE g rfl)))
structure Km(s b:S)(x f g:hY)(e c d:iN)(h:Nat):Prop where
 aa:b.aa=s.aa
 a:b.nz+1=s.nz
 nn:b.nn+e.ks.length+c.ks.length=s.nn+d.ks.length
 z:d.z=c.z
 ks:d.ks=c.ks.filter λp=>decide (p.1<h)
 ok:jG b d
 ay:b.ac x.dN=fR (iK (f.ay x))
 ah:x.ah≠0->b.ac x.ah=fR (iK (g.bF x.dN))
 bg:∀q,q≠x.dN->(q≠x.ah\/x.ah=0)->q∉e.ks.map (·.2)->q∉c.ks.map (·.2)->b.ac q=s.ac q
 zaps:∀q,q≠e.z->q≠c.z->b.ae q=s.ae q
def S.rest(a:S)(b:Int)(d:List (f_×Int))(nm:f_)(c h p:Int):S:=(((a.aF b (jU d nm)).ba c).ba h).bf p
def Du{a:S}{c h p q:Int}(n:q≠p):(a.rest t x nm c h p).ac q=a.ac q:=if_neg n
def Om{a:S}{c h p q:Int}(n:q≠t)(n':q≠c)(b:q≠h):(a.rest t x nm c h p).ae q=a.ae q:=by refine(?_:(if q=h then fU else if q=c then fU else if q=t then _ else a.ae q)=_);exact lE (if_neg b) (lE (if_neg n') (lE (if_neg n) rfl))
def yh{q:Nat×Int}(h:jG s D)(m:q∈D.ks)(a:s.ac p=fR (iK x)):q.2≠p:=λe=>tz h a (e▸i_ m)
def J2{x j k l:hY}(d:Ft s x j k l p L y W N yd h P nm)(b:Km s t x j k L y Q N)(A:1<=t.nn)(B:2<=t.nz):BX s (t.rest h P nm x.av x.holds p) x j k p L y Q N h P nm:=by
 refine DP d.f λC D m E F n o G r u=>?_;have Z9:∀q∈Q.ks,q∈y.ks:=λq i=>by rw[b.ks]at i;exact(wD.mp i).1
 exact{
  aa:=b.aa
  a:=by have:=b.a;refine(?_:t.nz-1-1+3=s.nz);lia
  nn:=by have:=b.nn;refine(?_:t.nn-1+1+_+_=_);lia
  z:=b.z
  ks:=b.ks
  ok:=b.ok.keep (ij _) (Om (by refine(b.z).symm▸?_;exact m) (by refine(b.z).symm▸?_;exact n.symm) (by refine(b.z).symm▸?_;exact r.symm)) λq i=>Du (yh d.a (Z9 q i) d.b)
  ay:=⟨(Du d.np.2).trans b.ay,GH d.cM d.bV⟩
  ah:=λe=>by refine pi (d.wn e) λv H I w Z=>⟨(Du v).trans (b.ah e),Dl w (d.bV _ (by unfold hY.row;simp))⟩
  dl:=by refine(?_:(if h=x.holds then fU else if h=x.av then fU else if h=h then _ else _)=_);exact lE (if_neg u.symm) (lE (if_neg o.symm) (lE (if_pos rfl) rfl))
  bg:=λq a c e f g=>(Du a).trans (b.bg q c e f g)
  zaps:=λq a c e f g=>(Om a f g).trans (b.zaps q c e)}
def q7{x w I l:hY}(a3:St b s ts y)(i:Ft s x w I l p P L DL W yd t N nm)(n:∀s' E G,BX s s' x w I p P L E W t N nm->St b s' ts G->Q .c G):wp (F (d+8) 775 [.b b,io,.a p,a0]) Q X y:=by
 revert ts y a3 i n;revert b s p P L DL W yd t N nm Q d io a0 X x w I l;refine @(vP E1 ?_);generalize gH.1.1.1.1.1=b,gH.1.1.1.1.2=s,gH.1.1.1.2=p,gH.1.1.2.1=P,gH.1.1.2.2=L,gH.1.2.1.1.1=DL,gH.1.2.1.1.2=W,gH.1.2.1.2=yd,gH.1.2.2.1=t,gH.1.2.2.2=N,gH.2.1.1.1.1=nm,gH.2.1.1.1.2=Q,gH.2.1.1.2=d,gH.2.1.2.1=io,gH.2.1.2.2=a0,gH.2.2.1.1.1=X,gH.2.2.1.1.2=x,gH.2.2.1.2=w,gH.2.2.2.1=I,gH.2.2.2.2=l;intro ts y a3 i n;refine hZ λb1 C=>DP i.f λc3 e7 e8 c4 e9 f0 f1 f2 f3 f4=>?_;refine C ?_;clear C;refine h_ (Uc (d+7) _ _ _ _)<|fV<|oc a3 i.b i.bV λJ c5 a4=>fV<|Hy a4 ge<|wJ<|jr (by refine(i.g).symm▸?_;decide)<|fV<|Ys a4 i.b i.bV i.h i.e λc6 a5=>wR<|jr gO<|fV<|tD a5 ge<|fV<|oc a5 i.c i.cM λM c7 Y=>fV<|uw Y ge<|fV<|vV Y gZ ?_;refine lE i.dk (lE i.dJ ?_);refine fV<|ε Y i.a λc8 E O c9 u R=>wV (R.get ge)<|wN<|fV<|mS (g1 R ge)<|gj<|pM ?_;revert a3 n b1 a4 a5 c7 Y u R;revert ts y J c5 c6 M c8 E O c9;refine @(qj E1 ?_);generalize gN.1.1.1.1=ts,gN.1.1.1.2=y,gN.1.1.2=J,gN.1.2.1=c5,gN.1.2.2=c6,gN.2.1.1.1=M,gN.2.1.1.2=c8,gN.2.1.2=E,gN.2.2.1=O,gN.2.2.2=c9;intro a3 n b1 a4 a5 c7 Y u R;have j:Kn [(fZ "base",.b b),(fZ "info",.b J),(fZ "later",.b M),(fZ "gone",.b O),(fZ "snap",.a p)] (gW (gW (gW [(fZ "base",.b b),(fZ "io",io),(fZ "snap",.a p),(fZ "txg",a0)] "info" (.b J)) "later" (.b M)) "gone" (.b O)):=Kn.cons gQ (Kn.cons gQ (Kn.cons gQ (Kn.cons gQ (Kn.cons gQ Kn.dN))));generalize gW (gW (gW [(fZ "base",V.b b),(fZ "io",io),(fZ "snap",.a p),(fZ "txg",a0)] "info" (.b J)) "later" (.b M)) "gone" (.b O)=U at j|-;refine wK j ge<|wK j jh<|fV<|uw R gZ<|wK j gZ<|fV<|uw R jh<|(i.i).symm▸?_;refine fV<|W5 R (i.xD.keep (u.aa▸ij _) (u.ae _ c3) λq n=>u.ac _ (i.ps q n)) λB i6 S b2=>wK j gZ<|fV<|rj b2 jh<|wK j gZ<|fV<|vV b2 jh<|wO b2 _ λi7 i8 a6=>fV<|rR (a6.get ge) rfl ?_;have a6:=a6.sub hW;refine wK j jh<|fV<|OH a6 (.dO .dN) λi9 d0=>wK j jh<|fV<|OG d0 (.dO .dN) λj0 b8=>?_;have b9:∀q,q∉P.ks.map (·.2)->q∉L.ks.map (·.2)->B.ac q=s.ac q:=λq a c=>(S.ac q a).trans (u.ac q c);have d1:∀q,q≠P.z->q≠L.z->B.ae q=s.ae q:=λq a c=>(S.ae q a).trans (u.ae q c);have d2:∀{q:Int} {x:hY},s.ac q=fR (iK x)->B.ac q=s.ac q:=λh=>b9 _ (tz i.xD h) (tz i.a h);have Z9:∀q∈E.ks,q∈L.ks:=λq n=>by rw[u.ks]at n;exact(wD.mp n).1
 have f5:=u.ok.keep (by refine(S.aa).symm▸?_;exact ij _) (S.ae _ (u.z▸c3.symm)) λq n=>S.ac _ λm=>by refine mE m λr f6 e=>i.ps r f6 (e▸i_ (Z9 q n))
 have d3:=S.aa.trans u.aa;refine wK j ge<|wK j gZ<|fV<|tD b8 jh<|wK j jh<|fV<|DG b8 ((d2 i.c).trans i.c) gZ (GH i.cM i.bV) λf7 a7=>wK j ge<|wK j gZ<|fV<|rj a7 jh<|wK j pb<|wK j gZ<|fV<|tD a7 jh<|fV ?_;have d4:∀{Q':V->H->Prop} (K:∀A G,Km s A x w I P L E W->St b A ((O,.a [])::(M,jE (w.ay x))::(J,jE x)::ts) G->Q' .c G),wp (F (d+7) 733 [.b b,.a x.ah,.a p,.a x.dN]) Q' X f7:=λK=>by
  have nn:B.nn+P.ks.length+L.ks.length=s.nn+E.ks.length:=by have:=S.nn;have:=u.nn;lia
  have nz:B.nz+1=s.nz:=by have:=S.a;have:=u.a;lia
  have d5:jG (B.aX x.dN (iK (w.ay x))) E:=f5.keep (ij _) rfl λq n=>if_neg (yh i.a (Z9 q n) i.c);by_cases e:x.ah=0
  .refine(e).symm▸?_;exact Ok a7 λG a8=>K (B.aX x.dN (iK (w.ay x))) G {
    aa:=d3,a:=nz,nn:=nn,z:=u.z,ks:=u.ks,ok:=d5,ay:=if_pos rfl,ah:=λz=>absurd e z
    bg:=λq a Z c f=>by refine(?_:(if q=x.dN then _ else B.ac q)=_);exact(if_neg a)▸b9 q c f
    zaps:=d1} a8
  .refine Bb (i.wn e) λf8 c0 b3 c1 d6 Z=>?_;have f9:(B.aX x.dN (iK (w.ay x))).ac x.ah=fR (iK I):=by
    refine(?_:(if x.ah=x.dN then _ else B.ac x.ah)=_);exact lE (if_neg c0) (lE (d2 b3) (lE b3 rfl))
   exact Ol a7 e f9 c1 d6 (Dl c1 (i.bV _ (by unfold hY.row;simp))) λG a8=>K ((B.aX x.dN (iK (w.ay x))).aX x.ah (iK (I.bF x.dN))) G {
    aa:=d3,a:=nz,nn:=nn,z:=u.z,ks:=u.ks,ok:=d5.keep (ij _) rfl λq n=>if_neg (yh i.a (Z9 q n) b3)
    ay:=by refine(?_:(if x.dN=x.ah then _ else if x.dN=x.dN then _ else _)=_);exact lE (if_neg c0.symm) (lE (if_pos rfl) rfl)
    ah:=λZ=>if_pos rfl
    bg:=λq a c f g=>by
     refine(?_:(if q=x.ah then _ else if q=x.dN then _ else B.ac q)=_);rcases c with c|c
     .exact lE (if_neg c) (lE (if_neg a) (b9 q f g))
     .exact absurd c e
    zaps:=d1} a8
 refine d4 λA j1 T d7=>?_;clear d4 a7 b8 d0 a6 b2 R Y a5 a4;have b4:A.ac p=fR (iK x):=by
  have e:p≠x.ah\/x.ah=0:=by
   by_cases e:x.ah=0;exact .inr e;exact .inl (i.wn e).1.symm
  exact lE (T.bg p i.np.2.symm e (tz i.xD i.b) (tz i.a i.b)) (lE i.b rfl)
 have d8:A.ac x.an=fR (lq yd):=by
  have e:x.an≠x.ah\/x.ah=0:=by
   by_cases e:x.ah=0;exact .inr e;exact .inl (OC (i.wn e).2.2.1 i.d)
  exact lE (T.bg _ (OC i.c i.d) e (NM i.xD i.d) (NM i.a i.d)) (lE i.d rfl)
 obtain⟨a1,d9,e0,e1⟩:∃a1,A.ac yd.dN=fR (iK a1)/\a1.ok/\a1.au=t:=by
  rcases i.j with⟨a,c⟩|⟨a,c,e,a1,f,g,k⟩
  .exact iU (w.ay x) (a▸T.ay) (GH i.cM i.bV) c
  .exact iU a1 (lE (T.bg _ c e (tz i.xD f) (tz i.a f)) (lE f rfl)) g k
 have e2:A.ae t=fR N:=lE (T.zaps _ e7.symm e8.symm) (lE i.sz rfl);refine wK j ge<|wM (a:=216) d7 (by decide+kernel)<|wK j ge<|wK j ge<|wK j pb<|fV<|MC d7 b4 i.bV d8 i.ca λj2 g0=>fV<|oc g0 d9 e0 λj3 j4 e3=>fV<|AJ e3 ge<|(e1).symm▸?_;refine wK j ge<|wK j pb<|fV<|aav e3 b4 i.bV d8 i.ca d9 e0 (e1▸e2) i.dq i.bd λj5 g2=>wY<|DH g2 e2 i.dq λj6 a9=>?_;have a9:=a9.sub hW;refine wK j gZ<|fV<|OA a9 jh<|wK j gZ<|fV<|Hx a9 jh<|wK j pb<|wO a9 _ λj7 j8 b5=>fV<|Ω (b5.get ge) ?_;have e4:(A.aF t (jU N nm)).ae x.av=fR []:=by refine(?_:(if x.av=t then _ else A.ae _)=_);exact lE (if_neg f1) (lE (T.zaps _ e9 f0) (lE i.cz rfl))
 have e5:(A.aF t (jU N nm)).ae x.holds=fR []:=by refine(?_:(if x.holds=t then _ else A.ae _)=_);exact lE (if_neg f4) (lE (T.zaps _ f2 f3) (lE i.e rfl))
 have o:=J2 i T (b5.bC b4) (b5.cW e4 e5 c4);refine fV<|o7 j gQ b5 e4 e5 c4 b4 λℓ' g3 j b0=>pM ?_;have b0:St b (A.rest t N nm x.av x.holds p) ((O,.a [])::(M,jE (w.ay x))::(J,jE x)::ts) g3:=b0;generalize A.rest t N nm x.av x.holds p=g4 at o b0;have C:∀{y:H},St b g4 ((O,.a [])::(M,jE (w.ay x))::(J,jE x)::ts) y->wp (fS (ig (jz (fZ "base") ℓ')) λv=>fS (ig (jz (fZ "info") ℓ')) λg5=>fS (jx (Tt (d+7)) g5 "dir") λg6=>fS (ig (jz (fZ "gone") ℓ')) λg7=>fS (F (d+7) 320 [g7]) λb=>fS (hM Operator.Sub (V.a (gV 0)) b) λg8=>fS (F (d+7) 501 [v,g6,g8,V.a (gV 0)]) λx=>fX V.c) Q X y:=λh=>by refine wK j ge<|wK j gZ<|fV<|yl h jh<|wK j mq<|fV<|HF h ge λG a8=>wR<|fV<|YB (v:=.c) a8 λj9 g9=>gj<|n _ _ _ o<|g9.sub (.cons _ (.cons _ hW))
 have e6:=o.z▸i.dk;refine wK j ge<|wK j gZ<|fV<|tD b0 jh<|fV<|Oj (D:=E) (D':=DL) (l:=if w.aL=1 then l else I.bF x.dN) b0 i.np.1 o.ay.1 o.ay.2 i.yu.1 i.yu.2 (λe=>?_) (λe=>?_) λk0 b6=>?_
 .have e:=e;refine(if_pos e).symm▸?_;refine hZ λb1 C=>?_;obtain⟨h0,h1,h2,c2,h3,h4,b7,h5,h6,h7,h8,h9,i0,i1⟩:=i.ln e;refine C ?_;clear C;refine kg ((o.bg _ h0 h1 h2 (tz i.xD c2) (tz i.a c2)).trans c2) h3 (b7.keep (o.aa▸ij _) (o.zaps _ h7 h5 h6 h8 h9) λq n=>o.bg _ (yh b7 n i.b) (yh b7 n i.c) ?_ (i0 q n) (i1 q n)) h4;by_cases e:x.ah=0;exact .inr e;exact .inl (yh b7 n (i.wn e).2.2.1)
 .have e:=e;refine(if_neg e).symm▸?_;exact iy o.ok e6 (λe=>iy ((o.ah e).1) ((o.ah e).2) ((i.wn e).2.2.2.2.2.2.2))
 .refine wK j gZ<|fV<|rj b6 jh<|wJ<|nL (λc=>?_) λZ=>C b6;have e:x.ah≠0:=by
   rw[Bl,decide_eq_false_iff_not]at c;exact c
  refine hZ λb1 C=>DQ (i.wn e) λf8 c0 b3 c1 d6 i2 i3 i4=>?_;refine C ?_;clear C;refine wK j ge<|wK j gZ<|fV<|rj b6 jh<|fV<|oc b6 (o.ah e).1 (o.ah e).2 λk1 k2 a2=>fV<|tD a2 ge<|wK j gZ<|fV<|tD a2 mq<|wI<|g_ (decide_eq_true rfl) ?_;have a2:=a2.sub hW;refine wK j ge<|wK j gZ<|fV<|rj a2 jh<|fV<|Oj (D:=E) a2 e (o.ah e).1 (o.ah e).2 i3 i4 (λZ=>kg o.ay.1 o.ay.2 o.ok e6) (λz=>absurd i2 z) λk3 i5=>C i5
def jX(k:Nat):f_:="marks"++lh k
abbrev MZ:Type:=Option (Int×List (f_×Int))
noncomputable def mL(a:MZ)(nm:f_):Option Int:=a.bind λb=>b.2.lookup nm
structure qx(s:S)(k:Nat)(a:List (f_×Int))(b:MZ):Prop where
 names:s.ae 1=fR a
 key:a.lookup (jX k)=b.map (·.1)
 ae:∀c d,b=fR (c,d)->s.ae c=fR d
 k9:k<100000
 len:(lh k).length<=100
def IJ(a:k<100000)(b:(lh k).length<=100)(c:Q (.d (jX k)) y):wp (F (d+1) 597 [.a (k:Int)]) Q X y:=by
 have e:(fZ "marks").length=5:=by decide+kernel
 exact h_ (UU d _)<|fV<|yq a<|fV<|FE (kZ (gC e) b)<|gj c
def tv(c:St b s ts y)(a:qx s k t h)(e:Q (ov (h.map (·.1))) y):wp (F (d+3) 604 [.b b,.a (k:Int)]) Q X y:=h_ (Ur (d+2) _ _)<|wM c (by decide+kernel)<|fV<|IJ a.k9 a.len<|wY<|uk c a.names<|lE a.key<|gj e
def NN(a:St b s ts y)(c:qx s k t h)(f:nm.length<=100)(i:∀n,mL h nm=fR n->Q (.a n) y)(g:mL h nm=fU->X 63 y):wp (F (d+4) 611 [.b b,.a (k:Int),.d nm]) Q X y:=by refine h_ (Uy (d+3) _ _ _)<|fV<|tv a c<|fV<|uF ?_;induction h with|none=>exact g_ rfl<|vJ (by decide+kernel) f<|g rfl|some j=>obtain⟨o,l⟩:=j;refine jr l_<|wM a (by decide+kernel)<|wY<|uk a (c.ae _ _ rfl)<|fV<|uF ?_;generalize e:l.lookup nm=m;induction m with|none=>exact g_ rfl<|vJ (by decide+kernel) f<|g e|some n=>exact jr l_<|gj<|i n e
def Dc{m:Nat}(c:St b s ts y)(o:qx s k t h)(p:nm.length<=100)(q:hO g)(z:m<1000)(r:∀n,mL h nm=fR n->s.ac n=fR (Rw [g,(m:Int)]))(u:∀i f,(mL h nm).isSome=fW->St b s ((i,.c [.a g,.a (m:Int)])::ts) f->Q (.b i) f)(v:mL h nm=fU->X 63 y):wp (F (d+5) 632 [.b b,.a (k:Int),.d nm]) Q X y:=by
 refine h_ (Uq (d+4) _ _ _)<|wM (a:=160) c (by decide+kernel)<|fV<|NN c o p (λn e=>?_) v;refine wY<|Aw c (r n e)<|fV<|Hg c (λx j=>by
  simp only[gX,kK,or_false]at j;rcases j with rfl|rfl
  .exact q
  .exact⟨(kr _),by lia⟩) (by simp) λA B l=>fV<|AP (l.get ge) rfl<|wO l _ λC D w=>gj<|u _ _ (lE e rfl)<|w.sub (.cons_cons _ hW)
def S.bQ(s:S)(k:Nat)(a:List (f_×Int))(nm:f_)(g:Int)(m:Nat):S:=((s.aA.aF 1 (a++[(jX k,(s.aa+1:Int))])).aO (Rw [g,(m:Int)])).aF (s.aa+1:Int) [(nm,(s.aa+2:Int))]
def S.bR(s:S)(a:Int)(b:List (f_×Int))(nm:f_)(g:Int)(m:Nat):S:=(s.aO (Rw [g,(m:Int)])).aF a (b++[(nm,(s.aa+1:Int))])
def ϓ(q:St b s ts y)(c:qx s k h t)(p:uv nm=fW)(u:hO g)(K:m<1000)(r:s.aa+10<=50000)(v:h.length<60)(w:∀o f,t=fR (o,f)->f.length<60)(z:pc nm=fW->t=fU->∀i,St b (s.bQ k h nm g m) ts i->Q .c i)(A:pc nm=fW->∀o f,t=fR (o,f)->f.lookup nm=fU->∀i,St b (s.bR o f nm g m) ts i->Q .c i)(B:pc nm=fY->∀i,St b s ts i->X 111 i)(C:pc nm=fW->(mL t nm).isSome=fW->∀i,St b s ts i->X 75 i):wp (F (d+4) 618 [.b b,.a (k:Int),.d nm,.a g,.a (m:Int)]) Q X y:=by
 revert y t X q c p u K r v w z A B C;revert b s ts k h nm g m Q d;refine @(qj E1 ?_);generalize gN.1.1.1.1=b,gN.1.1.1.2=s,gN.1.1.2=ts,gN.1.2.1=k,gN.1.2.2=h,gN.2.1.1.1=nm,gN.2.1.1.2=g,gN.2.1.2=m,gN.2.2.1=Q,gN.2.2.2=d;intro y t X q c p u K r v w z A B C;have N:nm.length<=100:=by unfold uv at p;rw[lr,decide_eq_true_eq]at p;exact p.2
 have L:∀n∈[g,(m:Int)],hO n:=λx M=>by
  simp only[gX,kK,or_false]at M;rcases M with rfl|rfl
  .exact u
  .exact⟨(kr _),by lia⟩
 refine h_ (UG (d+3) _ _ _ _ _)<|fV<|Ic p q (λD a2 j=>?_) B;refine fV<|tv j c<|fV<|uF ?_;induction t with
 |none=>
  refine g_ rfl<|wM (a:=209) j (by decide+kernel)<|fV<|IJ c.k9 c.len<|wM j (by decide+kernel)<|wY<|vI j (iX r) λa3 O=>?_;have P:s.aA.ae 1=fR h:=by
   have:=q.bv c.names;refine(?_:(if(1:Int)=(s.aa+1:Int)then fR []else s.ae 1)=_);exact lE (if_neg (kY (oo this))) (lE c.names rfl)
  refine wY<|vM O P c.key v ⟨(kr _),by lia⟩ λa4 l=>?_;have l:=l;have E:qx (s.aA.aF 1 (h++[(jX k,(s.aa+1:Int))])) k (h++[(jX k,(s.aa+1:Int))]) (fR ((s.aa+1:Int),[])):={
   names:=by refine(?_:(if(1:Int)=1 then fR (h++[(jX k,(s.aa+1:Int))])else s.aA.ae 1)=_);exact lE (if_pos rfl) rfl
   key:=by refine lE Br (lE c.key (lE jn ?_));rw[beq_self_eq_true];rfl
   ae:=λo f e=>by cases e;have:=q.bv c.names;refine(?_:(if(s.aa+1:Int)=1 then _ else if(s.aa+1:Int)=s.aa+1 then fR []else _)=fR []);exact lE (if_neg (ma (oo this))) (lE (if_pos rfl) rfl)
   k9:=c.k9
   len:=c.len}
  refine fV<|tv l E<|wM l (by decide+kernel)<|wY<|uk l (E.ae _ _ rfl)<|fV<|AZ<|jr l_<|wM (a:=209) l (by decide+kernel)<|wM l (by decide+kernel)<|wO l _ λR S G=>fV<|AF G ge L (by simp) λT H=>wY<|x_ H (by refine(?_:s.aa+1+1<=50000);exact iX r) λV I=>?_;have W:(((s.aA.aF 1 (h++[(jX k,(s.aa+1:Int))])).aa:Nat):Int)+1=(s.aa+2:Int):=by exact rfl
  refine lE W<|wY<|vM I (E.ae _ _ rfl) rfl gO ⟨(kr _),by lia⟩ λY J=>gj<|z D rfl _<|J.sub hW
 |some a0=>obtain⟨o,f⟩:=a0;refine jr l_<|fV<|tv j c<|wM j (by decide+kernel)<|wY<|uk j (c.ae _ _ rfl)<|fV<|AZ ?_;generalize e:f.lookup nm=a1;induction a1 with|some n=>exact g_ rfl<|vJ (by decide+kernel) N<|C D (by refine(?_:(f.lookup nm).isSome=fW);exact lE e rfl) _ j|none=>refine jr l_<|wM j (by decide+kernel)<|wM j (by decide+kernel)<|wO j _ λR S G=>fV<|AF G ge L (by simp) λT H=>wY<|x_ H (iX r) λV I=>wY<|vM I (c.ae _ _ rfl) e (w _ _ rfl) ⟨(kr _),by lia⟩ λY J=>gj<|A D o f rfl e _<|J.sub hW
def Gi(j:St b s ts y)(f:qx s k t h)(o:nm.length<=100)(p:∀n,mL h nm=fR n->∃c,s.ac n=fR c)(q:∀i g n,h=fR (i,g)->g.lookup nm=fR n->∀m,St b ((s.bf n).aF i (jU g nm)) ts m->Q .c m)(r:mL h nm=fU->X 63 y):wp (F (d+5) 651 [.b b,.a (k:Int),.d nm]) Q X y:=by refine h_ (Ub (d+4) _ _ _)<|wM (a:=181) j (by decide+kernel)<|fV<|NN j f o (λn e=>?_) r;refine gI (p n e) λc u=>?_;induction h with|none=>injection e|some v=>obtain⟨i,g⟩:=v;refine wY<|CA j u λx l=>wM l (by decide+kernel)<|fV<|tv l ⟨f.names,f.key,f.ae,f.k9,f.len⟩<|wY<|DH l (f.ae i g rfl) e λz w=>gj<|q i g n rfl e _ w
abbrev PK:Type:=Int×f_
def mA(a b:PK):Prop:=a.1<b.1\/(a.1=b.1/\qi a.2 b.2)
def GJ(h:mA a b)(c:mA b a):a=b:=by
 obtain⟨x,u⟩:=a;obtain⟨e,v⟩:=b;rcases h with h|⟨h,k⟩<;>rcases c with c|⟨c,d⟩
 .dsimp only at*;lia
 .dsimp only at*;lia
 .dsimp only at*;lia
 .dsimp only at*;subst h;exact lE (Nd k d) rfl
def aaJ{l m:List PK}(p:l.Perm m)(c:l.Pairwise mA)(d:m.Pairwise mA):l=m:=QH (λa b Z Z e f=>GJ e f) c d p
def vG(h:kX b a=fY):mA a.1 b.1:=by
 unfold kX at h;simp only[adY,Bool.and_eq_false_iff,decide_eq_false_iff_not]at h;refine gP h ?_;intro e c;rcases Int.lt_trichotomy a.1.1 b.1.1 with d|d|d
 .exact .inl d
 .rcases c with c|c
  .exact absurd d.symm c
  .refine .inr ⟨d,λf=>?_⟩;rw[(Da _ _).mpr f]at c;injection c
 .exact absurd d e
def Db(h:kX b a=fW):mA b.1 a.1/\b.1≠a.1:=by
 unfold kX at h;simp only[wo,lr,decide_eq_true_eq]at h;rcases h with h|⟨h,k⟩
 .exact⟨.inl h,λc=>by rw[c]at h;exact(yK.mpr (qm _) h)⟩
 .have k:=(Da _ _).mp k;exact⟨.inr ⟨h,Nf k⟩,λc=>by rw[c]at k;exact aeu _ k⟩
def R5(h:mA a b)(d:mA b c):mA a c:=by
 rcases h with h|⟨h,k⟩<;>rcases d with d|⟨d,e⟩
 .exact .inl (Int.lt_trans h d)
 .exact .inl (d▸h)
 .exact .inl (h▸d)
 .exact .inr ⟨h.trans d,GK k e⟩
def As(a b:TK):(kX a b&&kX b a)=fY:=by
 cases h:kX a b<;>cases c:kX b a<;>try rfl
 exact absurd (GJ (Db h).1 (Db c).1) (Db h).2
def V0(a b c:TK)(h:kX a c=fW)(d:kX a b=fY)(e:kX b c=fY):False:=by
 have:=Db h;exact this.2 (GJ this.1 (R5 (vG e) (vG d)))
theorem Os{Y0 b:Nat->Nat->Bool}(h:∀i j,i<n->j<n->Y0 i j=b i j):∀t:KasT x,tA n t=fW->mO Y0 t=mO b t
 |.ret a,_=>rfl
 |.ask i j k,c=>by
  have c:(decide (i<n)&&decide (j<n)&&tA n (k fW)&&tA n (k fY))=fW:=c;simp only[lr,decide_eq_true_eq]at c;refine gP c ?_;intro d e;refine gP d ?_;intro f g;refine gP f ?_;intro l m;refine(?_:mO Y0 (k (Y0 i j))=mO b (k (b i j)));refine lE (h i j l m) ?_;cases b i j;exact Os h _ e;exact Os h _ g
noncomputable def Pr(a b:Bool)(i j:Nat):Bool:=if i=0/\j=1 then a else if i=1/\j=0 then b else fY
noncomputable def yt(a b c d e f:Bool)(i j:Nat):Bool:=if i=0/\j=1 then a else if i=1/\j=0 then b else if i=0/\j=2 then c else if i=2/\j=0 then d else if i=1/\j=2 then e else if i=2/\j=1 then f else fY
def abX:∀a b:Bool,(a&&b)=fY->((mO (Pr a b) (oV 2)).toList=[0,1]/\b=fY)\/((mO (Pr a b) (oV 2)).toList=[1,0]/\a=fY):=by decide+kernel
def abL:∀a b c d e f:Bool,(a&&b)=fY->(c&&d)=fY->(e&&f)=fY->(a&&!c&&!f)=fY->(b&&!e&&!d)=fY->(c&&!a&&!e)=fY->(d&&!f&&!b)=fY->(e&&!b&&!c)=fY->(f&&!d&&!a)=fY->((mO (yt a b c d e f) (oV 3)).toList=[0,1,2]/\b=fY/\d=fY/\f=fY)\/((mO (yt a b c d e f) (oV 3)).toList=[0,2,1]/\d=fY/\b=fY/\e=fY)\/((mO (yt a b c d e f) (oV 3)).toList=[1,0,2]/\a=fY/\f=fY/\d=fY)\/((mO (yt a b c d e f) (oV 3)).toList=[1,2,0]/\f=fY/\a=fY/\c=fY)\/((mO (yt a b c d e f) (oV 3)).toList=[2,0,1]/\c=fY/\e=fY/\b=fY)\/((mO (yt a b c d e f) (oV 3)).toList=[2,1,0]/\e=fY/\c=fY/\a=fY):=by decide+kernel
def Ho(h:mA a b):[a,b].Pairwise mA:=qr.mpr ⟨λx m=>by rw[js]at m;subst m;exact h,rZ _ _⟩
def ϔ(h:mA a b)(d:mA a c)(k:mA b c):[a,b,c].Pairwise mA:=qr.mpr ⟨λx m=>by
 rcases gX.mp m with rfl|m
 .exact h
 .rw[js]at m;subst m;exact d,Ho k⟩
def xZ:(kX a c&&!kX a b&&!kX b c)=fY:=by
 cases h:kX a c<;>cases d:kX a b<;>cases e:kX b c<;>try rfl
 exact(V0 _ _ _ h d e).elim
def Ar{P:Nat->Prop}(a:P 0)(k:∀i,i<n->P (i+1))(i:Nat)(h:i<n+1):P i:=by induction i with|zero=>exact a|succ i _=>exact k i (Nat.lt_of_succ_lt_succ h)
@[elab_as_elim] def GP{P:Nat->Prop}(a:P 0)(b:P 1)(i:Nat)(h:i<2):P i:=Ar a (Ar b λZ h=>absurd h (Bu _)) i h
@[elab_as_elim] def No{P:Nat->Prop}(a:P 0)(b:P 1)(c:P 2)(i:Nat)(h:i<3):P i:=Ar a (Ar b (Ar c λZ h=>absurd h (Bu _))) i h
def aaG(Z9:List TK)(h:Z9.length<=3):∃g,uy Z9=fR g/\g.Perm Z9/\(g.map (·.1)).Pairwise mA:=by
 have m:∀a:TK,kX a a=fY:=λa=>by have:=As a a;rwa [Bool.and_self]at this
 rcases Z9 with _|⟨x,_|⟨b,_|⟨a,_|⟨u,r⟩⟩⟩⟩
 .exact iU ([]) rfl (.refl _) .nil
 .exact iU ([x]) rfl (.refl _) (rZ _ _)
 .refine gx _ rfl ?_;rw[show[x,b].length=2 from rfl,Os (λi j k l=>?_) _ (Hi 2 gO)]
  .rcases abX (kX x b) (kX b x) (As _ _)with⟨e,h⟩|⟨e,h⟩<;>(show((mO _ (oV 2)).toList.map _).Perm _/\(((mO _ (oV 2)).toList.map _).map _).Pairwise mA;rw[e])
   .exact⟨.refl _,Ho (vG h)⟩
   .exact⟨.swap _ _ _,Ho (vG h)⟩
  .refine GP ?_ ?_ i k<;>refine GP ?_ ?_ j l<;>first|rfl|exact m _
 .refine gx _ rfl ?_;rw[show[x,b,a].length=3 from rfl,Os (λi j k l=>?_) _ (Hi 3 gO)]
  .rcases abL (kX x b) (kX b x) (kX x a) (kX a x) (kX b a) (kX a b) (As _ _) (As _ _) (As _ _) xZ xZ xZ xZ xZ xZ with⟨e,c,d,f⟩|⟨e,c,d,f⟩|⟨e,c,d,f⟩|⟨e,c,d,f⟩|⟨e,c,d,f⟩|⟨e,c,d,f⟩<;>
    (show((mO _ (oV 3)).toList.map _).Perm _/\(((mO _ (oV 3)).toList.map _).map _).Pairwise mA;rw[e];refine⟨?_,ϔ (vG c) (vG d) (vG f)⟩)
   .exact .refl _
   .exact .cons _ (.swap _ _ _)
   .exact .swap _ _ _
   .exact(IO _ (.swap _ _ _)).trans (.swap _ _ _)
   .exact(IQ _ _ _).trans (.cons _ (.swap _ _ _))
   .exact((IQ _ _ _).trans (.cons _ (.swap _ _ _))).trans (.swap _ _ _)
  .refine No ?_ ?_ ?_ i k<;>refine No ?_ ?_ ?_ j l<;>first|rfl|exact m _
 .exact absurd h (by simp)
abbrev HP:Type:=Nat×PK
noncomputable def HP.tup(x:HP):Nat×O:=(x.1,.c [.a x.2.1,.d x.2.2])
noncomputable def HP.dN(x:HP):V:=.b x.1
noncomputable def HP.key(x:HP):TK:=(x.2,.b x.1)
def abE:mQ [(fZ "made",.local),(fZ "name",.local)] U ["made","name"] [u,v]=fX (gW (gW U "made" u) "name" v):=by kernel_rfl
def HE(e:St b s ts y)(m:(i,.a (h.map HP.dN))∈ts)(t:∀x∈h,x.tup∈ts)(c:h.length<=3)(n:∀j (d:List HP) f,d.Perm h->(d.map (·.2)).Pairwise mA->St b s ((j,.a (d.map HP.dN))::ts) f->Q (.b j) f):wp (rQ [.b i]) Q X y:=by
 refine fV (iS (e.get m) (g_ (by rw[iq];exact iX c) ?_));have u:∀{l:List HP},(∀x∈l,x.tup∈ts)->tj y (l.map HP.dN)=fR (l.map HP.key):=λ{l} c=>by
  induction l with|nil=>rfl|cons a r v=>
   refine(?_:(match Ap y (.b a.1),tj y (r.map HP.dN)with|some k,fR Z9=>fR (k::Z9)|_,_=>fU)=_);refine lE (v λx w=>c x (.tail _ w)) ?_;have:Ap y (.b a.1)=fR a.key:=by refine(?_:((y.get a.1).bind λo=>(HQ o).bind _)=_);exact lE (e.get (c a ge)) rfl
   exact lE this rfl
 induction h with|nil=>exact pH e _ λj f z=>n j [] f (.refl _) .nil z|cons a r=>
  refine jy (aaG ((a::r).map HP.key) (by rw[iq];exact c)) λg A B p=>gy (Dr B) λd C q=>⟨?_⟩;have D:OT ((a::r).map HP.dN) y=gM (.a (g.map λx:TK=>x.2)) y:=by refine(?_:(match tj y ((a::r).map HP.dN)with|some Z9=>(match uy Z9 with|some g=>gM (.a (Es (λx:TK=>x.2) g)) y|none=>.a)|none=>.a)=_);refine lE (u t) ?_;dsimp only;exact lE A rfl
  refine lE D (lE q (lE kR ?_));exact n y.n d _ C (by rw[q,kR]at p;exact p) (e.alloc _)
def Ls(f:∀g∈h,y.get g.1=fR g.2):∀(d:List HP) (Z7:List V) (U:gA),(∀x∈d,x.tup∈ts)->St b s ts y->Q (Z7++d.map λx=>V.d x.2.2) y->wp (jw h (rn "made" "name") (λZ=>fX fW) (λℓ'=>fS (ig (jz (fZ "name") ℓ')) λa=>fX a) im U Z7 ((d.map HP.dN).map .a)) Q X y:=by intro j;induction j with|nil=>exact λZ7 U Z e c=>fV (mS f (gj (by rwa [IY,pn]at c)))|cons a r k=>intro Z7 U i e c;have g:=e.get (i a ge);refine fV (mS f (fV (fV (rR g rfl ?_))));refine h_ abE<|gj<|wR<|g_ rfl<|fV<|wK ((Kn.dN (U:=gW U "made" (.a a.2.1))).add (by rfl)) ge<|gj<|k _ _ (λx l=>i x (.tail _ l)) e ?_;rw[iZ,QK]at c;exact c
def GR(m:St b s ts y)(i:mH s own h z 0 (t::r))(j:t.ak=(k:Int))(o:r.length<=60)(q:(∀x∈r,x.ak≠p)->∀c,St b s ts c->X 99 c)(u:∀x∈r,x.ak=p->∀c,St b s ts c->wp (F (d+6) 618 [.b b,.a (k:Int),.d nm,.a x.aw,.a (x.made:Int)]) (λZ v=>Q .c v) X c):wp (F (d+7) 625 [.b b,.a (k:Int),.a p,.d nm]) Q X y:=by
 refine h_ (Up (d+6) _ _ _ _)<|fV<|rE j<|Ν m i o λB C f=>fV<|fV<|Gz f ge<|gj ?_;by_cases e:p∈r.reverse.map λx=>x.ak;refine jr (by refine lE (decide_eq_true e) ?_;decide) ?_;refine mE e λx a w=>?_;have a:=uM.mp a;refine kS (i.mem (.tail _ a)) λn D l=>?_;subst w;refine fV<|oc f l.ac l.bo λE G g=>fV<|OB g ge<|fV<|Hz g ge<|fV<|lE j<|pg (u x a rfl _ (g.sub (.cons _ hW))) (λZ Z h=>gj h) λZ Z h=>h;refine g_ (by refine lE (decide_eq_false e) ?_;rfl)<|PN<|q (λx a A=>e (A▸i_ (uM.mpr a))) _<|f.sub hW
def Lu{m:Nat}(f:St b s ts y)(i:qx s k z t)(j:nm.length<=100)(l:hO g)(o:m<1000)(p:∀n,mL t nm=fR n->s.ac n=fR (Rw [g,(m:Int)]))(q:mL t nm=fU->X 63 y)(r:(mL t nm).isSome=fW->∀a,St b s ts a->wp (F (d+5) 618 [.b b,.a (k:Int),.d x,.a g,.a (m:Int)]) (λZ u=>Q .c u) X a):wp (F (d+6) 639 [.b b,.a (k:Int),.d nm,.d x]) Q X y:=h_ (TV (d+5) _ _ _ _)<|fV<|Dc f i j l o p (λv w e c=>fV<|rR (c.get ge) rfl<|fV<|pg (r e _ (c.sub hW)) (λZ Z h=>gj h) λZ Z h=>h) q
def V6(e:St b s ts y)(g:qx s k h fU)(j:∀i f,St b s ((i,.a [])::ts) f->Q (.b i) f):wp (F (d+6) 644 [.b b,.a (k:Int)]) Q X y:=h_ (Ku (d+5) _ _)<|fV<|tv e g<|fV<|uF<|g_ rfl<|wO e _ λp q a=>wV (a.get ge)<|fV<|AX (g1 a ge)<|g_ (jT _)<|wO a _ λr t l=>fV<|HE l ge (λx m=>nM m) (by simp) λu v w n Z c=>by
  have:=QG n;subst this;exact wV (c.get ge)<|fV<|AX (g1 c ge)<|g_ (jT _)<|wO c _ λz A o=>gj<|j _ _<|o.sub (.cons_cons _ (.cons _ (.cons _ hW)))
inductive Tp(b:Nat)(s:S)(ts:List (Nat×O))(c:Nat)(N:List f_)(mm:f_->Nat)(Z7 Z4:List V)(y:H):Prop|mk (A B:List f_) (a:List HP) (d:N=A++B) (e:Z4=B.map V.d) (f:Z7=(a:List HP).map HP.dN) (g:a.map (·.2)=A.map (λnm=>((mm nm:Int),nm))) (h:St b s ((a.reverse.map HP.tup)++(c,.a (N.map .d))::ts) y)
def V7{g:f_->Int}{mm:f_->Nat}(c:St b s ts y)(j:qx s k W (fR (z,t)))(l:t.length<=3)(C:∀x∈t,x.1.length<=100/\hO (g x.1)/\mm x.1<1000)(D:∀nm n,t.lookup nm=fR n->s.ac n=fR (Rw [g nm,(mm nm:Int)]))(E:∀(L:List PK) i K,L.Perm (t.map λx=>((mm x.1:Int),x.1))->L.Pairwise mA->St b s ((i,.a (L.map λx=>V.d x.2))::ts) K->Q (.b i) K):wp (F (d+6) 644 [.b b,.a (k:Int)]) Q X y:=by
 revert ts y W z Q X g c j l C D E;revert b s k t d mm;refine @(nI E1 ?_);generalize gT.1.1.1=b,gT.1.1.2=s,gT.1.2=k,gT.2.1.1=t,gT.2.1.2=d,gT.2.2=mm;intro ts y W z Q X g c j l C D E;refine h_ (Ku (d+5) _ _)<|fV<|tv c j<|fV<|uF<|jr l_<|wM c (by decide+kernel)<|wY<|vH c (j.ae _ _ rfl) λa1 b0 G=>wV (G.get ge) ?_;have m:=yp (t.map (·.1));generalize qK (t.map (·.1))=N at m G|-;have a2:N.length=t.length:=by refine lE m.length_eq ?_;rw[iq]
 have a3:∀nm∈N,∃x∈t,x.1=nm:=λnm a=>yP.mp (m.mem_iff.mp a);refine wN<|zD (Z9:=[(fZ "base",.b b),(fZ "head",.a (k:Int))]) (P:=Tp b s ts a1 N mm) gQ (λ_ _ y ⟨_,_,_,_,_,_,_,h⟩=>g1 h (qo _ ge)) ?_ _ _ _ _ (Kn.cons gQ (Kn.cons gQ Kn.dN)) ⟨[],N,[],rfl,rfl,rfl,rfl,G⟩ ?_
 .rintro Z7 v Z4 U y o ⟨A,B,H,e,p,rfl,r,h⟩;induction B using jg with|nil=>exact cN p|cons nm B=>
   cases p;refine hZ λb1 M=>gy (a3 nm (by refine lE e ?_;simp)) λx a O=>?_;refine iT (C x a) λR S T=>M ?_;clear M;rw[O]at R S T;refine gI (GO (O▸i_ (f:=pV) a)) λn a4=>gj<|wK o gZ<|wK o jh<|wK o ge<|fV<|Dc h j R S T (λn' a5=>D nm n' a5) (λb2 b3 Z Y=>?_) λq=>by rw[show mL (fR (z,t)) nm=fR n from a4]at q;exact sN q
   refine fV<|fV<|iS (Y.get ge)<|fV<|kI (show nv (gV 1) 2=fR 1 by decide+kernel)<|kI rfl<|wK o ge<|wO Y _ λa6 b4 l=>gj ⟨A++[nm],B,H++[(a6,((mm nm:Int),nm))],by refine lE e ?_;simp,rfl,by simp[HP.dN],by simp[r],?_⟩;refine lE QW<|l.sub (.cons_cons _ hW)
 .rintro Z7 y ⟨A,B,H,e,p,rfl,r,h⟩;have:B=[]:=by induction B using jg<;>first|rfl|exact nC p
  subst this;rw[pn]at e;subst e;have I:H.length<=3:=by
   have:=congrArg rW r;simp at this;exact lG l (gC a2) (gC this)
  refine g_ (by rw[iq];exact gu I (iP _ _))<|wO h _ λb5 b6 a7=>fV<|HE a7 ge (λx a=>.tail _ (qT _ (i_ (uM.mpr a)))) I λb7 u b8 J a8 w=>wV (w.get ge)<|wN<|Ls (g1 w ge) u [] _ (λx a=>.tail _ (.tail _ (qT _ (i_ (uM.mpr (J.mem_iff.mp a)))))) w<|g_ (by rw[pT,iq];refine lE J.length_eq ?_;exact gu I (iP _ _))<|wO w _ λb9 c0 a0=>gj ?_;have a9:(u.map λx=>V.d x.2.2)=(u.map (·.2)).map λx=>V.d x.2:=lE kR rfl;rw[pT,a9]at a0;refine E (u.map (·.2)) _ _ ((J.map _).trans ?_) a8 (a0.sub (.cons_cons _ (.cons _ (.cons _ (QY hW)))));refine lE r ?_;have:=m.map λnm=>((mm nm:Int),nm);rw[kR]at this;exact this
structure Kp(s s':S)(k:Nat)(b:List (f_×Int))(c:Int)(a:List (f_×Int)):Prop where
 aa:s'.aa=s.aa
 nn:s'.nn+a.length=s.nn
 dM:s'.nz+1=s.nz
 names:s'.ae 1=fR (jU b (jX k))
 ac:∀p,p∉a.map (·.2)->s'.ac p=s.ac p
 ae:∀p,p≠1->p≠c->s'.ae p=s.ae p
def aa3{s:S}:(s.aF p e).ae p=fR e:=if_pos rfl
def St.ch(h:St b s ts y)(c:s.ae p=fR e):(e.map (·.1)).Nodup/\e.length<=60:=by refine gy h ?_;intro L h _;refine gy (h.z p e c) λo Z a=>⟨a.nd,a.dN⟩
def LH(b:(e.map (·.1)).Nodup)(h:e.lookup k=fR v):(jU e k).length+1=e.length:=by have a:=zG (by rw[IG];exact b) (by rw[uj];exact lE h rfl);rw[Gc]at a;unfold zV at a;simpa using a
def At:x∈jU e k↔x∈e/\x.1≠k:=by unfold jU;simp
def GT{l:List h}(b:(l.map f).Nodup)(g:x∈l)(i:y∈l)(e:f x=f y):x=y:=by
 induction l with|nil=>exact nM g|cons a r j=>
  have b:=jk.mp b;rcases gX.mp g with c|c<;>rcases gX.mp i with d|d
  .exact c.trans d.symm
  .exact absurd ((c▸e:f a=f y)▸i_ d) b.1
  .exact absurd ((d▸e:f x=f a)▸i_ c) b.1
  .exact j b.2 c d
def aax{a:List (f_×Int)}{x b:f_×Int}:(a.map (·.2)).Nodup->x∈a->b∈a->x.2=b.2->x=b:=GT
def n9(a:St b s ts y)(e:qx s k h fU)(f:∀c,St b s ts c->Q .c c):wp (F (d+6) 658 [.b b,.a (k:Int)]) Q X y:=h_ (Kt (d+5) _ _)<|fV<|tv a e<|fV<|uF<|g_ rfl<|gj<|f _ a
inductive To(b:Nat)(s:S)(ts:List (Nat×O))(e:Int)(d:List (f_×Int))(f:Nat)(N:List f_)(Z4:List V)(y:H):Prop|mk (a:S) (R:List f_) (c:List (f_×Int)) (g:Z4=(R:List f_).map V.d) (h:R.Nodup) (i:(∀x,x∈R↔x∈c.map (·.1))) (j:(c.map (·.1)).Nodup) (k:(∀x∈c,x∈d)) (l:a.ae e=fR c) (m:(∀x∈c,a.ac x.2=s.ac x.2)) (n:a.aa=s.aa) (o:a.nn+d.length=s.nn+c.length) (q:a.nz=s.nz) (r:(∀p,p≠e->a.ae p=s.ae p)) (t:(∀p,p∉d.map (·.2)->a.ac p=s.ac p)) (u:St b a ((f,.a (N.map .d))::ts) y)
def o6(u:St b s ts y)(f:qx s k L (fR (z,t)))(S:∀x∈t,x.1.length<=100)(G:∀x∈t,∃c,s.ac x.2=fR c)(T:(t.map (·.2)).Nodup)(w:z≠1)(j:∀s' V,Kp s s' k L z t->St b s' ts V->Q .c V):wp (F (d+6) 658 [.b b,.a (k:Int)]) Q X y:=by
 revert ts y L Q X u f S G T w j;revert b s k z t d;refine @(nI E1 ?_);generalize gT.1.1.1=b,gT.1.1.2=s,gT.1.2=k,gT.2.1.1=z,gT.2.1.2=t,gT.2.2=d;intro ts y L Q X u f S G T w j;refine h_ (Kt (d+5) _ _)<|fV<|tv u f<|fV<|uF<|jr l_<|wM u (by decide+kernel)<|wY<|vH u (f.ae _ _ rfl) λb2 c0 W=>wV (W.get ge) ?_;have Y:=yp (t.map (·.1));have a6:=(u.ch (f.ae _ _ rfl)).1;generalize qK (t.map (·.1))=N at Y W|-;refine wN<|vp (Z9:=[(fZ "base",.b b),(fZ "head",.a (k:Int)),(fZ "some",.a z)]) (R:=λZ Z=>False) (P:=To b s ts z t b2 N) gQ (λ_ y ⟨_,_,_,_,_,_,_,_,_,_,_,_,_,_,_,h⟩=>g1 h ge) ?_ ?_ (λZ Z h=>h.elim) _ _ _ (Kn.cons gQ (Kn.cons gQ (Kn.cons gQ Kn.dN))) ⟨s,N,t,rfl,(Y.nodup_iff.mpr a6),λx=>Y.mem_iff,a6,λZ h=>h,f.ae _ _ rfl,λZ Z=>rfl,rfl,rfl,rfl,λZ Z=>rfl,λZ Z=>rfl,W⟩
 .rintro v Z4 U y l ⟨g,R,o,e,H,A,a0,p,I,J,a1,a7,a8,B,a2,h⟩;induction R using jg with|nil=>exact cN e|cons nm R=>
   cases e;rw[jk]at H;refine gI (GO ((A nm).mp ge)) λn K=>?_;have C:=tr K;have b3:qx g k L (fR (z,o)):=⟨by exact lE (B 1 w.symm)<|f.names,f.key,λb4 b5 e=>by cases e;exact I,f.k9,f.len⟩;refine wK l gZ<|wK l jh<|wK l ge<|fV<|Gi h b3 (S _ (p _ C)) (λn' M=>?_) (λb4 b5 n' a3 a9 b6 O=>?_) λq=>by rw[show mL (fR (z,o)) nm=fR n from K]at q;exact sN q
   .have M:=M;refine gI (G _ (p _ (tr M))) λc a4=>⟨c,(J _ (tr M)).trans a4⟩
   .cases a3;rw[K]at a9;obtain rfl:=gz a9;refine gI (G _ (p _ C)) λc a4=>?_;have Z8:=h.bC ((J _ C).trans a4);have c1:=LH a0 K;refine gj ⟨l.tail,(g.bf n).aF z (jU o nm),R,jU o nm,rfl,H.2,λx=>?_,a0.sublist (IU.map _),λx i=>p x (At.mp i).1,if_pos rfl,λx i=>?_,a1,?_,a8,λq j=>?_,λq j=>?_,O⟩
    .constructor;refine λi=>mE ((A x).mp (.tail _ i)) λb0 D E=>yP.mpr (gx b0 (At.mpr ⟨D,λm=>H.1 (by refine rE m (lE E ?_);exact i)⟩) E)
     .refine λi=>mE i λb0 D E=>gP (At.mp D) λD a5=>?_;rcases gX.mp ((A x).mpr (E▸i_ D))with m|m
      .exact absurd (E.trans m) a5
      .exact m
    .refine gP (At.mp i) λi a5=>(?_:(if x.2=n then fU else g.ac x.2)=_);rw[if_neg λm=>a5 (by have:=aax T (p _ i) (p _ C) m;exact lE this rfl)];exact J x i
    .refine(?_:g.nn-1+t.length=s.nn+(jU o nm).length);lia
    .refine(?_:(if q=z then _ else g.ae q)=_);exact lE (if_neg j)<|B q j
    .refine(?_:(if q=n then fU else g.ac q)=_);exact lE (if_neg λ(m:q=n)=>j (m▸(i_ (p _ C))))<|a2 q j
 .rintro ℓ' V l ⟨g,R,o,e,H,A,a0,p,I,J,a1,a7,a8,B,a2,h⟩;have:R=[]:=by induction R using jg<;>first|rfl|exact nC e
  obtain rfl:=this.symm;have a3:o=[]:=by induction o with|nil=>rfl|cons a r=>exact absurd ((A a.1).mpr (by simp)) (by simp)
  obtain rfl:=a3.symm;have Z8:=h.cy I;have b7:(g.ba z).ae 1=fR L:=by refine(?_:(if(1:Int)=z then fU else g.ae 1)=_);exact lE (if_neg w.symm) (lE (B 1 w.symm) (lE f.names rfl))
  refine pM<|wK l ge<|wM h (by decide+kernel)<|wK l jh<|wY<|CB h I λb6 O=>wK l ge<|wM O (by decide+kernel)<|wK l gZ<|fV<|IJ f.k9 f.len<|wY<|DH O b7 f.key λc2 b8=>gj<|j ((g.ba z).aF 1 (jU L (jX k))) _ ⟨a1,a7,?_,aa3,a2,λq b9 b1=>?_⟩ (b8.sub hW);refine(?_:g.nz-1+1=s.nz);lia;refine(?_:(if q=1 then _ else if q=z then fU else g.ae q)=_);exact lE (if_neg b9) (lE (if_neg b1) (B q b1))
structure MR where
 name:f_
 ac:Int
 aw:Int
 made:Nat
noncomputable def MR.row(r:MR):f_×Int:=(r.name,r.ac)
structure Hd where
 k:Nat
 an:Int
 y:mW
 hd:Ds
 sn:List Ds
 aI:Option (Int×List MR)
noncomputable def oJ(a:List Ds):List (f_×Int):=(a.map λx=>(x.name,x.ak)).reverse
def ub(s:S):Prop:=(∀q c,s.ac q=fR c->q<=s.aa)/\∀q e,s.ae q=fR e->q<=s.aa
def St.bB(h:St b s ts y):ub s:=⟨λZ Z e=>h.aS e,λZ Z e=>h.bv e⟩
structure oX(s:S)(own:pF)(h:Nat)(t:Nat)(W:Hd):Prop where
 kE:W.hd.ak=(W.k:Int)
 dn:s.ac W.an=fR (lq W.y)
 bW:own W.an=.an h
 ca:W.y.ok
 d0:W.an≠0
 dN:W.y.dN=W.hd.ak
 aJ:mH s own h W.an 0 (W.hd::W.sn)
 bH:W.hd.bn=0
 bT:∀x∈W.sn,x.bn=1
 ord:(W.sn.map (·.made)).Pairwise (·>·)
 m2:∀x∈W.sn,2<=x.made/\x.made<t
 hm:W.hd.made=1
 kl:∀x∈W.hd::W.sn,x.ag.ks.length<=t
 sz:s.ae W.hd.au=fR (oJ W.sn)
 br:own W.hd.au=.i h
structure zk(s:S)(own:pF)(h:Nat)(c:List (f_×Int))(W:Hd):Prop where
 k9:W.k<100000
 len:(lh W.k).length<=100
 key:c.lookup (jX W.k)=W.aI.map (·.1)
 ae:∀a b,W.aI=fR (a,b)->s.ae a=fR (b.map MR.row)/\own a=.d h
 row:∀a b,W.aI=fR (a,b)->∀r∈b,s.ac r.ac=fR (Rw [r.aw,(r.made:Int)])/\own r.ac=.e h r.name/\hO r.aw/\r.made<1000/\(r.name="m"\/r.name="n"\/r.name="o")
def pE(s s':S)(own a:pF)(T:Ro->Prop):Prop:=s.aa<=s'.aa/\∀q:Int,q<=s.aa->¬T (own q)->s'.ac q=s.ac q/\s'.ae q=s.ae q/\a q=own q
def nH{own:pF}{p q:Int}(h:own p=r)(a:own q=t)(n:r≠t):p≠q:=λe=>n (rE h (lE e (lE a rfl)))
def BW(T:Ro->Prop)(h:Nat)(x:Ds):Prop:=¬T (.b h x.id)/\¬T (.a h x.id)/\¬T (.c h x.ag.z)/\¬T (.g h x.id)/\¬T (.h h x.id)
def ny.frame(d:ub s)(b:ny s own h t y x r)(F:pE s s' own z T)(f:BW T h x):ny s' z h t y x r:=by
 revert y r d b F f;revert s own h t x s' z T;refine @(lx E1 ?_);generalize gw.1.1.1=s,gw.1.1.2=own,gw.1.2.1=h,gw.1.2.2=t,gw.2.1.1=x,gw.2.1.2=s',gw.2.2.1=z,gw.2.2.2=T;intro y r d b F f;refine pi f ?_;intro o q u v w;have a:=F.2 x.ak (d.1 _ _ b.ac) (by refine lE b.aV<|o);have c:=F.2 x.ag.z (d.2 _ _ b.ag.ae) (by refine lE b.aN<|q);have e:∀p∈x.ag.ks,_:=λp i=>F.2 p.2 (d.1 _ _ (b.ag.ac p i)) (by refine lE (b.ownp p i)<|u);exact{
  ac:=a.1.trans b.ac
  bo:=b.bo
  pos:=b.pos
  aV:=a.2.2.trans b.aV
  ag:=b.ag.keep F.1 c.2.1 λp i=>(e p i).1
  aN:=c.2.2.trans b.aN
  ownp:=λp i=>(e p i).2.2.trans (b.ownp p i)
  two:=λA=>by refine jZ (b.two A) λj k l m=>?_;have g:=F.2 _ (d.2 _ _ j) (by refine lE k<|v);have n:=F.2 _ (d.2 _ _ l) (by refine lE m<|w);exact(kg (g.2.1.trans j) (g.2.2.trans k) (n.2.1.trans l) (n.2.2.trans m))}
def mH.frame(b:ub s)(F:pE s s' own t T):∀{l:List Ds} {d:Int},(∀x∈l,BW T h x)->mH s own h y d l->mH s' t h y d l|[],_,_,_=>trivial|x::r,_,f,⟨a,c⟩=>⟨a.frame b F (f x ge),c.frame b F λe g=>f e (.tail _ g)⟩
def oX.frame(c:ub s)(a:oX s own h t W)(F:pE s s' own y T)(b:∀r,(r=.an h\/r=.i h\/(∃i,r=.b h i\/r=.a h i\/r=.g h i\/r=.h h i)\/∃f,r=.c h f)->¬T r)(e:t<=t'):oX s' y h t' W where
 kE:=a.kE
 dn:=(F.2 _ (c.1 _ _ a.dn) (b _ (.inl a.bW))).1.trans a.dn
 bW:=(F.2 _ (c.1 _ _ a.dn) (b _ (.inl a.bW))).2.2.trans a.bW
 ca:=a.ca
 d0:=a.d0
 dN:=a.dN
 aJ:=a.aJ.frame c F λx Z=>su (b _ (.inr (.inr (.inl ⟨_,.inl rfl⟩)))) (b _ (.inr (.inr (.inl ⟨_,.inr (.inl rfl)⟩)))) (b _ (.inr (.inr (.inr ⟨_,rfl⟩)))) (b _ (.inr (.inr (.inl ⟨_,.inr (.inr (.inl rfl))⟩)))) (b _ (.inr (.inr (.inl ⟨_,.inr (.inr (.inr rfl))⟩))))
 bH:=a.bH
 bT:=a.bT
 ord:=a.ord
 m2:=λx d=>⟨(a.m2 x d).1,pU (a.m2 x d).2 e⟩
 hm:=a.hm
 kl:=λx d=>gu (a.kl x d) e
 sz:=(F.2 _ (c.2 _ _ a.sz) (b _ (.inr (.inl a.br)))).2.1.trans a.sz
 br:=(F.2 _ (c.2 _ _ a.sz) (b _ (.inr (.inl a.br)))).2.2.trans a.br
def zk.frame(i:ub s)(b:zk s own h t W)(F:pE s s' own y T)(j:∀r,(r=.d h\/∃x,r=.e h x)->¬T r)(l:z.lookup (jX W.k)=t.lookup (jX W.k)):zk s' y h z W where
 k9:=b.k9
 len:=b.len
 key:=l.trans b.key
 ae:=λd f e=>by refine gP (b.ae d f e) λa c=>?_;have g:=F.2 _ (i.2 _ _ a) (j _ (.inl c));exact⟨g.2.1.trans a,g.2.2.trans c⟩
 row:=λd f e r m=>by refine iT (b.row d f e r m) λa c k=>?_;have g:=F.2 _ (i.1 _ _ a) (j _ (.inr ⟨_,c⟩));exact iy (g.1.trans a) (g.2.2.trans c) k
noncomputable def ur:Option (Int×List MR)->Nat|none=>0|some (_,a)=>a.length
noncomputable def Di:Option (Int×List MR)->Nat|none=>0|some _=>1
noncomputable def oh:List Ds->Nat|[]=>0|x::r=>1+x.ag.ks.length+oh r
def Hd.cz(W:Hd):Nat:=2+3*W.sn.length+Di W.aI
def Hd.cn(W:Hd):Nat:=1+W.hd.ag.ks.length+oh W.sn+ur W.aI
noncomputable def hi(a:Bool):Nat:=if a then 1 else 0
structure iO(s:S)(own:pF)(b:List (f_×Int))(t:Nat)(W:Bool->Hd):Prop where
 names:s.ae 1=fR b
 bh:own 1=.f
 A:∀a,oX s own (hi a) t (W a)
 M:∀a,zk s own (hi a) b (W a)
 cG:jX (W fW).k≠jX (W fY).k
 bM:∃r c,b=(fZ "root",r)::c/\∀x∈c,∃a,x.1=jX (W a).k
 nroot:∀a,jX (W a).k≠"root"
 cz:s.nz=5+(W fW).cz+(W fY).cz
 cn:s.nn=2+(W fW).cn+(W fY).cn
 aa:s.aa<=100+100*t
 t9:2<=t/\t<=20
noncomputable def jP(W:Bool->Hd)(a:Bool)(b:Hd):Bool->Hd:=λc=>if c=a then b else W c
def jS{b:Hd}:jP W a b a=b:=if_pos rfl
def km{b:Hd}(h:c≠a):jP W a b c=W c:=if_neg h
noncomputable def Hd.fresh(W:Hd)(a:Nat)(b:Int)(t:Nat)(nm:f_):Ds:=⟨(a+3:Int),b,t,W.hd.ag,0,(a+1:Int),(a+2:Int),1,nm⟩
noncomputable def Hd.take(W:Hd)(a:Nat)(b:Int)(t:Nat)(nm:f_)(D':iN):Hd:={W with hd:={W.hd with ag:=D'},sn:=W.fresh a b t nm::W.sn}
def Aa(h:c≠a):hi c≠hi a:=by induction a<;>induction c<;>first|exact absurd rfl h|decide
def ny.turn(d:ub s)(a:ny s own h t N x r)(F:pE s s' own y T)(n:s'.ac x.ak=fR (iK (x.ax t z L)))(o:(x.ax t z L).ok)(q:y x.ak=.b h x.id)(f:¬T (.a h x.id)/\¬T (.c h x.ag.z)/\¬T (.g h x.id)/\¬T (.h h x.id)):ny s' y h t z x L:=by
 refine jZ f ?_;intro u v w A;have c:=F.2 x.ag.z (d.2 _ _ a.ag.ae) (a.aN▸u);have e:∀p∈x.ag.ks,_:=λp b=>F.2 p.2 (d.1 _ _ (a.ag.ac p b)) ((a.ownp p b)▸v);exact{
  ac:=n
  bo:=o
  pos:=a.pos
  aV:=q
  ag:=a.ag.keep F.1 c.2.1 λp b=>(e p b).1
  aN:=c.2.2.trans a.aN
  ownp:=λp b=>(e p b).2.2.trans (a.ownp p b)
  two:=λB=>by refine jZ (a.two B) λi j k l=>?_;have g:=F.2 _ (d.2 _ _ i) (j▸w);have m:=F.2 _ (d.2 _ _ k) (l▸A);exact(kg (g.2.1.trans i) (g.2.2.trans j) (m.2.1.trans k) (m.2.2.trans l))}
def xX{x:Ds}(a:x.bn=1):x.id=x.made:=if_pos a
def CU{x:Ds}(a:x.bn=0):x.id=0:=if_neg (by refine lE a ?_;decide)
noncomputable def tB(own:pF)(h t:Nat)(n c a b:Int)(D':iN):pF:=λq=>if q=n then .b h t else if q=c then .g h t else if q=a then .h h t else if q=b then .a h t else if q=D'.z then .a h 0 else if q∈D'.ks.map (·.2)then .c h D'.z else own q
inductive TT(h:Nat)(b:List Ds)(r:Ro):Prop|a (e:r=.b h 0)|b (a:Ds) (c:List Ds) (d:b=a::c) (e:r=.b h a.id)|c (e:r=.a h 0)|d (e:r=.i h)
noncomputable def CO:Ro->Option Nat|.j|.f=>fU|.an h|.i h|.d h=>fR h|.e h _|.b h _|.a h _|.g h _|.h h _|.c h _=>fR h
noncomputable def V1:Ro->Bool|.f|.d _|.e _ _|.an _|.c _ _|.g _ _|.h _ _=>fW|_=>fY
def abS(a:TT h t r):CO r=fR h:=by cases a with|a e=>exact lE e rfl|b _ _ _ e=>exact lE e rfl|c e=>exact lE e rfl|d e=>exact lE e rfl
def sH(m:V1 r=fW)(a:TT h t r):False:=by cases a with|a e=>rw[e]at m;injection m|b _ _ _ e=>rw[e]at m;injection m|c e=>rw[e]at m;injection m|d e=>rw[e]at m;injection m
def abT(c:TT h t (.b h i)):i=0\/∃a b,t=a::b/\i=a.id:=by cases c with|a e=>exact .inl (Ro.b.inj e).2|b a b d e=>exact .inr (nF a b d ((Ro.b.inj e).2))|c e=>injection e|d e=>injection e
def PA(a:TT h t (.a h i)):i=0:=by cases a with|a e=>injection e|b _ _ _ e=>injection e|c e=>exact(Ro.a.inj e).2|d e=>injection e
def Vl{T:Ro->Prop}(b:∀r,T r->CO r=fR h)(c:t≠h):∀r,(r=.an t\/r=.i t\/(∃i,r=.b t i\/r=.a t i\/r=.g t i\/r=.h t i)\/∃a,r=.c t a)->¬T r:=λr d e=>by
 have:=b r e;rcases d with rfl|rfl|⟨i,rfl|rfl|rfl|rfl⟩|⟨a,rfl⟩<;>exact c (gz this)
def abC{I:hY}(a:Bool)(P:St b s ts y)(Q:St b s' Z2 N)(i:iO s own L t W)(R:t+1<=20)(S:∀u r,(W a).sn=u::r->I=u.ax (W a).an (W a).hd.ak r)(d:KB s s' ((W a).hd.ax (W a).an 0 (W a).sn) (W a).hd.ak z t nm (oJ (W a).sn) D' (W a).hd.ag.ks.length I):∃k,iO s' k L (t+1) (jP W a ((W a).take s.aa z t nm D')):=by
 revert b ts y Z2 N L P Q i R S d;revert s s' own t W z nm D' I a;refine @(qj E1 ?_);generalize gN.1.1.1.1=s,gN.1.1.1.2=s',gN.1.1.2=own,gN.1.2.1=t,gN.1.2.2=W,gN.2.1.1.1=z,gN.2.1.1.2=nm,gN.2.1.2=D',gN.2.2.1=I,gN.2.2.2=a;intro b ts y Z2 N L P Q i R S d;have A:=i.A a;have l:=P.bB;have a0:=CU A.bH;have T:=A.aJ.1.aN;rw[a0]at T;have J:=A.aJ.1.aV;rw[a0]at J;have D:=l.2 _ _ A.aJ.1.ag.ae;generalize a1:hi a=h at*;have w:∀q:Int,q<=s.aa->own q≠.a h 0->tB own h t (s.aa+3:Int) (s.aa+1:Int) (s.aa+2:Int) (W a).hd.ag.z D' q=own q:=λq o a8=>by unfold tB;rw[if_neg (I1 o),if_neg (kY (oo o)),if_neg (I1 o),if_neg (λe=>a8 (by exact lE e (lE T rfl))),if_neg (by have:=d.z;exact kY (El o this)),if_neg];refine λm=>mE m λp n a9=>?_;obtain rfl:=a9;have:=d.pts p n;exact yK.mpr (ra this) o
 refine⟨tB own h t (s.aa+3:Int) (s.aa+1:Int) (s.aa+2:Int) (W a).hd.ag.z D',?_⟩;generalize B:tB own h t (s.aa+3:Int) (s.aa+1:Int) (s.aa+2:Int) (W a).hd.ag.z D'=k at w|-;have b0:k (s.aa+3:Int)=.b h t:=rE B<|if_pos rfl;have b1:k (s.aa+1:Int)=.g h t:=by refine rE B ?_;unfold tB;exact lE (if_neg I5) (lE (if_pos rfl) rfl)
 have b2:k (s.aa+2:Int)=.h h t:=by refine rE B ?_;unfold tB;exact lE (if_neg (kY (qm _))) (lE (if_neg (by exact ma (qm _))) (lE (if_pos rfl) rfl))
 have b3:k (W a).hd.ag.z=.a h t:=by refine rE B ?_;unfold tB;exact lE (if_neg (I1 D)) (lE (if_neg (kY (oo D))) (lE (if_neg (I1 D)) (lE (if_pos rfl) rfl)))
 have b4:k D'.z=.a h 0:=by
  have:=d.z;have:=d.ne;refine rE B ?_;unfold tB;exact lE (if_neg (by lia)) (lE (if_neg (by lia)) (lE (if_neg (by lia)) (lE (if_neg (by lia)) (lE (if_pos rfl) rfl))))
 have b5:∀p∈D'.ks,k p.2=.c h D'.z:=λp n=>by
  have:=d.pts p n;refine rE B ?_;unfold tB;exact lE (if_neg (ma this)) (lE (if_neg (ma (ra this))) (lE (if_neg (ma (Ek this))) (lE (if_neg (ma (oB D this))) (lE (if_neg (λe=>Q.dw (d.ok.ac p n) (e▸d.ok.ae))) (lE (if_pos (i_ n)) rfl)))))
 have F:pE s s' own k (TT h (W a).sn):=by refine⟨by have:=d.aa;exact(gu (pz _ _) this.1),λq o K=>iy (d.bg q o (λe=>K (.a (e▸J))) ?_) (d.zaps q o λe=>K (.d (e▸A.br))) (w q o λe=>K (.c e))⟩;generalize v:(W a).sn=V;induction V with|nil=>exact .inr rfl|cons u X=>refine .inl λe=>K (.b u X v ?_);have j:=A.aJ.2;rw[v]at j;exact(e)▸j.1.aV
 have O:∀x∈(W a).sn,x.id=x.made/\2<=x.made/\x.made<t:=λx f=>⟨xX (A.bT x f),A.m2 x f⟩;have c1:=i.aa;have j:mH s' k h (W a).an (s.aa+3:Int) (W a).sn:=by
  have j:=A.aJ.2;have Y:=A.ord;generalize v:(W a).sn=V;induction V with|nil=>trivial|cons u X=>
   rw[v]at j Y O;rw[iZ,qr]at Y;have a2:=O u ge;have a3:=d.ah (by refine lE v ?_;have:=j.1.pos;exact ma this);rw[S u X v,show((W a).hd.ax (W a).an 0 (W a).sn).ah=u.ak by refine lE v ?_;rfl]at a3;refine⟨j.1.turn l F a3 (Dl j.1.bo (⟨(kr _),by lia⟩)) ?_ (kg ?_ ?_ ?_ ?_),j.2.frame l F λx f=>su ?_ ?_ ?_ ?_ ?_⟩;rw[w _ (l.1 _ _ j.1.ac) (by refine lE j.1.aV ?_;intro g;injection g)];exact j.1.aV
   .exact λg=>by have:=PA g;exact uQ (gu (jo a2.2.1) (gC a2.1.symm)) (gC this)
   .exact sH rfl
   .exact sH rfl
   .exact sH rfl
   .have E:=O x (.tail _ f);have:=Y.1 _ (i_ f);refine λg=>(abT g).elim (λg=>uQ (gu (jo E.2.1) (gC E.1.symm)) (gC g)) λ⟨c2,c3,a4,g⟩=>?_;rw[v]at a4;injection a4;lia
   .have E:=O x (.tail _ f);exact λg=>by have:=PA g;exact uQ (gu (jo E.2.1) (gC E.1.symm)) (gC this)
   .exact sH rfl
   .exact sH rfl
   .exact sH rfl
 have b6:=(w _ (l.1 _ _ A.aJ.1.ac) (by refine lE J ?_;intro g;injection g)).trans J;have chn:mH s' k h (W a).an 0 ({(W a).hd with ag:=D'}::(W a).fresh s.aa z t nm::(W a).sn):=by
  refine iy ({ac:=d.a,bo:=d.bo.2,pos:=A.aJ.1.pos,aV:=b6.trans (lE (CU A.bH) rfl),ag:=d.ok,aN:=b4.trans (lE (CU A.bH) rfl),ownp:=b5,two:=λg=>by have g:(W a).hd.bn=1:=g;rw[A.bH]at g;cases g}) ({ac:=d.ac,bo:=d.bo.1,pos:=by exact Fv,aV:=b0.trans (lE (xX rfl) rfl),ag:=?_,aN:=b3.trans (lE (xX rfl) rfl),ownp:=λp n=>?_,two:=λZ=>(kg d.c (b1.trans (by exact lE (xX rfl) rfl)) d.d (b2.trans (by exact lE (xX rfl) rfl)))}) j;refine A.aJ.1.ag.keep F.1 (d.zaps _ D (nH T A.br (by intro g;injection g))) λp n=>(F.2 p.2 (l.1 _ _ (A.aJ.1.ag.ac p n)) ?_).1;refine lE (A.aJ.1.ownp p n)<|sH rfl;rw[w _ (l.1 _ _ (A.aJ.1.ag.ac p n)) (by refine lE (A.aJ.1.ownp p n) ?_;intro g;injection g)];exact A.aJ.1.ownp p n
 have a5:=F.2 _ (l.1 _ _ A.dn) (by refine lE A.bW<|sH rfl);have a6:=A.kl (W a).hd ge;have b7:oX s' k h (t+1) ((W a).take s.aa z t nm D'):={
  kE:=A.kE
  dn:=a5.1.trans A.dn
  bW:=a5.2.2.trans A.bW
  ca:=A.ca
  d0:=A.d0
  dN:=A.dN
  aJ:=chn
  bH:=A.bH
  bT:=λx f=>by
   rcases gX.mp f with rfl|f
   .rfl
   .exact A.bT x f
  ord:=by refine lE iZ ?_;rw[qr];refine⟨λm hm=>?_,A.ord⟩;refine mE hm λx f b8=>?_;obtain rfl:=b8;exact(A.m2 x f).2
  m2:=λx f=>by
   rcases gX.mp f with rfl|f
   .exact⟨i.t9.1,nR _⟩
   .have:=A.m2 x f;exact⟨this.1,(pA this.2)⟩
  hm:=A.hm
  kl:=λx f=>by
   rcases gX.mp f with rfl|f
   .have:=d.dC;exact gu this (Rb a6 _)
   .rcases gX.mp f with rfl|f
    .exact pA a6
    .have:=A.kl x (.tail _ f);exact pA this
  sz:=d.sz.trans (by unfold oJ;exact lE (show((W a).take s.aa z t nm D').sn=(W a).fresh s.aa z t nm::(W a).sn from rfl) (lE iZ (lE aeE rfl)))
  br:=(w _ (l.2 _ _ A.sz) (by refine lE A.br ?_;intro g;injection g)).trans A.br}
 have C:=λc=>(i.M c).frame l F (by rintro r (rfl|⟨x,rfl⟩)<;>exact sH rfl) rfl
 have a7:=F.2 1 (l.2 _ _ i.names) (by refine lE i.bh<|sH rfl);exact{
  names:=a7.2.1.trans i.names
  bh:=a7.2.2.trans i.bh
  A:=λc=>by
   by_cases e:c=a;obtain rfl:=e.symm;exact lE jS (lE a1 b7);refine lE (km e)<|(i.A c).frame l F (Vl (λZ=>abS) (a1▸Aa e)) (jA _)
  M:=λc=>by
   by_cases e:c=a;subst e;exact(jS)▸⟨(C c).k9,(C c).len,(C c).key,(C c).ae,(C c).row⟩;exact(km e)▸C c
  cG:=by
   have:∀c,(jP W a ((W a).take s.aa z t nm D') c).k=(W c).k:=λc=>by
    by_cases e:c=a;obtain rfl:=e.symm;exact lE jS rfl;exact lE (km e) rfl
   rw[this,this];exact i.cG
  bM:=by
   refine jR i.bM λr b9 e hm=>nF r b9 e (λx f=>?_);refine gI (hm x f) λc c0=>⟨c,c0.trans ?_⟩;by_cases e:c=a;obtain rfl:=e.symm;exact lE jS rfl;exact lE (km e) rfl
  nroot:=λc=>by
   by_cases e:c=a;subst e;exact(jS)▸i.nroot c;exact(km e)▸i.nroot c
  cz:=by
   have G:=i.cz;have H:=d.b;have e:((W a).take s.aa z t nm D').cz=(W a).cz+3:=by unfold Hd.cz Hd.take;simp;exact by simp+arith
   cases a;exact lE jS (lE (km gO) (lE e (rB G H)));exact lE jS (lE (km gO) (lE e (rB G H)))
  cn:=by
   have G:=i.cn;have H:=d.nn;have e:((W a).take s.aa z t nm D').cn=(W a).cn+1+D'.ks.length:=by refine(?_:1+D'.ks.length+(1+(W a).hd.ag.ks.length+oh (W a).sn)+ur (W a).aI=1+(W a).hd.ag.ks.length+oh (W a).sn+ur (W a).aI+1+D'.ks.length);exact by simp+arith
   cases a;exact lE jS (lE (km gO) (lE e (rB G H)));exact lE jS (lE (km gO) (lE e (rB G H)))
  aa:=by have:=d.aa;lia
  t9:=by have:=i.t9;exact⟨(pA this.1),R⟩}
noncomputable def pQ:Int->List Ds->Int|n,[]=>n|_,p::P=>pQ p.ak P
noncomputable def aci(x:Ds)(a b:Int):List Ds->hY|[]=>x.ax a b []|c::d=>c.ax a x.ak d
def La:∀{P l:List Ds} {a:Int},mH s own h t a (P++l)->mH s own h t (pQ a P) l:=by intro b;induction b with|nil=>intro _ _ c;exact c|cons p P d=>intro l _ c;exact d c.2
def MQ{x:Ds}(a:oI r=oI h)(b:qI r=qI h):x.ax t y r=x.ax t y h:=by unfold Ds.ax;exact lE a (lE b rfl)
def YC(g:ub s)(F:pE s s' own z T)(c:mH s own h L y (P++l))(f:∀x∈P,BW T h x)(i:oI t=oI l)(j:qI t=qI l)(a:mH s' z h L (pQ y P) t):mH s' z h L y (P++t):=by
 induction P generalizing y with|nil=>exact a|cons p P k=>
  refine⟨?_,k c.2 (λx m=>f x (.tail _ m)) a⟩;have d:=c.1.frame g F (f p ge);have b:oI (P++l)=oI (P++t):=by induction P using jg<;>first|exact i.symm|rfl
  have e:qI (P++l)=qI (P++t):=by induction P using jg<;>first|exact j.symm|rfl
  exact{d with ac:=rE (MQ b e)<|d.ac,bo:=by refine rE (MQ b e)<|d.bo}
theorem χ:∀{P l:List Ds} {a:Int},mH s own h t a (P++l)->P≠[]->∃p∈P,pQ a P=p.ak/\∃n r,ny s own h t n p r|[p],_,_,c,_=>⟨p,.head _,rfl,_,_,c.1⟩|p::q::P,l,_,c,_=>by refine jy (χ c.2 (by simp)) λb m e k=>iU b (.tail _ m) e k
def Af(A:oX s own h t W):((W.hd::W.sn).map Ds.id).Nodup:=by refine lE iZ ?_;rw[jk];refine lE (Et λx a=>xX (A.bT x a)) (lE (CU A.bH) ?_);refine⟨λm=>?_,A.ord.imp λh=>tN h⟩;refine mE m λx a b=>?_;have:=(A.m2 x a).1;exact uQ (jo this) (gC b)
theorem U6:∀{b:List (f_×Int)} {k:f_} {v:Int},(b.map (·.1)).Nodup->(k,v)∈b->b.lookup k=fR v
 |a::r,k,v,c,m=>by
  rw[iZ,jk]at c;refine lE jn ?_;rcases gX.mp m with rfl|m
  .simp
  .have:(k==a.1)=fY:=by
    simp only[beq_eq_false_iff_ne];rintro rfl;have:=i_ (f:=pV) m;exact c.1 this
   refine lE this<|U6 c.2 m
def Hs:(k,v)∈oJ h↔∃x∈h,x.name=k/\x.ak=v:=by
 unfold oJ;rw[uM,yP];constructor;rintro⟨x,a,e⟩;cases e;exact iU x a rfl rfl;rintro⟨x,a,rfl,rfl⟩;exact gx x a rfl
def Hc(c:mH s own h t z l)(g:(l.map Ds.id).Nodup)(i:x∈l)(j:y∈l)(e:x.ak=y.ak):x=y:=by
 refine kS (c.mem i) λZ Z k=>kS (c.mem j) λZ Z m=>?_;have n:x.id=y.id:=by
  have:=k.aV;rw[e,m.aV]at this;exact(Ro.b.inj this).2.symm
 clear k m c e;induction l with|nil=>exact nM i|cons a r o=>
  rw[iZ,jk]at g;rcases gX.mp i with b|b<;>rcases gX.mp j with d|d
  .exact lE b (lE d rfl)
  .have:=i_ (f:=Ds.id) d;rw[<-n,b]at this;exact absurd this g.1
  .have:=i_ (f:=Ds.id) b;rw[n,d]at this;exact absurd this g.1
  .exact o g.2 b d
inductive TD(h:Nat)(x a:Ds)(B:List Ds)(r:Ro):Prop|b (e:r=.b h x.id)|c (e:r=.b h a.id)|a (b:Ds) (c:List Ds) (e:B=b::c) (d:r=.b h b.id)|d (e:r=.a h x.id)|e (e:r=.a h a.id)|f (e:r=.c h x.ag.z)|g (e:r=.c h a.ag.z)|h (e:r=.i h)|i (e:r=.g h x.id)|j (e:r=.h h x.id)
def abJ(c:TD h x y B (.b h i)):i=x.id\/i=y.id\/∃a b,B=a::b/\i=a.id:=by cases c with|b e=>exact .inl (Ro.b.inj e).2|c e=>exact .inr (.inl (Ro.b.inj e).2)|a a b e q=>exact .inr (.inr (nF a b e ((Ro.b.inj q).2)))|d e=>injection e|e e=>injection e|f e=>injection e|g e=>injection e|h e=>injection e|i e=>injection e|j e=>injection e
def Ps(a:TD h x y B (.a h i)):i=x.id\/i=y.id:=by cases a with|b e=>injection e|c e=>injection e|a b c e q=>injection q|d e=>exact .inl (Ro.a.inj e).2|e e=>exact .inr (Ro.a.inj e).2|f e=>injection e|g e=>injection e|h e=>injection e|i e=>injection e|j e=>injection e
def Pt(a:TD h x y B (.c h i)):i=x.ag.z\/i=y.ag.z:=by cases a with|b e=>injection e|c e=>injection e|a b c e q=>injection q|d e=>injection e|e e=>injection e|f e=>exact .inl (Ro.c.inj e).2|g e=>exact .inr (Ro.c.inj e).2|h e=>injection e|i e=>injection e|j e=>injection e
def HM(a:TD h x y B (.g h i)):i=x.id:=by cases a with|b e=>injection e|c e=>injection e|a b c e q=>injection q|d e=>injection e|e e=>injection e|f e=>injection e|g e=>injection e|h e=>injection e|i e=>exact(Ro.g.inj e).2|j e=>injection e
def HN(a:TD h x y B (.h h i)):i=x.id:=by cases a with|b e=>injection e|c e=>injection e|a b c e q=>injection q|d e=>injection e|e e=>injection e|f e=>injection e|g e=>injection e|h e=>injection e|i e=>injection e|j e=>exact(Ro.h.inj e).2
def abF(a:TD h x y B (.an h)):False:=by cases a with|b e=>injection e|c e=>injection e|a b c e q=>injection q|d e=>injection e|e e=>injection e|f e=>injection e|g e=>injection e|h e=>injection e|i e=>injection e|j e=>injection e
def abI(a:TD h x y B (.f)):False:=by cases a with|b e=>injection e|c e=>injection e|a b c e q=>injection q|d e=>injection e|e e=>injection e|f e=>injection e|g e=>injection e|h e=>injection e|i e=>injection e|j e=>injection e
structure xw(W:Hd)(P:List Ds)(a x:Ds)(B:List Ds):Prop where
 aY:W.hd::W.sn=P++a::x::B
def HB{W:Hd}{P R:List Ds}{b q:Ds}(f:W.hd::W.sn=P++b::R)(m:q∈W.hd::W.sn)(c:∀p∈P,p.id≠q.id)(d:b.id≠q.id):q∈W.sn:=by
 rcases gX.mp m with rfl|m
 .exfalso;induction P using jg with|nil=>rw[pT]at f;injection f with a _;exact d (lE a rfl)|cons p P=>injection f with a _;exact c p ge (lE a rfl)
 .exact m
def J6{l P R:List h}(f:a::l=P++y::R):a=y\/a∈P:=by induction P using jg with|nil=>injection f with b _;exact .inl b|cons p P=>injection f with b _;exact lE b<|.inr ge
def Oe(h:∀a b,B=a::b->k≠a.ak):k≠oI B\/oI B=0:=by induction B using jg with|nil=>exact .inr rfl|cons a b=>exact .inl (h a b rfl)
def o8(T:St b s ts y)(A:oX s own h t W)(C:xw W P z x B):∃a1 l j,Ft s (x.ax W.an z.ak B) (z.ax W.an (pQ 0 P) (x::B)) a1 l x.ak x.ag z.ag j (qI B) W.y W.hd.au (oJ W.sn) x.name/\∀w H,B=w::H->a1=w.ax W.an x.ak H:=by
 revert b ts y t T A C;revert s own h W P z x B;refine @(lx E1 ?_);generalize gw.1.1.1=s,gw.1.1.2=own,gw.1.2.1=h,gw.1.2.2=W,gw.2.1.1=P,gw.2.1.2=z,gw.2.2.1=x,gw.2.2.2=B;intro b ts y t T A C;have I:=Af A;have c:=A.aJ;have a2:∀{x z:Ds},x∈W.hd::W.sn->z∈W.hd::W.sn->x.ak=z.ak->x=z:=λa6 a7 e=>Hc c I a6 a7 e;rw[C.aY]at I c a2;have a8:=La c;refine iT a8 ?_;intro g i J;have O:((z::x::B).map Ds.id).Nodup:=by rw[kT]at I;exact(nQ.mp I).2.1
 rw[iZ,jk,iZ,jk]at O;have Q:z.id≠x.id:=λe=>O.1 (by refine lE e<|.head _);have E:∀p∈P,∀q∈z::x::B,p.id≠q.id:=λp K q a9=>by rw[kT,nQ]at I;exact I.2.2 _ (i_ K) _ (i_ a9)
 have a3:=HB C.aY (by refine lE C.aY ?_;simp) (λp K=>E p K x gZ) Q;have V:=A.bT x a3;refine jZ (i.two V) λb0 L b1 M=>?_;have D:∀{p q:Ds} {n n' r G},ny s own h W.an n p r->ny s own h W.an n' q G->p.id≠q.id->p.ak≠q.ak:=λa c e=>nH a.aV c.aV λd=>e (Ro.b.inj d).2;have R:∀{p q:Ds} {n n' r G},ny s own h W.an n p r->ny s own h W.an n' q G->p.id≠q.id->p.ag.z≠q.ag.z:=λa c e=>nH a.aN c.aN λd=>e (Ro.a.inj d).2;have X:∀{p q:Ds} {n n' r G},ny s own h W.an n p r->ny s own h W.an n' q G->p.id≠q.id->∀u∈p.ag.ks,u.2∉q.ag.ks.map (·.2):=λ{p q} _ _ _ _ a c e u b2 m=>by refine mE m λv b3 b4=>?_;have a4:=a.ownp u b2;rw[<-b4,c.ownp v b3]at a4;exact R a c e (Ro.c.inj a4).2.symm
 have b5:own x.av≠own x.holds:=by refine lE L (lE M ?_);intro d;cases d
 have Y:∃(l:hY) (j:iN),z.bn=1->pQ 0 P≠x.ak/\pQ 0 P≠z.ak/\(pQ 0 P≠oI B\/oI B=0)/\s.ac (pQ 0 P)=fR (iK l)/\l.ok/\l.ag=j.z/\jG s j/\j.z≠x.ag.z/\j.z≠z.ag.z/\j.z≠W.hd.au/\j.z≠x.av/\j.z≠x.holds/\(∀q∈j.ks,q.2∉x.ag.ks.map (·.2))/\∀q∈j.ks,q.2∉z.ag.ks.map (·.2):=by
  by_cases e:P=[]
  .refine qA (x.ax W.an z.ak B) x.ag (λa5=>?_);have f:=C.aY;rw[e,pT]at f;injection f with b6 _
   rw[<-b6,A.bH]at a5;cases a5
  .obtain⟨p,a0,S,n',G,o⟩:=χ c e;have F:=E p a0 x gZ;have N:=E p a0 z ge;refine qA (p.ax W.an n' G) p.ag (λZ=>⟨?_,?_,?_,?_,o.bo,rfl,o.ag,R o i F,R o g N,nH o.aN A.br (by intro d;cases d),nH o.aN L (by intro d;cases d),nH o.aN M (by intro d;cases d),X o i F,X o g N⟩);exact lE S<|D o i F;exact lE S<|D o g N
   .exact Oe λw H e=>by obtain rfl:=e.symm;exact lE S<|D o J.1 (E p a0 w (by simp))
   .exact lE S<|o.ac
 refine kS Y ?_;intro l j Y;refine vx (aci x W.an z.ak B) l j ?_ (λw H e=>by subst e;rfl);exact{
  b:=i.ac,bV:=i.bo,g:=V,h:=V,i:=rfl,xD:=i.ag,cz:=b0,e:=b1
  c:=g.ac,cM:=g.bo,dk:=rfl,a:=g.ag,yu:=⟨rfl,rfl⟩
  np:=⟨by have:=g.pos;exact(ma this),D g i Q⟩
  dJ:=rfl
  wn:=λe=>by have e:=e;induction B using jg with|nil=>exact absurd rfl e|cons w H=>have F:w.id≠z.id:=λd=>O.1 (by refine rE d<|qp _ (i_ (rY ..)));exact Gx (D J.1 i (λd=>O.2.1 (by refine rE d<|i_ (rY ..)))) (D J.1 g F) J.1.ac J.1.bo rfl (A.bT w (HB C.aY (by refine lE C.aY ?_;simp) (λp K=>E p K w (by simp)) (λd=>F d.symm))) rfl rfl
  ln:=Y
  f:=MF (R i g Q.symm) (nH i.aN A.br (by intro d;cases d)) (nH g.aN A.br (by intro d;cases d)) (λe=>b5 (congrArg own e)) (nH L i.aN (by intro d;cases d)) (nH L g.aN (by intro d;cases d)) (nH L A.br (by intro d;cases d)) (nH M i.aN (by intro d;cases d)) (nH M g.aN (by intro d;cases d)) (nH M A.br (by intro d;cases d))
  ps:=X i g Q.symm
  d:=A.dn,ca:=A.ca,k:=A.d0
  j:=by
   refine lE A.dN ?_;rcases J6 C.aY with e|m
   .exact .inl ⟨by exact lE e rfl,lE e rfl⟩
   .have F:=E _ m x gZ;have N:=E _ m z ge;exact .inr ⟨D A.aJ.1 i F,D A.aJ.1 g N,Oe λw H e=>by subst e;exact D A.aJ.1 J.1 (E _ m w (by simp)),_,A.aJ.1.ac,A.aJ.1.bo,rfl⟩
  sz:=A.sz
  dq:=U6 (T.ch A.sz).1 (Hs.mpr (iU x a3 rfl rfl))
  bd:=λk b7=>by refine jy (Hs.mp (tr b7)) λc1 b8 b9 c0=>?_;have:=a2 (by refine rE C.aY<|.tail _ b8) (by simp) c0;exact rE b9 (lE this rfl)}
noncomputable def Hd.cut(W:Hd)(P:List Ds)(a:Ds)(B:List Ds)(D':iN):Hd:=match P with|[]=>{W with hd:={a with ag:=D'},sn:=B}|p::b=>{W with hd:=p,sn:=b++{a with ag:=D'}::B}
def FZ(W:Hd)(P:List Ds)(a:Ds)(B:List Ds)(D':iN):(W.cut P a B D').hd::(W.cut P a B D').sn=P++{a with ag:=D'}::B:=by induction P<;>rfl
def OP:∀(A B:List Ds),oh (A++B)=oh A+oh B:=by intro a;induction a with|nil=>exact λB=>(Jk _).symm|cons x A b=>refine λB=>(?_:1+x.ag.ks.length+oh (A++B)=1+x.ag.ks.length+oh A+oh B);exact lE (b B)<|by simp+arith
def Oo(a:((oJ (A++x::B)).map (·.1)).Nodup):jU (oJ (A++x::B)) x.name=oJ (A++B):=by
 unfold oJ at*;unfold jU;refine lE List.filter_reverse ?_;congr 1;rw[QT,(QX _).nodup_iff,kR]at a;rw[kT,nQ,iZ,jk]at a;refine iT a ?_;intro _ f g;refine gP f ?_;intro h _;refine lE kT ?_;rw[QO];refine lE iZ (lE yM (lE (if_neg (by simp)) (lE kT ?_)));congr 1;refine Bq.mpr λq b=>mE b λc d i=>?_;obtain rfl:=i;have:=g _ (i_ d) _ (rY ..);simpa using this;refine Bq.mpr λq b=>mE b λc d j=>?_;obtain rfl:=j;have:c.name≠x.name:=λe=>h (yP.mpr (gx c d e));simpa using this
def m7{T:hY}(K:St b s ts y)(A:oX s own h t W)(M:xw W P z x B)(a2:∀j l,B=j::l->T=j.ax W.an x.ak l)(k:BX s s' (x.ax W.an z.ak B) (z.ax W.an (pQ 0 P) (x::B)) T x.ak x.ag z.ag L (qI B) W.hd.au (oJ W.sn) x.name):pE s s' own own (TD h x z B)/\oX s' own h t (W.cut P z B L):=by
 revert b ts y K A M a2 k;revert s own h t W P z x B s' L T;refine @(vO E1 ?_);generalize hG.1.1.1.1=s,hG.1.1.1.2=own,hG.1.1.2=h,hG.1.2.1.1=t,hG.1.2.1.2=W,hG.1.2.2=P,hG.2.1.1.1=z,hG.2.1.1.2=x,hG.2.1.2=B,hG.2.2.1.1=s',hG.2.2.1.2=L,hG.2.2.2=T;intro b ts y K A M a2 k;have H:=K.bB;have R:=Af A;have c:=A.aJ;rw[M.aY]at R c;refine iT (La c) λw N C=>?_;have G:((z::x::B).map Ds.id).Nodup:=by rw[kT]at R;exact(nQ.mp R).2.1
 rw[iZ,jk,iZ,jk]at G;have a3:z.id≠x.id:=λe=>G.1 (by refine lE e<|.head _);have V:∀p∈P,∀q∈z::x::B,p.id≠q.id:=λp I q i=>by rw[kT,nQ]at R;exact R.2.2 _ (i_ I) _ (i_ i)
 refine jZ (N.two (A.bT x (HB M.aY (by refine lE M.aY ?_;simp) (λp I=>V p I x gZ) a3))) λd3 c1 d4 c2=>?_;have c3:∀{q:Int},q∈x.ag.ks.map (·.2)->own q=.c h x.ag.z:=λm=>mE m λu O e=>rE e<|N.ownp u O;have c4:∀{q:Int},q∈z.ag.ks.map (·.2)->own q=.c h z.ag.z:=λm=>mE m λu O e=>rE e<|w.ownp u O;have F:pE s s' own own (TD h x z B):=by
  refine⟨gC k.aa.symm,λq i D=>iy (k.bg q (λe=>D (.b (e▸N.aV))) (λe=>D (.c (e▸w.aV))) ?_ (λm=>D (.f (c3 m))) (λm=>D (.g (c4 m)))) ?_ rfl⟩
  .generalize E:B=a4;induction a4 with|nil=>exact .inr rfl|cons j l=>refine .inl λe=>D (.a j l E ?_);rw[E]at C;exact lE e<|C.1.aV
  .exact k.zaps q (λe=>D (.h (e▸A.br))) (λe=>D (.d (e▸N.aN))) (λe=>D (.e (e▸w.aN))) (λe=>D (.i (e▸c1))) (λe=>D (.j (e▸c2)))
 refine⟨F,?_⟩;have X:∀{p q:Ds} {n n' r S},ny s own h W.an n p r->ny s own h W.an n' q S->p.id≠q.id->p.ag.z≠q.ag.z:=λa c e=>nH a.aN c.aN λd=>e (Ro.a.inj d).2;have b1:∀{p:Ds} {n S},ny s own h W.an n p S->p.id≠x.id->p.id≠z.id->(∀j l,B=j::l->p.id≠j.id)->BW (TD h x z B) h p:=λ{p} _ _ Y J a5 c5=>su (λd=>(abJ d).elim J λd=>d.elim a5 λ⟨j,l,e,q⟩=>c5 j l e q) (λd=>(Ps d).elim J a5) (λd=>(Pt d).elim (X Y N J) (X Y w a5)) (λd=>J (HM d)) (λd=>J (HN d));have c6:∀q∈L.ks,q∈z.ag.ks:=λq i=>by rw[k.ks]at i;exact(wD.mp i).1
 have c7:mH s' own h W.an z.ak B:=by
  generalize E:B=a4;induction a4 with|nil=>trivial|cons j l=>
   revert K H tail_ih E;revert b ts y j l;refine @(qJ E1 ?_);generalize iz.1.1.1=b,iz.1.1.2=ts,iz.1.2=y,iz.2.1=j,iz.2.2=l;intro K H tail_ih E;rw[E]at C G;rw[iZ,jk]at G;have a0:j.id≠x.id:=λd=>G.2.1 (by refine rE d<|.head _);have J:j.id≠z.id:=λd=>G.1 (by refine rE d<|.tail _ ge);have a6:=k.ah (by refine lE E ?_;have:=C.1.pos;exact ma this);rw[a2 j l E,show(x.ax W.an z.ak B).ah=j.ak by refine lE E ?_;rfl]at a6;refine⟨C.1.turn H F a6.1 a6.2 C.1.aV (kg (λd=>(Ps d).elim a0 J) (λd=>(Pt d).elim (X C.1 N a0) (X C.1 w J)) (λd=>a0 (HM d)) (λd=>a0 (HN d))),C.2.frame H F λu O=>?_⟩;refine kS (C.2.mem O) λn' S c8=>?_;have a7:=i_ (f:=Ds.id) O;refine b1 c8 (λd=>G.2.1 (by refine rE d ?_;exact .tail _ a7)) (λd=>G.1 (by refine rE d<|.tail _ (.tail _ a7))) λd5 d6 e d=>?_;rw[E]at e;cases e;exact G.2.2.1 (by refine rE d<|a7)
 have c9:ny s' own h W.an (pQ 0 P) {z with ag:=L} B:={
  ac:=by
   have e:(z.ax W.an (pQ 0 P) (x::B)).ay (x.ax W.an z.ak B)=({z with ag:=L}:Ds).ax W.an (pQ 0 P) B:=by unfold hY.ay Ds.ax;exact rE k.z rfl
   exact rE e<|k.ay.1
  bo:=by
   have e:(z.ax W.an (pQ 0 P) (x::B)).ay (x.ax W.an z.ak B)=({z with ag:=L}:Ds).ax W.an (pQ 0 P) B:=by unfold hY.ay Ds.ax;exact rE k.z rfl
   exact rE e<|k.ay.2
  pos:=w.pos
  aV:=w.aV
  ag:=k.ok
  aN:=by exact lE k.z<|w.aN
  ownp:=λq i=>by exact lE k.z<|w.ownp q (c6 q i)
  two:=λd1=>by refine jZ (w.two d1) λb2 b3 b4 b5=>?_;have g:=F.2 _ (H.2 _ _ b2) (by refine lE b3<|λd=>a3 (HM d));exact(kg (g.2.1.trans b2) b3 ((F.2 _ (H.2 _ _ b4) (by refine lE b5<|λd=>a3 (HN d))).2.1.trans b4) b5)}
 have b6:mH s' own h W.an 0 (P++{z with ag:=L}::B):=YC H F c (λp I=>by refine kS (c.mem (qT _ I)) λn' S Y=>b1 Y (V p I x (by simp)) (V p I z (by simp)) λj l e=>V p I j (by refine lE e ?_;simp)) rfl rfl ⟨c9,c7⟩
 have b7:=F.2 _ (H.1 _ _ A.dn) (by refine lE A.bW<|abF);have a8:=(K.ch A.sz).1;have f:=M.aY;have kl:∀q∈P++{z with ag:=L}::B,q.ag.ks.length<=t:=λq i=>by
  rcases mU.mp i with m|m
  .exact A.kl q (by refine lE f<|qT _ m)
  .rcases gX.mp m with rfl|m
   .refine gu ?_ (A.kl z (by refine lE f ?_;simp));exact lE k.ks<|wz _ _
   .exact A.kl q (by refine lE f ?_;simp[m])
 induction P with
 |nil=>
  rw[pT]at f;injection f with v o
  have ord:=A.ord;rw[o,iZ,qr]at ord;exact{
   kE:=by have:=A.kE;rw[v]at this;exact this
   dn:=b7.1.trans A.dn,bW:=A.bW,ca:=A.ca,d0:=A.d0
   dN:=by have:=A.dN;rw[v]at this;exact this
   aJ:=b6
   bH:=by have:=A.bH;rw[v]at this;exact this
   bT:=λq i=>A.bT q (by refine lE o<|.tail _ i)
   ord:=ord.2
   m2:=λq i=>A.m2 q (by refine lE o<|.tail _ i)
   hm:=by have:=A.hm;rw[v]at this;exact this
   kl:=kl
   sz:=by
    have:=k.dl;rw[v,o]at this;rw[o]at a8;exact this.trans (congrArg fR (Oo (A:=[]) a8))
   br:=by have:=A.br;rw[v]at this;exact this}
 |cons p a1=>
  injection f with v o
  have o:=o;have d2:∀{g:Ds->Nat} (b8:g {z with ag:=L}=g z),((a1++{z with ag:=L}::B).map g).Sublist (W.sn.map g):=λ{g} b8=>by refine lE o (lE kT (lE iZ (lE kT (lE iZ (lE iZ (lE b8 ?_))))));exact(QI _).append (.cons_cons _ hW)
  have b9:∀q∈a1++{z with ag:=L}::B,∃Q∈W.sn,q.bn=Q.bn/\q.made=Q.made:=λq i=>by
   rcases mU.mp i with m|m
   .exact iU q (by refine lE o<|qT _ m) rfl rfl
   .rcases gX.mp m with rfl|m
    .exact iU z (by refine lE o ?_;simp) rfl rfl
    .exact iU q (by refine lE o ?_;simp[m]) rfl rfl
  exact{
   kE:=by have:=A.kE;rw[v]at this;exact this
   dn:=b7.1.trans A.dn,bW:=A.bW,ca:=A.ca,d0:=A.d0
   dN:=by have:=A.dN;rw[v]at this;exact this
   aJ:=b6
   bH:=by have:=A.bH;rw[v]at this;exact this
   bT:=λq i=>jy (b9 q i) λQ a9 b0 Z=>lE b0<|A.bT Q a9
   ord:=A.ord.sublist (d2 rfl)
   m2:=λq i=>jy (b9 q i) λQ a9 Z b0=>lE b0<|A.m2 Q a9
   hm:=by have:=A.hm;rw[v]at this;exact this
   kl:=kl
   sz:=by
    refine(?_:s'.ae p.au=fR (oJ (a1++{z with ag:=L}::B)));have:=k.dl;have c0:W.sn=(a1++[z])++x::B:=by refine lE o ?_;simp
    rw[v,c0,Oo (by refine rE c0<|a8)]at this;refine lE this ?_;unfold oJ;simp
   br:=by have:=A.br;rw[v]at this;exact this}
def Hh(h:Nat)(r:Ro):Prop:=(r=.an h\/r=.i h\/(∃i,r=.b h i\/r=.a h i\/r=.g h i\/r=.h h i)\/∃a,r=.c h a)\/r=.d h\/∃x,r=.e h x
def NT(a:Hh h r):CO r=fR h:=by rcases a with(rfl|rfl|⟨i,rfl|rfl|rfl|rfl⟩|⟨a,rfl⟩)|rfl|⟨a,rfl⟩<;>rfl
def abG(a:TD h x y B r):CO r=fR h:=by cases a with|a _ _ _ e=>exact lE e rfl|_ e=>exact lE e rfl
noncomputable def XO:Ro->Bool|.j|.f|.d _|.e _ _|.an _=>fW|_=>fY
def abH(m:XO r=fW)(a:TD h x y B r):False:=by cases a with|a _ _ _ e=>rw[e]at m;injection m|_ e=>rw[e]at m;injection m
noncomputable def KU:Ro->Bool|.f|.d _|.e _ _=>fW|_=>fY
def Nm(e:List (f_×Int))(k q:f_):(jU e k).lookup q=if q=k then fU else e.lookup q:=by
 have h:=CF (zV e) k q;rw[Gc,uj,uj]at h;have b:∀{a c:Option Int},a.map V.a=c.map V.a->a=c:=λ{a c} h=>by induction a<;>induction c<;>first|rfl|(cases h;done)|(injection h with h;injection h with h;exact lE h rfl)
 refine b (h.trans ?_);split<;>rfl
def iO.turn(a:Bool)(j:ub s)(b:iO s own L t W)(F:pE s s' own y T)(k:∀r c,c≠a->Hh (hi c) r->¬T r)(l:oX s' y (hi a) t' h)(m:zk s' y (hi a) z h)(f:h.k=(W a).k)(n:s'.ae 1=fR z)(o:y 1=.f)(p:∀c,c≠a->z.lookup (jX (W c).k)=L.lookup (jX (W c).k))(q:∃r d,z=(fZ "root",r)::d/\∀x∈d,∃c,x.1=jX (W c).k)(cz:s'.nz+(W a).cz=s.nz+h.cz)(cn:s'.nn+(W a).cn=s.nn+h.cn)(u:s'.aa<=100+100*t')(g:t<=t'/\t'<=20):iO s' y z t' (jP W a h) where
 names:=n
 bh:=o
 A:=λc=>by
  by_cases e:c=a;subst e;exact lE jS<|l;exact lE (km e)<|(b.A c).frame j F (λr i=>k r c e (.inl i)) g.1
 M:=λc=>by
  by_cases e:c=a;subst e;exact lE jS<|m;exact lE (km e)<|(b.M c).frame j F (λr i=>k r c e (.inr i)) (p c e)
 cG:=by
  have:∀c,(jP W a h c).k=(W c).k:=λc=>by
   by_cases e:c=a;subst e;exact lE jS<|f;exact lE (km e) rfl
  rw[this,this];exact b.cG
 bM:=by
  refine jR q ?_;intro r d e v;refine nF r d e (λx w=>?_);refine gI (v x w) λc B=>⟨c,B.trans ?_⟩;by_cases e:c=a;subst e;exact lE jS (lE f rfl);exact lE (km e) rfl
 nroot:=λc=>by
  by_cases e:c=a;subst e;exact lE jS (lE f (b.nroot c));exact lE (km e)<|b.nroot c
 cz:=by
  have:=b.cz;cases a;exact lE jS (lE (km gO) (rB this cz));exact lE jS (lE (km gO) (rB this cz))
 cn:=by
  have:=b.cn;cases a;exact lE jS (lE (km gO) (rB this cn));exact lE jS (lE (km gO) (rB this cn))
 aa:=u
 t9:=⟨gu b.t9.1 g.1,g.2⟩
def iO.ay(a:iO s own h t W)(b:t<=t'/\t'<=20):iO s own h t' W:={a with A:=λc=>{a.A c with m2:=λx d=>⟨((a.A c).m2 x d).1,pU ((a.A c).m2 x d).2 b.1⟩,kl:=λx d=>gu ((a.A c).kl x d) b.1},aa:=by have:=a.aa;lia,t9:=⟨gu a.t9.1 b.1,b.2⟩}
def o9{k:hY}(a:Bool)(l:St b s ts y)(d:iO s own L t W)(m:xw (W a) P h x B)(o:∀w A,B=w::A->k=w.ax (W a).an x.ak A)(g:BX s s' (x.ax (W a).an h.ak B) (h.ax (W a).an (pQ 0 P) (x::B)) k x.ak x.ag h.ag z (qI B) (W a).hd.au (oJ (W a).sn) x.name):iO s' own L t (jP W a ((W a).cut P h B z)):=by
 revert b ts y L t k l d m o g;revert s own W P h x B s' z a;refine @(qj E1 ?_);generalize gN.1.1.1.1=s,gN.1.1.1.2=own,gN.1.1.2=W,gN.1.2.1=P,gN.1.2.2=h,gN.2.1.1.1=x,gN.2.1.1.2=B,gN.2.1.2=s',gN.2.2.1=z,gN.2.2.2=a;intro b ts y L t k l d m o g;have p:=l.bB;refine gP (m7 l (d.A a) m o g) λF C=>?_;have n:((W a).cut P h B z).k=(W a).k:=by induction P<;>rfl
 have i:((W a).cut P h B z).aI=(W a).aI:=by induction P<;>rfl
 have f:=m.aY;have J:(W a).sn.length=P.length+B.length+1:=by have:=congrArg rW f;simp at this;exact yU this
 have K:((W a).cut P h B z).sn.length=P.length+B.length:=by have:=congrArg rW (FZ (W a) P h B z);simp at this;exact yU this
 have D:1+(W a).hd.ag.ks.length+oh (W a).sn=oh P+(1+h.ag.ks.length+(1+x.ag.ks.length+oh B)):=by
  have:=congrArg oh f;rw[OP]at this;exact this
 have E:1+((W a).cut P h B z).hd.ag.ks.length+oh ((W a).cut P h B z).sn=oh P+(1+z.ks.length+oh B):=by
  have:=congrArg oh (FZ (W a) P h B z);rw[OP]at this;exact this
 have G:=F.2 1 (p.2 _ _ d.names) (by refine lE d.bh<|abI);have j:=(d.M a).frame p F (by rintro r (rfl|⟨u,rfl⟩)<;>exact abH rfl) rfl
 refine d.turn a p F (λr c e H=>?_) C ?_ n (G.2.1.trans d.names) d.bh (λZ Z=>rfl) d.bM ?_ ?_ (by refine lE g.aa ?_;exact d.aa) ⟨ij _,d.t9.2⟩;exact λI=>(λc=>Aa) c e (gz ((NT H).symm.trans (abG I)));exact⟨n▸j.k9,n▸j.len,by refine lE n (lE i ?_);exact j.key,λq v e=>j.ae q v (i▸e),λq v e=>j.row q v (i▸e)⟩;have:=g.a;unfold Hd.cz;refine lE i ?_;lia;have:=g.nn;unfold Hd.cn;exact lE i<|Tk D E.symm this
noncomputable def Hd.ao(W:Hd)(m:Option (Int×List MR)):Hd:={W with aI:=m}
def Dd(A:oX s own h t W):oX s own h t (W.ao m):=⟨A.kE,A.dn,A.bW,A.ca,A.d0,A.dN,A.aJ,A.bH,A.bT,A.ord,A.m2,A.hm,A.kl,A.sz,A.br⟩
def Oq{a:List MR}:jU (a.map MR.row) nm=(a.filter λr=>!decide (r.name=nm)).map MR.row:=by unfold jU;exact lE yN rfl
def BV{T:Ro->Prop}(c:∀r,T r->r=.f\/r=.d h\/∃x,r=.e h x):∀r,(r=.an h\/r=.i h\/(∃i,r=.b h i\/r=.a h i\/r=.g h i\/r=.h h i)\/∃a,r=.c h a)->¬T r:=by
 intro r d e;have f:KU r=fW:=by rcases c r e with rfl|rfl|⟨u,rfl⟩<;>rfl
 have b:KU r=fY:=by rcases d with rfl|rfl|⟨i,rfl|rfl|rfl|rfl⟩|⟨a,rfl⟩<;>rfl
 rw[f]at b;injection b
def Dp{T:Ro->Prop}(d:∀r,T r->r=.f\/r=.d (hi a)\/∃x,r=.e (hi a) x):∀r c,c≠a->Hh (hi c) r->¬T r:=by
 intro r c e f g;have b:=NT f;rcases d r g with rfl|rfl|⟨u,rfl⟩
 .injection b
 .exact Aa e (gz b).symm
 .exact Aa e (gz b).symm
def ll(nm:f_):Prop:=nm="m"\/nm="n"\/nm="o"
def V4(a:Bool)(n:St b s ts y)(d:iO s own h t W)(j:(W a).aI=fU)(o:ll nm)(p:hO g)(u:m<1000)(v:t+1<=20):∃k,iO (s.bQ (W a).k h nm g m) k (h++[(jX (W a).k,(s.aa+1:Int))]) (t+1) (jP W a ((W a).ao (fR ((s.aa+1:Int),[⟨nm,(s.aa+2:Int),g,m⟩])))):=by
 revert b ts y own h t n d j o p u v;revert s W nm g m a;refine @(nI E1 ?_);generalize gT.1.1.1=s,gT.1.1.2=W,gT.1.2=nm,gT.2.1.1=g,gT.2.1.2=m,gT.2.2=a;intro b ts y own h t n d j o p u v;have w:=n.bB;have A:=w.2 _ _ d.names;let k:pF:=λq=>if q=(s.aa+1:Int)then .d (hi a)else if q=(s.aa+2:Int)then .e (hi a) nm else own q
 have B:∀q:Int,q<=s.aa->k q=own q:=λq f=>by show(if _ then _ else if _ then _ else _)=_;exact lE (if_neg (kY (oo f))) (lE (if_neg (I1 f)) rfl)
 have C:∀q:Int,(s.bQ (W a).k h nm g m).ac q=if q=(s.aa+2:Int)then fR (Rw [g,(m:Int)])else s.ac q:=λq=>by exact lE (show((s.aa+1:Nat):Int)+1=(s.aa+2:Int)from rfl) rfl
 have z:∀q:Int,(s.bQ (W a).k h nm g m).ae q=if q=(s.aa+1:Int)then fR [(nm,(s.aa+2:Int))]else if q=1 then fR (h++[(jX (W a).k,(s.aa+1:Int))])else s.ae q:=λq=>by
  refine(?_:(if q=(s.aa+1:Int)then _ else if q=1 then _ else if q=(s.aa+1:Int)then fR []else s.ae q)=_);split;rfl
  .rename_i e;split;rfl
   .first|rfl|exact if_neg e
 have F:pE s (s.bQ (W a).k h nm g m) own k (λr=>r=.f):=by
  refine⟨by refine(?_:s.aa<=s.aa+1+1);exact(by simp+arith),λq f l=>iy ?_ ?_ (B q f)⟩;rw[C];exact lE (if_neg (I1 f)) rfl;rw[z,if_neg (kY (oo f)),if_neg λ(e:q=1)=>l (by refine lE e<|d.bh)]
 have l:∀r:Ro,r=.f->r=.f\/r=.d (hi a)\/∃x,r=.e (hi a) x:=λr e=>.inl e;have E:h.lookup (jX (W a).k)=fU:=lE ((d.M a).key) (lE j rfl);refine⟨k,d.turn a w F (Dp l) (Dd ((d.A a).frame w F (BV l) (jA _))) ?_ rfl ?_ ((B 1 A).trans d.bh) (λc e=>?_) ?_ ?_ ?_ ?_ ⟨jA _,v⟩⟩
 .refine⟨(d.M a).k9,(d.M a).len,?_,λG H e=>?_,λG H e r D=>?_⟩;refine(?_:(h++_).lookup (jX (W a).k)=fR _);refine lE Br (lE E (lE jn ?_));rw[beq_self_eq_true];rfl;cases e;exact⟨by rw[z];exact lE (if_pos rfl) rfl,if_pos rfl⟩;cases e;rw[js]at D;subst D;exact su (by rw[C];exact lE (if_pos rfl) rfl) (by refine(?_:(if(s.aa+2:Int)=(s.aa+1:Int)then _ else if(s.aa+2:Int)=(s.aa+2:Int)then _ else _)=_);exact lE (if_neg (by exact ma (qm _))) (lE (if_pos rfl) rfl)) p u o
 .rw[z];exact lE (if_neg (kY (oo A))) (lE (if_pos rfl) rfl)
 .refine lE Br ?_;have I:jX (W c).k≠jX (W a).k:=by
   have:=d.cG;induction a<;>induction c<;>first|exact absurd rfl e|exact this|exact this.symm
  have:(jX (W c).k==jX (W a).k)=fY:=by simpa using I
  refine lE jn (lE this ?_);cases h.lookup (jX (W c).k)<;>rfl
 .refine jR d.bM λr J e K=>nF r (J++[(jX (W a).k,(s.aa+1:Int))]) (by refine lE e ?_;rfl) (λx i=>?_);rcases mU.mp i with i|i
  .exact K x i
  .rw[js]at i;subst i;exact⟨a,rfl⟩
 .unfold Hd.cz Hd.ao;refine lE j ?_;simp[Di];exact Rc _ _ _
 .unfold Hd.cn Hd.ao;refine lE j ?_;simp[ur];exact Rc _ _ _
 .refine(?_:s.aa+1+1<=_);have:=d.aa;exact iX this
def V5(a:Bool)(p:St b s ts y)(d:iO s own L t W)(f:(W a).aI=fR (z,h))(u:ll nm)(v:hO g)(w:m<1000)(A:t+1<=20):∃j,iO (s.bR z (h.map MR.row) nm g m) j L (t+1) (jP W a ((W a).ao (fR (z,h++[⟨nm,(s.aa+1:Int),g,m⟩])))):=by
 revert b ts y own L t p d f u v w A;revert s W z h nm g m a;refine @(lx E1 ?_);generalize gw.1.1.1=s,gw.1.1.2=W,gw.1.2.1=z,gw.1.2.2=h,gw.2.1.1=nm,gw.2.1.2=g,gw.2.2.1=m,gw.2.2.2=a;intro b ts y own L t p d f u v w A;have k:=p.bB;refine gP ((d.M a).ae z h f) λG B=>?_;let j:pF:=λq=>if q=(s.aa+1:Int)then .e (hi a) nm else own q
 have l:∀q:Int,q<=s.aa->j q=own q:=λq n=>by show(if _ then _ else _)=_;exact lE (if_neg (kY (oo n))) rfl
 have C:∀q:Int,(s.bR z (h.map MR.row) nm g m).ac q=if q=(s.aa+1:Int)then fR (Rw [g,(m:Int)])else s.ac q:=λq=>rfl
 have D:∀q:Int,(s.bR z (h.map MR.row) nm g m).ae q=if q=z then fR (h.map MR.row++[(nm,(s.aa+1:Int))])else s.ae q:=λq=>rfl
 have F:pE s (s.bR z (h.map MR.row) nm g m) own j (λr=>r=.d (hi a)):=by
  refine⟨by exact(jA _),λq n o=>iy ?_ ?_ (l q n)⟩;rw[C];exact lE (if_neg (kY (oo n))) rfl;rw[D,if_neg λ(e:q=z)=>o (by refine lE e<|B)]
 have o:∀r:Ro,r=.d (hi a)->r=.f\/r=.d (hi a)\/∃x,r=.e (hi a) x:=λr e=>.inr (.inl e);refine⟨j,d.turn a k F (Dp o) (Dd ((d.A a).frame k F (BV o) (jA _))) ?_ rfl ?_ ((l 1 (k.2 _ _ d.names)).trans d.bh) (λc e=>rfl) d.bM ?_ ?_ ?_ ⟨jA _,A⟩⟩
 .refine⟨(d.M a).k9,(d.M a).len,(d.M a).key.trans (by refine lE f ?_;rfl),λH I e=>?_,λH I e r i=>?_⟩;cases e;exact⟨by rw[D];exact lE (if_pos rfl) (lE kT rfl),(l z (k.2 _ _ G)).trans B⟩
  .cases e;rcases mU.mp i with i|i
   .refine iT ((d.M a).row z h f r i) λE J K=>?_;have:=k.1 _ _ E;exact iy (by rw[C];refine lE (if_neg (kY (oo this)))<|E) ((l _ this).trans J) K
   .rw[js]at i;subst i;exact su (by rw[C];exact lE (if_pos rfl) rfl) (if_pos rfl) v w u
 .rw[D];exact lE (if_neg (nH d.bh B (by intro z;injection z)))<|d.names
 .unfold Hd.cz Hd.ao;exact lE f rfl
 .unfold Hd.cn Hd.ao;refine lE f ?_;simp[ur];exact Rc _ _ _
 .refine(?_:s.aa+1<=_);have:=d.aa;exact iX this
def ac6(a:Bool)(g:St b s ts y)(d:iO s own L t W)(f:(W a).aI=fR (z,h))(j:(h.map MR.row).lookup nm=fR n):iO ((s.bf n).aF z (jU (h.map MR.row) nm)) own L t (jP W a ((W a).ao (fR (z,h.filter λr=>!decide (r.name=nm))))):=by
 revert b ts y L t g d f j;revert s own W z h nm n a;refine @(lx E1 ?_);generalize gw.1.1.1=s,gw.1.1.2=own,gw.1.2.1=W,gw.1.2.2=z,gw.2.1.1=h,gw.2.1.2=nm,gw.2.2.1=n,gw.2.2.2=a;intro b ts y L t g d f j;have p:=g.bB;refine gP ((d.M a).ae z h f) λB k=>mE (tr j) λl C u=>?_;have D:l.name=nm:=congrArg pV u;have v:l.ac=n:=congrArg wW u;refine iT ((d.M a).row z h f l C) λw m Z=>?_;rw[v]at w;rw[v,D]at m;have F:pE s ((s.bf n).aF z (jU (h.map MR.row) nm)) own own (λr=>r=.d (hi a)\/r=.e (hi a) nm):=by
  refine⟨ij _,λq M i=>iy ?_ ?_ rfl⟩;refine(?_:(if q=n then fU else s.ac q)=_);rw[if_neg λ(e:q=n)=>i (.inr (by refine lE e<|m))];refine(?_:(if q=z then _ else s.ae q)=_);rw[if_neg λ(e:q=z)=>i (.inl (by refine lE e<|k))]
 have i:∀r:Ro,(r=.d (hi a)\/r=.e (hi a) nm)->r=.f\/r=.d (hi a)\/∃x,r=.e (hi a) x:=λr e=>e.elim (λe=>.inr (.inl e)) λe=>.inr (.inr ⟨_,e⟩);have Z8:=g.bC w;have E:=LH ((g.ch B).1) j;rw[Oq,iq,iq]at E;refine d.turn a p F (Dp i) (Dd ((d.A a).frame p F (BV i) (ij _))) ?_ rfl ?_ d.bh (λc e=>rfl) d.bM ?_ ?_ d.aa ⟨ij _,d.t9.2⟩
 .refine⟨(d.M a).k9,(d.M a).len,(d.M a).key.trans (by refine lE f ?_;rfl),λG H e=>?_,λG H e r o=>?_⟩;cases e;exact⟨by refine(?_:(if z=z then _ else _)=_);exact lE (if_pos rfl) (lE Oq rfl),k⟩;cases e;refine gP (wD.mp o) λo I=>iT ((d.M a).row z h f r o) λJ A K=>iy ?_ A K;refine(?_:(if r.ac=n then fU else s.ac r.ac)=_);exact lE (if_neg (nH A m λe=>by simp[(Ro.e.inj e).2]at I))<|J
 .refine(?_:(if(1:Int)=z then _ else s.ae 1)=_);exact lE (if_neg (nH d.bh k (by intro z;injection z)))<|d.names
 .unfold Hd.cz Hd.ao;exact lE f rfl
 .refine(?_:s.nn-1+(W a).cn=s.nn+((W a).ao _).cn);unfold Hd.cn Hd.ao;refine lE f ?_;simp only[ur];lia
def ac7(a:Bool)(k:St b s ts y)(d:iO s own N t W)(g:(W a).aI=fR (z,L))(f:Kp s s' (W a).k N z (L.map MR.row)):iO s' own (jU N (jX (W a).k)) t (jP W a ((W a).ao fU)):=by
 have j:=k.bB;refine gP ((d.M a).ae z L g) λD l=>?_;have F:pE s s' own own (λr=>r=.f\/r=.d (hi a)\/∃x,r=.e (hi a) x):=by refine⟨gC f.aa.symm,λq E i=>iy (f.ac q λm=>?_) (f.ae q (λe=>i (.inl (e▸d.bh))) (λe=>i (.inr (.inl (e▸l))))) rfl⟩;refine mE m λu n e=>mE n λr o p=>?_;have:=((d.M a).row z L g r o).2.1;exact i (.inr (.inr ⟨r.name,by refine rE e (rE p ?_);exact this⟩))
 refine d.turn a j F (Dp λZ h=>h) (Dd ((d.A a).frame j F (BV λZ h=>h) (ij _))) ?_ rfl f.names d.bh (λc e=>?_) ?_ ?_ ?_ (by refine lE f.aa ?_;exact d.aa) ⟨ij _,d.t9.2⟩;refine⟨(d.M a).k9,(d.M a).len,?_,(λv w e=>by injection e),(λv w e=>by injection e)⟩;rw[Nm];exact lE (if_pos rfl) rfl
 .rw[Nm,if_neg];have:=d.cG;induction a<;>induction c<;>first|exact absurd rfl e|exact this|exact this.symm
 .refine jR d.bM λr A e B=>nF r (jU A (jX (W a).k)) ?_ (λx C=>B x (At.mp C).1);refine lE e ?_;unfold jU;refine lE yM ?_;rw[if_pos];simpa using(d.nroot a).symm
 .have:=f.dM;unfold Hd.cz Hd.ao;refine lE g ?_;simp only[Di];exact sT this
 .have:=f.nn;rw[iq]at this;unfold Hd.cn Hd.ao;refine lE g ?_;simp only[ur];exact sT this
structure kN where
 aq:Nat
 a:Bool
 ak:Int
 aw:Int
 made:Nat
 dN:Bool
structure LM where
 aq:Nat
 name:f_
 aw:Int
 made:Nat
structure LS where
 iw:Nat
 ih:Nat
 it:Nat
 aU:Nat
 th:Bool->Nat
 tm:Bool->List LM
 fresh:Bool->Bool
 af:List kN
 fm:List (Nat×O)
def Fz(o:O):Prop:=(∃u v a,o=.a [.a u,.a v,.b a])\/(∃x,o=.a [.d x])\/∃u,∃r:List Int,o=.a (.a u::r.map .a)
noncomputable def LS.key(L:LS):Nat×Nat×List (Nat×O):=(L.iw,L.ih,L.fm)
noncomputable def mD(a:List LM):List (f_×V):=a.map λm=>(m.name,.b m.aq)
def TO(f:Bool)(a:List LM):O:=if f then .d else .b (mD a)
noncomputable def kN.aE(a:Bool->Int)(r:kN):O:=.a [.a (a r.a),.a r.ak,.a r.aw,.a (r.made:Int),.e r.dN]
structure jv(L:LS)(a:Bool->Int)(ts:List (Nat×O)):Prop where
 frm:∀t∈L.fm,t∈ts/\Fz t.2
 w:(L.iw,.b [(fZ "heads",.b L.ih),(fZ "told",.b L.it),(fZ "snaps",.b L.aU)])∈ts
 h:(L.ih,.a [.a (a fY),.a (a fW)])∈ts
 t:(L.it,.a [.b (L.th fY),.b (L.th fW)])∈ts
 s:(L.aU,.a (L.af.map λr=>.b r.aq))∈ts
 th:∀c,(L.th c,TO (L.fresh c) (L.tm c))∈ts
 fr:∀c,L.fresh c=fW->L.tm c=[]
 tm:∀c,∀m∈L.tm c,(m.aq,.c [.a m.aw,.a (m.made:Int)])∈ts
 r:∀r∈L.af,(r.aq,r.aE a)∈ts
 nd:([L.iw,L.ih,L.it,L.aU,L.th fY,L.th fW]++L.af.map (·.aq)).Nodup
def kB.ex(m:(i,o)∈ts):∃Z2,kB i o o' ts Z2/\(i,o')∈Z2/\∀t∈ts,t.1≠i->t∈Z2:=by
 induction ts with|nil=>exact nM m|cons t r a=>
  rcases gX.mp m with e|m
  .exact iU ((i,o')::r) (e▸.dN) ge λu b n=>(gX.mp b).elim (λq=>absurd (congrArg pV (q.trans e.symm)) n) λm=>.tail _ m
  .exact jy (a m) λZ2 u c d=>iU (t::Z2) (.dO u) (.tail _ c) λx f n=>(gX.mp f).elim (λe=>e▸.head _) λm=>.tail _ (d x m n)
def jv.up(l:jv L x ts)(k:∀t∈ts,t∈Z2):jv L x Z2:=⟨λt a=>⟨k _ (l.frm t a).1,(l.frm t a).2⟩,k _ l.w,k _ l.h,k _ l.t,k _ l.s,λc=>k _ (l.th c),l.fr,λc m b=>k _ (l.tm c m b),λr d=>k _ (l.r r d),l.nd⟩
def St.one(h:St b s ts y)(m:(i,o)∈ts)(a:(i,o')∈ts):o=o':=by
 have:=h.get m;rw[h.get a]at this;exact(gz this).symm
def vA(a:St b s ts y)(m:(i,.b h)∈ts)(e:je h k=fR v)(c:Q v y):wp (iG (.b i) (.d k)) Q X y:=fV (iS (a.get m) (kI e c))
def sw{k:Nat}(a:St b s ts y)(m:(i,.a xs)∈ts)(e:xs[k]?=fR v)(f:xs.length<=1000)(c:Q v y):wp (iG (.b i) (.a (k:Int))) Q X y:=by
 have g:=(uL.mp e).1;have d:nv (k:Int) xs.length=fR k:=by unfold nv;exact lE (if_pos (kr _)) (lE (if_pos ⟨by lia,by lia⟩) rfl)
 exact fV (iS (a.get m) (fV (kI d (kI e c))))
def AY(h:0<t/\t<1000)(a:Q (.a (x.fdiv t)) y):wp (hM .FloorDiv (.a x) (.a t)) Q X y:=g_ h (gj a)
def acn(a:Q (decide (x=h)) y):wp (gR .Eq (.d x) (.d h)) Q X y:=⟨a⟩
def Pv{a:List LM}{nm:f_}:(je (mD a) nm).isSome=decide (nm∈a.map (·.name)):=by rw[yI,CG];exact lE decide_eq_true_eq<|lE kR<|Iff.rfl
def GA(c:St b s ts y)(m:(i,TO f h)∈ts)(d:f=fW->h=[])(a:Q (decide (nm∈h.map (·.name))) y):wp (m_ (.d nm) (.b i)) Q X y:=by have g:=c.get m;induction f with|true=>rw[d rfl]at a;exact fV (iS g (gj a))|false=>refine fV (iS g (gj ?_));rw[tc];exact lE Pv<|a
def Q6(n:St b s ts y)(m:(i,TO f t)∈ts)(c:f=fW->t=[])(o:t.length<=100)(p:¬ll nm->∀a,St b s ts a->Q (.d "no name") a)(q:ll nm->nm∈t.map (·.name)->∀a,St b s ts a->Q (.d "exists") a)(r:ll nm->nm∉t.map (·.name)->∀a Z2,kB i (TO f t) (.b (mD t++[(nm,.b v)])) ts Z2->St b s Z2 a->Q (.d "done") a):wp (F (d+1) 796 [.b i,.d nm,.b v]) Q X y:=by
 refine h_ (Uk d _ _ _)<|wO n _ λz A h=>fV<|fV<|fV<|iS (h.get ge)<|fV<|kI (show uA [V.d "m",V.d "n",V.d "o"]=fR [fZ "m","n","o"]from rfl)<|gj<|gj ?_;have h:=h.sub hW;have j:nm∈[fZ "m","n","o"]↔ll nm:=by unfold ll;simp
 by_cases g:ll nm
 .refine jr (by refine lE (decide_eq_true (j.mpr g)) ?_;decide)<|fV<|GA h m c ?_;by_cases e:nm∈t.map (·.name);exact g_ (decide_eq_true e)<|gj<|q g e _ h
  .refine jr (by refine lE decide_eq_true_eq ?_;exact e)<|fV ?_;refine jy (kB.ex (o':=.b (mD t++[(nm,V.b v)])) m) λZ2 u Z Z=>?_;have k:=r g e _ Z2 u (h.put u);have l:=h.get m;induction f with|true=>have w:=c rfl;subst w;exact fV (iS l (ph (gj k)))|false=>refine fV (iS l (g_ (by unfold mD;rw[iq];exact gu o (iP _ _)) (ph (gj ?_))));rw[Ow (by unfold mD;refine lE kR<|e)];exact k
 .exact g_ (lE (decide_eq_false (λx=>g (j.mp x))) rfl)<|gj<|p g _ h
def MY(l:St b s ts y)(g:(i,TO f h)∈ts)(j:f=fW->h=[])(d:(h.map (·.name)).Nodup)(c:m∈h)(k:Q (.b m.aq) y):wp (iG (.b i) (.d m.name)) Q X y:=by
 have e:f=fY:=by induction f with|false=>rfl|true=>rw[j rfl]at c;exact nM c
 subst e;refine vA l g ?_ k;clear j g k;induction h with|nil=>exact nM c|cons a r n=>
  rw[iZ,jk]at d;unfold mD at*;refine lE iZ ?_;rw[pJ];rcases gX.mp c with rfl|c
  .exact lE (if_pos rfl) rfl
  .have o:¬a.name=m.name:=λp=>d.1 (p▸i_ c);exact lE (if_neg o)<|n d.2 c
def Oa(j:St b s ts y)(k:(i,TO f h)∈ts)(o:f=fW->h=[])(p:h.length<=100)(l:nm∉h.map (·.name)->∀a,St b s ts a->Q .c a)(q:nm∈h.map (·.name)->∀v a Z2,kB i (TO f h) (.b (mD (h.filter λm=>!decide (m.name=nm)))) ts Z2->St b s Z2 a->Q v a):wp (fS (lJ (Tt d) (.b i) "pop") λm=>nE (Tt d) m (.b i) "pop" [.d nm,.c]) Q X y:=by
 have g:=j.get k;have r:wp (yg (.b i) [.d nm,.c]) Q X y:=by
  induction f with|true=>have t:=o rfl;subst t;exact fV (iS g (gj (l (by simp) _ j)))|false=>
   have c:=@Pv h nm;refine fV (iS g ?_);refine(?_:wp (match je (mD h) nm with|some x=>(if(mD h).length<=hJ then fS (oG i (.b (nZ (mD h) nm))) λZ=>fX x else gc)|none=>fX .c) Q X y);generalize e:je (mD h) nm=w;induction w with|none=>rw[e]at c;exact gj (l (λz=>by rw[decide_eq_true z]at c;injection c) _ j)|some v=>
    rw[e]at c;refine jy (kB.ex k) λZ2 u Z Z=>g_ (by unfold mD;rw[iq];exact gu p (iP _ _)) (fV (ph (gj (q (of_decide_eq_true c.symm) v _ Z2 u ?_))));have:nZ (mD h) nm=mD (h.filter λm=>!decide (m.name=nm)):=by unfold nZ mD;exact lE yN rfl
    refine lE this<|j.put u
 have n:wp (nE (Tt d) .a (.b i) "pop" [.d nm,.c]) Q X y:=by refine(?_:wp (pf "pop" _ _) _ _ _);exact lE PD<|r
 induction f with|true=>exact fV (fV (iS g (g_ (.inr (.inl rfl)) (gj n))))|false=>exact fV (fV (iS g (g_ (.inr (.inl rfl)) (gj n))))
def YQ(a:St b s ts y)(c:(i,TO f h)∈ts)(l:h.length<=100)(n:∀e Z2,kB i (TO f h) (.b []) ts Z2->St b s Z2 e->Q .c e):wp (fS (lJ (Tt d) (.b i) "clear") λm=>nE (Tt d) m (.b i) "clear" []) Q X y:=by
 have g:=a.get c;refine jy (kB.ex (o':=.b []) c) λZ2 u Z Z=>?_;have j:=n _ Z2 u (a.put u);have o:wp (zC (.b i) []) Q X y:=by induction f with|true=>exact fV (iS g (fV (ph (gj j))))|false=>exact fV (iS g (g_ (by unfold mD;rw[iq];exact gu l (iP _ _)) (fV (ph (gj j)))))
 have k:wp (nE (Tt d) .a (.b i) "clear" []) Q X y:=by refine(?_:wp (pf "clear" _ _) _ _ _);exact lE ac0<|o
 induction f with|true=>exact fV (fV (iS g (g_ (.inr (.inr rfl)) (gj k))))|false=>exact fV (fV (iS g (g_ (.inr (.inr rfl)) (gj k))))
def uG(h:wp m (λZ a=>Q (.d "done") a) (λC a=>∃t,Cn.lookup C=fR t/\Q (.d t) a) y):wp (lZ (Tt d) m) Q X y:=by obtain⟨h⟩:=h;refine⟨?_⟩;unfold lZ;generalize e:m y=b;induction b with|b v a=>rw[e]at h;exact h|c C a=>rw[e]at h;refine gy h ?_;intro t c f;refine(?_:vY (match Cn.lookup C with|some s=>.b (.d s) a|none=>.a) Q X);exact lE c<|f|a=>rw[e]at h;exact h.elim
noncomputable def lM(W:Hd):List MR:=match W.aI with|none=>[]|some (_,a)=>a
def rm(j:Nat):f_:="s"++lh j
def aay:∀i<12,∀j<12,rm i=rm j->i=j:=by decide+kernel
def aaz:∀i<12,uv (rm i)=fW/\pc (rm i)=fW:=by decide+kernel
noncomputable def LM.k(m:LM):f_×Int×Nat:=(m.name,m.aw,m.made)
noncomputable def MR.k(m:MR):f_×Int×Nat:=(m.name,m.aw,m.made)
structure jC(s:S)(L:LS)(W:Bool->Hd)(t:Nat):Prop where
 tm:∀c,(L.tm c).map LM.k=(lM (W c)).map MR.k
 len:L.af.length+2<=t
 sn:∀c,∀x∈(W c).sn,∃r∈L.af,r.dN=fW/\r.a=c/\r.ak=x.ak
 rl:∀r∈L.af,r.dN=fW->∃x∈(W r.a).sn,x.ak=r.ak/\x.aw=r.aw/\x.made=r.made
 dd:∀r∈L.af,r.dN=fY->∀c,∀x∈(W c).sn,x.ak≠r.ak
 le:∀r∈L.af,r.ak<=s.aa
 nm:∀c,∀x∈(W c).sn,∃j,j<L.af.length/\x.name=rm j
 cA:(L.af.map (·.ak)).Nodup
 gd:∀r∈L.af,hO r.aw/\r.made<1000
 em:∀c,(W c).sn=[]->(W c).hd.ag.ks.length<=1
inductive mX(b:Nat)(Y6:Nat×Nat×List (Nat×O))(a:Bool->Nat)(t:Nat)(y:H):Prop|dO (s:S) (own:pF) (d:List (f_×Int)) (W:Bool->Hd) (L:LS) (ts:List (Nat×O)) (h:St b s ts y) (g:iO s own d t W) (l:jv L (λc=>(a c:Int)) ts) (f:jC s L W t) (e:L.key=Y6) (k:∀c,(W c).k=a c)
def jC.ay(f:jC s L W t)(h:t<=t')(a:s.aa<=s'.aa):jC s' L W t':={f with len:=gu f.len h,le:=λr b=>by have:=f.le r b;exact(I4 this a)}
def jv.cU(l:jv L y ts):L.iw≠L.aU/\L.ih≠L.aU/\L.it≠L.aU/\(∀c,L.th c≠L.aU)/\(∀r∈L.af,r.aq≠L.aU)/\(∀c,L.iw≠L.th c/\L.ih≠L.th c/\L.it≠L.th c/\∀r∈L.af,r.aq≠L.th c)/\L.th fW≠L.th fY/\∀r∈L.af,L.iw≠r.aq/\L.ih≠r.aq/\L.it≠r.aq:=by
 refine iT (nQ.mp l.nd) λa Z d=>?_;have g:=λ{x:Nat} (m:x∈[L.iw,L.ih,L.it,L.aU,L.th fY,L.th fW]) (r:kN) (b:r∈L.af)=>d x m r.aq (i_ b);refine Gx (qd a 0 3 rfl rfl gO) (qd a 1 3 rfl rfl gO) (qd a 2 3 rfl rfl gO) (λc=>?_) (λr b e=>g mq r b e.symm) (λc=>?_) (qd a 4 5 rfl rfl gO).symm (λr b=>⟨g ge r b,g gZ r b,g jh r b⟩)
 .cases c;exact(qd a 3 4 rfl rfl gO).symm;exact(qd a 3 5 rfl rfl gO).symm
 .cases c;exact⟨qd a 0 4 rfl rfl gO,qd a 1 4 rfl rfl gO,qd a 2 4 rfl rfl gO,λr b e=>g pb r b e.symm⟩;exact⟨qd a 0 5 rfl rfl gO,qd a 1 5 rfl rfl gO,qd a 2 5 rfl rfl gO,λr b e=>g my r b e.symm⟩
noncomputable def nB:V->Bool|.e _=>fY|_=>fW
def NR(o:O):Bool:=match o with|.a (x::r)=>((iV x).isSome||(sV x).isSome)&&r.all nB|_=>fY
def Fz.b(h:Fz o):NR o=fW:=by
 rcases h with⟨u,v,a,o⟩|⟨x,o⟩|⟨u,r,o⟩<;>rw[o]
 .rfl
 .rfl
 .exact Bp.mpr λx m=>mE m λi Z e=>e▸rfl
def jv.odd{s:S}(f:St b s ts y)(l:jv L x ts){t:Nat×O}(g:t∈L.fm):t.1≠L.aU/\(∀c,t.1≠L.th c)/\∀r∈L.af,t.1≠r.aq:=by
 refine gP (l.frm t g) λm j=>?_;have m:=m;have a:∀{i:Nat} {o:O},(i,o)∈ts->o≠t.2->t.1≠i:=λk n e=>n (f.one (e▸k) m);have d:∀{o:O},NR o=fY->o≠t.2:=λh e=>l_ (h.symm.trans (e▸j.b));refine iy (a l.s (d ?_)) (λc=>a (l.th c) (d ?_)) (λr p=>a (l.r r p) (d rfl));cases L.af<;>rfl;cases L.fresh c<;>rfl
def jv.push{s:S}{r:kN}(g:St b s ((r.aq,r.aE x)::ts) y)(l:jv L x ts)(i:(L.aU,.a (L.af.map (λr=>V.b r.aq)++[.b r.aq]))∈Z2)(d:∀t∈(r.aq,r.aE x)::ts,t.1≠L.aU->t∈Z2):jv {L with af:=L.af++[r]} x Z2:=by
 revert b ts y Z2 s g l i d;revert x L r;refine @(yk E1 ?_);generalize mC.1.1=x,mC.1.2=L,mC.2=r;intro b ts y Z2 s g l i d;refine Bb l.cU λw z A B C Z=>?_;have f:∀{h:Nat} {o:O},(h,o)∈ts->h≠r.aq:=λm=>g.ne m;refine⟨λt j=>⟨d _ (.tail _ (l.frm t j).1) ((λ{t:Nat×O}=>l.odd (g.sub hW) (t:=t)) j).1,(l.frm t j).2⟩,d _ (.tail _ l.w) w,d _ (.tail _ l.h) z,d _ (.tail _ l.t) A,by refine lE kT ?_;exact i,λc=>d _ (.tail _ (l.th c)) (B c),l.fr,λc m p=>d _ (.tail _ (l.tm c m p)) λe=>?_,λq k=>?_,?_⟩;have u:=l.tm c m p;have e:m.aq=L.aU:=e;rw[e]at u;have:=g.one (.tail _ l.s) (.tail _ u);injection this
 .rcases mU.mp k with m|m
  .exact d _ (.tail _ (l.r q m)) (C q m)
  .rw[js]at m;subst m;exact d _ ge λe=>f l.s e.symm
 .refine lE kT ?_;rw[<-Em];refine nQ.mpr (iy l.nd (rZ _ _) (λa v c n=>?_));have n:=js.mp n;subst n;simp only[En,pT,gX,yP]at v;rcases v with rfl|rfl|rfl|rfl|rfl|rfl|⟨q,k,rfl⟩
  .exact f l.w
  .exact f l.h
  .exact f l.t
  .exact f l.s
  .exact f (l.th fY)
  .exact f (l.th fW)
  .exact f (l.r q k)
def jv.bk{s:S}{g:List LM}(i:St b s ts y)(l:jv L x ts)(p:(L.th c,.b (mD g))∈Z2)(f:∀t∈ts,t.1≠L.th c->t∈Z2)(u:∀m∈g,(m.aq,O.c [.a m.aw,.a (m.made:Int)])∈ts):jv {L with tm:=λa=>if a=c then g else L.tm a,fresh:=λa=>if a=c then fY else L.fresh a} x Z2:=by
 refine hZ λD j=>DQ l.cU λE F G v H w k I=>jZ (w c) λz A B C=>?_;refine j ?_;clear j;have n:∀{m:LM},(m.aq,O.c [.a m.aw,.a (m.made:Int)])∈ts->(m.aq,O.c [.a m.aw,.a (m.made:Int)])∈Z2:=λ{m} d=>f _ d λe=>by have e:m.aq=L.th c:=e;rw[e]at d;have:=i.one (l.th c) d;unfold TO at this;split at this<;>injection this
 refine⟨λt h=>⟨f _ (l.frm t h).1 ((l.odd i h).2.1 c),(l.frm t h).2⟩,f _ l.w z,f _ l.h A,f _ l.t B,f _ l.s λe=>v c e.symm,λa=>?_,λa e=>?_,λa m d=>?_,λr o=>f _ (l.r r o) (C r o),l.nd⟩
 .by_cases e:a=c;subst e;dsimp only;exact lE (if_pos rfl) (lE (if_pos rfl) p)
  .dsimp only;refine lE (if_neg e) (lE (if_neg e) ?_);refine f _ (l.th a) ?_;induction c<;>induction a<;>first|exact absurd rfl e|exact k|exact k.symm
 .dsimp only at e|-;by_cases q:a=c;rw[if_pos q]at e;injection e;rw[if_neg q]at e|-;exact l.fr a e
 .dsimp only at d;by_cases q:a=c;rw[if_pos q]at d;exact n (u m d);rw[if_neg q]at d;exact n (l.tm a m d)
def jv.db{s:S}{r:kN}(h:St b s ts y)(l:jv L x ts)(e:L.af=A++r::B)(j:(r.aq,({r with dN:=fY}:kN).aE x)∈Z2)(a:∀t∈ts,t.1≠r.aq->t∈Z2):jv {L with af:=A++{r with dN:=fY}::B} x Z2:=by
 revert b ts y x Z2 s h l e j a;revert L A B r;refine @(vQ E1 ?_);generalize ku.1.1=L,ku.1.2=A,ku.2.1=B,ku.2.2=r;intro b ts y x Z2 s h l e j a;refine DQ l.cU λJ K M N u v O w=>?_;have g:r∈L.af:=by refine lE e ?_;simp
 refine iT (w r g) λz C D=>?_;have i:(A++{r with dN:=fY}::B).map (·.aq)=L.af.map (·.aq):=by refine lE e ?_;simp
 have E:(A++{r with dN:=fY}::B).map (λr=>V.b r.aq)=L.af.map λr=>V.b r.aq:=by refine lE e ?_;simp
 have n:=l.nd;refine⟨λt k=>⟨a _ (l.frm t k).1 ((l.odd h k).2.2 r g),(l.frm t k).2⟩,a _ l.w z,a _ l.h C,a _ l.t D,?_,λc=>a _ (l.th c) λd=>(v c).2.2.2 r g d.symm,l.fr,λc m i=>a _ (l.tm c m i) λd=>?_,λq F=>?_,?_⟩;exact lE E<|a _ l.s λd=>u r g d.symm;have o:=l.tm c m i;have d:m.aq=r.aq:=d;rw[d]at o;have:=h.one (l.r r g) o;injection this
 .have p:=(nQ.mp n).2.1;rw[e,kT,nQ,iZ,jk]at p;refine iT p ?_;intro _ G H;refine gP G ?_;intro I _;rcases mU.mp F with m|m
  .exact a _ (l.r q (by refine lE e<|qT _ m)) (H _ (i_ m) _ (rY ..))
  .rcases gX.mp m with rfl|m
   .exact j
   .refine a _ (l.r q (by refine lE e ?_;simp[m])) λd=>I ?_;have:=i_ (f:=λr:kN=>r.aq) m;have d:=d;exact rE d<|this
 .exact lE i<|n
def Zj:∀(l:List Nat) (t:Nat),l.Pairwise (·>·)->(∀m∈l,2<=m/\m<t)->2<=t->l.length+2<=t:=by intro c;induction c with|nil=>intro t _ _ h;simpa using h|cons m r d=>intro t p q h;rw[qr]at p;have a:=q m ge;have:=d m p.2 (λk b=>⟨(q k (.tail _ b)).1,p.1 k b⟩) a.1;simp only[qn];exact gu (oQ this) a.2
def DE(A:oX s own h t W)(a:2<=t):W.sn.length+2<=t:=by
 have:=Zj (W.sn.map (·.made)) t A.ord (λm b=>by refine mE b λx c d=>?_;obtain rfl:=d;exact A.m2 x c) a;rwa [iq]at this
noncomputable def rk:List f_:=["m","n","o","M","","abcdefghijklm"]
def ux:∀nm∈rk,uv nm=fW/\nm.length<=100/\(pc nm=decide (nm="m"\/nm="n"\/nm="o")):=by decide+kernel
def Gu{x:Int}{n:Nat}(h:0<n):∃j,j<n/\x.fmod (n:Int)=(j:Int):=by
 refine gx ((x.fmod (n:Int)).toNat) ?_ ?_;have:=Int.fmod_lt_of_pos x (show(0:Int)<n from(Bo.mpr h));have:=ae2 x (show(0:Int)<n by omega);omega;have:=ae2 x (show(0:Int)<n by omega);omega
def GI(h:St b s ts y)(k:∀nm f,nm∈rk->St b s ts f->Q (.d nm) f):wp (F (d+1) 789 [.a a]) Q X y:=by
 refine h_ (Uj d _)<|wO h _ λi m g=>fV<|v_ gO<|gy (Gu gO) λj c e=>lE (show a.fmod (gV 6)=(j:Int)from e) ?_;have l:(rk.map V.d)[j]?=fR (.d (rk[j]'c)):=by refine lE lQ (lE (oO (show j<rk.length from c)) ?_);rfl
 exact fV<|sw g ge l gO<|gj<|k _ _ (Er c) (g.sub hW)
def kB.new(u:kB i o o' ts Z2):(i,o')∈Z2:=by induction u with|dN=>exact .head _|dO _ a=>exact .tail _ a
def kB.cL(u:kB i o o' ts Z2):∀t∈ts,t.1≠i->t∈Z2:=by
 induction u with
 |dN=>
  intro t m n;rcases gX.mp m with rfl|m
  .exact absurd rfl n
  .exact .tail _ m
 |dO _ a=>
  intro t m n;rcases gX.mp m with rfl|m
  .exact .head _
  .exact .tail _ (a t m n)
def Hf(A:oX s own h t W):((W.hd::W.sn).map (·.ak)).Nodup:=by have a:=Af A;unfold ae8 at*;rw[QU]at*;refine ae9 (λ{x d} b c n e=>n ?_) a;exact congrArg Ds.id (Hc A.aJ (Af A) b c e)
def He(b:iO s own h t W)(n:c≠a)(d:x∈(W a).hd::(W a).sn)(f:y∈(W c).hd::(W c).sn):x.ak≠y.ak:=kS ((b.A a).aJ.mem d) λZ Z g=>kS ((b.A c).aJ.mem f) λZ Z i=>nH g.aV i.aV λe=>Aa n (Ro.b.inj e).1.symm
def DN(a:Q (.a (x+h)) y):wp (hM .Add (.a x) (.a h)) Q X y:=⟨a⟩
def jC.taken(q:iO s own h t W)(f:jC s L W t)(l:t<50)(m:hO g)(i:s.aa+3<=s'.aa):jC s' {L with af:=L.af++[⟨y,a,(s.aa+3:Int),g,t,fW⟩]} (jP W a ((W a).take s.aa g t (rm L.af.length) D')) (t+1):=by
 revert own h s' q f l m i;revert s t W L g y a D';refine @(lx E1 ?_);generalize gw.1.1.1=s,gw.1.1.2=t,gw.1.2.1=W,gw.1.2.2=L,gw.2.1.1=g,gw.2.1.2=y,gw.2.2.1=a,gw.2.2.2=D';intro own h s' q f l m i;have B:∀c,∀x∈(W c).sn,x.ak<=s.aa:=λc x d=>mF (f.sn c x d) λr b Z Z e=>rE e<|f.le r b;have o:∀c,∀x∈(jP W a ((W a).take s.aa g t (rm L.af.length) D') c).sn,x∈(W c).sn\/c=a/\x=(W a).fresh s.aa g t (rm L.af.length):=λc x d=>by
  by_cases e:c=a
  .obtain rfl:=e.symm;rw[jS]at d;rcases gX.mp d with rfl|d
   .exact .inr ⟨rfl,rfl⟩
   .exact .inl d
  .rw[km e]at d;exact .inl d
 have w:∀c,∀x∈(W c).sn,x∈(jP W a ((W a).take s.aa g t (rm L.af.length) D') c).sn:=λc x d=>by
  by_cases e:c=a;obtain rfl:=e.symm;refine lE jS<|.tail _ d;exact lE (km e)<|d
 exact{
  tm:=λc=>by
   refine(f.tm c).trans ?_;by_cases e:c=a;obtain rfl:=e.symm;exact lE jS rfl;exact lE (km e) rfl
  len:=by
   have:=f.len;exact lE px (lE IX (oQ this))
  sn:=λc x d=>by
   rcases o c x d with d|⟨rfl,rfl⟩
   .refine gy (f.sn c x d) λr b k=>gx r (qT _ b) k
   .exact n_ _ (qo _ ge) rfl rfl rfl
  rl:=λr b i=>by
   rcases mU.mp b with b|b
   .refine gy (f.rl r b i) λx d k=>gx x (w _ x d) k
   .rw[js]at b;subst b;refine n_ ((W a).fresh s.aa g t (rm L.af.length)) ?_ rfl rfl rfl;exact lE jS<|.head _
  dd:=λr b u c x d=>by
   rcases mU.mp b with v|b
   .rcases o c x d with d|⟨rfl,rfl⟩
    .exact f.dd r v u c x d
    .have:=f.le r v;exact xz this
   .rw[js]at b;subst b;injection u
  le:=λr b=>by
   rcases mU.mp b with b|b
   .have:=f.le r b;exact oB this (kP.mpr i)
   .rw[js]at b;subst b;exact kP.mpr i
  nm:=λc x d=>by
   rcases o c x d with d|⟨rfl,rfl⟩
   .refine gy (f.nm c x d) λj z e=>gx j (by refine lE px<|pA z) e
   .exact gx L.af.length (by refine lE px (lE IX ?_);exact ij _) rfl
  cA:=by refine lE kT ?_;rw[nQ];refine iy f.cA (rZ _ _) (λx d C p=>?_);refine mE d λr b A=>?_;obtain rfl:=A;have p:=js.mp p;have:=f.le r b;exact kY (oB (Ej p.symm) this)
  gd:=λr b=>by
   rcases mU.mp b with b|b
   .exact f.gd r b
   .rw[js]at b;subst b;exact⟨m,by exact(gu l (iP _ _))⟩
  em:=λc e=>by
   by_cases n:c=a;obtain rfl:=n.symm;rw[jS]at e;injection e;rw[km n]at e|-;exact f.em c e}
def LF(a:Bool)(o:St b s ts y)(k:iO s own N t W)(l:jv L (λc=>(z c:Int)) ts)(f:jC s L W t)(G:L.key=Y6)(C:∀c,(W c).k=z c)(D:t<=11)(H:∀P,mX b Y6 z (t+1) P->Q (.e fW) P):wp (fS (kW [.b L.aU]) λa1=>fS (pR [a1]) λa2=>fS (hM RV (V.d "s") a2) λa3=>fS (hM RV (V.a (gV 1000)) (.a (t:Int))) λa4=>fS (F (d+8) 740 [.b b,.a (z a:Int),a3,.a (t:Int),a4]) λa5=>fS (lJ (Tt (d+8)) (.b L.aU) "append") λm=>fS (hM RV (V.a (gV 1000)) (.a (t:Int))) λa6=>fS (gM (O.a [.a (z a:Int),a5,a6,.a (t:Int),V.e fW])) λa7=>fS (nE (Tt (d+8)) m (.b L.aU) "append" [a7]) λZ=>fX (V.e fW)) Q X y:=by
 revert ts y own N Y6 Q X o k l f G C D H;revert b s t W L z d a;refine @(lx E1 ?_);generalize gw.1.1.1=b,gw.1.1.2=s,gw.1.2.1=t,gw.1.2.2=W,gw.2.1.1=L,gw.2.1.2=z,gw.2.2.1=d,gw.2.2.2=a;intro ts y own N Y6 Q X o k l f G C D H;have A:=k.A a;have q:=A.aJ.1;have p:L.af.length<12:=kZ D f.len;refine gP (aaz L.af.length p) λa8 a9=>?_;have c6:=DE A k.t9.1;have R:(gV 1000+(t:Int))=(1000+(t:Int)):=rfl;have b0:((L.af.map λr=>V.b r.aq).length:Int)=(L.af.length:Int):=by rw[iq]
 have b1:"s".length+(lh L.af.length).length<=1000:=by
  have h:∀n<12,"s".length+(lh n).length<=1000:=by decide+kernel
  exact h _ p
 refine fV<|GL (o.get l.s) (by rw[iq];exact iX p)<|lE b0<|fV<|yq (gu p (iP _ _))<|fV<|FE b1<|fV<|DN<|lE R ?_;have S:hO (1000+(t:Int)):=⟨(kr _),by lia⟩;have c7:=k.aa;have T:(z a:Int)=(W a).hd.ak:=by refine lE A.kE ?_;rw[C]
 have b2:(oJ (W a).sn).lookup (rm L.af.length)=fU:=by generalize e:(oJ (W a).sn).lookup (rm L.af.length)=w;induction w with|none=>rfl|some v=>refine jy (Hs.mp (tr e)) λx b3 b4 Z=>gy (f.nm a x b3) λj b5 b6=>?_;have:=aay _ p _ (gu b5 (jo p)) (b4.symm.trans b6);lia
 have b7:qI (W a).sn<100:=by
  generalize e:(W a).sn=w;induction w with|nil=>decide|cons x r=>
   have:=(A.m2 x (by refine lE e<|.head _)).2;exact gu (gu this D) gO
 have c8:=o.aS q.ac;have c9:=A.kl _ ge;have b8:∃B:hY,(∀E r,(W a).sn=E::r->B=E.ax (W a).an (W a).hd.ak r)/\(oI (W a).sn≠0->oI (W a).sn≠(W a).hd.ak/\s.ac (oI (W a).sn)=fR (iK B)/\B.ok/\B.dN=(W a).hd.ak):=by have I:=A.aJ.2;have J:=Hf A;generalize e:(W a).sn=w;induction w with|nil=>exact gx ((W a).hd.ax 0 0 []) (λZ Z g=>by injection g) (λg=>absurd rfl g)|cons E r=>rw[e]at I J;refine gx (E.ax (W a).an (W a).hd.ak r) (λZ Z g=>by cases g;rfl) (λZ=>kg (λg=>?_) I.1.ac I.1.bo rfl);rw[iZ,jk]at J;have g:=g;exact J.1 (by refine rE g<|.head _)
 refine gy b8 ?_;intro B b9 c0;refine lE T<|fV<|aaw o a8 a9 q.ac q.bo q.ag rfl rfl b7 (by lia) (⟨by have:=q.pos;lia,by lia⟩) S A.sz b2 (by unfold oJ;refine lE aer ?_;rw[iq];lia) (by lia) (by lia) c0 λs' D' d0 Y K=>fV<|Dh (K.get l.s) (.inl rfl)<|fV<|DN<|lE R<|wO K _ λi d1 M=>gI (abC a o K k (by lia) b9 Y) λc1 c2=>jy (kB.ex (qp (i,O.a [.a (W a).hd.ak,.a (s.aa+3:Int),.a (1000+(t:Int)),.a (t:Int),.e fW]) l.s)) λZ2 u c3 a0=>fV<|KF M u (by rw[iq];lia) λd2 c4=>gj<|H _ ?_;have c5:(i,O.a [.a (W a).hd.ak,.a (s.aa+3:Int),.a (1000+(t:Int)),.a (t:Int),.e fW])=(i,(⟨i,a,(s.aa+3:Int),1000+(t:Int),t,fW⟩:kN).aE λc=>(z c:Int)):=by exact rE T rfl
 rw[c5]at M a0;exact⟨s',c1,N,_,_,Z2,c4,c2,(jv.push M l c3 a0),(f.taken k (by lia) S Y.aa.1),G,λc=>by
  refine IN ?_ (C c);by_cases e:c=a;subst e;exact lE jS rfl;exact lE (km e) rfl⟩
theorem Mn[DecidableEq f]:∀(l u:List f),l.Nodup->(∀x∈l,x∈u)->l.length<=u.length|[],_,_,_=>jT _|x::r,u,a,h=>by rw[jk]at a;have b:=h x ge;have g:=Mn r (u.erase x) a.2 λc d=>(aex (λe:c=x=>a.1 (by refine rE e<|d))).mpr (h c (.tail _ d));rw[aen b]at g;have:=aeq b;refine lE qn ?_;lia
def nq(W:Hd):MZ:=W.aI.map λp=>(p.1,p.2.map MR.row)
def Nw:mL (nq W) nm=((lM W).map MR.row).lookup nm:=by unfold mL nq lM;cases W.aI<;>rfl
def Nh{b:List (f_×Int)}:(b.lookup k).isSome=decide (k∈b.map (·.1)):=by
 induction b with|nil=>rfl|cons a r c=>
  refine lE jn ?_;by_cases e:k=a.1;exact lE (beq_iff_eq.mpr e) (decide_eq_true (e▸.head _)).symm;refine lE (beq_eq_false_iff_ne.mpr e) (lE c (decide_eq_decide.mpr ⟨.tail _,λm=>(gX.mp m).resolve_left e⟩))
def iO.aR(b:iO s own h t W)(a:Bool):qx s (W a).k h (nq (W a)) where
 names:=b.names
 key:=(b.M a).key.trans (by unfold nq;rw[aeZ];rfl)
 ae:=λf g e=>by refine mI e λp c d=>?_;cases d;exact((b.M a).ae p.1 p.2 c).1
 k9:=(b.M a).k9
 len:=(b.M a).len
def jC.bk{nm:f_}(f:jC s L W t)(a:Bool):(mL (nq (W a)) nm).isSome=decide (nm∈(L.tm a).map (·.name)):=by
 refine lE Nw (lE Nh (lE kR ?_));have e:(L.tm a).map (·.name)=(lM (W a)).map (·.name):=by
  have:=congrArg (Es pV) (f.tm a);rw[kR,kR]at this;exact this
 exact lE e rfl
def iO.three(i:St b s ts y)(d:iO s own h t W)(a:Bool):((lM (W a)).map (·.name)).Nodup/\(lM (W a)).length<=3:=by
 unfold lM;generalize e:(W a).aI=j;induction j with|none=>exact⟨wG,jT _⟩|some p=>
  obtain⟨f,g⟩:=p;have c:=(i.ch ((d.M a).ae f g e).1).1;rw[kR]at c;have:=Mn _ [fZ "m","n","o"] c λx k=>by refine mE k λr l m=>?_;obtain rfl:=m;have:=((d.M a).row f g e r l).2.2.2.2;show r.name∈_;simpa using this
  rw[iq]at this;exact⟨c,this⟩
def iO.dB(f:St b s ts y)(d:iO s own h t W):h.length<=3:=by
 refine jR d.bM λr m e g=>?_;have:=Mn _ [fZ "root",jX (W fW).k,jX (W fY).k] ((f.ch d.names).1) λx i=>by
  refine mE i λj c k=>?_;obtain rfl:=k;rw[e]at c;rcases gX.mp c with rfl|c
  .exact .head _
  .refine gI (g j c) λa l=>lE l ?_;cases a;exact .tail _ gZ;exact .tail _ ge
 rwa [iq]at this
def qN:(jP W a ((W a).ao Y1) c).sn=(W c).sn/\(jP W a ((W a).ao Y1) c).hd=(W c).hd/\(jP W a ((W a).ao Y1) c).k=(W c).k:=by
 by_cases e:c=a;subst e;exact lE jS<|iy rfl rfl rfl;exact lE (km e)<|iy rfl rfl rfl
def jC.marked{Y1:Option (Int×List MR)}(f:jC s L W t)(h:t<=t')(j:s.aa<=s'.aa)(e:y.map LM.k=(lM ((W a).ao Y1)).map MR.k):jC s' {L with tm:=λb=>if b=a then y else L.tm b,fresh:=λb=>if b=a then fY else L.fresh b} (jP W a ((W a).ao Y1)) t' where
 tm:=λc=>by
  dsimp only;by_cases q:c=a;subst q;exact lE (if_pos rfl) (lE jS e);exact lE (if_neg q) (lE (km q) (f.tm c))
 len:=gu f.len h
 sn:=λc x d=>f.sn c x (qN.1▸d)
 rl:=λr g i=>lE qN.1<|f.rl r g i
 dd:=λr g i c x d=>f.dd r g i c x (qN.1▸d)
 le:=λr g=>by have:=f.le r g;exact I4 this j
 nm:=λc x d=>f.nm c x (qN.1▸d)
 cA:=f.cA
 gd:=f.gd
 em:=λc q=>by refine lE qN.2.1 ?_;rw[qN.1]at q;exact f.em c q
def Oc{m:Nat}(a:Bool)(k:St b s ts y)(i:iO s own h t W)(z:t<=11)(C:nm∈rk)(o:hO g)(r:m<1000)(D:¬ll nm->∀c,St b s ts c->X 111 c)(E:ll nm->(mL (nq (W a)) nm).isSome=fW->∀c,St b s ts c->X 75 c)(A:ll nm->(mL (nq (W a)) nm).isSome=fY->∀s' u G Y1 c,St b s' ts c->iO s' u G (t+1) (jP W a ((W a).ao Y1))->(lM ((W a).ao Y1)).map MR.k=(lM (W a)).map MR.k++[(nm,g,m)]->s.aa<=s'.aa->Q .c c):wp (F (d+4) 618 [.b b,.a ((W a).k:Int),.d nm,.a g,.a (m:Int)]) Q X y:=by
 refine iT (ux nm C) λH N I=>?_;have j:pc nm=fW↔ll nm:=lE I (lE decide_eq_true_eq Iff.rfl);have O:=i.aa;have l:=(i.three k a).2;refine ϓ k (i.aR a) H o r (by lia) (iX (i.dB k)) (λJ K e=>?_) (λf e c v=>?_) (λf J K e L c v=>?_) (λf=>D λq=>by rw[j.mpr q]at f;exact tF f) λf=>E (j.mp f);unfold nq at e;refine mI e λp n w=>?_;cases w;unfold lM at l;rw[n]at l;have l:=l;rw[iq];exact iX l
 .have B:(W a).aI=fU:=by unfold nq at e;exact Option.map_eq_none_iff.mp e
  refine gI (V4 a k i B (j.mp f) o r (iX z)) λu x=>A (j.mp f) (by refine lE e ?_;rfl) _ _ _ _ _ v x ?_ (by refine(?_:s.aa<=s.aa+1+1);exact by simp+arith);unfold lM Hd.ao;exact lE B rfl
 .refine mI e λp n w=>?_;obtain⟨P,M⟩:=p;cases w;refine gI (V5 a k i n (j.mp f) o r (iX z)) λu x=>A (j.mp f) (by unfold mL nq;refine lE n<|(?_:(jz nm (M.map MR.row)).isSome=fY);exact lE L rfl) _ _ _ _ _ v x ?_ (by exact jA _);unfold lM Hd.ao;exact lE n<|lE kT rfl
def Pw(i:St b s ts y)(l:jv L h ts)(j:(L.tm a).length<=3)(k:(v,.c [.a g,.a (m:Int)])∈ts)(n:¬ll nm->∀c,St b s ts c->Q (.d "no name") c)(o:ll nm->nm∈(L.tm a).map (·.name)->∀c,St b s ts c->Q (.d "exists") c)(p:ll nm->nm∉(L.tm a).map (·.name)->∀c Z2,jv {L with tm:=λf=>if f=a then L.tm a++[⟨v,nm,g,m⟩]else L.tm f,fresh:=λf=>if f=a then fY else L.fresh f} h Z2->St b s Z2 c->Q (.d "done") c):wp (F (d+1) 796 [.b (L.th a),.d nm,.b v]) Q X y:=by
 refine Q6 i (l.th a) (l.fr a) (gu j (iP _ _)) n o λq r c Z2 u t=>p q r c Z2 (l.bk i ?_ u.cL λx e=>?_) t;have:=u.new;unfold mD at this|-;exact lE kT<|this
 .rcases mU.mp e with e|e
  .exact l.tm a x e
  .rw[js]at e;subst e;exact k
def Ϧ(a:St b s ts y)(l:jv L h ts)(c:r∈L.af)(d:Q (.a (h r.a)) y):wp (iG (.b r.aq) (.a (gV 0))) Q X y:=sw a (l.r r c) rfl gO d
def Dv(a:St b s ts y)(l:jv L h ts)(c:r∈L.af)(d:Q (.a r.ak) y):wp (iG (.b r.aq) (.a (gV 1))) Q X y:=sw a (l.r r c) rfl gO d
def ϧ(a:St b s ts y)(l:jv L h ts)(c:r∈L.af)(d:Q (.a r.aw) y):wp (iG (.b r.aq) (.a (gV 2))) Q X y:=sw a (l.r r c) rfl gO d
def Ϩ(a:St b s ts y)(l:jv L h ts)(c:r∈L.af)(d:Q (.a (r.made:Int)) y):wp (iG (.b r.aq) (.a (gV 3))) Q X y:=sw a (l.r r c) rfl gO d
def Hr(a:St b s ts y)(l:jv L h ts)(c:r∈L.af)(d:Q (.e r.dN) y):wp (iG (.b r.aq) (.a (gV 4))) Q X y:=sw a (l.r r c) rfl gO d
def jC.three(d:St b s ts y)(g:iO s own x t W)(f:jC s L W t)(a:Bool):((L.tm a).map (·.name)).Nodup/\(L.tm a).length<=3:=by refine gP (g.three d a) λn l=>?_;have h:=f.tm a;have e:=congrArg (Es pV) h;rw[kR,kR]at e;have e:=e;have c:=congrArg rW h;rw[iq,iq]at c;exact⟨e▸n,(gu (gC c) l)⟩
def sI(e:x=h)(a:Q (.e fW) y):wp (fS (gR .Eq (.d x) (.d h)) λt=>fX (V.e t)) Q X y:=fV<|acn<|gj<|lE (decide_eq_true e)<|a
def mX.mk{s own a W L ts}(h:St b s ts y)(d:iO s own a t W)(l:jv L (λc=>(x c:Int)) ts)(f:jC s L W t)(e:L.key=Y6)(k:∀c,(W c).k=x c):mX b Y6 x t y:=⟨s,own,a,W,L,ts,h,d,l,f,e,k⟩
def mX.dN{s own a W L ts}(h:St b s ts y)(d:iO s own a t W)(l:jv L (λc=>(x c:Int)) ts)(f:jC s L W t)(e:L.key=Y6)(k:∀c,(W c).k=x c)(g:t<=11):mX b Y6 x (t+1) y:=.mk h (d.ay ⟨jA _,(iX g)⟩) l (f.ay (jA _) (ij _)) e k
def LE(u:St b s ts y)(i:iO s own z t W)(l:jv L (λc=>(h c:Int)) ts)(f:jC s L W t)(w:L.key=Y6)(o:∀c,(W c).k=h c)(p:t<=11)(k:r∈L.af)(B:r.a≠a\/r.dN=fY)(C:∀m,mX b Y6 h (t+1) m->Q (.e fW) m):wp (fS (fS (gM (O.f "_law_deed_right.<locals>.<lambda>")) λZ=>lZ (Tt (d+8)) (fS (fS (fS (fS (iG (.b r.aq) (V.a (gV 1))) λv=>fX [v,.d nm]) λg=>fX (V.a (h a:Int)::g)) λg=>fX (V.b b::g)) λg=>F (d+8) 625 g)) λa=>fS (gR w_ a (V.d "misused")) λt=>fX (V.e t)) Q X y:=by
 have A:=i.A a;refine fV<|wO u _ λJ K q=>uG<|fV<|fV<|fV<|fV<|Dv q (l.up λZ=>.tail _) k<|gj<|gj<|gj ?_;have D:∀x∈(W a).sn,x.ak≠r.ak:=λx j e=>by generalize n:r.dN=E;induction E with|false=>exact f.dd r k n a x j e|true=>refine jy (f.rl r k n) λM G H Z=>He i (B.resolve_right (by refine lE n<|Bool.noConfusion)) (.tail _ j) (.tail _ G) (e.trans H.symm)
 refine rE (o a)<|GR q A.aJ (lE A.kE rfl) (kZ p (DE A i.t9.1)) (λZ m I=>gx _ rfl (sI rfl<|C _<|.dN I i (l.up λZ=>.tail _) f w o p)) λx j e=>absurd e (D x j)
def Zn(J:St b s ts y)(m:iO s own z t W)(l:jv L (λc=>(h c:Int)) ts)(f:jC s L W t)(C:L.key=Y6)(w:∀c,(W c).k=h c)(B:t<=11)(n:r∈L.af)(M:r.a=a)(N:r.dN=fW)(P:nm∈rk)(D:∀g,mX b Y6 h (t+1) g->Q (.e fW) g):wp (fS (fS (gM (O.f "_law_deed_right.<locals>.<lambda>")) λZ=>lZ (Tt (d+8)) (fS (fS (fS (fS (iG (.b r.aq) (V.a (gV 1))) λv=>fX [v,.d nm]) λE=>fX (V.a (h a:Int)::E)) λE=>fX (V.b b::E)) λE=>F (d+8) 625 E)) λu=>fS (iG (.b r.aq) (V.a (gV 2))) λv=>fS (iG (.b r.aq) (V.a (gV 3))) λR=>fS (gM (O.c [v,R])) λv=>fS (F (d+8) 796 [.b (L.th a),.d nm,v]) λb=>fS (gR w_ u b) λt=>fX (V.e t)) Q X y:=by
 revert y own z t Y6 J m l f C w B n M N P D;revert b s ts W L h r a nm Q d X;refine @(vO E1 ?_);generalize hG.1.1.1.1=b,hG.1.1.1.2=s,hG.1.1.2=ts,hG.1.2.1.1=W,hG.1.2.1.2=L,hG.1.2.2=h,hG.2.1.1.1=r,hG.2.1.1.2=a,hG.2.1.2=nm,hG.2.2.1.1=Q,hG.2.2.1.2=d,hG.2.2.2=X;intro y own z t Y6 J m l f C w B n M N P D;have A:=m.A a;refine gP (f.gd r n) λa4 a5=>fV<|wO J _ λc0 c1 K=>uG<|fV<|fV<|fV<|fV<|Dv K (l.up λZ=>.tail _) n<|gj<|gj<|gj ?_;have K:=K.sub hW;refine rE (w a)<|mF (f.rl r n N) λa6 T a1 a7 a8=>?_;rw[M]at T;refine GR K A.aJ (lE A.kE rfl) (kZ B (DE A m.t9.1)) (λa9=>absurd a1 (a9 a6 T)) λx b0 e c2 b1=>lE (Hc A.aJ (Af A) (.tail _ b0) (.tail _ T) (e.trans a1.symm)) (lE a7 (lE a8 ?_));have Y:∀{u:f_} {s':S} {g:H},St b s' ts g->(¬ll nm->∀g,St b s' ts g->u="no name"/\Q (.e fW) g)->(ll nm->nm∈(L.tm a).map (·.name)->∀g,St b s' ts g->u="exists"/\Q (.e fW) g)->(ll nm->nm∉(L.tm a).map (·.name)->∀v g Z2,jv {L with tm:=λG=>if G=a then L.tm a++[⟨v,nm,r.aw,r.made⟩]else L.tm G,fresh:=λG=>if G=a then fY else L.fresh G} (λc=>(h c:Int)) Z2->St b s' Z2 g->u="done"/\Q (.e fW) g)->wp (fS (iG (.b r.aq) (V.a (gV 2))) λv=>fS (iG (.b r.aq) (V.a (gV 3))) λR=>fS (gM (O.c [v,R])) λv=>fS (F (d+8) 796 [.b (L.th a),.d nm,v]) λb=>fS (gR w_ (.d u) b) λt=>fX (V.e t)) Q X g:=by
  intro u s' g k b2 b3 b4;refine fV<|ϧ k l n<|fV<|Ϩ k l n<|wO k _ λc3 a0 o=>fV<|Pw o (l.up λZ=>.tail _) ((f.three J m a).2) ge (λj a2 I=>?_) (λj i a2 I=>?_) λj i a2 c4 b5 I=>?_;refine gP (b2 j _ (I.sub hW)) λe q=>sI e q;refine gP (b3 j i _ (I.sub hW)) λe q=>sI e q;refine gP (b4 j i _ _ _ b5 I) λe q=>sI e q
 have a3:=f.bk (nm:=nm) a;refine Oc a b1 m B P a4 a5 (λj a0 o=>gx _ rfl ?_) (λj i a0 o=>gx _ rfl ?_) λj i s' c5 c6 Y1 a0 o b6 b7 b8=>?_;exact Y o (λZ g k=>⟨rfl,D _ (.dN k m l f C w B)⟩) (λi=>absurd i j) λi=>absurd i j;rw[a3]at i;exact Y o (λp=>absurd j p) (λZ Z g k=>⟨rfl,D _ (.dN k m l f C w B)⟩) λZ p=>absurd (of_decide_eq_true i) p;rw[a3]at i;refine Y o (λp=>absurd j p) (λZ p=>absurd p (of_decide_eq_false i)) λZ Z v g Z2 b9 k=>⟨rfl,D _ ?_⟩;exact .mk k b6 b9 (f.marked (jA _) b8 (lE b7 (lE kT (lE (f.tm a) rfl)))) C λc=>qN.2.2.trans (w c)
def z_(h:ll nm):nm∈rk:=by unfold rk;rcases h with rfl|rfl|rfl<;>simp
def vZ(h:wp (fS (fS m f) g) Q X y):wp (fS m λx=>fS (f x) g) Q X y:=by obtain⟨h⟩:=h;refine⟨?_⟩;unfold fS at*;generalize e:m y=b;induction b with|b a c=>rw[e]at h;exact h|c C c=>rw[e]at h;exact h|a=>rw[e]at h;exact h
def jC.ac(w:St b s ts y)(k:iO s own x t W)(f:jC s L W t)(l:h∈L.tm a):hO h.aw/\h.made<1000/\ll h.name/\∀n,mL (nq (W a)) h.name=fR n->s.ac n=fR (Rw [h.aw,(h.made:Int)]):=by
 have m:∀r∈lM (W a),r.name=h.name->s.ac r.ac=fR (Rw [h.aw,(h.made:Int)])/\hO h.aw/\h.made<1000/\ll h.name:=λr c e=>by have d:r.k∈(L.tm a).map LM.k:=lE (f.tm a)<|i_ c;refine mE d λg z i=>?_;have o:g.name=r.name:=congrArg pV i;have A:g.aw=r.aw:=congrArg (λp=>p.2.1) i;have B:g.made=r.made:=congrArg (λp=>p.2.2) i;have:=GT (f.three w k a).1 z l (o.trans e);subst this;unfold lM at c;generalize j:(W a).aI=C;induction C with|none=>rw[j]at c;exact nM c|some p=>rw[j]at c;refine pi ((k.M a).row p.1 p.2 j r c) λD Z E F G=>lE o (lE A (lE B ?_));exact kg D E F G
 have d:h.k∈(lM (W a)).map MR.k:=rE (f.tm a)<|i_ l;refine hZ λN q=>mE d λr c H=>jZ (m r c (congrArg pV H)) λZ I J K=>?_;refine q ?_;clear q;refine kg I J K (λn e=>?_);rw[Nw]at e;refine mE (tr e) λu M v=>?_;have:=(m u M (congrArg pV v)).1;rwa [show u.ac=n from congrArg wW v]at this
def Zm(q:St b s ts y)(j:iO s own x t W)(l:jv L (λc=>(h c:Int)) ts)(f:jC s L W t)(r:L.key=Y6)(k:∀c,(W c).k=h c)(u:t<=11)(v:nm∈rk)(w:nm∉(L.tm a).map (·.name))(A:∀o,mX b Y6 h (t+1) o->Q (.e fW) o):wp (fS (fS (gM (O.f "_law_deed_right.<locals>.<lambda>")) λZ=>lZ (Tt (d+8)) (F (d+8) 639 [.b b,.a (h a:Int),.d nm,.d z])) λa=>fS (gR w_ a (V.d "missing")) λt=>fX (V.e t)) Q X y:=by have i:=f.bk (nm:=nm) a;rw[decide_eq_false w]at i;refine rE (k a)<|fV<|wO q _ λB C p=>uG<|Lu (g:=0) (m:=0) p (j.aR a) (ux nm v).2.1 ⟨by decide,by decide⟩ gO (λn e=>by rw[e]at i;injection i) (λZ=>gx _ rfl (sI rfl<|A _<|.dN p j (l.up λZ=>.tail _) f r k u)) λe=>by rw[i]at e;injection e
def Zl(o:St b s ts y)(m:iO s own z t W)(l:jv L (λc=>(x c:Int)) ts)(f:jC s L W t)(A:L.key=Y6)(p:∀c,(W c).k=x c)(B:t<=11)(J:h∈rk)(I:nm∈(L.tm a).map (·.name))(C:∀g,mX b Y6 x (t+1) g->Q (.e fW) g):wp (fS (iG (.b (L.th a)) (.d nm)) λv=>fS (F (d+8) 796 [.b (L.th a),.d h,v]) λv=>fS (fS (gM (O.f "_law_deed_right.<locals>.<lambda>")) λZ=>lZ (Tt (d+8)) (F (d+8) 639 [.b b,.a (x a:Int),.d nm,.d h])) λa=>fS (gR w_ a v) λt=>fX (V.e t)) Q X y:=by
 revert ts y own z Y6 nm X o m l f A p B J I C;revert b s t W L x h a Q d;refine @(qj E1 ?_);generalize gN.1.1.1.1=b,gN.1.1.1.2=s,gN.1.1.2=t,gN.1.2.1=W,gN.1.2.2=L,gN.2.1.1.1=x,gN.2.1.1.2=h,gN.2.1.2=a,gN.2.2.1=Q,gN.2.2.2=d;intro ts y own z Y6 nm X o m l f A p B J I C;have T:=f.three o m a;refine hZ λb9 Y=>mE I λD K a4=>?_;obtain rfl:=a4;refine jZ (f.ac o m K) λa0 a1 a5 a6=>Y ?_;clear Y;have a2:=f.bk (nm:=h) a;have M:∀{u:f_} {r:List (Nat×O)} {w:H},St b s r w->(∀g,¬ll h->St b s r g->u="no name"/\Q (.e fW) g)->(∀g,ll h->h∈(L.tm a).map (·.name)->St b s r g->u="exists"/\Q (.e fW) g)->(∀g,ll h->h∉(L.tm a).map (·.name)->∀s' N P Y1,St b s' r g->iO s' N P (t+1) (jP W a ((W a).ao Y1))->(lM ((W a).ao Y1)).map MR.k=(lM (W a)).map MR.k++[(h,D.aw,D.made)]->s.aa<=s'.aa->u="done"/\Q (.e fW) g)->wp (fS (fS (gM (O.f "_law_deed_right.<locals>.<lambda>")) λZ=>lZ (Tt (d+8)) (F (d+8) 639 [.b b,.a (x a:Int),.d D.name,.d h])) λa=>fS (gR w_ a (.d u)) λt=>fX (V.e t)) Q X w:=by
  intro u r w n a7 a8 a9;refine rE (p a)<|fV<|wO n _ λc0 c1 b0=>uG<|Lu b0 (m.aR a) (ux _ (z_ a5)).2.1 a0 a1 a6 (λe=>?_) λe c2 R=>?_;have:=f.bk (nm:=D.name) a;rw[e,decide_eq_true I]at this;injection this
  have R:=R.sub hW;refine Oc a R m B J a0 a1 (λi a3 E=>?_) (λi k a3 E=>?_) λi k s' N P Y1 a3 E b1 b2 S=>?_;refine gP (a7 _ i E) λb3 q=>?_;obtain rfl:=b3;exact gx _ rfl (sI rfl q);rw[a2]at k;refine gP (a8 _ i (of_decide_eq_true k) E) λb4 q=>?_;obtain rfl:=b4;exact gx _ rfl (sI rfl q);rw[a2]at k;refine gP (a9 _ i (of_decide_eq_false k) _ _ _ _ E b1 b2 S) λb5 q=>?_;obtain rfl:=b5;exact sI rfl q
 refine fV<|MY o (l.th a) (l.fr a) T.1 K<|fV<|Pw o l T.2 (l.tm a D K) (λi w n=>?_) (λi k w n=>?_) λi k w r b6 n=>?_;exact M n (λg Z G=>⟨rfl,C _<|.dN G m l f A p B⟩) (λZ j=>absurd j i) λZ j=>absurd j i;exact M n (λZ j=>absurd i j) (λg Z Z G=>⟨rfl,C _<|.dN G m l f A p B⟩) λZ Z j=>absurd k j;exact M n (λZ j=>absurd i j) (λZ Z j=>absurd j k) λg Z Z s' N P Y1 G b7 b8 S=>⟨rfl,C _<|.mk G b7 b6 (f.marked (jA _) S (lE b8 (lE kT (lE (f.tm a) rfl)))) A λc=>qN.2.2.trans (p c)⟩
def Zp(j:St b s ts y)(i:iO s own x t W)(l:jv L (λc=>(h c:Int)) ts)(f:jC s L W t)(u:L.key=Y6)(k:∀c,(W c).k=h c)(v:t<=11)(w:nm∈rk)(o:nm∉(L.tm a).map (·.name))(z:∀p,mX b Y6 h (t+1) p->Q (.e fW) p):wp (fS (lJ (Tt (d+8)) (.b (L.th a)) "pop") λm=>fS (nE (Tt (d+8)) m (.b (L.th a)) "pop" [.d nm,.c]) λZ=>fS (fS (gM (O.f "_law_deed_right.<locals>.<lambda>")) λZ=>lZ (Tt (d+8)) (F (d+8) 651 [.b b,.a (h a:Int),.d nm])) λa=>fS (gR w_ a (V.d "missing")) λt=>fX (V.e t)) Q X y:=by have g:=f.bk (nm:=nm) a;rw[decide_eq_false o]at g;refine rE (k a)<|vZ<|fV<|Oa j (l.th a) (l.fr a) (gu (f.three j i a).2 (iP _ _)) (λZ D A=>?_) λq=>absurd q o;refine fV<|wO A _ λE G r=>uG<|Gi r (i.aR a) (ux nm w).2.1 (λn e=>by rw[e]at g;injection g) (λq B n e C=>?_) λZ=>gx _ rfl (sI rfl<|z _<|.dN r i (l.up λZ=>.tail _) f u k v);exfalso;rw[e]at g;have:(B.lookup nm).isSome=fY:=g;rw[C]at this;injection this
def Zo(g:St b s ts y)(i:iO s own z t W)(l:jv L (λc=>(h c:Int)) ts)(f:jC s L W t)(B:L.key=Y6)(q:∀c,(W c).k=h c)(C:t<=11)(j:nm∈(L.tm a).map (·.name))(D:∀H,mX b Y6 h (t+1) H->Q (.e fW) H):wp (fS (lJ (Tt (d+8)) (.b (L.th a)) "pop") λm=>fS (nE (Tt (d+8)) m (.b (L.th a)) "pop" [.d nm,.c]) λZ=>fS (fS (gM (O.f "_law_deed_right.<locals>.<lambda>")) λZ=>lZ (Tt (d+8)) (F (d+8) 651 [.b b,.a (h a:Int),.d nm])) λa=>fS (gR w_ a (V.d "done")) λt=>fX (V.e t)) Q X y:=by
 revert ts y own z t h Y6 X g i l f B q C j D;revert b s W L a nm Q d;refine @(lx E1 ?_);generalize gw.1.1.1=b,gw.1.1.2=s,gw.1.2.1=W,gw.1.2.2=L,gw.2.1.1=a,gw.2.1.2=nm,gw.2.2.1=Q,gw.2.2.2=d;intro ts y own z t h Y6 X g i l f B q C j D;have E:=f.bk (nm:=nm) a;rw[decide_eq_true j]at E;have o:=f.three g i a;have w:ll nm/\∀n,mL (nq (W a)) nm=fR n->∃c,s.ac n=fR c:=by refine hZ λa1 I=>mE j λa2 G N=>?_;obtain rfl:=N;refine jZ (f.ac g i G) λZ Z w P=>I ?_;clear I;exact⟨w,λn e=>⟨_,P n e⟩⟩
 refine rE (q a)<|vZ<|fV<|Oa g (l.th a) (l.fr a) (gu o.2 (iP _ _)) (λA=>absurd j A) λZ v a3 a4 u R=>fV<|wO R _ λa5 a6 S=>uG<|Gi S (i.aR a) (ux nm (z_ w.1)).2.1 w.2 (λA a7 n e T a8 o=>?_) λA=>by rw[A]at E;injection E
 have o:=o.sub hW;refine mI e λp J Y=>?_;obtain⟨K,M⟩:=p;cases Y;have a0:=f.marked (s':=(s.bf n).aF K (jU (M.map MR.row) nm)) (a:=a) (Y1:=fR (K,M.filter λr=>!decide (r.name=nm))) (jA _) (ij _) (by have k:=congrArg (aef λ(x:f_×Int×Nat)=>!decide (x.1=nm)) (f.tm a);rw[yN,yN]at k;refine IN k ?_;unfold lM Hd.ao;exact lE J rfl)
 exact sI rfl<|D _<|.mk o ((ac6 a g i J T).ay ⟨jA _,(iX C)⟩) (l.bk g u.new u.cL λm G=>l.tm a m (wD.mp G).1) a0 B λc=>qN.2.2.trans (q c)
def HS(a:Bool)(j:St b s ts y)(f:iO s own h t W)(A:∀s' D k,St b s' ts k->iO s' own D t (jP W a ((W a).ao fU))->s'.aa=s.aa->Q .c k):wp (F (d+6) 658 [.b b,.a ((W a).k:Int)]) Q X y:=by
 have l:=f.aR a;generalize e:(W a).aI=E;induction E with
 |none=>
  have u:nq (W a)=fU:=by unfold nq;exact lE e rfl
  rw[u]at l;have G:jP W a ((W a).ao fU)=W:=by
   funext c;by_cases q:c=a;subst q;refine lE jS<|rE e rfl;exact km q
  exact n9 j l λk v=>A _ _ _ v (by refine lE G<|f) rfl
 |some p=>
  obtain⟨w,g⟩:=p;have u:nq (W a)=fR (w,g.map MR.row):=by unfold nq;exact lE e rfl
  rw[u]at l;have m:=(f.M a).row w g e;have H:(g.map (·.name)).Nodup:=by
   have:=(f.three j a).1;unfold lM at this;rw[e]at this;exact this
  refine o6 j l (λx i=>?_) (λx i=>?_) ?_ ?_ λs' k B v=>A _ _ _ v (ac7 a j f e B) B.aa;refine mE i λr z I=>?_;obtain rfl:=I;exact(ux r.name (z_ (m r z).2.2.2.2)).2.1;refine mE i λr z J=>?_;obtain rfl:=J;exact⟨_,(m r z).1⟩;refine lE kR<|(?_:(g.map λr=>r.ac).Nodup);unfold ae8 at*;rw[QU]at*;refine ae9 (λ{x K} i L n q=>n ?_) H;have C:=(m x i).2.1;rw[q,((m K L).2.1)]at C;exact(Ro.e.inj C).2.symm;intro q;have o:=((f.M a).ae w g e).2;rw[q,f.bh]at o;injection o
def Zk(e:St b s ts y)(g:iO s own x t W)(l:jv L (λc=>(h c:Int)) ts)(f:jC s L W t)(k:L.key=Y6)(i:∀c,(W c).k=h c)(n:t<=11)(o:∀j,mX b Y6 h (t+1) j->Q (.e fW) j):wp (fS (lJ (Tt (d+8)) (.b (L.th a)) "clear") λm=>fS (nE (Tt (d+8)) m (.b (L.th a)) "clear" []) λZ=>fS (F (d+8) 658 [.b b,.a (h a:Int)]) λZ=>fX (V.e fW)) Q X y:=by refine rE (i a)<|vZ<|fV<|YQ e (l.th a) (gu (f.three e g a).2 (iP _ _)) λz A u p=>fV<|HS a p g λs' B C q r v=>gj<|o _<|.mk q (r.ay ⟨jA _,(iX n)⟩) (l.bk e u.new u.cL λm w=>nM w) (f.marked (jA _) (gC v.symm) rfl) k λc=>qN.2.2.trans (i c)
theorem aaL:∀(x:h) (A:List h),∃P b,x::A=P++[b]|x,[]=>qA ([]) x rfl|x,a::A=>by refine kS (aaL a A) λP b e=>qA (x::P) b (lE e rfl)
def Ze(e:xw W P y x B):(∀b∈(W.cut P y B D').sn,∃c∈W.sn,c.ak=b.ak/\c.name=b.name/\c.aw=b.aw/\c.made=b.made/\(c∈P\/c=y\/c∈B))/\∀c∈W.sn,(c=x\/∃b∈(W.cut P y B D').sn,b.ak=c.ak/\b.aw=c.aw/\b.made=c.made):=by
 revert P e;revert W y x B D';refine @(qJ E1 ?_);generalize iz.1.1.1=W,iz.1.1.2=y,iz.1.2=x,iz.2.1=B,iz.2.2=D';intro P e;have f:=e.aY;induction P with
 |nil=>
  rw[pT]at f;injection f with f1 d
  constructor;intro b a;have a:=a;exact Ac b (by refine lE d<|.tail _ a) rfl rfl rfl rfl (.inr (.inr a))
  .intro b a;rw[d]at a;rcases gX.mp a with rfl|a
   .exact .inl rfl
   .exact .inr (n_ b a rfl rfl rfl)
 |cons p P=>
  injection f with f1 d
  have d:=d;constructor
  .intro b a;have a:b∈P++{y with ag:=D'}::B:=a;rcases mU.mp a with a|a
   .exact Ac b (by refine lE d<|qT _ a) rfl rfl rfl rfl (.inl (.tail _ a))
   .rcases gX.mp a with rfl|a
    .exact Ac y (by refine lE d ?_;simp) rfl rfl rfl rfl (.inr (.inl rfl))
    .exact Ac b (by refine lE d ?_;simp[a]) rfl rfl rfl rfl (.inr (.inr a))
  .intro b a;rw[d]at a;rcases mU.mp a with a|a
   .exact .inr (n_ b (qT _ a) rfl rfl rfl)
   .rcases gX.mp a with rfl|a
    .exact .inr (n_ _ (qo _ ge) rfl rfl rfl)
    .rcases gX.mp a with rfl|a
     .exact .inl rfl
     .exact .inr (n_ b (qo _ (.tail _ a)) rfl rfl rfl)
def jC.cR{P R:List Ds}(m:iO s own z t W)(f:jC s L W t)(e:L.af=A++r::B)(o:xw (W r.a) P y x R)(l:x.ak=r.ak)(G:s'.aa=s.aa)(H:qI R=0->D'.ks=[]):jC s' {L with af:=A++{r with dN:=fY}::B} (jP W r.a ((W r.a).cut P y R D')) t:=by
 revert s own z t s' m f e o l G H;revert W L A r B y x D' P R;refine @(qj E1 ?_);generalize gN.1.1.1.1=W,gN.1.1.1.2=L,gN.1.1.2=A,gN.1.2.1=r,gN.1.2.2=B,gN.2.1.1.1=y,gN.2.1.1.2=x,gN.2.1.2=D',gN.2.2.1=P,gN.2.2.2=R;intro s own z t s' m f e o l G H;refine gP (Ze (D':=D') o) λD a0=>?_;have S:=Hf (m.A r.a);rw[o.aY,kT,nQ,iZ,jk,iZ,jk]at S;refine iT S ?_;intro _ a1 a2;refine iT a1 ?_;intro a3 a4 _;have T:∀d∈((W r.a).cut P y R D').sn,d.ak≠r.ak:=λd a q=>by
  refine PV (D d a) λg Z i Z Z Z h=>?_;have I:=i.trans (q.trans l.symm);rcases h with h|rfl|h
  .exact a2 _ (i_ h) _ gZ I
  .exact a3 (by refine lE I<|.head _)
  .exact a4 (by refine rE I<|i_ h)
 have E:∀q∈A++{r with dN:=fY}::B,q={r with dN:=fY}\/q∈L.af/\(q∈A\/q∈B):=λq b=>by
  refine lE e ?_;rcases mU.mp b with h|h
  .exact .inr ⟨qT _ h,.inl h⟩
  .rcases gX.mp h with rfl|h
   .exact .inl rfl
   .exact .inr ⟨qo _ (.tail _ h),.inr h⟩
 have V:∀q∈L.af,q.ak≠r.ak->q∈A++{r with dN:=fY}::B:=λq b n=>by
  rw[e]at b;rcases mU.mp b with h|h
  .exact qT _ h
  .rcases gX.mp h with rfl|h
   .exact absurd rfl n
   .exact qo _ (.tail _ h)
 have J:=f.cA;rw[e,kT,nQ,iZ,jk]at J;have a5:∀q,q∈A\/q∈B->q.ak≠r.ak:=λq h=>by
  rcases h with h|h
  .exact J.2.2 _ (i_ h) _ ge
  .exact λd=>J.2.1.1 (by refine rE d<|i_ h)
 have X:x∈(W r.a).hd::(W r.a).sn:=by refine lE o.aY ?_;simp
 have a6:((W r.a).cut P y R D').aI=(W r.a).aI:=by induction P<;>rfl
 exact{
  tm:=λc=>by
   refine(f.tm c).trans ?_;by_cases q:c=r.a;refine lE q (lE jS ?_);unfold lM;exact lE a6 rfl;exact lE (km q) rfl
  len:=by
   have:=f.len;rw[e]at this;simpa using this
  sn:=λc d a=>by
   by_cases q:c=r.a;rw[q,jS]at a;refine hZ λa9 Y=>jy (D d a) λg j i Z=>mF (f.sn r.a g j) λv K M N w=>?_;refine Y ?_;clear Y;exact n_ v (V v K (λu=>T d a (rE i (rE w (lE u rfl))))) M (N.trans q.symm) (w.trans i);rw[km q]at a;refine mF (f.sn c d a) λv K M N w=>n_ v (V v K (λu=>He m q X (.tail _ a) (lE l (rE u (lE w rfl))))) M N w
  rl:=λq b C=>by
   rcases E q b with rfl|⟨b,h⟩
   .injection C
   .refine gy (f.rl q b C) λd a k=>?_;by_cases u:q.a=r.a
    .refine lE u (lE jS ?_);rw[u]at a;rcases a0 d a with rfl|⟨g,j,i,O,a7⟩
     .exact absurd (k.1.symm.trans l) (a5 q h)
     .exact n_ g j (i.trans k.1) (O.trans k.2.1) (a7.trans k.2.2)
    .exact lE (km u)<|gx d a k
  dd:=λq b C c d a=>by
   rcases E q b with rfl|⟨b,h⟩
   .by_cases u:c=r.a;rw[u,jS]at a;exact T d a;rw[km u]at a;exact λk=>He m u X (.tail _ a) (l.trans k.symm)
   .by_cases u:c=r.a;rw[u,jS]at a;exact jy (D d a) λg j i Z=>rE i<|f.dd q b C r.a g j;rw[km u]at a;exact f.dd q b C c d a
  le:=λq b=>by
   refine lE G ?_;rcases E q b with rfl|⟨b,h⟩
   .exact f.le r (by refine lE e ?_;simp)
   .exact f.le q b
  nm:=λc d a=>by
   have a8:(A++{r with dN:=fY}::B).length=L.af.length:=by refine lE e ?_;simp
   refine lE a8 ?_;by_cases u:c=r.a;rw[u,jS]at a;exact mF (D d a) λg j Z O Z=>rE O<|f.nm r.a g j;rw[km u]at a;exact f.nm c d a
  cA:=by
   have:=f.cA;rw[e]at this;simpa using this
  gd:=λq b=>by
   rcases E q b with rfl|⟨b,h⟩
   .exact f.gd r (by refine lE e ?_;simp)
   .exact f.gd q b
  em:=λc a=>by
   by_cases u:c=r.a
   .rw[u,jS]at a|-;have F:=FZ (W r.a) P y R D';rw[a]at F;induction P with
    |nil=>
     rw[pT]at F;injection F with f1 Q
     refine(?_:D'.ks.length<=1);rw[H (rE Q rfl)];exact jT _
    |cons p P=>
     injection F with _ Q
     have:=congrArg rW Q;simp at this
   .rw[km u]at a|-;exact f.em c a}
def L_(i:St b s ts y)(j:iO s own h t W)(f:jC s L W t)(e:L.af=A++r::B)(o:r.dN=fW)(q:∀s' a g,St b s' ts g->iO s' own h t a->jC s' {L with af:=A++{r with dN:=fY}::B} a t->(∀c,(a c).k=(W c).k/\(a c).aI=(W c).aI)->Q .c g):wp (F (d+8) 775 [.b b,z,.a r.ak,N]) Q X y:=by
 refine hZ λK m=>jy (f.rl r (by refine lE e ?_;simp) o) λx v n Z=>?_;refine kS (aea v) λw R C=>kS (aaL (W r.a).hd w) λP D E=>?_;have k:xw (W r.a) P D x R:=⟨by refine lE C (rE En (lE E ?_));rw[Em];rfl⟩;refine nN (o8 i (j.A r.a) k) λM O S G H=>m ?_;clear m;refine rE n<|q7 i G λs' T g l I=>q s' _ g I (o9 r.a i j k H l) (f.cR j e k n l.aa λJ=>?_) λc=>?_
 .refine lE l.ks (lE J ?_);exact aei.mpr λp Z=>by simp
 .by_cases u:c=r.a;refine lE u (lE jS ?_);induction P<;>exact⟨rfl,rfl⟩;exact lE (km u)<|⟨rfl,rfl⟩
def LD(a:St b s ts y)(j:iO s own x t W)(l:jv L (λc=>(h c:Int)) ts)(f:jC s L W t)(k:L.key=Y6)(m:∀c,(W c).k=h c)(n:t<=11)(e:L.af=A++r::B)(o:∀p,mX b Y6 h (t+1) p->Q (.e fW) p):wp (fS (iG (.b r.aq) (V.a (gV 4))) λq=>fS (lO q) λc=>if c=fW then fS (iG (.b r.aq) (V.a (gV 1))) λv=>fS (F (d+8) 775 [.b b,z,v,.a (t:Int)]) λZ=>fS (pe (.b r.aq) (V.a (gV 4)) (V.e fY)) λZ=>fX (V.e fW)else fX (V.e fW)) Q X y:=by
 have g:r∈L.af:=by refine lE e ?_;simp
 refine fV<|Hr a l g<|wR<|nL (λw=>?_) λZ=>gj<|o _<|.dN a j l f k m n;refine fV<|Dv a l g<|fV<|L_ a j f e w λs' I J i C D E=>jy (kB.ex (l.r r g)) λK u G H=>fV<|fV<|iS (i.get (l.r r g))<|g_ ⟨⟨by decide,Re rfl⟩,by decide⟩<|ph<|gj<|o _<|.mk (i.put u) (C.ay ⟨jA _,(iX n)⟩) (jv.db i l e G H) (D.ay (jA _) (ij _)) k λc=>(E c).1.trans (m c)
noncomputable def kN.data(a:Bool->Int)(r:kN):tS:=.list [.int (a r.a),.int r.ak,.int r.aw,.int (r.made:Int),.bool r.dN]
def Zh(c:Bool->Int)(b:List kN):sO (b.map (kN.data c))=fW/\se (b.map (kN.data c))<=1:=by
 induction b with|nil=>exact⟨rfl,jT _⟩|cons a r d=>
  refine lE iZ ?_;constructor;simp[sO,sM,kN.data,d.1];have:=d.2;simp[se,sP,kN.data];lia
def acr(a:Q (decide (x<h)) y):wp (gR .Lt (.a x) (.a h)) Q X y:=⟨a⟩
def u9(g:St b s ts y)(l:jv L h ts)(i:(j,.a [])∈ts)(k:L.af=[]->Q fW y)(m:L.af≠[]->Q fY y):wp (gR .Eq (.b L.aU) (.b j)) Q X y:=by
 have n:j_ (iQ y 2) (L.af.map λr=>V.b r.aq)=fR (L.af.map (kN.data h)):=by
  have f:∀r∈L.af,y.get r.aq=fR (r.aE h):=λr f=>g.get (l.r r f);generalize L.af=o at f;induction o with|nil=>rfl|cons a r p=>
   have e:iQ y 2 (.b a.aq)=fR (a.data h):=by refine(?_:(match y.get a.aq with|some (.a xs)=>(j_ (iQ y 1) xs).map xe|some (.c xs)=>(j_ (iQ y 1) xs).map .tuple|_=>fU)=_);exact lE (f a ge) rfl
   refine(?_:(match iQ y 2 (.b a.aq)with|some d=>(j_ (iQ y 2) (r.map λr:kN=>V.b r.aq)).map (d::·)|none=>fU)=_);exact lE (p λq t=>f q (.tail _ t)) (lE e rfl)
 have u:iQ y 3 (.b L.aU)=fR (.list (L.af.map (kN.data h))):=by refine(?_:(match y.get L.aU with|some (.a xs)=>(j_ (iQ y 2) xs).map xe|some (.c xs)=>(j_ (iQ y 2) xs).map .tuple|_=>fU)=_);refine lE (g.get l.s) ?_;dsimp only;exact lE n rfl
 have v:iQ y 3 (.b j)=fR (.list []):=by refine(?_:(match y.get j with|some (.a xs)=>(j_ (iQ y 2) xs).map xe|some (.c xs)=>(j_ (iQ y 2) xs).map .tuple|_=>fU)=_);exact lE (g.get i) rfl
 refine gP (Zh h L.af) λa c=>?_;have w:qV (.list (L.af.map (kN.data h)))=fW:=by unfold qV;simp[sM,sP,a];exact gu c (iP _ _)
 refine⟨?_⟩;refine(?_:vY (qz (.b L.aU) (.b j) y) _ _);unfold qz;dsimp only;refine lE u (lE v ?_);dsimp only;refine lE (if_pos ⟨w,(by unfold qV;simp[sM,sP,sO,se])⟩) ?_;generalize e:L.af=x;induction x with|nil=>exact k e|cons q r=>
  have:qu (.list (Es (kN.data h) (q::r))) (.list [])=fY:=by simp[qu,xc]
  refine lE this<|m (by refine lE e ?_;exact List.cons_ne_nil _ _)
def Yg(x:Int):∃a:Bool,x.fmod (gV 2)=((hi a:Nat):Int):=by refine gy (Gu (x:=x) (n:=2) gO) λj b e=>?_;have e:=e;refine lE e<|GP ⟨fY,rfl⟩ ⟨fW,rfl⟩ j b
def PB(a:Bool):[u,v][hi a]?=fR (bif a then v else u):=by induction a<;>rfl
def Hl{K:V->M V}(a:St b s ts y)(l:jv L h ts)(c:L.af.length<=100)(f:L.af≠[])(g:∀A r B,L.af=A++r::B->wp (K (.b r.aq)) Q X y):wp (fS (kW [.b L.aU]) λb=>fS (hM Operator.Mod (.a t) b) λj=>fS (iG (.b L.aU) j) K) Q X y:=by
 have i:((L.af.map λr=>V.b r.aq).length:Int)=(L.af.length:Int):=by rw[iq]
 have Z8:=List.length_pos_iff.mpr f;refine fV<|GL (a.get l.s) (by rw[iq];exact gu c (iP _ _))<|lE i<|gy (Gu Z8) λj d e=>fV<|v_ (ma (Bo.mpr Z8))<|lE e<|fV<|sw a l.s (by refine lE lQ (lE (oO d) ?_);rfl) (by rw[iq];exact gu c (iP _ _))<|kS (aea (Er d)) λA B k=>g A _ B k
def Zq(h:mX b Y6 z t y)(j:t<=11)(g:∀G,mX b Y6 z (t+1) G->Q (.e fW) G):wp (F (d+9) 803 [.b b,N,.b Y6.1,.a x,.a (t:Int)]) Q X y:=by
 revert Y6 y N X h j g;revert b z t Q d x;refine @(nI E1 ?_);generalize gT.1.1.1=b,gT.1.1.2=z,gT.1.2=t,gT.2.1.1=Q,gT.2.1.2=d,gT.2.2=x;intro Y6 y N X h j g;obtain⟨s,own,H,W,L,ts,c,k,l,f,rfl,i⟩:=h;have q:=f.len;have n:z fW≠z fY:=λe=>k.cG (by rw[i,i];exact lE e rfl);refine gI (Yg (x.fdiv (gV 8))) λa u=>?_;revert own ts c k l f i g q n u;revert X y N s H W L a;refine @(lx E1 ?_);generalize gw.1.1.1=X,gw.1.1.2=y,gw.1.2.1=N,gw.1.2.2=s,gw.2.1.1=H,gw.2.1.2=W,gw.2.2.1=L,gw.2.2.2=a;refine λown ts c k l f i g q n u=>h_ (Uh (d+8) _ _ _ _ _)<|fV<|v_ gO<|fV<|AY ⟨by decide,by decide⟩<|wO c _ λa0 a1 I=>fV<|rR (I.get ge) rfl<|fV<|v_ gO ?_;have c:=I.sub hW;refine lE u<|fV<|vA c l.w gQ<|fV<|sw c l.h (PB a) gO<|fV<|vA c l.w gQ<|fV<|sw c l.t (PB a) gO ?_;have O:(bif a then V.a (z fW:Int)else V.a (z fY:Int))=V.a (z a:Int):=by induction a<;>rfl
 have P:(bif a then V.b (L.th fW)else V.b (L.th fY))=V.b (L.th a):=by induction a<;>rfl
 refine lE O (lE P ?_);refine wO c _ λa2 a3 J=>fV<|rR (J.get ge) rfl ?_;have c:=J.sub hW;refine fV<|vA c l.w gQ<|wI<|nL (λZ=>LF a c k l f rfl i j g) λa4=>wO c _ λa5 a6 v=>fV<|u9 v (l.up λZ=>.tail _) ge (λZ=>g_ rfl<|LF a (v.sub hW) k l f rfl i j g) λw=>jr l_ ?_;have c:=v.sub hW;have C:L.af.length<=100:=kZ j q;refine fV<|acr<|nL (λZ=>?_) λZ=>?_
 .refine fV<|AY ⟨by decide,by decide⟩<|Hl c l C w λA r B e=>?_;have m:r∈L.af:=by refine lE e ?_;simp
  refine fV<|AY ⟨by decide,by decide⟩<|fV<|GI c λnm R o D=>wO D _ λa7 S p=>fV<|rR (p.get ge) rfl ?_;have c:=p.sub hW;refine fV<|Ϧ c l m<|wJ<|nL (λe=>?_) λe=>?_;exact LE c k l f rfl i j m (.inl λE=>by rw[E]at e;simp at e) g
  .have T:r.a=a:=by
    have:(z r.a:Int)=(z a:Int):=by simpa using e
    have:z r.a=z a:=by lia
    cases h:r.a<;>induction a<;>rw[h]at this<;>first|rfl|exact absurd this n|exact absurd this.symm n
   refine fV<|Hr c l m<|wR<|nL (λe=>?_) λe=>?_;exact LE c k l f rfl i j m (.inr (by simpa using e)) g;exact Zn c k l f rfl i j m T (by simpa using e) o g
 refine fV<|AY ⟨by decide,by decide⟩<|fV<|GI c λnm R o D=>fV<|AY ⟨by decide,by decide⟩<|fV<|GI D λa8 S Y p=>wO p _ λa9 b0 K=>fV<|rR (K.get ge) rfl ?_;have c:=K.sub hW;have M:=l.fr a;refine wI<|nL (λZ=>?_) λZ=>?_
 .refine fV<|fV<|GA c (l.th a) M<|gj<|nL (λe=>?_) λe=>?_;exact Zm c k l f rfl i j o (by simpa using e) g;exact Zl c k l f rfl i j Y (by simpa using e) g
 refine wI<|nL (λZ=>?_) λZ=>?_
 .refine fV<|GA c (l.th a) M<|nL (λe=>?_) λe=>?_;exact Zo c k l f rfl i j (of_decide_eq_true e) g;exact Zp c k l f rfl i j o (λE=>e (decide_eq_true E)) g
 refine wI<|nL (λZ=>?_) λZ=>?_
 .refine fV<|v_ gO<|wI<|nL (λZ=>?_) λZ=>?_;exact Zk c k l f rfl i j g;exact Hl c l C w λA r B e=>LD c k l f rfl i j e g
 .exact Hl c l C w λA r B e=>LD c k l f rfl i j e g
def xB(d:tS):Prop:=d.canLay0=fW/\d.depth<=2/\qu d d=fW
def ϊ:∀{ds:List tS},(∀d∈ds,xB d)->sO ds=fW/\se ds<=2/\xc ds ds=fW:=by
 intro a;induction a with|nil=>exact λZ=>iy rfl (jT _) rfl|cons d r b=>
  refine λh=>iT (h d ge) λc j e=>iT (b λd f=>h d (.tail _ f)) λg k i=>iy ?_ ?_ ?_;simp[sO,c,g];simp[se];lia;simp[xc,e,i]
def ϋ(i:Int):xB (.int i):=iy rfl (jT _) (by simp[qu])
def ύ(h:RW x=fW):xB (.str x):=iy (by simp[sM,h]) (jT _) (by simp[qu])
def ό(i j:Int):xB (.tuple [.int i,.int j]):=iy rfl (by simp[sP,se]) (by simp[qu,xc])
def F_:∀{l:List t},(∀x∈l,f (g x)=fR (h x))->j_ f (l.map g)=fR (l.map h):=by intro b;induction b with|nil=>exact λZ=>rfl|cons a r c=>refine λk=>(?_:(match f (g a)with|some d=>(j_ f (r.map g)).map (d::·)|none=>fU)=_);exact lE (k a ge) (lE (c λx e=>k x (.tail _ e)) rfl)
noncomputable def LM.pk(m:LM):PK:=((m.made:Int),m.name)
def J3(h:ll nm):RW nm=fW:=by rcases h with rfl|rfl|rfl<;>decide+kernel
def ue(g:y.get i=fR (.a xs))(h:j_ (iQ y n) xs=fR ds):iQ y (n+1) (.b i)=fR (.list ds):=by refine(?_:(match y.get i with|some (.a xs)=>(j_ (iQ y n) xs).map xe|some (.c xs)=>(j_ (iQ y n) xs).map .tuple|_=>fU)=_);refine lE g ?_;dsimp only;exact lE h rfl
def LC(g:y.get i=fR (.c xs))(h:j_ (iQ y n) xs=fR ds):iQ y (n+1) (.b i)=fR (.tuple ds):=by refine(?_:(match y.get i with|some (.a xs)=>(j_ (iQ y n) xs).map xe|some (.c xs)=>(j_ (iQ y n) xs).map .tuple|_=>fU)=_);refine lE g ?_;dsimp only;exact lE h rfl
def Mf(b:iQ y 3 (.b i)=fR (.list ds))(c:iQ y 3 (.b j)=fR (.list ds))(e:∀d∈ds,xB d)(f:Q fW y):wp (gR .Eq (.b i) (.b j)) Q X y:=by
 refine iT (ϊ e) λg h k=>?_;have a:qV (.list ds)=fW:=by unfold qV;simp[sM,sP,g];exact gu h (iP _ _)
 refine⟨?_⟩;refine(?_:vY (qz (.b i) (.b j) y) _ _);unfold qz;dsimp only;refine lE b (lE c ?_);dsimp only;refine lE (if_pos ⟨a,a⟩) ?_;have:qu (.list ds) (.list ds)=fW:=by simp[qu,k]
 refine lE this<|f
def GU(a:iQ y 3 (.b i)=fR (.list ds))(b:iQ y 3 (.b j)=fR (.list ds))(c:∀d∈ds,xB d)(e:Q fY y):wp (gR .NotEq (.b i) (.b j)) Q X y:=fV (Mf a b c (gj e))
def DO(a:∀g∈h,y.get g.1=fR g.2)(b:Q (.a U) y):wp (lf h t x im U []) Q X y:=fV (mS a (gj b))
def Ie{X:gG->H->Prop}{y:H}{x a:f_}{U:gA}{b:List (Nat×O)}{c:gA->M Fl}{Q:Fl->H->Prop}{u v:V}{r:List It}(e:∀g∈b,y.get g.1=fR g.2)(h:wp (c (gW (gW U x u) a v)) (λf d=>match f with|.a ℓ'=>wp (lf b (rn x a) c im ℓ' r) Q X d|.b v=>Q (.b v) d) X y):wp (lf b (rn x a) c im U (.b u v::r)) Q X y:=by refine fV (mS e (fV (show wp (fX (gW (gW U x u) a v)) _ _ _ from gj (fV (pg h (λf d h=>?_) λZ Z h=>h)))));induction f with|a ℓ'=>exact h|b v=>exact gj h
def acv(g:y.get i=fR (.a xs))(a:y.get j=fR (.a h))(b:Q ⟨[(i,.a xs),(j,.a h)],Bk xs h⟩ y):wp (yE (.b i) (.b j)) Q X y:=fV (ql g (fV (ql a (gj b))))
def Τ:∀(m:List PK) (a:List HP) (y:H),St b s ((a.reverse.map HP.tup)++ts) y->(∀i (d:List HP) c,d.map (·.2)=a.map (·.2)++m->St b s ((i,.a (d.map HP.dN))::(d.reverse.map HP.tup)++ts) c->Q (.b i) c)->wp (tC (m.map λp=>(V.a p.1,p.2)) (a.map HP.dN)) Q X y:=by
 intro n;induction n with|nil=>exact λa y g k=>pH g _ λi c l=>k i a c (by rw[pn]) l|cons p r f=>
  refine λa y g k=>wO g _ λi c l=>?_;have o:St b s (((a++[(i,p)]).reverse.map HP.tup)++ts) c:=by exact lE QW<|l
  have f:=f (a++[(i,p)]) c o λj d q e h=>k j d q (by refine lE e ?_;simp) h;rw[kT]at f;exact f
def Zx(d:St b s ts y)(m:(i,TO f t)∈ts)(u:f=fW->t=[])(k:∀m∈t,(m.aq,O.c [.a m.aw,.a (m.made:Int)])∈ts)(w:t.length<=3)(o:∀j (l:List HP) c,l.map (·.2)=t.map LM.pk->St b s ((j,.a (l.map HP.dN))::(l.reverse.map HP.tup)++ts) c->Q (.b j) c):wp (Cu (.b i) (gV 1)) Q X y:=by
 have g:=d.get m;induction f with|true=>have e:=u rfl;subst e;exact fV (iS g (pH d _ λj c z=>o j [] c rfl z))|false=>
  refine fV (iS g ?_);have A:∀{t:List LM},(∀m∈t,(m.aq,O.c [.a m.aw,.a (m.made:Int)])∈ts)->ud y (gV 1) (mD t)=fR ((t.map LM.pk).map λp=>(V.a p.1,p.2)):=λ{t} k=>by
   induction t with|nil=>rfl|cons a r B=>
    have g:=d.get (k a ge);refine(?_:(match vj y (gV 1) (.b a.aq),ud y (gV 1) (mD r)with|some v,fR C=>fR ((v,a.name)::C)|_,_=>fU)=_);refine lE (B λx D=>k x (.tail _ D)) ?_;have:vj y (gV 1) (.b a.aq)=fR (.a (a.made:Int)):=by refine(?_:(match y.get a.aq with|some (.c xs)=>(nv (gV 1) xs.length).bind (xs[·]?)|_=>fU)=_);exact lE g rfl
    exact lE this rfl
  have n:=Τ (X:=X) (t.map LM.pk) [] y d λj E c e h=>o j E c e h;obtain⟨n⟩:=n;refine⟨?_⟩;refine(?_:vY (match ud y (gV 1) (mD t)with|some q=>if q.length<=100 then tC q [] y else .a|none=>.a) _ _);refine lE (A k) ?_;dsimp only;refine lE (if_pos (by rw[iq,iq];exact gu w (iP _ _)))<|n
noncomputable def vq(a:List LM)(nm:f_):Int:=((a.find? λm=>decide (m.name=nm)).map (·.aw)).getD 0
noncomputable def sx(a:List LM)(nm:f_):Nat:=((a.find? λm=>decide (m.name=nm)).map (·.made)).getD 0
def Gq{a:List LM}(c:(a.map (·.name)).Nodup)(b:m∈a):(a.find? λx=>decide (x.name=m.name))=fR m:=by
 cases e:a.find? λx=>decide (x.name=m.name)with|some x=>have d:=QP e;exact lE (GT c (aey e) b (of_decide_eq_true d)) rfl|none=>
  have:=aej.mp e m b;simp at this
noncomputable def CP(a:List LM)(nm:f_):Nat:=((a.find? λm=>decide (m.name=nm)).map (·.aq)).getD 0
abbrev IP:Type:=Nat×f_
def IP.tup(a:List LM)(x:IP):Nat×O:=(x.1,.c [.a (vq a x.2),.a (sx a x.2:Int)])
def NY(h:U.lookup x=fR u):mM [x] U=[(x,u)]:=by unfold mM;simp[h]
def NZ(h:U.lookup x=fR u)(a:U.lookup y=fR v):mM [x,y] U=[(x,u),(y,v)]:=by unfold mM;simp[h,a]
def CM{a:List LM}(b:(a.map (·.name)).Nodup)(c:m∈a):vq a m.name=m.aw/\sx a m.name=m.made:=by unfold vq sx;refine lE (Gq b c)<|⟨rfl,rfl⟩
def Np(a:Bool)(q:St b s ts y)(w:iO s own h t W)(f:jC s L W t)(H:∀(N:List PK) i l,N.Perm ((L.tm a).map LM.pk)->N.Pairwise mA->St b s ((i,.a (N.map λx=>V.d x.2))::ts) l->Q (.b i) l):wp (F (d+6) 644 [.b b,.a ((W a).k:Int)]) Q X y:=by
 have c:=w.aR a;have z:=f.three q w a;have j:=f.tm a;generalize e:(W a).aI=K;induction K with
 |none=>
  have A:nq (W a)=fU:=by unfold nq;exact lE e rfl
  have M:L.tm a=[]:=by unfold lM at j;rw[e]at j;exact aev.mp j
  rw[A]at c;exact V6 q c λi l C=>H [] i l (by refine lE M<|.nil) .nil C
 |some p=>
  obtain⟨O,o⟩:=p;have A:nq (W a)=fR (O,o.map MR.row):=by unfold nq;exact lE e rfl
  have D:lM (W a)=o:=by unfold lM;exact lE e rfl
  rw[A]at c;rw[D]at j;have I:∀r∈o,∃m∈L.tm a,m.name=r.name:=λr u=>by have:r.k∈(L.tm a).map LM.k:=lE j<|i_ u;refine mE this λm c e=>gx m c (congrArg pV e)
  have P:o.length<=3:=by
   have:=congrArg rW j;rw[iq,iq]at this;exact gu (gC this.symm) z.2
  refine V7 (g:=vq (L.tm a)) (mm:=sx (L.tm a)) q c (by rw[iq];exact P) (λx R=>?_) (λnm n B=>?_) λN i l S T C=>H N i l (S.trans ?_) T C;refine mE R λr u Y=>?_;obtain rfl:=Y;refine hZ λa0 v=>gy (I r u) λm c B=>jZ (f.ac q w c) λa1 a2 a3 Z=>gP (CM z.1 c) λE G=>?_;refine v ?_;clear v;refine(?_:r.name.length<=100/\hO (vq (L.tm a) r.name)/\sx (L.tm a) r.name<1000);refine rE B (lE E (lE G ?_));exact iy ((ux _ (z_ a3)).2.1) a1 a2;refine mE (tr B) λr u D=>hZ λa0 v=>gy (I r u) λm c a4=>jZ (f.ac q w c) λZ Z Z a5=>gP (CM z.1 c) λE G=>?_;refine v ?_;clear v;have J:m.name=nm:=a4.trans (congrArg pV D);refine rE J (lE E (lE G ?_));exact a5 n<|lE A (lE J B);have a6:(o.map MR.row).map (λx=>((sx (L.tm a) x.1:Int),x.1))=(o.map MR.k).map λk=>((sx (L.tm a) k.1:Int),k.1):=lE kR (lE kR rfl);refine lE a6 (rE j (lE kR ?_));refine List.Perm.of_eq (Et λm c=>?_);refine(?_:((sx (L.tm a) m.name:Int),m.name)=m.pk);exact lE ((CM z.1 c).2) rfl
inductive UW(b:Nat)(s:S)(ts:List (Nat×O))(c:Nat)(R:List f_)(d:List LM)(Z7 Z4:List V)(y:H):Prop|mk (A B:List f_) (a:List IP) (e:R=A++B) (f:Z4=B.map V.d) (g:Z7=(a:List IP).map (λx=>V.b x.1)) (h:a.map (·.2)=A) (i:St b s ((a.reverse.map (IP.tup d))++(c,.a (R.map .d))::ts) y)
def Ot(a:Bool)(E:St b s ts y)(C:iO s own nz t W)(l:jv L hn ts)(f:jC s L W t)(q:Kn [(fZ "told",.b (L.th a)),(fZ "head",.a ((W a).k:Int)),(fZ "base",.b b)] U)(a7:z=λℓ'=>fS (ig (jz (fZ "told") ℓ')) λv=>fS (Cu v (gV 1)) λv=>fS (rQ [v]) λv=>fS (jJ v) λr=>fS (iL (jw r.ai (rn "made" "name") (λℓ'=>fX fW) (λℓ'=>fS (ig (jz (fZ "name") ℓ')) λa=>fX a) im [] [] r.am)) λu=>if u.length<=hJ then
 fS (gM (O.a u)) λv=>
 fS (ig (jz (fZ "base") (gW ℓ' "names" v))) λd4=>
 fS (ig (jz (fZ "head") (gW ℓ' "names" v))) λd5=>
 fS (F (d+6) 644 [d4,d5]) λa=>
 fS (gR EG a v) λc=>
 if c=fW then fX (Fl.b (V.e fY))
 else
 fS (jJ v) λr=>
 fS
 (iL
 (jw r.ai (jF "name") (λℓ'=>fX fW)
 (λℓ'=>
 fS (ig (jz (fZ "base") ℓ')) λv=>
 fS (ig (jz (fZ "head") ℓ')) λd6=>
 fS (ig (jz (fZ "name") ℓ')) λd7=>fS (F (d+6) 632 [v,d6,d7]) λa=>fX a)
 im (mM ["base","head"] (gW ℓ' "names" v)) [] r.am))
 λu=>
 if u.length<=hJ then
 fS (gM (O.a u)) λa=>
 fS (jJ v) λr=>
 fS
 (iL
 (jw r.ai (jF "name") (λℓ'=>fX fW)
 (λℓ'=>
 fS (ig (jz (fZ "told") ℓ')) λv=>
 fS (ig (jz (fZ "name") ℓ')) λj=>fS (iG v j) λa=>fX a)
 im (mM ["told"] (gW ℓ' "names" v)) [] r.am))
 λu=>
 if u.length<=hJ then
 fS (gM (O.a u)) λb=>
 fS (gR EG a b) λc=>
 if c=fW then fX (Fl.b (V.e fY))else fX (Fl.a (gW ℓ' "names" v))
 else gc
 else gc
 else gc) (a8:∀v b7,St b s ts b7->Q (.a (gW U "names" v)) b7):wp (z U) Q X y:=by
  revert y own nz t hn z Q X E C l f q a7 a8;revert b s ts W L U d a;refine @(lx E1 ?_);generalize gw.1.1.1=b,gw.1.1.2=s,gw.1.2.1=ts,gw.1.2.2=W,gw.2.1.1=L,gw.2.1.2=U,gw.2.2.1=d,gw.2.2.2=a;intro y own nz t hn z Q X E C l f q a7 a8;have G:=f.three E C a;have K:=C.aR a;subst a7;refine wK q ge<|fV<|Zx E (l.th a) (l.fr a) (l.tm a) G.2 λd8 H g6 b8 d9=>?_;have b9:∀x∈H,x.tup∈(d8,O.a (H.map HP.dN))::(H.reverse.map HP.tup)++ts:=λx n=>qT _ (.tail _ (i_ (uM.mpr n)));have c0:H.length<=3:=by
   have:=congrArg rW b8;rw[iq,iq]at this;exact gu (gC this) G.2
  refine fV<|HE d9 ge b9 c0 λg7 a1 g8 a9 c1 I=>wV (I.get ge)<|wN<|Ls (g1 I ge) a1 [] _ (λx n=>.tail _ (b9 x (a9.mem_iff.mp n))) I ?_;have e0:∀l:List HP,(l.map λx=>V.d x.2.2)=((l.map (·.2)).map (·.2)).map V.d:=λl=>lE kR (lE kR rfl);have b0:=b8▸a9.map _;have b1:(a1.map (·.2)).length<=3:=by rw[iq];exact lE a9.length_eq<|c0
  rw[pT];refine lE (e0 a1) ?_;generalize a1.map (·.2)=N at b0 c1 b1;have I:=I.sub (.cons _ (.cons _ (QY (QI _))));have M:∀nm∈N.map (·.2),∃m∈L.tm a,m.name=nm:=λnm n=>by refine hZ λe1 S=>mE n λp H e2=>?_;obtain rfl:=e2;refine mE (b0.mem_iff.mp H) λm K e3=>?_;obtain rfl:=e3;refine S ?_;clear S;exact gx m K rfl
  have e4:∀l:List PK,(l.map λx=>V.d x.2)=(l.map (·.2)).map V.d:=λl=>lE kR rfl;refine g_ (by rw[iq,iq];exact gu b1 (iP _ _))<|wO I _ λb2 g9 e5=>?_;have T:=q.add (x:="names") (v:=.b b2) gQ;refine wK T mq<|wK T jh<|fV<|Np a e5 C f λa2 h0 c2 e6 e7 w=>?_;have e8:=aaJ (e6.trans b0.symm) e7 c1;subst e8;rw[e4]at w;have c3:∀nm∈a2.map (·.2),ll nm:=λnm n=>by refine gy (M nm n) λm K e9=>?_;obtain rfl:=e9;exact(f.ac E C K).2.2.1
  have ds:∀{i:Nat},c2.get i=fR (.a ((a2.map (·.2)).map V.d))->iQ c2 3 (.b i)=fR (.list ((a2.map (·.2)).map PyData.str)):=λg=>ue g (F_ λx Z=>rfl);refine fV<|GU (ds (w.get ge)) (ds (w.get gZ)) (λd b3=>?_)<|jr l_ ?_;refine mE b3 λnm n f0=>?_;obtain rfl:=f0;exact ύ (J3 (c3 nm n))
  have w:=w.sub hW;generalize f1:a2.map (·.2)=R at w M c3;have c4:R.length<=3:=by refine rE f1 ?_;rw[iq];exact b1
  refine lE (NZ (T _ mq) (T _ jh)) (lE (NY (T _ gZ)) ?_);have c5:=λ{J:LM} (o:J∈L.tm a)=>CM G.1 o;refine wV (w.get ge)<|wN<|zD (Z9:=[(fZ "base",.b b),(fZ "head",.a ((W a).k:Int))]) (P:=UW b s ts b2 R (L.tm a)) gQ (λ_ _ y ⟨_,_,_,_,_,_,_,h⟩=>g1 h (qo _ ge)) ?_ _ _ _ _ (Kn.cons gQ (Kn.cons gQ Kn.dN)) ⟨[],R,[],rfl,rfl,rfl,rfl,w⟩ ?_
  .rintro Z7 v Z4 U y q ⟨A,B,Y,e,a3,rfl,a4,h⟩;induction B using jg with|nil=>exact cN a3|cons nm B=>
    cases a3;refine hZ λe1 S=>gy (M nm (by refine lE e ?_;simp)) λJ o D=>?_;refine jZ (f.ac E C o) λf2 f3 c6 c7=>gP (c5 o) λa5 a6=>S ?_;clear S;have b4:=f.bk (nm:=nm) a;rw[decide_eq_true (D▸i_ o)]at b4;rw[D]at c7 a5 a6 c6;refine gj<|wK q gZ<|wK q jh<|wK q ge<|fV<|Dc h K (ux _ (z_ c6)).2.1 f2 f3 c7 (λf4 f5 Z b5=>?_) λf6=>by rw[f6]at b4;exact fT b4
    refine gj ⟨A++[nm],B,Y++[(f4,nm)],by refine lE e ?_;simp,rfl,by simp,by simp[a4],?_⟩;rw[QW,<-a5,<-a6]at*;exact b5
  rintro Z7 f5 ⟨A,B,Y,e,a3,rfl,a4,b5⟩;have:B=[]:=by induction B using jg<;>first|rfl|exact nC a3
  subst this;rw[pn]at e;subst e;have f7:Y.length<=3:=by
   have:=congrArg rW a4;rw[iq]at this;exact gu (gC this) c4
  refine g_ (by rw[iq];exact gu f7 (iP _ _))<|wO b5 _ λc8 h1 c9=>?_;have d0:∀t∈ts,t∈(c8,O.a (Y.map λx=>V.b x.1))::((Y.reverse.map (IP.tup (L.tm a)))++(b2,.a (R.map .d))::ts):=λt f8=>.tail _ (qo _ (.tail _ f8));refine wV (c9.get (.tail _ (qo _ ge)))<|fV<|xO (Z9:=[(fZ "told",.b (L.th a))]) (ws:=R.map λnm=>V.b (CP (L.tm a) nm)) gQ (by rw[iq,iq]) (λy h=>g1 h (.tail _ (qo _ ge))) (λk v h2 U y d1 b6 q h=>?_) (Kn.cons gQ Kn.dN) c9 λh3 f9=>?_;rw[lQ]at d1 b6;refine mI d1 λnm d2 g0=>?_;obtain rfl:=g0;rw[d2]at b6;obtain rfl:=gz b6;refine gy (M nm (Eu d2)) λJ o D=>wK q gZ<|wK q ge<|fV<|rE D<|MY h (d0 _ (l.th a)) (l.fr a) G.1 o<|gj ⟨?_,h⟩;dsimp only;unfold CP;exact lE (Gq G.1 o) rfl
  refine g_ (by rw[iq];exact gu c4 (iP _ _))<|wO f9 _ λg2 d3 a0=>?_;have g3:iQ d3 3 (.b c8)=fR (.list (R.map λnm=>.tuple [.int (vq (L.tm a) nm),.int (sx (L.tm a) nm:Int)])):=by refine ue (a0.get gZ)<|rE a4 (lE kR ?_);exact F_ λx n=>LC (a0.get (.tail _ (.tail _ (qT _ (i_ (uM.mpr n)))))) rfl
  have g4:iQ d3 3 (.b g2)=fR (.list (R.map λnm=>.tuple [.int (vq (L.tm a) nm),.int (sx (L.tm a) nm:Int)])):=by
   refine ue (a0.get ge) (F_ λnm n=>?_);refine gy (M nm n) λJ o D=>gP (c5 o) λa5 a6=>?_;have:CP (L.tm a) nm=J.aq:=by unfold CP;exact rE D (lE (Gq G.1 o) rfl)
   refine lE this (rE D (lE a5 (lE a6 ?_)));exact LC (a0.get (.tail _ (d0 _ (l.tm a J o)))) rfl
  refine fV<|GU g3 g4 (λd b3=>?_)<|jr l_<|gj<|a8 _ _<|a0.sub (.cons _ (.cons _ (QY hW)));refine mE b3 λnm Z g5=>?_;obtain rfl:=g5;exact ό _ _
def ϰ(h:mX b Y6 x t y)(o:∀k,mX b Y6 x t k->Q (.e fW) k):wp (F (d+7) 808 [.b b,.b Y6.1]) Q X y:=by
 obtain⟨s,own,p,W,L,ts,a,e,l,f,rfl,i⟩:=h;have j:∀{y},St b s ts y->∀g∈[(L.ih,O.a [V.a (x fY:Int),.a (x fW:Int)]),(L.it,.a [.b (L.th fY),.b (L.th fW)])],y.get g.1=fR g.2:=λh g c=>by
  rcases gX.mp c with rfl|c
  .exact h.get l.h
  .rw[js]at c;subst c;exact h.get l.t
 refine h_ (Ui (d+6) _ _)<|fV<|vA a l.w gQ<|fV<|vA a l.w gQ<|fV<|acv (a.get l.h) (a.get l.t)<|wN<|Ie (j a)<|Ot fY a e l f ?_ rfl λq r m=>?_;rw[i];exact Kn.cons gQ (Kn.cons gQ (Kn.cons gQ Kn.dN))
 refine Ie (j m)<|Ot fW m e l f ?_ rfl λu v n=>?_;rw[i];exact Kn.cons gQ (Kn.cons gQ (Kn.cons gQ Kn.dN))
 exact DO (j n)<|pM<|gj<|o _<|.mk n e l f rfl i
structure Kw(ts:List (Nat×O))(y:H):Prop where
 fin:∀i o,y.get i=fR o->i<y.n
 nd:(ts.map (·.1)).Nodup
 get:∀t∈ts,y.get t.1=fR t.2
def Kw.alloc(h:Kw ts y)(o:O):Kw ((y.n,o)::ts) (iJ y o) where
 fin:=λi o' e=>by
  have e:(if i=y.n then fR o else y.get i)=fR o':=e;by_cases q:i=y.n;exact oQ (gC q);rw[if_neg q]at e;exact ru (h.fin _ _ e)
 nd:=by refine lE iZ ?_;rw[jk];refine⟨λm=>?_,h.nd⟩;refine mE m λt a e=>?_;have:=h.fin _ _ (h.get t a);exact uQ this (gC e.symm)
 get:=λt m=>by
  rcases gX.mp m with rfl|m
  .exact FC
  .have g:=h.get t m;have:=h.fin _ _ g;refine(?_:(if t.1=y.n then fR o else y.get t.1)=_);exact lE (if_neg (jt this))<|g
def Kw.put(h:Kw ts y)(u:kB i o o' ts Z2):Kw Z2 (jY y i o'):=by
 have d:=h.get _ u.mem;refine⟨λj f e=>?_,by refine lE u.cK ?_;exact h.nd,λt m=>?_⟩
 .by_cases q:j=i;subst q;exact h.fin _ _ d;rw[jO q]at e;exact h.fin _ _ e
 .have a:=h.nd;have b:=h.get;clear h d;by_cases q:t.1=i
  .have:t.2=o':=by
    clear b;induction u with
    |dN=>
     rcases gX.mp m with rfl|m
     .rfl
     .rw[iZ,jk]at a;have mm:t.1∈Es (λt:Nat×O=>t.1) _:=i_ m;rw[q]at mm;exact absurd mm a.1
    |dO u c=>
     rw[iZ,jk]at a;rcases gX.mp m with rfl|m
     .exact absurd (by refine lE q<|i_ u.mem) a.1
     .exact c m a.2
   exact lE q (lE this vU)
  .refine lE (jO q)<|b t ?_;clear b a;induction u with
   |dN=>
    rcases gX.mp m with rfl|m
    .exact absurd rfl q
    .exact .tail _ m
   |dO _ c=>
    rcases gX.mp m with rfl|m
    .exact .head _
    .exact .tail _ (c m)
noncomputable def s1:S:=⟨1,λZ=>fU,λq=>if q=1 then fR []else fU,0,1⟩
def O6(h:Kw ((x,.d)::(L,.e [(1,.b x)])::(N,.d)::(b,.g 226 [(fZ "last",.a 1),(fZ "notes",.b N),(fZ "zaps",.b L)])::ts) y):St b s1 ts y:=by
 revert y h;revert x L N b ts;refine @(qJ E1 ?_);generalize iz.1.1.1=x,iz.1.1.2=L,iz.1.2=N,iz.2.1=b,iz.2.2=ts;intro y h;have j:=jk.mp h.nd;have l:=jk.mp j.2;have n:=jk.mp l.2;have o:=jk.mp n.2;have p:∀k:Int,∀e,s1.ae k=fR e->k=1/\e=[]:=λk e q=>by
  have q:(if k=1 then fR []else fU)=fR e:=q;by_cases d:k=1;rw[if_pos d]at q;obtain rfl:=gz q;exact⟨d,rfl⟩;rw[if_neg d]at q;injection q
 have r:∀k:Int,(s1.ae k).isSome=fW->k=1:=λk g=>by refine iE g λe s=>(p k e s).1
 refine iU ⟨N,L,λZ=>x⟩ ?_ o.2 (λt m=>⟨h.get _ (.tail _ (.tail _ (.tail _ (.tail _ m)))),?_⟩)
 .exact{
   fin:=h.fin
   ob:=h.get _ mq
   on:=n_ ([]) (.inr ⟨h.get _ jh,rfl⟩) wG rfl (λZ=>rfl)
   oz:=n_ ([(1,.b x)]) (h.get _ gZ) (rZ _ _) rfl (λk=>by
    refine(?_:je [((1:Int),V.b x)] k=Bv _ (if k=1 then fR []else fU));rw[pJ];by_cases d:k=1;exact lE (if_pos d) (lE (if_pos d.symm) rfl);exact lE (if_neg d) (lE (if_neg λz=>d z.symm) rfl))
   z:=λk e q=>by refine gP (p k e q) λZ u=>?_;obtain rfl:=u;exact gx .d (h.get _ ge) ⟨.inl ⟨rfl,rfl⟩,wG,jT _⟩
   inj:=λk v a c Z=>(r k a).trans (r v c).symm
   sep:=λz=>(qd h.nd 1 2 rfl rfl gO) z.symm
   bD:=λk Z z=>(qd h.nd 0 2 rfl rfl gO) z.symm
   top:=λk g=>⟨rfl,if_neg (by have g:((1:Nat):Int)<k:=g;exact ma g)⟩
   bt:=λZ=>.inl rfl
   cnt:=⟨by decide,by decide⟩}
 .have i:=i_ (f:=pV) m;rintro(z|z|z|⟨k,_,z⟩);exact o.1 (z▸i);have z:t.1=N:=z;exact(λm=>n.1 (.tail _ m)) (z▸i);have z:t.1=L:=z;exact(λm=>l.1 (.tail _ (.tail _ m))) (z▸i);have z:t.1=x:=z;exact(λm=>j.1 (.tail _ (.tail _ (.tail _ m)))) (z▸i)
def XU(h:Kw ts y)(j:∀b m,St b s1 ts m->Q (.b b) m):wp (nX (Tt (d+2)) (fR (.b 226 139)) []) Q X y:=by revert h j;revert ts y Q d X;refine @(qJ E1 ?_);generalize iz.1.1.1=ts,iz.1.1.2=y,iz.1.2=Q,iz.2.1=d,iz.2.2=X;refine λh j=>(?_:wp (fS (gM (.g 226 [])) λn=>fS (F (d+2) 139 [n]) λr=>match r with|.c=>fX n|_=>gc) Q X y);refine fV<|AV ?_;have f:=h.alloc (.g 226 []);generalize y.n=b at f;generalize iJ y (.g 226 [])=v at f|-;refine fV<|h_ (Tx (d+1) _)<|fV<|oL (f.get _ ge) vf (jT _) ?_;have o:=f.put (o':=.g 226 [(fZ "last",.a (gV 0))]) .dN;refine lE (show jm [] (fZ "last") (V.a (gV 0))=[(fZ "last",.a (gV 0))]from rfl) ?_;generalize jY v b _=p at o|-;refine fV<|AV ?_;have g:=o.alloc .d;generalize p.n=a at g;generalize iJ p .d=w at g|-;refine fV<|oL (g.get _ gZ) KI gO<|lE (show jm [(fZ "last",V.a (gV 0))] "notes" (V.b a)=[(fZ "last",.a (gV 0)),(fZ "notes",.b a)] by kernel_rfl) ?_;have q:=g.put (o':=.g 226 [(fZ "last",.a (gV 0)),(fZ "notes",.b a)]) (.dO .dN);generalize jY w b _=s at q|-;refine fV<|AV ?_;have i:=q.alloc .d;generalize s.n=c at i;generalize iJ s .d=x at i|-;refine fV<|oL (i.get _ jh) FG gO<|lE (show jm [(fZ "last",V.a (gV 0)),(fZ "notes",.b a)] "zaps" (V.b c)=[(fZ "last",.a (gV 0)),(fZ "notes",.b a),(fZ "zaps",.b c)] by kernel_rfl) ?_;have k:=i.put (o':=.g 226 [(fZ "last",.a (gV 0)),(fZ "notes",.b a),(fZ "zaps",.b c)]) (.dO (.dO .dN));generalize jY x b _=z at k|-;have Z1:=k.get _ jh;refine fV<|A_ Z1 (Gs (by decide+kernel)) (by decide+kernel)<|wY<|h_ (Ks d _)<|fV<|kz Z1 vf CI<|fV<|DN<|fV<|oL Z1 vf gO<|lE (show jm [(fZ "last",V.a (gV 0)),(fZ "notes",.b a),(fZ "zaps",.b c)] "last" (V.a (gV 0+gV 1))=[(fZ "last",.a 1),(fZ "notes",.b a),(fZ "zaps",.b c)] by kernel_rfl) ?_;have t:=k.put (o':=.g 226 [(fZ "last",.a 1),(fZ "notes",.b a),(fZ "zaps",.b c)]) (.dO (.dO .dN));generalize jY z b _=u at t|-;refine fV<|AV ?_;have e:=t.alloc .d;generalize u.n=A at e;generalize iJ u .d=B at e|-;have Z1:=e.get _ mq;refine fV<|kz Z1 FG Ms<|fV<|kz Z1 vf CI<|fV<|fV<|iS (e.get _ gZ)<|ph ?_;have l:=e.put (o':=.e [(1,.b A)]) (.dO .dN);generalize jY B c _=C at l|-;have Z1:=l.get _ mq;exact fV<|kz Z1 vf CI<|gj<|gj<|gj<|j _ _ (O6 l)
def J7(A:St b s ts y)(B:∀i q,St b s ts q->Q (.b i) q):wp (nX (Tt (d+1)) (fR (.b 722 673)) []) Q X y:=by
 have a:∀x∈["sector","blocks","gone","next","written"],si 722 x=fW:=by decide+kernel
 refine GX A λi F g=>h_ (Tv d _) ?_;have f:∀{fs:List (f_×V)} {k:f_} {v:V} {n:Nat},fs.length<=n->(jm fs k v).length<=n+1:=λ{fs k v n} h=>by rw[Hv];split<;>lia
 generalize C:([]:List (f_×V))=fs at g;have r:fs.length<=0:=rE C<|jT _;refine fV<|oL (g.get ge) (a _ ge) (gu r (iP _ _)) ?_;have j:=f (k:="sector") (v:=.a (gV 16)) r;refine wO (g.put .dN) _ λD G c=>?_;have c:=c.sub hW;generalize jm fs _ _=E at c j;refine fV<|oL (c.get ge) (a _ gZ) (gu j (iP _ _)) ?_;have l:=f (k:="blocks") (v:=.b D) j;refine wO (c.put .dN) _ λt H e=>?_;have e:=e.sub hW;generalize jm E _ _=u at e l;refine fV<|oL (e.get ge) (a _ jh) (gu l (iP _ _)) ?_;have m:=e.put (o':=.g 722 (jm u "gone" (.b t))) .dN;have o:=f (k:="gone") (v:=.b t) l;generalize jm u _ _=w at m o|-;refine fV<|oL (m.get ge) (a _ mq) (gu o (iP _ _)) ?_;have p:=m.put (o':=.g 722 (jm w "next" (.a (gV 1)))) .dN;have z:=f (k:="next") (v:=.a (gV 1)) o;generalize jm w _ _=I at p z|-;refine fV<|oL (p.get ge) (a _ pb) (gu z (iP _ _))<|gj ⟨rfl,B _ _ ((p.put .dN).sub hW)⟩
noncomputable def CR(l:Nat)(a:Int):Ds:=⟨(l+4:Int),a,1,⟨(l+1:Int),[(0,(l+2:Int))]⟩,(l+3:Int),0,0,0,""⟩
structure vd(s s':S)(p:Int)(a:mW)(b:Int):Prop where
 aa:s'.aa=s.aa+4
 nz:s'.nz=s.nz+2
 nn:s'.nn=s.nn+2
 ac:∀q:Int,q<=s.aa->q≠p->s'.ac q=s.ac q
 ae:∀q:Int,q<=s.aa->s'.ae q=s.ae q
 an:s'.ac p=fR (lq {a with dN:=(s.aa+4:Int)})
 hd:s'.ac (s.aa+4:Int)=fR (iK ((CR s.aa b).ax p 0 []))
 ag:jG s' ⟨(s.aa+1:Int),[(0,(s.aa+2:Int))]⟩
 sz:s'.ae (s.aa+3:Int)=fR []
def ND(h:St b s ts y)(n:s.ac p=fR (lq t))(v:t.ok)(w:hO p)(z:hO x)(A:s.aa+10<=50000)(f:∀s' j,vd s s' p t x->St b s' ts j->Q (.a (s.aa+4:Int)) j):wp (F (d+6) 564 [.b b,.a p,.a (gV 1),.a x]) Q X y:=by
 have o:=h.aS n;refine ι h n v w z A λe D j g r=>?_;have l:e.aa=s.aa+2:=g.aa;have B:D=⟨(s.aa+1:Int),[(0,(s.aa+2:Int))]⟩:=by refine gy (List.map_eq_singleton_iff.mp (List.perm_singleton.mp g.perm)) λp m C=>?_;have a:=g.new p (m▸.head _);have c:=g.ok.len' p (m▸.head _);have c:p=(0,(s.aa+2:Int)):=Prod.ext C (by lia);refine(?_:iN.mk D.z D.ks=_);rw[m,c,g.z]
 subst B;have k:(e.aa+2:Int)=(s.aa+4:Int):=congrArg (·+2) (congrArg gV l);have i:(e.aa+1:Int)=(s.aa+3:Int):=congrArg (·+1) (congrArg gV l);rw[k,i]at r;refine lE k<|f _ j ?_ r;have u:=g.grow;refine⟨?_,?_,?_,λq f E=>?_,λq f=>?_,if_pos rfl,?_,?_,?_⟩;exact congrArg (·+2) l;refine(?_:e.nz+1=s.nz+2);exact lE g.a rfl;refine(?_:e.nn+1=s.nn+2);exact lE g.nn rfl;refine(?_:(if q=p then _ else if q=((e.aa+1:Nat):Int)+1 then _ else e.ac q)=_);exact lE (if_neg E) (lE (if_neg (kY (oB (Ej i.symm) f))) (lE (u.ac q f) rfl));refine(?_:(if q=((e.aa:Nat):Int)+1 then _ else e.ae q)=_);exact lE (if_neg (kY (oB (Ej i.symm) f))) (lE (u.ae q f) rfl);refine(?_:(if(s.aa+4:Int)=p then _ else if(s.aa+4:Int)=((e.aa+1:Nat):Int)+1 then _ else e.ac _)=_);exact lE (if_neg (xz o)) (lE (if_pos k.symm) rfl)
 .refine g.ok.keep (by refine(?_:e.aa<=e.aa+1+1);exact by simp+arith) ?_ λq f=>?_;refine(?_:(if(s.aa+1:Int)=((e.aa:Nat):Int)+1 then _ else e.ae _)=_);exact lE (if_neg (kY (Ek (Ej i.symm)))) rfl;rw[js]at f;subst f;refine(?_:(if(s.aa+2:Int)=p then _ else if(s.aa+2:Int)=((e.aa+1:Nat):Int)+1 then _ else e.ac _)=_);exact lE (if_neg (xz o)) (lE (if_neg (kY (Ek (Ej k.symm)))) rfl)
 .refine(?_:(if(s.aa+3:Int)=((e.aa:Nat):Int)+1 then _ else e.ae _)=_);exact lE (if_pos i.symm) rfl
def vd.A(b:vd s s' p y t)(d:k=s.aa+4)(e:y.ok)(f:0<p)(g:hO p)(i:hO t)(l:s.aa+10<=50000)(n:own p=.an h)(o:own (s.aa+1:Int)=.a h 0)(r:own (s.aa+2:Int)=.c h (s.aa+1:Int))(u:own (s.aa+3:Int)=.i h)(v:own (s.aa+4:Int)=.b h 0):oX s' own h 2 ⟨k,p,{y with dN:=(s.aa+4:Int)},CR s.aa t,[],fU⟩ where
 kE:=by exact congrArg gV d.symm
 dn:=b.an
 bW:=n
 ca:=e.put ⟨(kr _),by lia⟩
 d0:=by exact ma f
 dN:=rfl
 aJ:=by
  refine⟨{ac:=b.hd,bo:=?_,pos:=by exact Fv,aV:=v,ag:=b.ag,aN:=o,ownp:=λq c=>?_,two:=λw=>by cases w},trivial⟩
  .have z:hO 0:=⟨by decide,by decide⟩;have A:hO 1:=⟨by decide,by decide⟩;have fs:∀j:Nat,j<=4->hO (s.aa+(j:Int)):=λj B=>⟨(kr _),(oB (kP.mpr l) (kP.mpr B))⟩;have C:=fs 1 gO;have D:=fs 3 gO
   repeat' first|exact g|exact i|exact z|exact A|exact C|exact D|exact λZ m=>nM m|refine mc ?_ ?_
  .have c:q∈[(0,(s.aa+2:Int))]:=c;rw[js]at c;subst c;exact r
 bH:=rfl
 bT:=λx a=>nM a
 ord:=.nil
 m2:=λx a=>nM a
 hm:=rfl
 kl:=λx a=>by have a:=a;rw[js]at a;subst a;refine(?_:1<=2);decide
 sz:=b.sz
 br:=u
noncomputable def yf:pF:=λq=>if q=1 then .f else if q=4 then .an 0 else if q=5 then .a 0 0 else if q=6 then .c 0 5 else if q=7 then .i 0 else if q=8 then .b 0 0 else if q=11 then .an 1 else if q=12 then .a 1 0 else if q=13 then .c 1 12 else if q=14 then .i 1 else if q=15 then .b 1 0 else .j
def yA:mW:=tb 0 2 3 0
def yB:mW:=tb 4 9 10 0
def W0:Bool->Hd:=λa=>if a then⟨15,11,{yB with dN:=(11+4:Int)},CR 11 2,[],fU⟩else⟨8,4,{yA with dN:=(4+4:Int)},CR 4 1,[],fU⟩
noncomputable def yc:List (f_×Int):=[(fZ "root",(4:Int))]
def sA:S:=(s1.aA.aA.aO (lq yA)).aF 1 yc
def sC(s:S):S:=(s.aA.aA.aO (lq yB)).aF 2 [(fZ "d",(11:Int))]
def Ih:yA.ok:=Gd ⟨by decide,by decide⟩ ⟨by decide,by decide⟩ ⟨by decide,by decide⟩ ⟨by decide,by decide⟩
def P_:yB.ok:=Gd ⟨by decide,by decide⟩ ⟨by decide,by decide⟩ ⟨by decide,by decide⟩ ⟨by decide,by decide⟩
def ack(p:St b t ts y)(a:vd sA t 4 yA 1)(c:vd (sC t) z 11 yB 2):iO z yf yc 2 W0:=by
 have g:t.aa=8:=a.aa;have d:(sC t).aa=11:=by refine(?_:t.aa+1+1+1=11);exact sT g
 have n:z.aa=15:=lE c.aa (lE d rfl);have B:oX z yf 1 2 (W0 fW):=by
  have:=vd.A (own:=yf) c (lE d rfl) P_ gO ⟨by decide,by decide⟩ ⟨by decide,by decide⟩ (by refine lE d ?_;decide) rfl (lE d rfl) (lE d rfl) (by exact lE d rfl) (by exact lE d rfl);rw[d]at this;exact this
 have F:pE t z yf yf (λr=>r=.j\/r=.an 1):=by
  refine⟨(kZ (gC g) (gC n.symm)),λq j o=>iy ?_ ?_ rfl⟩;rw[c.ac q (by lia) (λe=>o (.inr (lE e rfl)))];refine(?_:(if q=((t.aa+1+1:Nat):Int)+1 then _ else t.ac q)=_);exact lE (if_neg (kY (ra j))) rfl;refine lE (c.ae q (by lia))<|(?_:(if q=2 then _ else if q=((t.aa+1:Nat):Int)+1 then _ else if q=((t.aa:Nat):Int)+1 then _ else t.ae q)=_);rw[if_neg (λe=>o (.inl (by exact lE e rfl))),if_neg (Fu j),if_neg (kY (oo j))]
 have C:=(vd.A a rfl Ih gO ⟨by decide,by decide⟩ ⟨by decide,by decide⟩ gO rfl rfl rfl rfl rfl).frame p.bB F (by rintro r (rfl|rfl|⟨i,rfl|rfl|rfl|rfl⟩|⟨f,rfl⟩)<;>(rintro(f|f)<;>cases f)) (ij _);have l:∀k:Nat,(k=8\/k=15)->yc.lookup (jX k)=fU/\(lh k).length<=100/\jX k≠"root":=λk h=>by rcases h with rfl|rfl<;>decide+kernel
 exact{
  names:=(F.2 1 (ra (kP.mpr (gC g.symm))) (by rintro(f|f)<;>injection f)).2.1.trans ((a.ae 1 gO).trans (show sA.ae 1=fR yc from rfl))
  bh:=rfl
  A:=λa=>by induction a<;>assumption
  M:=λa=>by
   have h:(W0 a).k=8\/(W0 a).k=15:=by
    cases a;exact .inl rfl;exact .inr rfl
   have m:(W0 a).aI=fU:=by induction a<;>rfl
   refine iT (l _ h) λs u Z=>⟨(by rcases h with h|h<;>(refine lE h ?_;decide)),u,by refine lE m<|s,(λf v e=>by rw[m]at e;injection e),(λf v e=>by rw[m]at e;injection e)⟩
  cG:=by decide+kernel
  bM:=nF 4 ([]) rfl (λx w=>nM w)
  nroot:=λa=>by
   cases a;exact(l 8 (.inl rfl)).2.2;exact(l 15 (.inr rfl)).2.2
  cz:=by refine lE c.nz<|(?_:t.nz+1+1+2=_);exact lE a.nz rfl
  cn:=by refine lE c.nn<|(?_:t.nn+1+2=_);exact lE a.nn rfl
  aa:=gu (gC n) (iP _ _)
  t9:=⟨by decide,by decide⟩}
def aaR{K:V->V->V->M V}(o:St b s1 ts y)(p:∀s l,St b s ts l->iO s yf yc 2 W0->s.nz=9->s.nn=6->wp (K (.a 4) (.a 8) (.a 15)) Q X l):wp (fS (F (d+6) 465 [.b b]) λf=>fS (F (d+6) 564 [.b b,f,V.a (gV 1),V.a (gV 1)]) λq=>fS (F (d+6) 487 [.b b,f,V.d "d"]) λr=>fS (F (d+6) 564 [.b b,r,V.a (gV 1),V.a (gV 2)]) λt=>K f q t) Q X y:=by
 refine fV<|V2 o rfl gO λD g=>?_;have g:=g;refine fV<|ND g rfl Ih ⟨by decide,by decide⟩ ⟨by decide,by decide⟩ gO λa E c m=>?_;have h:a.aa=8:=c.aa;have i:(a.aa+1:Int)=9:=congrArg (·+1) (congrArg gV h);have u:(a.aa+2:Int)=10:=congrArg (·+1) i;have j:(a.aa+3:Int)=11:=congrArg (·+2) i;have v:({yA with dN:=(sA.aa+4:Int)}:mW).ok:=Ih.put ⟨by decide,by decide⟩;refine fV<|Ve m c.an v ((c.ae 2 gO).trans rfl) ⟨by decide,by decide⟩ (by decide+kernel) (by decide+kernel) (iX (gC h)) λw e=>?_;rw[i,u,j]at e;refine lE j ?_;have e:St b (sC a) ts w:=e;have n:(sC a).aa=11:=by refine(?_:a.aa+1+1+1=11);exact sT h
 have x:(sC a).ac 11=fR (lq yB):=by refine(?_:(if(11:Int)=((a.aa+1+1:Nat):Int)+1 then _ else _)=_);exact lE (if_pos j.symm) rfl
 refine fV<|ND e x P_ ⟨by decide,by decide⟩ ⟨by decide,by decide⟩ (iX (gC n)) λz A k B=>?_;have C:((sC a).aa+4:Int)=15:=Tm (congrArg gV n);refine lE C<|p z A B (ack m c k) ?_ ?_;refine lE k.nz<|(?_:a.nz+1+1+2=_);exact lE c.nz rfl;refine lE k.nn<|(?_:a.nn+1+2=_);exact lE c.nn rfl
def aca:jP (jP W a u) a v=jP W a v:=by funext c;unfold jP;split<;>rfl
def NP(g:St b s ts y)(c:Q (.a (s.nn:Int)) y):wp (fS (jx (Tt d) (.b b) "notes") λv=>kW [v]) Q X y:=by
 refine gy g ?_;intro L h _;refine mF h.on λi a j e k=>?_;have f:=h.cnt;refine fV<|uc h ?_;rcases a with a|⟨a,rfl⟩
 .exact fV (iS a (g_ (vC (lG (gC e) f.1 f.2)) (gj (by refine lE e<|c))))
 .rw[<-e]at c;exact fV (iS a (gj c))
def Qr(e:St b s ts y)(f:Q (.a (s.nz:Int)) y):wp (fS (jx (Tt d) (.b b) "zaps") λv=>kW [v]) Q X y:=by refine gy e ?_;intro L h _;refine mF h.oz λi g j a k=>?_;have c:=h.cnt;exact fV<|xK h<|fV (iS g (g_ (vC (lG (gC a) c.1 c.2)) (gj (by refine lE a<|f))))
def PT{a b:V}(g:y.get i=fR (.a t))(c:t.length<=1000)(d:un a=fR l)(e:rK t.length b=fR h)(f:wp (gM (.a (mY t l h))) Q X y):wp (lY (.b i) a b) Q X y:=fV (ql g (g_ (by unfold hJ;exact gu c (iP _ _)) (fV (kI d (fV (kI e f))))))
def PO{X:gG->H->Prop}{y:H}{x:f_}{U:gA}{a:List (Nat×O)}{b:gA->M Fl}{Q:Fl->H->Prop}{u:V}{r:List It}(d:∀g∈a,y.get g.1=fR g.2)(h:wp (b (gW U x u)) (λf c=>match f with|.a ℓ'=>wp (lf a (jF x) b im ℓ' r) Q X c|.b v=>Q (.b v) c) X y):wp (lf a (jF x) b im U (.a u::r)) Q X y:=by refine fV (mS d (fV (wa (fV (pg h (λf c h=>?_) λZ Z h=>h)))));induction f with|a ℓ'=>exact h|b v=>exact gj h
def PL(a:∀g∈t,y.get g.1=fR g.2)(h:wp (z (gW U x u)) (λv b=>wp (jw t (jF x) (λZ=>fX fW) z im (gW U x u) (Z7++[v]) r) Q X b) X y):wp (jw t (jF x) (λZ=>fX fW) z im U Z7 (.a u::r)) Q X y:=fV (mS a (fV (wa (fV (gj (g_ rfl (fV h)))))))
def acl(a:∀g∈h,y.get g.1=fR g.2)(b:Q Z7 y):wp (jw h (jF x) (λZ=>fX fW) t im U Z7 []) Q X y:=fV (mS a (gj b))
def PS(e:x=h)(a:Q fY y):wp (gR .NotEq (.d x) (.d h)) Q X y:=⟨by subst e;refine(?_:Q (!decide (x=x)) y);refine lE (decide_eq_true rfl)<|a⟩
def acp(a:Q (decide (h<x)) y):wp (gR .Gt (.a x) (.a h)) Q X y:=⟨a⟩
def Mb(a:Bool)(q:St b s ts y)(k:iO s own N t W)(f:jC s L W t)(l:Kn [(fZ "head",.a ((W a).k:Int)),(fZ "base",.b b)] U)(w:z=λℓ'=>fS (fS (gM (O.f "law.<locals>.<lambda>")) λx=>lZ (Tt (d+9)) (fS (fS (ig (jz (fZ "base") (mM ["base","head"] ℓ'))) λv=>fS (fS (ig (jz (fZ "head") (mM ["base","head"] ℓ'))) λv=>fX [v,V.d "zz"]) λj=>fX (v::j)) λj=>F (d+9) 632 j)) λa=>fS (gR EG a (V.d "missing")) λc=>if c=fW then fX (Fl.b (V.e fY))else
 fS
 (fS (gM (O.f "law.<locals>.<lambda>")) λx=>
 lZ (Tt (d+9))
 (fS
 (fS (ig (jz (fZ "base") (mM ["base","head"] ℓ')))
 λv=>
 fS
 (fS
 (ig (jz (fZ "head") (mM ["base","head"] ℓ')))
 λv=>
 fS
 (fS
 (ig
 (jz (fZ "head")
 (mM ["base",fZ "head"] ℓ')))
 λv=>fX [v,V.d "m"])
 λj=>fX (v::j))
 λj=>fX (v::j))
 λj=>F (d+9) 625 j))
 λa=>
 fS (gR EG a (V.d "misused")) λc=>
 if c=fW then fX (Fl.b (V.e fY))
 else
 fS (ig (jz (fZ "base") ℓ')) λv=>
 fS (ig (jz (fZ "head") ℓ')) λI=>
 fS (F (d+9) 658 [v,I]) λx=>
 fS (ig (jz (fZ "base") ℓ')) λv=>
 fS (ig (jz (fZ "head") ℓ')) λJ=>
 fS (F (d+9) 658 [v,J]) λx=>fX (Fl.a ℓ')) (B:∀s' K M C,St b s' ts C->iO s' K M t (jP W a ((W a).ao fU))->jC s' {L with tm:=λo=>if o=a then[]else L.tm o,fresh:=λo=>if o=a then fY else L.fresh o} (jP W a ((W a).ao fU)) t->Q (.a U) C):wp (z U) Q X y:=by
  revert s ts y own N t z q k f l w B;revert b W L U d Q X a;refine @(lx E1 ?_);generalize gw.1.1.1=b,gw.1.1.2=W,gw.1.2.1=L,gw.1.2.2=U,gw.2.1.1=d,gw.2.1.2=Q,gw.2.2.1=X,gw.2.2.2=a;intro s ts y own N t z q k f l w B;subst w;have A:=k.A a;have r:=f.bk (nm:=fZ "zz") a;have P:fZ "zz"∉(L.tm a).map (·.name):=λm=>by refine mE m λa6 R e=>?_;have e:=e;have G:=(f.ac q k R).2.2.1;rw[e]at G;rcases G with h|h|h<;>exact absurd h (by decide+kernel)
  rw[decide_eq_false P]at r;have p:Kn [(fZ "head",.a ((W a).k:Int)),(fZ "base",.b b)] (mM [fZ "base",fZ "head"] U):=by refine lE (NZ (l _ gZ) (l _ ge))<|Kn.cons gQ (Kn.cons gQ Kn.dN)
  refine fV<|wO q _ λa7 a8 u=>uG<|fV<|wK p gZ<|fV<|wK p ge<|gj<|gj<|Dc (g:=0) (m:=0) u (k.aR a) (by decide+kernel) ⟨by decide,by decide⟩ gO (λn e=>by rw[e]at r;injection r) (λi C e=>by rw[r]at e;injection e) λZ=>gx _ rfl<|fV<|PS rfl<|jr l_ ?_;have u:=u.sub hW;refine fV<|wO u _ λa9 b0 S=>uG<|fV<|wK p gZ<|fV<|wK p ge<|fV<|wK p ge<|gj<|gj<|gj<|GR S A.aJ (lE A.kE rfl) (kZ (DE A k.t9.1) k.t9.2) (λZ b1 D=>gx _ rfl ?_) λx T e=>?_;refine fV<|PS rfl<|jr l_ ?_;have D:=D.sub hW;refine wK l gZ<|wK l ge<|fV<|HS a D k λb2 b3 b4 Y a0 a1=>?_;have a2:((jP W a ((W a).ao fU)) a).k=(W a).k:=lE jS rfl;refine wK l gZ<|wK l ge<|fV<|rE a2<|HS a Y a0 λb5 b6 b7 a3 E a4=>gj ?_;rw[aca,jS]at E;have a5:((W a).ao fU).ao fU=(W a).ao fU:=rfl;rw[a5]at E;exact B _ _ _ _ a3 E (f.marked (ij _) (gu (gC a1.symm) (gC a4.symm)) rfl);exfalso;have H:=Hf A;rw[iZ,jk]at H;refine H.1<|lE A.kE (rE e ?_);exact i_ T
def u8{P:Nat->H->Prop}(n:(((x,V.c)::Z9).all λp=>!(p.1==t))=fW)(n':(Z9.all λp=>!(p.1==x))=fW)(c:∀j y,P j y->∀g∈z,y.get g.1=fR g.2)(i:∀(v:Int) (j:Nat) U y,j<10->Kn ((t,.a v)::(x,.a (j:Int))::Z9) U->P j y->wp (L U) (λf a=>f=.a U/\P (j+1) a) X y):∀(d:List Int) (j:Nat) (U:gA) (y:H),j+d.length<=10->Kn Z9 U->P j y->wp (lf z (rn x t) L im U (uh (j:Int) (d.map .a))) (λf a=>∃ℓ' k,f=.a ℓ'/\Kn Z9 ℓ'/\k<=10/\P k a) X y:=by intro l;induction l with|nil=>exact λj U y b k p=>DO (c _ _ p) (rL U j rfl k (by simpa using b) p)|cons v r m=>intro j U y b k p;rw[qn]at b;have e:Kn ((t,.a v)::(x,.a (j:Int))::Z9) (gW (gW U x (.a (j:Int))) t (.a v)):=(k.add n').add n;refine Ie (c _ _ p) (pg (i v j _ _ (iX b) e p) ?_ λZ Z h=>h);rintro f a ⟨rfl,h⟩;have:=m (j+1) _ a (iX b) e.tail.tail h;rw[show((j+1:Nat):Int)=(j:Int)+1 by exact rfl]at this;exact this
noncomputable def kN.ag(r:kN):kN:={r with dN:=fY}
inductive Ti(b:Nat)(own:pF)(d:List (f_×Int))(t:Nat)(L e:LS)(W:Bool->Hd)(ts:List (Nat×O))(Z4:List V)(y:H):Prop|mk (A B:List kN) (s':S) (a:Bool->Hd) (f:L.af=A++B) (g:Z4=B.map (λr=>V.b r.aq)) (h:St b s' ts y) (i:iO s' own d t a) (j:jC s' {e with af:=A.map kN.ag++B} a t) (k:∀c,(a c).k=(W c).k/\(a c).aI=(W c).aI)
def q8(q:St b s ts y)(u:iO s own N t W)(l:jv L hn ts)(f:jC s z W t)(w:z.af=L.af)(n:(Z9.all λp=>!(p.1=="row"))=fW)(C:(fZ "base",.b b)∈Z9)(D:(fZ "io",io)∈Z9)(a:Kn Z9 U)(E:a0=λℓ'=>fS (ig (jz (fZ "row") ℓ')) λv=>fS (iG v (V.a (gV 4))) λv=>fS (lO v) λc=>if c=fW then fS (ig (jz (fZ "base") ℓ')) λv=>fS (ig (jz (fZ "io") ℓ')) λK=>fS (ig (jz (fZ "row") ℓ')) λM=>fS (iG M (V.a (gV 1))) λS=>fS (F (d+8) 775 [v,K,S,V.a (gV 99)]) λx=>fX (Fl.a ℓ')else fX (Fl.a ℓ'))(G:∀ℓ' s' g H,Kn Z9 ℓ'->St b s' ts H->iO s' own N t g->jC s' {z with af:=L.af.map kN.ag} g t->(∀c,(g c).k=(W c).k/\(g c).aI=(W c).aI)->Q (.a ℓ') H):wp (lf [(L.aU,O.a (L.af.map λr=>V.b r.aq))] (jF "row") a0 im U ((L.af.map λr=>V.b r.aq).map .a)) Q X y:=by
 revert s y hn io U a0 Q X q u l f w n C D a E G;revert b ts own N t W L z Z9 d;refine @(qj E1 ?_);generalize gN.1.1.1.1=b,gN.1.1.1.2=ts,gN.1.1.2=own,gN.1.2.1=N,gN.1.2.2=t,gN.2.1.1.1=W,gN.2.1.1.2=L,gN.2.1.2=z,gN.2.2.1=Z9,gN.2.2.2=d;intro s y hn io U a0 Q X q u l f w n C D a E G;subst E;refine vp (P:=Ti b own N t L z W ts) (R:=λZ Z=>False) n (λZ4 y ⟨_,_,_,_,_,_,h,_,_,_⟩=>g1 h l.s) ?_ ?_ (λZ Z h=>h.elim) _ _ _ a ⟨[],L.af,s,W,rfl,rfl,q,u,by refine lE IY ?_;rw[pT];refine rE w<|f,λZ=>⟨rfl,rfl⟩⟩
 .rintro v Z4 U y a ⟨A,B,s',g,e,m,h,o,i,j⟩;induction B using jg with|nil=>injection m|cons r B=>
   cases m;have I:r∈L.af:=by refine lE e ?_;simp
   refine wK a ge<|fV<|Hr h l I<|wR<|nL (λk=>?_) λk=>?_;refine wK a (.tail _ C)<|wK a (.tail _ D)<|wK a ge<|fV<|Dv h l I<|fV<|L_ h o i rfl k λT Y a5 a1 a2 a3 J=>gj ⟨a.tail,A++[r],B,T,Y,by refine lE e ?_;simp,rfl,a1,a2,?_,λc=>⟨(J c).1.trans (j c).1,(J c).2.trans (j c).2⟩⟩;refine lE kT ?_;rw[Em];exact a3
   .have k:r.dN=fY:=by simpa using k
    have a4:r.ag=r:=by unfold kN.ag;exact rE k rfl
    refine gj ⟨a.tail,A++[r],B,s',g,by refine lE e ?_;simp,rfl,h,o,?_,j⟩;have:(A++[r]).map kN.ag++B=A.map kN.ag++r::B:=by refine lE kT ?_;rw[Em];exact lE List.map_singleton (lE a4 rfl)
    exact lE this<|i
 .rintro ℓ' H a ⟨A,B,s',g,e,m,h,o,i,j⟩;have:B=[]:=by induction B using jg<;>first|rfl|injection m
  subst this;rw[pn]at e;rw[pn,<-e]at i;exact G _ _ _ _ a h o i j
def Vi(w:St b s ts y)(d:iO s own z t W)(f:jC s L W t)(n:∀r∈L.af,r.dN=fY)(j:∀c,(W c).aI=fU):s.nz=9/\s.nn<=6/\z.map (·.1)=[fZ "root"]:=by
 have g:∀c,(W c).sn=[]:=λc=>by generalize e:(W c).sn=o;induction o with|nil=>rfl|cons x r=>refine jy (f.sn c x (by refine lE e ?_;exact .head _)) λr p l Z=>?_;rw[n r p]at l;injection l
 have k:=d.cz;have i:=d.cn;unfold Hd.cz at k;unfold Hd.cn at i;rw[g,g,j,j]at k i;refine iy (by simpa[Di]using k) (by simp[oh,ur]at i;exact lG (gC i) (f.em fW (g fW)) (f.em fY (g fY)))<|jR d.bM λr u e h=>?_;induction u using jg with|nil=>exact lE e rfl|cons x q=>
  exfalso;refine gI (h x ge) λa v=>?_;have m:=(d.M a).key;rw[j a]at m;have:(z.lookup x.1).isSome=fW:=by refine lE Nh (lE decide_eq_true_eq (lE e ?_));simp
  rw[v,m]at this;injection this
def St.dN(h:St b s ts y):(ts.map (·.1)).Nodup:=jy h λZ Z n Z=>n
def Zf{xs:List Int}:mY (xs.map V.a) 0 n=(xs.take n).map V.a:=by unfold mY;exact rE List.map_take rfl
def um(c:Bool):Nat:=(W0 c).k
noncomputable def NS(i:Nat):List Int->List (Nat×O)|[]=>[]|u::r=>[(i,.a (.a u::r.map .a))]
def Nq(a:Bool)(e:(W a).k=k)(g:St b s ts y)(j:iO s own h t W)(f:jC s L W t)(l:∀(N:List PK) i c,N.Perm ((L.tm a).map LM.pk)->N.Pairwise mA->St b s ((i,.a (N.map λx=>V.d x.2))::ts) c->Q (.b i) c):wp (F (d+6) 644 [.b b,.a (k:Int)]) Q X y:=by subst e;exact Np a g j f l
def Q7{I:List Int}(a2:Kw [(z,.a (I.map .a))] y)(b1:I.length<=63)(b2:∀a3,Q (.e fW) a3):wp (vh (Tt (d+9)) 40 tn [.b z]) Q X y:=by
 revert y a2 b1 b2;revert z Q d X I;refine @(qJ E1 ?_);generalize iz.1.1.1=z,iz.1.1.2=Q,iz.1.2=d,iz.2.1=X,iz.2.2=I;intro y a2 b1 b2;refine h_ (Ug (d+9) _)<|fV<|XU (d:=d+7) a2 λb c8 b3=>fV<|J7 (d:=d+8) b3 λJ c9 b4=>wO b4 _ λd0 d1 R=>fV<|rR (R.get ge) rfl ?_;revert a2 b3 b4 d0 R;revert y b c8 J c9 d1;refine @(nI E1 ?_);generalize gT.1.1.1=y,gT.1.1.2=b,gT.1.2=c8,gT.2.1.1=J,gT.2.1.2=c9,gT.2.2=d1;intro a2 b3 b4 d0 R;have R:=R.sub (Z2:=[(z,O.a (I.map V.a))]) hW;refine aaR (d:=d+3) R λs j6 e9 w f0 f1=>wO e9 _ λK j7 a4=>wO a4 _ λd2 f2 a6=>wO a6 _ λd3 f3 S=>wO S _ λb5 f4 T=>wO T _ λb6 f5 a7=>wO a7 _ λY6 f6 G=>vZ<|fV<|NP G<|vZ<|fV<|Qr G<|wM (a:=223) G (by decide+kernel)<|wY<|vH (d:=d+7) G w.names λa8 H q=>?_;have f7:(qK (yc.map (·.1))).map V.d=[V.d "root"]:=by kernel_rfl
 rw[f7]at q;refine wO q _ λM f8 W=>?_;rw[f0,f1]at W;refine fV<|PT (l:=0) (h:=10) (W.get (.tail _ (.tail _ (.tail _ my)))) (by rw[iq];exact(gu b1 (iP _ _))) rfl rfl<|pH W _ λb7 b8 B=>?_;rw[Zf]at B;have d4:(I.take 10).length<=10:=by refine lE aes ?_;lia
 generalize I.take 10=b9 at B d4;refine fV<|fV<|ql (B.get ge)<|gj<|wN ?_;let L:LS:=⟨Y6,K,b5,b6,λc=>if c then d3 else d2,λZ=>[],λZ=>fW,[],(M,.a [.a ((6:Nat):Int),.a ((9:Nat):Int),.b a8])::(a8,.a [.d "root"])::NS b7 b9⟩;have nd:=B.dN;obtain⟨ts,B,l⟩:∃ts,St b s ts b8/\jv L (λc=>(um c:Int)) ts:=gx _ B ({
  frm:=λt D=>by
   rcases gX.mp D with rfl|D
   .exact⟨.tail _ ge,.inl (MK _ _ _ rfl)⟩
   .rcases gX.mp D with rfl|D
    .exact⟨.tail _ gZ,.inr (.inl ⟨_,rfl⟩)⟩
    .induction b9 using jg with|nil=>exact nM D|cons u r=>have D:t∈[(b7,O.a (.a u::r.map .a))]:=D;rw[js]at D;subst D;exact⟨.head _,.inr (.inr (qA u r rfl))⟩
  w:=.tail _ jh
  h:=.tail _ (.tail _ (.tail _ my))
  t:=.tail _ pb
  s:=.tail _ mq
  th:=λc=>by
   cases c;exact .tail _ (.tail _ my);exact .tail _ my
  fr:=λZ Z=>rfl
  tm:=λZ m f9=>nM f9
  r:=λr C=>nM C
  nd:=List.Perm.nodup (.cons Y6 (.trans (.swap b5 b6 _) (.trans (QV (l₁:=[b5,b6,d3,d2])) (.cons _ (.cons _ (.cons _ (.swap _ _ _))))))) (agx (.cons _ (.cons _ (.cons _ (.cons₂ _ (.cons₂ _ (.cons₂ _ (.cons₂ _ (.cons₂ _ (.cons₂ _ (.cons _ .slnil)))))))))) nd)})
 have f:jC s L W0 2:={
  tm:=λc=>by induction c<;>rfl
  len:=ij _
  sn:=λc x E=>by induction c<;>exact nM E
  rl:=λr C=>nM C
  dd:=λr C=>nM C
  le:=λr C=>nM C
  nm:=λc x E=>by induction c<;>exact nM E
  cA:=.nil
  gd:=λr C=>nM C
  em:=λc Z=>by induction c<;>exact ij _}
 have d5:mX b L.key um 2 b8:=.mk B w l f rfl λZ=>rfl;refine pg (Q':=λf a3=>∃ℓ' k,f=.a ℓ'/\Kn [(fZ "base",.b b),(fZ "io",.b J),(fZ "world",.b Y6),(fZ "heads",.b K),(fZ "many",.b M)] ℓ'/\k<=10/\mX b L.key um (2+k) a3) ?_ (λf a3 h=>?_) λZ Z h=>h
 .have d6:Kn [(fZ "base",.b b),(fZ "io",.b J),(fZ "world",.b Y6),(fZ "heads",.b K),(fZ "many",.b M)] (gW (gW (gW (gW (gW (gW [(fZ "script",V.b z)] "base" (.b b)) "io" (.b J)) "root" (.a 4)) "heads" (.b K)) "world" (.b Y6)) "many" (.b M)):=Kn.cons gQ (Kn.cons gQ (Kn.cons gQ (Kn.cons gQ (Kn.cons gQ Kn.dN))));induction b9 using jg with|nil=>exact DO (g1 B ge) (rL _ 0 rfl d6 gO d5)|cons u r=>
   refine u8 (P:=λj y=>mX b L.key um (2+j) y) gQ gQ (λj y h=>?_) (λv j U y g0 o h=>?_) (u::r) 0 _ _ (by simpa using d4) d6 d5;obtain⟨s',_,_,_,g2,Z2,g3,_,g4,_,e,_⟩:=h;have g5:g2.fm=L.fm:=congrArg (λp=>p.2.2) e;exact g1 g3 (g4.frm (b7,O.a (.a u::r.map .a)) (by refine lE g5 ?_;simp[L,NS])).1
   .refine wK o jh<|wK o mq<|wK o pb<|wK o ge<|wK o gZ<|fV<|DN ?_;have c0:(gV 2+(j:Int))=((2+j:Nat):Int):=by refine(?_:(2:Int)+(j:Int)=_);exact rfl
    refine lE c0<|fV<|Zq (d:=d) (Y6:=L.key) h ((iX g0)) λa3 g6=>wR<|jr gO<|wK o jh<|wK o pb<|fV<|ϰ (d:=d+2) (Y6:=L.key) g6 λj8 g7=>wR<|jr gO<|gj ⟨rfl,g7⟩
 refine hZ λj9 d7=>?_;refine jR h ?_;clear h;intro ℓ' k g8 d8;obtain rfl:=g8;refine iT d8 ?_;clear d8;intro o k0 g9;obtain⟨k1,k2,k3,A,c1,h0,a4,h1,Y,h2,c2,c3⟩:=g9;refine d7 ?_;clear d7;have h3:c1.iw=Y6:=congrArg (λp=>p.1) c2;have h4:c1.ih=K:=congrArg (λp=>p.2.1) c2;have d9:c1.fm=L.fm:=congrArg (λp=>p.2.2) c2;have mm:=(Y.frm (M,.a [.a ((6:Nat):Int),.a ((9:Nat):Int),.b a8]) (by refine lE d9 ?_;exact .head _)).1;have F:=Y.h;have c4:=Y.w;rw[h4]at F c4;rw[h3]at c4;refine pM<|wK o mq<|wV (a4.get F)<|wN ?_;have a5:∀{U:gA} {v:V},Kn [(fZ "base",.b b),(fZ "io",.b J),(fZ "world",.b Y6),(fZ "heads",.b K),(fZ "many",.b M)] U->Kn [(fZ "head",v),(fZ "base",.b b),(fZ "io",.b J),(fZ "world",.b Y6),(fZ "heads",.b K),(fZ "many",.b M)] (gW U "head" v):=λo=>o.add gQ;have e0:∀{U:gA} {v:V} {Z9:List (f_×V)},Kn ((fZ "head",v)::(fZ "base",.b b)::Z9) U->Kn [(fZ "head",v),(fZ "base",.b b)] U:=λk=>Kn.cons (k _ ge) (Kn.cons (k _ gZ) Kn.dN);refine PO (g1 a4 F)<|Mb (d:=d) fY a4 h1 h2 (by rw[c3];exact e0 (a5 o)) rfl λk4 k5 k6 f2 a6 h5 h6=>PO (g1 a6 F)<|Mb (d:=d) fW a6 h5 h6 (by refine lE qN.2.2 ?_;rw[c3];exact e0 (a5 (a5 o).tail)) rfl λk7 k8 h7 f3 S e1 e2=>?_;refine DO (g1 S F)<|pM ?_;have o:=(a5 (v:=.a (um fW:Int)) (a5 (v:=.a (um fY:Int)) o).tail).tail;generalize gW (gW ℓ' "head" _) "head" _=k9 at o|-;have e3:∀c,(jP (jP A fY ((A fY).ao fU)) fW (((jP A fY ((A fY).ao fU)) fW).ao fU) c).aI=fU:=λc=>by induction c<;>rfl
 have e4:∀c,(jP (jP A fY ((A fY).ao fU)) fW (((jP A fY ((A fY).ao fU)) fW).ao fU) c).k=um c:=λc=>by refine lE qN.2.2 (lE qN.2.2 ?_);rw[c3]
 generalize jP (jP A fY ((A fY).ao fU)) fW (((jP A fY ((A fY).ao fU)) fW).ao fU)=l0 at e1 e2 e3 e4;refine wK o jh<|fV<|vA S c4 gQ<|wV (S.get Y.s)<|wN<|q8 (d:=d+1) S e1 Y e2 rfl gQ ge gZ o rfl λh8 l1 h9 f4 o T a9 c5 e5=>pM ?_;obtain⟨i0,i1,i2⟩:=Vi T a9 c5 (λr C=>by refine mE C λl2 Z i3=>?_;obtain rfl:=i3;rfl) λc=>(e5 c).2.trans (e3 c)
 refine wK o ge<|vZ<|fV<|Qr T<|wK o ge<|wM (a:=223) T (by decide+kernel)<|wY<|vH (d:=d+7) T a9.names λl3 f5 a7=>?_;have i4:(qK (h7.map (·.1))).map V.d=[V.d "root"]:=by refine lE i2 ?_;kernel_rfl
 rw[i4]at a7;refine wO a7 _ λl4 f6 G=>?_;rw[i0]at G;refine wK o pb<|fV<|PT (l:=1) (h:=3) (G.get (.tail _ (.tail _ mm))) gO rfl rfl<|pH G _ λl5 H q=>?_;have e6:∀{i j:Nat},H.get i=fR (.a [.a ((9:Nat):Int),.b j])->H.get j=fR (.a [.d "root"])->iQ H 3 (.b i)=fR (.list [.int 9,.list [.str "root"]]):=λ{i j} g c6=>by refine ue g ?_;have c7:=ue (n:=1) c6 (ds:=[.str "root"]) rfl;refine(?_:(match iQ H 2 (.a ((9:Nat):Int))with|some d=>(j_ (iQ H 2) [.b j]).map (d::·)|none=>fU)=_);refine(?_:((match iQ H 2 (.b j)with|some d=>(j_ (iQ H 2) []).map (d::·)|none=>fU).map λl=>EL ((9:Nat):Int)::l)=_);exact lE c7 rfl
 have i5:RW "root"=fW:=by decide+kernel
 refine fV<|GU (e6 (q.get gZ) (q.get jh)) (e6 (q.get ge) (q.get (.tail _ (.tail _ (.tail _ ((Y.frm (a8,.a [.d "root"]) (by refine lE d9 ?_;exact .tail _ ge)).1)))))) (λx E=>?_)<|jr l_ ?_
 .simp only[gX,kK,or_false]at E;rcases E with rfl|rfl
  .exact ϋ _
  .exact iy (by simp[sM,sO,i5]) (by simp[sP,se]) (by simp[qu,xc])
 have q:=q.sub (Z2:=h0) (.cons _ (.cons _ hW));refine wK o ge<|vZ<|fV<|NP q<|wK o pb<|fV<|sw (k:=0) q mm rfl gO<|fV<|acp<|jr (by simp;exact(kP.mpr i1))<|wK o mq<|wV (q.get F)<|wN<|lE (show mM ["base"] h8=[(fZ "base",V.b b)]from NY (o _ ge)) ?_;have a0:∀{v:V} {U:gA},Kn [(fZ "base",V.b b)] U->Kn [(fZ "head",v),(fZ "base",V.b b)] (gW U "head" v):=λk=>k.add gQ;have b0:Kn [(fZ "base",V.b b)] [(fZ "base",V.b b)]:=Kn.cons gQ Kn.dN;have e7:∀c,(h9 c).k=um c:=λc=>(e5 c).1.trans (e4 c);refine PL (g1 q F)<|wK (a0 b0) gZ<|wK (a0 b0) ge<|fV<|Nq (d:=d+3) fY (e7 fY) q a9 c5 λi6 l6 f8 i7 Z W=>?_;have i8:i6=[]:=QG i7;subst i8;refine gj<|PL (g1 W (.tail _ F))<|wK (a0 (a0 b0).tail) gZ<|wK (a0 (a0 b0).tail) ge<|fV<|Nq (d:=d+3) fW (e7 fW) W a9 c5 λi9 l7 b8 j0 Z B=>?_;have j1:i9=[]:=QG j0;subst j1;refine gj<|acl (g1 B (.tail _ (.tail _ F)))<|g_ gO<|wO B _ λl8 l9 j2=>wO j2 _ λm0 m1 j3=>wO j3 _ λm2 m3 j4=>wO j4 _ λm4 N a1=>?_;have e8:∀{i j k:Nat},N.get i=fR (.a [.b j,.b k])->N.get j=fR (.a [])->N.get k=fR (.a [])->iQ N 3 (.b i)=fR (.list [.list [],.list []]):=λ{i j k} g c6 j5=>by refine ue g ?_;have c7:=ue (n:=1) c6 (ds:=[]) rfl;have c0:=ue (n:=1) j5 (ds:=[]) rfl;refine(?_:(match iQ N 2 (.b j)with|some d=>(match iQ N 2 (.b k)with|some d=>(j_ (iQ N 2) []).map (d::·)|none=>fU).map (d::·)|none=>fU)=_);exact lE c7 (lE c0 rfl)
 refine fV<|Mf (e8 (a1.get mq) (a1.get my) (a1.get pb)) (e8 (a1.get ge) (a1.get jh) (a1.get gZ)) (λx E=>?_)<|gj<|b2 _;simp only[gX,kK,or_false]at E;rcases E with rfl|rfl<;>exact iy (by simp[sM,sO]) (by simp[sP,se]) (by simp[qu,xc])
def MA{h:hV}(e:h.objs.toList[a]?=fR o)(f:vz o=fY):h.get? a=fR o:=by
 unfold afu;have e:h.objs[a]?=fR o:=by refine rE rq ?_;exact e
 refine lE e ?_;obtain⟨c,d,x,s⟩:=o;induction x<;>first|rfl|(cases f;done)
def U1{h:hV}(e:h.get? a=fR o):h.objs.toList[a]?=fR o/\vz o=fY:=by unfold afu at e;refine lE rq ?_;generalize h.objs[a]?=q at e|-;induction q with|none=>exact nS e|some Z1=>obtain⟨c,d,x,s⟩:=Z1;induction x<;>first|exact nS e|(obtain rfl:=gz e;exact⟨rfl,rfl⟩)
def H1:∀{n a:Nat} {o:iY},(xT n l).lookup a=fR o->n<=a/\l[a-n]?=fR o/\vz o=fY:=by
 induction l with|nil=>intro _ _ _ e;exact nS e|cons x r c=>
  intro n a o e;rw[show xT n (x::r)=if vz x=fW then xT (n+1) r else(n,x)::xT (n+1) r from rfl]at e;have Z4:(xT (n+1) r).lookup a=fR o->n<=a/\(x::r)[a-n]?=fR o/\vz o=fY:=λe=>by refine iT (c e) λd f g=>iy (Nat.le_of_succ_le d) ?_ g;exact lE (show a-n=(a-(n+1))+1 by lia) (lE List.getElem?_cons_succ f)
  by_cases b:vz x=fW;rw[if_pos b]at e;exact Z4 e
  .rw[if_neg b,jn]at e;by_cases q:a=n;rw[q,beq_self_eq_true]at e;rw[q,<-gz e,Rh];exact iy (ij _) rfl (adX.mpr b);rw[beq_eq_false_iff_ne.mpr q]at e;exact Z4 e
def acP:K.In iI:=λa o e=>by unfold K at e;refine iT (H1 e) λZ b c=>MA b c
def Bg:pG where
 a:=by kernel_rfl
 dG:=by kernel_rfl
 zip:=by kernel_rfl
 set:=by kernel_rfl
 du:=by kernel_rfl
def Aj[BEq a][LawfulBEq a]{l:List (a×t)}(h:l.lookup k=fR v):(k,v)∈l:=jR (rX.mp h) λb c e Z=>e▸qo _ ge
def og{l:List t}(h:l.map f=l.map g):∀a∈l,f a=g a:=List.map_inj_left.mp h
noncomputable def xN:List gG:=[226,428,525,722]
def Qb:∀C∈xN,zi C:=λC a=>by have h:=og (f:=λC=>(lS K (.ref C) "__getattribute__",lS K (.ref C) "__getattr__",lS K (.ref C) "__setattr__",plainOver K C,(EX K C).any (·.hasDict))) (g:=λZ=>(fR (fR (.builtin "object.__getattribute__")),fR fU,fR (fR (.builtin "object.__setattr__")),fW,fW)) (l:=xN) gQ C a;simp only[wT]at h;exact⟨h.1,h.2.1,h.2.2.1,h.2.2.2.1,h.2.2.2.2⟩
def Vr:∀e∈Ci,e.1∈xN:=λe a=>by exact of_decide_eq_true (og (f:=λe:gG×List f_=>decide (e.1∈xN)) (g:=λZ=>fW) (l:=Ci) gQ e a)
def W7:∀e∈Df,e.1.1∈xN:=λe a=>by exact of_decide_eq_true (og (f:=λe:(gG×f_)×gG=>decide (e.1.1∈xN)) (g:=λZ=>fW) (l:=Df) gQ e a)
noncomputable def HW:V->gv->Bool|.a i,.int j _=>decide (i=j)|.d i,.str j _=>decide (i=j)|.c,.none=>fW|_,_=>fY
def PG(h:HW v c=fW):∀z,VR z v c:=by
 induction v with
 |a i=>induction c with|int j t=>obtain rfl:=of_decide_eq_true h;exact λZ=>.dN _ _|_=>exact fT h
 |d i=>induction c with|str j t=>obtain rfl:=of_decide_eq_true h;exact λZ=>.dP _ _|_=>exact fT h
 |c=>induction c with|none=>exact λZ=>.dR|_=>exact fT h
 |_=>exact fT h
def Nr(v:V)(o:Option (Option gv)):Bool:=o.any (·.any (HW v))
def V8(h:Nr v o=fW):∃c,o=fR (fR c)/\∀z,VR z v c:=by induction o with|none=>exact fT h|some o=>induction o with|none=>exact fT h|some c=>exact gx c rfl (PG h)
noncomputable def Mw(e:f_×G):Option (f_×gG):=match e.2 with|.a a=>fR (e.1,a)|_=>fU
noncomputable def Mz(e:f_×G):Option (f_×V):=match e.2 with|.d a=>fR (e.1,a)|_=>fU
noncomputable def Mv(e:f_×G):Option (f_×gG×gG):=match e.2 with|.b a c=>fR (e.1,a,c)|_=>fU
noncomputable def CL(e:f_×G):Option (f_×f_):=match e.2 with|.f a=>fR (e.1,a)|_=>fU
def vr{f:f_×G->Option t}(h:td.lookup x=fR g)(e:f (x,g)=fR a):a∈td.filterMap f:=Bs.mpr (gx _ (Aj h) e)
def Bh(f:gG->List V->M V):k_ (TB.at f) where
 attr:=λC nm h=>by
  have h:si C nm=fW:=h;unfold si at h;split at h;rename_i l c;have m:=Aj c;refine⟨Qb C (Vr _ m),?_⟩;refine gy (wu.mp h) λn d e=>?_;have e:=of_decide_eq_true e;subst e;have a:=og (f:=λe:gG×List f_=>e.2.map λx=>lS K (.ref e.1) x) (g:=λe=>e.2.map λZ=>fR fU) (l:=Ci) gQ _ m;exact og a _ d;injection h
 bJ:=λC nm f h=>by have h:uq C nm=fR f:=h;refine mI h λe b i=>?_;obtain rfl:=i;have m:=aey b;have q:=QP b;rw[lr,decide_eq_true_eq,decide_eq_true_eq]at q;refine gP q ?_;clear q;intro j k;obtain rfl:=j;obtain rfl:=k;have a:=og (f:=λe:(gG×f_)×gG=>(lS K (.ref e.1.1) e.1.2,BG K (.ref e.2),sf K (.ref e.2))) (g:=λe=>(fR (fR (.ref e.2)),fR (.type "function"),fW)) (l:=Df) gQ e m;simp only[wT]at a;exact⟨Qb _ (W7 _ m),a⟩
 val:=λx v h=>by have m:=vr (f:=Mz) h rfl;have a:=og (f:=λe:f_×V=>(e.1==("__debug__":f_),Nr e.2 (lT K jK e.1))) (g:=λZ=>(fY,fW)) (l:=td.filterMap Mz) gQ _ m;simp only[wT]at a;exact⟨a.1,V8 a.2⟩
 fn:=λx v h=>by have m:=vr (f:=Mw) h rfl;have a:=og (f:=λe:f_×gG=>(e.1==("__debug__":f_),lT K jK e.1,sf K (.ref e.2))) (g:=λe=>(fY,fR (fR (.ref e.2)),fW)) (l:=td.filterMap Mw) gQ _ m;simp only[wT]at a;exact a
 cls:=λx C v h=>by have m:=vr (f:=Mv) h rfl;have a:=og (f:=λe:f_×gG×gG=>(e.1==("__debug__":f_),lT K jK e.1,sf K (.ref e.2.1),makesIn K e.2.1,lS K (.ref e.2.1) "__init__",BG K (.ref e.2.2))) (g:=λe=>(fY,fR (fR (.ref e.2.1)),fW,fW,fR (fR (.ref e.2.2)),fR (.type "function"))) (l:=td.filterMap Mv) gQ _ m;simp only[wT]at a;exact a
 bi:=λx nm h=>by have m:=vr (f:=CL) h rfl;have a:=og (f:=λe:f_×f_=>(e.1==("__debug__":f_),lT K jK e.1,decide (e.1≠"__name__"),decide (e.1=e.2))) (g:=λe=>(fY,fR fU,fW,fW)) (l:=td.filterMap CL) gQ _ m;simp only[wT,decide_eq_true_eq]at a;exact a
def DU(f:gG->List V->M V):qb (TB.at f) where
 bi:=λx nm h=>by have a:=og (f:=λe:f_×f_=>(lH e.2).isSome) (g:=λe=>fW) (l:=td.filterMap CL) gQ _ (vr (f:=CL) h rfl);exact aeY.mp a
noncomputable def Mm:Data->Option FuncData|.func a=>fR a|_=>fU
noncomputable def Mr:Data->Option (Array gv)|.fields a=>fR a|_=>fU
noncomputable def DF:Data->Option (Array gv×Nat)|.seq a n=>fR (a,n)|_=>fU
noncomputable def tx:gv->Option f_|.str q _=>fR q|_=>fU
noncomputable def Hq:gv->Option gG|.ref a=>fR a|_=>fU
def Ou(h:hV)(a:gG):Option FuncData:=(h.get? a).bind λo=>Mm o.data
def B6(e:Mm d=fR h):d=.func h:=by induction d with|func f=>obtain rfl:=gz e;rfl|_=>exact nS e
def F6(e:Mr d=fR h):d=.fields h:=by induction d with|fields f=>obtain rfl:=gz e;rfl|_=>exact nS e
def aaM{q:Array gv×Nat}(e:DF d=fR q):d=.seq q.1 q.2:=by induction d with|seq f n=>obtain rfl:=gz e;rfl|_=>exact nS e
def abY{q:f_}(e:tx v=fR q):∃t,v=.str q t:=by induction v with|str q t=>obtain rfl:=gz e;exact⟨t,rfl⟩|_=>exact nS e
def Ϣ(e:Hq v=fR a):v=.ref a:=by induction v with|ref a=>obtain rfl:=gz e;rfl|_=>exact nS e
def Ϸ(e:Ou h a=fR t):∃o,h.get? a=fR o/\o.data=.func t:=bI e λo h e=>gx o h (B6 e)
def Ll(h:hV)(v:gv):Option f_:=(Hq v).bind λc=>(h.get? c).bind λo=>(Mr o.data).bind λa=>(a[1]?:Option gv).bind tx
def YU{q:f_}(e:Ll h v=fR q):h.CodeRec v q:=bI e λc a e=>bI e λo b e=>bI e λd f e=>bI e λx g e=>gI (abY e) λt e=>CT c o d t (Ϣ a) b (F6 f) (g.trans (congrArg _ e))
def Gj:List V->List gv->Bool|[],a=>a.isEmpty|v::b,a=>match a with|c::a=>HW v c&&Gj b a|[]=>fY
def r8(h:Gj x t=fW):ib (λv c=>∀z,VR z v c) x t:=by induction x generalizing t with|nil=>rw[wy.mp h];exact .dO|cons v x a=>induction t with|nil=>exact fT h|cons c t _=>have h:=uI.mp h;exact .dN (PG h.1) (a h.2)
def LI(h:hV)(a:List V)(v:gv):Bool:=match v with|.none=>a.isEmpty|v=>((Hq v).bind λT=>(h.get? T).bind λo=>DF o.data).any λq=>Gj a q.1.toList
def Zv(e:LI h t v=fW):∃ds,((ds=[]/\v=.none)\/(∃T o n,v=.ref T/\h.get? T=fR o/\o.data=.seq ds.toArray n))/\ib (λv c=>∀z,VR z v c) t ds:=by
 induction v with
 |none=>rw[wy.mp e];exact gx [] (.inl ⟨rfl,rfl⟩) .dO
 |ref T=>have e:(((h.get? T).bind λo=>DF o.data).any λq=>Gj t q.1.toList)=fW:=e;generalize a:((h.get? T).bind λo=>DF o.data)=q at e;induction q with|none=>exact fT e|some q=>exact bI a λo b d=>gx q.1.toList (.inr (ti T o q.2 rfl b ((aaM d).trans (by rw[yG])))) (r8 e)
 |_=>exact fT e
def NX(p:tP)(k:ii):Bool:=p.posonlyargs.isEmpty&&(p.kwonlyargs.isEmpty&&(p.vararg.isNone&&(p.kwarg.isNone&&(decide ((p.args.map (·.arg)).Nodup)&&(vK k&&(((p.args.map (·.arg)).all λx=>decide (k.lookup x=fR .local)||decide (k.lookup x=fR .cell))&&((k.all λa=>!decide (a.2=.free))&&(decide ((Ct p.defaults).length<=(p.args.map (·.arg)).length)&&decide ((Ct p.defaults).length<=1)))))))))
noncomputable def Cq:gG->Option (gG×f_)|803=>fR (802,"_law_deed_right")|813=>fR (812,"law")|_=>fU
def H6{k:ii}(h:(k.all λa=>!decide (a.2=.free))=fW)(x:f_):k.lookup x≠fR .free:=λe=>by
 have:=Bp.mp h _ (Aj e);simp at this
def Ce:List (gG×jB):=(782,zB 103)::(35,lP 2 0)::zY
def adB:∀e∈Ce,(Ou iI e.1).map (λa=>(a.body,a.scope.names,a.scope.kind,a.scope.isCoroutine,a.scope.isGenerator,a.closure,a.globals,a.builtins,a.params,decide (Ll iI a.code=fR a.qualname),LI iI (Ct (wb e.2).defaults) a.defaults,if(qD (rU e.2).names).isSome then(a.code,a.qualname)else(.none,a.name)))=fR (.stmts (wc e.2),(rU e.2).names,.function,fY,fY,[],jK,tT,wb e.2,fW,fW,match Cq e.1 with|some p=>(.ref p.1,p.2)|none=>(.none,mT e.2)):=og gQ
def adg:∀e∈Ce,NX (wb e.2) (rU e.2).names=fW:=og gQ
def acQ:∀e∈Ce,qD (rU e.2).names=(Cq e.1).map λp=>if p.1=802 then(798,fZ "_law_deed_right.<locals>.<lambda>")else(810,"law.<locals>.<lambda>"):=og gQ
def Ea:JA iI 802 798/\JA iI 812 810:=⟨⟨adO,_,"/claim/cut.py",1364,3,0,fW,181,0,by kernel_rfl,rfl,rfl,by kernel_rfl,by kernel_rfl,by kernel_rfl,by kernel_rfl,by kernel_rfl,by kernel_rfl,by decide⟩,⟨adP,_,"/claim/cut.py",1376,3,0,fW,181,0,by kernel_rfl,rfl,rfl,by kernel_rfl,by kernel_rfl,by kernel_rfl,by kernel_rfl,by kernel_rfl,by kernel_rfl,by decide⟩⟩
def Qk:iI.get? 798=fU/\iI.get? 810=fU:=⟨by kernel_rfl,by kernel_rfl⟩
def Ik(f:e∈Ce):sW e.1 (sy e.2):=by
 revert f;revert e;refine @(Hp E1 ?_);generalize AA=e;intro f;have h:=adg e f;unfold NX at h;simp only[lr,wy,Jl,decide_eq_true_eq]at h;refine DP h ?_;intro l m n r s t u v w y;refine mI (adB e f) λz A a=>gP (nU a) λB a=>gP (nU a) λC a=>gP (nU a) λD a=>gP (nU a) λE a=>gP (nU a) λF a=>gP (nU a) λG a=>gP (nU a) λH a=>gP (nU a) λI a=>gP (nU a) λJ a=>gP (nU a) λK a=>gP (nU a) λL k=>?_;refine gy (Ϸ A) λo g d=>gy (Zv L) λds M N=>?_;have c:=acQ e f;refine⟨⟨o,z,ds,g,d,B,C,D,E,F,G,H,I,YU (of_decide_eq_true K),?_,M,N,λO q j=>?_⟩,s,t,λx P=>?_,H6 v,⟨w,y⟩⟩;refine lE J<|⟨l,rfl,m,n,r⟩
 .have j:qD (rU e.2).names=fR (O,q):=j;rw[j]at k c;have i:=k;generalize b:Cq e.1=Q;induction Q with|none=>rw[b]at c;injection c|some p=>
   rw[b]at i c;have i:=i;refine gP (nU i) λR S=>?_;have h:p=(802,fZ "_law_deed_right")\/p=(812,fZ "law"):=by
    unfold Cq at b;split at b;obtain rfl:=gz b;exact .inl rfl;obtain rfl:=gz b;exact .inr rfl;injection b
   refine gx p.1 R<|lE S ?_;rcases h with rfl|rfl
   .refine gP (nU (gz c)) λT V=>?_;obtain rfl:=T;obtain rfl:=V;exact iy ((Ea).1) gQ ((Qk).1)
   .refine gP (nU (gz c)) λW X=>?_;obtain rfl:=W;obtain rfl:=X;exact iy ((Ea).2) gQ ((Qk).2)
 .have:=Bp.mp u x P;rw[wo,decide_eq_true_eq,decide_eq_true_eq]at this;exact this
def Qf:∀a F,TB.funs a=fR F->sW a F:=λa F h=>by refine mI (show(zY.lookup a).map sy=fR F from h) λd b c=>?_;obtain rfl:=c;exact Ik (.tail _ (.tail _ (Aj b)))
def Eb:List EH:=match wc (zB 103)with|.Try _ a _ _ _::_=>a|_=>[]
def Io:EH:=Eb.headD (.ExceptHandler fU fU [] default)
def adD:wc (zB 103)=[.Try [.Expr (.Call (.Name "call" ⟨499,8,499,12⟩) [] [] ⟨499,8,499,14⟩) ⟨499,8,499,14⟩] (Io::Eb.tail) [] [] ⟨498,4,507,24⟩,.Return (fR (.Constant (.str "done") 0 ⟨508,11,508,17⟩)) ⟨508,4,508,17⟩]:=by kernel_rfl
noncomputable def My(e:f_×G):Option f_:=match e.2 with|.c=>fR e.1|_=>fU
def Qq(f:gG->List V->M V):FA (TB.at f) where
 has:=λf h=>by
  have m:=vr (f:=My) h rfl;have a:td.filterMap My=[fZ "_law_tried"]:=by kernel_rfl
  rw[a,js]at m;subst m;refine⟨782,sy (zB 103),"call",_,_,_,_,_,_,_,Io,Eb.tail,by kernel_rfl,by kernel_rfl,by kernel_rfl,Ik ge,by kernel_rfl,by kernel_rfl,by kernel_rfl,by kernel_rfl,adD,λC t b=>?_⟩;exact og (f:=λe:gG×f_=>Cm (rU (zB 103)).names e.1 (Io::Eb.tail)) (g:=λe=>fR e.2) gQ _ (Aj (show Cn.lookup C=fR t from b))
def acO:sy (lP 2 0)=⟨["self","why"],[],(rU (lP 2 0)).names,[.Expr (.Call (.Attribute (.Name "Exception" ⟨8,8,8,17⟩) "__init__" ⟨8,8,8,26⟩) [.Name "self" ⟨8,27,8,31⟩,.Name "why" ⟨8,33,8,36⟩] [] ⟨8,8,8,37⟩) ⟨8,8,8,37⟩,.Assign [.Attribute (.Name "self" ⟨9,8,9,12⟩) "why" ⟨9,8,9,16⟩] (.Name "why" ⟨9,19,9,22⟩) ⟨9,8,9,22⟩]⟩:=by kernel_rfl
def acN:Fw 35 where
 fn:=by refine⟨(rU (lP 2 0)).names,_,_,_,_,_,_,_,_,_,_,acO▸Ik gZ,by kernel_rfl,by kernel_rfl,by kernel_rfl,by kernel_rfl,λx a=>?_⟩;exact of_decide_eq_true (og (f:=λb:f_×NameKind=>decide (b.2≠.cell)) (g:=λZ=>fW) gQ x a)
 az:=by kernel_rfl
def y0(b:∃nm q N c d e f g h i j k l m,K.lookup C=fR (zc nm q C N c (rJ 38) fW d e f g h i j k l m "Exception.__new__"))(a:(lS K (.ref C) "__init__",lS K (.ref C) "__setattr__",lS K (.ref C) "why")=(fR (fR (.ref 35)),fR (fR (.builtin "object.__setattr__")),fR fU)):tZ C 38 35:=by simp only[wT]at a;exact⟨b,a.1,by kernel_rfl,a.2.1,a.2.2⟩
noncomputable def I3(e:f_×G):Option (f_×gG):=match e.2 with|.e a=>fR (e.1,a)|_=>fU
def wg{q:String}(h:K.lookup (a+9)=fR (Ql a t q)):∃nm q N b c d e f g i j k l m,K.lookup (a+9)=fR (zc nm q (a+9) N b (rJ 38) fW c d e f g i j k l m "Exception.__new__"):=⟨_,_,_,_,_,_,_,_,_,_,_,_,_,_,h.trans rfl⟩
def acI:∀C∈[51,63,75,87,99,111,123],∃nm q N a b c d e f g h i j k,K.lookup C=fR (zc nm q C N a (rJ 38) fW b c d e f g h i j k "Exception.__new__"):=by refine uK.mpr ⟨wg (t:=227) (q:="Corrupt") gQ,?_⟩;refine uK.mpr ⟨wg (t:=243) (q:="Missing") gQ,?_⟩;refine uK.mpr ⟨wg (t:=259) (q:="Exists") gQ,?_⟩;refine uK.mpr ⟨wg (t:=275) (q:="Busy") gQ,?_⟩;refine uK.mpr ⟨wg (t:=291) (q:="Misused") gQ,?_⟩;refine uK.mpr ⟨wg (t:=307) (q:="InvalidName") gQ,?_⟩;refine uK.mpr ⟨wg (t:=323) (q:="Broken") gQ,?_⟩;exact λZ m=>nM m
def Qe(f:gG->List V->M V):ua (TB.at f):=λx C h=>by have m:=vr (f:=I3) h rfl;have a:=og (f:=λe:f_×gG=>(e.1==("__debug__":f_),lT K jK e.1,sf K (.ref e.2),decide (e.2∈[51,63,75,87,99,111,123]))) (g:=λe=>(fY,fR (fR (.ref e.2)),fW,fW)) gQ _ m;simp only[wT,decide_eq_true_eq]at a;exact⟨a.1,a.2.1,a.2.2.1,38,35,y0 (acI C a.2.2.2) (og (f:=λe:f_×gG=>(lS K (.ref e.2) "__init__",lS K (.ref e.2) "__setattr__",lS K (.ref e.2) "why")) (g:=λe=>(fR (fR (.ref 35)),fR (fR (.builtin "object.__setattr__")),fR fU)) gQ _ m),acN⟩
def yy:jM where
 bA:=acP
 g:=by unfold mg;exact .of_isNs gQ
 b:=by unfold mb;exact .of_isNs gQ
 bi:=λx a=>by unfold mb;exact Heap.of_bltView gQ gQ x a
 nolim:=.of_ok gQ
def Qa:xu:=MJ 4 (boot_o_4 w.params) gQ gO gO gQ gQ gQ gQ
def acJ(a:sX):∀d,FS (Tt d) (3*d):=I0 (Bh _) (DU _) (Qe _) Bg yy a (λd f F=>Py (Bh f) (DU f) Bg yy Qa a (Qq f) F) Qf
def ada(b:Nat.ble 600 N=fW):∀a:oW,(fencedOpening qZ pw a N).map (λs=>(s.heap,s.gens,s.drawn,s.toks))=fR (ry a.params,Qu [],boot_drawn,Se):=boot_open (by kernel_rfl) b (λs=>by kernel_rfl)
def adC(a:oW):((ry a.params).isNs jK&&(Qu ([]:List RP)).size==0,(ry a.params).objs.size,(ry a.params).nsMap jK "__annotations__")=(fW,11,tJ):=by kernel_rfl
def ad0(P:lA):staticsOk (Ss pw.main.body) (ry P) (ly P)=fW:=by kernel_rfl
def ad1(P:lA):namesBound pw (ly P)=fW:=by kernel_rfl
def ad2(P:lA):laidKept (ry P) (ly P)=fW:=by kernel_rfl
def II(s:gK):Bool:=xlAt zQ [] s&&recOk [] s
def ad8(P:lA)(Y8:qt):openSeen zQ Be (Ss pw.main.body) II fW (oM (ly P) 1378 Y8)=openGood zQ Be:=by kernel_rfl
def acZ:LeftO pw zQ Be II (λs=>s.heap) (λa=>ly a.params) (12+(1+(1758+(1140+(1586+(1494+2)))))):=.of_pieces (ada (by kernel_rfl)) adC adw (by kernel_rfl) λa=>funext λY8=>by rw[ad8,ad0,ad1,ad2];rfl
def aap{d:List gv}(p:(x==("__debug__":f_))=fY)(q:env.scope.kind=.function)(u:env.kindOf x=fR .local)(v:s.heap.Ns env.locals m)(C:m x=fR (.ref a))(D:s.heap.IsList a d.toArray)(i:d.length<=63)(F:∀f g B,(∀b o,s.heap.get? b=fR o->f.get? b=fR o)->s.heap.objs.size<=B->f.get? B=fR (uV d.toArray 0)->s.heap.objs.size<=f.objs.size->Q (.ref B) (sU s f g)):gg (gk gh w) A (iu (.Subscript (.Name x z) (.Slice fU (fR (.Constant (.int 63) h y)) fU L) Z8) env) Q E s:=by
 rw[BI];refine gf (sR (BU q u v C ?_) p);refine gf (jp ?_);rw[Sj];refine gf (gU (gf (jp ?_)));have c:∀{Q':gv->gK->Prop} {G:gv->gK->Prop},(∀t g,Q' (.int 63 t) {s with toks:=g})->gg (gk gh w) A (iu (.Constant (.int 63) h y) env) Q' G s:=λk=>λZ Z Z=>k _ _;refine c λt g=>gf (jp (gU ?_));refine Au λH I j l is=>gf (lk ?_);have n:I.IsList a d.toArray:=let⟨o,e,r⟩:=D;(gx o (j _ _ e) r);refine gI (Pj (.ref a) (.ref H)) λM J=>tO n.typeIs JZ.lookup (SU n is .none (.int 63 t) .none (by simp) ?_ ?_) J
 .have K:slicePick d.toArray fU (fR 63) fU=d.toArray:=by
   rw[kms_pick_eq];unfold kms_pick;simp[JI,JH,Ji i,I_]
  refine lE K<|F _ _ _ (λb o e=>iW _ (j _ _ e)) l (lu _ rfl) (gu l (by rw[kt];exact jA _))
 .exact lE lz<|gu i gO
def adG:XL (Tt 9) 29 40:=
 have a:=acJ Hw 9
 (Pb (Bh _) (Qe _) Bg yy (FF (Bh _) (DU _) Bg yy a.up (Py (Bh _) (DU _) Bg yy Qa Hw (Qq _) a) Hw) 40).2
noncomputable def AE:Va:=λZ Z=>fU
noncomputable def rP:H:=⟨0,λZ=>fU⟩
def N7(a:ib (λ(i:Int) v=>∃t,v=BD i t) xs h):iC z (xs.map V.a) h:=by induction a with|dO=>exact .dO|dN p _ b=>refine gI p ?_;intro t c;obtain rfl:=c;exact .dN (.dN _ t) b
def E0{F:q_}(a3:sW f F)(G:jM)(I:XL T d n)(K:F.ps=[x])(a4:F.dv=[])(a5:(x==("__debug__":f_))=fY)(j:F.k.lookup x=fR .local)(a6:F.body=.Assign [.Name x L] (.Subscript (.Name x N) (.Slice fU (fR (.Constant (.int 63) P W)) fU y) p5) p6::Z4)(a7:Cx A l (d+1))(a8:lU AE l s.heap)(r:gp AE rP s.heap)(a9:s.heap.IsList a z.toArray)(M:ib (λ(i:Int) v=>∃t,v=BD i t) xs z)(b0:xs.length<=63)(b1:∃O,lw T n F.k (gW [] x (.b 0)) Z4 (iJ rP (.a (xs.map .a)))=.b (.b (.e fW)) O)(b2:∀k b3,(∀b o,b∉uB->b∉iF l->s.heap.get? b=fR o->k.get? b=fR o)->(∀p∈qL,∃q,k.get? p.1=fR {cls:=.none,data:=.fields q})->Q (.bool fW) (sU s k b3)):gg (gk gh w) A (ju (.ref f) [.ref a]) Q E s:=by
 refine sS (Gl a3 G a7 a8 r (by refine lE K (lE a4 ?_);exact⟨ij _,ij _⟩) (λZ Z x v e=>by rw[Jb]at e;injection e) _ λd9 env e0 e1 m e2 g u b4 b5 b6 R b7 b8=>?_);rw[Jb]at g;have b9:env.kindOf x=fR .local:=by
  rcases g.L.aH _ _ j with h|⟨h,_⟩
  .exact h
  .injection h
 have c0:m x=fR (.ref a):=by refine lE (b6 _ j) (lE K (lE aeF (lE Bt (lE jn ?_))));rw[beq_self_eq_true]
 refine lE a6 ?_;rw[zb];refine gf (J_ (aap a5 g.L.kind b9 b5 c0 (let⟨o,e,c1⟩:=a9;(gx o (R _ _ e) c1)) (ib.length M▸b0) λc2 c3 B C D S H=>?_) (Pn rfl) (HG rfl));have c4:=u.add C H D ⟨_,S⟩ (vF (lc ..) S (N7 M));have Y:=g.ext (gS.add u C H D);refine BT ?_;have a0:=zK (A:=A.deeper env) (l:=env::l) (s:=(sU s c2 c3)) (X:=gL (env::l) (iH F.k env)) (x:=x) (v:=.b 0) Y.L c4 (.dO (lc ..));rw[show nx F.k [] x (.b 0) (iJ rP (.a (xs.map V.a)))=.b (gW [] x (.b 0)) (iJ rP (.a (xs.map V.a)))from by unfold nx;refine lE j ?_;rfl]at a0;refine a0 _ _ λc5 c6 c7 Z a1 c8 c9=>?_;have a2:=I (A.deeper env) (env::l) F.k (gW [] x (.b 0)) env Z4 c5 (iJ rP (.a (xs.map V.a))) (sU s c6 c7) (Y.bz a1 c9) c8;refine gI b1 ?_;intro O e;rw[e]at a2;refine a2 _ _ λd0 d1 d2 d3 d4 d5 y=>?_;induction d3 with
 |ret c=>
  cases(show VR d0 (.e fW) c from y);have X:=(((gS.al R (jo b7)).trans (gS.add u C H D)).trans a1).trans d4;refine b2 d1 d2 (λb o d6 d7 e=>?_) λp d8=>gy (d5.tab p d8) λq e Z=>⟨q,e⟩;refine(X.keep b o ⟨d6,λZ Z e=>by injection e⟩ (λm=>absurd (iB e) (mf.mpr (b8 b m))) e).1 λm=>?_;rcases xU b4 b m with J|J
  .exact d7 J
  .exact absurd (iB e) (mf.mpr J)
 |_=>cases y
def v8{T:ie}{n:Nat}{F:q_}{x:f_}{v:V}{y:H}(b:F.ps=[x])(c:F.dv=[])(h:wp (vh T n F [v]) (λu Z=>u=.e fW) (λZ Z=>False) y):∃a,lw T n F.k (gW [] x v) F.body y=.b (.b (.e fW)) a:=by
 obtain⟨h⟩:=h;rw[<-KV,b,c]at h;have h:vY (fS (lw T n F.k (gW [] x v) F.body) (λf=>match f with|.a _=>fX .c|.b v=>fX v) y) (λu Z=>u=.e fW) (λZ Z=>False):=h
 generalize e:lw T n F.k (gW [] x v) F.body y=d;induction d with|a=>rw[lW e]at h;exact h.elim|c C a=>unfold fS at h;rw[e]at h;exact h.elim|b f a=>rw[nW e]at h;induction f with|a ℓ'=>cases(show V.c=V.e fW from h)|b u=>cases(show u=.e fW from h);exact⟨_,rfl⟩
def P6:tn.ps=[fZ "script"]:=by kernel_rfl
def P4:tn.dv=[]:=by kernel_rfl
def O5(o:O):Kw [(0,o)] (iJ rP o):=Kw.alloc (y:=rP) (ts:=[]) ⟨λi o e=>(by cases e),.nil,λt m=>(by cases m)⟩ _
def acH{xs:List Int}(a:xs.length<=63):wp (vh (Tt (0+9)) 40 tn [.b 0]) (λv Z=>v=.e fW) (λZ Z=>False) (iJ rP (.a (xs.map .a))):=Q7 (O5 _) a λZ=>rfl
def acG{xs:List Int}(a:xs.length<=63):∃b,lw (Tt (0+9)) 40 tn.k (gW [] (fZ "script") (.b 0)) tn.body (iJ rP (.a (xs.map .a)))=.b (.b (.e fW)) b:=v8 P6 P4 (acH a)
def yz:q_:=sy (zB 108)
def acV:tn.k=yz.k:=by kernel_rfl
def acY:yz.ps=[fZ "script"]:=by kernel_rfl
def acU:yz.dv=[]:=by kernel_rfl
def acW:yz.k.lookup (fZ "script")=fR .local:=by kernel_rfl
def acT:yz.body=.Assign [.Name "script" ⟨558,4,558,10⟩] (.Subscript (.Name "script" ⟨558,13,558,19⟩) (.Slice fU (fR (.Constant (.int 63) 0 ⟨558,21,558,23⟩)) fU ⟨558,20,558,23⟩) ⟨558,13,558,24⟩) ⟨558,4,558,24⟩::tn.body:=by kernel_rfl
def acX:sW 813 yz:=Qf 813 (sy (zB 108)) gQ
def acS{A:lj}{l:List ji}{s:gK}{a:gG}{d:List gv}{xs:List Int}(f:Cx A l 30)(g:lU AE l s.heap)(r:gp AE rP s.heap)(h:s.heap.IsList a d.toArray)(j:ib (λ(i:Int) v=>∃t,v=BD i t) xs d)(e:xs.length<=63){Q:gv->gK->Prop}{E:gv->gK->Prop}(k:∀c m,(∀b o,b∉uB->b∉iF l->s.heap.get? b=fR o->c.get? b=fR o)->(∀p∈qL,∃n,c.get? p.1=fR {cls:=.none,data:=.fields n})->Q (.bool fW) (sU s c m)):gg (gk gh w) A (ju (.ref 813) [.ref a]) Q E s:=E0 acX yy adG acY acU (by decide+kernel) acW acT f g r h j e (acV▸acG e) k
def Im{b:gG}{o:iY}(e:iI.get? b=fR o):(ly w.params).get? b=fR o:=by
 refine gP (U1 e) λa c=>MA ?_ c;have a:(((ly w.params).objs.toList.set 798 CK).set 810 CK)[b]?=fR o:=by unfold iI at a;exact a
 rw[ael]at a;split at a
 .split at a;obtain rfl:=gz a;injection c;injection a
 .rw[ael]at a;split at a
  .split at a;obtain rfl:=gz a;injection c;injection a
  .exact a
def yC:(ly w.params).get? 798=fR {cls:=.none,data:=.fields #[]}/\(ly w.params).get? 810=fR {cls:=.none,data:=.fields #[]}:=⟨by kernel_rfl,by kernel_rfl⟩
def Qp:iI.objs.size=(ly w.params).objs.size/\Nat.ble 811 iI.objs.size=fW:=⟨by kernel_rfl,by kernel_rfl⟩
def acR:((ly w.params).get? ((ly w.params).objs.size-1)).isSome=fW:=by kernel_rfl
def adr{h:hV}(k:∀b o,(ly w.params).get? b=fR o->h.get? b=fR o):gp AE rP h where
 bX:=λZ Z Z e=>by injection e
 lim:=λZ Z e=>by injection e
 inj:=λZ Z Z Z Z e=>by injection e
 there:=λZ Z Z e=>by injection e
 new:=λZ Z Z e=>by injection e
 aE:=λZ Z e=>by injection e
 base:=λb o e=>k b o (Im e)
 size:=by refine iE acR λo e=>lE (Qp).1<|Nat.le_of_pred_lt (iB (k _ _ e))
 aP:=Re (Qp).2
 tab:=λp a=>by
  have a:p∈[(798,fZ "_law_deed_right.<locals>.<lambda>"),(810,"law.<locals>.<lambda>")]:=a;simp only[gX,kK,or_false]at a;rcases a with rfl|rfl
  .exact iU (#[]) (k _ _ (yC).1) trivial (λZ8 c e=>by injection e)
  .exact iU (#[]) (k _ _ (yC).2) trivial (λZ8 c e=>by injection e)
def acD:Cx callerA [] 30:=⟨rfl,rfl,by decide,by decide⟩
def ad9{h a:hV}(k:∀b o,(ly w.params).get? b=fR o->h.get? b=fR o)(n:∀b o,b∉uB->h.get? b=fR o->a.get? b=fR o)(c:∀p∈qL,∃q,a.get? p.1=fR {cls:=.none,data:=.fields q}):OldK h a:=by
 have d:isCodeTable h 798/\isCodeTable h 810:=⟨(((Ea).1.keeps λb o e=>k b o (Im e)).tab (k _ _ (yC).1)).isCodeTable,(((Ea).2.keeps λb o e=>k b o (Im e)).tab (k _ _ (yC).2)).isCodeTable⟩;refine gI (c (798,"_law_deed_right.<locals>.<lambda>") ge) λr f=>gI (c (810,"law.<locals>.<lambda>") gZ) λs g=>?_;have i:∀b o,h.get? b=fR o->(b=798/\o={cls:=.none,data:=.fields #[]})\/(b=810/\o={cls:=.none,data:=.fields #[]})\/a.get? b=fR o:=λb o e=>by
  by_cases j:b=798;subst j;rw[(k _ _ (yC).1)]at e;obtain rfl:=gz e;exact .inl ⟨rfl,rfl⟩
  by_cases l:b=810;subst l;rw[(k _ _ (yC).2)]at e;obtain rfl:=gz e;exact .inr (.inl ⟨rfl,rfl⟩)
  exact .inr (.inr (n b o (λm=>by have m:b∈[798,810]:=m;simp only[gX,kK,or_false]at m;exact m.elim j l) e))
 refine⟨λb o e=>?_,λb o e=>?_⟩
 .rcases i b o e with⟨rfl,rfl⟩|⟨rfl,rfl⟩|x
  .exact .inr (.inl ⟨d.1,rfl,#[],r,rfl,by refine lE adQ<|f⟩)
  .exact .inr (.inl ⟨d.2,rfl,#[],s,rfl,by refine lE adQ<|g⟩)
  .exact .inl x
 .rcases i b o e with⟨rfl,rfl⟩|⟨rfl,rfl⟩|x
  .exact⟨_,f⟩
  .exact⟨_,g⟩
  .exact⟨_,x⟩
def ad6:(ly w.params).get? 3=fR (Ee w.params):=by kernel_rfl
def ad5:((match(Ee w.params).data with|.dict h _=>nsFind h "law"|_=>fU):Option gv)=fR (.ref 813):=by kernel_rfl
def Q2{h:hV}{a:f_->Option gv}(k:∀b o,(ly w.params).get? b=fR o->h.get? b=fR o)(g:h.Ns jK a):a "law"=fR (.ref 813):=by refine DS g ?_;intro o i j e d _ f;have c:h.get? jK=fR (Ee w.params):=k _ _ ad6;rw[e]at c;obtain rfl:=gz c;have:=ad5;rw[d]at this;rw[<-f];exact this
def N4(h:afP [] ds .int=fW):∃xs:List Int,ds=xs.map .int:=by induction ds with|nil=>exact⟨[],rfl⟩|cons d ds a=>have h:=uI.mp (h:(WShape.has [] d .int&&afP [] ds .int)=fW);exact gI (hasW_int h.1) λi b=>gI (a h.2) λxs c=>⟨i::xs,by rw[b,c];rfl⟩
def N6{R:WRecords}{b:f_->Option gG}:∀{a:List gv} {c:List gG},ReadsAllW R b h a (xs.map .int) c->ib (λ(i:Int) v=>∃t,v=BD i t) xs a:=by induction xs with|nil=>intro _ _ r;rw[(afS r).1];exact .dO|cons i xs d=>intro _ _ r;refine DT (afR r) λv a Z Z e Z f g=>?_;rw[e];exact .dN (gy (readsW_int_inv f) λt e Z=>⟨t,e⟩) (d g)
def adu:rp.pre=.and (.not (.lt (.lit (.int (63:Nat))) (.len (.arg 0)))) (.lit (.bool fW)):=by kernel_rfl
def adt:rp.post=.eq .res (.lit (.bool fW)):=by kernel_rfl
def Qo:rp.returns=.bool/\rp.records=[]/\rp.raises=[]:=iy gQ gQ gQ
def adk(h:rp.pre.holds [] {args:=[.list ds]}=fW):ds.length<=63:=by
 rw[adu]at h;by_cases q:(63:Int)<ds.length
 .have e:W.less? (.int 63) (.int (ds.length:Int))=fR fW:=by
   refine(?_:fR (decide ((63:Int)<ds.length))=fR fW);exact lE (decide_eq_true q) rfl
  simp[WTm.holds,WTm.value,e]at h
 .lia
def adi:rp.claim.post h (.bool fW) h=fW:=by refine lE adt (lE Qo.1 (lE Qo.2.1 ?_));kernel_rfl
def acM{R:WRecords}{l:f_->Option gG}(m:WShape.hasAll [] args [.list .int]=fW)(f:rp.pre.holds [] {args:=args}=fW)(j:ReadsAllW R l h Y4 args x):∃(xs:List Int) (a:gG) (b:List gv),Y4=[.ref a]/\h.IsList a b.toArray/\ib (λ(i:Int) v=>∃t,v=BD i t) xs b/\xs.length<=63:=by
 refine jR (hasAllW_cons m) λd r p k=>gy (hasW_list k.1) λds q s=>gI (N4 s) λxs u=>?_;have e:args=[.list (xs.map .int)]:=by rw[p,q,u,hasAllW_nil k.2]
 rw[e]at f j;refine DT (afR j) λv D Z Z w Z y z=>?_;obtain⟨a,o,b,n,_,A,g,c,B,C,_⟩:=readsW_list_open y;exact⟨xs,a,b.toList,by rw[w,A,(afS z).1],⟨o,g,c,n,by rw[B,yG]⟩,N6 C,iq WData.int▸adk f⟩
def adE:∀d c,d.name=fZ "law"->Bj d c w:=by intro d c h v x y z G Y a o A B C D E F H I J f i K Y4 L j M k N O;rw[h,Q2 Y G.T.g]at f;cases f;refine gP (pre_splitW j) λl n=>DS (acM l n k) λxs P Q e p q r=>?_;obtain rfl:=e;have g:=@acS;unfold gh at g;refine g acD (λZ m=>nM m) (adr Y) p q r λR S s t=>kg (.inl (sv (.bool fW) (.bool fW) ([]) rfl (λZ=>rfl) (.bool _) adi (λZ=>⟨.nil,λZ m=>nM m⟩))) (ad9 Y (λb o u e=>s b o u (λm=>nM m) e) t) rfl (.of_eq i)
def acF:∃d a,EY zQ (fZ "law")=fR (d,a)/\d.name=fZ "law"/\pw.theDef (fZ "law")=fR (d.params,d.body,d.scope)/\kwWritten? d.params.kwonlyargs d.params.kw_defaults=fR a:=by
 have f:(EY zQ (fZ "law")).map (λp=>p.1.name)=fR (fZ "law"):=by kernel_rfl
 have b:pw.theDef (fZ "law")=(EY zQ (fZ "law")).map λp=>(p.1.params,p.1.body,p.1.scope):=by kernel_rfl
 have c:(EY zQ (fZ "law")).map (λp=>kwWritten? p.1.params.kwonlyargs p.1.params.kw_defaults)=(EY zQ (fZ "law")).map λp=>fR p.2:=by kernel_rfl
 obtain⟨⟨d,a⟩,e,h⟩:=Option.map_eq_some_iff.mp f;rw[e]at b c;exact⟨d,a,e,h,b,gz c⟩
def ads(c:rp.wellSaid=fW):rp.Holds:=by obtain⟨d,f,g,i,j,l⟩:=acF;exact holds_open (r:=rp) (q:=zQ) (loose:=Be) (Xt:=II) (XP:=afQ zQ []) (Yf:=λs=>s.heap) (Ya:=λa=>ly a.params) (YP:=λa h=>∀b o,(ly a.params).get? b=fR o->h.get? b=fR o) acZ (λa s e=>e▸λZ Z e=>e) (λa h n m k b o e=>k b o (m b o e)) (λs e=>xl_of s (uI.mp e).1) XL.keeps g j l (λs e=>recFacts_of (uI.mp e).2) (by kernel_rfl) c (by kernel_rfl) ⟨rfl,rfl,rfl,rfl,rfl,by decide+kernel⟩ ⟨[.list []],by decide+kernel,by decide+kernel⟩ (λv=>adF adE v d f i)
def lb{a b:Bool}(x:a=fW)(c:b=fW:=by kernel_rfl):(a&&b)=fW:=by rw[x,c];rfl
def adx:namesResolve PySem.Challenge.rw_np0209_01.row.prog=fW:=by kernel_rfl
def ady:noRoadLSs {strict:=!(Ss PySem.Challenge.rw_np0209_01.row.prog.main.body).all cThrough.contains,foot:=fU,bare:=(["vars","dir","locals"]:List f_).filter (readsOut PySem.Challenge.rw_np0209_01.row.prog PySem.Challenge.rw_np0209_01.row.prog.main.body)} PySem.Challenge.rw_np0209_01.row.prog.main.body=fW:=by kernel_rfl
def adz:looksOpen PySem.Challenge.rw_np0209_01.row.prog=fW:=lb (lb (lb (lb gQ adx)) ady)
def adA:PySem.Challenge.rw_np0209_01.wellSaid=fW:=lb (lb (lb (lb (lb (lb (lb (lb (lb (lb (lb (lb (lb (lb (lb (lb (lb (lb (lb (lb (lb (lb (lb (lb (lb (lb (lb (lb (lb (lb (lb (lb (lb adz))))))))))))))))))))))))))))))))
end Internal
theorem PySem.Challenge.cw_np0209_01_holds : PySem.Challenge.rw_np0209_01.Holds :=
 PySem.W.holds_law Internal.adA Internal.ads
