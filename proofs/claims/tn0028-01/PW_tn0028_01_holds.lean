import PyProof.Rows.All
import PyProof.CompUse
import PyProof.CompFree
import PyProof.ExcArgs
import PyProof.ExcBaseAll.ValueError
import KE.IntTextLaws
import KE.KIsAll
import Wide.FinOn
import OpenK.AllK
import Wide.All
import Lean
import PySem.Challenge.RW_tn0028_01
set_option tactic.hygienic false
set_option backward.match.sparseCases false
set_option linter.all false
set_option maxRecDepth 100000
set_option maxHeartbeats 8000000
set_option Elab.async false
set_option bootstrap.genMatcherCode false
set_option genInjectivity false
set_option genSizeOf false
set_option genCtorIdx false
noncomputable section
namespace Internal
open Array renaming any_toList->ajG,eq_empty_of_size_eq_zero->NY,getElem?_setIfInBounds_ne->aj9,getElem?_toList->aj5,length_toList->xU,mk->aik,toArray_toList->Pk
open Bool renaming and_eq_true->cN,and_false->Fx,casesOn->dN,eq_iff_iff->ai5,false->ag,false_eq_true->FM,false_ne_true->iN,false_or->uH,noConfusion->FU,not_eq_false'->xM,not_eq_true->FH,not_eq_true'->og,not_true->F5,or_eq_false_iff->Bi,or_eq_true->om,or_false->Pn,rec->akZ,true->B,true_or->alq
open Char renaming toNat->PB
open Classical renaming byContradiction->aL,propDecidable->amq
open Eq renaming symm->PL
open Except renaming casesOn->ip,ctorIdx->aiD,error->aiC,ok->xr
open Except.error renaming inj->uZ
open Except.ok renaming inj->dQ
open Exists renaming elim->aJ
open False renaming elim->uK
open ForInStep renaming yield->akE
open Int renaming add_comm->aiN,add_le_add_right->Fk,add_lt_add_left->mY,add_nonneg->xx,add_sub_cancel->Fj,casesOn->NZ,ediv_one->ajh,eq_ofNat_of_zero_le->g8,fdiv_eq_ediv_of_nonneg->ak1,fmod_eq_emod_of_nonneg->ak4,fmod_lt_of_pos->xW,fmod_nonneg_of_pos->xV,le_natAbs->Ff,le_of_eq->AQ,le_of_lt->jz,le_refl->alt,le_trans->bR,lt_of_le_of_lt->AP,lt_of_lt_of_le->lM,lt_trans->pQ,max_eq_right->aiJ,min_eq_left->N2,mul_nonneg->aiZ,natAbs->aiK,natAbs_add_le->rt,natAbs_mul->Gb,natAbs_natCast->ali,natAbs_neg->N1,natCast_add->aiO,natCast_nonneg->dX,natCast_pow->alh,negSucc->ak8,negSucc_lt_zero->N5,neg_le_neg->xu,ofNat->uz,ofNat_lt->uT,one_mul->ai2,self_le_toNat->N6,sub_le_self->n5,sub_le_sub->N3,toNat->Fh,toNat_le->N7,toNat_le_toNat->aiM,toNat_lt->Fg,toNat_natCast->AS,toNat_of_nonneg->rA,toNat_sub->AR
open Int.ofNat renaming inj->lO
open List renaming all_cons->gc,all_eq_true->Fo,any_cons->AU,append_assoc->db,append_nil->eN,casesOn->bk,cons_append->m6,cons_ne_nil->rI,contains_cons->ajp,countP->aj0,ctorIdx->pN,drop->Bb,dropWhile_cons_of_neg->uY,dropWhile_cons_of_pos->x4,dropWhile_sublist->PM,drop_drop->FQ,drop_eq_getElem_cons->uM,drop_eq_nil_iff->Py,drop_left->Ge,drop_of_length_le->lV,drop_zero->AV,eq_nil_of_length_eq_zero->uI,eraseDups_cons->aj2,ext_getElem?->ai6,filterMap_cons->AZ,filterMap_map->ajl,find?_some->FG,flatten_cons->Px,foldl_cons->eM,forIn_cons->akb,forall_mem_nil->uR,getD_eq_getElem?_getD->PJ,getElem?_append_left->OH,getElem?_eq_getElem->kZ,getElem?_eq_none->pR,getElem?_eq_none_iff->aj6,getElem?_map->rJ,getElem?_set->A3,getElem?_set_ne->rR,getElem?_set_self->F3,getElem?_toArray->akY,getElem_map->alg,getElem_mem->xZ,getElem_toArray->ai7,length->ig,length_append->aN,length_cons->bw,length_drop->i8,length_filter_le->aj3,length_map->b0,length_nil->O0,length_range->Oh,length_replicate->hE,length_reverse->Pz,length_set->FC,length_take->lb,lookup->akg,lookup_cons->gh,map->Ox,map_append->on,map_congr_left->ajn,map_cons->fq,map_drop->alp,map_map->xY,map_nil->O1,map_reverse->ak6,map_take->alr,mem_cons->rL,mem_cons_of_mem->eW,mem_cons_self->dj,mem_nil_iff->x3,mem_of_getElem?->uU,mem_of_mem_drop->Bl,mem_of_mem_take->als,mem_singleton->F6,mem_take_iff_getElem->akc,nil_append->uP,nodup_cons->A4,nodup_nil->uy,not_mem_nil->rz,of_mem_zip->aki,range->pL,replicate->iJ,replicate_succ->ak3,reverse_append->ald,reverse_cons->ur,set->PF,size_toArray->mZ,sum_cons->ak5,take->pW,takeWhile_append_dropWhile->Gf,takeWhile_cons_of_neg->m8,takeWhile_cons_of_pos->rT,takeWhile_sublist->alo,take_append->aln,take_append_drop->xO,take_left->alj,take_nil->alk,take_of_length_le->m4,take_succ_cons->OJ,zip_append->akd,zip_cons_cons->oj,zip_nil_right->ake
open List.cons renaming inj->rQ
open Nat renaming add_assoc->kY,add_comm->lN,add_le_add->aY,add_le_add_left->dO,add_le_add_right->dC,add_right_cancel->ak2,add_right_comm->iL,add_sub_add_left->aiX,add_sub_cancel_left->xz,add_sub_of_le->alm,beq->rO,ble->lc,casesOn->AM,cast->jA,div_add_mod->alc,div_eq_of_lt->alb,div_lt_of_lt_mul->Bk,eq_of_beq_eq_true->rP,eq_zero_or_pos->N',exists_eq_add_of_le->N9,le_add_left->bU,le_add_right->cx,le_antisymm->OQ,le_mul_of_pos_right->aiU,le_of_add_le_add_right->aiS,le_of_ble_eq_true->eX,le_of_eq->bg,le_of_lt->cG,le_of_lt_succ->j7,le_of_not_lt->iM,le_of_succ_le_succ->aj1,le_refl->aA,le_succ->bM,le_succ_of_le->uV,le_total->xw,le_trans->g,lt_irrefl->n8,lt_of_le_of_lt->br,lt_of_lt_of_le->cM,lt_of_not_le->PG,lt_of_succ_lt->OZ,lt_of_succ_lt_succ->ux,lt_or_eq_of_le->Gg,lt_or_ge->j8,lt_succ_of_le->ut,lt_succ_of_lt->uv,lt_succ_self->gb,lt_trans->g9,max_eq_left->aiR,max_eq_right->aiQ,min_assoc->aiV,min_eq_left->n4,min_eq_right->uw,min_le_left->PE,min_le_right->pP,min_self->aiW,mod_lt->xy,mul_comm->xX,mul_le_mul_left->d7,mul_le_mul_right->xB,ne_of_gt->jB,ne_of_lt->dP,not_le_of_lt->akf,not_lt_of_le->xL,not_lt_zero->n6,one_mul->Gc,pos_of_ne_zero->PC,pow_le_pow_left->PH,pow_le_pow_right->x2,pow_one->ak9,pow_pos->Bm,pow_succ->rS,pow_succ'->ala,pow_zero->uW,repr->ak7,sub_add_cancel->n7,sub_add_eq->N4,sub_eq_zero_of_le->ru,sub_le->g',sub_pos_of_lt->aiT,sub_self->N8,sub_sub_self->aiY,succ->rr,succ_le_of_lt->xE,succ_le_succ->fF,succ_ne_zero->aiP,succ_pos->lL,toDigitsCore->PA,two_pow_pos->ak0,zero_add->i4,zero_le->dW,zero_mul->ajb,zero_sub->aiL
open Nat.succ renaming inj->FO
open Option renaming bind->aiF,bind_some->A0,casesOn->bL,ctorIdx->OS,getD->PN,isNone_iff_eq_none->FT,isSome->aiG,map_eq_none_iff->aj7,map_eq_some_iff->OR,none->W,some->I
open Option.some renaming inj->aK
open Prod.mk renaming injEq->PK
open PyProof.Rows renaming IsTup->amE,K->Pf,StrsAre->AT,Subscript_->A8,args_tuple_getitem->amG,call_abs_int->amZ,clssOf->ame,drecsOf->air,entry_tuple_getitem->amF,expectedOf->amc,floordiv_int->amt,getItem_tuple->amB,isTrue_IfExp->amQ,len_lower->anb,len_tuple->amV,len_upper->ana,litsOf->amd,lo->Oj,mod_int'->ams,ownsOf->amb,plainGoodD->amk,plainGoodE->ami,plainSeenD->amj,plainSeenE->amh,pow_int_small->amu,recsOf->aiq,seen->ama,slicePart_int->aji,slicePart_none->amD,slot_tuple_getitem->ajk,st->dI,strSub_mk->alf,stripBy_eq->ale,subscriptTail->m3,tablesOk->amf,tabsOk->amg,truthy_none->amv,tupleItemsOf_->amI,wpAny_operate'->ajS
open PySem renaming Addr->bc,Around->bS,BoolOp->mW,ClassData->Oy,CmpOp->ie,Const->AI,DictEntry->jt,Env->fE,Expr->ai,FuncData->uO,Heap->bG,IsPart->xD,KeyKind->Od,Model->m5,NameKind->xP,Obj->dw,Operator->mV,OsState->dM,Params->aR,Pos->cJ,Result->pK,Scope->f9,Sem->lP,Shared->aM,Stmt->cf,Str->H,Tok->ij,Value->ah,World->cF,aRefKeyMayBeTheName_at->ajH,allTrue->OF,arm_assign_Tuple->OL,arm_eval_Attribute->ajO,arm_eval_Call->Pc,assign->i7,assignEach->Bd,assignInOrder->Bc,attributeBase->ajN,backTo->lS,behindInMarks->nZ,binaryOp->xA,bindName->OP,boolOp->FJ,builtinsNs->uo,call->c8,call_len_dict->akk,call_meets->uF,call_meetsIn->xQ,cameBackBy->OX,cellsFrom->Be,checkBuiltinCall->ajq,classAt->Fc,clipAt->d6,codeAny->k7,codeAny_call_builtin->Ot,codeAny_call_function->O2,codeAny_compStart_list->akG,codeAny_func->O3,compPost->F4,compareChain->FK,compareOp->n9,eval->bH,evalEach->lT,eval_ListComp->akH,exec->io,execs->xK,execs_cons->OO,firstArgMember->akX,getAttr->Fu,getItem->pS,getMethod->Bh,getMethod_builtin->ke,holding->m7,importedModules->xp,importedNames->aiy,inplaceOp->Fn,intKind->AN,interactive->ajY,isTrue->pV,keywordEach->akw,letOwnedTupleGo->aj4,letTemporaryGo->ajf,list_append->OB,mainGlobals->lK,markedBehindIn->ajQ,markedBehindIn_of_false->ajR,markedEach->xJ,meets_dict_get->akl,meets_dict_get_default->akn,mem_of_lookup->rN,methodCall->Pd,methodCallForm->akx,methodCallPos->xT,model->cr,moduleNames->ais,newFunctionEnv->FV,notedBy->oi,nsFind->Bj,operate->Fq,partValue->AW,pastItsLine_dict->ajK,pyIter->FR,pyNext->rK,rawInt->g7,refuseLoop_ref->ajo,relabel->kg,seqIndex?->uq,setAttr->uJ,setField->OU,setItem->uG,sizeLine->eJ,sizeLine_eq->dY,sliceBounds->xC,slicePick->Og,sliceRange->Fs,slot_list_setitem->ajB,spliced->xI,standAt->rG,starEach->k9,storeName->xG,stored->FE,strKind->xt,strValues->FW,stripHi->PI,stripLo->Gd,subscripted->ajd,swappedStores->rH,swapsWith->uN,sysModules->g6,testChain->FL,treeTable->nW,truthy->rx,tupleKind->AO,typeIs_str->lU,unpackItems->OK,valueAt->ry,wpAny->am,wpAny_Assign_stores->ajZ,wpAny_Constant_int->A6,wpAny_Constant_str->A7,wpAny_Dict_empty->ajX,wpAny_List->OI,wpAny_Name->A2,wpAny_Return_some->OM,wpAny_Slice->ajP,wpAny_Tuple->OG,wpAny_UnaryOp->ajM,wpAny_askSetting->ajF,wpAny_assign_Name->akI,wpAny_attempt->Oq,wpAny_bind->af,wpAny_bindName->ajW,wpAny_call->uD,wpAny_callSpecial?_slot->AX,wpAny_call_entry->AY,wpAny_comprehension_free->akF,wpAny_dictEntries->FX,wpAny_dictEpoch->Pr,wpAny_execs_nil->ON,wpAny_field->lQ,wpAny_fieldsOf->akW,wpAny_getItem_list->Oe,wpAny_getItem_list_slice->ajm,wpAny_getItem_of->ajc,wpAny_handled->akB,wpAny_holding->dF,wpAny_in_of->ai8,wpAny_isOneOf_valiter->Pu,wpAny_isSubtype_exc->Fz,wpAny_items_cons->uL,wpAny_items_nil->A9,wpAny_letGo->aju,wpAny_letTemporaryGo->Of,wpAny_loadName_cell->ajz,wpAny_loadName_local->ajy,wpAny_loadPart->FF,wpAny_loadPart_at->rC,wpAny_lookBehind->ajJ,wpAny_mkText->Op,wpAny_mono->g5,wpAny_newFunctionEnv->akD,wpAny_newFunctionEnv_cells->akh,wpAny_newObj_type->lR,wpAny_noted->aka,wpAny_of_eq->F1,wpAny_onRaise->ajv,wpAny_pure->aE,wpAny_pyIter_list->ajU,wpAny_pyNext_list_end->ajV,wpAny_pyNext_list_item->ajT,wpAny_release->A',wpAny_sequenceKey->ajj,wpAny_setField->xF,wpAny_setItem_pairs->ajC,wpAny_specialOf->aje,wpAny_standAt->fO,wpAny_storeName_local->ajA,wpAny_throw->Pg,wpAny_typeNameOfWhole_valiter->F8,wpAny_typeNameOf_valiter->F9,wpAny_updatePart->ajI,wpAny_with_toks->A5,wpAt_of_wpAny->ajr
open PySem.AutoIntG2 renaming int_bit_length_int_0->amY
open PySem.AutoSeq1 renaming list_extend_list_list_0->amW
open PySem.Builtin.Dict renaming noArgs->am6,showsAll->akR
open PySem.Builtin.Dict_items renaming dictOf->am7,newIterator->am8,ownsTuple->Pt
open PySem.Builtin.Int renaming intBits->Fl
open PySem.Builtin.List renaming listSubscript?->amL,listTooLong->amX
open PySem.Builtin.ObjectAttr renaming noDictFor->amN,storeInDict->amM,storeInOwnDict->ajD
open PySem.Builtin.Range renaming rangeSize->amT
open PySem.Builtin.Slice renaming sliceAdjust->ajg,sliceApplied->amC,slicePlaces->Oi
open PySem.Builtin.Str renaming occurrences->AJ,partsBetween->FY,strKind->ako,strSliceIndices->uA,tooLong->amr
open PySem.Builtin.Tuple renaming tupleExact->Ft,tupleItemsOf->amH
open PySem.Calls renaming Name_function_global->ajx
open PySem.Challenge renaming pw_tn0028_01->aig,rw_tn0028_01->aml
open PySem.Code renaming quiet_builtin->ajs
open PySem.Const renaming casesOn->aiE
open PySem.Data renaming casesOn->FI,ctorIdx->OT
open PySem.DictEntry renaming hash->am1,refKey->amK
open PySem.EntryCells renaming newEntry->amU
open PySem.ExcName renaming means->NX
open PySem.Expr renaming casesOn->gL
open PySem.F renaming args_dict_get_2->O4,args_dict_get_3->akm,args_dict_valueiterator_next_1->akV,args_list_append_2->OA,args_str_split_2->O6,entry_dict_get->Bf,entry_dict_valueiterator_next->akU,entry_list_append->Oz,entry_str_split->O5,excBase_ValueError->Fy,plainAttrs_dict->aks,plainAttrs_list->akt,plainAttrs_str->pX,slot_dict_get->xR,slot_dict_len->akj,slot_dict_valueiterator_next->F7,slot_dict_values->akS,slot_dict_values_iter->akT,slot_int_bit_length->akq,slot_list_append->FD,slot_list_extend->akp,slot_str_split->FZ
open PySem.Flow renaming next->FP
open PySem.FuncBody renaming stmts->akM
open PySem.Heap renaming ExtBut->Ba,FunFrames->aj8,SameBut->fN,get?_push_of_some->di,get?_push_size->gx,get?_update_ne->OD,get?_update_other->OW,get?_update_self->k8,lt_size->jy,size_push->rD
open PySem.Heap.DictOf renaming new->akK
open PySem.Heap.IsSliceOf renaming new->Ol
open PySem.Heap.SameBut renaming refl->amR,update->jD
open PySem.Made renaming val->ai0
open PySem.Manifest renaming isStub->akr
open PySem.NameKind renaming cell->akC,ctorIdx->am9,free->Ph,noConfusion->am0
open PySem.Obj renaming cls_mapFields->OV,data_mapFields->xN,isFreed_of_fields->FS,mapFields->rE,mapSeq->rF,putName->kb
open PySem.P renaming neg_int->ai4
open PySem.PyData renaming keyHash->fk
open PySem.Sem renaming wp_bind'->aja
open PySem.SeqAt renaming EqAt->Oc
open PySem.SeqAt.EqAt renaming str_str->amw
open PySem.SeqAt.RcAt renaming lists->amx,lists_lengths->amz
open PySem.SeqAt.RcNeAt renaming lists->amy,lists_lengths->amA
open PySem.Str renaming append_assoc->akJ,append_left_empty->ai1,append_right_empty->Oa,join->uQ,length->ai3,mk->O8,ofString->ak,ofString_eq_toList->PD
open PySem.StrLaws renaming dbl->rU,glued_eq_join->O7
open PySem.Txt renaming find->Fe,isalnum->aiI,isdigit->aiH,join->pM,lower->iK,lstripChars->AK,replace->N0,split->rq,stripChars->ro,upper->AL
open PySem.Value renaming bool->ai9,builtin->Om,casesOn->akL,noConfusion->aku,none->oh,ref->gy,str->Pb
open PySem.Value.ref renaming inj->Pa
open PySem.W renaming Frag->bK,GoodWG->NW,InstAt->rB,Looks->uC,ReadsAllW->Fb,WData->xq,behindTheImports->aih,bind_fn->ajt,boot_drawn->NR,boot_heap->nX,boot_toks->NS,builtinNamed->aix,byRow2->E5,check_slot->Ou,clsIn->pT,emptyDict->i6,findCls->Bg,findIn->fp,findObj->Oo,gensDone->aio,handedIn->A1,hasDictIn->akz,instObj->uS,keepIn->rM,kitOne->gz,laidKept->aip,lookIn->uE,look_both->pJ,looksOpen->aiv,looks_clsIn->Ov,looks_findIn->Fv,looks_mroIn->Fw,looseW->E8,makesIn->O',mroIn->pU,namesBound->ain,namesKept_of->aiA,namesMeet->E9,noRoadLSs->ait,noTable->aiB,notCls->pO,openGood->NU,openSeen->NT,piecesOf->aij,plainGet->Pe,plainOver->ajw,pre_splitW->aiz,putL->ik,putN->xH,putName_dict->OC,readsAllW_cons_inv->akQ,readsAllW_nil_inv->akP,readsIn->O9,restOf->E7,segRunT->aii,set_plain->OE,specialIn->uB,staticsOk->aim,takerIn->ajL,takesIn->akA,topFrame->pI,topRun->E6,topStub->ail,typeIn->FA
open PySem.W.CFound renaming casesOn->am2
open PySem.W.ClaimW renaming callFrom_of_specG->amp
open PySem.W.Fast renaming sDec->FB,te10110043849684766642->ju,te14364793385576792824->jw,te17119622794617984870->Fa,te797321630700447069->aiw,te8326940854005059898->aiu
open PySem.W.Frag.In renaming keeps->amJ
open PySem.W.Looks renaming here->ajE,of_pure->akv
open PySem.W.OpenLaw renaming wellSaid->amo
open PySem.W.OpenRow renaming partSaid->amm,wellSaid->amn
open PySem.W.WData renaming casesOn->akO,int->Pq,layableAll->NV
open PySem.W.WShape renaming has->akN,hasAll->Po,hasItems->Pm
open PySem.W.WTm renaming holds->Pp
open PySem.W.WTm.holds renaming match_1->am3
open PySem.W.WTm.value renaming match_1->am5
open PySem.W.anyFrom renaming match_1->am4
open PySem.augStore renaming match_1->amP
open PySem.foldedSetIterable renaming match_3->amO
open PySem.swappedStores renaming match_8->amS
open Sum renaming inl->x5
open _root_ renaming Array->js,Bool->bf,Decidable->nY,DecidableEq->mX,False->bA,ForInStep->OY,Int->V,List->D,Nat->J,Option->al,String->aX,True->fD,Unit->c9,absurd->aF,beq_eq_false_iff_ne->Fp,beq_iff_eq->Ob,beq_self_eq_true->j9,bne_eq_false_iff_eq->aky,bne_iff_ne->Pj,congrArg->bq,decide_eq_false->dx,decide_eq_false_iff_not->xS,decide_eq_true->i5,decide_eq_true_eq->il,if_false->FN,if_neg->u,if_pos->aa,if_true->Ga,of_decide_eq_false->Pw,of_decide_eq_true->jx,or_false->uX,rfl->U
local macro_rules | `(tactic|lk)=>`(tactic|decide)
namespace Head
open PySem PySem.W
set_option tactic.hygienic true
noncomputable abbrev pw:Program:=aig
noncomputable abbrev N:Value:=.none
noncomputable abbrev bT:Value:=.bool B
noncomputable abbrev bF:Value:=.bool ag
noncomputable abbrev i(x:V)(t:J):Value:=.int x t
noncomputable abbrev j(x:V):Value:=.int x 0
noncomputable abbrev S(x:aX):Str:=ak x
noncomputable abbrev s(x:aX)(t:J):Value:=.str (ak x) t
noncomputable abbrev t(x:aX):Value:=.type x
noncomputable abbrev b(x:aX):Value:=.builtin x
noncomputable abbrev r(x:J):Value:=.ref x
noncomputable abbrev a{α:Type}(l:D α):js α:=l.toArray
noncomputable abbrev kk(P:aR)(x:H)(t:J)(v:ah):DictEntry:=⟨fk P x,.str x t,v⟩
abbrev k(P:aR)(x:aX)(t:J)(v:ah):DictEntry:=kk P (ak x) t v
abbrev tu(l:D ah):Obj:={cls:=t "tuple",data:=.seq (a l)}
abbrev fl(l:D ah):Obj:={cls:=N,data:=.fields (a l)}
abbrev Gm(l:D ah):Obj:={cls:=t "code",data:=.fields (a l)}
abbrev bm(l:D ah):Obj:={cls:=t "builtin_function_or_method",data:=.fields (a l)}
abbrev dc(l:D jt)(n:J):Obj:={cls:=t "dict",data:=.dict (List.toArray l) n}
noncomputable def sn(n:J):D H->D ah
 |[]=>[]|x::l=>.str x n::sn (n+1) l
abbrev ns(n:J)(l:D aX):D Value:=sn n (l.map ak)
def dS(n:J):Stmt:=pw.main.body.getD n (.Pass default)
noncomputable def Gn:cf->D cf
 |.ClassDef _ _ _ body _ _ _ _ _ _ _=>body|_=>[]
def mS(n m:J):Stmt:=(Gn (dS n)).getD m (.Pass default)
noncomputable def f0(st:cf)(qual:H):FuncData:=match st with|.FunctionDef name args body _ _ _ scope _ _ _=>{name:=name,qualname:=qual,params:=args,body:=.stmts body,scope:=scope,globals:=0,closure:=[],defaults:=.none,kwdefaults:=.none}|_=>default
def fd(st:cf)(qual:H)(d pm c:ah):FuncData:={f0 st qual with globals:=lK,defaults:=d,pyModule:=pm,code:=c}
noncomputable def cd(name:H)(bases mro:D ah)(ns:J)(qual:H)(subs:D ah):ClassData:={name:=name,bases:=bases,mro:=mro,ns:=ns,qualname:=qual,subclasses:=subs}
noncomputable def ni:cf->H×J
 |.FunctionDef n _ _ _ _ _ _ _ _ p=>(n,p.line)|.ClassDef n _ _ _ _ _ _ _ _ _ p=>(n,p.line)|_=>default
noncomputable def Br:cf->J×D H
 |.FunctionDef _ a _ _ _ _ sc _ _ _=>(a.args.length,(sc.names.filter λp=>match p.2 with|.local=>B|_=>ag).map (·.1))|_=>default
def co(n:J)(st:cf)(q:H)(l:D ah)(e:J):Obj:=
 Gm ([.str (ni st).1 n,.str q (n+1),s "/claim/cut.py" (n+2),j (ni st).2]++l++[j e,j (ni st).2,s "/claim/cut.py" (e+1)])
def fo(m n:J)(st:cf)(q:H)(d pm:ah)(z:bf):D Obj:=
 let vs:=(Br st).2
 [tu [],fl []]++(if z then[]else[tu (sn (n+3) vs),tu []])++[{cls:=N,data:=.func (f0 st q)},
  co n st q ([j (Br st).1,j 0,j 0,j 3,r m,bT,j 181,r (m+1),N]++(if z then[N,N,r (m+2)]else[r (m+2),r (m+3),r (m+4)])) (n+3+if z then 0 else vs.length),
  {cls:=t "function",data:=.func (fd st q d pm (r (m+if z then 3 else 5)))}]
noncomputable def PZ(n:J):ah->J
 |.int _ t=>max n (t+1)|.str _ t=>max n (t+1)|_=>n
noncomputable def run(pm:ah)(q:H->H)(z:D J)(x:D (J×D ah)):D cf->J->J->J->D dw×D (H×J×J×J)×J×J
 |[],_,m,n=>([],[],m,n)|st::l,i,m,n=>
  let d:=(x.lookup i).getD [];let n:=d.foldl PZ n;let y:=z.contains i;let p:=d.countP λv=>match v with|.ref _=>B|_=>ag
  let m1:=if d.isEmpty then m else m+p+1;let n1:=n+(if y then 5 else(Br st).2.length+5);let m2:=m1+if y then 5 else 7;let R:=run pm q z x l (i+1) m2 (n1+1)
  ((if d.isEmpty then[]else iJ p (tu [])++[tu d])++(fo m1 n st (q (ni st).1) (if d.isEmpty then N else r (m+p)) pm y++R.1),((ni st).1,n1,m2 -1,(ni st).2)::R.2.1,R.2.2)
def rn(m n f c:J)(pm:ah)(z:D J)(x:D (J×D ah)):D Obj:=(run pm id z x ((pw.main.body.drop f).take c) 0 m n).1
def rX(m n c:J)(st:cf)(bs mro:D ah)(nw:aX)(subs:D ah):Obj:=
 let nm:=(ni st).1
 {cls:=t "type",data:=.cls (cd nm (if bs.isEmpty then[t "object"]else bs) (r c::mro) (c -1) nm subs),slots:=a [if bs.isEmpty then W else I (r m),W,I (.str nm n),I (.str nm (n+8)),I (b nw),I bT]}
def jb(P:aR)(m n:J)(st:cf)(pm:ah)(bs mro:D ah)(nw:aX)(at_:D aX)(v:J)(z:D J)(x:D (J×D ah))(subs:D ah):D Obj:=
 let nm:=(ni st).1;let R:=run pm (λx=>nm++(ak "."++x)) z x (Gn st) 0 (m+7) (n+12);let es:=R.2.1.map λx=>kk P x.1 x.2.1 (r x.2.2.1);let x:=R.2.2.1;let e:=R.2.2.2+at_.length;let c:=x+2;let E:=k P "__firstlineno__" (n+11) (i (ni st).2 (n+10))::(es++[k P "__static_attributes__" e (r x)])
 [tu bs,bm [b "type.__prepare__",t "type"],dc (k P "__module__" (n+7) pm::k P "__qualname__" (n+9) (.str nm (n+8))::E) (es.length+4),tu [],
  fl (R.2.1.flatMap λx=>[j x.2.2.2,j 4,r (x.2.2.1 -1)]),co (n+2) st nm [j 0,j 0,j 0,j 0,r (m+3),bF,j 181,r (m+4),N,N,N,N] (n+5),
  {cls:=t "frame",data:=.plain,slots:=a [I (r (m+5)),I (r 3),I (r (m+2)),W,I pm,W,I (r 0)]}]++R.1++
 [tu (ns R.2.2.2 at_),dc (k P "__module__" (n+7) pm::(E++((if v=2 then[k P "__dict__" (e+2) (r (c+1))]else[])++((if v=0 then[]else[k P "__weakref__" (e+2*v) (r (c+v))])++[k P "__doc__" (e+2*v+1) N])))) (2+v),rX m n c st bs mro nw subs]++
 (if v=2 then[{cls:=t "getset_descriptor",data:=.fields (a [s "__dict__" (e+1),r c,b "function.__dict__",b "function.__dict__#set"])}]else[])++
 (if v=0 then[]else[{cls:=t "getset_descriptor",data:=.fields (a [s "__weakref__" (e+2*v -1),r c,b "ExceptionGroup.__weakref__",N])}])++
 [{cls:=t "super",data:=.fields (a [r c,r c,r c])},bm [b "object.__init_subclass__",r c]]
noncomputable def jF:J->D dw->BT->BT
 |_,[],T=>T|n,o::l,T=>jF (n+1) l (T.ins n o)
abbrev P0:Value:=(s "__main__" 164)
abbrev lh:Value:=(s "gemrows.things" 194)
abbrev Go:Value:=(s "gemrows.numbers" 744)
abbrev u3:Value:=(s "gemrows.formats" 788)
abbrev Gp:Value:=(s "gemrows.errors" 1028)
abbrev md5:Value:=(s "gemrows.lines" 1083)
abbrev Qa:Value:=(s "gemrows.world" 1119)
abbrev Qb:Value:=(s "law_tn0028_01" 1649)
noncomputable def lY:D Value:=[]
def Qc(P:aR):Obj:=fl (lY)
def Qd(P:aR):D Obj:=[tu [],Qc P,Gm [(s "<module>" 182),(s "<module>" 183),(s "/claim/cut.py" 184),(j 1),(j 0),(j 0),(j 0),(j 0),(r 11),bF,(j 181),(r 12),N,N,N,N,(j 185),(j 1),(s "/claim/cut.py" 186)],{cls:=(t "frame"),data:=.plain,slots:=a [I (r 13),I (r 3),I (r 3),W,I (s "__main__" 164),W,I (r 0)]}]
def TA(P:aR):BT:=jF 0 ([PySem.W.boot_o_0 P,PySem.W.boot_o_1 P,PySem.W.boot_o_2 P,PySem.W.boot_o_3 P,PySem.W.boot_o_4 P,PySem.W.boot_o_5 P,PySem.W.boot_o_6 P,PySem.W.boot_o_7 P,PySem.W.boot_o_8 P,PySem.W.boot_o_9 P,PySem.W.boot_o_10 P]++Qd P) .nil
noncomputable def alK(P:aR):D Obj:=[]
def TB(P:aR):BT:=TA P
def li(P:aR):D DictEntry:=[k P "__doc__" 166 N,k P "__package__" 167 N,k P "__loader__" 168 (b "__main__.__loader__#opaque"),k P "__spec__" 169 N,k P "__annotations__" 170 (r 6),k P "__builtins__" 171 (r 4),k P "__file__" 173 (s "/claim/cut.py" 172),k P "__cached__" 174 N,k P "_wall" 193 (r 21),k P "SIMPLE_ESCAPES" 229 (r 22),k P "OPERATORS" 257 (r 23),k P "GLOBAL_SIGNS" 259 (s "!@~&`'+$?:\"/\\;,.<>_*" 258),k P "DEEPEST_KEY" 261 (i 12 260),k P "MOST_SEEN" 263 (i 20000 262),k P "Thing" 298 (r 40),k P "Text" 326 (r 62)]
def Qf(P:aR):Obj:=dc (k P "__name__" 165 (s "gemrows.things" 194)::(li P)) 17
def nj:D Value:=[(j 1),(j 0),(r 20),(j 10),(j 0),(r 29),(j 19),(j 0),(r 50)]
def Qg(P:aR):Obj:=fl (lY++nj)
def Qh(P:aR):D Obj:=rn 15 187 0 1 P0 [] []++[dc [k P "\\" 196 (s "\\\\" 197),k P "\"" 198 (s "\\\"" 199),k P "\n" 200 (s "\\n" 201),k P "\t" 202 (s "\\t" 203),k P "\x0d" 204 (s "\\r" 205),k P "\x1b" 206 (s "\\e" 207),k P "\x07" 208 (s "\\a" 209),k P "\x08" 210 (s "\\b" 211),k P "\x0b" 212 (s "\\v" 213),k P "\x0c" 214 (s "\\f" 215),k P "\x7f" 216 (s "\\x7F" 217)] 11,tu (ns 230 ["+","-","*","/","%","**","==","!=","<",">","<=",">=","<=>","===","[]","[]=","<<",">>","!","~","+@","-@","&","|","^","=~","!~"])]++jb P 24 264 (dS 7) lh [] [(t "object")] "object.__new__" ["fields","frozen","ident","number","own","owner"] 2 [] [] [(r 62)]++jb P 45 299 (dS 8) lh [(r 40)] [(r 40),(t "object")] "object.__new__" ["text"] 0 [] [(0,[(s "" 311)])] []
def T0(P:aR):BT:=jF 15 (Qh P) (((TB P).ins 3 (Qf P)).ins 12 (Qg P))
def lZ(P:aR):D DictEntry:=[k P "ListThing" 353 (r 82),k P "TableThing" 405 (r 120)]
def Qj(P:aR):Obj:=dc (k P "__name__" 165 (s "gemrows.things" 194)::(li P++lZ P)) 19
def ou:D Value:=[(j 24),(j 0),(r 70),(j 29),(j 0),(r 90)]
def Qk(P:aR):Obj:=fl (lY++nj++ou)
def Ql:Obj:=rX 24 264 40 (dS 7) [] [(t "object")] "object.__new__" [(r 62),(r 82),(r 120)]
def Qm(P:aR):D Obj:=jb P 65 327 (dS 9) lh [(r 40)] [(r 40),(t "object")] "object.__new__" ["items"] 0 [] [(0,[N])] []++jb P 85 354 (dS 10) lh [(r 40)] [(r 40),(t "object")] "object.__new__" ["rows","spare"] 0 [3] [] []
def T1(P:aR):BT:=jF 65 (Qm P) ((((T0 P).ins 3 (Qj P)).ins 12 (Qk P)).ins 40 Ql)
def nn(P:aR):D DictEntry:=[k P "RangeThing" 436 (r 140),k P "ProcThing" 479 (r 161),k P "ErrorThing" 507 (r 181)]
def Qn(P:aR):Obj:=dc (k P "__name__" 165 (s "gemrows.things" 194)::(li P++lZ P++nn P)) 22
def pZ:D Value:=[(j 49),(j 0),(r 128),(j 56),(j 0),(r 148),(j 69),(j 0),(r 169)]
def Qo(P:aR):Obj:=fl (lY++nj++ou++pZ)
def Qp:Obj:=rX 24 264 40 (dS 7) [] [(t "object")] "object.__new__" [(r 62),(r 82),(r 120),(r 140),(r 161),(r 181)]
def Qq(P:aR):D Obj:=jb P 123 406 (dS 11) lh [(r 40)] [(r 40),(t "object")] "object.__new__" ["first","last","open"] 0 [] [(0,[N,N,bF])] []++jb P 143 437 (dS 12) lh [(r 40)] [(r 40),(t "object")] "object.__new__" ["body","definer","env","home","is_lambda","nesting","params","self_value","site"] 0 [] [(0,[N,N,N,N,(r 150),N,N,bF,N])] []++jb P 164 480 (dS 13) lh [(r 40)] [(r 40),(t "object")] "object.__new__" ["cause","message"] 0 [] [(0,[N])] []
def T2(P:aR):BT:=jF 123 (Qq P) ((((T1 P).ins 3 (Qn P)).ins 12 (Qo P)).ins 40 Qp)
def ox(P:aR):D DictEntry:=[k P "FiberThing" 537 (r 201),k P "ModuleThing" 584 (r 228),k P "is_int" 591 (r 237),k P "sort_of" 598 (r 244),k P "same" 607 (r 251),k P "takes_in" 615 (r 258),k P "code_of" 621 (r 264),k P "is_word" 629 (r 271),k P "is_figures" 635 (r 276),k P "is_label" 642 (r 283)]
def Qr(P:aR):Obj:=dc (k P "__name__" 165 (s "gemrows.things" 194)::(li P++lZ P++nn P++ox P)) 32
def rY:D Value:=[(j 75),(j 0),(r 189),(j 83),(j 0),(r 209),(j 101),(j 0),(r 236),(j 103),(j 0),(r 243),(j 111),(j 0),(r 250),(j 116),(j 0),(r 257),(j 121),(j 0),(r 263),(j 136),(j 0),(r 270),(j 143),(j 0),(r 275),(j 145),(j 0),(r 282)]
def Qs(P:aR):Obj:=fl (lY++nj++ou++pZ++rY)
def Qt:Obj:=rX 24 264 40 (dS 7) [] [(t "object")] "object.__new__" [(r 62),(r 82),(r 120),(r 140),(r 161),(r 181),(r 201),(r 228)]
def Qv(P:aR):D Obj:=jb P 184 508 (dS 14) lh [(r 40)] [(r 40),(t "object")] "object.__new__" ["back","proc","rows","state"] 0 [] [(0,[N])] []++jb P 204 538 (dS 15) lh [(r 40)] [(r 40),(t "object")] "object.__new__" ["ahead","attached","constants","is_class","kept","methods","mixed","name","native","outer","parent"] 0 [] [(0,[N,bF,N,N])] []++rn 231 585 16 8 lh [4,6] [(4,[(i 12 260),N])]
def T3(P:aR):BT:=jF 184 (Qv P) ((((T2 P).ins 3 (Qr P)).ins 12 (Qs P)).ins 40 Qt)
def qa(P:aR):D DictEntry:=[k P "is_plain_symbol" 649 (r 290),k P "full_name" 659 (r 297),k P "show_letter" 669 (r 304),k P "show_text" 675 (r 309),k P "show_symbol" 682 (r 316),k P "show_pair" 692 (r 323),k P "show_range" 703 (r 330),k P "show_held" 709 (r 335),k P "show_thing" 720 (r 342),k P "message_text" 732 (r 350),k P "show" 743 (r 358),k P "MOST_BITS" 747 (i 14000 746),k P "FIGURES" 749 (s "0123456789abcdefghijklmnopqrstuvwxyz" 748),k P "named" 757 (r 365),k P "whole" 766 (r 372),k P "whole_numbers" 767 (r 372),k P "need_room" 777 (r 380),k P "figures" 787 (r 387),k P "MOST_TEXT" 791 (i 20000 790),k P "BLANKS" 793 (s " \t\n\x0b\x0c\x0d" 792),k P "PREFIXES" 802 (r 392),k P "BASES" 827 (r 393),k P "letters" 837 (r 400),k P "read_int" 855 (r 408),k P "in_room" 863 (r 415)]
def Qw(P:aR):Obj:=dc (k P "__name__" 165 (s "gemrows.formats" 788)::(li P++lZ P++nn P++ox P++qa P)) 57
def u4:D Value:=[(j 147),(j 0),(r 289),(j 157),(j 0),(r 296),(j 172),(j 0),(r 303),(j 182),(j 0),(r 308),(j 185),(j 0),(r 315),(j 187),(j 0),(r 322),(j 191),(j 0),(r 329),(j 195),(j 0),(r 334),(j 205),(j 0),(r 341),(j 219),(j 0),(r 349),(j 230),(j 0),(r 357),(j 244),(j 0),(r 364),(j 248),(j 0),(r 371),(j 256),(j 0),(r 379),(j 259),(j 0),(r 386),(j 274),(j 0),(r 399),(j 280),(j 0),(r 407),(j 305),(j 0),(r 414)]
def Qx(P:aR):Obj:=fl (lY++nj++ou++pZ++rY++u4)
def Qy(P:aR):D Obj:=rn 284 643 24 11 lh [3,7] [(9,[(i 6 721),N]),(10,[(i 6 733),N])]++rn 359 750 38 2 Go [] []++rn 373 769 41 2 Go [] [(0,[(s "number too big" 768)])]++[tu [(s "0x" 794),(i 16 795)],tu [(s "0b" 796),(i 2 797)],tu [(s "0o" 798),(i 8 799)],tu [(s "0d" 800),(i 10 801)],tu [(r 388),(r 389),(r 390),(r 391)],dc [k P "d" 803 (i 10 804),k P "i" 805 (i 10 806),k P "u" 807 (i 10 808),k P "x" 809 (i 16 810),k P "X" 811 (i 16 812),k P "o" 813 (i 8 814),k P "b" 815 (i 2 816),k P "B" 817 (i 2 818)] 8]++rn 394 828 48 3 u3 [] [(1,[bF])]
def T4(P:aR):BT:=jF 284 (Qy P) (((T3 P).ins 3 (Qw P)).ins 12 (Qx P))
def rZ(P:aR):D DictEntry:=[k P "integer_for" 872 (r 422),k P "display" 879 (r 429),k P "Format" 929 (r 460),k P "Formatter" 1018 (r 523)]
def Qz(P:aR):Obj:=dc (k P "__name__" 165 (s "gemrows.formats" 788)::(li P++lZ P++nn P++ox P++qa P++rZ P)) 61
def yc:D Value:=[(j 308),(j 0),(r 421),(j 317),(j 0),(r 428),(j 323),(j 0),(r 435),(j 346),(j 0),(r 470)]
def QA(P:aR):Obj:=fl (lY++nj++ou++pZ++rY++u4++yc)
def QB(P:aR):D Obj:=rn 416 864 51 2 u3 [] []++jb P 430 880 (dS 53) u3 [] [(t "object")] "object.__new__" ["flags","most","width"] 2 [] [] []++jb P 465 930 (dS 54) u3 [] [(t "object")] "object.__new__" ["place","text","used","values","world"] 2 [] [] []
def T5(P:aR):BT:=jF 416 (QB P) (((T4 P).ins 3 (Qz P)).ins 12 (QA P))
def u5(P:aR):D DictEntry:=[k P "filled" 1027 (r 534),k P "GemError" 1057 (r 552),k P "Raised" 1082 (r 572),k P "raise_version" 1091 (r 581),k P "own_module" 1101 (r 588),k P "class_above" 1108 (r 595),k P "make_own" 1118 (r 602),k P "MODULES" 1124 (r 603)]
def QC(P:aR):Obj:=dc (k P "__name__" 165 (s "gemrows.world" 1119)::(li P++lZ P++nn P++ox P++qa P++rZ P++u5 P)) 69
def Bs:D Value:=[(j 420),(j 0),(r 533),(j 423),(j 0),(r 540),(j 428),(j 0),(r 561),(j 434),(j 0),(r 580),(j 436),(j 0),(r 587),(j 448),(j 0),(r 594),(j 450),(j 0),(r 601)]
def QD(P:aR):Obj:=fl (lY++nj++ou++pZ++rY++u4++yc++Bs)
def QE(P:aR):D Obj:=rn 528 1019 55 1 u3 [] []++jb P 535 1030 (dS 57) Gp [(t "ValueError")] [(t "ValueError"),(t "Exception"),(t "BaseException"),(t "object")] "ValueError.__new__" ["reason"] 1 [] [(0,[(s "" 1042)])] [(r 572)]++jb P 556 1058 (dS 58) Gp [(r 552)] [(r 552),(t "ValueError"),(t "Exception"),(t "BaseException"),(t "object")] "ValueError.__new__" ["thing"] 0 [] [] []++rn 575 1085 60 4 md5 [] []++[tu (ns 1121 ["Kernel","Comparable","Enumerable"])]
def T6(P:aR):BT:=jF 528 (QE P) (((T5 P).ins 3 (QC P)).ins 12 (QD P))
def yd(P:aR):D DictEntry:=[k P "BUILTINS" 1241 (r 604)]
def QF(P:aR):Obj:=dc (k P "__name__" 165 (s "gemrows.world" 1119)::(li P++lZ P++nn P++ox P++qa P++rZ P++u5 P++yd P)) 70
def QG(P:aR):D Obj:=[dc [k P "BasicObject" 1125 N,k P "Object" 1127 (s "BasicObject" 1128),k P "Module" 1130 (s "Object" 1131),k P "Class" 1133 (s "Module" 1134),k P "Kernel" 1136 N,k P "Comparable" 1138 N,k P "Enumerable" 1140 N,k P "NilClass" 1142 (s "Object" 1143),k P "TrueClass" 1145 (s "Object" 1146),k P "FalseClass" 1148 (s "Object" 1149),k P "Numeric" 1151 (s "Object" 1152),k P "Integer" 1154 (s "Numeric" 1155),k P "String" 1157 (s "Object" 1158),k P "Symbol" 1160 (s "Object" 1161),k P "Array" 1163 (s "Object" 1164),k P "Hash" 1166 (s "Object" 1167),k P "Range" 1169 (s "Object" 1170),k P "Proc" 1172 (s "Object" 1173),k P "Fiber" 1175 (s "Object" 1176),k P "Exception" 1178 (s "Object" 1179),k P "ScriptError" 1181 (s "Exception" 1182),k P "NotImplementedError" 1184 (s "ScriptError" 1185),k P "SystemStackError" 1187 (s "Exception" 1188),k P "StandardError" 1190 (s "Exception" 1191),k P "ArgumentError" 1193 (s "StandardError" 1194),k P "UncaughtThrowError" 1196 (s "ArgumentError" 1197),k P "FiberError" 1199 (s "StandardError" 1200),k P "IndexError" 1202 (s "StandardError" 1203),k P "KeyError" 1205 (s "IndexError" 1206),k P "StopIteration" 1208 (s "IndexError" 1209),k P "LocalJumpError" 1211 (s "StandardError" 1212),k P "NameError" 1214 (s "StandardError" 1215),k P "NoMethodError" 1217 (s "NameError" 1218),k P "NoMatchingPatternError" 1220 (s "StandardError" 1221),k P "NoMatchingPatternKeyError" 1223 (s "NoMatchingPatternError" 1224),k P "RangeError" 1225 (s "StandardError" 1226),k P "RuntimeError" 1227 (s "StandardError" 1228),k P "FrozenError" 1229 (s "RuntimeError" 1230),k P "TypeError" 1231 (s "StandardError" 1232),k P "ZeroDivisionError" 1233 (s "StandardError" 1234)] 40,dc [k P "Proc" 1172 (s "Object" 1173),k P "Fiber" 1175 (s "Object" 1176),k P "Exception" 1178 (s "Object" 1179),k P "ScriptError" 1181 (s "Exception" 1182),k P "NotImplementedError" 1184 (s "ScriptError" 1185),k P "SystemStackError" 1187 (s "Exception" 1188),k P "StandardError" 1190 (s "Exception" 1191),k P "ArgumentError" 1193 (s "StandardError" 1194),k P "UncaughtThrowError" 1196 (s "ArgumentError" 1197),k P "FiberError" 1199 (s "StandardError" 1200),k P "IndexError" 1202 (s "StandardError" 1203),k P "KeyError" 1205 (s "IndexError" 1206),k P "StopIteration" 1208 (s "IndexError" 1209),k P "LocalJumpError" 1211 (s "StandardError" 1212),k P "NameError" 1214 (s "StandardError" 1215),k P "NoMethodError" 1217 (s "NameError" 1218),k P "NoMatchingPatternError" 1220 (s "StandardError" 1221)] 17,dc [k P "NoMatchingPatternKeyError" 1223 (s "NoMatchingPatternError" 1224),k P "RangeError" 1225 (s "StandardError" 1226),k P "RuntimeError" 1227 (s "StandardError" 1228),k P "FrozenError" 1229 (s "RuntimeError" 1230),k P "TypeError" 1231 (s "StandardError" 1232),k P "ZeroDivisionError" 1233 (s "StandardError" 1234)] 6]
def T7(P:aR):BT:=jF 604 (QG P) ((T6 P).ins 3 (QF P))
def Bt(P:aR):D DictEntry:=[k P "MIXED" 1263 (r 607),k P "UNMADE" 1269 (r 615)]
def QH(P:aR):Obj:=dc (k P "__name__" 165 (s "gemrows.world" 1119)::(li P++lZ P++nn P++ox P++qa P++rZ P++u5 P++yd P++Bt P)) 72
def QI(P:aR):D Obj:=[dc [k P "Object" 1242 (r 608),k P "Numeric" 1244 (r 609),k P "String" 1246 (r 610),k P "Symbol" 1248 (r 611),k P "Array" 1250 (r 612),k P "Hash" 1252 (r 613),k P "Range" 1254 (r 614)] 7,tu (ns 1243 ["Kernel"]),tu (ns 1245 ["Comparable"]),tu (ns 1247 ["Comparable"]),tu (ns 1249 ["Comparable"]),tu (ns 1251 ["Enumerable"]),tu (ns 1253 ["Enumerable"]),tu (ns 1255 ["Enumerable"]),tu (ns 1264 ["NilClass","TrueClass","FalseClass","Integer","Symbol"])]
def T8(P:aR):BT:=jF 607 (QI P) ((T7 P).ins 3 (QH P))
def Gq(P:aR):D DictEntry:=[k P "World" 1648 (r 891)]
def QJ(P:aR):Obj:=dc (k P "__name__" 165 (s "gemrows.world" 1119)::(li P++lZ P++nn P++ox P++qa P++rZ P++u5 P++yd P++Bt P++Gq P)) 73
def Gr:D Value:=[(j 462),(j 0),(r 621)]
def QK(P:aR):Obj:=fl (lY++nj++ou++pZ++rY++u4++yc++Bs++Gr)
def QL(P:aR):D Obj:=jb P 616 1270 (dS 69) Qa [] [(t "object")] "object.__new__" ["const_version","globals","here","is_ready","last_ident","last_number","made","main","most","natives","out","prelude","read","symbol_idents","taken","version"] 2 [7] [(0,[N,N,(i 20000 1282)]),(9,[N,N,N])] []
def T9(P:aR):BT:=jF 616 (QL P) (((T8 P).ins 3 (QJ P)).ins 12 (QK P))
def QM(P:aR):D DictEntry:=[k P "_law_box" 1661 (r 902),k P "_law_take" 1671 (r 909),k P "_law_size" 1678 (r 916),k P "_law_place" 1684 (r 921),k P "_law_row" 1690 (r 926),k P "_law_figures" 1700 (r 933),k P "_law_numeral" 1713 (r 940),k P "_law_strange" 1723 (r 947),k P "_law_amount" 1733 (r 954),k P "_law_value" 1745 (r 961),k P "_law_run" 1754 (r 968),k P "_law_units" 1773 (r 975),k P "_law_wants" 1779 (r 980),k P "_law_ahead" 1788 (r 987),k P "_law_padded" 1797 (r 994),k P "_law_number" 1811 (r 1001),k P "_law_told_by" 1825 (r 1008),k P "_law_piece" 1846 (r 1015),k P "_law_due" 1859 (r 1022),k P "_law_heard" 1869 (r 1029),k P "_law_agrees" 1877 (r 1036),k P "_law_turn_right" 1883 (r 1041),k P "law" 1893 (r 1048)]
def QN(P:aR):Obj:=dc (k P "__name__" 165 (s "law_tn0028_01" 1649)::(li P++lZ P++nn P++ox P++qa P++rZ P++u5 P++yd P++Bt P++Gq P++QM P)) 96
def QO:D Value:=[(j 678),(j 0),(r 901),(j 686),(j 0),(r 908),(j 695),(j 0),(r 915),(j 699),(j 0),(r 920),(j 704),(j 0),(r 925),(j 716),(j 0),(r 932),(j 724),(j 0),(r 939),(j 729),(j 0),(r 946),(j 746),(j 0),(r 953),(j 751),(j 0),(r 960),(j 766),(j 0),(r 967),(j 769),(j 0),(r 974),(j 792),(j 0),(r 979),(j 798),(j 0),(r 986),(j 800),(j 0),(r 993),(j 802),(j 0),(r 1000),(j 815),(j 0),(r 1007),(j 829),(j 0),(r 1014),(j 858),(j 0),(r 1021),(j 871),(j 0),(r 1028),(j 876),(j 0),(r 1035),(j 880),(j 0),(r 1040),(j 904),(j 0),(r 1047)]
def QP(P:aR):Obj:=fl (lY++nj++ou++pZ++rY++u4++yc++Bs++Gr++QO)
def QQ(P:aR):D Obj:=rn 896 1651 71 23 Qb [3,4,12,21] []
def Bu(P:aR):BT:=jF 896 (QQ P) (((T9 P).ins 3 (QN P)).ins 12 (QP P))
def TF(P:aR):BT:=Bu P
def np:Env:={scope:=pw.main.scope,locals:=mainNs,globals:=mainNs,cells:=[],code:=.ref 13,frame:=I 14}
def bE:D Stmt:=aih pw
def cE:Code:=Code.body bE np
noncomputable def q0:Pos:=⟨0,0,0,0⟩
noncomputable def ann:al Value:=I (.ref 6)
def sl(f c:J):D Stmt:=(pw.main.body.drop f).take c
def QR(P:aR):Obj:=rX 535 1030 552 (dS 57) [(t "ValueError")] [(t "ValueError"),(t "Exception"),(t "BaseException"),(t "object")] "ValueError.__new__" [(r 572)]
def QS(P:aR):Obj:=rX 556 1058 572 (dS 58) [(r 552)] [(r 552),(t "ValueError"),(t "Exception"),(t "BaseException"),(t "object")] "ValueError.__new__" []
noncomputable abbrev ST(T:aR->BT)(n tk:J)(w:cF)(os:dM):SharedT:=⟨T w.params,n,{},⟨[]⟩,{},tk,os⟩
abbrev SG(T T':aR->BT)(n tk n' Gs f c k:J)(p p':cJ)(w:cF):Prop:=∀os:dM,aii nW pw w 11 ann 1 k ⟨T w.params,n,{},⟨[]⟩,{},tk,os⟩ (aij (sl f c) np cE p [pI q0])=I (.next,⟨T' w.params,n',{},⟨[]⟩,{},Gs,os⟩,cE,p')
def p0(w:cF):SG TB T0 15 187 65 327 0 9 755 ⟨0,0,0,0⟩ ⟨19,0,23,24⟩ w:=E5 "special-get-raises" (λ_ os=>by rw[ju,jw];kernel_rfl) (λ_ os=>by rw[ju,jw];kernel_rfl) w
def p1(w:cF):SG T0 T1 65 327 123 406 9 2 591 ⟨19,0,23,24⟩ ⟨29,0,48,63⟩ w:=λos=>by rw[ju,jw];kernel_rfl
def p2(w:cF):SG T1 T2 123 406 184 508 11 3 768 ⟨29,0,48,63⟩ ⟨69,0,74,25⟩ w:=λos=>by rw[ju,jw];kernel_rfl
def p3(w:cF):SG T2 T3 184 508 284 643 14 10 777 ⟨69,0,74,25⟩ ⟨145,0,146,66⟩ w:=λos=>by rw[ju,jw];kernel_rfl
def p4(w:cF):SG T3 T4 284 643 416 864 24 27 791 ⟨145,0,146,66⟩ ⟨305,0,307,16⟩ w:=E5 "special-get-raises" (λ_ os=>by rw[ju,jw];kernel_rfl) (λ_ os=>by rw[ju,jw];kernel_rfl) w
def p5(w:cF):SG T4 T5 416 864 528 1019 51 4 778 ⟨305,0,307,16⟩ ⟨346,0,419,29⟩ w:=λos=>by rw[ju,jw];kernel_rfl
def p6(w:cF):SG T5 T6 528 1019 604 1125 55 11 659 ⟨346,0,419,29⟩ ⟨458,0,458,7⟩ w:=λos=>by rw[ju,jw];kernel_rfl
def p7(w:cF):SG T6 T7 604 1125 607 1242 66 1 759 ⟨458,0,458,7⟩ ⟨459,0,459,8⟩ w:=E5 "special-get-raises" (λ_ os=>by rw[ju,jw];kernel_rfl) (λ_ os=>by rw[ju,jw];kernel_rfl) w
def p8(w:cF):SG T7 T8 607 1242 616 1270 67 2 145 ⟨459,0,459,8⟩ ⟨461,0,461,6⟩ w:=E5 "special-get-raises" (λ_ os=>by rw[ju,jw];kernel_rfl) (λ_ os=>by rw[ju,jw];kernel_rfl) w
def p9(w:cF):SG T8 T9 616 1270 896 1649 69 1 1461 ⟨461,0,461,6⟩ ⟨462,0,676,17⟩ w:=λos=>by rw[ju,jw];kernel_rfl
def Bv(w:cF):SG T9 Bu 896 1649 1049 1894 70 24 751 ⟨462,0,676,17⟩ ⟨904,0,909,15⟩ w:=λos=>by rw[ju,jw];kernel_rfl
def H1(P:aR):Heap:=absHeap (TF P) 1049 {}
def QT:∀w:cF,(fencedOpening nW pw w 20000).map (λs=>(s.heap,s.gens,s.drawn,s.toks))=I (nX w.params,aik [],NR,NS):=
 boot_open (by kernel_rfl) (by lk)<|by intro s;kernel_rfl
def QU(w:cF):((nX w.params).isNs lK&&(aik ([]:D GenState)).size==0,(nX w.params).objs.size,(nX w.params).nsMap lK "__annotations__")=(B,11,ann):=by kernel_rfl
def QV(w:cF)(a:dM):topGo nW pw w 11 ann 12 ⟨nX w.params,⟨[]⟩,NR,NS,a⟩ (ail pw)=I ((ST TA 15 187 w a).abs,⟨denote nW cE,cE,q0,[pI q0]⟩):=by kernel_rfl
def QW(w:cF)(a:dM):segRun nW pw w 11 ann 1 1 (ST TA 15 187 w a).abs (blockOf bE np cE q0 [pI q0])=I (.next,(ST TB 15 187 w a).abs,cE,q0):=by kernel_rfl
def QX(w:cF)(c:dM)(a:cJ):E6 nW pw w 11 ann 2 (ST Bu 1049 1894 w c).abs ⟨doneF .next,cE,a,[pI q0]⟩=I ⟨H1 w.params,⟨[]⟩,{},1894,c⟩:=by kernel_rfl
def QY:bE=sl 0 9++(sl 9 2++(sl 11 3++(sl 14 10++(sl 24 27++(sl 51 4++(sl 55 11++(sl 66 1++(sl 67 2++(sl 69 1++(sl 70 24++[])))))))))):=by kernel_rfl
def chain{N:J}{s:SharedT}{r:aM}
 (h:aii nW pw w 11 ann 1 n s (aij l np cE c [pI q0])=I (.next,d,cE,e))
 (k:E6 nW pw w 11 ann N d.abs (E7 rest np cE e [pI q0])=I r):
 E6 nW pw w 11 ann (n+N) s.abs (E7 (l++rest) np cE c [pI q0])=I r:=piece_app (segRun_of h) k
noncomputable def QZ:Nat:=12+(1+(755+(591+(768+(777+(791+(778+(659+(759+(145+(1461+(751+2))))))))))))
def Q0(w:cF)(os:dM):E6 nW pw w 11 ann QZ ⟨nX w.params,⟨[]⟩,NR,NS,os⟩ (ail pw)=I ⟨H1 w.params,⟨[]⟩,{},1894,os⟩:=by
 refine go_top (QV w os)<|piece_block (q:=q0) (env:=np) (b:=bE) (QW w os) ?_
 rw[show E7 bE np cE q0 [pI q0]=_ from bq (λl=>E7 l np cE q0 [pI q0]) QY];refine chain (p0 w os)<|chain (p1 w os) (chain (p2 w os) (chain (p3 w os) ?_))
 refine chain (p4 w os)<|chain (p5 w os) (chain (p6 w os) (chain (p7 w os) ?_))
 exact chain (p8 w os)<|chain (p9 w os) (chain (Bv w os) (QX w os _))
end Head
namespace Head
open PySem PySem.W PySem.Calls PyProof.Rows
set_option tactic.hygienic true
def qv:Program:={pw with main:={pw.main with body:=[dS 93]}}
def loose:D Str:=pw.boundNames.filter λn=>n !=(S "law")
def SF(w:cF)(a:dM):Shared:=⟨H1 w.params,⟨[]⟩,{},1894,a⟩
def l1(w:cF)(a:dM):(aim (xp pw.main.body) (nX w.params) (H1 w.params)&&ain pw (H1 w.params)&&aio (SF w a)&&aip (nX w.params) (H1 w.params))=true:=by kernel_rfl
def s1(w:cF)(a:dM):ama ((aiq qv).map (·.name)) (amb qv) [] {SF w a with gens:=#[]}=amc qv:=by kernel_rfl
def s2(w:cF)(a:dM):(H1 w.params).bltView=bltViewBooted:=by kernel_rfl
def s3(w:cF)(a:dM):((H1 w.params).keysOk (E8 qv loose) ((aiq qv).map (·.name)) ((amd qv).map (·.1)) ((ame qv<|E8 qv loose).map (·.name))&&(H1 w.params).accountedOkI (xp pw.main.body)&&(H1 w.params).isNs lK&&(H1 w.params).isNs uo&&amf qv (H1 w.params)&&B&&(if B then(SF w a).gens.size==0 else !leftWithCleanup (SF w a).gens))=true:=by rw[PySem.W.Fast.te10880121769531294198,PySem.W.Fast.te14722251495701143533,PySem.W.Fast.te10994771534591457954];kernel_rfl
def s4(w:cF)(a:dM):amg qv (SF w a)=true:=by rw[PySem.W.Fast.te479339242167458305];kernel_rfl
def s5(w:cF)(a:dM):pinSeenD qv (air qv) (SF w a)=pinGoodD (air qv):=by kernel_rfl
def s6(w:cF)(a:dM):amh qv (E8 qv loose) (SF w a)=ami qv (E8 qv loose):=by kernel_rfl
def s7(w:cF)(a:dM):amj qv loose (SF w a)=amk qv loose:=by kernel_rfl
def s8(w:cF)(a:dM):wideSeen qv (SF w a)=wideGood qv:=by rw[PySem.W.Fast.te7317090234206586261];kernel_rfl
def s9(w:cF)(a:dM):clsSeenW qv loose (SF w a)=clsGoodW qv loose:=by rw[PySem.W.Fast.te7369524293546568484];kernel_rfl
def pr{a:α}{b:β}(x:a=c)(y:b=d):(a,b)=(c,d):=by rw[x,y]
def so(w:cF)(a:dM):NT qv loose (xp pw.main.body) (λY=>B) B (SF w a)=NU qv loose:=by delta NT NU;exact pr (s1 w a)<|pr (s2 w a) (pr (s3 w a) (pr (s4 w a) (pr (s5 w a) (pr (s6 w a) (pr (s7 w a) (pr (s8 w a) (s9 w a)))))))
def Q1(w:cF):(λa=>((aim (xp pw.main.body) (nX w.params) (H1 w.params)&&ain pw (H1 w.params)&&aio ⟨H1 w.params,⟨[]⟩,{},1894,a⟩&&aip (nX w.params) (H1 w.params)),
 NT qv loose (xp pw.main.body) (λY=>B) B ⟨H1 w.params,⟨[]⟩,{},1894,a⟩,(λs:aM=>(s.heap,s.toks)) ⟨H1 w.params,⟨[]⟩,{},1894,a⟩))=λY=>(B,NU qv loose,(H1 w.params,1894)):=
 funext λa=>pr (l1 w a)<|pr (so w a) U
def Gu:LeftO pw qv loose (λY=>B) (λs:aM=>(s.heap,s.toks)) (λw=>(H1 w.params,1894)) 20000:=
 LeftO.of_pieces QT QU Q0 (by lk) Q1
noncomputable abbrev bz:OpenLaw:=aml
def Q3:cf->DefRec
 |.FunctionDef name args c _ _ _ a _ _ d=>⟨name,args,c,a,d⟩|_=>⟨S "",⟨[],[],W,[],[],W,[]⟩,[],⟨.function,[],ag,ag,[]⟩,⟨0,0,0,0⟩⟩
def r6:DefRec:=Q3<|dS 93
def Q4:defOf qv (S "law")=I (r6,[]):=by kernel_rfl
def Q5:pw.theDef (S "law")=I (r6.params,r6.body,r6.scope):=by kernel_rfl
def Q6:kwWritten? r6.params.kwonlyargs r6.params.kw_defaults=I []:=by kernel_rfl
def Q7:(chainsOk qv&&opensWell pw&&(frees bz.row.toRowW&&bz.row.within.isEmpty))=true:=by kernel_rfl
def Q8:pw.tablesWhole=true:=by delta Program.tablesWhole TablesWhole.wProgram TablesWhole.holds;rw[PySem.W.Fast.te6116379765354995101,PySem.W.Fast.te15985051520779696433];kernel_rfl
def Q9:pw.bare:=⟨U,U,U,U,U,Q8⟩
def w0:sreFenced pw.main=true:=by rw[PySem.W.Fast.te11788848310118352699];kernel_rfl
def w1:((ais pw.main.body).isEmpty||lookedIntoSs (ais pw.main.body) pw.main.body)=true:=by rw[PySem.W.Fast.te9807087744658564304];kernel_rfl
def w2:namesResolve pw=true:=by rw[PySem.W.Fast.te8377067652309620493];kernel_rfl
def w3:(pw.boundNames.all λn=>!worldNames.contains n)=true:=by rw[PySem.W.Fast.te18344453789297297638,PySem.W.Fast.te3471404346716756564];kernel_rfl
def w4:ait {strict:=!(xp pw.main.body).all cThrough.contains,foot:=W,bare:=(["vars","dir","locals"]:D H).filter<|readsOut pw pw.main.body} pw.main.body=true:=by rw[aiu,PySem.W.Fast.te13343964577679436407];kernel_rfl
def w5:(E9 pw pw.main.body λY n=>attrL n)=true:=by rw[Fa,PySem.W.Fast.te17868728402115742887];kernel_rfl
def Ra:aiv pw=true:=by delta aiv;exact pJ (pJ (pJ (pJ (pJ w0 w1) w2) w3) w4) w5
def w6:(bz.row.loose.isEmpty)=true:=by kernel_rfl
def w7:(bz.row.makers.isEmpty)=true:=by kernel_rfl
def Rb:bz.row.toRowW.solid=true:=by kernel_rfl
def Rd:pw.boundNames.contains (S "law")=true:=by kernel_rfl
def Re:(!startupNames.contains (S "law"))=true:=by kernel_rfl
def Rf:decide (bz.foot<=(aih bz.prog).length)=true:=by kernel_rfl
def Rg:bz.footing.all footLine=true:=by rw[PySem.W.Fast.te10501279942588096481];kernel_rfl
def Rh:noClassBlock bz.prog bz.footing=true:=by rw[PySem.W.Fast.te8179353310426384613];kernel_rfl
def Ri:ait {strict:=B,foot:=I bz.bound',writes:=bz.writes,may:=bz.may} bz.footing=true:=by rw[aiu,aiw];kernel_rfl
def Rj:defStands bz.about bz.above=true:=by rw[PySem.W.Fast.te9558739934217749035];kernel_rfl
def Rk:bz.namesIt=true:=by rw[PySem.W.Fast.te16286561074155671207];kernel_rfl
def Rl:((["type","isinstance","issubclass","getattr","hasattr"]:D H).all λn=>bz.about !=[n])=true:=by kernel_rfl
def Rm:(bz.bound'.all λn=>!aix n||bz.about==[n]||!bz.reads n)=true:=by rw[aiw];kernel_rfl
def Rn:(!bz.writes||(bz.prog.main.body.flatMap aiy).all λn=>!bz.reads n)=true:=by kernel_rfl
def Ro:((bz.prog.main.body.flatMap aiy).all λn=>!bz.reads n||(drawsOf n bz.prog.main.body).all λa=>a.2 !=("attrgetter":H)&&a.2 !=("methodcaller":H))=true:=by kernel_rfl
def Rp:(E9 bz.prog bz.footing (λa n=>(!(["type","isinstance","issubclass","getattr","hasattr"]:D H).contains n||a.names.lookup n==I .globalImplicit)&&
 (bz.may !=I n||a.kind==.module||a.names.lookup n==I .globalImplicit)))=true:=by rw[Fa];kernel_rfl
def Rq:bz.own.contains bz.name=true:=by kernel_rfl
def Rt:(bz.own.eraseDups.length==bz.own.length)=true:=by kernel_rfl
def Ru:(bz.own.all λn=>!aix n)=true:=by kernel_rfl
def Rv:(E9 bz.prog bz.above λY n=>!bz.own.contains n)=true:=by rw[Fa];kernel_rfl
def Rw:(E9 bz.prog bz.footing λa n=>a.kind==.module||a.names.lookup n !=I .globalExplicit)=true:=by rw[Fa];kernel_rfl
def Rx:bz.row.partSaid=true:=by
 delta amm
 with_reducible repeat' (refine pJ ?_ ?_)
 exact Ra;exact w6;exact w7;kernel_rfl;kernel_rfl;kernel_rfl;kernel_rfl;exact Rb;kernel_rfl;kernel_rfl;kernel_rfl;kernel_rfl;kernel_rfl;kernel_rfl
def Gv:bz.row.wellSaid=true:=by delta amn;exact pJ (pJ Rx Rd) Re
def Ry:bz.wellSaid=true:=by
 delta amo
 with_reducible repeat' (refine pJ ?_ ?_)
 exact Gv;exact Rf;exact Rg;exact Rh;kernel_rfl;kernel_rfl;exact Ri;exact Rj;exact Rk;exact Rl;exact Rm;exact Rn;exact Ro;exact Rp;exact Rq;exact Rt;exact Ru;exact Rv;exact Rw
def YP(w:cF)(h:bG):Prop:=∀b o,(H1 w.params).get? b=I o->h.get? b=I o
def Rz(call:∀(w:cF)(l0 dq:aM)(mg mb:H->al ah),Ground qv loose [] (λY Y=>fD) w l0 mg mb dq.heap->YP w dq.heap->1<=dq.toks->dq.gens=#[]->∀(args:D xq)(vs:D ah)(as:D bc),
 bz.row.toRowW.claim.pre args=B->NV args=B->Fb [] (Fc l0.heap) dq.heap vs args as->∃f,mg (S "law")=I f/\
  am (cr pw w) callerA (c8 f vs) (λv s'=>NW bz.row.toRowW.claim (Fc l0.heap) (NX l0.heap) args dq (.ok<|.ret v) s') (λe s'=>NW bz.row.toRowW.claim (Fc l0.heap) (NX l0.heap) args dq (.error e) s') dq):bz.Holds:=by
 obtain⟨ok,k5⟩:=Bool.and_eq_true_iff.mp Q7;obtain⟨Gw,o1⟩:=Bool.and_eq_true_iff.mp ok;obtain⟨k5,k6⟩:=Bool.and_eq_true_iff.mp k5;obtain⟨RA,hu,ha,RB,hm⟩:=frees_parts k5;have hw:bz.row.toRowW.promised:=⟨[WData.list []],by decide +kernel,by decide +kernel⟩;refine⟨Ry,Gv,hw,⟨Q9,o1,U⟩,hw.witness,λw=>⟨(Gu.behind (XP:=λY Y=>fD) (λY Y=>trivial) Gw w).1,λs' ye=>?_⟩⟩;obtain⟨l0,hf,_,s,hT,hz,RC,hg,G0,y⟩:=(Gu.behind (XP:=λY Y=>fD) (λY Y=>trivial) Gw w).2 s' ye;have RF:RecFacts bz.row.records s.heap:=recFacts_nil U;have l4:s.gens=#[]:=NY<|beq_iff_eq.mp RC
 refine⟨l0,hf,‹_›,s,hT,λn hn=>?_,RF.1,RF.2.1,amp (c:=bz.row.toRowW.claim) hz l4 λargs oy Gx ord Gy=>?_⟩;obtain rfl:n=bz.row.name:=by split at hn<;>simp_all
 exact pinned_of_view hg G0 Q4 Q5 Q6;obtain⟨⟨vs,dq⟩,yf⟩:=Option.isSome_iff_exists.mp<|layAllW_isSome (P:=w.params) (ord:=ord) G0.has args bz.row.args s (aiz oy).1
 have gr:=layAllW_grows _ _ _ yf;obtain⟨as,Gz,oz,hold⟩:=reads_layAllW Gy _ _ _ yf Gx dq.heap λY Y e=>e;have L:Laid bz.row.records w s dq args vs as:=⟨⟨ord,Gy,yf⟩,Gz,oz,hold,gr.keeps,gr.alike.1.trans l4,gr.alike.2.2.1⟩;have yg:=G0.keeps (λY Y Y Y Y=>trivial) gr.keeps;have yh:s.heap=H1 w.params:=bq Prod.fst y;have yt:s.toks=1894:=bq Prod.snd y;obtain⟨f,RD,h⟩:=call w s dq _ _ yg (λb o e=>gr.keeps b o<|by rw[yh];exact e) (by have h:s.toks<=dq.toks:=gr.toks;omega) L.gens args vs as oy Gx Gz;have hi:=ident_freeW hu ha RB;have RE:bz.row.toRowW.claim.within=[]:=List.isEmpty_iff.mp k6;have fin:∀(r:pK)s',NW bz.row.toRowW.claim (Fc s.heap) (NX s.heap) args dq r s'->_:=λr s' g=>g.laid (c:=bz.row.toRowW.claim) RA RE hi L;exact⟨vs,dq,yf,af (wpAny_nsGet yg.T.g (by have e:s.heap.nsMap lK bz.row.name=I f:=RD;rw[e];exact af<|g5 h (λv s' g=>aE ⟨_,U,(fin _ _ g).1,(fin _ _ g).2.1,(fin _ _ g).2.2,λq=>⟨aiA hT hg _ gr.keeps g.2.1.old,aiB U q⟩⟩) λe s' g=>⟨(fin _ _ g).1,(fin _ _ g).2.1,(fin _ _ g).2.2,λq=>⟨aiA hT hg _ gr.keeps g.2.1.old,aiB U q⟩⟩))⟩
end Head
section
set_option tactic.hygienic true
set_option backward.match.sparseCases true
@[elab_as_elim] def Z.{c}{α:Sort c}{a b:α}{d:α->Prop}(h:a=b)(m:d b):d a:=h▸m
@[elab_as_elim] def ax.{c}{α:Sort c}{a b:α}{d:α->Prop}(h:a=b)(m:d a):d b:=h▸m
@[elab_as_elim] def nq{a b:Prop}{c:Prop->Prop}(h:a<->b)(m:c b):c a:=propext h▸m
def cO.{c}{α:Sort c}{a b:α}{P:Prop}(f:α->J)(h:a=b)(k:ag=(f a==f b)):P:=aF (bq f h)<|ne_of_beq_false k.symm
def cK{ε α:Type}{a:ε}{b:α}{P:Prop}(h:aiC a=xr b):P:=cO aiD h U
def u6{ε α:Type}{a:ε}{b:α}{P:Prop}(h:xr b=aiC a):P:=cO aiD h U
def RG{P:J->Prop}{a:J}{l:D J}(c:P a)(h:∀x∈l,P x):∀x∈a::l,P x:=λx d=>(List.mem_cons.mp d).elim (λe=>e▸c)<|h x
noncomputable def dk{p:Prop}[nY p](h:B=decide p):p:=jx h.symm
def aI{a c:Prop}{P:Prop}(h:a/\c)(k:a->c->P):P:=k h.1 h.2
def cB{c d e:Prop}{P:Prop}(h:c/\d/\e)(k:c->d->e->P):P:=aI h λa h=>aI h<|k a
def u7{c d e f:Prop}{P:Prop}(h:c/\d/\e/\f)(k:c->d->e->f->P):P:=aI h λa h=>cB h<|k a
def u8{c d e f i:Prop}{P:Prop}(h:c/\d/\e/\f/\i)(k:c->d->e->f->i->P):P:=aI h λa h=>u7 h<|k a
def GA{c d e f i j:Prop}{P:Prop}(h:c/\d/\e/\f/\i/\j)(k:c->d->e->f->i->j->P):P:=aI h λa h=>u8 h<|k a
def Bw{c d e f i j m:Prop}{P:Prop}(h:c/\d/\e/\f/\i/\j/\m)(k:c->d->e->f->i->j->m->P):P:=aI h λa h=>GA h<|k a
def RI{d:Type}{c:d->Prop}{P:Prop}(h:∃a,c a)(k:∀a,c a->P):P:=h.elim k
def av{e:Type}{c d:e->Prop}{P:Prop}(h:∃a,c a/\d a)(k:∀a,c a->d a->P):P:=h.elim λx h=>aI h<|k x
def cC{f:Type}{c d e:f->Prop}{P:Prop}(h:∃a,c a/\d a/\e a)(k:∀a,c a->d a->e a->P):P:=h.elim λx h=>cB h<|k x
def l5{i:Type}{c d e f:i->Prop}{P:Prop}(h:∃a,c a/\d a/\e a/\f a)(k:∀a,c a->d a->e a->f a->P):P:=h.elim λx h=>u7 h<|k x
def qb{j:Type}{c d e f i:j->Prop}{P:Prop}(h:∃a,c a/\d a/\e a/\f a/\i a)(k:∀a,c a->d a->e a->f a->i a->P):P:=h.elim λx h=>u8 h<|k x
def RJ{m:Type}{c d e f i j:m->Prop}{P:Prop}(h:∃a,c a/\d a/\e a/\f a/\i a/\j a)(k:∀a,c a->d a->e a->f a->i a->j a->P):P:=h.elim λx h=>GA h<|k x
def RK{n:Type}{c d e f i j m:n->Prop}{P:Prop}(h:∃a,c a/\d a/\e a/\f a/\i a/\j a/\m a)(k:∀a,c a->d a->e a->f a->i a->j a->m a->P):P:=h.elim λx h=>Bw h<|k x
def eO{e:Type}{f:Type}{d:e->f->Prop}{P:Prop}(h:∃a,∃c,d a c)(k:∀a,∀c,d a c->P):P:=h.elim λx h=>RI h<|k x
def d9{f:Type}{i:Type}{d e:f->i->Prop}{P:Prop}(h:∃a,∃c,d a c/\e a c)(k:∀a,∀c,d a c->e a c->P):P:=h.elim λx h=>av h<|k x
def fP{i:Type}{j:Type}{d e f:i->j->Prop}{P:Prop}(h:∃a,∃c,d a c/\e a c/\f a c)(k:∀a,∀c,d a c->e a c->f a c->P):P:=h.elim λx h=>cC h<|k x
def fQ{j:Type}{m:Type}{d e f i:j->m->Prop}{P:Prop}(h:∃a,∃c,d a c/\e a c/\f a c/\i a c)(k:∀a,∀c,d a c->e a c->f a c->i a c->P):P:=h.elim λx h=>l5 h<|k x
def GB{m:Type}{n:Type}{d e f i j:m->n->Prop}{P:Prop}(h:∃a,∃c,d a c/\e a c/\f a c/\i a c/\j a c)(k:∀a,∀c,d a c->e a c->f a c->i a c->j a c->P):P:=h.elim λx h=>qb h<|k x
def RL{n:Type}{o:Type}{d e f i j m:n->o->Prop}{P:Prop}(h:∃a,∃c,d a c/\e a c/\f a c/\i a c/\j a c/\m a c)(k:∀a,∀c,d a c->e a c->f a c->i a c->j a c->m a c->P):P:=h.elim λx h=>RJ h<|k x
def RM{o:Type}{p:Type}{d e f i j m n:o->p->Prop}{P:Prop}(h:∃a,∃c,d a c/\e a c/\f a c/\i a c/\j a c/\m a c/\n a c)(k:∀a,∀c,d a c->e a c->f a c->i a c->j a c->m a c->n a c->P):P:=h.elim λx h=>RK h<|k x
def r7{f:Type}{i:Type}{j:Type}{e:f->i->j->Prop}{P:Prop}(h:∃a,∃c,∃d,e a c d)(k:∀a,∀c,∀d,e a c d->P):P:=h.elim λx h=>eO h<|k x
def nr{i:Type}{j:Type}{m:Type}{e f:i->j->m->Prop}{P:Prop}(h:∃a,∃c,∃d,e a c d/\f a c d)(k:∀a,∀c,∀d,e a c d->f a c d->P):P:=h.elim λx h=>d9 h<|k x
def l6{j:Type}{m:Type}{n:Type}{e f i:j->m->n->Prop}{P:Prop}(h:∃a,∃c,∃d,e a c d/\f a c d/\i a c d)(k:∀a,∀c,∀d,e a c d->f a c d->i a c d->P):P:=h.elim λx h=>fP h<|k x
def oA{m:Type}{n:Type}{o:Type}{e f i j:m->n->o->Prop}{P:Prop}(h:∃a,∃c,∃d,e a c d/\f a c d/\i a c d/\j a c d)(k:∀a,∀c,∀d,e a c d->f a c d->i a c d->j a c d->P):P:=h.elim λx h=>fQ h<|k x
def Bx{n:Type}{o:Type}{p:Type}{e f i j m:n->o->p->Prop}{P:Prop}(h:∃a,∃c,∃d,e a c d/\f a c d/\i a c d/\j a c d/\m a c d)(k:∀a,∀c,∀d,e a c d->f a c d->i a c d->j a c d->m a c d->P):P:=h.elim λx h=>GB h<|k x
def u9{o:Type}{p:Type}{q:Type}{e f i j m n:o->p->q->Prop}{P:Prop}(h:∃a,∃c,∃d,e a c d/\f a c d/\i a c d/\j a c d/\m a c d/\n a c d)(k:∀a,∀c,∀d,e a c d->f a c d->i a c d->j a c d->m a c d->n a c d->P):P:=h.elim λx h=>RL h<|k x
def By{i:Type}{j:Type}{m:Type}{n:Type}{f:i->j->m->n->Prop}{P:Prop}(h:∃a,∃c,∃d,∃e,f a c d e)(k:∀a,∀c,∀d,∀e,f a c d e->P):P:=h.elim λx h=>r7 h<|k x
def RN{j:Type}{m:Type}{n:Type}{o:Type}{f i:j->m->n->o->Prop}{P:Prop}(h:∃a,∃c,∃d,∃e,f a c d e/\i a c d e)(k:∀a,∀c,∀d,∀e,f a c d e->i a c d e->P):P:=h.elim λx h=>nr h<|k x
def RO{m:Type}{n:Type}{o:Type}{p:Type}{f i j:m->n->o->p->Prop}{P:Prop}(h:∃a,∃c,∃d,∃e,f a c d e/\i a c d e/\j a c d e)(k:∀a,∀c,∀d,∀e,f a c d e->i a c d e->j a c d e->P):P:=h.elim λx h=>l6 h<|k x
def yi{n:Type}{o:Type}{p:Type}{q:Type}{f i j m:n->o->p->q->Prop}{P:Prop}(h:∃a,∃c,∃d,∃e,f a c d e/\i a c d e/\j a c d e/\m a c d e)(k:∀a,∀c,∀d,∀e,f a c d e->i a c d e->j a c d e->m a c d e->P):P:=h.elim λx h=>oA h<|k x
def GC{o:Type}{p:Type}{q:Type}{r:Type}{f i j m n:o->p->q->r->Prop}{P:Prop}(h:∃a,∃c,∃d,∃e,f a c d e/\i a c d e/\j a c d e/\m a c d e/\n a c d e)(k:∀a,∀c,∀d,∀e,f a c d e->i a c d e->j a c d e->m a c d e->n a c d e->P):P:=h.elim λx h=>Bx h<|k x
def GD{p:Type}{q:Type}{r:Type}{s:Type}{f i j m n o:p->q->r->s->Prop}{P:Prop}(h:∃a,∃c,∃d,∃e,f a c d e/\i a c d e/\j a c d e/\m a c d e/\n a c d e/\o a c d e)(k:∀a,∀c,∀d,∀e,f a c d e->i a c d e->j a c d e->m a c d e->n a c d e->o a c d e->P):P:=h.elim λx h=>u9 h<|k x
def Bz{j:Type}{m:Type}{n:Type}{o:Type}{p:Type}{i:j->m->n->o->p->Prop}{P:Prop}(h:∃a,∃c,∃d,∃e,∃f,i a c d e f)(k:∀a,∀c,∀d,∀e,∀f,i a c d e f->P):P:=h.elim λx h=>By h<|k x
def RP{m:Type}{n:Type}{o:Type}{p:Type}{q:Type}{i j:m->n->o->p->q->Prop}{P:Prop}(h:∃a,∃c,∃d,∃e,∃f,i a c d e f/\j a c d e f)(k:∀a,∀c,∀d,∀e,∀f,i a c d e f->j a c d e f->P):P:=h.elim λx h=>RN h<|k x
def GF{n:Type}{o:Type}{p:Type}{q:Type}{r:Type}{i j m:n->o->p->q->r->Prop}{P:Prop}(h:∃a,∃c,∃d,∃e,∃f,i a c d e f/\j a c d e f/\m a c d e f)(k:∀a,∀c,∀d,∀e,∀f,i a c d e f->j a c d e f->m a c d e f->P):P:=h.elim λx h=>RO h<|k x
def RQ{q:Type}{r:Type}{s:Type}{t:Type}{v:Type}{i j m n o p:q->r->s->t->v->Prop}{P:Prop}(h:∃a,∃c,∃d,∃e,∃f,i a c d e f/\j a c d e f/\m a c d e f/\n a c d e f/\o a c d e f/\p a c d e f)(k:∀a,∀c,∀d,∀e,∀f,i a c d e f->j a c d e f->m a c d e f->n a c d e f->o a c d e f->p a c d e f->P):P:=h.elim λx h=>GD h<|k x
def vd{m:Type}{n:Type}{o:Type}{p:Type}{q:Type}{r:Type}{j:m->n->o->p->q->r->Prop}{P:Prop}(h:∃a,∃c,∃d,∃e,∃f,∃i,j a c d e f i)(k:∀a,∀c,∀d,∀e,∀f,∀i,j a c d e f i->P):P:=h.elim λx h=>Bz h<|k x
def BA{n:Type}{o:Type}{p:Type}{q:Type}{r:Type}{s:Type}{j m:n->o->p->q->r->s->Prop}{P:Prop}(h:∃a,∃c,∃d,∃e,∃f,∃i,j a c d e f i/\m a c d e f i)(k:∀a,∀c,∀d,∀e,∀f,∀i,j a c d e f i->m a c d e f i->P):P:=h.elim λx h=>RP h<|k x
end
section
open PySem
set_option genInjectivity true in
inductive CV where
 |none|bool (b:bf)|int (i:V)|str (s:H)
 |tup (xs:D CV)|lst (xs:D CV)|arg (xs:D CV)|dA (es:D (CV×CV))
 |cell (k:J)|fn (q:aX)|cls (c:aX)|typ (n:aX)|blt (id:aX)
 |fS (n:V)|bY (x:H)|c6 (k:J) (x:H)
noncomputable def CV.ctorIdx(x:CV):Nat:=CV.casesOn x 0 (λ_=>1) (λ_=>2) (λ_=>3) (λ_=>4) (λ_=>5) (λ_=>6) (λ_=>7) (λ_=>8) (λ_=>9) (λ_=>10) (λ_=>11) (λ_=>12) (λ_=>13) (λ_=>14) λ_ _=>15
set_option genInjectivity true in
inductive SV where
 |v (x:CV)|ol (xs:D CV)|od (es:D (CV×CV))|un
noncomputable def SV.ctorIdx(x:SV):Nat:=SV.casesOn x (λ_=>0) (λ_=>1) (λ_=>2) 3
inductive aQ where
 |inst (c:aX) (attrs:D (H×SV))|e9 (xs:D CV)
noncomputable def aQ.ctorIdx(x:aQ):Nat:=aQ.casesOn x (λ_ _=>0) λ_=>1
structure K where
 loc:D (H×SV)
 hp:D aQ
 sc:f9
set_option genInjectivity true in
inductive R(α:Type)where
 |C|ok (a:α) (s:K)|exc (e:CV) (s:K)
noncomputable def R.ctorIdx{α:Type}(x:R α):Nat:=R.casesOn x 0 (λ_ _=>1) λ_ _=>2
def M(α:Type):=K->R α
@[reducible] noncomputable def M.pure{α}(a:α):M α:=λs=>.ok a s
@[reducible] noncomputable def M.bind{α β}(m:M α)(f:α->M β):M β:=λs=>match m s with|.C=>.C|.ok a d=>f a d|.exc e d=>.exc e d
@[reducible] noncomputable def C{α}:M α:=λY=>.C
@[reducible] noncomputable def qd{α}(o:al α):M α:=λs=>match o with|some a=>.ok a s|none=>.C
noncomputable def aS{α β:Type}(o:al α)(k:α->R β):R β:=match o with|some a=>k a|none=>.C
def aD{p:Prop}(h:W=I a):p:=nomatch h
noncomputable def ft{p:Prop}(h:ag=B):p:=nomatch h
noncomputable def tf{p:Prop}(h:B=ag):p:=nomatch h
def dE(h:o.bind f=I b):∃a,o=I a/\f a=I b:=Option.bind_eq_some_iff.mp h
def oB[nY c]{b:α}(h:(if c then I a else W)=I b):c/\a=b:=by by_cases q:c;exact⟨q,aK<|(aa q).symm.trans h⟩;exact aD<|(u q).symm.trans h
noncomputable def vw{β:Type}{P:β->Prop}(o:al {x:β//P x}):al β:=o.map (·.1)
def lj{β:Type}{P:β->Prop}(o:al {x:β//P x}){x:β}(h:vw o=I x):P x:=by refine av (Option.map_eq_some_iff.mp h) λa d c=>?_;obtain⟨y,q⟩:=a;subst c;exact q
noncomputable def GG(e:ai):al {x:H//∃p,e=.Name x p}:=match e with|.Name x p=>I ⟨x,p,U⟩|_=>W
noncomputable def BB(e:ai):al {c:AI//∃a b,e=.Constant c a b}:=match e with|.Constant c a b=>I ⟨c,a,b,U⟩|_=>W
noncomputable def BC(e:ai):al {x:ai×H×cJ//e=.Attribute x.1 x.2.1 x.2.2}:=match e with|.Attribute o a p=>I ⟨(o,a,p),U⟩|_=>W
def gO(e:ai):al Str:=vw<|GG e
def GH(e:ai):al Const:=vw<|BB e
def ve(e:ai):al (ai×H×cJ):=vw<|BC e
noncomputable def alu(c:AI):al Str:=match c with|.str x=>I x|_=>W
noncomputable def RR(c:AI):al Int:=match c with|.int x=>I x|_=>W
def r8(e:ai):al Str:=(GH e).bind alu
def yj(e:ai):al Int:=(GH e).bind RR
noncomputable def gM{α:Type}(l:D α):al (α×α):=match l with
 |[]=>W
 |a::r=>(match r with
  |[]=>W
  |b::q=>(match q with
   |[]=>I (a,b)|_::_=>W))
def qe{e:ai}{x:H}(h:gO e=I x):∃p,e=.Name x p:=lj (GG e) h
def yk{x:H}(h:r8 e=I x):∃a b,e=.Constant (.str x) a b:=by refine av (dE h) λc f d=>?_;induction c using aiE with|str y=>exact aK d▸(lj (BB _) f)|_=>exact aD d
def GI{x:V}(h:yj e=I x):∃a b,e=.Constant (.int x) a b:=by refine av (dE h) λc f d=>?_;induction c using aiE with|int y=>exact aK d▸(lj (BB _) f)|_=>exact aD d
def oD{p:α×α}(h:gM l=I p):l=[p.1,p.2]:=by
 induction l using bk with
 |nil=>exact aD h
 |cons a r=>induction r using bk with
  |nil=>exact aD h
  |cons b q=>induction q using bk with
   |nil=>exact aK h▸rfl|cons=>exact aD h
noncomputable def hK(c:CV):al Str:=match c with|.str x=>I x|_=>W
noncomputable def BD(c:CV):al Int:=match c with|.int x=>I x|_=>W
noncomputable def jG(c:CV):al (D CV):=match c with|.tup x=>I x|_=>W
def oE{x:H}(h:hK c=I x):c=.str x:=by induction c using CV.casesOn with|str y=>exact aK h▸rfl|_=>exact aD h
def BE{x:V}(h:BD c=I x):c=.int x:=by induction c using CV.casesOn with|int y=>exact aK h▸rfl|_=>exact aD h
noncomputable def yl(c:CV):al (D CV):=match c with|.lst x=>I x|_=>W
def BF{x:D CV}(h:yl c=I x):c=.lst x:=by induction c using CV.casesOn with|lst y=>exact aK h▸rfl|_=>exact aD h
noncomputable def qf{α:Type}(l:D α):al α:=match l with
 |[]=>W
 |a::r=>(match r with
  |[]=>I a|_::_=>W)
def ym{a:α}(h:qf l=I a):l=[a]:=by
 rcases l with _|⟨x,_|⟨y,r⟩⟩
 exact aD h;exact aK h▸rfl;exact aD h
noncomputable def GJ(c:CV):al Str:=match c with|.bY x=>I x|_=>W
def RS{x:H}(h:GJ c=I x):c=.bY x:=by induction c using CV.casesOn with|bY y=>exact aK h▸rfl|_=>exact aD h
def Bn{α:Type}(l:D α):al (α×α×α):=match l with|[]=>W|a::r=>(gM r).map λp=>(a,p)
def RT{p:α×α×α}(h:Bn l=I p):l=[p.1,p.2.1,p.2.2]:=by induction l using bk with|nil=>exact aD h|cons a r=>exact av (Option.map_eq_some_iff.mp h) λq e f=>f▸bq (a::·) (oD e)
def r9{P:β->Prop}{p:Prop}(h:P (o.elim n k))(a:o=W->P n->p)(b:∀x,o=I x->P (k x)->p):p:=by induction o using bL with|none=>exact a U h|some x=>exact b x U h
def RU[nY c]{b:α}(h:(if c then o else W)=I b):c/\o=I b:=by by_cases q:c;exact⟨q,(aa q).symm.trans h⟩;exact aD<|(u q).symm.trans h
def vf{x:D CV}(h:jG c=I x):c=.tup x:=by induction c using CV.casesOn with|tup y=>exact aK h▸rfl|_=>exact aD h
inductive bD where
 |aO|brk|cnt|ret (v:CV)
noncomputable def bD.ctorIdx(x:bD):Nat:=bD.casesOn x 0 1 2 λ_=>3
set_option genInjectivity true in
inductive RH where
 |C|ok (v:CV) (hp:D aQ)|exc (e:CV) (hp:D aQ)
noncomputable def RH.ctorIdx(x:RH):Nat:=RH.casesOn x 0 (λ_ _=>1) λ_ _=>2
structure jH where
 params:D H
 km:D CV
 locs:D H
 sc:f9
 body:D cf
 native:al (D CV->D aQ->RH):=W
structure Tab where
 glob:H->al CV
 fns:aX->al jH
 gP:aX->H->al CV
 sub:aX->CV->bf
 exc:aX->bf
 up:aX->al aX
 attr:aX->H->bf
 gQ:cJ->bf
noncomputable def ay{β}:D (H×β)->H->al β
 |[],_=>W|(y,b)::r,x=>@ite _ (y=x) (FB y x) (I b) (ay r x)
def RV:ay ((y,b)::r) x=@ite _ (y=x) (FB y x) (I b) (ay r x):=U
noncomputable def bN{β}:D (H×β)->H->β->D (H×β)
 |[],x,b=>[(x,b)]|(y,c)::r,x,b=>@ite _ (y=x) (FB y x) ((y,b)::r) ((y,c)::bN r x b)
def l7(h:y=x):ay ((y,b)::r) x=I b:=aa h
def jI(h:¬y=x):ay ((y,b)::r) x=ay r x:=u h
noncomputable def bj:CV->bf
 |.bY _|.c6 _ _=>ag
 |_=>B
def ea(hp:D aQ)(k:J)(x:H):al SV:=match hp[k]? with|some (.inst _ as)=>ay as x|_=>W
noncomputable def qg(o:al SV):al (D CV):=match o with|some (.ol a)=>I a|_=>W
noncomputable def l8(o:al SV):al (D<|CV×CV):=match o with|some (.od a)=>I a|_=>W
noncomputable def se(o:al aQ):al (D CV):=match o with|some (.e9 a)=>I a|_=>W
noncomputable def gR(o:al aQ):al (aX×D (H×SV)):=match o with
 |none=>W
 |some o=>(match o with
  |.inst c a=>I (c,a)|.e9 _=>W)
def oF{p:aX×D (H×SV)}(h:gR o=I p):o=I (.inst p.1 p.2):=by
 induction o using bL with
 |none=>exact aD h
 |some o=>induction o using aQ.casesOn with
  |inst c e=>exact aK h▸rfl|e9=>exact aD h
def RW{d:D CV}(h:se o=I d):o=I (.e9 d):=by
 induction o using bL with
 |none=>exact aD h
 |some o=>induction o using aQ.casesOn with
  |inst c a=>exact aD h|e9=>exact aK h▸rfl
def RX{a:D CV}(h:qg o=I a):o=I (.ol a):=by
 induction o using bL with
 |none=>exact aD h
 |some v=>induction v using SV.casesOn with
  |ol y=>exact aK h▸rfl|_=>exact aD h
def GK{a:D (CV×CV)}(h:l8 o=I a):o=I (.od a):=by
 induction o using bL with
 |none=>exact aD h
 |some o=>induction o using SV.casesOn with
  |od=>exact aK h▸rfl|_=>exact aD h
def c4(s:K)(c:CV):al (D CV):=match c with
 |.lst a=>I a|.arg a=>I a|.tup a=>I a|.bY x=>qg<|ay s.loc x
 |.c6 k x=>qg<|ea s.hp k x
 |.cell k=>se s.hp[k]?|_=>W
def eP(s:K)(c:CV):al (D<|CV×CV):=match c with
 |.dA a=>I a|.bY x=>l8<|ay s.loc x
 |.c6 k x=>l8<|ea s.hp k x
 |_=>W
noncomputable def sf:CV->CV->al bf
 |.int a,.int b=>I<|a==b
 |.str a,.str b=>I<|a==b
 |_,_=>W
noncomputable def i9:CV->bf
 |.int _|.str _=>B
 |_=>ag
noncomputable def bi:D (CV×CV)->CV->al (al CV)
 |[],_=>I W|p::r,x=>(sf p.1 x).bind λb=>bif b then(bi r x).map λY=>I p.2 else bi r x
def yn(h:sf k x=I b):bi ((k,v)::r) x=bif b then(bi r x).map λY=>I v else bi r x:=bq (λo=>aiF o λb=>bif b then(bi r x).map λY=>I v else bi r x) h
def yo(h:sf k x=W):bi ((k,v)::r) x=none:=bq (λo=>aiF o λb=>bif b then(bi r x).map λY=>I v else bi r x) h
noncomputable def gN:D (CV×CV)->CV->CV->D (CV×CV)
 |[],x,v=>[(x,v)]
 |(k,w)::r,x,v=>match sf k x with
  |some B=>(k,v)::r|_=>(k,w)::gN r x v
def RY:gN ((k,w)::r) x v=match sf k x with|some B=>(k,v)::r|_=>(k,w)::gN r x v:=U
noncomputable def eg(x:H):M CV:=λs=>if x.length<=eJ then .ok (.str x) s else .C
inductive iP where
 |none|bool (b:bf)|int (i:V)|str (x:H)|lst (xs:D CV)|eQ
noncomputable def eh:CV->iP
 |.none=>.none|.bool b=>.bool b|.int i=>.int i|.str x=>.str x|.lst a=>.lst a|_=>.eQ
noncomputable def GL:iP->al bf
 |.none=>I ag|.bool b=>I b|.int i=>I<|i !=0
 |.str x=>if x.length<=eJ then I (x.length !=0)else W
 |_=>W
def oG(_:K)(c:CV):al Bool:=GL<|eh c
noncomputable def qh(a:V)(b:V):Bool:=decide (a.natAbs.log2+b.natAbs.log2+2<2^27)
noncomputable def jd(n:V)(x:H):Str:=⟨(iJ n.toNat x.cps.toList).flatten.toArray⟩
noncomputable def nt{α:Type}(z:α)(f:V->V->α)(a b:iP):α:=match a with|.int a=>(match b with|.int b=>f a b|_=>z)|_=>z
def GN(a b:iP):M CV:=match a with
 |.int a=>(match b with|.int b=>M.pure (.int<|a+b)|_=>C)
 |.str a=>(match b with|.str b=>eg (a++b)|_=>C)
 |.lst x=>(match b with|.lst y=>(λs=>if x.length+y.length<=1000 then .ok (.lst<|x++y) s else .C)|_=>C)|_=>C
def GO(a b:iP):M CV:=match a with
 |.int a=>(match b with|.int b=>(λs=>if qh a b then .ok (.int<|a*b) s else .C)|_=>C)
 |.str a=>(match b with|.int n=>(λs=>if-100000000<=n/\n<=10000000/\a.length<=1 then eg (jd n a) s else .C)|_=>C)|_=>C
def GP(c:mV)(a b:iP):M CV:=match c with|.Add=>GN a b|.Sub=>nt C (λa b=>M.pure<|.int (a -b)) a b|.Mult=>GO a b|.Mod=>nt C (λa b s=>if b=0 then .C else .ok (.int<|a.fmod b) s) a b|.FloorDiv=>nt C (λa b s=>if b≠0/\b.natAbs.log2<9000 then .ok (.int<|a.fdiv b) s else .C) a b|.Pow=>nt C (λa b s=>if 0<=b/\b<=1000000/\a.natAbs<2^64 then .ok (.int<|a^b.toNat) s else .C) a b|_=>C
def ej(c:mV)(a b:CV):M CV:=GP c (eh a)<|eh b
def GQ(a b:iP):M CV:=match a with
 |.int a=>(match b with|.int b=>M.pure (.int<|a+b)|_=>C)
 |.str a=>(match b with|.str b=>eg (a++b)|_=>C)|_=>C
def GR(c:mV)(a b:iP):M CV:=match c with|.Add=>GQ a b|.Sub=>nt C (λa b=>M.pure<|.int (a -b)) a b|_=>C
def iQ(c:mV)(a b:CV):M CV:=GR c (eh a)<|eh b
def GS(a:iP):M CV:=match a with
 |.int a=>M.pure<|.int (-a)
 |_=>C
def nu(c:UnaryOp)(a:CV):M CV:=match c with
 |.Not=>(λs=>match oG s a with|some b=>.ok (.bool<|!b) s|none=>.C)|.USub=>GS<|eh a
 |_=>C
noncomputable def kj:D CV->al (D H)
 |[]=>I []|.str x::r=>(kj r).map (x::·)|_::_=>W
def alv(xs ys:D CV):al Bool:=(kj xs).bind λa=>(kj ys).map λb=>a==b
def GU(a b:iP):al Bool:=match a with
 |.none=>(match b with|.none=>I B|.int _=>I ag|.str _=>I ag|_=>W)
 |.int a=>(match b with|.none=>I ag|.int b=>I (a==b)|.str _=>I ag|_=>W)
 |.str a=>(match b with|.none=>I ag|.int _=>I ag|.str b=>I (a==b)|.lst _=>I ag|_=>W)
 |.lst c=>(match b with|.str _=>I ag|.lst d=>alv c d|_=>W)|_=>W
def GV(a b:CV):al Bool:=GU (eh a)<|eh b
noncomputable def ln(a x:H):Bool:=!(AJ x a 0 x.length 1).isEmpty
noncomputable def GW(a b:iP):al Bool:=match a with
 |.int a=>(match b with|.int b=>I (a==b)|.str _=>I ag|_=>W)
 |.str a=>(match b with|.int _=>I ag|.str b=>I (a==b)|_=>W)|_=>W
def RZ(a b:CV):al Bool:=GW (eh a)<|eh b
noncomputable def BG(a:CV):D CV->al bf
 |[]=>I ag|x::r=>(RZ x a).bind λp=>(BG a r).map λq=>p||q
def GX(s:K)(a b:CV):al Bool:=(eP s b).bind λc=>if i9 a then(bi c a).map aiG else W
def GY(a:iP)(y:H):al Bool:=match a with
 |.str x=>I<|ln x y
 |_=>W
def BH(s:K)(a b:CV):al Bool:=match b with|.str y=>GY (eh a) y|.tup c=>BG a c|b=>GX s a b
noncomputable def GZ(a b:iP):al Bool:=match a with
 |.int a=>(match b with|.int b=>I (decide (a<b))|_=>W)
 |.str a=>(match b with|.str b=>I (decide (a.cps.toList<b.cps.toList))|_=>W)|_=>W
noncomputable def BI(a b:iP):al Bool:=match b with
 |.none=>I<|match a with|.none=>B|_=>ag
 |_=>W
def yp(s:K)(c:ie)(a b:CV):al Bool:=match c with
 |.Eq=>GV a b|.NotEq=>(GV a b).map not|.Lt=>GZ (eh a)<|eh b
 |.LtE=>nt W (λa b=>I<|decide (a<=b)) (eh a)<|eh b
 |.Gt=>nt W (λa b=>I<|decide (a>b)) (eh a)<|eh b
 |.GtE=>nt W (λa b=>I<|decide (a>=b)) (eh a)<|eh b
 |.Is=>BI (eh a)<|eh b
 |.IsNot=>(BI (eh a)<|eh b).map not|.In=>BH s a b|.NotIn=>(BH s a b).map not
def iR(c:ie)(a b:CV):M CV:=λs=>match yp s c a b with|some b=>.ok (.bool b) s|none=>.C
noncomputable def lf(xs:D CV)(i:V):al CV:=(uq i xs.length).bind (xs[·]?)
def vg(s:K)(a:CV)(i:V):R CV:=match c4 s a with
 |some c=>aS (lf c i) λv=>if c.length<=100000 then .ok v s else .C
 |none=>aS (eP s a) λd=>aS (bi d<|.int i) λr=>aS r λv=>.ok v s
def BJ(s:K)(x:H)(i:V):R CV:=aS ((uq i x.length).bind (x.cps[·]?)) λc=>if x.length<=eJ then .ok (.str ⟨#[c]⟩) s else .C
def fT(a i:CV):M CV:=λs=>match i with
 |.int i=>(match hK a with
  |some x=>BJ s x i|none=>vg s a i)
 |.str k=>aS (eP s a) λc=>aS (bi c<|.str k) λr=>aS r λv=>.ok v s|_=>.C
noncomputable def vh:CV->al (al V)
 |.none=>I W|.int i=>I<|I i
 |_=>W
noncomputable def cut{α:Type}(l:D α)(a c:al V):D α:=(l.drop<|a.elim 0 (d6 l.length)).take<|c.elim l.length (d6 l.length) -a.elim 0 (d6 l.length)
def lp(x:H)(a c:al V):Str:=⟨(cut x.cps.toList a c).toArray⟩
def BK(a:CV)(d e:al V)(s:K):R CV:=match hK a with
 |some x=>if x.length<=eJ then .ok (.str<|lp x d e) s else .C
 |none=>(match jG a with
  |some c=>aS d λa=>aS e λb=>if 1<=a/\a<=b/\b<=c.length/\c.length<=100000 then .ok (.tup<|(c.drop a.toNat).take (b.toNat -a.toNat)) s else .C
  |none=>aS (c4 s a) λc=>if c.length<=100000 then .ok (.lst<|cut c d e) s else .C)
def ir(a l c:CV):M CV:=λs=>aS (vh l) λd=>aS (vh c) λe=>BK a d e s
def nv(a:CV):M CV:=λs=>match hK a with
 |some _=>.C
 |none=>(match jG a with
  |some _=>.C|none=>aS (c4 s a) λc=>if c.length<=100000 then .ok (.lst c.reverse) s else .C)
noncomputable def BL(c:CV):Bool:=match c with|.blt _=>B|_=>ag
noncomputable def oH(c:CV):al Nat:=match c with|.cell k=>I k|_=>W
def vj{x:J}(h:oH c=I x):c=.cell x:=by induction c using CV.casesOn with|cell y=>exact aK h▸rfl|_=>exact aD h
def G7(k:J)(x:H)(s:K)(v:SV):R CV:=match v with
 |.v v=>if BL v=B then .C else .ok v s
 |.un=>.C|_=>.ok (.c6 k x) s
def iu(T:Tab)(a:CV)(x:H):M CV:=λs=>aS (oH a) λk=>aS (gR s.hp[k]?) λp=>if T.attr p.1 x then aS (ay p.2 x) (G7 k x s)else .C
noncomputable def vm(x:H):al String:=
 if x="lstrip" then I "str.lstrip" else if x="strip" then I "str.strip" else if x="lower" then I "str.lower" else if x="upper" then I "str.upper"
 else if x="split" then I "str.split" else if x="join" then I "str.join" else if x="find" then I "str.find"
 else if x="isdigit" then I "str.isdigit" else if x="isalnum" then I "str.isalnum" else W
def vn(a:CV)(x:H)(s:K):R (CV×D CV):=match eP s a with
 |some _=>if x="get" then .ok (.blt "dict.get",[a]) s else .C
 |none=>(match a with
  |.bY _=>aS (c4 s a) λY=>if x="append" then .ok (.blt "list.append",[a]) s else if x="extend" then .ok (.blt "list.extend",[a]) s else .C
  |_=>.C)
def oI(T:Tab)(a:CV)(x:H):M (CV×D CV):=λs=>match a with
 |.str _=>aS (vm x) λd=>.ok (.blt d,[a]) s|.int _=>if x="bit_length" then .ok (.blt "int.bit_length",[a]) s else .C
 |.cell k=>aS (gR s.hp[k]?) λp=>if T.exc p.1 then .C else(match ay p.2 x with
  |none=>aS (T.gP p.1 x) λf=>.ok (f,[a]) s|some _=>.C)
 |.cls c=>aS (T.gP c x) λf=>.ok (f,[]) s|.typ n=>if n="ValueError"/\x="__init__" then .ok (.blt "ValueError.__init__",[]) s else .C
 |a=>vn a x s
noncomputable def l9(n:aX):Bool:=n=="int"||n=="str"||n=="bool"||n=="list"
def kq(T:Tab)(s:K)(k:J):al String:=(gR s.hp[k]?).bind λp=>if T.exc p.1=B then W else I p.1
def BM(T:Tab)(s:K)(n:aX)(v:CV):al Bool:=match v with
 |.none=>I ag|.bool _=>I<|n=="bool"||n=="int"
 |.int _=>I<|n=="int"
 |.str _=>I<|n=="str"
 |.lst _=>I<|n=="list"
 |.tup _=>I ag|.cell k=>(kq T s k).map λY=>ag|_=>W
def vp(T:Tab)(s:K)(e:aX)(v:CV):al Bool:=match v with
 |.none=>I ag|.bool _=>I ag|.int _=>I ag|.str _=>I ag|.cell k=>(kq T s k).map λd=>T.sub d<|.cls e
 |_=>W
def je(T:Tab)(s:K)(v c:CV):al Bool:=match c with
 |.typ n=>if l9 n=B then BM T s n v else W
 |.cls e=>vp T s e v|_=>W
noncomputable def nx(T:Tab)(s:K)(v:CV):D CV->al bf
 |[]=>I ag
 |c::r=>match je T s v c with
  |some B=>I B|some ag=>nx T s v r|none=>W
def BN:nx T s v (c::r)=match je T s v c with|some B=>I B|some ag=>nx T s v r|none=>none:=U
def yq(T:Tab)(s:K)(v c:CV):al Bool:=match c with
 |.tup a=>if a.isEmpty then W else nx T s v a
 |c=>je T s v c
noncomputable def oJ(x:H):al Int:=if x.length<=640 then PySem.intText? x else W
def sg(s:K)(v:CV):al Nat:=(hK v).elim ((c4 s v).elim ((eP s v).map ig) λa=>I a.length) λx=>if x.length<=eJ then I x.length else W
noncomputable def pY(x:H):D Str:=x.cps.toList.map λc=>⟨#[c]⟩
noncomputable def jf(n:V):D CV:=(pL n.toNat).map λ(i:J)=>CV.int (i:V)
def gG(s:K):CV->al (D CV)
 |.str x=>I<|(pY x).map .str
 |.fS n=>I<|jf n
 |.lst a=>I a|.tup a=>I a|_=>W
def cq(x:H)(v:SV)(s:K):K:={s with loc:=bN s.loc x v}
def a1(f:CV->M CV)(a:D CV):M CV:=λs=>aS (qf a) λv=>f v s
def a2(f:CV->CV->M CV)(a:D CV):M CV:=λs=>aS (gM a) λp=>f p.1 p.2 s
def jJ(v:CV)(f:V->M CV):M CV:=λs=>aS (BD v) λi=>f i s
def qi(v:CV)(f:H->M CV):M CV:=λs=>aS (hK v) λx=>f x s
def s1(f:H->M CV):D CV->M CV:=a1 λv=>qi v f
def s2(f:H->H->M CV):D CV->M CV:=a2 λv w=>qi v λx=>qi w λy=>f x y
def i2(f:V->V->M CV):D CV->M CV:=a2 λv w=>jJ v λx=>jJ w λy=>f x y
def ny(v:CV):M CV:=λs=>aS (sg s v) λn=>if n<2^63 then .ok (.int n) s else .C
def vq(T:Tab)(v c:CV):M CV:=λs=>aS (yq T s v c) λb=>.ok (.bool b) s
def rV(x:H)(v:CV):M CV:=λs=>if(jG v).isSome=B then .C else aS ((c4 s v).bind kj) λa=>if(a.map (·.length)).sum+a.length*x.length<=16000000 then .ok (.str<|pM x a) s else .C
def qj(c:CV):Bool:=match(jG c).bind gM with|some p=>(hK p.1).isSome&&(hK p.2).isSome|none=>ag
def Bp(d k:CV):M CV:=λs=>aS (eP s d) λa=>if i9 k=B then aS (bi a k) λr=>.ok (r.getD .none) s else if a.isEmpty&&qj k then .ok .none s else .C
def BO(a:D CV):M CV:=λs=>aS (Bn a) λp=>aS (eP s p.1) λc=>if i9 p.2.1=B/\bj p.2.2=B then aS (bi c p.2.1) λr=>.ok (r.getD p.2.2) s else .C
def BP(v:CV)(f:H->D CV->M CV):M CV:=λs=>aS (GJ v) λx=>aS (qg<|ay s.loc x) λa=>f x a s
def yr(v w:CV):M CV:=BP v λx a s=>if bj w/\a.length<100000 then .ok .none (cq x (.ol<|a++[w]) s)else .C
def yu(v w:CV):M CV:=BP v λx a s=>aS (yl w) λc=>if a.length+c.length<100000 then .ok .none (cq x (.ol<|a++c) s)else .C
def BQ(T:Tab)(v w:CV):M CV:=qi w λY s=>aS (oH v) λk=>aS (gR s.hp[k]?) λp=>if T.exc p.1 then .ok .none s else .C
def BR(a:D CV):M CV:=λs=>(gM a).elim (BO a s) λp=>Bp p.1 p.2 s
def G8(T:Tab):D (aX×(D CV->M CV)):=[("len",a1 ny),
 ("abs",a1 λv=>jJ v λi=>M.pure (.int i.natAbs)),
 ("chr",a1 λv=>jJ v λi s=>if 0<=i/\i<1114112 then .ok (.str ⟨#[i.toNat]⟩) s else .C),
 ("ord",s1 λx s=>aS (qf x.cps.toList) λc=>.ok (.int c) s),
 ("min",i2 λa b=>M.pure (.int (if b<a then b else a))),
 ("max",i2 λa b=>M.pure (.int (if b>a then b else a))),
 ("isinstance",a2<|vq T),
 ("str.lstrip",s2 λx y s=>if x.length<=eJ then .ok (.str (AK x y)) s else .C),
 ("str.strip",s2 λx y s=>if x.length<=eJ then .ok (.str (ro x y)) s else .C),
 ("str.lower",s1 λx=>eg (iK x)),
 ("str.upper",s1 λx=>eg (AL x)),
 ("str.isdigit",s1 λx=>M.pure (.bool (aiH x))),
 ("str.isalnum",s1 λx=>M.pure (.bool (aiI x))),
 ("str.find",s2 λx y=>M.pure (.int (Fe x y))),
 ("str.split",s2 λx y s=>if y.length=1/\x.length<=1000 then .ok (.lst ((rq x y).map .str)) s else .C),
 ("str.join",a2 λv w=>qi v λx=>rV x w),
 ("int.bit_length",a1 λv=>jJ v λi s=>if i.natAbs.log2<100000 then .ok (.int (if i=0 then 0 else i.natAbs.log2+1)) s else .C),
 ("dict.get",BR),
 ("list.append",a2 yr),
 ("list.extend",a2 yu),
 ("ValueError.__init__",a2<|BQ T)]
def G9(T:Tab)(c:aX)(a:D CV):M CV:=λs=>aS ((G8 T).lookup c) λf=>f a s
noncomputable def Bq(a:D (CV×CV)):Bool:=a.all λe=>match e.1 with|.str _=>B|_=>ag
def Ha(v:CV):M CV:=λs=>(yl v).elim (aS (eP s v) λa=>if Bq a&&decide (a.length<=1000)then .ok (.lst<|a.map (·.1)) s else .C) λc=>if c.length<=100000 then .ok (.lst c) s else .C
def Hb:D (aX×(D CV->M CV)):=[("int",s1 λx s=>aS (oJ x) λi=>.ok (.int i) s),
 ("str",a1 λv=>jJ v λi s=>if i.natAbs.log2<1900 then .ok (.str<|toString i) s else .C),
 ("range",a1 λv=>jJ v λn s=>if 0<=n/\n<1000 then .ok (.fS n) s else .C),
 ("list",a1 Ha)]
def Hc(T:Tab)(n:aX)(a:D CV):M CV:=λs=>aS (Hb.lookup n) λf=>f a s
noncomputable abbrev bP:=aX->D CV->D aQ->RH
def ma(d:bP)(q:aX)(a:D CV):M CV:=λs=>
 if a.all bj then match d q a s.hp with
  |.C=>.C
  |.ok v hp=>.ok v {s with hp}
  |.exc e hp=>.exc e {s with hp}
 else .C
noncomputable def si(c:CV):al String:=match c with|.fn q=>I q|_=>W
noncomputable def Hd(c:CV):Bool:=match c with|.none=>B|_=>ag
def yv(k:J)(r:R CV):R CV:=match r with
 |.ok v a=>if Hd v=B then .ok (.cell k) a else .C
 |.C=>.C|.exc e a=>.exc e a
def nz(T:Tab)(d:bP)(c:aX)(a:D CV):M CV:=λs=>if a.length>100 then .C else
 aS ((T.gP c "__init__").bind si) λq=>yv s.hp.length<|ma d q (.cell s.hp.length::a) {s with hp:=s.hp++[.inst c []]}
def yw{x:aX}(h:si c=I x):c=.fn x:=by induction c using CV.casesOn with|fn y=>exact aK h▸rfl|_=>exact aD h
def R9{c:CV}(h:Hd c=B):c=.none:=by induction c using CV.casesOn with|none=>rfl|_=>exact ft h
def cH(T:Tab)(d:bP)(f:CV)(a:D CV):M CV:=match f with|.fn q=>ma d q a|.cls c=>nz T d c a|.blt id=>G9 T id a|.typ n=>Hc T n a|_=>C
noncomputable def yx(x:H)(s:K)(v:SV):R CV:=match v with|.v v=>.ok v s|.un=>.C|_=>.ok (.bY x) s
def nk(c:f9)(x:H):=@List.lookup _ _ (@instBEqOfDecidableEq _ FB) x c.names
def nkE:nk c x=c.names.lookup x:=by unfold nk;rw[<-W.Fast.sDec_eq]
def em(T:Tab)(x:H):M CV:=λs=>@ite _ (x="__debug__"\/x="__classdict__") (@instDecidableOr _ _ (FB x _) (FB x _)) .C<|aS (nk s.sc x) λk=>match k with
 |.globalImplicit=>aS (T.glob x) λv=>.ok v s|.globalExplicit=>.C|_=>aS (ay s.loc x)<|yx x s
def fU(x:H)(v:SV):M Unit:=λs=>if(ay s.loc x).isSome=B then(match nk s.sc x with
 |some .local|some .cell=>.ok ()<|cq x v s
 |_=>.C)else .C
def yy:AI->M CV
 |.none=>M.pure .none|.bool b=>M.pure<|.bool b
 |.int i=>M.pure<|.int i
 |.str s=>eg s|_=>C
def bx(v:CV):M Bool:=λs=>qd (oG s v) s
def fy(whole:M CV):M CV:=λs=>match whole s with
 |.ok (.bY y) s'=>(match ay s'.loc y with
  |some (.ol xs)=>.ok (.lst xs)<|cq y (.v (.lst xs)) s'
  |_=>.C)
 |.ok v s'=>if bj v then .ok v s' else .C
 |r=>r
def gk(e:ai):Bool:=match e with|.Call f as ks _=>!((gO f).isSome&&as.isEmpty&&ks.isEmpty)|_=>B
noncomputable def Sa(e:ai):Bool:=e.ctorIdx==22
noncomputable def yA(e:ai):al {x:al ai×al ai×al ai//∃p,e=.Slice x.1 x.2.1 x.2.2 p}:=match e with|.Slice l a s p=>I ⟨(l,a,s),p,U⟩|_=>W
def lq(e:ai):Bool:=(yA e).isSome
inductive EK where
 |const (c:AI)|name (x:H)|bool (op:mW) (vs:D ai)|bin (l:ai) (op:mV) (r:ai)|un (op:UnaryOp) (x:ai)|iff (t b o:ai)
 |tup (es:D ai)|lst (es:D ai) (p:cJ)|dict (ks:D (al ai)) (vs:D ai)|cmp (l:ai) (ops:D ie) (cs:D ai)
 |nA (o:ai) (m:H) (ap:cJ) (args:D ai) (p:cJ)|call (f:H) (args:D ai)|qk (vs:D ai)|attr (o:ai) (a:H)
 |slice (v:ai) (l u:al ai)|rev (v:ai)|sub (v i:ai)|comp (e t it:ai) (ifs:D ai) (sc:f9)|bad
def BS(f:ai)(a:D ai)(p:cJ):EK:=match ve f with
 |some x=>.nA x.1 x.2.1 x.2.2 a p
 |none=>(match gO f with
  |some f=>.call f a|none=>.bad)
noncomputable def Sb(i:V):Bool:=match i with|.ofNat n=>n==1|.negSucc _=>ag
def yB(e:ai):Bool:=match yj e with|some i=>Sb i|none=>ag
noncomputable def He(e:ai):al {x:ai//∃p,e=.UnaryOp .USub x p}:=match e with
 |.UnaryOp a x p=>(match a with
  |.USub=>I ⟨x,p,U⟩|_=>W)
 |_=>W
def BU(v e:ai):EK:=match He e with
 |some x=>(match yB x.1 with
  |true=>.rev v|false=>.bad)
 |none=>.bad
def Hf(v:ai)(l a c:al ai):EK:=match c with
 |none=>.slice v l a
 |some e=>(match l with|none=>(match a with|none=>BU v e|some _=>.bad)|some _=>.bad)
def sj(v a:ai):EK:=match yA a with|some x=>Hf v x.1.1 x.1.2.1 x.1.2.2|none=>.sub v a
noncomputable def Sc(e:ai)(d:f9)(t f:ai)(c:D ai)(a:V):EK:=match a with|.ofNat n=>(match n with|0=>.comp e t f c d|_+1=>.bad)|.negSucc _=>.bad
def yC(e:ai)(c:D Comprehension)(d:f9):EK:=match c with
 |[]=>.bad
 |a::f=>(match f with|[]=>Sc e d a.target a.iter a.ifs a.is_async|_::_=>.bad)
def oK(k:EK)(e:ai):Prop:=match k with|.const c=>∃a b,e=.Constant c a b|.name x=>∃p,e=.Name x p|.bool h j=>∃p,e=.BoolOp h j p|.bin l h r=>∃p,e=.BinOp l h r p|.un h x=>∃p,e=.UnaryOp h x p|.iff t b o=>∃p,e=.IfExp t b o p|.tup n=>∃k p,e=.Tuple n k p|.lst n p=>e=.List n p|.dict y j=>∃p,e=.Dict y j p|.cmp l s z=>∃p,e=.Compare l s z p|.nA o m A args p=>e=.Call (.Attribute o m A) args [] p|.call f args=>∃q p,e=.Call (.Name f q) args [] p|.qk j=>∃p,e=.JoinedStr j p|.attr o a=>∃p,e=.Attribute o a p|.slice v l d=>∃q p,e=.Subscript v (.Slice l d W q) p|.rev v=>∃a b c q p,e=.Subscript v (.Slice W W (I<|.UnaryOp .USub (.Constant (.int 1) a b) c) q) p|.sub v i=>∃p,e=.Subscript v i p/\lq i=ag|.comp E t F w G=>∃p,e=.ListComp E [⟨t,F,w,0⟩] G p|.bad=>fD
def Sd{x:ai}(h:yB x=B):∃a b,x=.Constant (.int 1) a b:=by
 unfold yB at h;generalize e:yj x=d;induction d using bL with
 |none=>rw[e]at h;exact ft h|some i=>rw[e]at h;refine eO (GI e) λa b c=>?_;subst c;induction i using NZ with|ofNat n=>exact⟨a,b,by exact Z (eq_of_beq<|show(n==1)=B from h) U⟩|negSucc _=>exact ft h
def Se:oK (BU v e) (.Subscript v (.Slice W W (I e) q) p):=by
 unfold BU;cases He e with
 |none=>trivial|some x=>obtain⟨x,c,rfl⟩:=x;dsimp only;generalize h:yB x=f;induction f using dN with|true=>refine eO (Sd h) λa b d=>?_;subst d;exact⟨a,b,c,q,p,U⟩|false=>trivial
def Sf:oK (Hf v l a c) (.Subscript v (.Slice l a c q) p):=by
 induction c using bL with
 |none=>exact⟨q,p,U⟩
 |some e=>induction l using bL with
  |none=>induction a using bL with
   |none=>exact Se|some _=>trivial
  |some _=>trivial
def Sg:oK (sj v sl) (.Subscript v sl p):=by
 unfold sj;generalize h:yA sl=a;induction a using bL with
 |some x=>obtain⟨x,q,rfl⟩:=x;exact Sf
 |none=>exact⟨p,U,by unfold lq;exact Z h U⟩
def Sh:oK (yC e d f) (.ListComp e d f p):=by
 induction d using bk with
 |nil=>trivial
 |cons c h=>induction h using bk with
  |nil=>
   obtain⟨t,j,i,a⟩:=c;induction a using NZ with
   |ofNat n=>induction n using AM with
    |zero=>exact⟨p,U⟩|succ _=>trivial
   |negSucc _=>trivial
  |cons _ _=>trivial
def Si:oK (BS f args p) (.Call f args [] p):=by
 unfold BS;generalize h:ve f=d;induction d using bL with
 |some x=>exact Z (lj (BC _) h) U
 |none=>generalize e:gO f=a;induction a using bL with
  |some x=>refine aJ (qe e) λq c=>?_;subst c;exact⟨q,p,U⟩|none=>trivial
def Hg(e:ai):{k:EK//oK k e}:=match e with
 |.Constant c a b=>⟨.const c,a,b,U⟩|.Name x p=>⟨.name x,p,U⟩|.BoolOp d h p=>⟨.bool d h,p,U⟩|.BinOp l d r p=>⟨.bin l d r,p,U⟩|.UnaryOp d x p=>⟨.un d x,p,U⟩|.IfExp t b o p=>⟨.iff t b o,p,U⟩|.Tuple j k p=>⟨.tup j,k,p,U⟩|.List j p=>⟨.lst j p,U⟩|.Dict m h p=>⟨.dict m h,p,U⟩|.Compare l n q p=>⟨.cmp l n q,p,U⟩
 |.Call f args m p=>(match m with|[]=>⟨BS f args p,Si⟩|_::_=>⟨.bad,trivial⟩)|.JoinedStr h p=>⟨.qk h,p,U⟩|.Attribute o a p=>⟨.attr o a,p,U⟩|.Subscript v sl p=>⟨sj v sl,Sg⟩|.ListComp e i s p=>⟨yC e i s,Sh⟩|_=>⟨.bad,trivial⟩
def jK(e:ai):EK:=(Hg e).1
def BV(e:ai):oK (jK e) e:=(Hg e).2
noncomputable def Hh(k:EK):al {x:D ai×cJ//k=.lst x.1 x.2}:=match k with|.lst x p=>I ⟨(x,p),U⟩|_=>W
noncomputable def yD(e:ai):al {x:D ai//∃a b,e=.Tuple x a b}:=match e with|.Tuple c a b=>I ⟨c,a,b,U⟩|_=>W
def mf(e:ai):al (D ai):=vw<|yD e
def Hi(e:ai):al (D ai×cJ):=vw<|Hh (jK e)
def Sj{x:D ai×cJ}(h:Hi e=I x):e=.List x.1 x.2:=by have:=BV e;rw[lj (Hh<|jK e) h]at this;exact this
def jg(e:ai):Bool:=(mf e).isSome
def Hj(h:mf e=W):jg e=false:=by unfold jg;exact Z h U
noncomputable def bV:D ai->bf
 |[]=>B|e::r=>!Sa e&&bV r
noncomputable def sk:D CV->al H
 |[]=>I ⟨#[]⟩|.str x::r=>(sk r).map (x++·)|_::_=>W
noncomputable def fG:SV->bf
 |.v _=>B|_=>ag
def vt(o:al SV)(v:SV):Bool:=match o with
 |none=>B
 |some w=>fG v&&(match w with
  |.v _=>B|.ol a=>a.isEmpty|_=>ag)
def kr(T:Tab)(a:CV)(x:H)(v:SV):M Unit:=λs=>aS (oH a) λk=>aS (gR s.hp[k]?) λp=>if T.attr p.1 x=B/\p.2.length<=50/\(T.exc p.1=B->fG v=B)/\vt (ay p.2 x) v=B then .ok () {s with hp:=s.hp.set k<|.inst p.1 (bN p.2 x v)} else .C
noncomputable def kl(a:D CV)(i:V)(v:CV):al (D CV):=if 0<=i/\i.toNat<a.length/\a.length<=100000 then I (a.set i.toNat v)else W
def ff(a:D CV)(i v:CV)(f:D CV->R c9):R Unit:=aS ((BD i).bind λi=>kl a i v) f
def yE(es:D (CV×CV))(i v:CV)(f:D (CV×CV)->R c9):R Unit:=if i9 i=B/\es.length<=100000 then aS (bi es i) λY=>f (gN es i v)else .C
def gS(i w:CV)(f:SV->R c9)(o:SV):R Unit:=match o with
 |.ol c=>ff c i w λd=>f<|.ol d
 |.od a=>yE a i w λa=>f<|.od a
 |_=>.C
def jL(a i v:CV):M Unit:=λs=>if bj v=B/\bj i=B then(match a with
 |.cell k=>aS (se s.hp[k]?) λd=>ff d i v λe=>.ok () {s with hp:=s.hp.set k<|.e9 e}|.bY x=>aS (ay s.loc x)<|gS i v λw=>.ok () (cq x w s)
 |.c6 k x=>aS (gR s.hp[k]?) λp=>aS (l8<|ay p.2 x) λc=>(if c.isEmpty&&qj i then .ok () {s with hp:=s.hp.set k<|.inst p.1 (bN p.2 x (.od [(i,v)]))}
  else yE c i v λc=>.ok () {s with hp:=s.hp.set k<|.inst p.1 (bN p.2 x (.od c))})
 |_=>.C)else .C
noncomputable def jh(c:M bf)(d:M bD):J->M bD
 |0=>C
 |n+1=>λs=>match c s with
  |.C=>.C|.exc e f=>.exc e f|.ok ag f=>.ok .aO f
  |.ok B f=>match d f with
   |.C=>.C|.exc e a=>.exc e a|.ok .brk a=>.ok .aO a|.ok (.ret v) a=>.ok (.ret v) a|.ok _ a=>jh c d n a
noncomputable def dD(a:CV->M bD):D CV->M bD
 |[]=>M.pure .aO
 |x::r=>λs=>match a x s with
  |.C=>.C|.exc _ _=>.C|.ok .brk c=>.ok .aO c|.ok (.ret v) c=>.ok (.ret v) c|.ok _ c=>dD a r c
noncomputable def cW(turn:CV->M (al CV)):D CV->M (D CV)
 |[]=>M.pure []
 |x::r=>λs=>match turn x s with
  |.C=>.C|.exc _ _=>.C
  |.ok o s'=>match cW turn r s' with
   |.ok l Sk=>.ok (match o with|some v=>v::l|none=>l) Sk|q=>q
def yF:cW a (x::r) s=match a x s with
 |.C=>.C|.exc _ _=>.C
 |.ok o d=>match cW a r d with
  |.ok l c=>.ok (match o with|some v=>v::l|none=>l) c|q=>q:=U
noncomputable def WF:Nat:=1000
noncomputable def AF:Nat:=100
noncomputable def yG(l:D (H×SV)):D (H×SV):=l.map λp=>(p.1,match p.2 with
 |.v c=>.v c|_=>.un)
def jM(t:ai)(v:CV)(l:D (H×SV)):al (D<|H×SV):=match gO t with
 |some x=>if bj v=B then I ((x,.v v)::yG l)else W
 |none=>((mf t).bind gM).bind λp=>(gO p.1).bind λx=>(gO p.2).bind λy=>((jG v).bind gM).bind λq=>if x≠y/\bj q.1=B/\bj q.2=B then I ((y,.v q.2)::(x,.v q.1)::yG l)else W
inductive BW(t:ai)(v:CV)(l r:D (H×SV)):Prop
 |n (x:H) (p:cJ):t=.Name x p->bj v=B->r=(x,.v v)::yG l->BW t v l r|t (x y:H) (p q:cJ) (k:J) (c:cJ) (a b:CV):t=.Tuple [.Name x p,.Name y q] k c->v=.tup [a,b]->x≠y->bj a=B->bj b=B->r=(y,.v b)::(x,.v a)::yG l->BW t v l r
def Sl(h:jM t v l=I r):BW t v l r:=by
 unfold jM at h;generalize e:gO t=w;induction w using bL with
 |some x=>rw[e]at h;exact aJ (qe e) λp f=>aI (oB h) λi j=>.n x p f i j.symm
 |none=>rw[e]at h;refine av (dE h) λd i h=>?_;obtain⟨o,s⟩:=d;refine av (dE h) λx z h=>av (dE h) λy A h=>av (dE h) λd j h=>?_;obtain⟨a,b⟩:=d;refine av (dE i) λY E F=>av (dE j) λS G P=>eO (lj (yD _) E) λk c Q=>aJ (qe z) λp f=>?_;exact aJ (qe A) λq T=>aI (oB h) λm X=>.t x y p q k c a b (by refine Z Q<|Z (oD F) ?_;show Expr.Tuple [o,s] k c=_;exact Z (show o=_ from f)<|Z (show s=_ from T) U) (Z (vf G)<|Z (oD P) U) m.1 m.2.1 m.2.2 X.symm
def m9(e:ai):D Str:=match gO e with|some x=>[x]|none=>(((mf e).bind gM).bind λp=>(gO p.1).bind λx=>(gO p.2).map λy=>[y,x]).getD []
def ew(scope:f9)(t:ai)(s:K):Bool:=decide (scope.kind=.function)&&(m9 t).all (λx=>decide (scope.names.lookup x=I .local))&&scope.names.all λp=>
 p.2 !=.cell&&(p.2 !=.local||(decide (scope.names.lookup p.1=I .local)&&((m9 t).contains p.1||(ay s.loc p.1).isNone)))&&
 (p.2 !=.free||(decide (s.sc.names.lookup p.1=I .cell)||decide (s.sc.names.lookup p.1=I .free)))
noncomputable def ql(e:ai):Bool:=e.ctorIdx==7
def mh(T:Tab)(n:J):ai->M CV:=n.rec (λY=>C) λY r e=>match ve e with
 |some p=>if gk p.1=B then(r p.1).bind λv=>iu T v p.2.1 else C
 |none=>(match gO e with
  |some x=>em T x|none=>C)
def Hk(T:Tab):ai->M CV:=mh T 8
noncomputable def nB(T:Tab):D ai->M (D CV)
 |[]=>M.pure []|e::a=>(Hk T e).bind λv=>(nB T a).bind λc=>if bj v then M.pure (v::c)else C
noncomputable def iw:D SV->bf
 |[]=>B|x::r=>if fG x then iw r else r.all fG
def sp(c a:D ai):Bool:=bV c&&bV a&&decide (a.length<=1000)&&(!a.all (constantsAlone 8)||a.all (foldedForSure 8))
noncomputable def BX(a:D CV):M CV:=λs=>.ok (.cell s.hp.length) {s with hp:=s.hp++[.e9 a]}
def mi(m:H)(args:D ai):al (H×H):=(gM args).bind λp=>(r8 p.1).bind λy=>(r8 p.2).bind λz=>if m="replace" then I (y,z)else W
def Sn(h:mi m args=I r):∃a c d e,args=[.Constant (.str r.1) a c,.Constant (.str r.2) d e]/\m="replace":=by refine av (dE h) λf n h=>?_;obtain⟨j,k⟩:=f;refine av (dE h) λy o h=>av (dE h) λz p h=>eO (yk o) λa c q=>eO (yk p) λd e s=>?_;refine aI (oB h) λt i=>?_;subst i;exact⟨a,c,d,e,by refine Z (oD n) ?_;show[j,k]=_;exact Z (show j=_ from q)<|Z (show k=_ from s) U,t⟩
def sq(r:CV)(y z:H):M CV:=λs=>aS (hK r) λx=>if y.length=1/\z.length=2/\x.length<=1000 then .ok (.str<|N0 x y z) s else .C
noncomputable def BY(c:CV):al String:=match c with|.cls q=>I q|_=>W
noncomputable def vu{α β:Type}(r:R α)(k:α->K->R β):R β:=match r with|.ok a s=>k a s|_=>.C
def oM(T:Tab)(c x:H)(a:D ai)(d:cJ)(v:CV)(s:K):R bD:=vu (em T c s) λw Y=>aS (BY w) λq=>aS (oH v) λk=>if s.sc.names.lookup x=I .local then
 aS (gR s.hp[k]?) λp=>if T.exc p.1&&T.sub p.1 (.cls q)&&!T.gQ d&&bV a&&decide (a.length<=1000)then vu (fU x (.v v) s) λY e=>vu (nB T a e) λf h=>.ok (.ret<|.lst f) (cq x .un h)else .C
 else .C
def BZ{P:R β->Prop}(d:¬P .C)(h:P (vu r k)):∃a s,r=.ok a s/\P (k a s):=by induction r using Internal.R.casesOn with|ok a s=>exact⟨a,s,U,h⟩|_=>exact aF h d
noncomputable def qm:D (al ai)->D ai->al (D<|CV×CV)
 |[],vs=>(match vs with
  |[]=>I []|_::_=>W)
 |k::ks,vs=>(match vs with
  |[]=>W|v::vs=>(k.bind r8).bind λx=>(yj v).bind λi=>(qm ks vs).bind λes=>(bi es<|.str x).bind λr=>if r.isNone=B then I ((.str x,.int i)::es)else W)
noncomputable def Hl(e:ai):al {x:ai×V//∃p,e=.FormattedValue x.1 x.2 W p}:=match e with
 |.FormattedValue v c f p=>(match f with
  |none=>I ⟨(v,c),p,U⟩|some _=>W)
 |_=>W
def Hm(e:ai):al (ai×V):=vw<|Hl e
def sr(x:H):M Str:=if x.length<=1000000 then M.pure x else C
def vx(c:CV):M Str:=match hK c with|some x=>sr x|none=>C
def jP(a:ai->M CV)(e:ai):M Str:=match r8 e with
 |some x=>sr x
 |none=>(match Hm e with
  |some p=>if p.2=-1 then(a p.1).bind vx else C
  |none=>C)
noncomputable def jC(a:ai->M CV):D ai->M H
 |[]=>M.pure ⟨#[]⟩|e::c=>(jP a e).bind λx=>(jC a c).bind λy=>M.pure<|x++y
noncomputable def oN(e:ai):Bool:=e.ctorIdx==8
noncomputable def qo(e:ai):Bool:=e.ctorIdx==23||e.ctorIdx==20||e.ctorIdx==21
def So{v:ai}(h:oN v=B):∃e a d p,v=.ListComp e a d p:=by induction v using gL with|ListComp e a d p=>exact⟨e,a,d,p,U⟩|_=>exact ft h
inductive yH(t:ai):Prop
 |n (x:H) (q:cJ):t=.Name x q->yH t|a (o:ai) (x:H) (q:cJ):t=.Attribute o x q->yH t|s (o i:ai) (q:cJ):t=.Subscript o i q->yH t
def Sp{t:ai}(h:qo t=B):yH t:=by induction t using gL with|Name x q=>exact .n x q U|Attribute o x q=>exact .a o x q U|Subscript o i q=>exact .s o i q U|_=>exact ft h
inductive SK where
 |expr (e:ai)|pass|brk|cnt|qp|ret (e:ai)|qq (ts vs:D ai)|oO (ts:D ai) (v:ai)|oP (t v:ai) (p:cJ)
 |qr (x:H) (op:mV) (v:ai)|qt (o:ai) (a:H) (op:mV) (v:ai)|nC (o i:ai) (op:mV) (v:ai)
 |iff (t:ai) (b o:D cf)|hM (t:ai) (b:D cf)|qu (t it:ai) (b:D cf)|raise (e:ai)|qw (b:D cf) (c x:H) (hs:D ai) (hp:cJ)|bad
def su(a:D ai)(v:ai):SK:=match mf v with|some c=>.qq a c|none=>.oO a v
def sx(t v:ai)(p:cJ):SK:=match mf t with|some a=>su a v|none=>.oP t v p
def B0(e:al ai):al Str:=e.bind gO
noncomputable def Hn(s:cf):al {x:ai//∃p,s=.Return (I x) p}:=match s with
 |.Return e p=>(match e with
  |none=>W|some e=>I ⟨e,p,U⟩)
 |_=>W
def Sq(s:cf):al Expr:=vw<|Hn s
def B5(l:D cf):al (D ai×cJ):=match l with
 |[]=>W
 |s::r=>(match r with|[]=>(Sq s).bind Hi|_::_=>W)
def B6(b:D cf)(d:al ai)(e:al H)(a:D cf):SK:=match B0 d with
 |none=>.bad
 |some c=>(match e with|none=>.bad|some x=>(match B5 a with|none=>.bad|some r=>.qw b c x r.1 r.2))
def Ho(b:D cf)(c:D ExceptHandler)(o f:D cf):SK:=match o with
 |_::_=>.bad
 |[]=>(match f with|_::_=>.bad|[]=>(match c with|[]=>.bad|h::r=>(match r with|_::_=>.bad|[]=>(match h with|.ExceptHandler d e a _=>B6 b d e a))))
def oQ(k:SK)(s:cf):Prop:=match k with|.expr e=>∃p,s=.Expr e p|.pass=>∃p,s=.Pass p|.brk=>∃p,s=.Break p|.cnt=>∃p,s=.Continue p|.qp=>∃p,s=.Return W p|.ret e=>∃p,s=.Return (I e) p|.qq h j=>∃a b c d p,s=.Assign [.Tuple h a b] (.Tuple j c d) p|.oO h v=>∃a b p,s=.Assign [.Tuple h a b] v p/\jg v=ag|.oP t v p=>s=.Assign [t] v p/\jg t=ag|.qr x f v=>∃a p,s=.AugAssign (.Name x a) f v p|.qt o x f v=>∃a p,s=.AugAssign (.Attribute o x a) f v p|.nC o i f v=>∃a p,s=.AugAssign (.Subscript o i a) f v p|.iff t b o=>∃p,s=.If t b o p|.hM t b=>∃p,s=.While t b [] p|.qu t m b=>∃p,s=.For t m b [] p|.raise e=>∃p,s=.Raise (I e) W p|.qw b c x n r=>∃w y q p,s=.Try b [.ExceptHandler (I<|.Name c w) (I x) [.Return (I<|.List n r) y] q] [] [] p|.bad=>fD
def Sr(h:B0 e=I c):∃p,e=I (.Name c p):=by refine av (dE h) λe a h=>?_;subst a;refine aJ (qe h) λp a=>?_;subst a;exact⟨p,U⟩
def Ss{r:D ai×cJ}(h:B5 l=I r):∃p,l=[.Return (I<|.List r.1 r.2) p]:=by
 induction l using bk with
 |nil=>exact aD h
 |cons s l=>induction l using bk with
  |cons _ _=>exact aD h|nil=>refine av (dE h) λe f i=>aJ (lj (Hn _) f) λp d=>?_;subst d;exact⟨p,by exact Z (Sj i) U⟩
def Su:oQ (B6 b h i a) (.Try b [.ExceptHandler h i a q] [] [] p):=by
 unfold B6;generalize j:B0 h=e;induction e using bL with
 |none=>trivial
 |some c=>induction i using bL with
  |none=>trivial|some x=>
   generalize k:B5 a=f;induction f using bL with
   |none=>trivial|some r=>refine aJ (Sr j) λm d=>?_;subst d;refine aJ (Ss k) λn d=>?_;subst d;exact⟨m,n,q,p,U⟩
def Sv:oQ (Ho b a o f) (.Try b a o f p):=by
 induction o using bk with
 |cons _ _=>trivial
 |nil=>induction f using bk with
  |cons _ _=>trivial
  |nil=>induction a using bk with
   |nil=>trivial
   |cons h r=>induction r using bk with
    |cons _ _=>trivial|nil=>obtain⟨d,e,c,q⟩:=h;exact Su
def Sw:oQ (su h v) (.Assign [.Tuple h a b] v p):=by
 unfold su;generalize e:mf v=i;induction i using bL with
 |none=>exact⟨a,b,p,U,Hj e⟩|some j=>refine eO (lj (yD _) e) λc d f=>?_;subst f;exact⟨a,b,c,d,p,U⟩
def Sx:oQ (sx t v p) (.Assign [t] v p):=by
 unfold sx;generalize e:mf t=d;induction d using bL with
 |none=>exact⟨U,Hj e⟩|some f=>refine eO (lj (yD _) e) λa b c=>?_;subst c;exact Sw
noncomputable def Sy(t:ai)(c:mV)(v:ai)(p:cJ):{k:SK//oQ k (.AugAssign t c v p)}:=match t with|.Name x q=>⟨.qr x c v,q,p,U⟩|.Attribute o a q=>⟨.qt o a c v,q,p,U⟩|.Subscript o i q=>⟨.nC o i c v,q,p,U⟩|_=>⟨.bad,trivial⟩
def Hp(s:cf):{k:SK//oQ k s}:=match s with
 |.Expr e p=>⟨.expr e,p,U⟩|.Pass p=>⟨.pass,p,U⟩|.Break p=>⟨.brk,p,U⟩|.Continue p=>⟨.cnt,p,U⟩
 |.Return e p=>(match e with|none=>⟨.qp,p,U⟩|some e=>⟨.ret e,p,U⟩)
 |.Assign a v p=>(match a with|[]=>⟨.bad,trivial⟩|t::r=>(match r with|[]=>⟨sx t v p,Sx⟩|_::_=>⟨.bad,trivial⟩))|.AugAssign t d v p=>Sy t d v p|.If t b o p=>⟨.iff t b o,p,U⟩
 |.While t b o p=>(match o with|[]=>⟨.hM t b,p,U⟩|_::_=>⟨.bad,trivial⟩)
 |.For t h b o p=>(match o with|[]=>⟨.qu t h b,p,U⟩|_::_=>⟨.bad,trivial⟩)
 |.Raise e c p=>(match e with|none=>⟨.bad,trivial⟩|some e=>(match c with|none=>⟨.raise e,p,U⟩|some _=>⟨.bad,trivial⟩))|.Try b i o f _=>⟨Ho b i o f,Sv⟩|_=>⟨.bad,trivial⟩
def oR(s:cf):SK:=(Hp s).1
def Sz(s:cf):oQ (oR s) s:=(Hp s).2
inductive DK where
 |lst (es:D ai) (p:cJ)|dA|eQ
def Hq(k:DK)(e:ai):Prop:=match k with|.lst a p=>e=.List a p|.dA=>∃p,e=.Dict [] [] p|.eQ=>fD
noncomputable def Hr(e:ai):{k:DK//Hq k e}:=match e with
 |.List a p=>⟨.lst a p,U⟩
 |.Dict c d p=>(match c with
  |[]=>(match d with
   |[]=>⟨.dA,p,U⟩|_::_=>⟨.eQ,trivial⟩)
  |_::_=>⟨.eQ,trivial⟩)
 |_=>⟨.eQ,trivial⟩
def qx(e:ai):DK:=(Hr e).1
def SA(e:ai):Hq (qx e) e:=(Hr e).2
def ku(a:D CV):Bool:=a.all bj&&decide (a.length<=1000)
def sy(T:Tab)(v:CV):M bD:=λs=>aS (oH v) λk=>aS (gR s.hp[k]?) λp=>aS (T.up p.1) λa=>.exc v {s with hp:=s.hp.set k<|.inst a p.2}
def ji(b:bf){α:Type}(m:M α):M α:=if b=B then m else C
structure Ev where
 e:ai->M CV
 es:D ai->M (D CV)
 o:al ai->M CV
 b:mW->D ai->M CV
 c:CV->D ie->D ai->M CV
 sv:ai->M SV
 dG:D ai->M (D SV)
 a:ai->SV->M c9
 as:D ai->D SV->M c9
 s:cf->M bD
 ss:D cf->M bD
def mj(m:M CV):M SV:=m.bind λv=>if bj v then M.pure (.v v)else C
def B7(r:Ev)(e t:ai)(d:D ai)(a:f9)(x:CV):M (al CV):=λs=>match jM t x s.loc with
 |none=>.C
 |some l=>match((match d with
  |[]=>M.pure B
  |c::_=>(r.e c).bind bx:M bf).bind λq=>if q=B then(r.e e).bind λv=>if bj v then M.pure (I v)else C else M.pure W) {s with loc:=l,sc:=a} with
  |.ok v f=>.ok v {f with loc:=s.loc,sc:=s.sc}|_=>.C
def B8(r:Ev)(e t:ai)(d:D ai)(a:f9)(h:CV):M CV:=λs=>match gG s h with
 |none=>.C
 |some c=>if ew a t s then(match cW (B7 r e t d a) c s with
  |.ok l f=>if l.length<=1000 then .ok (.lst l) f else .C
  |.exc x f=>.exc x f|.C=>.C)else .C
def oS(T:Tab)(F:bP)(n:J)(r:Ev)(k:EK):M CV:=match k with
 |.const c=>yy c|.name x=>em T x|.bool w h=>r.b w h|.bin x w y=>(r.e x).bind λa=>(r.e y).bind λb=>ej w a b|.un w x=>(r.e x).bind λa=>nu w a|.iff t b o=>((r.e t).bind bx).bind λq=>if q=B then fy (r.e b)else fy (r.e o)
 |.tup z=>ji (bV z)<|(r.es z).bind λh=>ji (ku h) (M.pure (.tup h))
 |.lst z p=>ji (bV z)<|(r.es z).bind λh=>ji (ku h) (if T.gQ p=B then BX h else M.pure (.lst h))
 |.dict G h=>if decide (G.length>15)then C else qd ((qm G h).map .dA)
 |.cmp x E Y=>(r.e x).bind λa=>r.c a E Y
 |.nA o m S args p=>if !gk o||!bV args||decide (args.length>20)||S.endLine !=p.line then C else match mi m args with
  |some P=>(r.e o).bind λx=>sq x P.1 P.2|none=>(r.e o).bind λx=>(oI T x m).bind λQ=>(r.es args).bind λh=>cH T F Q.1<|Q.2++h
 |.call f args=>if !bV args||decide (args.length>20)then C else(em T f).bind λL=>(r.es args).bind λh=>cH T F L h
 |.qk h=>if decide (h.length<2)||decide (h.length>10)then C else(jC r.e h).bind λx=>eg x
 |.attr o a=>if gk o then(r.e o).bind λx=>iu T x a else C
 |.slice v l d=>(r.e v).bind λx=>(r.o l).bind λa=>(r.o d).bind λb=>ir x a b|.rev v=>(r.e v).bind λx=>nv x|.sub v i=>(r.e v).bind λx=>(r.e i).bind λk=>fT x k|.comp e t X A j=>if decide (n<4)||decide (A.length>1)||ql X then C elseλs=>if !ew j t s then .C else((r.e X).bind<|B8 r e t A j) s
 |.bad=>C
def SD(r:Ev)(c:mW)(a:D ai):M CV:=match a with
 |[]=>C
 |e::l=>(match l with
  |[]=>r.e e|f::a=>(r.e e).bind λv=>(bx v).bind λq=>if(c==.And)=q then r.b c (f::a)else M.pure v)
def SE(r:Ev)(a:CV)(f:ie)(e:ai)(d:D ie)(h:D ai):M CV:=match d with
 |[]=>(match h with
  |[]=>if nZ f e then C else(r.e e).bind λb=>iR f a b
  |_::_=>C)
 |i::d=>(match h with
  |[]=>C|j::h=>if nZ f e then C else(r.e e).bind λb=>(iR f a b).bind λc=>(bx c).bind λq=>if q=B then r.c b (i::d) (j::h)else M.pure c)
def SH(r:Ev)(a:CV)(c:D ie)(d:D ai):M CV:=match c with
 |[]=>C
 |f::c=>(match d with
  |[]=>C|e::d=>SE r a f e c d)
def B9(T:Tab)(r:Ev)(e:ai)(k:DK):M SV:=match k with
 |.lst es p=>if T.gQ p=B then mj (r.e e)else ji (bV es) ((r.es es).bind λvs=>ji (ku vs)<|M.pure (.ol vs))
 |.dA=>M.pure<|.od []
 |.eQ=>mj<|r.e e
def Hs(r k:CV)(v:SV):M Unit:=match v with
 |.v w=>jL r k w|.ol a=>jL r k<|.lst a
 |_=>C
def x6(r:Ev)(a:D ai)(v:SV):M Unit:=match v with
 |.v w=>λs=>if bV a=B then(match c4 s w with
  |some c=>if c.length=a.length then r.as a (c.map .v) s else .C
  |none=>.C)else .C
 |_=>C
def Ht(T:Tab)(r:Ev)(t:ai)(v:SV):M Unit:=match t with|.Name x _=>fU x v|.Attribute o a _=>(r.e o).bind λx=>kr T x a v|.Subscript o i _=>(r.e o).bind λx=>(r.e i).bind λk=>Hs x k v|.Tuple c _ _=>x6 r c v|_=>C
def SI(r:Ev)(c:D ai)(a:D SV):M Unit:=match c with
 |[]=>(match a with
  |[]=>M.pure ()|_::_=>C)
 |t::c=>(match a with
  |[]=>C|v::a=>(r.a t v).bind λY=>r.as c a)
def vy(T:Tab)(r:Ev)(k:SK):M bD:=match k with
 |.expr e=>if oN e then C else(r.e e).bind λY=>M.pure .aO
 |.pass=>M.pure .aO|.brk=>M.pure .brk|.cnt=>M.pure .cnt|.qp=>M.pure<|.ret .none
 |.ret e=>(fy<|r.e e).bind λv=>M.pure<|.ret v
 |.qq f m=>if !sp f m then C else(r.dG m).bind λl=>if l.length=f.length/\iw l=B then(r.as f l).bind λY=>M.pure .aO else C
 |.oO f v=>if !bV f then C else(r.e v).bind λw=>λs=>match c4 s w with
  |some n=>if n.length=f.length then((r.as f<|n.map .v).bind λY=>M.pure .aO) s else .C
  |none=>.C
 |.oP t v _=>if !qo t then C else(r.sv v).bind λw=>(r.a t w).bind λY=>M.pure .aO
 |.qr x j v=>(em T x).bind λd=>(r.e v).bind λb=>(iQ j d b).bind λw=>(fU x<|.v w).bind λY=>M.pure .aO|.qt o a j v=>(r.e o).bind λx=>(iu T x a).bind λd=>(r.e v).bind λb=>(iQ j d b).bind λw=>(kr T x a<|.v w).bind λY=>M.pure .aO|.nC o i j v=>if lq i then C else(r.e o).bind λx=>(r.e i).bind λk=>(fT x k).bind λd=>(r.e v).bind λb=>(iQ j d b).bind λw=>(jL x k w).bind λY=>M.pure .aO
 |.iff t b o=>((r.e t).bind bx).bind λq=>if q=B then r.ss b else r.ss o
 |.hM t b=>jh ((r.e t).bind bx) (r.ss b) WF
 |.qu t p b=>(r.e p).bind λy=>λs=>match gG s y with
  |some h=>dD (λx=>(r.a t<|.v x).bind λY=>r.ss b) h s|none=>.C
 |.raise e=>(r.e e).bind<|sy T
 |.qw b c x z A=>λs=>match r.ss b s with
  |.exc v E=>oM T c x z A v E|r=>r
 |.bad=>C
def Hu(r:Ev)(l:D cf)(f:bD):M bD:=match f with|.aO=>r.ss l|f=>M.pure f
noncomputable def ev(T:Tab)(a:bP):J->Ev
 |0=>⟨λY=>C,λY=>C,λY=>C,λY Y=>C,λY Y Y=>C,λY=>C,λY=>C,λY Y=>C,λY Y=>C,λY=>C,λY=>C⟩|n+1=>⟨λe=>oS T a n (ev T a n)<|jK e,
  λc=>(match c with
   |[]=>M.pure []|e::c=>((ev T a n).e e).bind λv=>((ev T a n).es c).bind λd=>M.pure (v::d)),
  λo=>(match o with
   |none=>M.pure .none|some e=>(ev T a n).e e),
  SD<|ev T a n,SH<|ev T a n,λe=>B9 T (ev T a n) e<|qx e,
  λc=>(match c with
   |[]=>M.pure []|e::c=>((ev T a n).sv e).bind λv=>((ev T a n).dG c).bind λd=>M.pure (v::d)),
  Ht T<|ev T a n,SI<|ev T a n,λs=>vy T (ev T a n)<|oR s,
  λl=>(match l with
   |[]=>M.pure .aO|f::r=>((ev T a n).s f).bind<|Hu (ev T a n) r)⟩
abbrev aB(T:Tab)(a:bP)(n:J):ai->M CV:=(ev T a n).e
abbrev kv(T:Tab)(a:bP)(n:J):D ai->M (D CV):=(ev T a n).es
abbrev qy(T:Tab)(a:bP)(n:J):al ai->M CV:=(ev T a n).o
abbrev jN(T:Tab)(a:bP)(n:J):mW->D ai->M CV:=(ev T a n).b
abbrev gm(T:Tab)(a:bP)(n:J):CV->D ie->D ai->M CV:=(ev T a n).c
abbrev lr(T:Tab)(a:bP)(n:J):ai->M SV:=(ev T a n).sv
abbrev oU(T:Tab)(a:bP)(n:J):D ai->M (D SV):=(ev T a n).dG
abbrev dm(T:Tab)(c:bP)(n:J):ai->SV->M Unit:=(ev T c n).a
abbrev iS(T:Tab)(a:bP)(n:J):D ai->D SV->M Unit:=(ev T a n).as
abbrev c5(T:Tab)(a:bP)(n:J):cf->M bD:=(ev T a n).s
abbrev cb(T:Tab)(a:bP)(n:J):D cf->M bD:=(ev T a n).ss
noncomputable def mm:D H->D CV->D CV->al (D<|H×SV)
 |[],[],_=>I []|p::c,a::e,d=>(mm c e d).map ((p,.v a)::·)|c,[],d=>if c.length<=d.length then I (c.zip<|(d.drop (d.length -c.length)).map .v)else W
 |[],_::_,_=>W
def lu(h:y=x):bN ((y,c)::r) x b=(y,b)::r:=aa h
def jj(h:¬y=x):bN ((y,c)::r) x b=(y,c)::bN r x b:=u h
def SJ:mm (p::c) (a::e) d=(mm c e d).map ((p,.v a)::·):=U
def SM:mm (p::a) [] d=if(p::a).length<=d.length then I ((p::a).zip<|(d.drop (d.length -(p::a).length)).map .v)else none:=U
def oV(T:Tab)(h:bP)(f:jH)(c:D CV)(d:D aQ):RH:=match f.native with
 |some a=>a c d
 |none=>match mm f.params c f.km with
  |none=>.C
  |some l=>match cb T h AF f.body ⟨l++f.locs.map λx=>(x,.un),d,f.sc⟩ with
   |.ok (.ret v) s=>.ok v s.hp|.ok .aO s=>.ok .none s.hp|.ok _ _=>.C|.exc e s=>.exc e s.hp|.C=>.C
noncomputable def aj(T:Tab):J->bP
 |0=>λY Y Y=>.C
 |d+1=>λq a c=>match T.fns q with
  |none=>.C|some f=>oV T (aj T d) f a c
def sA(h:T.fns q=I f):aj T (d+1) q args a=oV T (aj T d) f args a:=by show(match T.fns q with|none=>RH.C|some f=>oV T (aj T d) f args a)=_;exact Z h U
noncomputable def cX{α β:Type}(R:α->β->Prop):D α->D β->Prop
 |[],l=>l=[]|x::xs,l=>∃v vs,l=v::vs/\R x v/\cX R xs vs
noncomputable def cX.nil{β:Type}{R:α->β->Prop}:cX R [] []:=U
def cX.cons{R:α->β->Prop}(a:R x v)(b:cX R d c):cX R (x::d) (v::c):=⟨v,c,U,a,b⟩
def cX.nl{R:α->β->Prop}(x:cX R [] l):l=[]:=x
def cX.out{R:α->β->Prop}{x:α}(h:cX R (x::c) l):∃v a,l=v::a/\R x v/\cX R c a:=h
@[elab_as_elim] def cX.ind{R:α->β->Prop}{P:D α->D β->Prop}(x:cX R h f)(n:P [] [])(c:∀x h v f,R x v->cX R h f->P h f->P (x::h) (v::f)):P h f:=by
 induction h generalizing f with
 |nil=>exact Z (show f=[]from x) n|cons y j i=>exact fP x λv l e a b=>Z e<|c _ _ _ _ a b (i b)
def cX.imp{α:Type}{R c:α->β->Prop}{d:D α}(h:∀x v,R x v->c x v)(x:cX R d e):cX c d e:=cX.ind x .nil λY Y Y Y a Y b=>.cons (h _ _ a) b
def cX.length{R:α->β->Prop}(x:cX R xs c):c.length=xs.length:=cX.ind x U λY Y Y Y Y Y e=>bq rr e
def cX.append{R:α->β->Prop}(x:cX R e f)(y:cX R SN d):cX R (e++SN) (f++d):=cX.ind x y λY Y Y Y a Y b=>.cons a b
def cX.reverse{β:Type}{R:α->β->Prop}{xs:D α}{d:D β}(x:cX R xs d):cX R xs.reverse d.reverse:=
 cX.ind x .nil λY Y Y Y a Y b=>Z ur<|Z ur (b.append (.cons a .nil))
abbrev bZ:=CV->K->Prop
abbrev cT:=CV->D aQ->Prop
abbrev bp:=ah->aM->Prop
noncomputable abbrev pw:Program:=aig
mutual
noncomputable def sB:J->ai->al CV
 |0,_=>W
 |n+1,e=>match e with
  |.Constant .none _ _=>I .none|.Constant (.bool b) _ _=>I<|.bool b
  |.Constant (.int i) _ _=>I<|.int i
  |.Constant (.str s) _ _=>I<|.str s
  |.Tuple a _ _=>(Hv n a).map .tup|.Dict c d _=>(Hw n c d).map .dA|_=>W
noncomputable def Hv:J->D ai->al (D CV)
 |0,_=>W|_+1,[]=>I []|n+1,e::a=>(sB n e).bind λv=>(Hv n a).map (v::·)
noncomputable def Hw:J->D (al ai)->D ai->al (D<|CV×CV)
 |0,_,_=>W|_+1,[],[]=>I []|n+1,I k::c,v::d=>(sB n k).bind λa=>(sB n v).bind λb=>(Hw n c d).map ((a,b)::·)|_+1,_,_=>W
end
noncomputable def Gi(x:H):D cf->al CV
 |[]=>W
 |a::r=>match a with
  |.Assign [.Name y _] e _=>if y=x then sB 60 e else Gi x r
  |_=>Gi x r
noncomputable def Hx:D ai->al (D CV)
 |[]=>I []
 |e::a=>(match e with|.Name x _=>Gi x pw.main.body|e=>sB 10 e).bind λv=>(Hx a).map (v::·)
def PO:cf->al jH
 |.FunctionDef _ a b _ _ _ c _ _ _=>(Hx a.defaults).map λd=>⟨a.args.map (·.arg),d,(c.names.filter λx=>(x.2==.local||x.2==.cell)&&!(a.args.any (·.arg==x.1))).map (·.1),c,b,W⟩|_=>W
def Gj(es:D (CV×CV)):al (CV×CV):=(qf es).bind λe=>(jG e.1).bind λY=>(yl e.2).bind gM
def ix(a:D CV)(c:D aQ):RH:=match((qf a).bind oH).bind λk=>(l8<|ea c k "rows").bind Gj with|some p=>.ok (.lst [.tup [p.1,p.2]]) c|none=>.C
def dS(n:J):Stmt:=pw.main.body.getD n<|.Pass default
def mS(n m:J):Stmt:=match dS n with
 |.ClassDef _ _ _ a _ _ _ _ _ _ _=>a.getD m<|.Pass default
 |_=>.Pass default
def ae(n:J):jH:=(PO<|dS n).getD ⟨[],[],[],default,[],W⟩
def az(n m:J):jH:=(PO<|mS n m).getD ⟨[],[],[],default,[],W⟩
def gC(n:J):CV:=match dS n with|.Assign [.Name _ _] e _=>(sB 60 e).getD .none|_=>.none
def yI:D (D (aX×jH)):=[[],[],[],[("law",ae 93)],[("same",ae 18),("show",ae 34)],[("_wall",ae 0),("named",ae 38),("whole",ae 39)],[("is_int",ae 16),("filled",ae 55)],[("sort_of",ae 17),("code_of",ae 20),("is_word",ae 21),("figures",ae 42),("letters",ae 48),("in_room",ae 50),("display",ae 52)],[("takes_in",ae 19),("is_label",ae 23),("read_int",ae 49),("make_own",ae 63),("_law_box",ae 71),("_law_row",ae 75),("_law_run",ae 81),("_law_due",ae 89)],[("full_name",ae 25),("show_text",ae 27),("show_pair",ae 29),("show_held",ae 31),("need_room",ae 41),("_law_take",ae 72),("_law_size",ae 73)],[("is_figures",ae 22),("show_range",ae 30),("show_thing",ae 32),("own_module",ae 61),("World.tick",az 69 1),("World.text",az 69 15),("World.proc",az 69 20),("World.fail",az 69 28),("_law_place",ae 74),("_law_value",ae 80),("_law_units",ae 82),("_law_wants",ae 83),("_law_ahead",ae 84),("_law_piece",ae 88),("_law_heard",ae 90)],[("show_letter",ae 26),("show_symbol",ae 28),("integer_for",ae 51),("class_above",ae 62),("World.write",az 69 2),("World.ident",az 69 5),("World.thing",az 69 21),("World.error",az 69 27),("_law_amount",ae 79),("_law_padded",ae 85),("_law_number",ae 86),("_law_agrees",ae 91)],[("message_text",ae 33),("World.number",az 69 3),("World.own_of",az 69 11),("World.key_of",az 69 18),("World.spread",az 69 23),("_law_figures",ae 76),("_law_numeral",ae 77),("_law_strange",ae 78),("_law_told_by",ae 87)],[("Text.__init__",az 8 0),("Format.padded",az 53 1),("Format.number",az 53 2),("raise_version",ae 60),("World.builtin",az 69 6),("World.root_of",az 69 13),("World.list_of",az 69 16),("World.find_in",az 69 35)],[("Thing.__init__",az 7 0),("TableThing.put",az 10 1),("TableThing.row",az 10 2),("Formatter.sign",az 54 4),("World.__init__",az 69 0),("World.give_own",az 69 8),("World.class_of",az 69 10),("World.table_of",az 69 17),("World.range_of",az 69 19),("World.describe",az 69 31),("World.constant",az 69 34)],[("is_plain_symbol",ae 24),("Format.__init__",az 53 0),("Formatter.value",az 54 1),("Formatter.count",az 54 3),("Formatter.piece",az 54 5),("Formatter.whole",az 54 6),("Raised.__init__",az 58 0),("World.need_size",az 69 25),("World.set_field",az 69 30),("_law_turn_right",ae 92)],[("TableThing.pairs",{az 10 3 with native:=I ix}),("Formatter.letter",az 54 2),("World.next_ident",az 69 4),("World.new_module",az 69 9),("World.own_behind",az 69 12),("World.real_class",az 69 14),("World.numbers_of",az 69 24),("World.sized_text",az 69 26)],[("GemError.__init__",az 57 0),("World.need_thawed",az 69 29),("World.constant_in",az 69 36)],[("ListThing.__init__",az 9 0),("ProcThing.__init__",az 12 0),("ModuleThing.is_own",az 15 1),("Formatter.__init__",az 54 0),("World.make_builtin",az 69 7),("World.own_constant",az 69 32),("World.set_constant",az 69 37)],[("TableThing.__init__",az 10 0),("RangeThing.__init__",az 11 0),("ErrorThing.__init__",az 13 0),("FiberThing.__init__",az 14 0),("World.find_constant",az 69 33)],[("ModuleThing.__init__",az 15 0),("World.is_error_class",az 69 22)]]
noncomputable def gE(x:aX)(c:CV):H×CV:=(ak x,c)
def KF(l:D aX):D (H×CV):=l.map λx=>(ak x,.fn x)
def Hy:D (D (H×CV)):=[[],[],[],[gE "len"<|.blt "len",gE "abs"<|.blt "abs",gE "chr"<|.blt "chr",gE "ord"<|.blt "ord",gE "min"<|.blt "min",gE "max"<|.blt "max",gE "int"<|.typ "int",gE "str"<|.typ "str"]++KF ["law"],[gE "Text"<|.cls "Text",gE "bool"<|.typ "bool",gE "list"<|.typ "list"]++KF ["same","show"],[gE "Thing"<|.cls "Thing",gE "BASES"<|gC 47,gE "MIXED"<|gC 67,gE "World"<|.cls "World",gE "range"<|.typ "range"]++KF ["_wall","named","whole"],[gE "BLANKS"<|gC 45,gE "Format"<|.cls "Format",gE "Raised"<|.cls "Raised",gE "UNMADE"<|gC 68]++KF ["is_int","filled"],[gE "FIGURES"<|gC 37,gE "MODULES"<|gC 65]++KF ["sort_of","code_of","is_word","figures","letters","in_room","display"],[gE "PREFIXES"<|gC 46,gE "GemError"<|.cls "GemError",gE "BUILTINS"<|gC 66]++KF ["takes_in","is_label","read_int","make_own","_law_box","_law_row","_law_run","_law_due"],[gE "OPERATORS"<|gC 3,gE "MOST_SEEN"<|gC 6,gE "ListThing"<|.cls "ListThing",gE "ProcThing"<|.cls "ProcThing",gE "MOST_BITS"<|gC 36,gE "MOST_TEXT"<|gC 44,gE "Formatter"<|.cls "Formatter"]++KF ["full_name","show_text","show_pair","show_held","need_room","_law_take","_law_size"],[gE "TableThing"<|.cls "TableThing",gE "RangeThing"<|.cls "RangeThing",gE "ErrorThing"<|.cls "ErrorThing",gE "FiberThing"<|.cls "FiberThing",gE "isinstance"<|.blt "isinstance",gE "ValueError"<|.typ "ValueError"]++KF ["is_figures","show_range","show_thing","own_module","_law_place","_law_value","_law_units","_law_wants","_law_ahead","_law_piece","_law_heard"],[gE "DEEPEST_KEY"<|gC 5,gE "ModuleThing"<|.cls "ModuleThing"]++KF ["show_letter","show_symbol","integer_for","class_above","_law_amount","_law_padded","_law_number","_law_agrees"],[gE "GLOBAL_SIGNS"<|gC 4]++KF ["message_text","_law_figures","_law_numeral","_law_strange","_law_told_by"],[gE "whole_numbers"<|.fn "whole"]++KF ["raise_version"],[gE "SIMPLE_ESCAPES"<|gC 2],KF ["is_plain_symbol","_law_turn_right"]]
def vz:D (aX×D (H×CV)):=[("Thing",[gE "__init__"<|.fn "Thing.__init__"]),("Text",[gE "__init__"<|.fn "Text.__init__"]),("ListThing",[gE "__init__"<|.fn "ListThing.__init__"]),("TableThing",[gE "__init__"<|.fn "TableThing.__init__",gE "put"<|.fn "TableThing.put",gE "row"<|.fn "TableThing.row",gE "pairs"<|.fn "TableThing.pairs"]),("RangeThing",[gE "__init__"<|.fn "RangeThing.__init__"]),("ProcThing",[gE "__init__"<|.fn "ProcThing.__init__"]),("ErrorThing",[gE "__init__"<|.fn "ErrorThing.__init__"]),("FiberThing",[gE "__init__"<|.fn "FiberThing.__init__"]),("ModuleThing",[gE "__init__"<|.fn "ModuleThing.__init__",gE "is_own"<|.fn "ModuleThing.is_own"]),("Format",[gE "__init__"<|.fn "Format.__init__",gE "padded"<|.fn "Format.padded",gE "number"<|.fn "Format.number"]),("Formatter",[gE "__init__"<|.fn "Formatter.__init__",gE "value"<|.fn "Formatter.value",gE "letter"<|.fn "Formatter.letter",gE "count"<|.fn "Formatter.count",gE "sign"<|.fn "Formatter.sign",gE "piece"<|.fn "Formatter.piece",gE "whole"<|.fn "Formatter.whole"]),("GemError",[gE "__init__"<|.fn "GemError.__init__"]),("Raised",[gE "__init__"<|.fn "Raised.__init__"]),("World",[gE "__init__"<|.fn "World.__init__",gE "tick"<|.fn "World.tick",gE "write"<|.fn "World.write",gE "number"<|.fn "World.number",gE "next_ident"<|.fn "World.next_ident",gE "ident"<|.fn "World.ident",gE "builtin"<|.fn "World.builtin",gE "make_builtin"<|.fn "World.make_builtin",gE "give_own"<|.fn "World.give_own",gE "new_module"<|.fn "World.new_module",gE "class_of"<|.fn "World.class_of",gE "own_of"<|.fn "World.own_of",gE "own_behind"<|.fn "World.own_behind",gE "root_of"<|.fn "World.root_of",gE "real_class"<|.fn "World.real_class",gE "text"<|.fn "World.text",gE "list_of"<|.fn "World.list_of",gE "table_of"<|.fn "World.table_of",gE "key_of"<|.fn "World.key_of",gE "range_of"<|.fn "World.range_of",gE "proc"<|.fn "World.proc",gE "thing"<|.fn "World.thing",gE "is_error_class"<|.fn "World.is_error_class",gE "spread"<|.fn "World.spread",gE "numbers_of"<|.fn "World.numbers_of",gE "need_size"<|.fn "World.need_size",gE "sized_text"<|.fn "World.sized_text",gE "error"<|.fn "World.error",gE "fail"<|.fn "World.fail",gE "need_thawed"<|.fn "World.need_thawed",gE "set_field"<|.fn "World.set_field",gE "describe"<|.fn "World.describe",gE "own_constant"<|.fn "World.own_constant",gE "find_constant"<|.fn "World.find_constant",gE "constant"<|.fn "World.constant",gE "find_in"<|.fn "World.find_in",gE "constant_in"<|.fn "World.constant_in",gE "set_constant"<|.fn "World.set_constant"]),("Raised!",[gE "__init__"<|.fn "Raised.__init__"])]
def vB(c:aX)(x:H):al CV:=(vz.lookup c).bind λl=>ay l x
noncomputable def SO:D (aX×D aX):=[("Thing",["Thing"]),("Text",["Text","Thing"]),("ListThing",["ListThing","Thing"]),("TableThing",["TableThing","Thing"]),("RangeThing",["RangeThing","Thing"]),("ProcThing",["ProcThing","Thing"]),("ErrorThing",["ErrorThing","Thing"]),("FiberThing",["FiberThing","Thing"]),("ModuleThing",["ModuleThing","Thing"]),("Format",["Format"]),("Formatter",["Formatter"]),("GemError",["GemError"]),("Raised",["Raised","GemError"]),("World",["World"]),("Raised!",["Raised!","Raised","GemError"])]
noncomputable def sC:D (D Str):=([[],[],[],["own","out"],["text","rows","last","open","name","kept","most","used","read","made","here","main"],["owner","ident","items","spare","first","cause","outer","mixed","ahead","flags","width","world","place","thing","taken"],["number","fields","frozen","parent","native","values","reason"],["message","methods","natives","prelude","version","globals"],["is_class","attached","is_ready"],["constants"],["last_ident"],["last_number"],[],["symbol_idents","const_version"]]:D (D aX)).map (·.map ak)
def O:Tab where
 attr:=λc x=>(sC[x.cps.size]?).any (·.contains x)&&(vB c x).isNone
 glob:=λx=>(Hy[x.cps.size]?).bind (ay · x)
 fns:=λq=>(yI[(ak q).cps.size]?).bind (·.lookup q)
 gP:=vB
 sub:=λd c=>match c with|.cls e=>((SO.lookup d).getD []).contains e|_=>ag
 exc:=λc=>c=="Raised"||c=="GemError"||c=="Raised!"
 up:=λc=>if c=="Raised" then I "Raised!" else W
 gQ:=λp=>p.line==127||p.line==233||p.line==685
set_option genInjectivity true in
inductive d8 where
 |none|fz|gU|cell (k:J)|dict (k:J)|attr (k:J) (x:H)|locs (i:J)|slot (i:J) (x:H)|var (i:J) (x:H)
noncomputable def d8.ctorIdx(x:d8):Nat:=d8.casesOn x 0 1 2 (λ_=>3) (λ_=>4) (λ_ _=>5) (λ_=>6) (λ_ _=>7) λ_ _=>8
def ao{a b:d8}{P:Prop}(h:a=b)(k:ag=(a.ctorIdx==b.ctorIdx)):P:=cO d8.ctorIdx h k
noncomputable instance:mX d8:=λY Y=>amq _
structure Gh where
 ad:d8->bc
 ow:bc->d8
 fz:bc->al dw
 tm:bc->al (J×dw)
structure au where
 pg:Program
 w:cF
 os:dM
 base:bG
 jk:aX->al bc
 cU:aX->al bc
 exc:aX->bf
 fresh:aX->bf
noncomputable abbrev au.md(F:au):=cr F.pg F.w
noncomputable abbrev bO(a:D ah)(n:J):Obj:={cls:=.type "list",data:=.seq a.toArray n}
noncomputable abbrev dt(a:D jt)(n:J):Obj:={cls:=.type "dict",data:=.dict a.toArray n}
mutual
inductive VR(F:au)(G:Gh):CV->ah->Prop
 |none:VR F G .none .none|bool (b):VR F G (.bool b) (.bool b)|int (n t):VR F G (.int n) (.int n t)|str (x t):VR F G (.str x) (.str x t)|tup {xs a o vs n}:G.fz a=I o->o.cls=.type "tuple"->o.data=.seq vs.toArray n->bn F G xs vs->VR F G (.tup xs) (.ref a)|arg {xs a o vs n}:G.fz a=I o->o.cls=.type "list"->o.data=.seq vs.toArray n->bn F G xs vs->VR F G (.arg xs) (.ref a)|lst {xs a vs n}:G.fz a=I (bO vs n)->bn F G xs vs->VR F G (.lst xs) (.ref a)|dA {es a o cY}:a≠g6->G.fz a=I o->o.IsDictOf (xt F.pg F.w) cY->cP F G es cY->VR F G (.dA es) (.ref a)|cell {k a}:a=G.ad (.cell k)->G.ow a=.cell k->VR F G (.cell k) (.ref a)|fn {q a}:F.jk q=I a->VR F G (.fn q) (.ref a)|cls {c a}:F.cU c=I a->VR F G (.cls c) (.ref a)|typ (n):VR F G (.typ n) (.type n)|blt (n):VR F G (.blt n) (.builtin n)|fS {n a t d v}:0<=n->n<1000->G.fz a=I {cls:=.type "range",data:=.fields #[.int 0 t,.int n d,.int 1 v]}->VR F G (.fS n) (.ref a)
inductive bn(F:au)(G:Gh):D CV->D ah->Prop
 |nil:bn F G [] []|cons {x xs v vs}:VR F G x v->bn F G xs vs->bn F G (x::xs) (v::vs)
inductive cP(F:au)(G:Gh):D (CV×CV)->D (H×ah)->Prop
 |nil:cP F G [] []|cons {x c v es cY}:VR F G c v->cP F G es cY->cP F G ((.str x,c)::es) ((x,v)::cY)
end
inductive VO(F:au)(i:J)(G:Gh):CV->ah->Prop
 |r {c v}:VR F G c v->VO F i G c v|bY {x}:VO F i G (.bY x) (.ref<|G.ad (.var i x))|c6 {k x}:G.ow (G.ad<|.attr k x)=.attr k x->VO F i G (.c6 k x) (.ref<|G.ad (.attr k x))
inductive Hz(k:V)(v:ah):Prop
 |mk (t:ij):v=.int k t->Hz k v
inductive Ca(x:H)(v:ah):Prop
 |mk (t:ij):v=.str x t->Ca x v
inductive Cb(F:au)(G:Gh)(c:aX)(xs:D CV)(v:ah):Prop
 |mk (a o vs n):v=.ref a->G.fz a=I o->o.cls=.type c->o.data=.seq vs.toArray n->bn F G xs vs->Cb F G c xs v
inductive HB(F:au)(G:Gh)(xs:D CV)(v:ah):Prop
 |mk (a vs n):v=.ref a->G.fz a=I (bO vs n)->bn F G xs vs->HB F G xs v
inductive HC(F:au)(G:Gh)(es:D (CV×CV))(v:ah):Prop
 |mk (a o cY):v=.ref a->a≠g6->G.fz a=I o->o.IsDictOf (xt F.pg F.w) cY->cP F G es cY->HC F G es v
inductive Cc(o:al bc)(v:ah):Prop
 |mk (a):v=.ref a->o=I a->Cc o v
inductive HD(G:Gh)(n:V)(w:ah):Prop
 |mk (a t c v):w=.ref a->0<=n->n<1000->G.fz a=I {cls:=.type "range",data:=.fields #[.int 0 t,.int n c,.int 1 v]}->HD G n w
def vC(F:au)(i:J)(G:Gh)(c:CV)(v:ah):Prop:=match c with|.none=>v=.none|.bool b=>v=.bool b|.int k=>Hz k v|.str x=>Ca x v|.tup a=>Cb F G "tuple" a v|.arg a=>Cb F G "list" a v|.lst a=>HB F G a v|.dA d=>HC F G d v|.cell k=>v=.ref (G.ad<|.cell k)/\G.ow (G.ad<|.cell k)=.cell k|.fn q=>Cc (F.jk q) v|.cls c=>Cc (F.cU c) v|.typ n=>v=.type n|.blt n=>v=.builtin n|.fS n=>HD G n v|.bY x=>v=.ref (G.ad<|.var i x)|.c6 k x=>v=.ref (G.ad<|.attr k x)/\G.ow (G.ad<|.attr k x)=.attr k x
def VR.SP(i:J)(x:VR F G c v):vC F i G c v:=
 VR.casesOn (motive_1:=λc v Y=>vC F i G c v) x U (λY=>rfl) (λY t=>.mk t U) (λY t=>.mk t U) (λa b c d=>.mk _ _ _ _ U a b c d) (λa b c d=>.mk _ _ _ _ U a b c d) (λa b=>.mk _ _ _ U a b) (λa b c d=>.mk _ _ _ U a b c d)
  (λa b=>⟨bq _ a,a▸b⟩) (λa=>.mk _ U a) (λa=>.mk _ U a) (λY=>rfl) (λY=>rfl) λa b c=>.mk _ _ _ _ U a b c
def VO.out(x:VO F i G c v):vC F i G c v:=
 VO.casesOn (motive:=λc v Y=>vC F i G c v) x (λx=>x.SP i) U λh=>⟨U,h⟩
def VR.out(i:J)(x:VR F G c v):vC F i G c v:=(VO.r x).out
inductive HE(F:au)(G:Gh)(x:CV)(xs:D CV)(l:D ah):Prop
 |mk (v vs):l=v::vs->VR F G x v->bn F G xs vs->HE F G x xs l
def HF(F:au)(G:Gh)(a:D CV)(c:D ah):Prop:=match a with|[]=>c=[]|x::a=>HE F G x a c
def bn.out(x:bn F G c d):HF F G c d:=
 bn.casesOn (motive_2:=λc d Y=>HF F G c d) x U λa b=>.mk _ _ U a b
inductive HG(F:au)(G:Gh)(k c:CV)(es:D (CV×CV))(l:D (H×ah)):Prop
 |mk (x v cY):k=.str x->l=(x,v)::cY->VR F G c v->cP F G es cY->HG F G k c es l
def HI(F:au)(G:Gh)(a:D (CV×CV))(l:D (H×ah)):Prop:=match a with|[]=>l=[]|e::a=>HG F G e.1 e.2 a l
def cP.out(x:cP F G c l):HI F G c l:=
 cP.casesOn (motive_3:=λc l Y=>HI F G c l) x U λa b=>.mk _ _ _ U U a b
inductive dH(F:au)(G:Gh):iP->ah->Prop
 |none:dH F G .none .none|bool (b):dH F G (.bool b) (.bool b)|int (i t):dH F G (.int i) (.int i t)|str (x t):dH F G (.str x) (.str x t)|lst {xs a vs n}:G.fz a=I (bO vs n)->bn F G xs vs->dH F G (.lst xs) (.ref a)|eQ {v}:v≠.none->dH F G .eQ v
def VO.knd(x:VO F i G c v):dH F G (eh c) v:=
 VO.casesOn (motive:=λc v Y=>dH F G (eh c) v) x
  (λx=>VR.casesOn (motive_1:=λc v Y=>dH F G (eh c) v) x .none .bool .int .str (λY Y Y Y=>.eQ nofun) (λY Y Y Y=>.eQ nofun) .lst (λY Y Y Y=>.eQ nofun) (λY Y=>.eQ nofun) (λY=>.eQ nofun) (λY=>.eQ nofun) (λY=>.eQ nofun) (λY=>.eQ nofun) λY Y Y=>.eQ nofun)
  (.eQ nofun) λY=>.eQ nofun
def cL{α:Type}(o:al α)(P:α->Prop):Prop:=match o with|some a=>P a|none=>fD
def cL.imp(h:cL o P)(k:∀a,P a->Q a):cL o Q:=by induction o with|none=>trivial|some a=>exact k a h
def cL.map(h:cL o λa=>Q<|f a):cL (o.map f) Q:=by induction o with|none=>trivial|some a=>exact h
def cL.bind(h:cL o λa=>cL (f a) Q):cL (o.bind f) Q:=by induction o with|none=>trivial|some a=>exact h
def cL.all(h:∀a,o=I a->P a):cL o P:=by induction o with|none=>trivial|some a=>exact h a U
def cL.ite[nY c](h:c->P a):cL (if c then I a else W) P:=by
 by_cases q:c;exact Z (aa q)<|h q
 refine Z (u q) ?_;trivial
def cL.get(h:cL o P)(e:o=I a):P a:=by rw[e]at h;exact h
structure Le(n:J)(G G':Gh):Prop where
 fz:∀a o,G.fz a=I o->G'.fz a=I o
 cell:∀k,G.ow (G.ad<|.cell k)=.cell k->G'.ad (.cell k)=G.ad (.cell k)/\G'.ow (G.ad<|.cell k)=.cell k
 attr:∀k x,G.ow (G.ad<|.attr k x)=.attr k x->G'.ad (.attr k x)=G.ad (.attr k x)/\G'.ow (G.ad<|.attr k x)=.attr k x
 var:∀j x,j+1<n->G'.ad (.var j x)=G.ad (.var j x)
 tm:∀a j o,G.tm a=I (j,o)->j<n->G'.tm a=I (j,o)
noncomputable def Le.refl(n:J)(G:Gh):Le n G G:=⟨λY Y e=>e,λY e=>⟨U,e⟩,λY Y e=>⟨U,e⟩,λY Y Y=>rfl,λY Y Y e Y=>e⟩
def Le.trans(x:Le n yg Cd)(y:Le n Cd SQ):Le n yg SQ where
 fz a o e:=y.fz a o<|x.fz a o e
 cell k e:=by refine aI (x.cell k e) λc m=>aI (y.cell k<|by exact Z c m) λd f=>?_;rw[c]at d f;exact⟨d,f⟩
 attr k i e:=by refine aI (x.attr k i e) λc m=>aI (y.attr k i<|by exact Z c m) λd f=>?_;rw[c]at d f;exact⟨d,f⟩
 var j i h:=(y.var j i h).trans<|x.var j i h
 tm a j o e h:=y.tm a j o (x.tm a j o e h) h
def Le.down(x:Le n G d)(h:m<=n):Le m G d:=
 ⟨x.fz,x.cell,x.attr,λj y c=>x.var j y<|cM c h,λa j o e c=>x.tm a j o e<|cM c h⟩
def VR.mono(L:Le n G e){c v}(x:VR F G c v):VR F e c v:=
 VR.rec (motive_1:=λc v Y=>VR F e c v) (motive_2:=λc v Y=>bn F e c v) (motive_3:=λc v Y=>cP F e c v) .none .bool .int .str (λa b c Y d=>.tup (L.fz _ _ a) b c d) (λa b c Y d=>.arg (L.fz _ _ a) b c d) (λa Y d=>.lst (L.fz _ _ a) d)
  (λq a b Y d=>.dA q (L.fz _ _ a) b d) (λa b=>by subst a;exact .cell (L.cell _ b).1.symm (L.cell _ b).2) .fn .cls .typ .blt (λp q a=>.fS p q<|L.fz _ _ a) .nil (λY Y a b=>.cons a b) .nil (λY Y a b=>.cons a b) x
def bn.mono(L:Le n G e){c v}(x:bn F G c v):bn F e c v:=by
 induction c generalizing v with
 |nil=>exact Z (show v=[]from x.out)<|.nil
 |cons a c d=>obtain⟨v,f,rfl,p,q⟩:=x.out;exact .cons (p.mono L)<|d q
def cP.mono(L:Le n G d){c v}(x:cP F G c v):cP F d c v:=by
 induction c generalizing v with
 |nil=>exact Z (show v=[]from x.out)<|.nil
 |cons e i a=>obtain⟨k,c⟩:=e;obtain⟨y,v,f,h,rfl,p,q⟩:=x.out;exact Z (show k=.str y from h)<|.cons (p.mono L) (a q)
def VO.mono(L:Le (i+2) G d){c v}(x:VO F i G c v):VO F i d c v:=
 VO.casesOn (motive:=λc v Y=>VO F i d c v) x (λx=>.r<|x.mono L) (λ{x}=>L.var i x (gb<|i+1)▸.bY) λ{k x}a=>by have e:=L.attr k x a;have f:=e.2;rw[<-e.1]at f⊢;exact .c6 f
def VO.store{c v}(x:VO F i G c v):bj c=B->VR F G c v:=
 VO.casesOn (motive:=λc v Y=>bj c=B->VR F G c v) x (λx Y=>x) (λh=>ft h) λY h=>ft h
def VR.bj{c v}(x:VR F G c v):bj c=true:=
 VR.casesOn (motive_1:=λc Y Y=>Internal.bj c=B) x U (λY=>rfl) (λY Y=>rfl) (λY Y=>rfl) (λY Y Y Y=>rfl) (λY Y Y Y=>rfl) (λY Y=>rfl) (λY Y Y Y=>rfl) (λY Y=>rfl) (λY=>rfl) (λY=>rfl) (λY=>rfl) (λY=>rfl) λY Y Y=>rfl
def bn.length{c v}(x:bn F G c v):v.length=c.length:=by
 induction c generalizing v with
 |nil=>exact Z (show v=[]from x.out) U|cons a c f=>obtain⟨v,h,rfl,p,q⟩:=x.out;exact bq (·+1)<|f q
def bn.get{c v}(x:bn F G c v)(j:J){a}(h:c[j]?=I a):∃b,v[j]?=I b/\VR F G a b:=by
 induction c generalizing v j with
 |nil=>exact aD h|cons e c d=>obtain⟨v,f,rfl,p,q⟩:=x.out;induction j with|zero=>exact⟨_,U,aK h▸p⟩|succ j=>exact d q j h
def bn.append{c v d e}(x:bn F G c v)(y:bn F G d e):bn F G (c++d) (v++e):=by
 induction c generalizing v with
 |nil=>exact Z (show v=[]from x.out) y|cons a c f=>obtain⟨v,h,rfl,p,q⟩:=x.out;exact .cons p<|f q
def bn.set{c v}(x:bn F G c v)(j:J){a b}(y:VR F G a b):bn F G (c.set j a) (v.set j b):=by
 induction c generalizing v j with
 |nil=>exact Z (show v=[]from x.out)<|.nil
 |cons a' c d=>
  obtain⟨v,e,rfl,p,q⟩:=x.out;induction j with
  |zero=>exact .cons y q|succ j=>exact .cons p<|d q j
inductive iy(F:au)(G:Gh)(a:bc)(xs:D CV)(h:bG):Prop
 |mk (vs n):h.get? a=I (bO vs n)->bn F G xs vs->iy F G a xs h
inductive Ce(F:au)(G:Gh)(k c:CV)(P:D (V×ah)->Prop)(l:D (V×ah)):Prop
 |mk (x v cY):k=.int x->l=(x,v)::cY->VR F G c v->P cY->Ce F G k c P l
def dZ(F:au)(G:Gh)(c:D (CV×CV)):D (V×ah)->Prop:=c.rec (·=[]) λe _=>Ce F G e.1 e.2
def dZ.nil:dZ F G [] []:=rfl
def dZ.cons{x v}(a:VR F G c v)(b:dZ F G e d):dZ F G ((.int x,c)::e) ((x,v)::d):=⟨x,v,d,U,U,a,b⟩
def dZ.out(x:dZ F G (e::c) l):Ce F G e.1 e.2 (dZ F G c) l:=x
def dZ.mono(L:Le n G e){c v}(x:dZ F G c v):dZ F e c v:=by
 induction c generalizing v with
 |nil=>exact x|cons c l i=>obtain⟨y,v,w,f,e,p,q⟩:=x;exact⟨y,v,w,f,e,p.mono L,i q⟩
inductive fu(F:au)(G:Gh)(a:bc):D (CV×CV)->bG->Prop
 |s {es cY h}:h.DictOf (xt F.pg F.w) a cY->cP F G es cY->fu F G a es h|i {es cY h}:h.DictOf (AN F.pg F.w) a cY->dZ F G es cY->fu F G a es h|t {x y c v ka ko t d m o n h}:h.get? a=I o->o.ExactDict->o.data=.dict #[⟨(AO<|xt F.pg F.w).hash [x,y],.ref ka,v⟩] n->G.fz ka=I ko->ko.cls=.type "tuple"->ko.data=.seq #[.str x t,.str y d] m->VR F G c v->fu F G a [(.tup [.str x,.str y],c)] h
inductive cQ(F:au)(G:Gh)(h:bG)(O:d8):SV->ah->Prop
 |v {c x}:VR F G c x->cQ F G h O (.v c) x|ol {xs}:G.ow (G.ad O)=O->iy F G (G.ad O) xs h->cQ F G h O (.ol xs) (.ref<|G.ad O)|od {es}:G.ow (G.ad O)=O->fu F G (G.ad O) es h->cQ F G h O (.od es) (.ref<|G.ad O)
def HJ(F:au)(G:Gh)(h:bG)(a:d8)(d:SV)(v:ah):Prop:=match d with|.v c=>VR F G c v|.ol e=>v=.ref (G.ad a)/\G.ow (G.ad a)=a/\iy F G (G.ad a) e h|.od f=>v=.ref (G.ad a)/\G.ow (G.ad a)=a/\fu F G (G.ad a) f h|.un=>bA
def cQ.out{v:ah}(r:cQ F G h c d v):HJ F G h c d v:=
 cQ.casesOn (motive:=λd v Y=>HJ F G h c d v) r id (λa b=>⟨U,a,b⟩) λa b=>⟨U,a,b⟩
inductive jl(F:au)(G:Gh)(h:bG)(a:d8):SV->al ah->Prop
 |un {x}:jl F G h a .un x|s {sv x}:cQ F G h a sv x->jl F G h a sv (I x)
def jl.out(r:jl F G h c d o):d=.un\/∃x,o=I x/\cQ F G h c d x:=
 jl.casesOn (motive:=λd o Y=>d=.un\/∃x,o=I x/\cQ F G h c d x) r (.inl U) λa=>.inr ⟨_,U,a⟩
inductive Cf(F:au)(G:Gh)(h:bG)(k:J)(x:H)(sv:SV)(as:D (H×SV))(P:D jt->Prop)(es:D jt):Prop
 |mk (d ds t):es=d::ds->ay as x=W->d.key=.str x t->d.hash=fk F.w.params x->cQ F G h (.attr k x) sv d.val->P ds->Cf F G h k x sv as P es
def dJ(F:au)(G:Gh)(h:bG)(k:J)(c:D (H×SV)):D jt->Prop:=c.rec (·=[]) λe a=>Cf F G h k e.1 e.2 a
def dJ.nil:dJ F G h k [] []:=rfl
def dJ.cons{d:jt}(a:ay c x=W)(b:d.key=.str x t)(e:d.hash=fk F.w.params x)(f:cQ F G h (.attr k x) s d.val)(i:dJ F G h k c j):dJ F G h k ((x,s)::c) (d::j):=⟨d,j,t,U,a,b,e,f,i⟩
def dJ.nl(x:dJ F G h k [] a):a=[]:=x
def dJ.out(z:dJ F G h k ((x,j)::f) i):Cf F G h k x j f (dJ F G h k f) i:=z
inductive lw(F:au)(c:aX)(o:dw):Prop
 |mk (vs t0):o.data=.fields vs->vs.size=6->vs[0]?=I (.ref t0)->(F.fresh c=B->vs[1]?=I .none)->lw F c o
inductive fV(F:au)(G:Gh)(h:bG)(k:J):aQ->Prop
 |inst {c as o a es n}:G.ow (G.ad<|.cell k)=.cell k->h.get? (G.ad<|.cell k)=I o->o.cls=.ref a->F.cU c=I a->pO o=B->o.dict=I (G.ad<|.dict k)->
  G.ow (G.ad<|.dict k)=.dict k->h.get? (G.ad<|.dict k)=I (dt es n)->dJ F G h k as es->(F.exc c=B->lw F c o)->fV F G h k (.inst c as)
 |vD {c o a}:G.ow (G.ad<|.cell k)=.cell k->h.get? (G.ad<|.cell k)=I o->o.cls=.ref a->F.cU c=I a->pO o=B->o.dict=W->F.exc c=B->lw F c o->fV F G h k (.inst c [])|e9 {xs}:G.ow (G.ad<|.cell k)=.cell k->iy F G (G.ad<|.cell k) xs h->fV F G h k (.e9 xs)
inductive oW(F:au)(G:Gh)(h:bG)(k:J)(c:aX)(as:D (H×SV)):Prop
 |mk (o a es n):G.ow (G.ad<|.cell k)=.cell k->h.get? (G.ad<|.cell k)=I o->o.cls=.ref a->F.cU c=I a->pO o=B->o.dict=I (G.ad<|.dict k)->
  G.ow (G.ad<|.dict k)=.dict k->h.get? (G.ad<|.dict k)=I (dt es n)->dJ F G h k as es->(F.exc c=B->lw F c o)->oW F G h k c as
inductive vF(F:au)(G:Gh)(h:bG)(k:J)(c:aX)(as:D (H×SV)):Prop
 |mk (o a):as=[]->G.ow (G.ad<|.cell k)=.cell k->h.get? (G.ad<|.cell k)=I o->o.cls=.ref a->F.cU c=I a->pO o=B->o.dict=W->F.exc c=B->lw F c o->vF F G h k c as
def HK(F:au)(G:Gh)(h:bG)(k:J)(d:aQ):Prop:=match d with|.inst c a=>oW F G h k c a\/vF F G h k c a|.e9 e=>G.ow (G.ad<|.cell k)=.cell k/\iy F G (G.ad<|.cell k) e h
def fV.out(x:fV F G h k n):HK F G h k n:=
 fV.casesOn (motive:=λn Y=>HK F G h k n) x (λa b c d e f m i j l=>.inl<|.mk _ _ _ _ a b c d e f m i j l) (λa b c d e f m i=>.inr<|.mk _ _ U a b c d e f m i) λa b=>⟨a,b⟩
def sD(x:fV F G h k (.inst c f))(e:f≠[]\/F.exc c=ag):oW F G h k c f:=by
 rcases x.out with x|⟨o,d,a,_,_,_,_,_,_,z,_⟩
 exact x;rcases e with q|q
 exact aF a q;rw[q]at z;exact ft z
def SR{a:SV}(e:ay c x=I a):c≠[]:=λq=>aD<|show ay [] x=I a from q▸e
inductive HL(F:au)(G:Gh)(h:bG)(j:J)(env:fE)(loc:D (H×SV))(sc:f9):Prop
 |mk (m):h.Ns env.locals m->(∀y,sc.names.lookup y=I .local->∀sv,ay loc y=I sv->jl F G h (.var j y) sv (m y))->HL F G h j env loc sc
inductive HM(F:au)(G:Gh)(h:bG)(j:J)(env:fE)(loc:D (H×SV))(y:H):Prop
 |mk (c o):env.cells.lookup y=I c->G.ow c=.slot j y->(∃ob,h.get? c=I ob/\ob.data=.cell o)->(∀sv,ay loc y=I sv->jl F G h (.var j y) sv o)->HM F G h j env loc y
inductive HN(F:au)(G:Gh)(h:bG)(j:J)(env:fE)(loc:D (H×SV))(y:H):Prop
 |mk (c o i):env.cells.lookup y=I c->i<j->G.ow c=.slot i y->(∃ob,h.get? c=I ob/\ob.data=.cell o)->(∀sv,ay loc y=I sv->(sv=.un\/∃cv x,sv=.v cv/\o=I x/\VR F G cv x))->HN F G h j env loc y
structure gV(F:au)(G:Gh)(h:bG)(j:J)(env:fE)(loc:D (H×SV))(sc:f9):Prop where
 kd:∀y,env.kindOf y=sc.names.lookup y\/(sc.names.lookup y=I .free/\env.kindOf y=I .cell)
 kind:env.scope.kind=.function
 glob:env.globals=lK
 blt:env.builtins=uo
 lo:G.ow env.locals=.locs j
 la:G.ad (.locs j)=env.locals
 ns:HL F G h j env loc sc
 ce:∀y,sc.names.lookup y=I .cell->HM F G h j env loc y
 fr:∀y,sc.names.lookup y=I .free->HN F G h j env loc y
 own:∀y sv,ay loc y=I sv->(∃c,sv=.v c)\/sv=.un\/sc.names.lookup y=I .local\/sc.names.lookup y=I .cell
def gV.vG(L:gV F G h j a c d)(e:d.names.lookup y=I k)(f:k≠.free):a.kindOf y=I k:=by
 rcases L.kd y with q|⟨q,_⟩
 exact Z q e;rw[q]at e;obtain rfl:=aK e;exact aF U f
structure Fm where
 env:fE
 loc:D (H×SV)
 sc:f9
 isFn:bf
noncomputable def oX(F:au)(G:Gh)(h:bG):D Fm->Prop
 |[]=>fD|f::r=>gV F G h r.length f.env f.loc f.sc/\oX F G h r
def Fm.HP(f:Fm):Prop:=f.isFn=B->f.env.frame=I f.env.locals
structure aU where
 env:fE
 isFn:bf
 out:D Fm
noncomputable def aU.lv(X:aU):Nat:=X.out.length
noncomputable def kx:D Fm->D fE
 |[]=>[]|f::r=>if f.isFn then f.env::kx r else kx r
def aU.envs(X:aU):D Env:=if X.isFn then X.env::kx X.out else kx X.out
structure aG(F:au)(X:aU)(G:Gh)(st:K)(h:bG):Prop where
 sys:∃o,F.base.get? g6=I o
 ey:∀a o,F.base.get? a=I o->G.fz a=I o
 fz:∀a o,G.fz a=I o->h.get? a=I o/\G.ow a=.fz
 tm:∀a p,G.tm a=I p->h.get? a=I p.2/\G.ow a=.gU
 lt:∀a,G.ow a≠.none->(h.get? a).isSome=B
 cells:∀k ob,st.hp[k]?=I ob->fV F G h k ob
 fH:∀k,G.ow (G.ad<|.cell k)=.cell k->k<st.hp.length
 eY:∀k x,G.ow (G.ad<|.attr k x)=.attr k x->(ea st.hp k x).isSome=B
 top:gV F G h X.lv X.env st.loc st.sc
 out:oX F G h X.out
 fr:(X.isFn=B->X.env.frame=I X.env.locals)/\∀f∈X.out,f.HP
structure Tr(S:d8->Prop)(G G':Gh)(h h':bG):Prop where
 keep:∀b o,h.get? b=I o->¬S (G.ow b)->h'.get? b=I o
 ow:∀b,G.ow b≠.none->¬S (G.ow b)->G'.ow b=G.ow b
 ad:∀O,¬S O->G'.ad O=G.ad O
def iy.tr(T:Tr S G c h e)(L:Le n G c){a d}(x:iy F G a d h)(f:¬S (G.ow a)):iy F c a d e:=by obtain⟨i,n,j,k⟩:=x;exact⟨i,n,T.keep _ _ j f,k.mono L⟩
def fu.tr(T:Tr S G d h j)(L:Le n G d){a f}(x:fu F G a f h)(c:¬S (G.ow a)):fu F d a f j:=by
 induction x with
 |s a b=>exact .s (a.at λo e=>T.keep _ _ e c)<|b.mono L
 |i a b=>exact .i (a.at λo e=>T.keep _ _ e c)<|b.mono L
 |t a1 a2 k m p q r=>exact .t (T.keep _ _ a1 c) a2 k (L.fz _ _ m) p q<|r.mono L
def cQ.tr(T:Tr S G f h k)(L:Le n G f){c i v}(j:c≠.none)(x:cQ F G h c i v)(d:¬S c):cQ F f k c i v:=by
 induction x with
 |v x=>exact .v<|x.mono L
 |ol a b=>refine ax (T.ad c d) ?_;have e:f.ow (G.ad c)=c:=(T.ow _ (Z a j)<|Z a d).trans a;exact .ol (Z (T.ad c d) e)<|Z (T.ad c d) (b.tr T L (by exact Z a d))
 |od a b=>refine ax (T.ad c d) ?_;have e:f.ow (G.ad c)=c:=(T.ow _ (Z a j)<|Z a d).trans a;exact .od (Z (T.ad c d) e)<|Z (T.ad c d) (b.tr T L (by exact Z a d))
def jl.tr(T:Tr S G c h e)(L:Le n G c){a d v}(f:a≠.none)(x:jl F G h a d v)(i:¬S a):jl F c e a d v:=by
 induction x with
 |un=>exact .un|s x=>exact .s<|x.tr T L f i
def dJ.tr(T:Tr S G j h m)(L:Le n G j){k f i}(x:dJ F G h k f i)(o:∀y,¬S (.attr k y)):dJ F j m k f i:=by
 induction f generalizing i with
 |nil=>exact Z x.nl .nil|cons a f s=>obtain⟨d,i,t,e,z,p,q,r,c⟩:=x.out;exact Z e<|.cons z p q (r.tr T L (ao · rfl) (o _)) (s c)
def fV.tr(T:Tr S G s h v)(L:Le n G s){k t}(x:fV F G h k t)(c:¬S (.cell k))(i:¬S (.dict k))(w:∀y,¬S (.attr k y)):fV F s v k t:=by
 induction x with
 |inst a1 a2 j m o p e q z l=>have d:=T.ad _ c;have r:=T.ad _ i;have f:=(T.ow _ (by exact Z a1 (ao · rfl))<|Z a1 c).trans a1;have A:=(T.ow _ (by exact Z e (ao · rfl))<|Z e i).trans e;exact .inst (Z d f) (Z d<|T.keep _ _ a2 (by exact Z a1 c)) j m o (Z r p) (Z r A) (Z r<|T.keep _ _ q (by exact Z e i)) (z.tr T L w) l
 |vD a1 a2 j m o p e q=>have d:=T.ad _ c;have f:=(T.ow _ (by exact Z a1 (ao · rfl))<|Z a1 c).trans a1;exact .vD (Z d f) (Z d<|T.keep _ _ a2 (by exact Z a1 c)) j m o p e q
 |e9 a b=>have d:=T.ad _ c;have f:=(T.ow _ (by exact Z a (ao · rfl))<|Z a c).trans a;exact .e9 (Z d f)<|Z d (b.tr T L (by exact Z a c))
def gV.tr{n:J}(T:Tr S G P h h')(L:Le n G P){j k a Q}(x:gV F G h j k a Q)(w:¬S (.locs j))(t:∀i y,i<=j->¬S (.slot i y))(X:∀y,¬S (.var j y)\/ay a y=I .un):gV F P h' j k a Q where
 kind:=x.kind
 glob:=x.glob
 blt:=x.blt
 lo:=(T.ow _ (by exact Z x.lo (ao · rfl))<|Z x.lo w).trans x.lo
 la:=(T.ad _ w).trans x.la
 ns:=by obtain⟨m,hm,hk⟩:=x.ns;refine⟨m,hm.at λo e=>T.keep _ _ e<|Z x.lo w,λy p r e=>?_⟩;exact(X y).elim ((hk y p r e).tr T L (ao · rfl)) λq=>by rw[q]at e;obtain rfl:=aK e;exact .un
 ce:=λy p=>by obtain⟨c,o,z,d,⟨b,l,A⟩,f⟩:=x.ce y p;exact⟨c,o,z,(T.ow _ (by exact Z d (ao · rfl))<|Z d (t _ _ (aA _))).trans d,⟨b,T.keep _ _ l<|Z d (t _ _ (aA _)),A⟩,λr s=>(X y).elim ((f r s).tr T L (ao · rfl)) λq=>by rw[q]at s;obtain rfl:=aK s;exact .un⟩
 fr:=λy p=>by
  obtain⟨c,o,i,z,E,d,⟨b,l,A⟩,f⟩:=x.fr y p;refine⟨c,o,i,z,E,(T.ow _ (by exact Z d (ao · rfl))<|Z d (t _ _ (cG E))).trans d,⟨b,T.keep _ _ l<|Z d (t _ _ (cG E)),A⟩,λr s=>?_⟩;rcases f r s with f|⟨cv,v,f,e7,e8⟩
  exact .inl f;exact .inr ⟨cv,v,f,e7,e8.mono L⟩
 own:=x.own
 kd:=x.kd
noncomputable def oX.tr(T:Tr S G c h d)(L:Le n G c):∀{l:D Fm},oX F G h l->(∀j,j<l.length->¬S (.locs j)/\(∀y,¬S (.slot j y))/\∀y,¬S (.var j y))->oX F c d l
 |[],_,_=>trivial|f::r,x,a=>by refine⟨x.1.tr T L (a _<|gb _).1 (λi y e=>(a i<|ut e).2.1 y) λy=>.inl ((a _ (gb _)).2.2 y),x.2.tr T L λj k=>a j<|uv k⟩
def dy{h:bG}(e:h.get? a=I o):(h.get? a).isSome=true:=Z e U
def qz{h c:bG}(k:∀b o,h.get? b=I o->c.get? b=I o)(e:(h.get? a).isSome=B):(c.get? a).isSome=true:=aJ (Option.isSome_iff_exists.mp e) λo q=>dy<|k _ _ q
def aG.Cg(R:aG F X G c h)(e:G.ow a≠.none):a<h.objs.size:=aJ (Option.isSome_iff_exists.mp<|R.lt a e) λo q=>jy q
def aG.grow(R:aG F X G st h)(T:Tr (λY=>bA) G G' h h')(L:Le n G G')
 (hz:∀a o,G'.fz a=I o->h'.get? a=I o/\G'.ow a=.fz)(ht:∀a p,G'.tm a=I p->h'.get? a=I p.2/\G'.ow a=.gU)
 (hl:∀a,G'.ow a≠.none->(h'.get? a).isSome=B)(hc:∀b k,G'.ow b=.cell k->G.ow b=.cell k)(ha:∀b k x,G'.ow b=.attr k x->G.ow b=.attr k x):aG F X G' st h' where
 sys:=R.sys
 ey a o e:=L.fz _ _<|R.ey a o e
 fz:=hz
 tm:=ht
 lt:=hl
 cells k ob e:=(R.cells k ob e).tr T L id id λY=>id
 fH k e:=R.fH k<|by have:=hc _ _ e;rwa [T.ad _ id]at this
 eY k x e:=R.eY k x<|by have:=ha _ _ _ e;rwa [T.ad _ id]at this
 top:=R.top.tr T L id (λY Y Y=>id) λY=>.inl id
 out:=R.out.tr T L λY Y=>⟨id,λY=>id,λY=>id⟩
 fr:=R.fr
def aG.same(R:aG F X G c h)(k:∀b o,h.get? b=I o->d.get? b=I o):aG F X G c d:=
 R.grow (n:=0) ⟨λb o e Y=>k b o e,λY Y Y=>rfl,λY Y=>rfl⟩ (Le.refl _ _) (λa o e=>⟨k _ _ (R.fz a o e).1,(R.fz a o e).2⟩) (λa p e=>⟨k _ _ (R.tm a p e).1,(R.tm a p e).2⟩)
  (λa e=>qz k<|R.lt a e) (λY Y e=>e) λY Y Y e=>e
def aG.push(R:aG F X G a h)(o:dw):aG F X G a (h.push o):=R.same λb c e=>di o e
noncomputable def Gh.fI(G:Gh)(a:bc)(o:dw):Gh:={G with ow:=λb=>if b=a then .fz else G.ow b,fz:=λb=>if b=a then I o else G.fz b}
noncomputable def Gh.nD(G:Gh)(i:J)(a:bc)(o:dw):Gh:={G with ow:=λb=>if b=a then .gU else G.ow b,tm:=λb=>if b=a then I (i,o)else G.tm b}
def aG.Ch(R:aG F X G a h):G.ow g6=.fz:=aJ R.sys λo e=>(R.fz _ _<|R.ey _ _ e).2
def aG.fresh(R:aG F X G d h)(c:h.objs.size<=a):G.ow a=.none:=by apply aL;exactλe=>aF (R.Cg e)<|Nat.not_lt.mpr c
def aG.yJ(R:aG F X G f h)(c:h.objs.size<=a):G.fz a=none:=by generalize e:G.fz a=d;induction d using bL with|none=>rfl|some o=>have:=(R.fz a o e).2;rw[R.fresh c]at this;exact ao this U
def aG.yK(R:aG F X G f h)(c:h.objs.size<=a):G.tm a=none:=by generalize e:G.tm a=d;induction d using bL with|none=>rfl|some o=>have:=(R.tm a o e).2;rw[R.fresh c]at this;exact ao this U
def aG.HQ(R:aG F X G r h)(f:Gh)(n:J)(d:∀c,f.ad c=G.ad c)(i:∀b,b≠h.objs.size->f.ow b=G.ow b)(m:∀b,b≠h.objs.size->f.fz b=G.fz b)(p:∀b,b≠h.objs.size->f.tm b=G.tm b):Le n G f:=by refine⟨λa o e=>?_,λk e=>⟨d _,?_⟩,λk x e=>⟨d _,?_⟩,λY Y Y=>d _,λa j o e Y=>?_⟩;exact Z (m a λq=>by rw[q,R.yJ<|aA _]at e;exact aD e) e;exact Z (i _ λq=>by rw[q,R.fresh<|aA _]at e;exact ao e U) e;exact Z (i _ λq=>by rw[q,R.fresh<|aA _]at e;exact ao e U) e;exact Z (p a λq=>by rw[q,R.yK<|aA _]at e;exact aD e) e
def aG.nE(R:aG F X G i h)(o:dw)(f:o.isFreed=ag):aG F X (G.fI h.objs.size o) i (h.push o)/\(∀n,Le n G<|G.fI h.objs.size o)/\(G.fI h.objs.size o).fz h.objs.size=I o:=by
 have L:∀n,Le n G (G.fI h.objs.size o):=λn=>R.HQ _ n (λY=>rfl) (λb c=>u c) (λb c=>u c) λY Y=>rfl;refine⟨R.grow (n:=0) ⟨λb d e Y=>di o e,λb c Y=>u λq=>c<|by exact Z q<|R.fresh (aA _),λY Y=>rfl⟩ (L 0) (λa d e=>?_) (λa p e=>?_) (λa e=>?_) (λb k e=>?_) λb k x e=>?_,L,aa U⟩;unfold Gh.fI at e⊢;dsimp only at e⊢;split at e;rename_i q;subst q;obtain rfl:=aK e;exact⟨gx h f,aa U⟩;rename_i q;exact Z (u q)<|⟨di o (R.fz a d e).1,(R.fz a d e).2⟩
 have:=R.tm a p e;refine⟨di o this.1,?_⟩;unfold Gh.fI;dsimp only;exact Z (u λq=>by rw[q,R.fresh<|aA _]at this;exact ao this.2 U)<|this.2
 unfold Gh.fI at e;dsimp only at e;split at e;rename_i q;subst q;exact dy<|gx h f
 exact qz (λY Y=>di o)<|R.lt a e
 unfold Gh.fI at e;dsimp only at e;split at e;exact ao e U;exact e;unfold Gh.fI at e;dsimp only at e;split at e;exact ao e U;exact e
def aG.vH(R:aG F X G j h)(i:J)(o:dw)(d:o.isFreed=ag):aG F X (G.nD i h.objs.size o) j (h.push o)/\(∀n,Le n G<|G.nD i h.objs.size o)/\(G.nD i h.objs.size o).tm h.objs.size=I (i,o):=by
 have L:∀n,Le n G (G.nD i h.objs.size o):=λn=>R.HQ _ n (λY=>rfl) (λb c=>u c) (λY Y=>rfl) λb c=>u c;refine⟨R.grow (n:=0) ⟨λb f e Y=>di o e,λb c Y=>u λq=>c<|by exact Z q<|R.fresh (aA _),λY Y=>rfl⟩ (L 0) (λa f e=>?_) (λa p e=>?_) (λa e=>?_) (λb k e=>?_) λb k x e=>?_,L,aa U⟩;have:=R.fz a f e;refine⟨di o this.1,?_⟩;unfold Gh.nD;dsimp only;exact Z (u λq=>by rw[q,R.fresh<|aA _]at this;exact ao this.2 U)<|this.2
 unfold Gh.nD at e⊢;dsimp only at e⊢;split at e;rename_i q;subst q;obtain rfl:=aK e;exact⟨gx h d,aa U⟩;rename_i q;exact Z (u q)<|⟨di o (R.tm a p e).1,(R.tm a p e).2⟩
 unfold Gh.nD at e;dsimp only at e;split at e;rename_i q;subst q;exact dy<|gx h d
 exact qz (λY Y=>di o)<|R.lt a e
 unfold Gh.nD at e;dsimp only at e;split at e;exact ao e U;exact e;unfold Gh.nD at e;dsimp only at e;split at e;exact ao e U;exact e
structure be(F:au)(X:aU)(G:Gh)(st:K)(s:aM):Prop where
 r:aG F X G st s.heap
 g:s.gens=#[]
 o:s.os=F.os
inductive sG(G:Gh)(h:bG)(e L:bc):Prop
 |mk (oe vs):h.get? e=I oe->oe.data=.fields vs->1<vs.size->
 (vs[1]?=I .none\/∃T oT ts,vs[1]?=I (.ref T)/\G.ow T=.none/\T≠e/\h.get? T=I oT/\oT.data=.fields ts/\(ts[3]?=I .none\/ts[3]?=I (g7 L)))->sG G h e L
structure SS(T:Tab)(F:au)(X:aU)(G:Gh)(x:CV)(st:K)(v:ah)(s:aM):Prop where
 rel:be F X G st s
 exc:∃k c as,x=.cell k/\st.hp[k]?=I (.inst c as)/\(T.exc c=B/\F.fresh c=ag)/\v=.ref (G.ad<|.cell k)/\sG G s.heap (G.ad<|.cell k) (X.env.frame.getD 0)
def aC{α β:Type}(T:Tab)(F:au)(X:aU)(n:J)(c:Gh->α->β->Prop)(G:Gh)(r:R α)(Q:β->aM->Prop)(E:bp):Prop:=match r with|.C=>bA|.ok a f=>∀d b e,Le n G d->be F X d f e->c d a b->Q b e|.exc x f=>∀d v e,Le n G d->SS T F X d x f v e->E v e
def aC.ok(h:aC T F X n d G (.ok a c) Q E)(R:be F X G c s)(v:d G a b):Q b s:=h G b s (Le.refl _ _) R v
def be.tok(R:be F X G a s):be F X G a {s with toks:=tk}:=⟨R.r,R.g,R.o⟩
structure aW(X:aU)(A:bS)(d:J):Prop where
 fr:A.frames=I X.envs
 hd:A.handled=W
 dp:A.depth+3*d<=600
 un:A.units+12*d<=6000
def aW.toU(a:aW X A d):A.units<=6008:=by have:=a.un;exact g (g (cx _ _) ‹_›)<|dk U
abbrev aP(F:au)(X:aU):Gh->CV->ah->Prop:=λG c v=>VO F X.lv G c v
abbrev vI(F:au):Gh->CV->ah->Prop:=λG c v=>VR F G c v
end
section
def mn{b:V}{n:J}(c:0<=b)(h:b<n):b.natAbs<n:=by refine aJ (g8 c) λk a=>?_;subst a;exact Int.ofNat_lt.mp h
def qA{b:V}{n:J}(c:0<=b)(h:b<=n):b.natAbs<=n:=by refine aJ (g8 c) λk a=>?_;subst a;exact Int.ofNat_le.mp h
def HR{a:V}:a.toNat<=a.natAbs:=by cases a with|ofNat n=>exact aA _|negSucc n=>exact dW _
def Ci{b:J}(h:¬(b:V)>=a):b<=a.natAbs:=Int.ofNat_le.mp<|bR (jz (Int.not_le.mp h)) Ff
def yL{n:J}(h:a.natAbs<=n):-(n:V)<=a/\a<=n:=
 ⟨bR (xu<|Int.ofNat_le.mpr h)<|Int.neg_le_of_neg_le (N1 a▸Ff),bR Ff<|Int.ofNat_le.mpr h⟩
def mq{a b:J}:(max 0<|min (a:V) (b:V)).toNat=min a b:=by
 rcases xw a b with h|h
 exact Z (N2<|Int.ofNat_le.mpr h)<|Z (aiJ (dX _)) (Z (n4 h) U)
 exact Z (Int.min_eq_right<|Int.ofNat_le.mpr h)<|Z (aiJ (dX _)) (Z (uw h) U)
def yM{a b c:J}:((a:V) -(c:V) -(b:V)).toNat<=a:=Int.toNat_le.mpr<|bR (n5 _ (dX _)) (n5 _ (dX _))
def vJ(a:b<=70)(h:b=c+d)(i:e<=2*d)(j:f<=3*(e+1)):f<=423:=
 g j<|show 3*(e+1)<=3*(140+1)from d7 3 (fF (g i (show 2*d<=2*70 from d7 2 (g (bU d c) (h▸a)))))
def sH{c:J}(h:a<b)(k:b<=c):a<=c:=g (cG h) k
def lk(k:J)(h:a<=m)(e:B=decide (m+k<=n)):a+k<=n:=g (dC h k)<|dk e
def ll(a:J)(e:B=decide (k<=m)):a+k<=a+m:=dO (dk e) a
def vK{a m:J}(h:b<=(m:V)):(b -(a:V)).toNat<=m:=Int.toNat_le.mpr<|bR (n5 b (dX a)) h
def jO(h:2<=a):0<a:=cG h
def kz(h:a<700):a<2^128:=g h<|by lk
def mr(h:a<=900):a<=16777216:=g h<|by lk
def nF(h:a<=70):a<=900:=g h<|by lk
def yN:a+1<=a+2:=bM _
def qB{a:J}:¬(a:V)<0:=Int.not_lt.mpr<|dX _
def sI{a:V}(h:a.natAbs=1):a.natAbs<2^64:=br (bg h)<|dk U
def sJ{a:J}{b:V}(h:a<=1000000)(k:0<=b)(l:b<=(a:V)):(b+1).natAbs<2^64:=br (g (rt b 1)<|dC (g (qA k l) h) _)<|by lk
def sK(h:a<=16):a<2^300:=br h<|by lk
def sL(h:a<=431):a<=1000:=g h<|by lk
def sM(h:a<=900000):a+2<=1000000:=g (dC h _)<|by lk
def vL:a<a+1:=gb _
def vM(h:a<=20000):¬0+a>20000:=Nat.not_lt.mpr<|g (bg (i4 a)) h
def vP(h:a<=800000):a+3<=900000:=g (dC h _)<|by lk
def yO:¬a+1<0:=λh=>n6 _ h
def yP:¬a<0:=λh=>n6 _ h
def vQ(h:a+1<b+1):a<b:=j7 h
def yQ{b:J}(h:0<=a)(k:a<(b:V)):a.toNat<b:=(Fg h).mpr k
def yR{a:V}(h:a.natAbs<2^80):a.natAbs<2^100:=g h<|by lk
def yS{a:J}(h:(a:V)<700):a<700:=Int.ofNat_lt.mp h
def yT:a+1<a+2:=gb _
def yU:a+3+4<=a+10:=ll (k:=7) a U
def yV:a<a+2:=bM _
def yW(h:a<=1000):a<=16777216:=g h<|by lk
def yX(h:a<=800000):a<=1000000:=g h<|by lk
def yY(h:a<=900):a<=1000:=g h<|by lk
def yZ(h:a<=900000):a+1+1<=1000000:=lk 2 h U
def Cj:0+a<=a:=bg<|i4 a
def SU(h:a<99000):a<100000:=g9 h<|dk U
def Ck(h:a<=70):a+a<=900:=g (aY h h)<|by lk
def Cm(h:a<=800000):a+3<=1000000:=g (dC h _)<|by lk
def Cn(h:a+(b+1)<=1000):a<100000:=br (g (cx a _) h)<|dk U
def Co(h:a+1<b):b=b -1+1:=(n7<|cG (br (bU 1 a) h)).symm
def Cp(h:a<=100000)(k:b=a):b<=16777216:=g (bg k)<|g h (dk U)
def Cq(h:a<=70)(k:b<=2*a):b<=900:=g k<|g (d7 2 h) (dk U)
def Cr(h:a<=70)(k:b<=70):b+a<=900:=g (aY k h)<|by lk
def Cs(h:a+(b+1)<=c):a+1+b<=c:=(iL a 1 b)▸h
def Ct(h:a+(b+1)<=c):a<c:=cM (Nat.lt_add_of_pos_right<|lL b) h
def HS:∀{a:V},0<=a->0<=a:=by intros;omega
def HT:∀{a:V},a<14->a<14:=by intros;omega
def SW{a:V}(h:a.natAbs<2^128):(jA a.natAbs:V).natAbs<2^128:=g h<|by lk
def HU{a:J}(h:a<=128)(k:0<=b)(l:b<=20000):-100000000<=b -(a:V)/\b -(a:V)<=10000000:=⟨bR (dk U)<|N3 k (Int.ofNat_le.mpr h),bR (n5 _<|dX _)<|bR l (dk U)⟩
def HV:a+2<=a+3:=bM _
def HW:a+3+1<=a+10:=ll (k:=4) a U
def HX:a≠a+1:=dP<|gb a
def SX(h:a<=800000):a+1<=1000000:=br h<|by lk
def HY(h:a+1+1<b):b=b -1+1:=(n7<|cG (br (bU 1 (a+1)) h)).symm
def HZ(h:a+1<=b):b=b -1+1:=(n7<|g (fF (dW a)) h).symm
def SY(h:a+12*b<=6000):a+1+12*b<=6008:=g (bg<|iL a 1 (12*b))<|g (fF h) (dk U)
def H0(h:a+3*(b+1)<=602):a<1000:=br (g (cx a _) h)<|by lk
def S'(h:a+3*b<=600):a+1+3*b<=602:=g (bg<|iL a 1 (3*b))<|g (fF h) (dk U)
def H2{b:J}(h:a<2^63)(k:b=a):(b:V)<9223372036854775808:=AP (AQ<|bq jA k)<|lM (Int.ofNat_lt.mpr h) (dk U)
def H3(h:a<=431):min b a+a<=1000:=g (aY (g (pP b a) h) h)<|by lk
def H4{b:J}(h:a<=b)(k:(a:V)≠(b:V)):a<b:=Nat.lt_of_le_of_ne h λq=>k<|bq jA q
def Ta{a b:J}(h:¬(a:V)<(b:V)):b<=a:=Int.ofNat_le.mp<|Int.not_lt.mp h
def H5:∀{a b c:J},a+1=b -c->a=b -(c+1):=by intro a b c h;rewrite[N4];exact ax h U
def H6(h:a<=2*b):a+1<=2*(c+b+1+1):=g (aY h (dk U:1<=2*2))<|g (bg (Nat.mul_add 2 b 2).symm) (d7 2 (dC (bU b c) 2))
noncomputable def Tb:127+1<1000:=by intros;exact bU _ _
noncomputable def Tc:2<=16777216:=by intros;exact bU _ _
noncomputable def Td:2<=6:=by intros;exact bU _ _
noncomputable def Te:aiK 48271<2^64:=by intros;exact bU _ _
def Tf:¬(0:V)<0:=by intros;lk
def Tg:¬(1:V)<0:=by intros;lk
def Th:¬(63:V)<0:=by intros;lk
def Ti:∀{a:V}{b:J},a.toNat -b=(a -(b:V)).toNat:=by intro a b;cases a with|ofNat n=>exact(AR n b).symm|negSucc n=>exact(aiL b).trans (Int.toNat_of_nonpos<|bR (n5 _ (dX _)) (jz (N5 n))).symm
def Tj{c:J}(h:a.toNat<b)(k:c=b):a<(c:V):=AP (N6 a)<|Int.ofNat_lt.mpr (k▸h)
def Tk{a:V}(h:0<=a):0<=5+a:=xx (dk U) h
def Tl:∀{a:V},0<=a->a<14->a=0\/a=1\/a=2\/a=3\/a=4\/a=5\/a=6\/a=7\/a=8\/a=9\/a=10\/a=11\/a=12\/a=13:=by intro a d h;refine aJ (g8 d) λn c=>?_;subst c;exact(by decide:∀n:J,n<14->(n:V)=0\/(n:V)=1\/(n:V)=2\/(n:V)=3\/(n:V)=4\/(n:V)=5\/(n:V)=6\/(n:V)=7\/(n:V)=8\/(n:V)=9\/(n:V)=10\/(n:V)=11\/(n:V)=12\/(n:V)=13) n<|Int.ofNat_lt.mp h
def Tm{a:V}(h:0<=a)(k:a<2):a=0\/a=1:=aJ (g8 h) λn e=>(Nat.le_one_iff_eq_zero_or_eq_one.mp<|j7 (Int.ofNat_lt.mp (e▸k))).imp (λq=>e.trans<|bq jA q) λq=>e.trans<|bq jA q
def Tn:∀{a:V},0<=a->a<4->a=0\/a=1\/a=2\/a=3:=by intro a d h;refine aJ (g8 d) λn c=>?_;subst c;exact(by decide:∀n:J,n<4->(n:V)=0\/(n:V)=1\/(n:V)=2\/(n:V)=3) n<|Int.ofNat_lt.mp h
def To{a:V}(h:a<5):5+a<14:=pQ (mY h 5)<|dk U
def Tp{a:J}{b:V}(h:a<=128)(k:0<=b/\b<=20000):(b -(a:V)).toNat+a<=50000:=g (aY (g (aiM<|n5 b (dX a))<|N7 (n:=20000)|>.mpr k.2) h)<|by lk
def Tq:∀{a:J}{b c:V},a<=1000000->0<=b->b<2147483648->0<=c->c<=(a:V)->(b+15485857*(c+1)+41).natAbs<2^64:=by intro a b c e f h i j;refine aJ (g8 f) λm d=>?_;subst d;refine aJ (g8 i) λk d=>?_;subst d;exact br (show m+15485857*(k+1)+41<=2147483648+15485857*(1000000+1)+41 from dC (aY (cG<|Int.ofNat_lt.mp h)<|d7 _ (fF (g (Int.ofNat_le.mp j) e))) _)<|by lk
def Ts:(-1+(jA (a+1):V)).toNat=a:=(bq Fh<|(aiN _ _).trans (Int.add_neg_cancel_right (a:V) 1)).trans<|AS a
def Tu:∀{a:J},(max 0<|min (-1+(a:V)) (a:V)).toNat -0=a -1:=by intro a;cases a with|zero=>rfl|succ n=>exact Z (show(-1+((n+1:J):V))=(n:V)from by rw[aiO,aiN (n:V)];exact Int.neg_add_cancel_left 1 n)<|mq.trans (n4 (bM n))
def Tv:(jA (a%2):V)<(2:V):=Int.ofNat_lt.mpr<|xy a (by lk)
def H7:(jA (a+1):V) -1=(a:V):=Fj (a:V) 1
def Tw{a:J}:(a:V) -1 - -1 - -1 -1=(a:V):=by intros;lia
def Tx{a:J}(h:(a:V).natAbs>20000):a>20000:=g (bU _ _) h
def Tz:-(jA (a+1):V)<=-1:=xu<|Int.ofNat_le.mpr (fF (dW a))
def TC:a+1+1<=a+10:=ll (k:=2) a U
def TD:a+1≠0:=aiP a
def TE:a+2+1<=a+10:=ll (k:=3) a U
def TG:a+3+1+1<=a+10:=ll (k:=5) a U
def TH:a+3+3<=a+10:=ll (k:=6) a U
def TJ:a+50+4300+2<=a+5000:=ll (k:=4352) a U
def TK(h:a<1000):0+a<=1000:=g (bg<|i4 a)<|cG h
def TL(h:a<4):a=0\/a=1\/a=2\/a=3:=(by decide:∀a,a<4->a=0\/a=1\/a=2\/a=3) a h
def TM(h:a<7):a=0\/a=1\/a=2\/a=3\/a=4\/a=5\/a=6:=(by decide:∀a,a<7->a=0\/a=1\/a=2\/a=3\/a=4\/a=5\/a=6) a h
def TN(h:a<=800000):a+2<=1000000:=g (dC h _)<|by lk
def TO{a:J}(h:¬(a:V)<10001):a+a>20000:=have k:10001<=a:=Int.ofNat_le.mp<|Int.not_lt.mp h;cM (dk U) (aY k k)
def TP:∀{a:J},¬(a:V).natAbs>20000->¬a>20000:=by intros;assumption
def TQ:¬a=a+1:=dP<|gb a
def TR{b:V}(d:0<=a)(e:a<3)(c:b<=2^24/\0<b):(b+a -1).natAbs<2^64:=br (g (rt (b+a)<|-1)<|dC (g (rt b a) (aY (qA (n:=2^24) (jz c.2) c.1) (cG (mn (n:=3) d e)))) _)<|by lk
def TS{b:V}(d:0<=a)(e:a<3)(c:b<=2^24/\0<b):(b+a -1).natAbs<2^80:=br (g (rt (b+a)<|-1)<|dC (g (rt b a) (aY (qA (n:=2^24) (jz c.2) c.1) (cG (mn (n:=3) d e)))) _)<|by lk
def TU:(jA (a+b):V) -(b:V)=(a:V):=Fj (a:V) b
def TV:∀{a b:J},min (max a b -b) (a:V).toNat=a -b:=by intro a b;show min (max a b -b) a=a -b;rcases xw a b with h|h;refine Z (aiQ h) ?_;rewrite[N8];refine Z (ru h) ?_;rw[Nat.zero_min];exact Z (aiR h)<|Z (n4 (g' _ _)) U
def TW:a+(b+1)=a+1+b:=(iL a 1 b).symm
def TX(h:a+(b+1)<=1000):a+1+b<=1000:=g (bg<|iL a 1 b) h
def TY(h:a+(b+1)<=200):a+1+b<=200:=(iL a 1 b)▸h
def TZ(h:a+(b+1)<=200):a<100000:=br (g (cx a _) h)<|dk U
def Ua(h:a+(b+1)<=500):a+1+b<=500:=g (bg<|iL a 1 b) h
def Ub(h:a+(b+1)<=500):a+1<=16777216:=g (dO (fF<|dW b) a)<|g h (dk U)
def Uc:∀{b:J},a+1<b->a+1<b:=by intros;omega
def Ud(h:a+1<b):a<=b:=cG<|br (bM a) h
def Ue(h:a+12*(b+1)<=6008):a+3+12*b<=6000:=g (bg<|iL a 3 (12*b))<|aiS (b:=8) (g (bM _) h)
def Uf(h:a+3*(b+1)<=602):a+1+3*b<=600:=g (bg<|iL a 1 (3*b))<|aiS (b:=2) h
def Ug(h:a+b<=1000):a+1<=16777216:=g (fF<|g (cx a b) h)<|dk U
def Uh(h:a+b<=1000000):a<=1000000/\b<=1000000:=⟨g (cx a b) h,g (bU b a) h⟩
def Ui(h:a<2^300/\b<400):0+b<=500:=g (bg<|i4 b)<|g (cG h.2) (dk U)
def Uj:∀{a b:J},a<b->(jA (b -(a+1)):V)=(jA (b -a):V) -1:=by intro a b h;rewrite[N4];exact Z (Int.ofNat_sub<|aiT h) U
def Uk:∀{a b:J},a<b->b -a=b -(a+1)+1:=by intro a b h;refine aJ (N9 h) λd c=>?_;subst c;show a+1+d -a=_;rw[xz,kY,xz,lN]
def Ul(h:a<b):b=b -1+1:=(n7<|g (fF (dW a)) h).symm
def Um(h:a=b+2):b<a+1:=ut<|g (cx b 2) (bg h.symm)
def Uo{a b:J}(h:a<=20000)(k:b<=10):((a:V) -(b:V)).natAbs<=100000:=g (rt (a:V)<|-(b:V))<|g (aY h (g (bg (N1 (b:V))) k)) (by lk)
def Up{a b:J}(h:a<=20000)(k:b<=1000000):-100000000<=(a:V) -(b:V)/\(a:V) -(b:V)<=10000000:=⟨bR (show _<=-((1000000:J):V)from by lk)<|bR (xu (Int.ofNat_le.mpr k)) (show-(b:V)<=(a:V) -b from Int.sub_eq_add_neg▸Int.le_add_of_nonneg_left (dX a)),bR (n5 _<|dX b)<|bR (Int.ofNat_le.mpr h) (by lk)⟩
def Uq(h:a<=20000)(k:b<=1000000):a -b+b<=16777216:=g (aY (g (g' a b) h) k)<|by lk
def Ur(h:a<=20000)(k:b<=1000000):b+(a -b)<=16777216:=g (aY k<|g (g' a b) h)<|by lk
def Us(h:a<=3*b):a<=3*(b+1):=g h<|d7 3 (bM b)
def Ut(h:a<=900):a -b<1000:=br (g (g' a b) h)<|by lk
def Uu:a<=a*10+(b -48):=g (aiU a<|by lk)<|cx _ _
def Uv{b:J}:a<=b+a -b:=bg (xz b a).symm
def Cu{b:J}(h:a<=b):¬a>b:=Nat.not_lt.mpr h
def Uw{b:J}:a<=b\/b<a:=(j8 b a).symm
def Ux:∀{a b c:J},min (min a b -c) (b -c)=min (a -c) (b -c):=by intro a b c;rw[<-Nat.sub_min_sub_right,aiV,aiW]
def Uy:a+(b+1) -(c+1)=a+b -c:=Nat.add_sub_add_right (a+b) 1 c
def Uz(h:a+(b+1)<=1000)(k:c<=b):a+1+c<=1000:=g (dO k<|a+1)<|g (bg (iL a 1 b)) h
def UA:∀{c:J},a+(b+c)>20000->a+(b+c)>20000:=by intros;omega
def UB(h:a+(b+c)<=1000000):a<=1000000/\b<=1000000/\c<=1000000:=⟨g (cx a _) h,g (g (cx b c)<|bU _ a) h,g (g (bU c b)<|bU _ a) h⟩
def UC(h:a+(b+c)<=20):a+b<=16777216:=g (dO (cx b c) a)<|g h (by lk)
def UD:∀{a b c:J},a+1+b+c -a=b+c+1:=by intro a b c;rw[kY,kY,xz,lN 1]
def UE(h:a+1=b -c):c<b:=Nat.lt_of_sub_pos<|h▸lL a
def UF(h:a+b<100000)(k:c=a):c<=16777216:=g (bg k)<|g (cx a b) (g (cG h) (dk U))
def UG(h:a+b=c):a+(b+1) -(c+1)=0:=by rewrite[<-kY];exact Z h<|N8 _
def UH{c:J}(h:a+b=c):a<=c:=g (cx a b)<|bg h
def UI(h:a+b>20000):a+(b+c)>20000:=cM h<|dO (cx b c) a
def UJ(h:a -b=c)(k:a<=c):b=0\/c=0:=(N' b).imp id λq=>(N' a).elim (λz=>by refine ax h<|Z z ?_;rw[aiL]) λz=>aF (cM (Nat.sub_lt z q) k)<|h▸n8 _
def UK(h:a<b):c*b+a+1<=c*b+b:=dO h<|c*b
def UL(h:a<=2*b):a+1+1<=2*(c+b+1):=g (dC h 2)<|d7 2 (fF (bU b c))
def UM{a b c:J}(h:a<=20000)(k:b<=50000)(l:c<=10):-100000000<=(a:V) -(c:V) -(b:V)/\(a:V) -(c:V) -(b:V)<=10000000:=⟨bR (dk U)<|N3 (N3 (dX a) (Int.ofNat_le.mpr l)) (Int.ofNat_le.mpr k),bR (n5 _<|dX _)<|bR (n5 _ (dX _)) (bR (Int.ofNat_le.mpr h) (dk U))⟩
def UN(h:a<=900)(k:a=b+c):c<=900:=g (g (bU c b)<|bg k.symm) h
def UO:a<=a+1+b+c:=g (cx a 1)<|g (cx _ b) (cx _ c)
def UP(h:a<=b+c):a+1<=b+1+c:=g (fF h)<|bg (iL b 1 c).symm
def UQ{c:J}(h:a<=b):a<=b+c:=g h<|cx b c
def US:∀{a b c:J},a<=b->b<=a+c->a+(c -(c+a -b))=b:=by intro a b c h k;refine aJ (N9 h) λd e=>?_;subst e;refine Z (lN c a) ?_;rewrite[aiX];exact Z (aiY<|Nat.le_of_add_le_add_left k) U
def UT:∀{a b c:J},a<=b->c -(b -a)=a+c -b:=by intro a b c h;refine aJ (N9 h) λd e=>?_;subst e;rw[xz,aiX]
def UU{c:J}(h:a<=b)(k:c<=b -a):a+c<=b:=lN c a▸Nat.add_le_of_le_sub h k
def UV:∀{c:J},¬a+(b+c)>20000->¬a+(b+c)>20000:=by intros;omega
def UW(h:a+1000000*(b+1)<=c)(k:d<=1000000):a+d+1000000*b<=c:=g (show a+d+1000000*b<=a+(1000000*b+1000000)from(kY a d _).symm▸dO ((lN d _)▸dO k _) a) h
def UX:∀{d:J},a=b+(c+1)->d+1+a=d+(b+(0+1)+1)+c:=by intros;lia
def UY(h:a<=600)(k:a=b+(c+d+1+1)):c+1+1<=1000:=g (g (dC (cx c d) 2)<|bU _ b)<|g (bg k.symm) (g h (dk U))
def UZ(h:a<=600)(k:a=b+(c+d+1+1)):c+1<=1000:=g (g (fF<|g (cx c d) (bM _))<|g (bU _ b) (k▸h))<|by lk
def U0(h:a<=600)(k:a=b+(c+d+1)):c<=600:=g (g (cx c<|d+1)<|g (bU _ b) (bg k.symm)) h
def U1(h:a<=70)(k:a=b+c)(l:d<=2*c):d+1<=1000:=g (fF<|g l (d7 2 (g (g (bU c b) (bg k.symm)) h)))<|dk U
def U2(h:a<=b)(_:c<=b/d)(l:b/d<a):¬b=0:=λq=>n6 _<|cM l (g h (bg q))
def U3{c d e:J}(h:a=b+c):(d:V)+1+(a:V) -(c:V)+(e:V)=(jA (d+1+b+e):V):=by subst h;show(d:V)+1+((b:V)+(c:V)) -c+e=(d:V)+1+b+e;rw[<-Int.add_assoc,Fj]
def U4:∀{a b c d e f:J},a<=600->a=b+(c+d+1)->c=e+(f+1)->f<=1000:=by intro a b c d e f h k l;subst l;exact g (g (bM f)<|g (bU _ e) (g (cx _ (d+1)) (g (bU _ b) (bg k.symm))))<|g h (by lk)
def U5(h:a<=70)(i:a=b+c)(j:d<=2*c)(k:e<=3*(d+1)):f+10*(0+e)<=f+4300:=dO (g (d7 10<|dO (vJ h i j k) 0)<|by lk) f
def mu{α:Type}{c:Prop}[nY c]{a b:α}{P:α->Prop}(x:P a)(y:P b):P (if c then a else b):=by by_cases q:c;exact Z (aa q) x;exact Z (u q) y
def U6{n:V}{c:J}(a:c<=1000000)(d:0<=n)(e:n<=c)(h:0<=x)(k:x<2147483647):(x*48271+7883*(n+1)).natAbs<2^64:=
 br (qA (n:=2147483647*48271+7883*1000001) (xx (aiZ h<|by lk)<|aiZ (by lk) (xx d (by lk)))<|Int.add_le_add (Int.mul_le_mul_of_nonneg_right (jz k) (by lk)) (Int.mul_le_mul_of_nonneg_left (Fk (bR e (Int.ofNat_le.mpr a)) 1) (by lk)))<|by lk
end
section
open PySem PySem.SeqAt
def U7(n:J)(a:js J):(iJ n a).foldl (·++·) #[]=(iJ n a.toList).flatten.toArray:=by
 have:∀(l:D (js J))(z:js J),l.foldl (·++·) z=z++(l.map Array.toList).flatten.toArray:=by intro l;induction l with|nil=>intro z;simp|cons x l e=>intro z;rw[eM,e];apply Array.ext';simp
 rw[this];simp
def VO.int_inv(x:VO F i G (.int k) v):∃t,v=.int k t:=by obtain⟨t,h⟩:=x.out;exact⟨t,h⟩
def VO.str_inv(x:VO F i G (.str k) v):∃t,v=.str k t:=by obtain⟨t,h⟩:=x.out;exact⟨t,h⟩
def VO.none_inv(x:VO F i G .none v):v=.none:=x.out
def VO.lst_inv(x:VO F i G (.lst e) v):∃a d n,v=.ref a/\G.fz a=I (bO d n)/\bn F G e d:=by refine aL λf=>?_;obtain⟨a,d,n,h,b,c⟩:=x.out;exact f<|⟨a,d,n,h,b,c⟩
def VO.H8(x:VO F i G (.tup j) v):∃a o f n,v=.ref a/\G.fz a=I o/\o.cls=.type "tuple"/\o.data=.seq f.toArray n/\bn F G j f:=by refine aL λk=>?_;obtain⟨a,o,f,n,h,b,c,d,e⟩:=x.out;exact k<|⟨a,o,f,n,h,b,c,d,e⟩
def aC.some{p:Prop}(h:aC T F X n d G (qd o c) Q E)(a:cL o P)
 (k:∀b,P b->aC T F X n d G (.ok b c) Q E->p):p:=by
 induction o with|none=>exact h.elim|some b=>exact k b a h
def aC.opt{p:Prop}(h:aC T F X n a G (aS o m) Q E)(k:∀x,o=I x->aC T F X n a G (m x) Q E->p):p:=by induction o using bL with|some x=>exact k x U h|none=>exact h.elim
def aC.ite[nY c]{p:Prop}(h:aC T F X n a G (if c then m else .C) Q E)(k:c->aC T F X n a G m Q E->p):p:=by by_cases q:c;rw[aa q]at h;exact k q h;rw[u q]at h;exact h.elim
def aC.y0[nY c]{p:Prop}(h:aC T F X n a G (if c then .C else m) Q E)(k:¬c->aC T F X n a G m Q E->p):p:=by by_cases q:c;rw[aa q]at h;exact h.elim;rw[u q]at h;exact k q h
def Cv{P:ah->ah->α->Prop}(a:dH F G e h)(b:dH F G m n)(d:∀v w,P v w z)(k:∀i t j c,P (.int i t) (.int j c)<|f i j):P h n (nt z f e m):=by
 induction a with
 |int i t=>induction b with
  |int j c=>exact k i t j c|_=>exact d _ _
 |_=>exact d _ _
def sN(R:be F X G a s)(h:aC T F X n (aP F X) G (eg x a) Q E):x.length<=eJ/\Q (.str x t) {s with toks:=tk}:=by unfold eg at h;split at h;rename_i c;exact⟨c,h.ok R.tok<|.r (.str _ _)⟩;exact h.elim
def H9(R:be F X G d s)(h:aC T F X n (aP F X) G (eg (a++b) d) Q E):
 (if a.length==0 then ai0 (.str b c)else if b.length==0 then ai0 (.str a t)else Made.str (a++b)).post Q s:=by
 cases q:a.length==0 with
 |true=>have:=(sN (t:=c) (tk:=s.toks) R h).2;exact(ai1 q)▸this
 |false=>
  cases q:b.length==0 with
  |true=>have:=(sN (t:=t) (tk:=s.toks) R h).2;exact(Oa q)▸this
  |false=>exact sN R h
noncomputable def Ia(x:V):Fl x<=x.natAbs.log2+1:=by
 unfold Fl;by_cases q:(x==0)=B;exact Z (aa q)<|dW _
 exact Z (u q)<|aA _
def U8(h:qh a b=B):IntMulOk a b:=λq=>aF (jx (Bool.and_eq_true_iff.mp q).2)<|Int.not_lt.mpr (Int.ofNat_le.mpr (g (aY (Ia a) (Ia b)) (g (bg (Nat.add_add_add_comm ..)) (cG (jx h)))))
def U9(R:be F X G y s)(z:-100000000<=k/\k<=10000000/\x.length<=1)(h:aC T F X n (aP F X) G (eg (jd k x) y) Q E):am F.md A (xA .Mult (.str x t)<|.int k a) Q E s:=by
 have e:jd k x=⟨(iJ k.toNat x.cps).foldl (·++·) #[]⟩:=by unfold jd;rw[U7]
 have i:∀r v,Q (.str (jd k x) r) {s with toks:=v}:=λr v=>(sN R h).2;clear h R;obtain⟨b,j,d⟩:=z;have m:x.length*k.toNat<=1*k.toNat:=xB _ d;have o:k.toNat*x.cps.size<=k.toNat*1:=d7 _ d;refine P.mul_str ?_ (λw l=>?_) (λw Y=>?_) ?_;exact Z (dx<|by clear m o d;exact Int.not_lt.mpr (bR (dk U) b))<|Z (dx (by clear m o d;exact Int.not_le.mpr (AP j (dk U)))) U
 have:(1:V)<=(2^63 -1)/k:=Int.le_ediv_of_mul_le (lM (dk U)<|Int.not_lt.mp w)<|bR (AQ (ai2 _)) (bR j (dk U))
 exact Int.not_lt.mpr<|bR (Int.ofNat_le.mpr d) this
 unfold amr;exact dx<|Z dY (Nat.not_lt.mpr (g m (g (d7 1 (N7 (n:=10000000)|>.mpr j)) (by lk))))
 refine ax e ?_;by_cases q:k<1;refine Z (aa q) ?_;have p:jd k x=Str.empty:=by unfold jd;exact Z (show k.toNat=0 by exact Int.toNat_eq_zero.mpr<|Int.lt_add_one_iff.mp (show _<0+1 from q)) U
 rw[p]at i;exact⟨dk U,i _ _⟩;refine Z (u q) ?_;cases f:(k==1||x.length==0)with
 |true=>
  have p:jd k x=x:=by
   unfold jd;rcases Bool.or_eq_true_iff.mp f with f|f
   refine Z (show k.toNat=1 from bq Fh<|eq_of_beq f) ?_;simp;have:x.cps=#[]:=NY<|eq_of_beq f
   obtain⟨c⟩:=x;dsimp only at this;subst this;simp
  have:=i t s.toks;exact p▸this
 |false=>
  refine⟨?_,i _ _⟩;show(jd k x).cps.size<=eJ;unfold jd;have:(iJ k.toNat x.cps.toList).flatten.length=k.toNat*x.cps.size:=by simp
  simp only [mZ,this];exact Z dY<|g o (g (bg (Nat.mul_one _)) (g (Int.toNat_le.mpr j) (by lk)))
set_option tactic.hygienic true in
def U'{k:ah}(R:be F X G p s)(a:dH F G q v)(b:dH F G w k)(h:aC T F X n (aP F X) G (GN q w p) Q E):am F.md A (xA .Add v k) Q E s:=by
 induction a with
 |int i t=>induction b with
  |int j c=>exact P.add_int<|aC.ok h R.tok (.r (.int _ _))
  |_=>exact h.elim
 |str x t=>induction b with
  |str y c=>exact P.add_str<|H9 R h
  |_=>exact h.elim
 |lst z m=>induction b with
  |@lst _ _ d _ l o=>rename_i x a e _ y _ _;refine aC.ite h λY h=>aL λS=>cB (R.r.nE (bO (e++d) 0) U) λL f M=>S ?_;exact P.add_list (R.r.fz _ _ z).1 (R.r.fz _ _ l).1 (Z (show({cls:=.type "list",data:=.seq<|e.toArray++d.toArray}:dw)=bO (e++d) 0 by simp[bO])<|h _ _ _ (f _) ⟨L,R.g,R.o⟩ (.r (.lst M ((m.mono (f 0)).append (o.mono (f 0))))))<|Z mZ (Z mZ (Z m.length (Z o.length (g Y (dk U)))))
  |_=>exact h.elim
 |_=>exact h.elim
def Va{e:ah}(R:be F X G f s)(a:dH F G k e)(b:dH F G m o)(h:aC T F X n (aP F X) G (GO k m f) Q E):am F.md A (xA .Mult e o) Q E s:=by
 induction a with
 |int i t=>induction b with
  |int j c=>exact aC.ite h λd h=>P.mul_int (h.ok R.tok<|.r (.int _ _))<|U8 d
  |_=>exact h.elim
 |str x t=>induction b with
  |int j c=>exact aC.ite h λd h=>U9 R d h|_=>exact h.elim
 |_=>exact h.elim
def Vb{o:ah}(R:be F X G v s)(a:dH F G w q)(b:dH F G x o)
 (h:aC T F X n (aP F X) G (GP p w x v) Q E):am F.md A (xA p q o) Q E s:=by
 have c:=λp f k=>Cv (z:=C) (P:=λq o m=>aC T F X n (aP F X) G (m v) Q E->am F.md A (xA p q o) Q E s) (f:=f) a b (λY Y h=>h.elim) k;induction p with|Add=>exact U' R a b h|Sub=>exact c .Sub _ (λi t j d h=>P.sub_int<|h.ok R.tok (.r (.int _ _))) h|Mult=>exact Va R a b h|Mod=>exact c .Mod _ (λi t j d h=>aC.y0 h λe h=>ams e<|h.ok R.tok (.r (.int _ _))) h|FloorDiv=>exact c .FloorDiv _ (λi t j d h=>aC.ite h λe h=>amt e.1 (h.ok R.tok<|.r (.int _ _))<|.inl (PyProof.noPylong_of_log2 e.2)) h|Pow=>exact c .Pow _ (λi t j d h=>aC.ite h λe h=>amu e.1 e.2.1 e.2.2<|h.ok R.tok (.r (.int _ _))) h|_=>exact h.elim
def Vc(R:be F X G c s)(a:VO F X.lv G d e)(b:VO F X.lv G f i)
 (h:aC T F X n (aP F X) G (ej j d f c) Q E):am F.md A (xA j e i) Q E s:=Vb R a.knd b.knd h
def Vd(R:be F X G d s)(a:dH F G e f)(b:dH F G k m)(h:aC T F X n (aP F X) G (GQ e k d) Q E):am F.md A (Fn .Add f m) Q E s:=by
 induction a with
 |int i t=>induction b with
  |int j c=>exact P.iadd_int<|aC.ok h R.tok (.r (.int _ _))
  |_=>exact h.elim
 |str x t=>induction b with
  |str y c=>exact P.iadd_str<|H9 R h
  |_=>exact h.elim
 |_=>exact h.elim
def Ve{n:J}(R:be F X G f s)(a:dH F G o d)(b:dH F G p e)
 (h:aC T F X n (aP F X) G (GR k o p f) Q E):am F.md A (Fn k d e) Q E s:=by
 induction k with|Add=>exact Vd R a b h|Sub=>exact Cv (z:=C) (P:=λd e m=>aC T F X n (aP F X) G (m f) Q E->am F.md A (Fn .Sub d e) Q E s) a b (λY Y h=>h.elim) (λi t j c h=>P.isub_int<|h.ok R.tok (.r (.int _ _))) h|_=>exact h.elim
def Vf(a:dH F G j v):cL (GL j) λb=>∀d:bf->aM->Prop,(∀k,d b {s with toks:=k})->am F.md A (rx v) d E s:=by
 induction a with
 |none=>exactλd c=>amv<|c _
 |bool b=>exactλd c=>wpAny_truthy_bool<|c _
 |int i t=>exactλd c=>P.truthy_int<|c _
 |str x t=>
  refine cL.ite λf d c=>P.truthy_str (by rw[dY]at f;exact Int.not_le.mpr<|AP (Int.ofNat_le.mpr f) (dk U)) ?_;have:((x.length:V) !=0)=(x.length !=0):=by
   generalize n:ai3 x=e;induction e using AM with
   |zero=>rfl|succ m=>simp;exactλh=>aiP _<|lO h
  exact Z this<|c _
 |lst=>trivial|eQ=>trivial
def Ib(R:be F X G st s)(a:VO F X.lv G c v)
 (h:aC T F X n (λY(p q:bf)=>p=q) G (bx c st) d E):am F.md A (rx v) d E s:=
 aC.some (d:=λY(p q:bf)=>p=q) (o:=oG st c) h (Vf a.knd) λb k h=>k d λe=>aC.ok (d:=λY(p q:bf)=>p=q) h R.tok U
def Vg(R:be F X G c s)(a:dH F G d v)(h:aC T F X n (aP F X) G (GS d c) Q E):am F.md A (unaryOp .USub v) Q E s:=by
 induction a with
 |int i t=>exact ai4<|aC.ok h R.tok (.r (.int _ _))
 |_=>exact h.elim
def Vh(R:be F X G d s)(a:VO F X.lv G c v)(h:aC T F X n (aP F X) G (nu e c d) Q E):am F.md A (unaryOp e v) Q E s:=by
 induction e with
 |Not=>
  refine not_value<|Ib (T:=T) (st:=d) (n:=n) R a ?_
  unfold nu at h;unfold bx qd;dsimp only at h⊢;generalize oG d c=o at h⊢;induction o with|none=>exact h|some b=>exactλi j k L f q=>q▸h _ _ _ L f (.r<|.bool _)
 |USub=>exact Vg R a.knd h|_=>exact h.elim
def bn.strsOf{xs:D CV}{vs:D ah}(x:bn F G xs vs):cL (Internal.kj xs) (AT vs):=by
 induction xs generalizing vs with
 |nil=>exact Z (show vs=[]from x.out)<|.nil
 |cons c xs ih=>
  obtain⟨v,vs,rfl,p,q⟩:=x.out;have k:=(p.out 0);have iq:=ih q;clear q p ih x;induction c using CV.casesOn with
  |str y=>obtain⟨t,rfl⟩:=k;exact cL.map<|iq.imp λa h=>.cons y t h
  |_=>trivial
def Ic(x:AT c a):c.length=a.length/\∀j(d:j<c.length)(e:j<a.length),∃t,c[j]=.str a[j] t:=by
 induction x with
 |nil=>exact⟨U,λj h=>aF h<|n6 j⟩|cons y t x f=>
  refine⟨by simp[f.1],λj=>?_⟩;induction j with
  |zero=>exactλY Y=>⟨t,U⟩|succ j=>exactλd e=>f.2 j (ux d)<|ux e
def gn{h:bG}(e:h.get? a=I (bO c n)):h.IsList a c.toArray:=⟨_,e,U,n,U⟩
def alw{b:D H}(h:a.length=b.length):(pL a.length).all (λj=>a[j]?==b[j]?)=(a==b):=by
 refine nq ai5 ?_;rewrite[Fo];refine nq Ob ?_;constructor;refineλe=>ai6 λj=>?_;by_cases d:j<a.length;exact eq_of_beq<|e j (List.mem_range.mpr d)
 exact Z (pR<|iM ‹_›)<|Z (pR (g (bg h.symm) (Nat.not_lt.mp d))) U
 rintro rfl j _;simp
def Ie(s:aM)(A:bS)(a b:ah)(r:bf):Prop:=RcAt A s a b r/\RcNeAt A s a b (!r)
def Vi{s:aM}(p:s.heap.get? a=I (bO h n))(r:s.heap.get? b=I (bO i m))(T:AT h x)(X:AT i y)
 (v:A.units<cLine):Ie s A (.ref a) (.ref b) (x==y):=by
 refine aI (Ic T) λw Y=>aI (Ic X) λk S=>?_;by_cases o:x.length=y.length;have E:∀j(F:j<h.toArray.size)(G:j<i.toArray.size),Oc A.in1 s h.toArray[j] i.toArray[j] (x[j]?==y[j]?):=λj F G=>by
  have z:j<h.length:=by simpa using F
  have d:j<i.length:=by simpa using G
  refine aJ (Y j z<|cM d (bg (k.trans o.symm))) λt L=>aJ (S j d<|cM d (bg k)) λc M=>?_;rewrite[ai7,ai7];exact Z L<|Z M (Z (kZ (cM d (bg (k.trans o.symm)))) (Z (kZ (cM d (bg k))) (amw _ _ _ _)))
 have f:h.toArray.size=i.toArray.size:=by simp;exact w.trans<|o.trans k.symm
 have l:(pL h.toArray.size).all (λj=>x[j]?==y[j]?)=(x==y):=Z mZ<|Z w (alw o)
 have P:=amx (gn p) (gn r) f v E;have Q:=amy (gn p) (gn r) f v E;rw[l]at P Q;exact⟨P,Q⟩;have f:(h.toArray.size !=i.toArray.size)=true:=by simp;exactλq=>o<|w.symm.trans (q.trans k)
 have l:(x==y)=false:=by exact nq Fp λe=>o (Z e U)
 exact Z l<|⟨amz (gn p) (gn r) f v,amA (gn p) (gn r) f v⟩
def Ig(R:be F X G o s)(c:A.units<cLine)(a:dH F G d e)(b:dH F G f h):cL (GU d f) (Ie s A e h):=by
 induction a with
 |none=>induction b with
  |none=>exact⟨.none_none,.none_none⟩|int=>exact⟨.none_int _ _,.none_int _ _⟩|str=>exact⟨.none_str _ _,.none_str _ _⟩|_=>trivial
 |int=>induction b with
  |none=>exact⟨.int_none _ _,.int_none _ _⟩|int=>exact⟨.int_int _ _ _ _,.int_int _ _ _ _⟩|str=>exact⟨.int_str _ _ _ _,.int_str _ _ _ _⟩|_=>trivial
 |str=>induction b with
  |none=>exact⟨.str_none _ _,.str_none _ _⟩|int=>exact⟨.str_int _ _ _ _,.str_int _ _ _ _⟩|str=>exact⟨.str_str _ _ _ _,.str_str _ _ _ _⟩|lst z=>exact⟨.str_list _ _ (gn (R.r.fz _ _ z).1) c,.str_list _ _ (gn (R.r.fz _ _ z).1) c⟩|_=>trivial
 |lst z i=>induction b with
  |str=>exact⟨.list_str _ _ (gn (R.r.fz _ _ z).1) c,.list_str _ _ (gn (R.r.fz _ _ z).1) c⟩|lst j k=>exact cL.bind<|i.strsOf.imp λx m=>cL.map (k.strsOf.imp λy n=>Vi (R.r.fz _ _ z).1 (R.r.fz _ _ j).1 m n c)
  |_=>trivial
 |_=>trivial
def Ih(a:aW X A d):A.units<cLine:=br (g (cx _ _) a.un)<|by lk
noncomputable def y3:ah->ah->bf
 |.int a _,.int b _=>a==b|.str a _,.str b _=>a==b|_,_=>ag
def Vj(x:dH F G c v)(y:dH F G d w):cL (GW c d) λr=>y3 v w=r/\Oc A s v w r:=by
 induction x with
 |int=>induction y with
  |int=>exact⟨U,.int_int _ _ _ _⟩|str=>exact⟨U,.int_str _ _ _ _⟩|_=>trivial
 |str=>induction y with
  |int=>exact⟨U,.str_int _ _ _ _⟩|str=>exact⟨U,.str_str _ _ _ _⟩|_=>trivial
 |_=>trivial
def Vk{ca:CV}{va:ah}{xs:D CV}{vs:D ah}{i:J}(a:VO F i G ca va)(x:bn F G xs vs):
 cL (BG ca xs) λr=>(∀y∈vs,Oc A s y va<|y3 y va)/\vs.any (y3 · va)=r:=by
 induction xs generalizing vs with
 |nil=>exact Z (show vs=[]from x.out)<|⟨λy h=>(nomatch h),U⟩
 |cons c xs ih=>
  obtain⟨v,vs,rfl,p,q⟩:=x.out;have iq:=ih q;refine cL.bind<|(Vj (A:=A) (s:=s) (VO.r (i:=0) p).knd a.knd).imp λr1 g=>cL.map (iq.imp λr2 k=>⟨λy hy=>?_,by exact Z AU (Z k.2 (Z g.1 U))⟩)
  clear iq q p ih x a;rcases List.mem_cons.mp hy with rfl|hy
  exact Z g.1<|g.2
  exact k.1 y hy
def vR{h:bG}{c:D ah}(e:h.get? a=I o)(d:o.cls=.type "tuple")(f:o.data=.seq c.toArray n):h.IsTuple a c.toArray:=⟨o,e,d,n,f⟩
inductive mw(F:au)(G:Gh):al CV->al ah->Prop
 |none:mw F G W W|some {c v}:VR F G c v->mw F G (I c) (I v)
def oY{κ:Type}[mX κ](F:au)(G:Gh)(d:κ->CV)(P:D (CV×CV)->D (κ×ah)->Prop):Prop:=
 (∀y x,sf (d y) (d x)=I (decide (y=x)))/\(∀l,P [] l->l=[])/\∀k c e l,P ((k,c)::e) l->∃y v a,k=d y/\l=(y,v)::a/\VR F G c v/\P e a
def cP.key:oY F G .str (cP F G):=⟨λY Y=>rfl,λY x=>x.out,λk c f l x=>let⟨y,v,e,a,b,c,d⟩:=x.out;⟨y,v,e,a,b,c,d⟩⟩
def dZ.key:oY F G .int (dZ F G):=⟨λY Y=>rfl,λY x=>x,λk c f l x=>let⟨y,v,e,a,b,c,d⟩:=x.out;⟨y,v,e,a,b,c,d⟩⟩
def oY.find[mX κ](a:oY F G f P){x:κ}(R:P c d)(h:bi c (f x)=I r):mw F G r (ry d x):=by
 induction c generalizing d r with
 |nil=>obtain rfl:=a.2.1 _ R;obtain rfl:=aK h;exact .none
 |cons e c i=>
  refine oA (a.2.2 e.1 e.2 c _ R) λy v l j m n k=>?_;replace h:=(yn (v:=e.2) (r:=c) (x:=f x)<|j▸a.1 y x).symm.trans h;clear j R;subst m;unfold ry;refine Z List.find?_cons ?_;by_cases q:y=x;clear k i;refine Z (i5 q) ?_;rw[i5 q]at h;exact av (Option.map_eq_some_iff.mp h) λz Y e=>ax e<|.some n
  refine Z (dx q) ?_;rw[dx q]at h;exact i k h
def cP.find{r:al CV}(R:cP F G c a)(h:bi c (.str x)=I r):mw F G r (ry a x):=cP.key.find R h
def dZ.find{r:al CV}(R:dZ F G c a)(h:bi c (.int x)=I r):mw F G r (ry a x):=dZ.key.find R h
def cP.Vm(R:cP F G c a)(h:bi c (.int x)=I r):c=[]/\a=[]:=by
 induction R using cP.casesOn with
 |nil=>exact⟨U,U⟩|cons=>exact aD<|(yo U).symm.trans h
def dZ.Vn(R:dZ F G c a)(h:bi c (.str x)=I r):c=[]/\a=[]:=by
 induction c with
 |nil=>exact⟨U,R⟩|cons e=>obtain⟨e,_⟩:=e;obtain⟨y,_,_,f,_⟩:=R;obtain rfl:e=_:=f;exact aD<|(yo U).symm.trans h
def Vo[mX a]{c:Od e w a}(p:Pairs c d []):d=[]:=by cases d with|nil=>rfl|cons=>nomatch p
def Cw[mX c][mX i]{f:Od j w c}{d:Od j w i}{h:bG}(x:h.DictOf f a []):h.DictOf d a []:=by refine u9 x λo k m n p q r s t=>?_;clear t r;obtain⟨l⟩:=k;obtain rfl:l=[]:=Vo s;exact⟨o,_,m,n,p,q,λe v=>aF (List.mem_toArray.mp v) rz,.nil,uy⟩
def sO{es:D (CV×CV)}{a:bc}{h:bG}{x:H}{r:al CV}(c:fu F G a es h)(e:bi es (.str x)=I r):
 ∃cY,h.DictOf (xt F.pg F.w) a cY/\cP F G es cY:=by
 induction c with
 |s d k=>exact⟨_,d,k⟩|i d k=>refine aI (k.Vn e) λcy vT=>?_;subst cy;subst vT;exact⟨[],Cw d,.nil⟩|t=>exact aD<|(yo U).symm.trans e
def sP{a:bc}{h:bG}{x:V}(c:fu F G a n h)(e:bi n (.int x)=I r):
 ∃f,h.DictOf (AN F.pg F.w) a f/\dZ F G n f:=by
 induction c with
 |i d k=>exact⟨_,d,k⟩|s d k=>refine aI (k.Vm e) λj m=>?_;subst j;subst m;exact⟨[],Cw d,.nil⟩|t=>exact aD<|(yo U).symm.trans e
def aG.slot(R:aG F X G st h){x:H}{sv:SV}(e:ay st.loc x=I sv)(hv:∀c,sv≠.v c)(hu:sv≠.un):∃v,cQ F G h (.var X.lv x) sv v:=by
 have T:=R.top;rcases T.own x sv e with⟨c,q⟩|q|q|q
 exact aF q<|hv c
 exact aF q hu;clear hv;obtain⟨m,_,hk⟩:=T.ns;have r:=hk x q sv e;generalize m x=o at r;clear hk q e;induction r with|un=>exact aF U hu|s r=>exact⟨_,r⟩
 clear hv;obtain⟨c,o,_,_,_,r'⟩:=T.ce x q;have r:=r' sv e;clear r';clear q e;induction r with|un=>exact aF U hu|s r=>exact⟨_,r⟩
def dJ.get(x:dJ F G h k f i)(e:ay f y=I m):∃v,cQ F G h (.attr k y) m v:=by
 induction f generalizing i with
 |nil=>exact aD e|cons a f n=>refine aL λj=>?_;obtain⟨d,i,t,o,z,p,q,r,c⟩:=x.out;by_cases w:a.1=y;refine j ?_;rw[l7 w]at e;obtain rfl:=aK e;subst w;exact⟨_,r⟩;rw[jI w]at e;exact j<|n c e
def aG.attr(R:aG F X G a h)(e:ea a.hp k y=I d):∃v,cQ F G h (.attr k y) d v:=by
 replace e:(match a.hp[k]? with
  |some (.inst c f)=>ay f y|_=>W)=I d:=e
 generalize q:a.hp[k]?=o at e;induction o using bL with
 |none=>exact aD e
 |some i=>induction i using aQ.casesOn with
  |e9=>exact aD e|inst c f=>
   refine aL λj=>?_;rcases(R.cells k _ q).out with z|z
   obtain⟨_,_,_,_,_,_,_,_,_,_,_,_,b,_⟩:=z;exact j<|b.get e
   obtain⟨_,_,z,_⟩:=z;subst z;exact aD e
def cQ.Cy{v:ah}(r:cQ F G h a (.od c) v):G.ow (G.ad a)=a/\fu F G (G.ad a) c h:=r.out.2
def cQ.Cz{v:ah}(r:cQ F G h a (.ol c) v):G.ow (G.ad a)=a/\iy F G (G.ad a) c h:=r.out.2
def fV.Ii(r:fV F G h k (.e9 a)):G.ow (G.ad<|.cell k)=.cell k/\iy F G (G.ad<|.cell k) a h:=r.out
def Ij(e:l8 o=I a):o=I (.od a):=by
 induction o with
 |none=>exact aD e
 |some v=>induction v with
  |od x=>exact Z (aK e) U|_=>exact aD e
def CA(e:qg o=I a):o=I (.ol a):=by
 induction o with
 |none=>exact aD e
 |some v=>induction v with
  |ol x=>exact Z (aK e) U|_=>exact aD e
def Vp(e:se o=I c):o=I (.e9 c):=by
 induction o with
 |none=>exact aD e
 |some v=>induction v with
  |e9 x=>exact Z (aK e) U|_=>exact aD e
def nG(R:aG F X G n h)(x:VO F X.lv G c v)(e:eP n c=I m):∃a,v=.ref a/\a≠g6/\fu F G a m h:=by
 have k:=x.out;have j:∀{d v},cQ F G h d (.od m) v->d≠.fz->G.ad d≠g6/\fu F G (G.ad d) m h:=λr p=>by clear k e x;exact aI r.Cy λa b=>⟨λq=>p<|by rw[q,R.Ch]at a;exact a.symm,b⟩
 clear x;induction c using CV.casesOn with
 |dA t=>clear j;obtain⟨a,o,w,rfl,z,f,i,k⟩:=k;exact ax (aK e)<|⟨_,U,z,.s (Heap.dictOf_iff.mpr ⟨_,(R.fz _ _ f).1,i⟩) k⟩
 |bY y=>exact aJ (R.slot (Ij e) (λc q=>cO SV.ctorIdx q U) λq=>cO SV.ctorIdx q U) λl r=>⟨_,k,j r (ao · rfl)⟩
 |c6 i y=>exact aJ (R.attr<|Ij e) λl r=>⟨_,k.1,j r (ao · rfl)⟩
 |_=>exact aD e
inductive my(h:bG)(a:bc)(vs:D ah):Prop
 |l:h.IsList a vs.toArray->my h a vs|t:h.IsTuple a vs.toArray->my h a vs
def qC(R:aG F X G A h)(x:VO F X.lv G c v)(e:c4 A c=I s):∃a j,v=.ref a/\bn F G s j/\my h a j/\((∀E,c≠.tup E)->h.IsList a j.toArray):=by
 have k:=x.out;have lst:∀{a}{q:Prop},v=.ref a->iy F G a s h->∃a j,v=.ref a/\bn F G s j/\my h a j/\(q->h.IsList a j.toArray):=λ{a}Y e q=>by clear k x;obtain⟨j,n,b,P⟩:=q;exact⟨a,j,e,P,.l<|gn b,λY=>gn b⟩
 clear x;induction c using CV.casesOn with
 |lst m=>clear lst;obtain⟨a,j,n,p,d,f⟩:=k;exact ax (aK e)<|⟨a,j,p,f,.l (gn (R.fz _ _ d).1),λY=>gn (R.fz _ _ d).1⟩
 |arg m=>clear lst;obtain⟨a,o,j,n,p,d,w,z,f⟩:=k;have l:h.IsList a j.toArray:=⟨o,(R.fz _ _ d).1,w,_,z⟩;exact ax (aK e)<|⟨a,j,p,f,.l l,λY=>l⟩
 |tup m=>clear lst;obtain⟨a,o,j,n,p,d,w,z,f⟩:=k;exact ax (aK e)<|⟨a,j,p,f,.t (vR (R.fz _ _ d).1 w z),λq=>aF U (q _)⟩
 |bY y=>exact aJ (R.slot (CA e) (λc q=>cO SV.ctorIdx q U) λq=>cO SV.ctorIdx q U) λQ r=>lst k r.Cz.2
 |c6 i y=>exact aJ (R.attr<|CA e) λQ r=>lst k.1 r.Cz.2
 |cell i=>exact lst k.1 (R.cells i _<|Vp e).Ii.2|_=>exact aD e
def nh{F:au}(x:H)(t:ij):(xt F.pg F.w).is x (.str x t)=true:=by show(x==x)=B;simp
def x7{F:au}(x:V)(t:ij):(AN F.pg F.w).is x (.int x t)=true:=by show(x==x)=B;simp
def mw.isSome(f:mw F G r o):o.isSome=r.isSome:=by induction f<;>rfl
def Vq(R:be F X G w s)(x:VO F X.lv G c v)(z:a≠g6)(f:fu F G a o s.heap)(n:i9 c=B)(e:bi o c=I r)
 (h:∀p,Q (.bool r.isSome) {s with toks:=p}):am F.md A (n9 .In v<|.ref a) Q E s:=by
 have j:(a==g6)=false:=beq_eq_false_iff_ne.mpr z;have k:=x.out;refine aL λm=>?_;clear z x;induction c using CV.casesOn with
 |str y=>
  clear n;obtain⟨t,rfl⟩:=k;refine av (sO f e) λi d k=>m<|ai8 (nh y t) j d.mapOf ?_
  replace h:=((k.find e).isSome)▸h;clear d m k j e;cases q:ry i y<;>rw[q]at h<;>exact h _
 |int y=>
  clear n;obtain⟨t,rfl⟩:=k;refine av (sP f e) λi d k=>m<|ai8 (x7 y t) j d.mapOf ?_
  replace h:=((k.find e).isSome)▸h;clear d m k j e;cases q:ry i y<;>rw[q]at h<;>exact h _
 |_=>exact ft n
def Vr{F:au}(h:am F.md A (n9 .In v c) (λw d=>match w with|.bool b=>Q (.bool<|!b) d|_=>bA) E s):am F.md A (n9 .NotIn v c) Q E s:=by intro Γ p CB;have:=h Γ p CB;have this:Sem.wp F.md Γ (contains c v>>=λb=>pure<|ai9 b) (λa Y d=>(λw d=>match w with|.bool b=>Q (.bool<|!b) d|_=>bA) a d) (λe Y d=>E e d) p s:=this;show Sem.wp F.md Γ (contains c v>>=λb=>pure<|ai9 (!b)) _ _ p s;rw[aja]at this⊢;exact this
def sQ(F:au)(A:bS)(s:aM)(E:bp)(op:ie)(va vb:ah)(r:bf):Prop:=∀Q:ah->aM->Prop,(∀tk,Q (.bool r) {s with toks:=tk})->am F.md A (n9 op va vb) Q E s
def Vs(a:dH F G d e)(b:Ca y f):cL (GY d y) (sQ F A s E .In e f):=by
 obtain⟨c,rfl⟩:=b;induction a with
 |str=>exactλQ h=>P.in_str<|h _
 |_=>trivial
def Vt(R:be F X G i s)(a:VO F X.lv G h j)(b:VO F X.lv G k m):cL (GX i h k) (sQ F A s E .In j m):=by
 refine cL.bind<|cL.all λp q=>cC (nG R.r b q) λx d z c=>?_;subst d
 generalize n:i9 h=f;induction f using dN with
 |true=>exact cL.map<|cL.all λr e Q o=>Vq R a z c n e o
 |false=>trivial
def Ik(R:be F X G e s)(a:VO F X.lv G f c)(b:VO F X.lv G d i):cL (BH e f d) (sQ F A s E .In c i):=by
 induction d using CV.casesOn with
 |str y=>exact Vs a.knd b.out|tup t=>obtain⟨x,o,v,m,rfl,z,j,k,n⟩:=b.out;exact(Vk (A:=A.in1) (s:=s) a n).imp λr h Q p=>in_tupleAt (y3 · c) (vR (R.r.fz _ _ z).1 j k) (λy q=>h.1 y<|by simpa using q)<|Z List.any_toArray (Z h.2 (p s.toks))
 |_=>exact Vt R a b
def Vu(a:dH F G e f)(b:dH F G h i):cL (GZ e h) (sQ F A s E .Lt f i):=by
 induction a with
 |int=>induction b with
  |int=>exactλQ d=>P.lt_int<|d _
  |_=>trivial
 |str=>induction b with
  |str=>exactλQ d=>P.lt_str<|d _
  |_=>trivial
 |_=>trivial
def Il(a:dH F G c d)(b:dH F G e f):cL (BI c e) λr=>f=.none/\(d==.none)=r:=by
 induction b with
 |none=>induction a with
  |eQ h=>exact⟨U,beq_eq_false_iff_ne.mpr h⟩|_=>exact⟨U,U⟩
 |_=>trivial
def Vw(c:aW X A d)(R:be F X G x s)(a:VO F X.lv G y v)(b:VO F X.lv G l w):cL (yp x op y l) (sQ F A s E op v w):=by
 have n:=λop f k=>Cv (z:=W) (P:=λv w m=>cL m<|sQ F A s E op v w) (f:=f) a.knd b.knd (λY Y=>trivial) k;induction op with
 |Eq=>exact(Ig R (Ih c) a.knd b.knd).imp λr h Q p=>h.1 _ _ _ _<|p _
 |NotEq=>exact cL.map<|(Ig R (Ih c) a.knd b.knd).imp λr h Q p=>h.2 _ _ _ _ (p _)
 |Lt=>exact Vu a.knd b.knd|LtE=>exact n .LtE _ λi t j o Q p=>P.le_int<|p _
 |Gt=>exact n .Gt _ λi t j o Q p=>P.gt_int<|p _
 |GtE=>exact n .GtE _ λi t j o Q p=>P.ge_int<|p _
 |Is=>exact(Il a.knd b.knd).imp λr h Q p=>by refine aI h λq e=>?_;subst q;exact is_none<|Z e (p _)
 |IsNot=>exact cL.map<|(Il a.knd b.knd).imp λr h Q p=>by refine aI h λq e=>?_;subst q;exact isNot_none (Z e (p _))
 |In=>exact Ik R a b|NotIn=>exact cL.map<|(Ik R a b).imp λr h Q p=>Vr (h _ p)
def Vy(c:aW X A d)(R:be F X G f s)(a:VO F X.lv G i m)(b:VO F X.lv G j p)
 (h:aC T F X n (aP F X) G (iR e i j f) Q E):am F.md A (n9 e m p) Q E s:=by
 have k:=Vw (E:=E) (op:=e) c R a b;unfold iR at h;generalize yp f e i j=o at h k;refine aL λq=>?_;induction o with
 |none=>exact h.elim|some r=>exact q<|k Q λt=>aC.ok h R.tok (.r (.bool _))
end
section
set_option tactic.hygienic true
set_option backward.match.sparseCases true
def tk{n:J}(h:a<m)(k:m<=(n:V)+1):a.toNat<=n:=Int.toNat_le.mpr<|Int.le_of_lt_add_one (lM h k)
def cA{m:J}(h:a<=n)(q:n+k<=m):a+k<=m:=g (dC h k) q
def zT(h:a<=n):0+a<=n:=Z (i4 a) h
def zG(h:n<=a):n<=0+a:=Z (i4 a) h
def sE{n:J}(h:a<=n)(e:a=b+c):b<=n:=g (cx b c)<|ax e h
def qD(h:a<=30):a<=16777216:=g h<|dk U
def Vz:a+40+1+1+1<=a+50:=(dO (dk U) a:a+43<=a+50)
def VA(h:a<=30)(k:b<=1):min c a+b+(a -d)<=70:=g (aY (aY (g (pP c a) h) k)<|g (g' a d) h)<|dk U
def VB{a:V}(h:0<=a)(k:a<3):a=0\/a=1\/a=2:=by obtain⟨n,rfl⟩:=g8 h;exact(Nat.lt_succ_iff_lt_or_eq.mp (Int.ofNat_lt.mp k:n<3)).elim (λk=>(Nat.lt_succ_iff_lt_or_eq.mp k).elim (λk=>.inl<|bq uz (Nat.lt_one_iff.mp k)) λe=>.inr<|.inl (bq uz e)) λe=>.inr<|.inr (bq uz e)
def VC:a+30+1<=a+40:=(dO (dk U) a:a+31<=a+40)
def Im{a:V}(h:0<=a):0<=1+a:=xx (dk U) h
def VD{a:V}(h:a<26):1+a<1000:=pQ (mY h 1)<|dk U
def VE{a:V}(h:a<26):0+(1+a).toNat<=27:=zT<|tk (mY h 1) (dk U)
def VF(h:a<=800000)(k:b<27):a+1+b<=1000000:=g (aY (dC h 1)<|cG k)<|dk U
def VG{a:V}{b:J}(h:a<26)(e:b=(1+a).toNat):b<=1000:=g (bg e)<|tk (mY h 1) (dk U)
def VH{a:V}{c:J}(h:a<26)(e:b=(1+a).toNat)(f:c=b):c<=10000000:=g (bg<|f.trans e)<|tk (mY h 1) (dk U)
def VI{a:V}{c:J}(h:a<26)(e:b=(1+a).toNat)(f:c=b):c<=70:=g (bg<|f.trans e)<|tk (mY h 1) (dk U)
def VJ{a:V}{b:J}(h:a<26):b+1+(0+(1+a).toNat)<=b+50:=g (dO (zT<|tk (n:=26) (mY h 1) (dk U))<|b+1) (dO (dk U) b:b+27<=b+50)
def VK{a:V}(h:a<3):1+a<1000:=pQ (mY h 1)<|dk U
def VL{a:V}(h:a<3):0+(1+a).toNat<=3:=zT<|tk (mY h 1) (dk U)
def VM(h:a<=800000)(k:b<3):a+1+9*b<=1000000:=g (aY (dC h 1)<|d7 9 (cG k))<|dk U
def VN(h:a<3)(k:b<=24*a)(l:c<=4):b+c<=16777216:=g (aY (g k<|d7 24 (cG h)) l)<|dk U
def VP(h:a<=800000)(k:b<3):a+1+9*b+1<=900000:=g (dC (aY (dC h 1)<|d7 9 (cG k)) 1)<|dk U
def VQ(h:a<3)(k:b<=24*a)(l:c<=4)(m:d<=20):b+c+d<=16777216:=g (aY (aY (g k<|d7 24 (cG h)) l) m)<|dk U
def VT(h:a<=24*b)(k:c<=4)(l:d<=20):a+c+d<=24*(b+1):=g (aY (aY h k) l)<|aA (24*b+24)
def VU(h:1<=a):1<=b+c+a:=g h<|bU _ _
def VV:a+1+9*b+1+8<=a+1+9*(b+1):=bg<|kY (a+1) (9*b) 9
def VW{a:V}(h:0<=a):1<=0+(1+a).toNat:=by obtain⟨k,rfl⟩:=g8 h;exact zG<|cx 1 k
def VX{a:V}{b:J}(h:a<3)(k:b<=24*(0+(1+a).toNat)):b<=100:=g k<|g (d7 24 (zT (tk (n:=3) (mY h 1) (dk U)))) (dk U)
def VY{a:V}{b:J}(h:a<3):b+1+9*(0+(1+a).toNat)<=b+30:=g (dO (d7 9<|zT (tk (n:=3) (mY h 1) (dk U)))<|b+1) (dO (dk U) b:b+28<=b+30)
def VZ:0*a+0=0:=ajb a
def vU(h:a<=900):a<=100000:=g h<|dk U
def Wa(h:a<=b+(c+1)):a<=b+1+c:=g h<|bg (iL b c 1)
def Wb:a+1+(b+1)=a+2+b:=iL (a+1) b 1
def Wc(h:a<=b+(c+1)):a<=b+2+c:=g h<|g (bg (iL b c 1)) (dC (bM (b+1)) c)
def Wd(h:a<=2*b):a+1<=2*(b+2):=(aY h (dk U):a+1<=2*b+4)
def We{b:J}(e:a=b+(0+1)):(b:V)=(a:V) -1:=by subst e;exact(Fj (b:V) 1).symm
def Wf:∀{c:J},a=b+(c+1+1)->(b:V)≠(a:V) -1:=by intros;lia
def Wg(e:a=b+c+1):b<=a:=g (g (cx b c)<|bM _)<|bg e.symm
def Wh:a+1<=1+a:=bg<|lN a 1
end
section
open PySem PySem.SeqAt PyProof.Rows
def Wi{i:V}{n:J}(a:i<0)(p:0<=i+n)(q:i+n<n):(i+n).toNat<n/\-(n:V)<=i/\i<n/\(0<=i->(i+n).toNat=i.toNat)/\(i<0->(i+n).toNat=(i+n).toNat):=
 ⟨(Fg p).mpr q,Int.le_of_sub_nonneg<|Z (Int.sub_neg i n) p,lM a<|dX n,λh=>aF a<|Int.not_lt.mpr h,λY=>rfl⟩
def Wj{i:V}{n:J}(a:¬i<0)(q:i<n):i.toNat<n/\-(n:V)<=i/\i<n/\(0<=i->i.toNat=i.toNat)/\(i<0->i.toNat=(i+n).toNat):=
 ⟨(Fg<|Int.not_lt.mp a).mpr q,bR (Int.neg_nonpos_of_nonneg<|dX n)<|Int.not_lt.mp a,q,λY=>rfl,λh=>aF h a⟩
def Io{i:V}{j:J}(h:uq i n=I j):j<n/\-(n:V)<=i/\i<n/\(0<=i->j=i.toNat)/\(i<0->j=(i+n).toNat):=by
 unfold uq at h;dsimp only at h;by_cases a:i<0;rw[aa a]at h;refine aI (oB h) λq e=>?_;have q:=Bool.and_eq_true_iff.mp q;exact ax e<|Wi a (jx q.1) (jx q.2)
 rw[u a]at h;exact aI (oB h) λq e=>ax e<|Wj a (jx (Bool.and_eq_true_iff.mp q).2)
def Wk(x:bn F G y P)(q:my s.heap a P)(d:y.length<=100000)(e:lf y i=I c)
 (h:∀v,VR F G c v->Q v s):am F.md A (pS (.ref a)<|.int i t) Q E s:=by
 unfold lf at e;refine aL λk=>av (Option.bind_eq_some_iff.mp e) λj z T=>av (x.get j T) λv m r=>u8 (Io z) λN p b X Y=>?_;have w:=x.length;induction q with
 |l q=>
  by_cases f:0<=i;exact k<|Oe q f (lM b (bR (Int.ofNat_le.mpr d) (dk U))) (by refine ax (X f) ?_;simpa using m) (h v r)
  refine k<|wpAny_getItem_list_neg q (Int.not_le.mp f) (by simp;exact Z w p) (bR (bR (dk U) (xu (Int.ofNat_le.mpr d))) p) ?_ (h v r)
  have:=Y<|Int.not_le.mp f
  simp only [mZ,w];refine ax this ?_;simpa using m
 |t q=>obtain⟨o,S,L,n,M⟩:=q;exact k<|amB ⟨o,S,L,n,M⟩ (bR (bR (dk U) (xu (Int.ofNat_le.mpr d))) p) (lM b (bR (Int.ofNat_le.mpr d) (dk U))) (j:=j) (by simp;exact Z w z) (by simpa using m) (h v r)
def Ip{p:K}(R:be F X G p s)(x:VO F X.lv G c v)(i:fu F G a q s.heap)(z:i9 c=B)(e:bi q c=I (I r))
 (h:∀w b,VR F G r w->Q w {s with toks:=b}):am F.md A (pS (.ref a) v) Q E s:=by
 induction c using CV.casesOn with
 |str y=>refine aJ x.str_inv λt j=>?_;subst j;refine av (sO i e) λm d k=>?_;have f:=k.find e;generalize n:ry m y=o at f;cases f with|some f=>exact ajc (nh y t) d.mapOf n<|h _ _ f
 |int y=>refine aJ x.int_inv λt j=>?_;subst j;refine av (sP i e) λm d k=>?_;have f:=k.find e;generalize n:ry m y=o at f;cases f with|some f=>exact ajc (x7 y t) d.mapOf n<|h _ _ f
 |_=>exact ft z
inductive jE(s:aM):ah->Prop
 |str {x t}:jE s (.str x t)|list {a}:s.TypeIs (.ref a) "list"->jE s (.ref a)|tup {a}:s.TypeIs (.ref a) "tuple"->jE s (.ref a)|dict {a}:s.TypeIs (.ref a) "dict"->jE s (.ref a)
def my.sub(q:my s.heap a f):jE s (.ref a):=by
 refine aL λc=>?_;induction q with
 |l q=>exact c<|.list q.typeIs
 |t q=>exact cC q λo d e h=>c<|.tup ⟨o,d,e⟩
def Wl{P:lP ah->Prop}(e:ai)(f:P (Fq [i,o]<|pS o i))(d:P (Fq [o,i]<|pS o i)):P (ajd e ag o i):=by
 induction e using gL with
 |Slice l a dI p=>induction dI using bL with
  |none=>exact f|some=>exact d
 |_=>exact d
def qE{F:au}(d:jE s o)(h:am F.md A (pS o i) Q E s):am F.md A (m3 a c o i) Q E s:=by
 have e:∀{T j:aX},s.TypeIs o T->typeLookup (.type T) "__getitem__"=pure (I<|.builtin j)->am F.md A (m3 a c o i) Q E s:=by
  intro T j d k;refine af<|Z (getitemInPython_of_ne d.not_modules) (af (aje d k ?_))
  have f:am F.md A (ajd c ag o i) (λr iT=>am F.md A (ajf a o r>>=λY=>pure r) Q E iT) E s:=by refine Wl (P:=λx=>am F.md A x (λr iT=>am F.md A (ajf a o r>>=λY=>pure r) Q E iT) E s) c ?_ ?_<;>exact wpAny_operating<|g5 h (λr iT sR=>af (Of (aE sR))) λY Y x=>x
  first
   |exact aE<|af f
   |exact af<|aE (af f)
   |exact af f
 clear h;induction d with|str=>exact e U PySem.F.slot_str_getitem.lookup|list d=>exact e d slot_list_getitem.lookup|tup d=>exact e d slot_tuple_getitem.lookup|dict d=>exact e d slot_dict_getitem.lookup
def CC{l:K}(R:be F X G l s)(a:VO F X.lv G Y L)(b:VO F X.lv G N vi)
 (h:aC T F X n (aP F X) G (fT Y N l) Q E):jE s L/\am F.md A (pS L vi) Q E s:=by
 induction N using CV.casesOn with
 |int i=>
  refine aJ b.int_inv λf o=>?_;subst o;replace h:aC T F X n (aP F X) G (match hK Y with|some x=>BJ l x i|none=>vg l Y i) Q E:=h;generalize J:hK Y=z at h;induction z with
  |some x=>obtain rfl:=oE J;refine aJ a.str_inv λt o=>?_;subst o;refine h.opt λc e h=>h.ite λy h=>av (Option.bind_eq_some_iff.mp e) λj B p=>u8 (Io B) λh1 O u h4 h5=>?_;replace y:=dY▸y;exact⟨.str,P.getItem_str (Z (dx<|Int.not_lt.mpr (bR (bR (dk U) (xu (Int.ofNat_le.mpr y))) O))<|Z (dx (λq=>aF (lM u (bR (Int.ofNat_le.mpr y) (dk U))) (Int.not_lt.mpr q))) U) e<|h.ok R.tok (.r (.str _ _))⟩
  |none=>
   unfold vg at h;generalize e:c4 l Y=z at h;induction z with
   |some xs=>refine h.opt λv p h=>h.ite λy h=>fQ (qC R.r a e) λx vs o C q S=>?_;subst o;exact⟨q.sub,Wk C q y p λw rw=>h.ok R<|.r rw⟩
   |none=>refine h.opt λH e h=>h.opt λr p h=>h.opt λv M h=>cC (nG R.r a e) λx o z m=>?_;subst o;subst M;exact av (sP m p) λS d S=>⟨.dict d.typeIs,Ip R b m U p λw tk rw=>h.ok R.tok<|.r rw⟩
 |str k=>refine aJ b.str_inv λf o=>?_;subst o;refine aC.opt h λH e h=>h.opt λr p h=>h.opt λv M h=>cC (nG R.r a e) λx o z m=>?_;subst o;subst M;exact av (sO m p) λS d S=>⟨.dict d.typeIs,Ip R b m U p λw tk rw=>h.ok R.tok<|.r rw⟩
 |_=>exact h.elim
def Wm{e:K}(R:be F X G e s)(a:VO F X.lv G f i)(b:VO F X.lv G j k)
 (h:aC T F X n (aP F X) G (fT f j e) Q E):am F.md A (m3 c d i k) Q E s:=qE (CC (A:=A) R a b h).1 (CC R a b h).2
def bn.drop(x:bn F G a c)(k:J):bn F G (a.drop k) (c.drop k):=by
 induction k generalizing a c with
 |zero=>exact x
 |succ k d=>induction x using bn.casesOn with
  |nil=>exact .nil|cons p q=>exact d q
def bn.take(x:bn F G a c)(k:J):bn F G (a.take k) (c.take k):=by
 induction k generalizing a c with
 |zero=>exact .nil
 |succ k d=>induction x using bn.casesOn with
  |nil=>exact .nil|cons p q=>exact .cons p<|d q
def bn.reverse(x:bn F G c d):bn F G c.reverse d.reverse:=by
 induction c generalizing d with
 |nil=>exact Z x.out .nil|cons a c f=>obtain⟨v,l,e,p,q⟩:=x.out;exact Z e<|Z ur (Z ur ((f q).append (.cons p .nil)))
def bn.cut(x:bn F G e f)(c d:al V):bn F G (Internal.cut e c d) (Internal.cut f c d):=by unfold Internal.cut;exact(x.length)▸((x.drop _).take _)
def Wn(l:D α)(a c:al V):(cut l a c).length<=l.length:=by unfold cut;simp;exact g (pP _ _)<|g' _ _
def Wo(a:D ah)(c d:al V):Og a.toArray c d W=(cut a c d).toArray:=by rw[slicePick_plain];rfl
def Iq(x:H)(a c:al V):uA a c 1 x.length=(pL<|c.elim x.length (d6 x.length) -a.elim 0 (d6 x.length)).map (a.elim 0 (d6 x.length)+·):=by have e:uA a c 1 x.length=Fs (xC a c W x.length).1 (xC a c W x.length).2.1 1:=U;refine Z e ?_;rw[sliceBounds_plain];exact sliceRange_one _ _
def Wp(x:H)(a c:al V):(uA a c 1 x.length).filterMap (x.cps[·]?)=cut x.cps.toList a c:=by rw[Iq];exact pick_run x.cps _ _
def Wq(x:H)(a c:al V)(h:(uA a c 1 x.length).length=x.length):lp x a c=x:=by
 rw[Iq,b0,Oh]at h;have e:lp x a c=⟨(cut x.cps.toList a c).toArray⟩:=U;have f:x.cps.toList.length=x.length:=U;refine Z e ?_;unfold cut;refine Z f ?_;have j:c.elim x.length (d6 x.length)<=x.length:=by induction c with|none=>exact aA _|some i=>exact Int.toNat_le.mpr<|Int.max_le.mpr ⟨dX _,Int.min_le_right _ _⟩
 have d:a.elim 0 (d6 x.length)=0\/x.length=0:=UJ h j;have k:(x.cps.toList.drop<|a.elim 0 (d6 x.length)).take (c.elim x.length (d6 x.length) -a.elim 0 (d6 x.length))=x.cps.toList:=by
  refine Z h ?_;rcases d with d|d
  exact Z d<|Z AV (m4 (aA _))
  have:x.cps.toList=[]:=List.length_eq_zero_iff.mp d;refine Z this ?_;simp
 exact Z k U
def Ir{F:au}{X:aU}{G:Gh}{c:CV}{v:ah}{o:al V}(x:VO F X.lv G c v)(h:vh c=I o):∃p,v=AW p/\p.map (·.1)=o/\xD v o:=by
 induction c using CV.casesOn with
 |none=>obtain rfl:=aK h;exact x.none_inv▸⟨W,U,U,.none⟩
 |int i=>obtain rfl:=aK h;refine aJ x.int_inv λt a=>?_;subst a;exact⟨I (_,t),U,U,.int _ _⟩
 |_=>exact aD h
def Ws{n:J}(d:a<=b)(c:b<=n):ajg (I (a:V)) (I (b:V)) 1 (n:V)=((a:V),(b:V)):=by show((if(a:V)<0 then max ((a:V)+n) 0 else min (a:V) n),(if(b:V)<0 then max ((b:V)+n) 0 else min (b:V) n))=_;exact Z (u qB)<|Z (u qB) (Z (N2 (Int.ofNat_le.mpr (g d c))) (Z (N2 (Int.ofNat_le.mpr c)) U))
def Wt{a b:J}:Oi (a:V) (b:V) 1=b -a:=by
 show(if(a:V)<b then((b:V) -a -1)/1+1 else 0).toNat=b -a;by_cases q:(a:V)<b;exact Z (aa q)<|Z (ajh _) (Z (Int.sub_add_cancel ..) (AR b a))
 exact Z (u q) (ru<|Int.ofNat_le.mp (Int.not_lt.mp q)).symm
def Wu{F:au}{a n:J}(f:s.heap.IsSliceOf sl (.int a c) (.int b i) .none)(j:a<=b)(k:b<=n)(h:Q ((a:V),1,b -a) s):
 am F.md A (amC (.ref sl)<|pure (n:V)) Q E s:=by
 refine cC (id f) λp d m e=>af<|af (lQ d e (x:=.int a c) U (af (lQ d e (x:=.int b i) U (af (lQ d e (x:=.none) U (aE (af (amD (Z (u (dk U)) ?_)))))))))
 refine af<|aji (af (aji (af (aE ?_))))
 show am _ _ (match ajg (I (a:V)) (I (b:V)) 1 (n:V)with|(Oj,o)=>pure (Oj,(1:V),Oi Oj o 1)) _ _ s;refine Z (Ws j k) ?_;show am _ _ (pure ((a:V),(1:V),Oi (a:V) (b:V) 1)) _ _ s;exact Z Wt<|aE h
def Wv{F:au}{f:D ah}(i:amE s.heap t f.toArray)(q:s.heap.IsSliceOf sl (.int a c) (.int b G) .none)(r:1<=a)(v:a<=b)(w:b<=f.length)(x:f.length<=100000)
 (h:Q (.ref s.heap.objs.size) {s with heap:=s.heap.push {cls:=.type "tuple",data:=.seq ((f.drop a).take<|b -a).toArray}}):am F.md A (pS (.ref t)<|.ref sl) Q E s:=by
 have d:sizeOk (.seq ((f.drop a).take<|b -a).toArray):=by show((f.drop a).take<|b -a).toArray.size<=eJ;refine Z dY ?_;simp;exact g (pP _ _)<|g (g' _ _) (g x (by lk))
 refine aL λy=>cC (id q) λz j n l=>?_;have o:s.TypeIs (.ref sl) "slice":=⟨z,j,n⟩;refine y ?_;unfold pS
 try with_reducible refine dF ?_
 first|refine af (aE ?_)|skip
 refine af<|ajj i.typeIs (rfl) ?_
 refine af (AX (name:=ak "__getitem__") i.typeIs ajk
  (AY ajk i.typeIs amF ?_<|amG _ _))
 show am _ _ (amH (.ref t)>>=_) _ _ s;refine af<|amI i (af (wpAny_typeOf o (Z (aa (dk U)) (af (Wu q v (by simpa using w) ?_)))))
 have p:¬(((a:V)==0&&(1:V)==1&&(b -a)==f.toArray.size)=B):=by have:((a:V)==0)=false:=nq Fp λk=>jB r (lO k);refine Z this ?_;simp
 show am _ _ (if((a:V)==0&&(1:V)==1&&(b -a)==f.toArray.size)=B then _ else _) _ _ s;have e:((pL<|b -a).filterMap λ(k:J)=>f.toArray[((a:V)+(k:V)*1).toNat]?)=(f.drop a).take (b -a):=by
  have e:(λ(k:J)=>f.toArray[((a:V)+(k:V)*1).toNat]?)=λk=>f.toArray[a+k]?:=by
   funext k
   have:((a:V)+(k:V)*1).toNat=a+k:=(kY _ _ _).symm;exact Z this U
  refine Z e ?_;have:=pick_run f.toArray a<|b -a
  exact ajl▸this
 refine Z (u p)<|Z e ?_
 first
  |exact af (m:=Ft _)<|lR (aE ⟨_,U,aE h⟩) d
  |exact af (m:=Ft _)<|lR (af (aE (aE ⟨_,U,aE h⟩))) d
  |exact af<|af (m:=Ft _) (lR (aE (aE ⟨_,U,aE h⟩)) d)
  |exact af<|af (m:=Ft _) (lR (aE ⟨_,U,aE h⟩) d)
def It{v:ah}(p:xD v (I i)):∃t,v=.int i t:=
 IsPart.casesOn (motive:=λv o Y=>∀i,o=I i->∃t,v=.int i t) p (λi h=>aD h) (λj t i h=>⟨t,aK h▸rfl⟩) i U
def Wx{T:Tab}{F:au}{X:aU}{G:Gh}{j:K}{s:aM}{n:J}{A:bS}{Q E:bp}{x:H}{t:ij}{f i:al (V×ij)}{a c:al V}{d e:ai}(R:be F X G j {s with heap:=s.heap.push {cls:=.type "slice",data:=.fields #[AW f,AW i,.none]}})(k:f.map (·.1)=a)(m:i.map (·.1)=c)(o:x.length<=eJ)
 (h:aC T F X n (aP F X) G (.ok (.str<|lp x a c) j) Q E):am F.md A (m3 d e (.str x t)<|.ref s.heap.objs.size) Q E {s with heap:=s.heap.push {cls:=.type "slice",data:=.fields #[AW f,AW i,.none]}}:=by
 refine qE .str<|wpAny_getItem_str_slice (l:=f) (u:=i) (st:=W) ⟨_,gx _ U,U,U⟩ U ?_
 unfold sliceMade slicePicked;refine Z k<|Z m ?_
 show Made.post (if((1:V)==1&&(uA a c 1 x.length).length==x.length)=B then .val (.str x t)else .str ⟨((uA a c 1 x.length).filterMap (x.cps[·]?)).toArray⟩) Q _;by_cases w:(uA a c 1 x.length).length=x.length;exact Z (aa (Z w (j9 x.length))) ((Wq x a c w▸h).ok R (.r (.str _ _)));exact Z (u λq=>w (eq_of_beq q)) (Z (Wp ..) (⟨g (Wn x.cps.toList a c) o,h.ok R.tok (.r (.str _ _))⟩))
def Wy{T:Tab}{F:au}{X:aU}{G:Gh}{w:K}{s:aM}{n:J}{A:bS}{Q E:bp}{j:D CV}{x:ah}{p1 p2:al (V×ij)}{a b:V}{f i:ai}{k p:ah}(B:xD k (I a))(O:xD p (I b))(R:be F X G w {s with heap:=s.heap.push {cls:=.type "slice",data:=.fields #[k,p,.none]}})(c:VO F X.lv G (.tup j) x)
 (h:aC T F X n (aP F X) G (if 1<=a/\a<=b/\b<=j.length/\j.length<=100000 then .ok (.tup<|(j.drop a.toNat).take (b.toNat -a.toNat)) w else .C) Q E):am F.md A (m3 f i x<|.ref s.heap.objs.size) Q E {s with heap:=s.heap.push {cls:=.type "slice",data:=.fields #[k,p,.none]}}:=by
 refine h.ite λu h=>GC c.H8 λy o H m q z l hd P=>?_;subst q;refine u7 u λt Y h3 h4=>?_;have d:=P.length;refine aJ (It B) λS e=>?_;subst e;refine aJ (It O) λL e=>?_;subst e;refine cB (R.r.nE {cls:=.type "tuple",data:=.seq ((H.drop a.toNat).take<|b.toNat -a.toNat).toArray} U) λg1 M g3=>qE (.tup ⟨o,(R.r.fz _ _ z).1,l⟩) ?_;have N:(a.toNat:V)=a:=rA<|bR (dk U) t
 have hj:(b.toNat:V)=b:=rA<|bR (bR (dX _) (AQ N)) Y
 have v:Heap.IsSliceOf (s.heap.push {cls:=.type "slice",data:=.fields #[.int a S,.int b L,.none]}) s.heap.objs.size (.int (a.toNat:V) S) (.int (b.toNat:V) L) .none:=Z N<|Z hj (Ol ..)
 exact Wv (a:=a.toNat) (b:=b.toNat) ⟨o,(R.r.fz _ _ z).1,l,m,hd⟩ v ((Int.le_toNat<|bR (dk U) t).mpr t) (aiM Y) (d▸Int.toNat_le.mpr h3) (g (bg d) h4)<|h _ _ _ (M _) ⟨g1,R.g,R.o⟩ (.r (.tup g3 U U (((P.drop _).take _).mono (M 0))))
def Wz{T:Tab}{F:au}{X:aU}{G:Gh}{m:K}{s:aM}{n:J}{A:bS}{Q E:bp}{o:D CV}{c:CV}{w:ah}{j k:al V}{d f:ai}{p t:ah}(l:xD p j)(P:xD t k)(R:be F X G m {s with heap:=s.heap.push {cls:=.type "slice",data:=.fields #[p,t,.none]}})(a:VO F X.lv G c w)(e:c4 m c=I o)(Y:∀S,c≠.tup S)(L:o.length<=100000)
 (h:aC T F X n (aP F X) G (.ok (.lst<|cut o j k) m) Q E):am F.md A (m3 d f w<|.ref s.heap.objs.size) Q E {s with heap:=s.heap.push {cls:=.type "slice",data:=.fields #[p,t,.none]}}:=by
 refine fQ (qC R.r a e) λx M v y q N=>?_;subst v;have z:=N Y;have i:=y.length;refine cB (R.r.nE (bO (cut M j k) 0) U) λB b g=>qE (.list z.typeIs)<|ajm z (Ol ..) l P .none (dk U) ?_ (by refine Z dY ?_;rewrite[mZ];exact Cp L i)
 rw[Wo];exact h _ _ _ (b _) ⟨B,R.g,R.o⟩<|.r (.lst g ((y.cut j k).mono (b 0)))
def WA{T:Tab}{F:au}{X:aU}{G:Gh}{m:K}{s:aM}{n:J}{A:bS}{Q E:bp}{k b l:CV}{P o p:ah}{c d:ai}(R:be F X G m s)(a:VO F X.lv G k P)(Y:VO F X.lv G b o)(S:VO F X.lv G l p)(h:aC T F X n (aP F X) G (ir k b l m) Q E):
 am F.md A (m3 c d P<|.ref s.heap.objs.size) Q E {s with heap:=s.heap.push {cls:=.type "slice",data:=.fields #[o,p,.none]}}:=by
 refine aC.opt h λZ i h=>aC.opt h λD j h=>cC (Ir Y i) λB L M r=>?_;clear Y i;refine cC (Ir S j) λV N U v=>?_;clear S j;have w:be F X G m {s with heap:=s.heap.push {cls:=.type "slice",data:=.fields #[o,p,.none]}}:=⟨R.r.push _,R.g,R.o⟩;clear R;replace h:aC T F X n (aP F X) G (BK k Z D m) Q E:=h;unfold BK at h;generalize i:hK k=g at h;induction g using bL with
 |some x=>replace a:=oE i▸a;clear i r v;refine h.ite λz h=>aJ a.str_inv λt e=>?_;clear a;subst e L N;exact Wx w M U z h
 |none=>
  clear L M N U i;generalize j:jG k=O at h;induction O using bL with
  |some u=>replace a:=vf j▸a;clear j;refine aC.opt h λx e h=>aC.opt h λy f h=>?_;subst e f;exact Wy (p1:=B) (p2:=V) r v w a h
  |none=>exact aC.opt h λu e h=>h.ite λz h=>Wz r v w a e (λC q=>by subst q;exact aD j.symm) z h
def WB(l:D α):∀m,m<=l.length->(pL m).filterMap (λk=>l[l.length -1 -k]?)=l.reverse.take m:=by
 intro m;induction m with
 |zero=>intro _;simp|succ m d=>
  refineλh=>Z List.range_succ<|Z List.filterMap_append (Z (d (cG ‹_›)) (Z List.take_succ ?_))
  congr 1
  refine Z (List.getElem?_reverse<|xE ‹_›) ?_;simp[AZ];cases l[l.length -1 -m]?<;>rfl
def WC{l k:J}:((l:V) -1+-1*(k:V)).toNat=l -1 -k:=by rw[show(l:V) -1+-1*(k:V)=(l:V) -((1+k:J):V)from by rw[Int.neg_mul,ai2,aiO,<-Int.sub_sub];rfl,AR,N4]
def WD{α:Type}(l:D α):(Fs (xC W W (I<|-1) l.length).1 (xC W W (I<|-1) l.length).2.1 (xC W W (I<|-1) l.length).2.2).filterMap (l.toArray[·]?)=l.reverse:=by
 have a:xC W W (I<|-1) l.length=((l.length:V) -1,-1,-1):=U;refine(a)▸?_;have c:Fs ((l.length:V) -1) (-1) (-1)=(pL l.length).map λ(k:J)=>l.length -1 -k:=by
  unfold Fs;have d:(if(-1:V)>0 then(if(l.length:V) -1< -1 then(-1 -((l.length:V) -1)+-1 -1)/ -1 else 0)else(if(l.length:V) -1>-1 then((l.length:V) -1 - -1 - -1 -1)/(- -1)else 0))=(l.length:V):=by refine Z (u<|by lk) ?_;split;refine Z (show(- -1:V)=1 by lk) ?_;rw[ajh];exact Tw;exact Int.le_antisymm (dX _)<|Int.le_of_sub_le_sub_right (show(_:V) -1<=0 -1 from Int.not_lt.mp ‹_›)
  refine Z d ?_;dsimp only;rw[AS];apply ajn;exactλk e=>WC
 refine Z c<|Z ajl ?_
 have:=WB l l.length<|aA _
 rw[m4<|by simp]at this;refine(this)▸?_
 congr 1
 funext k
 simp
def WE{f:K}{s:aM}(R:be F X G f {s with heap:=s.heap.push {cls:=.type "slice",data:=.fields #[.none,.none,.int (-1) t]}})(a:VO F X.lv G c y)(e:c4 f c=I o)(z:∀b,c≠.tup b)(l:o.length<=100000)
 (h:aC T F X n (aP F X) G (.ok (.lst o.reverse) f) Q E):am F.md A (m3 i j y<|.ref s.heap.objs.size) Q E {s with heap:=s.heap.push {cls:=.type "slice",data:=.fields #[.none,.none,.int (-1) t]}}:=by
 refine fQ (qC R.r a e) λx k m p q P=>?_;subst m;have v:=P z;have d:=p.length;refine cB (R.r.nE (bO k.reverse 0) U) λY w S=>qE (.list v.typeIs)<|ajm v (Ol ..) .none .none (.int (-1) t) (dk U) ?_ (by refine Z dY ?_;rewrite[mZ];exact Cp l d)
 refine Z (show Og k.toArray W W (I<|-1)=k.reverse.toArray by unfold Og;refine Z mZ ?_;rw[WD]) ?_;exact h _ _ _ (w _) ⟨Y,R.g,R.o⟩<|.r (.lst S (p.reverse.mono (w 0)))
def WG{T:Tab}{F:au}{X:aU}{G:Gh}{f:K}{s:aM}{n:J}{A:bS}{E:bp}{d:CV}{j:ah}{t:ij}{c:ai}(R:be F X G f s)(a:VO F X.lv G d j)(h:aC T F X n (aP F X) G (nv d f) Q E):
 am F.md A (m3 i c j<|.ref s.heap.objs.size) Q E {s with heap:=s.heap.push {cls:=.type "slice",data:=.fields #[.none,.none,.int (-1) t]}}:=by
 have k:be F X G f {s with heap:=s.heap.push {cls:=.type "slice",data:=.fields #[.none,.none,.int (-1) t]}}:=⟨R.r.push _,R.g,R.o⟩;clear R;unfold nv at h;generalize m:hK d=o at h;induction o using bL with
 |some x=>exact h.elim|none=>
  clear m;generalize p:jG d=r at h;induction r using bL with
  |some v=>exact h.elim|none=>exact aC.opt h λv e h=>h.ite λw h=>WE k a e (λy q=>by subst q;exact aD p.symm) w h
end
section
open PySem PySem.SeqAt PyProof.Rows PySem.Calls Builtin Builtin.ObjectAttr
noncomputable abbrev y4:D Value:=[.type "ValueError",.type "Exception",.type "BaseException",.type "object"]
def oZ(l:D ah):Prop:=∃a:D bc,l=a.map .ref++y4
def CD(h:oZ l):l.contains (.type n)=y4.contains (.type n):=by
 refine aJ h λc e=>Z e ?_;clear h e;induction c with
 |nil=>rfl|cons a c d=>exact List.contains_cons.trans<|Z d U
def WH(c:ah)(h:oZ l):refuseLoop c "__setattr__" l=pure ():=by refine aJ h λd e=>Z e ?_;clear h e;induction d with|nil=>exact PySem.F.store_ValueError.passes c|cons a d f=>exact(ajo ..).trans f
structure Xc where
 nm:H
 q:H
 N:bc
 bs:D ah
 bm:D ah
 sn:D H
 sub:D ah
 ab:bf
 col:al bf
 dd:al bc
 k0:al ah
 k1:al ah
 k2:al ah
 k3:al ah
 k5:al ah
noncomputable abbrev Xc.o(x:Xc)(a:bc):Obj:=excClassObj x.nm x.q a x.N x.bs x.bm B x.sn x.sub x.ab x.col x.dd x.k0 x.k1 x.k2 x.k3 x.k5 "ValueError.__new__"
structure jm(a:bK)(c:bc):Prop where
 cls:∃d:Xc,a.lookup c=I (d.o c)/\oZ d.bm
 get:fp a (.ref c) "__getattribute__"=I (I<|.builtin "BaseException.__getattribute__")
 set:fp a (.ref c) "__setattr__"=I (I<|.builtin "object.__setattr__")
 hook:fp a (.ref c) "__getattr__"=I W
 call:uB a (.ref c) "__call__"=I (I<|.builtin "type.__call__")
 typ:W.instIn a (.ref c) (.type "type")=I B
noncomputable def Iu:Slot "ValueError" "__getattribute__" "BaseException.__getattribute__":=PySem.F.excAttr_ValueError.ga
def WJ:builtinKind "BaseException.__getattribute__"=I .slot:=by decide +kernel
noncomputable def WK:splitId "BaseException.__getattribute__"=I ("BaseException","__getattribute__"):=by decide +kernel
noncomputable def WL:(Om "BaseException.__getattribute__"==Om "object.__getattribute__")=false:=by decide +kernel
def jm.clsIn{a:bK}(h:jm a c):∃e f,pT a c=I e/\e.mro=.ref c::f/\e.hasDict=B/\oZ f:=av h.cls λd i j=>⟨_,d.bm,by unfold pT;exact Z i U,U,U,j⟩
def jm.mro{a:bK}(d:jm a c):pU a c (.type n)=I (y4.contains<|.type n):=by refine fQ d.clsIn λi j e f k h=>?_;unfold pU;refine Z e ?_;rewrite[A0];exact Z f<|Z (u (λq=>ft q)) (Z ajp (Z (CD h) U))
def WM{a:bK}(Kh:a.In s.heap)(c:rB s.heap x o e od)(ck:jm a e)(hf:Oo a e od name=I (.value v))(hh:A1 v=B)
 (h:∀tk,Q v {s with toks:=tk}):am (cr prog w) A (Fu (.ref x) name expr) Q E s:=by
 obtain⟨CE,g,d,t,os⟩:=s;have L0:=c.type (M:=cr prog w);have L1:=Fv (M:=cr prog w) Kh ck.get;have L2:uC (cr prog w) CE (hookBefore<|.ref e) none:=W.looks_hook Kh ck.hook;have L3:=W.looks_find (M:=cr prog w) Kh c hf;have L4:uC (cr prog w) CE (isInstance (.ref x)<|.type "BaseException") true:=L0.andThen (Fw Kh (ck.mro.trans (by decide +kernel)));refine af (Op (dF (af (L0.at (af (L1.at ?_))))));dsimp only;refine Z WL ?_;rewrite[Fx];refine Z (u (by lk)) (af (L2.at (af (Oq (dF ?_)))));unfold callGetattribute;refine Z (show(expr&&onTheHeap (Om "BaseException.__getattribute__"))=ag from Fx _) (Z (u (by lk)) ?_);unfold boundAndCalled;rw[Iu.bind];refine af (aE (uD (Ot Iu.plain PySem.F.entry_bexc_ga (@Ou (cr prog w) _ _ ⟨CE,g,d,t+1,os⟩ "BaseException.__getattribute__" "BaseException" "__getattribute__" (.ref x) [.str name t] [] _ WJ WK L4 (PySem.F.args_bexc_ga _ _) (af (aE (af (aE (af (L0.at (af (L3.at ?_))))))))))));refine aE ?_;show am _ _ (handedOut v) _ _ _;exact Z (W.handedOut_of hh) (aE (h _))
def Iv{a:bK}{tk:ij}{R:pK->aM->Prop}(Kh:a.In s.heap)(c:rB s.heap x o d od)(ck:jm a d)(ht:fp a (.ref d) name=I W)
 (h:∀b,am (cr i w) A.in1 (storeInOwnDict (.ref x) (.ref d) (.str name tk) name v b)
  (λfin s'=>match fin with|.done f=>R (.ok f) s'|.again c'=>c'.quiet=B/\k7 (cr i w) A c' R s') (λe s'=>R (.error e) s') s):
 k7 (cr i w) A (.call (.builtin "object.__setattr__") ⟨[.ref x,.str name tk,v],[]⟩) R s:=by
 have SF:=PySem.F.store_ValueError;refine aL λhG=>fQ ck.clsIn λcd bm h1 h2 h3 h4=>?_;have sub:uC (cr i w) s.heap (isInstance (.ref x)<|.type "object") true:=c.type.andThen<|Fw Kh (ck.mro.trans (by decide +kernel))
 refine hG<|Ot SF.slot.plain SF.entry (@Ou (cr i w) _ _ s "object.__setattr__" "object" "__setattr__" (.ref x) [.str name tk,v] [] _ SF.kind SF.split sub (SF.args (.ref x) (.str name tk) v) ?_)
 have hm:uC (cr i w) s.heap (mroOf<|.ref d) cd.mro:=(Ov Kh h1).andThen .now;rw[W.osa_eq,refuse_eq];refine af<|af (c.type.here (af (hm.here (Z h2 ?_))));rewrite[ajo];exact Z (WH _ h4)<|aE (af (c.type.here (af ((Fv Kh ht).here (af (aE (h _)))))))
end
section
open PySem PySem.SeqAt PySem.Calls Builtin Builtin.ObjectAttr
set_option backward.match.sparseCases true
def sS(h:oZ l):(gy a::l).contains (.type n)=y4.contains (.type n):=Z ajp<|Z (CD h) U
noncomputable abbrev iU(a:D ah):Obj:={cls:=.type "tuple",data:=.seq a.toArray}
noncomputable abbrev jQ(a t:bc):Obj:={cls:=.ref a,data:=.fields #[.ref t,.none,.none,.none,.bool ag,.none]}
def WN{f:dM}{a:Xc}{M:m5}(j:oZ a.bm)(k:h.get? c=I (a.o c))(m:Q () ⟨h,e,d,t,f⟩):
 am M A (ajq "ValueError.__new__" ⟨.ref c::i,[]⟩) Q E ⟨h,e,d,t,f⟩:=wpAny_check_new_subU Fy ((CD j).trans<|by decide +kernel) .base k m
def WO{v:dM}{R:pK->aM->Prop}{a:Xc}(j:oZ a.bm)(k:h.get? c=I (a.o c))
 (y:R (.ok<|.ret (.ref (h.objs.size+1))) ⟨(h.push<|iU f).push<|jQ c h.objs.size,e,d,t,v⟩)(m:f.length<=eJ):
 k7 (cr x w) A (.builtin "ValueError.__new__" ⟨.ref c::f,[]⟩) R ⟨h,e,d,t,v⟩:=by
 have i:=Fy;have n:(gy c::a.bm).contains (.type "ValueError")=true:=by refine Z (sS j) ?_;decide +kernel
 have o:(gy c::a.bm).contains (.type "AttributeError")=false:=by refine Z (sS j) ?_;decide +kernel
 have q:(gy c::a.bm).contains (.type "NameError")=false:=by refine Z (sS j) ?_;decide +kernel
 have r:=i.ends;refine codeAny_builtinAt i.entry<|wpAt_bind ?_
 show wpAt _ _ _ (stack>>=_) _ _ _;refine wpAt_bind<|wpAt_stack λp s=>ajr ?_
 wp_walk
 refine ajr<|Z i.owner ?_
 repeat(first|with_reducible refine wpAny_madeHere_exc i.canon k ?_|with_reducible refine rC k ?_|(with_reducible refine Fz k ?_;first|rw[n]|rw[o]|rw[q])|wp_step)
 show R _ _;rw[rD];exact y
def WP{E:dM}{R:pK->aM->Prop}(q:c.In h)(y:jm c f)(Q:fp c (.ref f) "__init__"=I (I<|.ref F))(T:FA c (.ref F)=I (.type "function"))(p:m.length<=eJ)
 (X:k7 (cr n w) (A.under<|.builtin "type.__call__" ⟨.ref f::m,[]⟩) (.call (.ref F) ⟨.ref (h.objs.size+1)::m,[]⟩) (W.InitBack (h.objs.size+1) R) ⟨(h.push<|iU m).push<|jQ f h.objs.size,i,d,t,E⟩):
 k7 (cr n w) A (.call (.ref f) ⟨m,[]⟩) R ⟨h,i,d,t,E⟩:=by
 have Y:=Fy;have s:=W.looks_specialIn (M:=cr n w) q y.call;have l:=W.looks_instIn (M:=cr n w) q y.typ;refine av y.cls λj G P=>?_;have x:=q _ _ G;refine codeAny_of_tree<|af (wpAny_load x (af (s.at ?_)))
 dsimp only;rw[tc_bind];refine af<|aE (af (aE ?_));refine aE (a:=Fin.again (.call (.builtin "type.__call__") ⟨.ref f::m,[]⟩)) (And.intro U ?_);refine codeAny_call_builtin_at (ajs _ (by decide +kernel)) entry_typeCall ?_;refine Ou tc_kind tc_split l (W.tc_args _ _ _) ?_
 repeat(first|with_reducible refine rC x ?_|with_reducible refine wpAny_madeBy_exc x ?_|wp_step)
 refine codeAny_call_builtin_code (ajs _ Y.quiet)<|WN P x (WO P x ?_ p)
 have k:∀b o,h.get? b=I o->((h.push<|iU m).push<|jQ f h.objs.size).get? b=I o:=λb o e=>di _<|di _ e
 have S:((h.push<|iU m).push<|jQ f h.objs.size).get? (h.objs.size+1)=I (jQ f h.objs.size):=by heap_get
 have L:uC (cr n w) ((h.push<|iU m).push<|jQ f h.objs.size) (typeOf<|.ref (h.objs.size+1)) (.ref f):=(W.Looks.ld S).andThen .now;have N:uC (cr n w) ((h.push<|iU m).push<|jQ f h.objs.size) (isSubtype (.ref f)<|.ref f) true:=(Fw q (C:=f) (base:=.ref f) (r:=B)<|by unfold pU pT;refine Z G ?_;simp).keeps k;have D:=(Fv (M:=cr n w) q Q).keeps k;have J:=(ajt (M:=cr n w) q (.ref<|h.objs.size+1) T).keeps k
 repeat(first|with_reducible refine uD ?_|lk)
 refine codeAny_mono X λr V z=>?_;rcases r with e|(v|_|_|_)<;>first|exact z|exact z.elim|skip
 obtain⟨rfl,z⟩:=z;exact aE<|aE z
def WQ(g:c.In s.heap)(O:jm c i)(G:s.heap.get? x=I o)(K:o.cls=.ref i)(S:o.data=.fields L)(M:L[0]?=I (.ref t0))(y:m.length<=eJ)
 (C:Q .none {s with heap:=(s.heap.push<|iU m).update x<|rE (·.setIfInBounds 0 (.ref s.heap.objs.size))}):am (cr p w) A (c8 (.builtin "ValueError.__init__") (.ref x::m)) Q E s:=by
 have z:=Fy;obtain⟨N,j,d,t,H⟩:=s;refine av O.cls λk R ht=>?_;have P:=g _ _ R;dsimp only at P G;have T:(gy i::k.bm).contains (.type "ValueError")=true:=by refine Z (sS ht) ?_;decide +kernel
 have F:=z.noStar;refine uD<|Ot z.init.plain z.initEntry ?_
 have l:am (cr p w) A.in1 (Builtin.«BaseException.__init__» ⟨.ref x::m,[]⟩) (λX q=>match X with
  |.done f=>(match(xr f:pK)with|.ok (.ret v)=>Q v q|.ok _=>bA|.error e=>E e q)
  |.again x=>x.quiet=B/\k7 (cr p w) A x (λr q=>match r with|.ok (.ret v)=>Q v q|.ok _=>bA|.error e=>E e q) q) (λe q=>E e q) ⟨N,j,d,t,H⟩:=by
  unfold Builtin.«BaseException.__init__»;dsimp only;refine Z (u<|dk U) ?_;have Y:0<L.size:=(Array.getElem?_eq_some_iff.mp M).1;have sT:=di (h:=N) (iU m) G;exact af<|lR (af (af (lQ sT S M (af (xF sT S Y (aju (aE C))))))) (by show m.toArray.size<=eJ;exact Z mZ y)
 unfold ajq;refine Z z.initKind<|Z z.initSplit (Z z.initRow ?_)
 dsimp only
 repeat(first|(with_reducible refine rC G<|Z K ?_)|with_reducible refine rC P ?_|(with_reducible refine Fz P<|Z T ?_)|wp_step)
 refine ajv ?_;rw[show∀(a b:aX)(n:J),Bind.check ⟨.positional,"*","ValueError",.self,[⟨"args",.varPos,ag⟩]⟩ a b n (Ox (λx=>x.fst) ({pos:=gy x::m}:Args).kw)=pure ()from
  λa b n=>check_star_args _ _ _ _ _ _]
 exact aE l
end
section
open PySem PySem.SeqAt PyProof.Rows PySem.Calls
def sU(F:au)(c:CV)(v:ah):Prop:=∀G:Gh,(∀a o,F.base.get? a=I o->G.fz a=I o)->VR F G c v
def Iw(F:au)(x:H)(c:CV):Prop:=∃a,F.base.Ns lK a/\((∃v,a x=I v/\sU F c v)\/(a x=W/\∃d v,F.base.Ns uo d/\d x=I v/\sU F c v))
structure CF(a:bK)(c:bc):Prop where
 cd:∃cd,pT a c=I cd/\cd.hasDict=B
 get:fp a (.ref c) "__getattribute__"=I (I<|.builtin "object.__getattribute__")
 set:fp a (.ref c) "__setattr__"=I (I<|.builtin "object.__setattr__")
 over:ajw a c=B
structure d0(T:Tab)(F:au)(a:bK):Prop where
 gW:a.In F.base
 exc:T.exc=F.exc
 glob:∀x c,T.glob x=I c->Iw F x c
 cls:∀c d,F.cU c=I d->T.exc c=ag->CF a d
 ex:∀c d,F.cU c=I d->T.exc c=B->jm a d
 up:∀c c',T.up c=I c'->T.exc c=B/\F.fresh c=B/\T.exc c'=B/\F.fresh c'=ag/\F.cU c'=F.cU c
 vV:∀c d x,F.cU c=I d->T.attr c x=B->fp a (.ref d) x=I W
def aG.vW{a:K}(R:aG F X G a h):∀b o,F.base.get? b=I o->h.get? b=I o:=λb o e=>(R.fz b o<|R.ey b o e).1
def aG.gW{a:bK}{c:K}(d:d0 T F a)(R:aG F X G c h):a.In h:=amJ d.gW R.vW
def VO.y5(x:VO F i G (.cell k) v):v=.ref (G.ad<|.cell k)/\G.ow (G.ad<|.cell k)=.cell k:=x.out
def vX(h:aS o k=.ok a c):∃x,o=I x/\k x=.ok a c:=by induction o with|none=>exact cO Internal.R.ctorIdx h U|some x=>exact⟨x,U,h⟩
def Ix{d:bK}{st:K}(K0:d0 T F d)(R:be F X G st s)(h:em T x st=.ok a d4)(y:∀v,VO F X.lv G a v->Q v s):am F.md A (bH (.Name x pos) X.env) Q E s:=by
 unfold em at h;refine aL λz=>?_;by_cases D:x="__debug__"\/x="__classdict__";rw[aa D]at h;exact cO Internal.R.ctorIdx h U;rw[u D,nkE]at h;have n:(x==("__debug__":H))=false:=beq_eq_false_iff_ne.mpr λq=>D<|.inl q
 have l:(x==("__classdict__":H))=false:=beq_eq_false_iff_ne.mpr λq=>D<|.inr q
 have j:=R.r.top;refine av (vX h) λk e h=>?_;have p:k≠.free->X.env.kindOf x=I k:=λhk=>j.vG e hk;have P:∀{t:SV}{v:ah},cQ F G s.heap (.var X.lv x) t v->yx x st t=.ok a d4->Q v s:=by
  intro t v r h;clear p e j l n z;induction r with
  |v r=>injection h with h;subst h;exact y _<|.r r
  |ol a b=>injection h with h;subst h;exact y _ .bY
  |od a b=>injection h with h;subst h;exact y _ .bY
 induction k with
 |globalImplicit=>
  clear P e l;refine av (vX h) λv Y h=>?_;injection h with h;subst h;clear h;refine av (K0.glob x v Y) λmg n1 f=>?_;have S:=n1.keeps R.r.vW;clear n1 Y h;rcases f with⟨w,g1,g2⟩|⟨g0,mb,w,n2,g1,g2⟩
  exact z<|ajx j.kind (p nofun) (loadGlobal_global (by exact Z j.glob S) g1 (y _ (.r (g2 G R.r.ey)))) n
  exact z<|ajx j.kind (p nofun) (loadGlobal_builtin (by exact Z j.glob S) g0 (by exact Z j.blt (n2.keeps R.r.vW)) g1 (y _ (.r (g2 G R.r.ey)))) n
 |globalExplicit=>exact cO Internal.R.ctorIdx h U|«local»=>
  refine av (vX h) λt L h=>?_;obtain⟨m,hm,hk⟩:=j.ns;have r:=hk x e t L;generalize ho:m x=o at r;induction r with
  |un=>exact cO Internal.R.ctorIdx h U|s r=>exact z<|A2 (ajy j.kind (p nofun) hm ho (P r h)) n
 |cell=>
  refine av (vX h) λt L h=>?_;obtain⟨c,o,Y,e3,J,r'⟩:=j.ce x e;have r:=r' t L;clear r';induction r with
  |un=>exact cO Internal.R.ctorIdx h U|s r=>exact z<|A2 (ajz j.kind (p nofun) Y J (P r h)) n
 |free=>
  refine av (vX h) λt L h=>?_;obtain⟨c,o,i,Y,_,e3,J,r⟩:=j.fr x e;rcases r t L with r|⟨cv,w,r1,r2,r3⟩
  subst r;exact cO Internal.R.ctorIdx h U;subst r1 r2;injection h with h;subst h;rcases j.kd x with q|⟨_,q⟩
  exact z<|A2 (wpAny_loadName_free j.kind (q.trans e) Y J (y _ (.r r3)) l) n
  exact z<|A2 (ajz j.kind q Y J (y _ (.r r3))) n
def CG{c:K}{k:α->Internal.R CV}(h:∀x,o=I x->k x=.C\/∃a,k x=.ok a c):aS o k=.C\/∃a,aS o k=.ok a c:=by induction o with|none=>exact .inl U|some x=>exact h x U
def WS{c:K}:yx x c v=.C\/∃a,yx x c v=.ok a c:=by induction v using SV.casesOn with|un=>exact .inl U|_=>exact .inr ⟨_,U⟩
def WT{st:K}{x:H}:em T x st=.C\/∃a,em T x st=.ok a st:=by
 unfold em;by_cases q:x="__debug__"\/x="__classdict__";exact Z (aa q)<|.inl U
 refine Z (u q)<|CG λk Y=>?_
 induction k with|globalImplicit=>exact CG λv Y=>.inr ⟨_,U⟩|globalExplicit=>exact .inl U|_=>exact CG λv Y=>WS
def WU{T:Tab}{c:bK}{f:K}(i:d0 T F c)(R:be F X G f s)(h:aC T F X n (aP F X) G (em T x f) Q E):am F.md A (bH (.Name x j) X.env) Q E s:=by
 refine aL λk=>?_;rcases WT (T:=T) (st:=f) (x:=x)with e|⟨a,e⟩
 rw[e]at h;exact h.elim;rw[e]at h;exact k<|Ix i R e λv d=>h.ok R d
def dJ.look(x:dJ F G h k s i):
 (∀n,ay s y=I n->∃v,cQ F G h (.attr k y) n v/\uE y (dt i m)=I (I v))/\(ay s y=W->uE y (dt i m)=I W):=by
 have o:(∀n,ay s y=I n->∃v d,cQ F G h (.attr k y) n v/\i.find? (·.key.isStr y)=I d/\d.val=v)/\(ay s y=W->i.find? (·.key.isStr y)=W)/\i.any (·.refKey)=false:=by
  induction s generalizing i with
  |nil=>obtain rfl:=x.nl;exact⟨(λY e=>aD e),λY=>rfl,U⟩
  |cons a s A=>
   obtain⟨d,i,t,z,S,p,q,r,c⟩:=x.out;subst z;clear q S;refine cB (A c) λE P b=>?_;have Q:d.key.isStr y=(a.1==y):=Z p U;have l:d.refKey=false:=by unfold amK;exact Z p U
   clear c p t A;by_cases j:a.1=y;refine⟨λw e=>?_,λe=>aD<|e.symm.trans (l7 j),by exact Z AU<|Z l (Z b U)⟩;obtain rfl:=aK<|(l7 j).symm.trans e
   clear e E P b l;subst j;exact⟨_,d,r,List.find?_cons.trans<|Z Q (Z (j9 _) U),U⟩;have z:(d::i).find? (·.key.isStr y)=i.find? (·.key.isStr y):=List.find?_cons.trans<|Z Q (Z (beq_eq_false_iff_ne.mpr j) U)
   exact⟨λw e=>Z z<|E w ((jI j).symm.trans e),λe=>z.trans<|P ((jI j).symm.trans e),by exact Z AU<|Z l (Z b U)⟩
 have L:=o.1;have T:=o.2.1;have X:=o.2.2;refine⟨λn e=>?_,λe=>?_⟩;refine aL λM=>?_;clear X T x;refine fP (L n e) λv d r f N=>M<|⟨v,r,?_⟩
 show(match i.toArray.toList.find? (·.key.isStr y)with|some e=>I (I e.val)|none=>if i.toArray.toList.any (·.refKey)then W else I W)=_;refine Z f ?_;simp[N];show(match i.toArray.toList.find? (·.key.isStr y)with|some e=>I (I e.val)|none=>if i.toArray.toList.any (·.refKey)then W else I W)=_;refine Z (T e) ?_;simp[X]
def vY(c:h.get? x=I o)(e:o.cls=.ref a)(f:pO o=B)(i:o.dict=I d)(j:h.get? d=I (dt k m)):rB h x o a (I<|dt k m):=
 ⟨c,e,f,by exact Z i j⟩
def VR.handed(r:VR F G c v)(h:¬BL c=B):A1 v=true:=by induction r using VR.casesOn with|blt=>exact aF U h|_=>rfl
def WV{d:bK}{C:K}(l:d0 T F d)(R:be F X G C s)(a:VO F X.lv G ca va)(h:aC T F X n (aP F X) G (iu T ca x C) Q E):
 am F.md A (Fu va x B) Q E s:=by
 refine aC.opt h λk q h=>h.opt λp e h=>h.ite λD h=>h.opt λsv M h=>aL λw=>?_;obtain rfl:=vj q;replace e:=oF e;clear q;obtain⟨c,as⟩:=p;refine aI a.y5 λJ a2=>?_;subst J;clear a2 a;obtain⟨o,f,V,m,b1,H,b3,b,b5,b6,b7,b8,g,_⟩:=sD (R.r.cells k _ e)<|.inl (λq=>aD (show ay [] x=I _ from q▸M))
 have i:rB s.heap (G.ad<|.cell k) o f (I<|dt V m):=vY H b3 b5 b6 b8;clear b8 b7 b6 b5 b3 H b1;refine av ((g.look (m:=m) (y:=x)).1 sv M) λv r O=>?_;have j:∀{P:Oy},pT d f=I P->P.hasDict=B->Oo d f (I<|dt V m) x=I (.value v):=by intro P Y S;unfold Oo;refine Z Y ?_;rewrite[A0];refine Z (l.vV c f x b D) ?_;rw[A0,A0,A0];dsimp only;unfold W.ownOf;refine Z (aa S) ?_;dsimp only;exact Z O U
 have z:A1 v=B->(∀N,Q v {s with toks:=N})->am F.md A (Fu (.ref<|G.ad (.cell k)) x B) Q E s:=by
  intro hh hq;clear O g M D e h;rcases t:T.exc c with _|_
  have L:=l.cls c f b t;refine aL λw=>?_;clear t b h;exact av L.cd λP Y S=>w<|W.get_value (R.r.gW l) i L.get (j Y S) hh (hq _)
  have L:=l.ex c f b t;refine aL λw=>?_;clear t b h;exact fQ L.clsIn λP bm Y zz S zz=>w<|WM (R.r.gW l) i L (j Y S) hh hq
 clear j O e M i D;clear g b m V;induction r using cQ.casesOn with
 |v r=>exact w<|h.y0 λhb h=>z (r.handed hb) λN=>h.ok R.tok (.r r)
 |ol u r2=>exact w<|z U λN=>h.ok R.tok (.c6 u)
 |od u r2=>exact w<|z U λN=>h.ok R.tok (.c6 u)
def eA(l:D (H×β))(x y:H)(b:β):ay (bN l x b) y=@ite _ (x=y) (FB x y) (I b) (ay l y):=by
 induction l with
 |nil=>rfl|cons p l d=>
  by_cases c:p.1=x;refine Z (lu c) ?_;subst c;clear d;by_cases a:p.1=y;exact(l7 a).trans (aa a).symm;exact(jI a).trans<|Z (u a) (jI a).symm
  refine Z (jj c) ?_;by_cases a:p.1=y;clear d;subst a;exact(l7 U).trans<|Z (u λq=>c q.symm) (l7 U).symm
  exact(jI a).trans<|d.trans (Z (jI a) U)
def gV.forget(L:gV F G h j env loc sc)(x:H):gV F G h j env (bN loc x .un) sc where
 kind:=L.kind
 glob:=L.glob
 blt:=L.blt
 kd:=L.kd
 lo:=L.lo
 la:=L.la
 ns:=by obtain⟨m,hm,hk⟩:=L.ns;refine⟨m,hm,λy hy sv e=>?_⟩;rw[eA]at e;by_cases q:x=y;rw[aa q]at e;obtain rfl:=aK e;exact .un;rw[u q]at e;exact hk y hy sv e
 ce:=λy hy=>by obtain⟨c,o,r1,r2,r3,r⟩:=L.ce y hy;refine⟨c,o,r1,r2,r3,λsv e=>?_⟩;rw[eA]at e;by_cases q:x=y;rw[aa q]at e;obtain rfl:=aK e;exact .un;rw[u q]at e;exact r sv e
 fr:=λy hy=>by obtain⟨c,o,i,r1,r2,r3,r4,r⟩:=L.fr y hy;refine⟨c,o,i,r1,r2,r3,r4,λsv e=>?_⟩;rw[eA]at e;by_cases q:x=y;rw[aa q]at e;obtain rfl:=aK e;exact .inl U;rw[u q]at e;exact r sv e
 own:=λy sv e=>by
  rw[eA]at e;by_cases q:x=y;rw[aa q]at e;obtain rfl:=aK e;exact .inr<|.inl U
  rw[u q]at e;exact L.own y sv e
def aG.forget{a:K}(R:aG F X G a h)(x:H):aG F X G (cq x .un a) h:={R with top:=R.top.forget x}
def Gh.claim(G:Gh)(O:d8)(a:bc):Gh:={ad:=λP=>if P=O then a else G.ad P,ow:=λb=>if b=a then O else G.ow b,fz:=G.fz,tm:=λb=>if b=a then W else G.tm b}
def nH{G:Gh}(q:P≠c):(G.claim c a).ad P=G.ad P:=u q
def o0{G:Gh}(q:b≠a):(G.claim c a).ow b=G.ow b:=u q
def y6{G:Gh}:(G.claim c a).ow a=c:=aa U
def aG.Iy{s:K}(R:aG F X G s h)(j:ay s.loc x=I .un)(f:G.tm a=I (X.lv+1,o)):
 aG F X (G.claim (.var X.lv x) a) s h/\Le (X.lv+1) G (G.claim (.var X.lv x) a):=by
 have d:=(R.tm a _ f).2;have L:Le (X.lv+1) G (G.claim (.var X.lv x) a):=by
  refine⟨λb o e=>e,λk e=>?_,λk y e=>?_,λi y m=>?_,λb i z e m=>?_⟩;refine⟨nH (ao · rfl),?_⟩;show(if G.ad (.cell k)=a then _ else _)=_;exact Z (u λq=>by rw[q,d]at e;exact ao e U) e;refine⟨nH (ao · rfl),?_⟩;show(if G.ad (.attr k y)=a then _ else _)=_;exact Z (u λq=>by rw[q,d]at e;exact ao e U) e;clear d;exact nH<|by intro q;injection q with q;subst q;exact n8 _ m
  show(if b=a then W else G.tm b)=_;clear d;exact Z (u λq=>by subst q;rw[f]at e;cases e;exact n8 _ m) e
 have n:Tr (λc=>c=.gU\/c=.var X.lv x) G (G.claim (.var X.lv x) a) h h:=by refine⟨λb o e Y=>e,λb l t=>?_,λc t=>u λq=>t<|.inr q⟩;show(if b=a then _ else G.ow b)=G.ow b;exact Z (u λq=>t (.inl (by rw[q];exact d))) U
 refine⟨⟨R.sys,R.ey,λb o e=>?_,λb p e=>?_,λb e=>?_,λk w e=>?_,λk e=>?_,λk y e=>?_,?_,?_,R.fr⟩,L⟩;have:=R.fz b o e;refine⟨this.1,?_⟩;show(if b=a then _ else G.ow b)=_;rw[u λq=>by rw[q,d]at this;exact ao this.2 U];exact this.2;change(if b=a then W else G.tm b)=_ at e;clear d f j;by_cases q:b=a;rw[aa q]at e;exact aD e;rw[u q]at e;refine⟨(R.tm b p e).1,?_⟩;show(if b=a then _ else G.ow b)=_;rw[u q];exact(R.tm b p e).2;change(if b=a then _ else G.ow b)≠_ at e;clear d j;by_cases q:b=a;rw[q];exact dy (R.tm a _ f).1;rw[u q]at e;exact R.lt b e;exact(R.cells k w e).tr n L (by rintro (q|q)<;>exact ao q U) (by rintro (q|q)<;>exact ao q U)<|by intro y;rintro (q|q)<;>exact ao q U
 have r:(G.claim (.var X.lv x) a).ad (.cell k)=G.ad (.cell k):=nH (ao · rfl);rw[r]at e;change(if G.ad (.cell k)=a then _ else G.ow (G.ad<|.cell k))=_ at e;clear r d f j;by_cases q:G.ad (.cell k)=a;rw[aa q]at e;exact ao e U;rw[u q]at e;exact R.fH k e;have r:(G.claim (.var X.lv x) a).ad (.attr k y)=G.ad (.attr k y):=nH (ao · rfl);rw[r]at e;change(if G.ad (.attr k y)=a then _ else G.ow (G.ad (.attr k y)))=_ at e;clear r d f j;by_cases q:G.ad (.attr k y)=a;rw[aa q]at e;exact ao e U;rw[u q]at e;exact R.eY k y e;refine R.top.tr n L (by rintro (q|q)<;>exact ao q U) (by intro i y _;rintro (q|q)<;>exact ao q U) λy=>?_;clear d f;by_cases q:y=x;clear n L;clear o;subst q;exact .inr j;exact .inl (by rintro (v|v)<;>cases v;exact q U);refine R.out.tr n L λi m=>⟨(by rintro (q|q)<;>exact ao q U),(by intro y;rintro (q|q)<;>exact ao q U),λy=>?_⟩;rintro (q|q);clear m d f j;exact ao q U;clear n L d;injection q with q;subst q;exact n8 _ m
inductive vZ(F:au)(G:Gh)(h:bG)(O:d8):SV->ah->Prop
 |un {v}:vZ F G h O .un v|s {sv v}:cQ F G h O sv v->vZ F G h O sv v
def qF(c:fN a h d)(f:G.ow a=i):Tr (λP=>P=i) G G h d:=
 ⟨λb o e q=>(c.2 b λz=>q (Z z f)).trans e,λY Y Y=>rfl,λY Y=>rfl⟩
def aG.after{w:K}(R:aG F X G w h){d:K}(f:fN a h j)(E:(j.get? a).isSome=B)(m:G.ow a=c)(x:c≠.fz/\c≠.gU)(n:d.hp=w.hp)
 (r:∀k,c≠.cell k/\c≠.dict k/\∀y,c≠.attr k y)(s:∀i,i<X.lv->c≠.locs i/\(∀y,c≠.slot i y)/\∀y,c≠.var i y)
 (t:gV F G j X.lv X.env d.loc d.sc):aG F X G d j:=by
 have l:=qF f m;have L:=Le.refl 0 G;refine⟨R.sys,R.ey,λb o e=>?_,λb p e=>?_,λb e=>?_,λk P e=>?_,λk e=>?_,λk y e=>?_,t,?_,R.fr⟩;have:=R.fz b o e;exact⟨(f.2 b λz=>x.1 (ax m (ax z (this.2)))).trans this.1,this.2⟩;have:=R.tm b p e;exact⟨(f.2 b λz=>x.2 (ax m (ax z (this.2)))).trans this.1,this.2⟩;refine aL λA=>?_;by_cases z:b=a;exact A<|Z z E
 exact A<|Z (f.2 b z) (R.lt b e)
 rw[n]at e;exact(R.cells k P e).tr l L (λq=>(r k).1 q.symm) (λq=>(r k).2.1 q.symm) λy q=>(r k).2.2 y q.symm;exact Z n<|R.fH k e
 exact Z n<|R.eY k y e
 exact R.out.tr l L λi v=>⟨λq=>(s i v).1 q.symm,λy q=>(s i v).2.1 y q.symm,λy q=>(s i v).2.2 y q.symm⟩
def aG.Iz{j:K}(R:aG F X G j h){m:H->al ah}(t:j.sc.names.lookup x=I .local)(f:∀y,j.sc.names.lookup y=I .local->∀n,ay j.loc y=I n->jl F G h (.var X.lv y) n (m y))
 (v:S.Ns X.env.locals λy=>if y=x then o else m y)(w:fN X.env.locals h S)(A:jl F G h (.var X.lv x) n o):aG F X G (cq x n j) S:=by
 have a:=R.top;have b:=qF w a.lo;have L:=Le.refl 0 G;refine R.after w (nr v λE E E q E=>dy q) a.lo ⟨by simp,by simp⟩ U (λk=>⟨by simp,by simp,by simp⟩) (λi M=>⟨by simp;exact jB ‹_›,by simp,by simp⟩) ?_;exact{
  kind:=a.kind,glob:=a.glob,blt:=a.blt,kd:=a.kd,lo:=a.lo,la:=a.la
  ns:=by refine⟨_,v,λy p d e=>?_⟩;change ay (bN j.loc x n) y=_ at e;rw[eA]at e;clear a w v t;by_cases q:x=y;clear p f;subst q;rw[aa U]at e⊢;obtain rfl:=aK e;exact A.tr b L (ao · rfl) (ao · rfl);rw[u q]at e;exact Z (u λz=>q z.symm)<|(f y p d e).tr b L (ao · rfl) (ao · rfl)
  ce:=λy p=>by
   have s:x≠y:=λq=>by subst q;cases t.symm.trans p
   clear A w v f t;obtain⟨c,o,P,l,⟨Q,T,Y⟩,r⟩:=a.ce y p;refine⟨c,o,P,l,⟨Q,b.keep _ _ T<|by refine Z l ?_;simp,Y⟩,λd e=>?_⟩;change ay (bN j.loc x n) y=_ at e;rw[eA,u s]at e;exact(r d e).tr b L (ao · rfl) (ao · rfl)
  fr:=λy p=>by
   have s:x≠y:=λq=>by subst q;cases t.symm.trans p
   clear A w v f t;obtain⟨c,o,i,P,M,l,⟨Q,T,Y⟩,r⟩:=a.fr y p;refine⟨c,o,i,P,M,l,⟨Q,b.keep _ _ T<|by refine Z l ?_;simp,Y⟩,λd e=>?_⟩;change ay (bN j.loc x n) y=_ at e;rw[eA,u s]at e;exact r d e
  own:=λy d e=>by
   change ay (bN j.loc x n) y=_ at e;rw[eA]at e;clear A w v f;by_cases q:x=y;clear o e a;subst q;exact .inr<|.inr (.inl t)
   rw[u q]at e;exact a.own y d e}
def WW{d:K}(R:be F X G d s)(e:d.sc.names.lookup x=I .local)(n:vZ F G s.heap (.var X.lv x) o v)
 (f:∀h,be F X G (cq x o d) h->p () h):am F.md A (xG X.env x v) p E s:=by
 have a:=R.r.top;obtain⟨m,i,c⟩:=a.ns;refine ajA (a.vG e<|dk U) i (λq j k=>f _ ⟨R.r.Iz e c j k ?_,R.g,R.o⟩)<|Z a.kind U
 clear k j q c i m a f e;induction n with|un=>exact .un|s r=>exact .s r
def WX{j:K}(R:be F X G j s)(p:j.sc.names.lookup x=I .cell)(S:vZ F G s.heap (.var X.lv x) l v)
 (D:∀M,be F X G (cq x l j) M->N () M):am F.md A (xG X.env x v) N E s:=by
 have a:=R.r.top;obtain⟨m,B,f⟩:=a.ns;obtain⟨c,o,t,h,w,g⟩:=a.ce x p;refine wpAny_storeName_cell a.kind (a.vG p<|dk U) t w λh' P T=>D _ ⟨?_,R.g,R.o⟩;have Q:=qF T h;have L:=Le.refl 0 G;refine R.r.after T (av P λH q H=>dy q) h ⟨by simp,by simp⟩ U (λk=>⟨by simp,by simp,by simp⟩) (λi O=>⟨by simp,by simp;exact jB ‹_›,by simp⟩) ?_;exact{
  kind:=a.kind,glob:=a.glob,blt:=a.blt,kd:=a.kd,lo:=a.lo,la:=a.la
  ns:=by
   refine⟨m,B.at λV e=>Q.keep _ _ e<|by refine Z a.lo ?_;simp,λy n d e=>?_⟩;have b:x≠y:=λq=>by subst q;cases p.symm.trans n
   change ay (bN j.loc x l) y=_ at e;rw[eA,u b]at e;exact(f y n d e).tr Q L (ao · rfl) (ao · rfl)
  ce:=λy n=>by
   clear T g f B m D p;by_cases q:x=y;clear n w o a;subst q;refine⟨c,I v,t,h,P,λd e=>?_⟩;change ay (bN j.loc x l) x=_ at e;rw[eA,aa U]at e;injection e with e;subst e;clear P h t c;induction S with
   |un=>exact .un|s r=>exact .s<|r.tr Q L (ao · rfl) (ao · rfl)
   clear P h t S;obtain⟨c',o,W,Y,⟨V,w,C⟩,r⟩:=a.ce y n;refine⟨c',o,W,Y,⟨V,Q.keep _ _ w<|by refine Z Y ?_;simp;exactλz=>q z.symm,C⟩,λd e=>?_⟩;change ay (bN j.loc x l) y=_ at e;rw[eA,u q]at e;exact(r d e).tr Q L (ao · rfl) (ao · rfl)
  fr:=λy n=>by
   have b:x≠y:=λq=>by subst q;cases p.symm.trans n
   clear T P g f B m D S p;obtain⟨c,o,i,t,O,h,⟨V,w,C⟩,r⟩:=a.fr y n;refine⟨c,o,i,t,O,h,⟨V,Q.keep _ _ w<|by refine Z h ?_;simp;exactλq=>aF q (dP O),C⟩,λd e=>?_⟩;change ay (bN j.loc x l) y=_ at e;rw[eA,u b]at e;exact r d e
  own:=λy d e=>by
   change ay (bN j.loc x l) y=_ at e;rw[eA]at e;clear T P g w h t o c f B m D S;by_cases q:x=y;clear e a;subst q;exact .inr<|.inr (.inr p)
   rw[u q]at e;exact a.own y d e}
inductive fb(F:au)(lv:J)(G:Gh):SV->ah->Prop
 |v {c v}:VR F G c v->fb F lv G (.v c) v|ol {xs a vs n}:G.tm a=I (lv+1,bO vs n)->bn F G xs vs->fb F lv G (.ol xs) (.ref a)|od {a n}:G.tm a=I (lv+1,dt [] n)->fb F lv G (.od []) (.ref a)
def fb.mono{v:ah}(L:Le (c+2) G d)(x:fb F c G e v):fb F c d e v:=by
 induction x with
 |v x=>exact .v<|x.mono L
 |ol a b=>exact .ol (L.tm _ _ _ a<|gb _)<|b.mono L
 |od a=>exact .od<|L.tm _ _ _ a (gb _)
def WY(l:D (H×β))(x:H)(a b:β):bN (bN l x a) x b=bN l x b:=by
 induction l with
 |nil=>exact lu U|cons p l e=>
  by_cases q:p.1=x;exact Z (lu q)<|Z (lu q) (lu q).symm
  exact Z (jj q)<|Z (jj q) (Z e (jj q).symm)
def WZ{h:bG}{c:Type}[mX c]{d:KeyKind i w c}(e:h.get? a=I (dt [] n)):h.DictOf d a []:=
 ⟨_,#[],n,e,⟨U,U,U⟩,U,λY f=>by simp at f,.nil,uy⟩
def IA{G:Gh}(e:h.get? a=I (bO f m))(b:bn F (G.claim c a) d f):cQ F (G.claim c a) h c (.ol d) (.ref a):=by
 have z:(G.claim c a).ad c=a:=aa U;have:=cQ.ol (F:=F) (G:=G.claim c a) (h:=h) (O:=c) (xs:=d) (Z z y6)<|Z z (⟨_,_,e,b⟩)
 rwa [z]at this
def IB{F:au}{G:Gh}{h:bG}{c:d8}(e:h.get? a=I (dt [] m)):cQ F (G.claim c a) h c (.od []) (.ref a):=by
 have z:(G.claim c a).ad c=a:=aa U;have:=cQ.od (F:=F) (G:=G.claim c a) (h:=h) (O:=c) (es:=[]) (Z z y6)<|Z z (.s (WZ e) .nil)
 rwa [z]at this
def W0{d:K}(R:be F X G d s)(y:fb F X.lv G j v)
 (q:n<=X.lv+1\/∃c,j=.v c)(h:aC T F X n (λY(Y:c9)(Y:c9)=>fD) G (fU x j d) z E):am F.md A (xG X.env x v) z E s:=by
 have k:=R.r.top;have t:∀m,be F X m (cq x .un d) s->Le n G m->vZ F m s.heap (.var X.lv x) j v->fU x j d=.ok () (cq x j d)->(d.sc.names.lookup x=I .local\/d.sc.names.lookup x=I .cell)->
  am F.md A (xG X.env x v) z E s:=by
  intro m S L M e i;rw[e]at h;have N:cq x j (cq x .un d)=cq x j d:=by unfold cq;simp[WY]
  clear e k q y;rcases i with i|i
  .exact WW S i M λl r=>h m () l L (by exact N▸r) trivial
  .exact WX S i M λl r=>h m () l L (by exact N▸r) trivial
 have f:∀(i:d.sc.names.lookup x=I .local\/d.sc.names.lookup x=I .cell),fU x j d=.ok () (cq x j d)->am F.md A (xG X.env x v) z E s:=by
  intro i e;have P:be F X G (cq x .un d) s:=⟨R.r.forget x,R.g,R.o⟩;have o:ay (cq x .un d).loc x=I .un:=by show ay (bN d.loc x .un) x=_;rewrite[eA];exact Z (aa U) U
  clear k h;induction y with
  |v r=>exact t G P (Le.refl _ _) (.s<|.v r) e i|ol a b=>clear v;obtain⟨Q,w⟩:=P.r.Iy o a;exact t _ ⟨Q,R.g,R.o⟩ (w.down<|q.resolve_right (by simp)) (.s<|IA (R.r.tm _ _ a).1 (b.mono w)) e i
  |od a=>clear v;obtain⟨Q,w⟩:=P.r.Iy o a;exact t _ ⟨Q,R.g,R.o⟩ (w.down<|q.resolve_right (by simp)) (.s<|IB (R.r.tm _ _ a).1) e i
 unfold fU at h f;clear t k q y;by_cases p:(ay d.loc x).isSome=B
 rotate_left
 .rw[u p]at h;exact h.elim
 rw[aa p,nkE]at h f;generalize d.sc.names.lookup x=q at h f;induction q with
 |none=>exact h.elim
 |some k=>induction k with
  |«local»=>exact f (.inl U) U
  |cell=>exact f (.inr U) U
  |_=>exact h.elim
def IC(r:cQ F G h a f (.ref<|G.ad a))(j:∀c,f≠.v c):(h.get?<|G.ad a).isSome=true:=by
 induction f using SV.casesOn with
 |v=>exact aF U<|j _
 |un=>exact r.out.elim|ol=>obtain⟨_,_,q,_⟩:=r.out.2.2;exact dy q
 |od=>have b:=r.out.2.2;clear j r;induction b with|s d _=>exact nr d λe e e q e=>dy q|i d _=>exact nr d λe e e q e=>dy q|t q=>exact dy q
def aG.y7{F:au}{X:aU}{G:Gh}{st:K}{h h':bG}(R:aG F X G st h){x:H}{sv qG:SV}(e:ay st.loc x=I sv)(hv:∀c,sv≠.v c)(hu:sv≠.un)(hw:G.ow (G.ad<|.var X.lv x)=.var X.lv x)
 (hs:fN (G.ad<|.var X.lv x) h h')(CH:∀c,qG≠.v c)(new:cQ F G h' (.var X.lv x) qG (.ref<|G.ad (.var X.lv x))):aG F X G (cq x qG st) h':=by
 have top:=R.top;have Tt:=qF hs hw;have L:=Le.refl 0 G;refine R.after hs (IC new CH) hw ⟨by simp,by simp⟩ U (λk=>⟨by simp,by simp,by simp⟩) (λi hi=>⟨by simp,by simp,by simp;exact jB ‹_›⟩) ?_;have old:∀{o:al ah},jl F G h (.var X.lv x) sv o->o=I (.ref<|G.ad (.var X.lv x)):=by
  intro o r;clear top new CH hs hw e;induction r with
  |un=>exact aF U hu
  |s r=>induction r with
   |v=>exact aF U<|hv _
   |ol=>rfl|od=>rfl
 clear CH hs hw;obtain⟨m,hm,qH⟩:=top.ns;exact{
  kind:=top.kind,glob:=top.glob,blt:=top.blt,kd:=top.kd,lo:=top.lo,la:=top.la
  ns:=by
   refine⟨m,hm.at λob q=>Tt.keep _ _ q<|by refine Z top.lo ?_;simp,λy hy v1 e'=>?_⟩;change ay (bN st.loc x qG) y=_ at e';rw[eA]at e';clear hm top hu hv;by_cases q:x=y;subst q;rw[aa U]at e';obtain rfl:=aK e';exact Z (old<|qH _ hy _ e)<|.s new
   rw[u q]at e';exact(qH y hy _ e').tr Tt L (ao · rfl)<|by simp;exactλz=>q z.symm
  ce:=λy hy=>by
   clear qH hm m hu hv;obtain⟨c,o,e2,e3,⟨ob,e4,e5⟩,r⟩:=top.ce y hy;refine⟨c,o,e2,e3,⟨ob,Tt.keep _ _ e4<|by refine Z e3 ?_;simp,e5⟩,λv1 e'=>?_⟩;change ay (bN st.loc x qG) y=_ at e';rw[eA]at e';clear e5 e4 e3 e2 c hy ob top;by_cases q:x=y;subst q;rw[aa U]at e';obtain rfl:=aK e';exact Z (old<|r _ e)<|.s new
   rw[u q]at e';exact(r _ e').tr Tt L (ao · rfl)<|by simp;exactλz=>q z.symm
  fr:=λy hy=>by
   clear qH hm m old new;obtain⟨c,o,i,e2,hi,e3,⟨ob,e4,e5⟩,r⟩:=top.fr y hy;refine⟨c,o,i,e2,hi,e3,⟨ob,Tt.keep _ _ e4<|by refine Z e3 ?_;simp,e5⟩,λv1 e'=>?_⟩;have CI:x≠y:=λq=>by
    clear e5 e4 e3 e2 c e' v1 hy ob hi i top;subst q;rcases r _ e with r|⟨cv,_,r,_⟩
    exact hu r;exact hv _ r
   change ay (bN st.loc x qG) y=_ at e';rw[eA,u CI]at e';exact r _ e'
  own:=λy v1 q=>by
   change ay (bN st.loc x qG) y=_ at q;rw[eA]at q;clear qH hm m old new;by_cases z:x=y;clear q;subst z;rcases top.own x sv e with⟨c,w⟩|w|w|w
   exact aF w<|hv c
   exact aF w hu;exact .inr<|.inr (.inl w)
   exact .inr<|.inr (.inr w)
   rw[u z]at q;exact top.own y v1 q}
def aG.y8{F:au}{X:aU}{G:Gh}{st:K}{h h':bG}(R:aG F X G st h){k:J}{ob v4:aQ}{a:bc}(e:st.hp[k]?=I ob)(hw:G.ow a=.cell k\/G.ow a=.dict k\/∃y,G.ow a=.attr k y)
 (hs:fN a h h')(hg:(h'.get? a).isSome=B)(hc:fV F G h' k v4)(ha:∀y,G.ow (G.ad<|.attr k y)=.attr k y->∃c as,v4=.inst c as/\(ay as y).isSome=B):aG F X G {st with hp:=st.hp.set k v4} h':=by
 have Tt:=qF (i:=G.ow a) hs U;have L:=Le.refl 0 G;have hk:k<st.hp.length:=by
  clear ha hc hg hs hw;rcases j8 k st.hp.length with q|q
  exact q;rw[pR q]at e;exact aD e
 refine⟨R.sys,R.ey,λb o e=>?_,λb p e=>?_,λb e=>?_,λk' nI e0=>?_,λk' e'=>?_,λk' y e'=>?_,?_,?_,R.fr⟩;have:=R.fz b o e;clear Tt ha hg;exact⟨(hs.2 b λz=>by subst z;rw[this.2]at hw;rcases hw with q|q|⟨y,q⟩<;>exact ao q U).trans this.1,this.2⟩;have:=R.tm b p e;clear Tt ha hg;exact⟨(hs.2 b λz=>by subst z;rw[this.2]at hw;rcases hw with q|q|⟨y,q⟩<;>exact ao q U).trans this.1,this.2⟩;clear hk ha hc hw;by_cases z:b=a;exact(z)▸hg;exact(hs.2 b z)▸R.lt b e;change(st.hp.set k v4)[k']?=_ at e0;replace e0:=(A3)▸e0;clear ha hg hs e;by_cases q:k=k';clear Tt;clear hw;subst q;replace e0:=(aa U)▸(aa hk)▸e0;obtain rfl:=aK e0;exact hc;replace e0:=(u q)▸e0;refine(R.cells k' nI e0).tr Tt L (λz=>?_) (λz=>?_) (λy z=>?_)<;>(rcases hw with w|w|⟨y',w⟩<;>(rw[w]at z;cases z)<;>exact q U);show k'<(st.hp.set k v4).length;exact Z FC<|R.fH k' e'
 have:=R.eY k' y e';unfold ea at this⊢;refine Z A3 ?_;clear hc hg hs hw e;by_cases q:k=k';clear Tt;subst q;refine Z (aa U)<|Z (aa hk) ?_
 clear hk;refine d9 (ha y e') λc as cy h2=>?_;subst cy;exact h2;exact(u q)▸this;exact R.top.tr Tt L (λz=>by rcases hw with w|w|⟨y',w⟩<;>(rw[w]at z;exact ao z U)) (λi y Y z=>by rcases hw with w|w|⟨y',w⟩<;>(rw[w]at z;exact ao z U)) λy=>.inl λz=>by rcases hw with w|w|⟨y',w⟩<;>(rw[w]at z;exact ao z U)
 exact R.out.tr Tt L λi Y=>⟨(λz=>by rcases hw with w|w|⟨y',w⟩<;>(rw[w]at z;exact ao z U)),(λy z=>by rcases hw with w|w|⟨y',w⟩<;>(rw[w]at z;exact ao z U)),λy z=>by rcases hw with w|w|⟨y',w⟩<;>(rw[w]at z;exact ao z U)⟩
def v5(a:D ah)(m:J)(f:js ah->js ah)(c:D ah)(e:f a.toArray=c.toArray):∃d,rF f (bO a m)=bO c d:=by unfold bO rF;dsimp only;exact Z e<|⟨_,U⟩
def y9(r:cQ F G h a (.ol c) v):v=.ref (G.ad a)/\G.ow (G.ad a)=a/\iy F G (G.ad a) c h:=r.out
def W3{h:K}(R:be F X G h s)(e:ay h.loc x=I (.ol j))(a:VO F X.lv G (.bY x) k)(b:VR F G c v)(w:j.length<100000)
 (y:∀n,be F X G (cq x (.ol<|j++[c]) h) n->Q .none n):am F.md A (c8 (.builtin "list.append") [k,v]) Q E s:=by
 refine aL λz=>aJ (R.r.slot e (by simp)<|by simp) λP r=>?_;obtain⟨_,o,f,m,i,p⟩:=y9 r;have q:k=_:=a.out;subst q;have d:=p.length;refine z<|uF FD ⟨_,i,U⟩ Oz (OA _ _) (OB _ f.toArray m v (by refine Z dY ?_;simp;exact g (bg d) (g (cG w) (dk U)))) ⟨i,?_⟩
 refine aJ (v5 f m (λx=>x.push v) (f++[v])<|by simp) λl t=>y _ ⟨R.r.y7 e (by simp) (by simp) o (jD ..) (by simp)<|.ol o ⟨f++[v],l,?_,p.append (.cons b .nil)⟩,R.g,R.o⟩;have:=k8 (rF λx=>x.push v) i<|Z t U
 exact t▸this
def W4(d:s.heap.IsList l a)
 (f:0<=k)(c:k<2^63)(p:k<a.size)(h:Q () {s with heap:=s.heap.update l<|rF (·.setIfInBounds k.toNat v)}):
 am (cr x w) A (uG (.ref l) (.int k t) v) Q E s:=by
 refine aL λi=>?_;obtain⟨o,m,q,y,n⟩:=id d;refine i ?_;unfold uG
 try with_reducible refine dF ?_
 first|refine af (aE ?_)|skip
 refine af<|ajj d.typeIs (rfl) ?_
 refine af (AX (name:=ak "__setitem__") d.typeIs ajB
  (AY ajB d.typeIs entry_list_setitem ?_<|args_list_setitem _ _ _))
 show am _ _ (amL (.int k t)>>=_) _ _ s;refine af<|wpAny_listSubscript_int (fitsIndex_of f c) ?_
 clear c;clear q i d;obtain⟨j,rfl⟩:=g8 f;have r:j<a.size:=Int.ofNat_lt.mp p;have e:a[j]?=I a[j]:=Array.getElem?_eq_getElem r;refine af<|af (wpAny_seqItemAt m n (aE (Z e (af (wpAny_setSeqItemAt m n ?_)))))
 first
  |exact af<|aE (aE ⟨.none,U,aE h⟩)
  |exact aE ⟨.none,U,aE h⟩
def oY.put[mX κ](a:oY F G i P)(nil:P [] [])(cons:∀{y c v f d},VR F G c v->P f d->P ((i y,c)::f) ((y,v)::d)){x:κ}(R:P f d)(j:(d.map (·.1)).Nodup)(e:bi f (i x)=I r)(b:VR F G c v):
 P (gN f (i x) c) (FE d x v):=by
 unfold FE;induction f generalizing d r with
 |nil=>exact Z (a.2.1 _ R)<|cons b nil
 |cons p f s=>
  obtain⟨k,z⟩:=p;refine oA (a.2.2 k z f _ R) λy w l A E m t=>?_;clear R;subst A E;have n:=a.1 y x;rw[fq,A4]at j;rw[RY,n];by_cases q:y=x;clear n m s e;subst q;rw[i5 U];have Q:((y,w)::l).any (λo=>decide (o.1=y))=true:=List.any_cons.trans<|Z (i5 U) U
  exact Z (aa Q)<|Z fq (Z (aa U) (Z (map_store_of_not_mem l y v j.1) (cons b t)))
  refine Z (dx q) ?_;rw[yn n,dx q]at e;have:=s t j.2 e;refine Z AU<|Z (dx q) ?_;rewrite[uH];refine Z fq<|Z (u q) (Z m6 ?_)
  by_cases h:l.any (λo=>decide (o.1=x))=B;rw[aa h]at this⊢;exact cons m this;rw[u h]at this⊢;exact cons m this
def cP.put{c:CV}(R:cP F G d a)(f:(a.map (·.1)).Nodup)(e:bi d (.str x)=I r)(b:VR F G c v):cP F G (gN d (.str x) c) (FE a x v):=cP.key.put .nil .cons R f e b
def dZ.put{c:CV}(R:dZ F G d a)(f:(a.map (·.1)).Nodup)(e:bi d (.int x)=I r)(b:VR F G c v):dZ F G (gN d (.int x) c) (FE a x v):=dZ.key.put .nil .cons R f e b
def oY.length[mX κ](a:oY F G i P){c:D (κ×ah)}(R:P d c):c.length=d.length:=by
 induction d generalizing c with
 |nil=>exact Z (a.2.1 _ R) U|cons p d e=>exact oA (a.2.2 p.1 p.2 d _ R) λy w l j f k h=>Z f<|bq rr (e h)
def cP.length{a:D (H×ah)}(R:cP F G c a):a.length=c.length:=cP.key.length R
def dZ.length{a:D (V×ah)}(R:dZ F G c a):a.length=c.length:=dZ.key.length R
def ID{h:bG}[mX i]{e:KeyKind k w i}(d:h.DictOf e a f):(f.map (·.1)).Nodup:=by exact aL λj=>u9 d λc c c c c c c c q=>j q
def IE{F:au}{X:aU}{G:Gh}{st:K}{s:aM}{A:bS}{E:bp}{a:bc}{es:D (CV×CV)}{ci cw:CV}{vi v:ah}{r:al CV}{Qu:c9->aM->Prop}(R:be F X G st s)(c:fu F G a es s.heap)(x:VO F X.lv G ci vi)(b:VR F G cw v)(hk:i9 ci=B)
 (e:bi es ci=I r)(hl:es.length<=100000)(hq:∀h' tk,fN a s.heap h'->fu F G a (gN es ci cw) h'->Qu () {s with heap:=h',toks:=tk}):
 am F.md A (uG (.ref a) vi v) Qu E s:=by
 refine aL λhG=>?_;induction ci using CV.casesOn with
 |str y=>refine aJ x.str_inv λt cy=>?_;subst cy;exact av (sO c e) λcY d k=>hG<|ajC (nh y t) d (λh' d' hs=>hq h' _ hs (.s d' (k.put (ID d) e b))) ((dY)▸(k.length)▸g ‹_› (dk U))
 |int y=>refine aJ x.int_inv λt cy=>?_;subst cy;exact av (sP c e) λcY d k=>hG<|ajC (x7 y t) d (λh' d' hs=>hq h' _ hs (.i d' (k.put (ID d) e b))) ((dY)▸(k.length)▸g ‹_› (dk U))
 |_=>exact ft hk
def IF(r:cQ F G h d e v)(f:∀c,e≠.v c)(i:e≠.un):v=.ref (G.ad d)/\G.ow (G.ad d)=d:=by
 clear i;induction r with
 |v=>exact aF U<|f _
 |ol a _=>exact⟨U,a⟩|od a _=>exact⟨U,a⟩
def IG{F:au}{G G':Gh}{h h':bG}{m k:J}{S:d8->Prop}{z:H}(L:Le m G G')(Tt:Tr S G G' h h'){as:D (H×SV)}{ds:D jt}(u:dJ F G h k as ds)(fr:ay as z=W)(hS:∀y,¬y=z->¬S (.attr k y)):dJ F G' h' k as ds:=by
 induction as generalizing ds with
 |nil=>exact Z u.nl .nil|cons p as ih=>
  obtain⟨d,ds,t,e0,f',p',q',r,u⟩:=u.out;by_cases hy:p.1=z;exact aD<|fr.symm.trans (l7 hy)
  exact Z e0<|.cons f' p' q' (r.tr Tt L (ao · rfl) (hS _ hy)) (ih u ((jI hy).symm.trans fr))
def dJ.mut(R:dJ F G h k j m)(e:ay j x=I s)(P:∀c,s≠.v c)(Q:s≠.un)
 (z:Tr (λa=>a=.attr k x) G G h b)(n:cQ F G b (.attr k x) o (.ref<|G.ad (.attr k x))):dJ F G b k (bN j x o) m:=by
 have L:=Le.refl 0 G;induction j generalizing m with
 |nil=>exact aD e|cons p j l=>
  obtain⟨d,m,t,T,q,A,E,r,f⟩:=R.out;subst T;by_cases i:p.1=x;clear l;refine Z (lu i) ?_;obtain rfl:=aK<|(l7 i).symm.trans e
  clear e;subst i;have:=(IF r P Q).1;refine .cons q A E ((this)▸n) ?_;exact IG L z f q λy X=>by simp;exact X
  exact Z (jj i)<|.cons (by rewrite[eA];exact(u λw=>i w.symm).trans q) A E (r.tr z L (ao · rfl) (by simp;exact i)) (l f ((jI i).symm.trans e))
def W6{k:J}(x:fV F G h k (.inst c d))(e:h.get? (G.ad<|.cell k)=I o)(f:o.dict=I j):oW F G h k c d:=by
 refine aL λi=>?_;rcases x.out with x|⟨m,a,_,_,b,_,_,_,z,_,_⟩
 exact i x;rw[e]at b;obtain rfl:=aK b;rw[f]at z;exact aD z.symm
def W7{i:K}(R:aG F X G i h)(e:i.hp[k]?=I (.inst c t))(j:ay t x=I w)(z:∀c,w≠.v c)(b:w≠.un)
 (l:fN (G.ad<|.attr k x) h A)(m:∀c,d≠.v c)(f:cQ F G A (.attr k x) d (.ref<|G.ad (.attr k x))):aG F X G {i with hp:=i.hp.set k<|.inst c (bN t x d)} A:=by
 refine aL λY=>?_;obtain⟨o,a,V,n,E,S,L,M,N,D,P,J,Q,p⟩:=sD (R.cells k _ e)<|.inl (λq=>aD (show ay [] x=I _ from q▸j))
 obtain⟨v,r⟩:=Q.get j;have T:=(IF r z b).2;have s:=qF l T;refine Y<|R.y8 e (.inr (.inr ⟨x,T⟩)) l (IC f m) (.inst E (s.keep _ _ S (by refine Z E ?_;simp)) L M N D P (s.keep _ _ J (by refine Z P ?_;simp)) (Q.mut j z b s f) p) λy B=>⟨c,_,U,?_⟩
 have:=R.eY k y B;unfold ea at this;rw[e]at this;rw[eA];by_cases q:x=y;exact Z (aa q) U;exact Z (u q) this
def W8(e:kl a i c=I d):0<=i/\i.toNat<a.length/\a.length<=100000/\d=a.set i.toNat c:=by unfold kl at e;split at e;rename_i h;obtain rfl:=aK e;exact⟨h.1,h.2.1,h.2.2,U⟩;exact aD e
def IH(d:iy F G a l s.heap)(b:VR F G c v)(e:kl l i c=I P)
 (n:∀h,fN a s.heap h->iy F G a P h->Q () {s with heap:=h}):am F.md A (uG (.ref a) (.int i t) v) Q E s:=by
 refine aL λo=>u7 (W8 e) λp j q k=>?_;subst k;clear e;obtain⟨r,m,w,y⟩:=d;have f:=y.length;refine o<|W4 (gn w) p (AP (N6 _) (lM (Int.ofNat_lt.mpr (cM j q)) (by lk))) (by simp;exact Tj j f) (n _ (jD ..) ?_)
 clear f q j p o n;refine aJ (v5 r m (λx=>x.setIfInBounds i.toNat v) (r.set i.toNat v)<|by simp) λT z=>?_;have:=k8 (rF (·.setIfInBounds i.toNat v)) w<|Z z U
 rw[z]at this;exact⟨_,T,this,y.set i.toNat b⟩
inductive II(F:au)(G:Gh)(x y:H)(v:ah):Prop
 |mk (a o t u m):v=.ref a->G.fz a=I o->o.cls=.type "tuple"->o.data=.seq #[.str x t,.str y u] m->II F G x y v
def VO.pair(k:VO F i G (.tup [.str x,.str y]) v):II F G x y v:=by refine aL λf=>?_;obtain⟨a,o,b,n,h,j,m,r,d⟩:=k.out;clear k;obtain⟨l,s,rfl,p,q⟩:=d.out;clear d;obtain⟨A,w,rfl,z,e⟩:=q.out;clear q;obtain rfl:=e.out;clear e;obtain⟨t,rfl⟩:=p.out 0;clear p;obtain⟨c,rfl⟩:=z.out 0;exact f<|⟨a,o,t,c,n,h,j,m,r⟩
def IJ{d:K}(R:be F X G d s)(e:G.fz f=I c)(h:c.cls=.type "tuple")(i:c.data=.seq #[.str x t,.str y a] m):IsTupleKey (strKind F.pg F.w) s.heap [x,y] f:=
 ⟨c,_,m,(R.r.fz _ _ e).1,h,i,.cons (nh x t)<|.cons (nh y a) .nil⟩
def IK{F:au}{h:bG}[mX e]{c:KeyKind F.pg F.w e}(d:h.DictOf c a []):h.DictOfH (AO<|strKind F.pg F.w) a []:=by exact aL λf=>u9 d λo i j k m n p q p=>f<|⟨o,i,j,k,m,n,uI q.length,λY r=>aF r rz,uy⟩
def fu.IL{F:au}{G:Gh}{a:bc}(c:fu F G a [] h):h.DictOfH (AO<|strKind F.pg F.w) a []:=by
 refine aL λe=>?_;cases c with
 |s d k=>exact e<|IK ((show _=[]from k.out)▸d)
 |i d k=>cases k;exact e<|IK d
def W9{T:K}{s:aM}(j:A.units<=6008)(R:be F X G T s)(c:fu F G a [] s.heap)(k:VO F X.lv G (.tup [.str x,.str y]) Y)(b:VR F G S v)
 (p:∀e L,fN a s.heap e->fu F G a [(.tup [.str x,.str y],S)] e->Qu () {s with heap:=e,toks:=L}):
 am F.md A (uG (.ref a) Y v) Qu E s:=by
 obtain⟨ka,ko,t,d,m,rfl,f,h,i⟩:=k.pair;refine wpAny_setItem_heap (knd:=AO<|strKind F.pg F.w) (k:=[x,y]) (by show A.units+1<9900;exact lk 2 j U) (IJ R f h i) c.IL (λe q r=>p e _ r ?_)<|dk U
 rw[storedH_new U]at q;clear r p k j;refine u9 q λo es w z P Q he zz zz=>.t (n:=w) z P (Z Q ?_) f h i b;clear Q P z o i h f m d t ko b;obtain⟨l⟩:=es;exact bq (λl=>Data.dict ⟨l⟩ w) he
def Xa{d:K}(R:aG F X G d h)(e:d.hp[k]?=I (.inst c i))(f:ay i y=I j):∃v,cQ F G h (.attr k y) j v:=by
 refine aL λm=>?_;obtain⟨o,a,q,s,t,x,z,b,l,A,E,P,n,p⟩:=sD (R.cells k _ e)<|.inl (SR f)
 exact aJ (n.get f) λw r=>m<|⟨w,r⟩
def iy.some(c:iy F G a d h):(h.get? a).isSome=true:=by obtain⟨_,_,q,_⟩:=c;exact dy q
def IM(h:(a&&b)=B):a=B/\b=true:=by simpa using h
def IN(h:qj c=B):∃d w,c=.tup [.str d,.str w]:=by
 unfold qj at h;refine aL λe=>?_;rcases q:(jG c).bind gM with _|⟨a,b⟩
 rw[q]at h;exact ft h;rw[q]at h;refine av (dE q) λl f i=>aI (IM h) λj k=>aJ (Option.isSome_iff_exists.mp j) λd m=>aJ (Option.isSome_iff_exists.mp k) λw n=>?_;exact e<|⟨d,w,by exact Z (vf f) (Z (oD i) (Z (oE m) (Z (oE n) U)))⟩
def aC.za{a:K}(h:aC T F X n (λY(Y:c9)(Y:c9)=>fD) G (.ok () a) c E)(R:be F X G a s):c () s:=h G () s (Le.refl _ _) R trivial
def Xb{T:Tab}{F:au}{X:aU}{V:K}(W:A.units<=6008)(R:be F X G V s)(a:VO F X.lv G ca va)(x:VO F X.lv G ci vi)(b:VO F X.lv G cw v)
 (h:aC T F X n (λY(Y:c9)(Y:c9)=>fD) G (jL ca ci cw V) Qu E):am F.md A (uG va vi v) Qu E s:=by
 refine aC.ite h λS h=>?_;have L:=b.store S.1;clear b S;induction ca using CV.casesOn with
 |cell k=>refine aC.opt h λxs e u=>u.opt λys m c=>?_;clear h u;clear h W;refine av (dE m) λi q m=>?_;obtain rfl:=BE q;replace e:=RW e;clear q;refine aJ x.int_inv λt j=>?_;subst j;clear x;refine aI a.y5 λj M=>?_;subst j;clear a;refine aI ((R.r.cells k _ e).Ii) λC b2=>IH b2 L m λl o d=>aC.za c ⟨R.r.y8 e (.inl C) o d.some (.e9 C d) λy hy=>?_,R.g,R.o⟩;have:=R.r.eY k y hy;unfold ea at this;rw[e]at this;exact ft this
 |bY y=>
  refine aC.opt h λsv e h=>?_;clear W;obtain rfl:va=.ref (G.ad<|.var X.lv y):=a.out;clear a;induction sv using SV.casesOn with
  |ol xs=>refine aC.opt h λys m c=>?_;clear h;clear h;refine av (dE m) λi q m=>?_;clear h;obtain rfl:=BE q;clear q;refine aJ x.int_inv λt j=>?_;subst j;clear x;exact aJ (R.r.slot e nofun nofun) λM Q=>cB (y9 Q) λM P d=>IH d L m λl o z=>aC.za c ⟨R.r.y7 e nofun nofun P o nofun<|.ol P z,R.g,R.o⟩
  |od H=>exact aC.ite h λN h=>h.opt λr m h=>aJ (R.r.slot e nofun nofun) λM Q=>cB (Q.out) λM P d=>IE R d x L N.1 m N.2 λl g o z=>aC.za h ⟨R.r.y7 e nofun nofun P o nofun<|.od P z,R.g,R.o⟩
  |_=>exact h.elim
 |c6 k y=>
  refine aC.opt h λp e h=>h.opt λH Z h=>?_;replace e:=oF e;replace Z:=GK Z;refine aI (a.out:va=.ref (G.ad<|.attr k y)/\_) λj M=>?_;subst j;clear a;refine aJ (Xa R.r e Z) λv0 Q=>aI Q.Cy λP d=>?_;have J:∀{B l g},aC T F X n (λY(Y:c9)(Y:c9)=>fD) G (Internal.R.ok () {V with hp:=V.hp.set k<|.inst p.1 (bN p.2 y (.od B))}) Qu E->fN (G.ad<|.attr k y) s.heap l->fu F G (G.ad<|.attr k y) B l->Qu () {s with heap:=l,toks:=g}:=
   λh o z=>aC.za h ⟨W7 R.r e Z nofun nofun o nofun<|.od P z,R.g,R.o⟩
  clear Z P Q e;rcases O:H.isEmpty&&qj ci with _|_
  rw[O]at h;exact aC.ite h λN h=>h.opt λr m h=>IE R d x L N.1 m N.2 λl g o z=>J h o z;rw[O]at h;clear v0;refine aI (IM O) λp1 p2=>?_;clear O;obtain rfl:=List.isEmpty_iff.mp p1;clear p1;refine eO (IN p2) λf w j=>?_;subst j;exact W9 W R d x L λl g o z=>J h o z
 |_=>exact h.elim
set_option tactic.hygienic true in
def IP{F:au}{d:bK}{l:Oy}{r:ij}{b:bf}{P:Fin->aM->Prop}(iV:d.In s.heap)(f:rB s.heap x o h (I<|dt j m))(w:o.dict=I n)
 (Q:pT d h=I l)(y:l.hasDict=B)(p:(uE name<|dt j m).isSome=B)
 (T:∀t,(ik name (fk F.w.params name) (.str name t) v j).length<=1000)
 (X:∀t r,P (.done<|.ret .none) {s with heap:=s.heap.update n<|kb name (fk F.w.params name) (.str name t) v,toks:=r}):
 am F.md A (ajD (.ref x) (.ref h) (.str name r) name v b) P E s:=by
 refine aL λY=>?_;obtain⟨S,q,L,k⟩:=f;replace k:=(w)▸k;have i:s.heap.get? n=I (dt j m):=k;have M:(s.heap.update n<|kb name (fk F.w.params name) (.str name s.toks) v).get? n=I (dt (ik name (fk F.w.params name) (.str name s.toks) v j)<|xH name j m):=by
  have e:kb name (fk F.w.params name) (.str name s.toks) v (dt j m)=dt (ik name (fk F.w.params name) (.str name s.toks) v j) (xH name j m):=OC ..;have:=k8 (kb name (fk F.w.params name) (.str name s.toks) v) i<|Z e U
  exact e▸this
 clear k L;obtain⟨K,N,R,V⟩:=o;dsimp only at q w;subst q w;refine Y<|af (aE (af (af (FF S (af (ajE (Ov iV Q) (Z y (aE (a:=I n) (af (aE (af (af (af (ajF (aE (af (Op (af (FF i ?_)))))))))))))))))))
 have c:(!j.toArray.any (·.key.isStr name)&&j.toArray.any (·.refKey))=false:=by refine(ajG)▸(ajG)▸?_;have p:(match j.toArray.toList.find? (λe:jt=>e.key.isStr name)with|some e=>I (I e.val)|none=>if j.toArray.toList.any (λe:jt=>e.refKey)then W else I W).isSome=true:=p;split at p;rename_i O G;exact Z (List.any_eq_true.mpr ⟨O,List.mem_of_find?_eq_some G,FG G⟩) U;split at p;exact ft p;rename_i z;rw[FH]at z;refine Z z ?_;rw[Fx]
 dsimp only;rewrite[ajH];refine Z c<|ajI i (af (ajJ M (ajK (by refine Z mZ (Z dY ?_);have:=T s.toks;exact g ‹_› (dk U))) ?_))
 exact aE<|X _ _
def Xd{F:au}{K:bK}{s:aM}{A:bS}{E:bp}{x C:bc}{o:dw}{name:H}{v:ah}{cd:Oy}{tk:ij}{b:bf}{P:Fin->aM->Prop}(iV:K.In s.heap)(hx:s.heap.get? x=I o)(qI:o.cls=.ref C)(hn:pO o=B)(hf:o.isFreed=ag)(hd:o.dict=W)
 (hc:pT K C=I cd)(IQ:cd.hasDict=B)
 (hq:∀t tk,P (.done<|.ret .none) {s with heap:=((s.heap.push i6).update x λo=>{o with dict:=I s.heap.objs.size}).update s.heap.objs.size<|kb name (fk F.w.params name) (.str name t) v,toks:=tk}):
 am F.md A (ajD (.ref x) (.ref C) (.str name tk) name v b) P E s:=by
 have IS:(s.heap.push i6).get? x=I o:=di _ hx;have IT:x≠s.heap.objs.size:=dP<|jy hx
 have c:((s.heap.push i6).update x λo=>{o with dict:=I s.heap.objs.size}).get? s.heap.objs.size=I (dt [] 0):=
  (OD _ _ _ _ IT.symm).trans<|gx _ U
 have D':(((s.heap.push i6).update x λo=>{o with dict:=I s.heap.objs.size}).update s.heap.objs.size<|kb name (fk F.w.params name) (.str name s.toks) v).get? s.heap.objs.size=I (dt (ik name (fk F.w.params name) (.str name s.toks) v [])<|xH name [] 0):=by
  have e:kb name (fk F.w.params name) (.str name s.toks) v (dt [] 0)=dt (ik name (fk F.w.params name) (.str name s.toks) v []) (xH name [] 0):=OC ..;have:=k8 (kb name (fk F.w.params name) (.str name s.toks) v) c<|Z e U
  exact e▸this
 refine aL λhG=>?_;clear IT hf;obtain⟨oc,odi,Xe,osl⟩:=o;dsimp only at qI hd;subst qI hd;refine hG<|af (aE (af (af (FF hx (af (ajE (Ov iV hc) (Z IQ ?_)))))))
 have fin:am F.md A (do
  let d<-alloc {cls:=.type "dict",data:=.dict #[]}
  update x λo=>{o with dict:=I d}
  pure (I d):lP (al bc)) (λa s'=>am F.md A (match a with|some d=>amM d (.str name tk) name v|none=>amN (.ref x) (.ref C) name b) P E s') E s:=by
  refine af<|wpAny_alloc (af (wpAny_update IS (aE (af (aE (af (af (af (ajF (aE (af (Op (af (FF c ?_))))))))))))))
  dsimp only;rewrite[ajH];exact Z (show(!([]:D jt).toArray.any (·.key.isStr name)&&([]:D jt).toArray.any (·.refKey))=ag from by simp)<|ajI c (af (ajJ D' (ajK (by have:=(show(ik name (fk F.w.params name) (.str name s.toks) v []).length<=1 from by simp[ik]);exact Z mZ (Z dY (g ‹_› (dk U))))) (aE (hq _ _))))
 clear hG IS hq IQ hc hx;cases Xe<;>first|exact fin|exact ft hn
def Xf{F:au}{a:bK}(iV:a.In s.heap)(c:rB s.heap x o d (I<|dt i m))(j:o.dict=I k)
 (e:CF a d)(n:fp a (.ref d) name=I W)(p:(uE name<|dt i m).isSome=B)
 (q:∀t,(ik name (fk F.w.params name) (.str name t) v i).length<=1000)
 (r:∀t w,y () {s with heap:=s.heap.update k<|kb name (fk F.w.params name) (.str name t) v,toks:=w}):
 am F.md A (uJ (.ref x) name v) y E s:=by
 have f:ajL a d name=I none:=by unfold ajL;exact Z n U
 exact aL λz=>av e.cd λG l h=>z<|OE iV c e.set (W.osa_open (s:={s with toks:=s.toks+1}) iV c e.over f λb=>IP (s:={s with toks:=s.toks+1}) iV c j l h p q r)
def Xg{F:au}{a:bK}(iV:a.In s.heap)(c:rB s.heap x o d (I<|dt h m))(i:o.dict=I j)
 (e:jm a d)(k:fp a (.ref d) name=I W)(n:(uE name<|dt h m).isSome=B)
 (p:∀t,(ik name (fk F.w.params name) (.str name t) v h).length<=1000)
 (q:∀t r,w () {s with heap:=s.heap.update j<|kb name (fk F.w.params name) (.str name t) v,toks:=r}):
 am F.md A (uJ (.ref x) name v) w E s:=by
 exact aL λy=>fQ e.clsIn λG P z l f l=>y<|OE iV c e.set (Iv (s:={s with toks:=s.toks+1}) iV c e k λb=>IP (s:={s with toks:=s.toks+1}) iV c i z f n p q)
def Xh{F:au}{a:bK}(iV:a.In s.heap)(f:s.heap.get? x=I o)(e:o.cls=.ref c)(j:pO o=B)(k:o.dict=W)
 (h:jm a c)(m:fp a (.ref c) name=I W)
 (n:∀t p,q () {s with heap:=((s.heap.push i6).update x λo=>{o with dict:=I s.heap.objs.size}).update s.heap.objs.size<|kb name (fk F.w.params name) (.str name t) v,toks:=p}):
 am F.md A (uJ (.ref x) name v) q E s:=by
 refine aL λr=>fQ h.clsIn λz l w y i y=>?_;have d:rB s.heap x o c none:=⟨f,e,j,by refine Z k ?_;trivial⟩;exact r<|OE iV d h.set (Iv (s:={s with toks:=s.toks+1}) iV d h m λb=>Xd (s:={s with toks:=s.toks+1}) iV f e j (Heap.get?_some_iff.mp f).2 k w i n)
def dJ.set(R:dJ F G h k e f)(s:Tr S G i h z)(L:Le n G i)
 (b:∀y,S (.attr k y)->y=x)(c:cQ F i z (.attr k x) P v):dJ F i z k (bN e x P) (ik x (fk F.w.params x) (.str x t) v f):=by
 induction e generalizing f with
 |nil=>exact Z R.nl<|.cons U U U c .nil
 |cons p e l=>
  obtain⟨d,f,X,Q,j,m,A,r,a⟩:=R.out;subst Q;have E:d.key.isStr x=(p.1==x):=Z m U;unfold ik;refine Z E ?_;clear E;by_cases w:p.1=x;clear l;refine Z (lu w) ?_;subst w;rewrite[j9];exact Z (aa U)<|.cons j m A c (IG L s a j λy T o=>T (b _ o))
  exact Z (jj w)<|Z (beq_eq_false_iff_ne.mpr w) (Z (u iN) (.cons (by rewrite[eA];exact(u λq=>w q.symm).trans j) m A (r.tr s L (ao · rfl) (λo=>w (b _ o))) (l a)))
def dJ.len(R:dJ F G h k c f):f.length=c.length:=by
 induction c generalizing f with
 |nil=>exact Z R.nl U|cons p c i=>obtain⟨d,f,t,e,_,_,_,_,a⟩:=R.out;exact Z e<|bq rr (i a)
def Xi(x:H)(e:V)(c v:ah)(a:D jt):(ik x e c v a).length<=a.length+1:=by
 induction a with
 |nil=>simp[ik]|cons d a f=>unfold ik;split;simp;simp only [bw];exact ut ‹_›
structure lx(X:aU)(k:J)(x:H)(G G':Gh):Prop where
 le:Le (X.lv+1) G G'
 fz:∀a o,G'.fz a=I o->G.fz a=I o
 tm:∀a p,G'.tm a=I p->G.tm a=I p/\G'.ow a=.gU
 fw:∀a,G.ow a=.fz->G'.ow a=.fz
 lt:∀a,G'.ow a≠.none->G.ow a≠.none
 cell:∀a k',G'.ow a=.cell k'->G.ow a=.cell k'
 attr:∀a k' y,G'.ow a=.attr k' y->G.ow a=.attr k' y\/(k'=k/\y=x)
 ad:∀c,c≠.attr k x->G'.ad c=G.ad c
 ow:∀b,G.ow b≠.gU->G'.ow b=G.ow b
def lx.refl{c:K}(R:aG F X G c h)(k:J)(x:H):lx X k x G G:=
 ⟨Le.refl _ _,λY Y e=>e,λa p e=>⟨e,(R.tm a p e).2⟩,λY e=>e,λY e=>e,λY Y e=>e,λY Y Y e=>.inl e,λY Y=>rfl,λY Y=>rfl⟩
def lx.claim{G:Gh}{r:K}(R:aG F X G r h)(s:¬G.ow (G.ad<|.attr k x)=.attr k x)(m:G.tm a=I (X.lv+1,o)):lx X k x G (G.claim (.attr k x) a):=by
 have d:=(R.tm a _ m).2;refine⟨⟨λb o e=>e,λf e=>?_,λf y e=>?_,λi y n=>nH (ao · rfl),λb i w e n=>?_⟩,λY Y e=>e,λb p e=>?_,λb e=>?_,λb e=>?_,λb f e=>?_,λb f y e=>?_,λc t=>nH t,λb v=>o0 λq=>v<|Z q d⟩;exact⟨nH (ao · rfl),(Z (o0 λq=>by rw[q,d]at e;exact ao e U) e)⟩;have j:d8.attr f y≠.attr k x:=λq=>by rw[q]at e;exact s e
 exact⟨nH j,(Z (o0 λq=>by rw[q,d]at e;exact ao e U) e)⟩;refine(?_:(if b=a then W else G.tm b)=_);clear d;exact Z (u λq=>by subst q;rw[m]at e;cases e;exact n8 _ n) e;change(if b=a then W else G.tm b)=_ at e;by_cases q:b=a;rw[aa q]at e;exact aD e;rw[u q]at e;exact⟨e,(o0 q).trans (R.tm b p e).2⟩;exact Z (o0 λq=>by rw[q,d]at e;exact ao e U) e;by_cases q:b=a;refine Z q<|Z d ?_;simp
 exact(o0 q)▸e;by_cases q:b=a;rw[q,y6]at e;exact ao e U;exact(o0 q)▸e;by_cases q:b=a;clear d;rw[q,y6]at e;obtain⟨rfl,rfl⟩:=d8.attr.inj e;exact .inr ⟨U,U⟩;rw[o0 q]at e;exact .inl e
def aG.setAttr{n:K}(R:aG F X G n h)(e:n.hp[k]?=I (.inst c E))(hi:oW F G h k c E)(f:lx X k x G A)
 (P:G.ow (G.ad<|.dict k)=.dict k)(T:fN (G.ad<|.dict k) h Q)(h1:h.get? (G.ad<|.dict k)=I (dt c0 m))(ha:dJ F G h k E c0)
 (H:Q.get? (G.ad<|.dict k)=I (dt (ik x (fk F.w.params x) (.str x t) v c0) m'))(S:cQ F A Q (.attr k x) sv v):
 aG F X A {n with hp:=n.hp.set k<|.inst c (bN E x sv)} Q:=by
 have s:Tr (λa=>a=.dict k\/a=.gU\/a=.attr k x) G A h Q:=
  ⟨λb o q hb=>(T.2 b λz=>hb (.inl ((z)▸P))).trans q,λb hb M=>f.ow b λq=>M<|.inr (.inl q),λa hO=>f.ad a λq=>hO<|.inr (.inr q)⟩
 have L:=f.le;refine aL λhG=>?_;obtain⟨o,d,es,n',N,a2,a3,a4,a5,a6,a7,a8,a9,V⟩:=hi;have hk:k<n.hp.length:=by
  rcases j8 k n.hp.length with q|q
  exact q;rw[pR q]at e;exact aD e
 have d1:=f.ad (.cell k) (ao · rfl);have g:=f.ad (.dict k) (ao · rfl);have w1:A.ow (G.ad<|.cell k)=.cell k:=(f.ow _<|by refine Z N ?_;simp).trans N;have w2:A.ow (G.ad<|.dict k)=.dict k:=(f.ow _<|by refine Z P ?_;simp).trans P;refine hG<|⟨R.sys,λb o q=>L.fz _ _ (R.ey b o q),λb o q=>?_,λb p q=>?_,λb q=>?_,λj O l=>?_,λj r=>?_,λj y r=>?_,?_,?_,R.fr⟩
 have:=R.fz b o<|f.fz b o q
 exact⟨s.keep b o this.1<|by refine Z this.2 ?_;simp,f.fw b this.2⟩;refine aI (f.tm b p q) λq1 q2=>?_;have:=R.tm b p q1;exact⟨(T.2 b (λz=>by rw[z,P]at this;exact ao this.2 U)).trans this.1,q2⟩;by_cases z:b=G.ad (.dict k);exact(z)▸dy H;exact(T.2 b z)▸R.lt b (f.lt b q);change(n.hp.set k _)[j]?=_ at l;rw[A3]at l;by_cases q:k=j;subst q;rw[aa U,aa hk]at l;obtain rfl:=aK l;exact .inst ((d1)▸w1) (Z d1 (s.keep _ _ a2 (by refine Z N ?_;simp))) a3 a4 a5 ((g)▸a6) ((g)▸w2) ((g)▸H)
  (ha.set s L (by intro y hy;simpa using hy) S) V
 rw[u q]at l;exact(R.cells j O l).tr s L (by simp) (by simp;exactλz=>q z.symm) (by intro y;simp;exactλz=>aF z.symm q);refine((Z FC (R.fH j ?_)):j<(n.hp.set k _).length);rw[f.ad _ (ao · rfl)]at r;exact f.cell _ _ r;unfold ea;refine(A3)▸?_;by_cases q:k=j;subst q;refine(aa U)▸(aa hk)▸((?_:(ay (bN E x sv) y).isSome=B));rw[eA];by_cases z:x=y;exact Z (aa z) U;refine(u z)▸?_;rw[f.ad _ (by simp;exactλw=>z w.symm)]at r;rcases f.attr _ _ _ r with w|w
 have:=R.eY k y w;unfold ea at this;rw[e]at this;exact this;exact aF w.2.symm z;refine(u q)▸?_;rw[f.ad _ (by simp;exactλw=>aF w.symm q)]at r;rcases f.attr _ _ _ r with w|w
 exact R.eY j y w;exact aF w.1.symm q;exact R.top.tr s L (by simp) (by intro i y _;simp) λy=>.inl (by simp);exact R.out.tr s L λi Y=>⟨by simp,(by intro y;simp),by intro y;simp⟩
def Xj(h:vt o (.ol a)=B):o=none:=by
 rcases o with _|w
 rfl;exact ft h
def Xk(h:vt o (.od a)=B):o=none:=by
 rcases o with _|w
 rfl;exact ft h
def IU{h:bG}(c:h.get? a=I o):((h.push i6).update a λo=>{o with dict:=I d}).get? a=I {o with dict:=I d}:=by refine k8 _ (di _ c) ?_;have e:o.isFreed=false:=(Heap.get?_some_iff.mp c).2;clear c;obtain⟨j,k,f,i⟩:=o;induction f using FI<;>first|rfl|exact e
def IV{c:V}{v:ah}{d:D (H×SV)}(f:e.length=d.length)(a:d.length<=50):(ik x c h v e).length<=1000:=g (Xi x c h v e)<|by refine Z f ?_;exact g (fF a) (dk U)
def aG.Xl{H:K}(R:aG F X G H h)(e:H.hp[k]?=I (.inst c []))(S:h.get? (G.ad<|.cell k)=I o)(g:o.dict=W):
 ∃v,aG F X v H ((h.push i6).update (G.ad<|.cell k) λo=>{o with dict:=I h.objs.size})/\(∀n,Le n G v)/\v.ad (.cell k)=G.ad (.cell k)/\v.ad (.dict k)=h.objs.size:=by
 refine⟨{G with ad:=λm=>if m=.dict k then h.objs.size else G.ad m,ow:=λb=>if b=h.objs.size then .dict k else G.ow b},?_⟩;generalize s:({G with ad:=λm=>if m=.dict k then h.objs.size else G.ad m,ow:=λb=>if b=h.objs.size then .dict k else G.ow b}:Gh)=v;have M:v.ad (.dict k)=h.objs.size:=ax s<|aa U
 have O:v.ow h.objs.size=.dict k:=ax s<|aa U
 have l:∀m,m≠.dict k->v.ad m=G.ad m:=λm hO=>ax s<|u hO
 have N:∀b,b≠h.objs.size->v.ow b=G.ow b:=λb P=>ax s<|u P
 have z:v.fz=G.fz:=ax s U;have t:v.tm=G.tm:=ax s U;have T:∀b,G.ow b≠.none->v.ow b=G.ow b:=λb P=>N b λq=>P (Z q (R.fresh (aA _)));have L:∀n,Le n G v:=λn=>by refine⟨λb o q=>by refine Z z ?_;exact q,λk q=>⟨l _ (ao · rfl),?_⟩,λk y q=>⟨l _ (ao · rfl),?_⟩,λj y Y=>l _ (ao · rfl),λb i o q Y=>by refine Z t ?_;exact q⟩;exact Z (T _<|by rw[q];simp) q;rw[T _<|by rw[q];simp];exact q
 have A:G.ad (.cell k)≠h.objs.size:=dP<|jy S
 have E:G.ow (G.ad<|.cell k)=.cell k:=(R.cells k _ e).out.elim (λz=>oW.casesOn (motive:=λY=>G.ow (G.ad<|.cell k)=.cell k) z λY Y Y Y a Y Y Y Y Y Y Y Y Y=>a) λz=>vF.casesOn (motive:=λY=>G.ow (G.ad<|.cell k)=.cell k) z λY Y Y a Y Y Y Y Y Y Y=>a;have mz:=IU (d:=h.objs.size) S;have r:∀b B,b≠G.ad (.cell k)->h.get? b=I B->((h.push i6).update (G.ad<|.cell k) λo=>{o with dict:=I h.objs.size}).get? b=I B:=λb B P q=>(OD _ _ _ _ P).trans<|di _ q
 have V:((h.push i6).update (G.ad<|.cell k) λo=>{o with dict:=I h.objs.size}).get? h.objs.size=I (dt [] 0):=(OD _ _ _ _ A.symm).trans<|gx _ U
 have D:Tr (λm=>m=.cell k\/m=.dict k) G v h ((h.push i6).update (G.ad<|.cell k) λo=>{o with dict:=I h.objs.size}):=
  ⟨λb o q P=>r b o (λw=>P<|.inl (by rw[w];exact E)) q,λb P Y=>T b P,λm hO=>l m λq=>hO<|.inr q⟩
 refine⟨⟨R.sys,λb o q=>(L 0).fz _ _<|R.ey b o q,λb o q=>?_,λb p q=>?_,λb q=>?_,λQ nI C=>?_,λQ x=>?_,λQ y x=>?_,?_,?_,R.fr⟩,L,l _ (ao · rfl),M⟩;rw[z]at q;have:=R.fz b o q;exact⟨D.keep _ _ this.1<|by rw[this.2];simp,(T b<|by rw[this.2];simp).trans this.2⟩;rw[t]at q;have:=R.tm b p q;exact⟨D.keep _ _ this.1<|by rw[this.2];simp,(T b<|by rw[this.2];simp).trans this.2⟩;refine aL λs=>?_;clear E A t z l O M g S e;by_cases w:b=h.objs.size;refine s ?_;rw[w];exact dy V;rw[N b w]at q;clear w V N;by_cases w':b=G.ad (.cell k);refine s ?_;rw[w'];exact dy mz;clear mz o;obtain⟨B,x⟩:=Option.isSome_iff_exists.mp<|R.lt b q
 exact s<|dy (r b B w' x)
 refine aL λs=>?_;clear r E A t z N;by_cases w:Q=k;clear D;subst w;rw[e]at C;obtain rfl:=aK C;clear C;refine(R.cells Q _ e).out.elim (λz=>?_) λz=>?_;obtain⟨_,_,_,_,_,b,_,_,_,f,_,_,_,_⟩:=z;obtain rfl:=aK<|S.symm.trans b;exact aD<|g.symm.trans f
 obtain⟨_,_,_,a,b,c,d,f,_,i,j⟩:=z;obtain rfl:=aK<|S.symm.trans b
 exact s<|.inst (o:={o with dict:=I h.objs.size}) (es:=[]) (n:=0) (by rw[l _ (ao · rfl)];exact(T _ (by rw[a];simp)).trans a) (by rw[l _ (ao · rfl)];exact mz) c d f (by rw[M]) (by rw[M];exact O) (by rw[M];exact V) .nil (λY=>by obtain⟨vs,t0,q1,q2,q3,q4⟩:=j;exact⟨vs,t0,q1,q2,q3,q4⟩)
 exact s<|(R.cells Q nI C).tr D (L 0) (by simp;exact w) (by simp;exact w) (by simp)
 rw[l _ (ao · rfl)]at x;refine aL λs=>?_;clear V r mz E A T t z l M g S e;by_cases w:G.ad (.cell Q)=h.objs.size;rw[w,O]at x;exact ao x U;rw[N _ w]at x;exact s<|R.fH Q x
 rw[l _ (ao · rfl)]at x;refine aL λs=>?_;clear V r mz E A T t z l M g S e;by_cases w:G.ad (.attr Q y)=h.objs.size;rw[w,O]at x;exact ao x U;rw[N _ w]at x;exact s<|R.eY Q y x
 exact R.top.tr D (L 0) (by simp) (by intro i y _;simp) λy=>.inl<|by simp
 exact R.out.tr D (L 0) λi Y=>⟨by simp,(by intro y;simp),by intro y;simp⟩
def IW(a:dJ F G h k e f):(uE x<|dt f m).isSome=true:=by
 refine aL λd=>aI (a.look (m:=m) (y:=x)) λi j=>?_;rcases q:ay e x with _|c
 exact d<|Z (j q) U
 exact av (i c q) λw o n=>d<|Z n U
def CJ{h:bG}(e:h.get? a=I (dt c m)):
 (h.update a<|kb x hx (.str x t) v).get? a=I (dt (ik x hx (.str x t) v c)<|xH x c m):=by
 have d:kb x hx (.str x t) v (dt c m)=dt (ik x hx (.str x t) v c) (xH x c m):=OC ..;have f:=k8 (kb x hx (.str x t) v) e<|d▸rfl
 exact d▸f
def CK(F:au)(X:aU)(n:J)(G:Gh)(d:K)(e:c9->aM->Prop):Prop:=∀a c,Le n G a->be F X a d c->e () c
def CL{a:bK}{X:aU}{i:Gh}{j:K}{E:bp}(p:d0 T F a){k:J}{c:aX}{q:D (H×SV)}{x:H}{v:ah}{b:SV}{l:c9->aM->Prop}(R:be F X G j s)(e:j.hp[k]?=I (.inst c q))(M:T.attr c x=B)(h:q.length<=50)(f:T.exc c=ag)
 (N:lx X k x G i)(r:Le n G i)(w:∀P,fN (G.ad<|.dict k) s.heap P->G.ow (G.ad<|.dict k)=.dict k->cQ F i P (.attr k x) b v)
 (U:CK F X n G {j with hp:=j.hp.set k<|.inst c (bN q x b)} l):am F.md A (uJ (.ref<|G.ad (.cell k)) x v) l E s:=by
 have Q:=sD (R.r.cells k _ e)<|.inr (p.exc▸f)
 obtain⟨o,d,C,m,a1,Z,V,Y,g,S,L,y,z,O⟩:=id Q;have u:=z.len;exact Xf (R.r.gW p) (vY Z V g S y) S (p.cls c d Y f) (p.vV c d x Y M) (IW z) (λt=>IV u h) λt tk=>U i _ r ⟨R.r.setAttr e Q N L (jD ..) y z (CJ y)<|w _ (jD ..) L,R.g,R.o⟩
def Xm{T:Tab}{F:au}{a:bK}{b:K}{n:J}{A:bS}{E:bp}(j:d0 T F a){k:J}{c:aX}{Q:D (H×SV)}{x:H}{v:ah}{V:CV}{g:c9->aM->Prop}(R:be F X G b s)(e:b.hp[k]?=I (.inst c Q))(Y:T.attr c x=B)(i:Q.length<=50)(h:T.exc c=B)
 (r:VR F G V v)(O:CK F X n G {b with hp:=b.hp.set k<|.inst c (bN Q x (.v V))} g):am F.md A (uJ (.ref<|G.ad (.cell k)) x v) g E s:=by
 refine aL λS=>?_;rcases(R.r.cells k _ e).out with y|⟨o,f,rfl,u,p,l,q,P,w,L,z⟩
 obtain⟨o,f,ds,m,u,p,l,q,P,w,L,z,M,IX⟩:=id y;have dl:=M.len;exact S<|Xg (R.r.gW j) (vY p l P w z) w (j.ex c f q h) (j.vV c f x q Y) (IW M) (λt=>IV dl i) λt tk=>O G _ (Le.refl _ _) ⟨R.r.setAttr e y (lx.refl R.r k x) L (jD ..) z M (CJ z) (.v r),R.g,R.o⟩
 refine S<|Xh (R.r.gW j) p l P w (j.ex c f q h) (j.vV c f x q Y) λt tk=>?_
 clear z L P q l u S h i Y;refine l5 (R.r.Xl e p w) λCd mA IY C N=>?_;have mz:=IU (d:=s.heap.objs.size) p;have y:=W6 (mA.cells k _ e) (Z C mz) U;clear mz C w p;obtain⟨o',C',ds,m,b1,b2,b3,b4,b5,b6,b7,b8,b9,b10⟩:=id y;exact ax N<|O Cd _ (IY _) ⟨mA.setAttr e y (lx.refl mA k x) b7 (Z N (jD ..)) b8 b9 (by have g2:=CJ (x:=x) (t:=t) (v:=v) (hx:=fk F.w.params x) b8;rw[N]at g2⊢;exact g2) (.v (r.mono (IY 0))),R.g,R.o⟩
def IZ{F:au}{X:aU}{G:Gh}{c:K}{a:bG}(R:aG F X G c h){b:bc}{k:J}{p:J×dw}(q:G.tm b=I p)(d:fN (G.ad<|.dict k) h a)(e:G.ow (G.ad<|.dict k)=.dict k):a.get? b=I p.2:=by refine(d.2 b λz=>?_).trans (R.tm b p q).1;have:=(R.tm b p q).2;rw[z,e]at this;exact d8.noConfusion this
def I5{F:au}{X:aU}{G:Gh}{d:K}{h:bG}(R:aG F X G d h){k:J}{c:aX}{f:D (H×SV)}{x:H}(e:d.hp[k]?=I (.inst c f))(q:ay f x=none):¬G.ow (G.ad<|.attr k x)=.attr k x:=λw=>by have:=R.eY k x w;unfold ea at this;rw[e]at this;exact ft<|show(none:al SV).isSome=B from q▸this
def Xn{T:Tab}{F:au}{d:bK}{X:aU}{G:Gh}{z:K}{s:aM}{n:J}{A:bS}{E:bp}(b:d0 T F d){x:H}{D:CV}{v:ah}{l:SV}{S:c9->aM->Prop}(R:be F X G z s)(a:VO F X.lv G D va)(B:fb F X.lv G l v)(M:n<=X.lv+1\/∃c,l=.v c)
 (h:aC T F X n (λY(Y:c9)(Y:c9)=>fD) G (kr T D x l z) S E):am F.md A (uJ va x v) S E s:=by
 refine aC.opt h λk q h=>h.opt λp e h=>h.ite λg f=>?_;clear h;refine aL λP=>?_;obtain rfl:=vj q;replace e:=oF e;clear q;obtain⟨c,O⟩:=p;obtain⟨Q,i,j,m⟩:=g;obtain⟨rfl,_⟩:=a.y5;clear h a;have o:CK F X n G {z with hp:=z.hp.set k<|.inst c (bN O x l)} S:=λN u L C=>f N () u L C trivial;clear f;clear h;rcases w:T.exc c with _|_
 clear j;induction B using fb.casesOn with
 |v r=>exact P<|CL b R e Q i w (lx.refl R.r k x) (Le.refl _ _) (λY Y Y=>.v r) o
 |ol y t2=>have t:=lx.claim R.r (I5 R.r e<|Xj m) y;exact P<|CL b R e Q i w t (t.le.down (M.resolve_right nofun)) (λh' Z I=>IA (IZ R.r y Z I) (t2.mono t.le)) o
 |od y=>have t:=lx.claim R.r (I5 R.r e<|Xk m) y;exact P<|CL b R e Q i w t (t.le.down (M.resolve_right nofun)) (λh' Z I=>IB (IZ R.r y Z I)) o
 have V:=j w;clear m j M;induction B using fb.casesOn with
 |v r=>exact P<|Xm b R e Q i w r o
 |ol=>exact ft V|od=>exact ft V
noncomputable def Gh.freeze(G:Gh)(a:bc)(o:dw):Gh:={G with ow:=λb=>if b=a then .fz else G.ow b,fz:=λb=>if b=a then I o else G.fz b}
def aG.freeze{O:K}(R:aG F X G O h)(e:ay O.loc x=I (.ol xs)):
 ∃o,aG F X (G.freeze (G.ad<|.var X.lv x) o) (cq x (.v<|.lst xs) O) h/\(∀n,Le n G<|G.freeze (G.ad (.var X.lv x)) o)/\VR F (G.freeze (G.ad<|.var X.lv x) o) (.lst xs) (.ref<|G.ad (.var X.lv x)):=by
 refine aL λP=>?_;obtain⟨_,r⟩:=R.slot e nofun λh=>cO SV.ctorIdx h U;obtain⟨_,T,W,m,hg,N⟩:=y9 r;refine P<|⟨bO W m,?_⟩
 generalize P:G.freeze (G.ad<|.var X.lv x) (bO W m)=D;have E:D.ow (G.ad<|.var X.lv x)=.fz:=(P)▸aa U;have f:∀b,b≠G.ad (.var X.lv x)->D.ow b=G.ow b:=λb hb=>(P)▸u hb;have A:D.fz (G.ad<|.var X.lv x)=I (bO W m):=(P)▸aa U;have j:∀b,b≠G.ad (.var X.lv x)->D.fz b=G.fz b:=λb hb=>(P)▸u hb;have t:∀a,D.ad a=G.ad a:=λa=>ax P U;have S:∀b,D.tm b=G.tm b:=λa=>ax P U;have L:∀n,Le n G D:=λn=>by refine⟨λb o q=>?_,λk q=>⟨t _,?_⟩,λk y q=>⟨t _,?_⟩,λY Y Y=>t _,λb i o q Y=>by rw[S];exact q⟩;exact Z (j b λz=>by have:=(R.fz b o q).2;rw[z,T]at this;exact ao this U) q;exact Z (f _ λz=>by rw[z,T]at q;exact ao q U) q;exact Z (f _ λz=>by rw[z,T]at q;exact ao q U) q
 have Tt:Tr (λa=>a=.var X.lv x) G D h h:=⟨λb o q Y=>q,λb Y hb=>f b λz=>hb<|(z)▸T,λa Y=>t a⟩;have d:VR F D (.lst xs) (.ref<|G.ad (.var X.lv x)):=.lst A<|N.mono (L 0)
 refine⟨⟨R.sys,λb o q=>(L 0).fz _ _<|R.ey b o q,λb o q=>?_,λb p q=>?_,λb q=>?_,λk C q=>?_,λk q=>?_,λk y q=>?_,?_,?_,R.fr⟩,L,d⟩;clear S t N T r P e;by_cases z:b=G.ad (.var X.lv x);clear j f P;subst z;rw[A]at q;obtain rfl:=aK q;exact⟨hg,E⟩;rw[j b z]at q;exact⟨(R.fz b o q).1,(f b z).trans (R.fz b o q).2⟩;rw[S]at q;have:=R.tm b p q;exact⟨this.1,(f b λz=>by rw[z,T]at this;exact ao this.2 U).trans this.2⟩;clear S t j A E N T r P e;by_cases z:b=G.ad (.var X.lv x);exact(z)▸dy hg;rw[f b z]at q;exact R.lt b q;exact(R.cells k C q).tr Tt (L 0) (ao · rfl) (ao · rfl) λY h=>ao h U;rw[t]at q;clear S t j A N hg T r P e;by_cases z:G.ad (.cell k)=G.ad (.var X.lv x);rw[z,E]at q;exact ao q U;rw[f _ z]at q;exact R.fH k q;rw[t]at q;clear S t j A N hg T r P e;by_cases z:G.ad (.attr k y)=G.ad (.var X.lv x);rw[z,E]at q;exact ao q U;rw[f _ z]at q;exact R.eY k y q;have l:=R.top;clear S j A E N hg P;obtain⟨m0,hm,B⟩:=l.ns;have H:∀{o:al ah},jl F G h (.var X.lv x) (.ol xs) o->o=I (.ref<|G.ad (.var X.lv x)):=by intro o r;clear B hm m0 l t f m W T P e;exact r.out.elim (λe=>cO SV.ctorIdx e U) λ⟨x,e,r⟩=>e.trans<|bq I r.out.1
 exact{
  kind:=l.kind,glob:=l.glob,blt:=l.blt,kd:=l.kd
  lo:=(f _ λz=>by have:=l.lo;rw[z,T]at this;exact ao this U).trans l.lo
  la:=(t _).trans l.la
  ns:=by
   refine⟨m0,hm,λy g M Q=>?_⟩;change ay (bN O.loc x _) y=_ at Q;rw[eA]at Q;clear hm l t f m W T r P;by_cases q:x=y;subst q;rw[aa U]at Q;obtain rfl:=aK Q;exact Z (H<|B _ g _ e)<|.s (.v d)
   rw[u q]at Q;exact(B y g _ Q).tr Tt (L 0) (ao · rfl)<|by simp;exactλz=>q z.symm
  ce:=λy g=>by
   clear B hm m0 t m W P;obtain⟨c,o,e2,V,⟨C,e4,e5⟩,r⟩:=l.ce y g;have oc:D.ow c=G.ow c:=f c λz=>by rw[z,T]at V;exact ao V U
   refine⟨c,o,e2,oc.trans V,⟨C,e4,e5⟩,λM Q=>?_⟩;change ay (bN O.loc x _) y=_ at Q;rw[eA]at Q;clear oc e5 e4 V e2 c g l C f T;by_cases q:x=y;subst q;rw[aa U]at Q;obtain rfl:=aK Q;exact Z (H<|r _ e)<|.s (.v d)
   rw[u q]at Q;exact(r _ Q).tr Tt (L 0) (ao · rfl)<|by simp;exactλz=>q z.symm
  fr:=λy g=>by
   clear H B hm m0 t m W P;obtain⟨c,o,i,e2,hi,V,⟨C,e4,e5⟩,r⟩:=l.fr y g;have CI:x≠y:=λq=>by clear hi e5 e4 V e2 c g l C i f T;subst q;rcases r _ e with r|⟨cv,_,r,_⟩<;>exact cO SV.ctorIdx r U
   have oc:D.ow c=G.ow c:=f c λz=>by rw[z,T]at V;exact ao V U
   refine⟨c,o,i,e2,hi,oc.trans V,⟨C,e4,e5⟩,λM Q=>?_⟩;change ay (bN O.loc x _) y=_ at Q;rw[eA,u CI]at Q;rcases r _ Q with r|⟨cv,w,r1,r2,r3⟩
   exact .inl r;exact .inr ⟨cv,w,r1,r2,r3.mono<|L 0⟩
  own:=λy M q=>by change ay (bN O.loc x _) y=_ at q;rw[eA]at q;by_cases z:x=y;rw[aa z]at q;obtain rfl:=aK q;exact .inl ⟨_,U⟩;rw[u z]at q;exact l.own y M q}
 exact R.out.tr Tt (L 0) λi hi=>⟨by exactλh=>ao h U,by exactλY h=>ao h U,(by intro y z;injection z with z;subst z;exact n8 _ hi)⟩
end
section
open PySem
def M.bind_assoc(m:M α)(f:α->M β)(c:β->M γ):M.bind (M.bind m f) c=M.bind m (λa=>M.bind (f a) c):=by funext s;unfold M.bind;generalize m s=z;induction z using R.casesOn<;>rfl
def zb(h:M.bind m f s=.ok r d):∃a c,m s=.ok a c/\f a c=.ok r d:=by unfold M.bind at h;generalize m s=z at h;induction z using R.casesOn with|ok a c=>exact⟨a,c,U,h⟩|_=>exact cO Internal.R.ctorIdx h U
def Xo{e:ai}(h:(e.ctorIdx==7)=ag){α:Type}{f:D ai->J->cJ->α}{g:α}:amO (λY=>α) e f (λY=>g)=g:=by induction e using gL with|Set=>exact tf h|_=>rfl
def CM(h:ql a=ag)(x:ah):foldedSetIterable a c x=pure x:=Xo h
def Xp(h:lq e=ag):amP (λY=>α) e f (λY=>a)=a:=by induction e using gL with|Slice=>exact tf h|_=>rfl
def I6{x p}:aB T a (n+1) (.Name x p)=em T x:=U
def I7{a c p}:aB T d (n+1) (.BoolOp a c p)=jN T d n a c:=U
def Xq{l c r p}:aB T d (n+1) (.BinOp l c r p)=(aB T d n l).bind λa=>(aB T d n r).bind λb=>ej c a b:=U
def I8{c x p}:aB T d (n+1) (.UnaryOp c x p)=(aB T d n x).bind λa=>nu c a:=U
def I9{t b o p}:aB T a (n+1) (.IfExp t b o p)=M.bind (M.bind (aB T a n t) bx) λq=>if q=B then fy (aB T a n b)else fy (aB T a n o):=U
def Xr{a k p}:aB T d (n+1) (.Tuple a k p)=ji (bV a) ((kv T d n a).bind λc=>ji (ku c)<|M.pure (.tup c)):=U
def Xs{a p}:aB T d (n+1) (.List a p)=ji (bV a) ((kv T d n a).bind λc=>ji (ku c)<|if T.gQ p=B then BX c else M.pure (.lst c)):=U
def Xt{a c p}:aB T d (n+1) (.Dict a c p)=if decide (a.length>15)then C else qd ((qm a c).map .dA):=U
def Ja{l c d p}:aB T e (n+1) (.Compare l c d p)=(aB T e n l).bind λa=>gm T e n a c d:=U
def Xu{o m a args p c}(e:mi m args=I c):aB T d (n+1) (.Call (.Attribute o m a) args [] p)=if !gk o||!bV args||decide (args.length>20)||a.endLine !=p.line then C else(aB T d n o).bind λr=>sq r c.1 c.2:=by show oS T d n (ev T d n) (.nA o m a args p)=_;unfold oS;dsimp only;exact Z e U
def Xv{o m c args p}(e:mi m args=W):aB T a (n+1) (.Call (.Attribute o m c) args [] p)=if !gk o||!bV args||decide (args.length>20)||c.endLine !=p.line then C else(aB T a n o).bind λr=>(oI T r m).bind λd=>(kv T a n args).bind λf=>cH T a d.1 (d.2++f):=by show oS T a n (ev T a n) (.nA o m c args p)=_;unfold oS;dsimp only;exact Z e U
def Xw{f c args p}:aB T a (n+1) (.Call (.Name f c) args [] p)=if !bV args||decide (args.length>20)then C else(em T f).bind λd=>(kv T a n args).bind λe=>cH T a d e:=U
def Xx{a p}:aB T c (n+1) (.JoinedStr a p)=if decide (a.length<2)||decide (a.length>10)then C else(jC (aB T c n) a).bind λx=>eg x:=U
def Jb{o a p}:aB T c (n+1) (.Attribute o a p)=if gk o then(aB T c n o).bind λr=>iu T r a else C:=U
def Xy{v l c p q}:aB T d (n+1) (.Subscript v (.Slice l c W p) q)=(aB T d n v).bind λr=>(qy T d n l).bind λa=>(qy T d n c).bind λb=>ir r a b:=U
def Xz{v a b c p q}:aB T d (n+1) (.Subscript v (.Slice W W (I<|.UnaryOp .USub (.Constant (.int 1) a b) c) p) q)=(aB T d n v).bind λr=>nv r:=U
def XA(h:lq i=ag):sj v i=.sub v i:=by unfold lq at h;unfold sj;generalize yA i=z at h;induction z using bL with|none=>rfl|some=>exact tf h
def XB{v i q}(c:lq i=ag):aB T a (n+1) (.Subscript v i q)=(aB T a n v).bind λr=>(aB T a n i).bind λk=>fT r k:=by show oS T a n (ev T a n) (sj v i)=_;exact Z (XA c) U
def XC:kv T a (n+1) []=M.pure []:=U
def XD{e a}:kv T c (n+1) (e::a)=(aB T c n e).bind λv=>(kv T c n a).bind λd=>M.pure (v::d):=U
def XE:qy T a (n+1) W=M.pure .none:=U
def XF{e}:qy T a (n+1) (I e)=aB T a n e:=U
def Jc{a e}:jN T c (n+1) a [e]=aB T c n e:=U
def Jd{a e f c}:jN T d (n+1) a (e::f::c)=(aB T d n e).bind λv=>(bx v).bind λq=>if(a==.And)=q then jN T d n a (f::c)else M.pure v:=U
def Je{a c e}:gm T d (n+1) a [c] [e]=if nZ c e then C else(aB T d n e).bind λb=>iR c a b:=U
def Jf{a h d f e i j}:gm T k (n+1) a (h::d::f) (e::i::j)=if nZ h e then C else(aB T k n e).bind λb=>(iR h a b).bind λc=>(bx c).bind λq=>if q=B then gm T k n b (d::f) (i::j)else M.pure c:=U
def CN{e p}:c5 T a (n+1) (.Expr e p)=if oN e then C else(aB T a n e).bind λY=>M.pure .aO:=U
def XG{e p}:c5 T a (n+1) (.Return (I e) p)=(fy<|aB T a n e).bind λv=>M.pure (.ret v):=U
def XH{t b o p}:c5 T a (n+1) (.If t b o p)=M.bind (M.bind (aB T a n t) bx) λq=>if q=B then cb T a n b else cb T a n o:=U
def XI:cb T a (n+1) []=M.pure .aO:=U
def XJ{a r}:cb T c (n+1) (a::r)=(c5 T c n a).bind (Hu (ev T c n) r):=U
def XK{e f a b c d p}:c5 T h (n+1) (.Assign [.Tuple e a b] (.Tuple f c d) p)=if !sp e f then C else(oU T h n f).bind λl=>if l.length=e.length/\iw l=B then(iS T h n e l).bind λY=>M.pure .aO else C:=U
def Jg(h:jg e=ag):mf e=none:=by
 unfold jg at h;rcases q:mf e with _|x
 rfl;rw[q]at h;exact tf h
def XM{a v}(h:jg v=ag):su a v=.oO a v:=by unfold su;exact Z (Jg h) U
def XN{t v p}(h:jg t=ag):sx t v p=.oP t v p:=by unfold sx;exact Z (Jg h) U
def Jh{c a b v p}(f:jg v=ag):c5 T d (n+1) (.Assign [.Tuple c a b] v p)=if !bV c then C else(aB T d n v).bind λw=>(λs=>match c4 s w with
 |some e=>if e.length=c.length then((iS T d n c<|e.map .v).bind λY=>M.pure .aO) s else .C
 |none=>.C:M bD):=by
 show vy T (ev T d n) (su c v)=_;exact Z (XM f) U
def v6{t v p}(c:jg t=ag):c5 T a (n+1) (.Assign [t] v p)=if !qo t then C else(lr T a n v).bind λw=>(dm T a n t w).bind λY=>M.pure .aO:=by show vy T (ev T a n) (sx t v p)=_;exact Z (XN c) U
def XO{x a d v p}:c5 T e (n+1) (.AugAssign (.Name x a) d v p)=(em T x).bind λc=>(aB T e n v).bind λb=>(iQ d c b).bind λr=>(fU x<|.v r).bind λY=>M.pure .aO:=U
def XQ{o x a d v p}:c5 T e (n+1) (.AugAssign (.Attribute o x a) d v p)=(aB T e n o).bind λr=>(iu T r x).bind λc=>(aB T e n v).bind λb=>(iQ d c b).bind λw=>(kr T r x<|.v w).bind λY=>M.pure .aO:=U
def XR{o i a e v p}:c5 T c (n+1) (.AugAssign (.Subscript o i a) e v p)=if lq i then C else(aB T c n o).bind λr=>(aB T c n i).bind λk=>(fT r k).bind λd=>(aB T c n v).bind λb=>(iQ e d b).bind λw=>(jL r k w).bind λY=>M.pure .aO:=U
def XS{e p}:c5 T a (n+1) (.Raise (I e) W p)=(aB T a n e).bind (sy T):=U
def XT{b c f x d e h a p}:c5 T i (n+1) (.Try b [.ExceptHandler (I<|.Name c f) (I x) [.Return (I<|.List d e) h] a] [] [] p)=(λs=>match cb T i n b s with
 |.exc v j=>oM T c x d e v j|r=>r:M bD):=U
def XU{t b p}:c5 T a (n+1) (.While t b [] p)=jh (M.bind (aB T a n t) bx) (cb T a n b) WF:=U
def Ji{t d b p}:c5 T c (n+1) (.For t d b [] p)=(aB T c n d).bind λe=>(λs=>match gG s e with
 |some a=>dD (λx=>(dm T c n t<|.v x).bind λY=>cb T c n b) a s|none=>.C:M bD):=U
def XV{p}:lr T a (n+1) (.Dict [] [] p)=M.pure (.od []):=U
def Jj{a p}:lr T c (n+1) (.List a p)=if T.gQ p=B then mj (aB T c n<|.List a p)else ji (bV a) ((kv T c n a).bind λd=>ji (ku d)<|M.pure (.ol d)):=U
def zc{e}(h:qx e=.eQ):lr T a (n+1) e=mj (aB T a n e):=by show B9 T (ev T a n) e (qx e)=_;exact Z h U
def Jk{e}(h:jK e=.bad):aB T a (n+1) e=C:=by show oS T a n (ev T a n) (jK e)=_;exact Z h U
def XW{s}(h:oR s=.bad):c5 T a (n+1) s=C:=by show vy T (ev T a n) (oR s)=_;exact Z h U
def XX:oU T a (n+1) []=M.pure []:=U
def Jl{e a}:oU T c (n+1) (e::a)=(lr T c n e).bind λv=>(oU T c n a).bind λd=>M.pure (v::d):=U
def v7{x p v}:dm T a (n+1) (.Name x p) v=fU x v:=U
def XY{o a p v}:dm T c (n+1) (.Attribute o a p) v=(aB T c n o).bind λr=>kr T r a v:=U
def XZ{o i p v}:dm T a (n+1) (.Subscript o i p) v=(aB T a n o).bind λr=>(aB T a n i).bind λk=>Hs r k v:=U
def Jm{c a p v}:dm T d (n+1) (.Tuple c a p) v=x6 (ev T d n) c v:=U
def X3:iS T a (n+1) [] []=M.pure ():=U
def zd{t a v c}:iS T d (n+1) (t::a) (v::c)=(dm T d n t v).bind λY=>iS T d n a c:=U
end
section
open PySem PySem.SeqAt PyProof.Rows PySem.Calls
structure aZ(F:au)(X:aU)(G:Gh)(st:K)(s:aM):Prop where
 r:aG F X G st s.heap
 g:s.gens=#[]
 o:s.os=F.os
 t:1<=s.toks
def aZ.w{a:K}(R:aZ F X G a s):be F X G a s:=⟨R.r,R.g,R.o⟩
structure sV(T:Tab)(F:au)(X:aU)(G:Gh)(x:CV)(st:K)(v:ah)(s:aM):Prop where
 rel:aZ F X G st s
 exc:∃k c as,x=.cell k/\st.hp[k]?=I (.inst c as)/\(T.exc c=B/\F.fresh c=ag)/\v=.ref (G.ad<|.cell k)/\sG G s.heap (G.ad<|.cell k) (X.env.frame.getD 0)
def aH{α β:Type}(T:Tab)(F:au)(X:aU)(n:J)(c:Gh->α->β->Prop)(G:Gh)(r:R α)(Q:β->aM->Prop)(E:bp):Prop:=match r with|.C=>bA|.ok a dI=>∀d b e,Le n G d->aZ F X d dI e->c d a b->Q b e|.exc x dI=>∀d v e,Le n G d->sV T F X d x dI v e->E v e
def aH.mono(L:Le n G i)(h:aH T F X n c G r Q E):aH T F X n c i r Q E:=by
 induction r with
 |C=>exact h|ok a dI=>exactλd b e f=>h d b e<|L.trans f
 |exc x dI=>exactλd b e f=>h d b e<|L.trans f
def aH.bind{o:K}(r:n<=n')(h:aH T F X n d G ((M.bind c f) o) Q E)
 (k:∀a i j b m,c o=.ok a i->Le n' G j->aZ F X j i m->s j a b->aH T F X n d j (f a i) Q E->t b m):aH T F X n' s G (c o) t E:=by
 unfold M.bind at h;generalize e:c o=w;induction w using Internal.R.casesOn with
 |C=>rw[e]at h;exact h|ok a i=>replace h:=e▸h;exactλj b m p q v=>k a i j b m e p q v<|aH.mono (p.down r) h
 |exc x i=>replace h:=e▸h;exactλj v m p q=>h j v m (p.down r) q
def aH.ok{c:K}(h:aH T F X n d G (.ok a c) Q E)(R:aZ F X G c s)(v:d G a b):Q b s:=h G b s (Le.refl _ _) R v
def aZ.tok{a:K}{c:J}(R:aZ F X G a s)(h:1<=c):aZ F X G a {s with toks:=c}:=⟨R.r,R.g,R.o,h⟩
def hN{M:m5}{f:K}{c:Gh->α->β->Prop}{r:R α}{t:lP β}(R:aZ F X G f s)(e:∀Q E,aC T F X n c G r Q E->am M A t Q E s)(h:aH T F X n c G r Q E):am M A t Q E s:=by
 refine A5 R.t<|e _ _ ?_
 induction r with|C=>exact h|ok a f=>exactλi b j L d v k=>h i b j L ⟨d.r,d.g,d.o,k⟩ v|exc x f=>exactλi v j L d k=>h i v j L ⟨⟨d.rel.r,d.rel.g,d.rel.o,k⟩,d.exc⟩
def bv{α β:Type}(T:Tab)(F:au)(X:aU)(n:J)(A:bS)(V:Gh->α->β->Prop)(c:M α)(t:lP β):Prop:=
 ∀G st s,aZ F X G st s->∀Q E,aH T F X n V G (c st) Q E->am F.md A t Q E s
def Jn{F:au}{X:aU}{c:K}{s:aM}{n:J}{E:bp}{x:H}{t:ij}{d:J}(R:aZ F X G c s)(a:1<=d)(h:aH T F X n (aP F X) G (eg x c) Q E):x.length<=eJ/\Q (.str x t) {s with toks:=d}:=by unfold eg at h;split at h;rename_i e;exact⟨e,h.ok (R.tok a)<|.r (.str _ _)⟩;exact h.elim
def CO{c:K}(R:aZ F X G c s)(a:VO F X.lv G d e)(b:VO F X.lv G f i)
 (h:aH T F X n (aP F X) G (iQ j d f c) Q E):am F.md A (Fn j e i) Q E s:=hN R (λY Y h=>Ve R.w a.knd b.knd h) h
def v8{d:K}(R:aZ F X G d s)(a:VO F X.lv G c v)
 (h:aH T F X n (λY(p q:bf)=>p=q) G (bx c d) e E):am F.md A (rx v) e E s:=hN R (λY Y h=>Ib R.w a h) h
def zf{T:Tab}{F:au}{X:aU}{G:Gh}{e:K}{s:aM}{d:J}{A:bS}{E:bp}{f:ie}{i:CV}{j:ah}(c:aW X A d)(R:aZ F X G e s)(a:VO F X.lv G k m)(b:VO F X.lv G i j)
 (h:aH T F X n (aP F X) G (iR f k i e) Q E):am F.md A (n9 f m j) Q E s:=hN R (λY Y h=>Vy c R.w a b h) h
def X4{T:Tab}{F:au}{X:aU}{G:Gh}{f:K}{s:aM}{n:J}{A:bS}{E:bp}{i:CV}{d:ah}{c:ai}(R:aZ F X G f s)(a:VO F X.lv G i k)(m:VO F X.lv G o j)(p:VO F X.lv G q d)(h:aH T F X n (aP F X) G (ir i o q f) Q E):
 am F.md A (m3 e c k<|.ref s.heap.objs.size) Q E {s with heap:=s.heap.push {cls:=.type "slice",data:=.fields #[j,d,.none]}}:=
 hN (s:={s with heap:=s.heap.push {cls:=.type "slice",data:=.fields #[j,d,.none]}}) ⟨R.r.push _,R.g,R.o,R.t⟩ (λY Y h=>WA R.w a m p h) h
def X5{T:Tab}{F:au}{X:aU}{G:Gh}{e:K}{s:aM}{n:J}{A:bS}{Q:bp}{f:CV}{i:ah}{t:ij}{c:ai}(R:aZ F X G e s)(a:VO F X.lv G f i)(h:aH T F X n (aP F X) G (nv f e) Q E):
 am F.md A (m3 d c i<|.ref s.heap.objs.size) Q E {s with heap:=s.heap.push {cls:=.type "slice",data:=.fields #[.none,.none,.int (-1) t]}}:=
 hN (s:={s with heap:=s.heap.push {cls:=.type "slice",data:=.fields #[.none,.none,.int (-1) t]}}) ⟨R.r.push _,R.g,R.o,R.t⟩ (λY Y h=>WG R.w a h) h
def zg{T:Tab}{F:au}{a:bK}{X:aU}{G:Gh}{c:K}{s:aM}{n:J}{A:bS}{E:bp}(d:d0 T F a){x:H}{pos:cJ}(R:aZ F X G c s)(h:aH T F X n (aP F X) G (em T x c) Q E):am F.md A (bH (.Name x pos) X.env) Q E s:=hN R (λY Y h=>WU d R.w h) h
def CP{T:Tab}{F:au}{c:bK}{X:aU}{G:Gh}{d:K}{s:aM}{n:J}{A:bS}{E:bp}(i:d0 T F c){x:H}{e:CV}{f:ah}(R:aZ F X G d s)(a:VO F X.lv G e f)(h:aH T F X n (aP F X) G (iu T e x d) Q E):
 am F.md A (Fu f x B) Q E s:=hN R (λY Y h=>WV i R.w a h) h
def v9{T:Tab}{F:au}{X:aU}{G:Gh}{st:K}{s:aM}{n:J}{A:bS}{E:bp}(R:aZ F X G st s){x:H}{a:SV}{v:ah}{d:c9->aM->Prop}(e:fb F X.lv G a v)(f:n<=X.lv+1\/∃c,a=.v c)
 (h:aH T F X n (λY(Y:c9)(Y:c9)=>fD) G (fU x a st) d E):am F.md A (xG X.env x v) d E s:=hN R (λY Y h=>W0 R.w e f h) h
def CQ{T:Tab}{F:au}{X:aU}{G:Gh}{c:K}{s:aM}{n:J}{A:bS}{E:bp}{d:CV}{v:ah}{Qu:c9->aM->Prop}(e:A.units<=6008)(R:aZ F X G c s)(a:VO F X.lv G d f)(x:VO F X.lv G i j)(b:VO F X.lv G k v)
 (h:aH T F X n (λY(Y:c9)(Y:c9)=>fD) G (jL d i k c) Qu E):am F.md A (uG f j v) Qu E s:=hN R (λY Y h=>Xb e R.w a x b h) h
def Jo{T:Tab}{F:au}{d:bK}{X:aU}{G:Gh}{f:K}{s:aM}{n:J}{A:bS}{E:bp}(j:d0 T F d){x:H}{i:CV}{v:ah}{e:SV}{Qu:c9->aM->Prop}(R:aZ F X G f s)(a:VO F X.lv G i k)(m:fb F X.lv G e v)(o:n<=X.lv+1\/∃c,e=.v c)
 (h:aH T F X n (λY(Y:c9)(Y:c9)=>fD) G (kr T i x e f) Qu E):am F.md A (uJ k x v) Qu E s:=hN R (λY Y h=>Xn j R.w a m o h) h
abbrev du(F:au)(i:J)(G:Gh):D CV->D ah->Prop:=cX<|VO F i G
def du.mono(L:Le (i+2) G d){c v}(x:du F i G c v):du F i d c v:=x.imp λY Y a=>a.mono L
def du.store(x:du F i G c v):c.all bj=B->bn F G c v:=
 cX.ind x (λY=>.nil) λY Y Y Y a Y d h=>aI (Bool.and_eq_true_iff.mp h) λp q=>.cons (a.store p)<|d q
abbrev jR:Gh->bf->bf->Prop:=λY p q=>p=q
abbrev bC0(T F cl d n):=∀X A,aW X A d->∀ex,bv T F X (X.lv+2) A (aP F X) (aB T cl n ex)<|bH ex X.env
abbrev bC1(T F cl d n):=∀X A,aW X A d->∀ex,bv T F X (X.lv+2) A jR (M.bind (aB T cl n ex) bx)<|pV ex X.env (bH ex X.env)
abbrev bC2(T F cl d n):=∀X A,aW X A d->∀es pos,bV es=B->bv T F X (X.lv+2) A (λG=>du F X.lv G) (kv T cl n es) (xI<|lS pos (k9 es X.env))
abbrev bC3(T F cl d n):=∀X A,aW X A d->∀eo,bv T F X (X.lv+2) A (aP F X) (qy T cl n eo)<|evalPart eo X.env
abbrev bC4(T F cl d n):=∀X A,aW X A d->∀pos op vs,bv T F X (X.lv+2) A (aP F X) (jN T cl n op vs)<|FJ pos op (lT vs X.env)
abbrev bC5(T F cl d n):=∀X A,aW X A d->∀op vs,bv T F X (X.lv+2) A jR (M.bind (jN T cl n op vs) bx)<|OF op vs X.env
abbrev bC6(T F cl d n):=∀X A,aW X A d->∀pos ops cs G st s a va,aZ F X G st s->VO F X.lv G a va->∀Q E,aH T F X (X.lv+2) (aP F X) G (gm T cl n a ops cs st) Q E->
  am F.md A (FK pos va ops<|xJ ops cs (lT cs X.env)) Q E s
abbrev bC7(T F cl d n):=∀X A,aW X A d->∀pos ops cs G st s a va,aZ F X G st s->VO F X.lv G a va->∀Q E,aH T F X (X.lv+2) jR G (M.bind (gm T cl n a ops cs) bx st) Q E->
  am F.md A (FL pos va ops<|xJ ops cs (lT cs X.env)) Q E s
structure bC(T:Tab)(F:au)(cl:bP)(d n:J):Prop where
 e:bC0 T F cl d n
 t:bC1 T F cl d n
 es:bC2 T F cl d n
 o:bC3 T F cl d n
 b:bC4 T F cl d n
 bt:bC5 T F cl d n
 c:bC6 T F cl d n
 ct:bC7 T F cl d n
def v'(h:bV (e::d)=B):k9 (e::d) env=(ag,bH e env)::k9 d env/\bV d=true:=by refine aI (aI (Bool.and_eq_true_iff.mp h) λa b=>⟨og _▸a,b⟩) λh k=>⟨?_,k⟩;clear k;induction e using gL with|Starred=>exact tf h|_=>rfl
def aH.jS{c:K}(h:aH T F X n a G (ji b m c) Q E):b=B/\aH T F X n a G (m c) Q E:=by induction b with|true=>exact⟨U,h⟩|false=>exact h.elim
def CR(h:ku a=B):a.all bj=B/\a.length<=1000:=by unfold ku at h;rw[cN,il]at h;exact h
def aH.opt{p:Prop}(h:aH T F X n a G (aS o m) Q E)(k:∀x,o=I x->aH T F X n a G (m x) Q E->p):p:=by
 rcases o with _|x
 exact h.elim;exact k x U h
def aH.qJ[nY c]{p:Prop}(h:aH T F X n a G (if c then m else .C) Q E)(k:c->aH T F X n a G m Q E->p):p:=by by_cases q:c;rw[aa q]at h;exact k q h;rw[u q]at h;exact h.elim
def aH.ite{d:K}(h:aH T F X n a G ((if c then C else m) d) Q E):c=ag/\aH T F X n a G (m d) Q E:=by induction c with|true=>exact h.elim|false=>exact⟨U,h⟩
def X6{k a}:bv T F X (X.lv+2) A (aP F X) (yy c) (bH (.Constant c k a) X.env):=by
 intro G e s R Q E h;induction c with
 |none=>exact wpAny_Constant_none<|h.ok R (.r .none)
 |bool b=>exact wpAny_Constant_bool<|h.ok R (.r (.bool b))
 |int i=>exact A6<|h.ok (R.tok (lL _)) (.r (.int i _))
 |str x=>exact A7 (Jn R (lL _) h).2|_=>exact h.elim
def X7{a:bK}(d:d0 T F a){x c}:bv T F X (X.lv+2) A (aP F X) (aB T e (n+1)<|.Name x c) (bH (.Name x c) X.env):=by intro G f s R Q E h;rw[I6]at h;exact zg d R h
def X8(c:bC T F o d n)(e:aW X A d){l k r f}:bv T F X (X.lv+2) A (aP F X) (aB T o (n+1)<|.BinOp l k r f) (bH (.BinOp l k r f) X.env):=by intro G p s R Q E h;rw[Xq]at h;exact wpAny_BinOp<|c.e X A e l G p s R _ _ (h.bind (aA _) λa i q S t L M v w x=>c.e X A e r q i t v _ _ (x.bind (aA _) λb y N U Z I z m P j=>hN m (λY Y j=>Vc m.w (w.mono z) P j) j))
def X9(c:bC T F m d n)(e:aW X A d){j x f}:bv T F X (X.lv+2) A (aP F X) (aB T m (n+1)<|.UnaryOp j x f) (bH (.UnaryOp j x f) X.env):=by intro G o s R Q E h;rw[I8]at h;exact ajM<|c.e X A e x G o s R _ _ (h.bind (aA _) λa p r t v w y k q i=>hN k (λY Y i=>Vh k.w q i) i)
def CS(S0:bv T F X (X.lv+2) A (aP F X) (aB T k n f) (bH f X.env)):bv T F X (X.lv+2) A (vI F) (fy<|aB T k n f) (bH f X.env):=by
 refineλG m s R Q E h=>S0 G m s R Q E ?_;unfold fy at h;generalize q:aB T k n f m=zq;induction zq using Internal.R.casesOn with
 |C=>rw[q]at h;exact h|exc x a=>rw[q]at h;exact h|ok c a=>
  replace h:=q▸h;intro G1 v s1 j d i;cases i with
  |r i=>
   have hs:=i.bj;have h:aH T F X (X.lv+2) (vI F) G (if bj c=B then .ok c a else .C) Q E:=by clear j d;induction c using CV.casesOn<;>first|exact h|exact ft hs
   rw[aa hs]at h;exact h G1 v s1 j d i
  |@bY y=>
   dsimp only at h;generalize e:ay a.loc y=o at h;rcases o with _|sv
   exact h.elim;induction sv using SV.casesOn with
   |ol xs=>exact cC (d.r.freeze e) λo g1 g2 g3=>h _ _ _ (j.trans<|g2 _) ⟨g1,d.g,d.o,d.t⟩ g3
   |_=>exact h.elim
  |c6=>exact h.elim
def aH.vr(h:aH T F X n (aP F X) G r Q E):aH T F X n (vI F) G r Q E:=by
 induction r with
 |C=>exact h|exc x dI=>exact h|ok c dI=>exactλd b e a f v=>h d b e a f<|.r v
def Ya{T:Tab}(a:bC T F v d n)(c:aW X A d){i k e}:bv T F X (X.lv+2) A (aP F X) (aB T v (n+1)<|.Tuple i k e) (bH (.Tuple i k e) X.env):=by
 intro G w s R Q E h;rw[Xr]at h;have j:=h.jS;refine OG<|a.es X A c i e j.1 G w s R _ _ (j.2.bind (aA _) λY x S y L z M f m o=>?_)
 have p:=o.jS;have q:=CR p.1;refine aL λb=>?_;clear o z j h;exact cB (f.r.nE {cls:=.type "tuple",data:=.seq y.toArray} U) λl t P=>b<|⟨by rw[m.length];exact g q.2 (by lk),p.2 _ _ _ (t _) ⟨l,f.g,f.o,f.t⟩ (.r (.tup P U U ((m.store q.1).mono (t 0))))⟩
def Yb{P:lP ah->Prop}(c:gk o=B)(h:P w):P (ajN o a d w):=by
 induction o using gL with
 |Call f e i p=>induction f using gL with
  |Name x q=>induction e using bk with
   |nil=>induction i using bk with
    |nil=>exact ft c|cons=>exact h
   |cons=>exact h
  |_=>exact h
 |_=>exact h
def wa(c:gk o=B):ajN o a d w=w:=Yb (P:=λx=>x=w) c U
def Yc{e:bK}(m:d0 T F e)(f:bC T F p d n)(i:aW X A d){o a j}:bv T F X (X.lv+2) A (aP F X) (aB T p (n+1)<|.Attribute o a j) (bH (.Attribute o a j) X.env):=by
 intro G q s R Q E h;replace h:=Jb▸h;by_cases k:gk o=B;rw[aa k]at h;rw[ajO];exact Z (wa k)<|af (f.e X A i o G q s R _ _ (h.bind (aA _) λc t l v P S L w y z=>af (fO (af (dF (g5 (CP (Q:=Q) m w y z) (λr M b=>af (Of (aE b))) λY Y x=>x))))))
 rw[u k]at h;exact h.elim
def Yd(c:bC T F o d n)(e:aW X A d){v i f}(p:lq i=ag):bv T F X (X.lv+2) A (aP F X) (aB T o (n+1)<|.Subscript v i f) (bH (.Subscript v i f) X.env):=by intro G q s R Q E h;rw[XB p]at h;exact A8<|c.e X A e v G q s R _ _ (h.bind (aA _) λa j r S t L M w x y=>c.e X A e i r j t w _ _ (y.bind (aA _) λb z N U Z I l m P k=>hN m (λY Y k=>Wm m.w (x.mono l) P k) k))
def Ye(e:bC T F q d n)(f:aW X A d){v l i p j}:bv T F X (X.lv+2) A (aP F X) (aB T q (n+1)<|.Subscript v (.Slice l i W p) j) (bH (.Subscript v (.Slice l i W p) j) X.env):=by intro G r s R Q E h;rw[Xy]at h;exact A8<|e.e X A f v G r s R _ _ (h.bind (aA _) λa k t B w V g x y z=>ajP (e.o X A f l t k w x _ _ (z.bind (aA _) λb m P O Y K S L M N=>e.o X A f i P m Y L _ _ (N.bind (aA _) λc U u C H e3 o Z I D=>aE (X4 Z ((y.mono S).mono o) (M.mono o) I D)))))
def Yf(e:bC T F j d n)(f:aW X A d){v a b c p i}:bv T F X (X.lv+2) A (aP F X) (aB T j (n+1)<|.Subscript v (.Slice W W (I (.UnaryOp .USub (.Constant (.int 1) a b) c)) p) i) (bH (.Subscript v (.Slice W W (I<|.UnaryOp .USub (.Constant (.int 1) a b) c) p) i) X.env):=by intro G k s R Q E h;rw[Xz]at h;exact A8<|e.e X A f v G k s R _ _ (h.bind (aA _) λa m t w x y z o q r=>ajP (aE (aE (ajM (A6 (ai4 (X5 (o.tok (lL _)) q r)))))))
def Yg(a:bC T F p d n)(c:aW X A d){t b o e}:bv T F X (X.lv+2) A (aP F X) (aB T p (n+1)<|.IfExp t b o e) (bH (.IfExp t b o e) X.env):=by
 intro G r s R Q E h;rw[I9]at h;refine wpAny_IfExp<|a.t X A c t G r s R _ _ (h.bind (aA _) λq f i w j v y k x m=>?_)
 clear v h;subst x;induction q with|true=>exact CS (a.e X A c b) i f j k _ _ m.vr|false=>exact CS (a.e X A c o) i f j k _ _ m.vr
def aG.CT{F:au}{X:aU}{G G':Gh}{st:K}{h h':bG}(R:aG F X G st h){ob:aQ}(hk:∀b o,h.get? b=I o->h'.get? b=I o)
 (fh:∀O,O≠.cell st.hp.length->O≠.dict st.hp.length->G'.ad O=G.ad O)(how:∀b,b<h.objs.size->G'.ow b=G.ow b)
 (sW:∀b,h.objs.size<=b->G'.ow b=.none\/((G'.ow b=.cell st.hp.length\/G'.ow b=.dict st.hp.length)/\(h'.get? b).isSome=B))(hz:G'.fz=G.fz)(ht:G'.tm=G.tm)(hc:fV F G' h' st.hp.length ob):
 aG F X G' {st with hp:=st.hp++[ob]} h'/\∀n,Le n G G':=by
 have lt:∀b,G.ow b≠.none->G'.ow b=G.ow b:=λb hb=>how b<|R.Cg hb
 have L:∀n,Le n G G':=λn=>by
  refine⟨λb o q=>by refine Z hz ?_;exact q,λk q=>?_,λk y q=>?_,λj y Y=>fh _ (ao · rfl) (ao · rfl),λb i o q Y=>(ht)▸q⟩
  .have cV:=R.fH k q;exact⟨fh _ (by simp;exact dP ‹_›) (ao · rfl),(Z (lt _<|by rw[q];simp) q)⟩
  .refine⟨fh _ (ao · rfl) (ao · rfl),?_⟩;rw[lt _<|by rw[q];simp];exact q
 have Tt:Tr (λO=>O=.cell st.hp.length\/O=.dict st.hp.length) G G' h h':=⟨λb o q Y=>hk b o q,λb hb Y=>lt b hb,λO hO=>fh O (λq=>hO<|.inl q) λq=>hO (.inr q)⟩;have old:∀b,h.objs.size<=b\/b<h.objs.size:=λb=>Uw;refine⟨⟨R.sys,λb o q=>(L 0).fz _ _<|R.ey b o q,λb o q=>?_,λb p q=>?_,λb q=>?_,λk nI e0=>?_,λk e'=>?_,λk y e'=>?_,?_,?_,R.fr⟩,L⟩
 .rw[hz]at q;have:=R.fz b o q;exact⟨hk _ _ this.1,(lt b<|by rw[this.2];simp).trans this.2⟩
 .rw[ht]at q;have:=R.tm b p q;exact⟨hk _ _ this.1,(lt b<|by rw[this.2];simp).trans this.2⟩
 .clear old hc ht hz fh;rcases j8 b h.objs.size with w|w
  rotate_left
  .clear lt how hk;rcases sW b w with z|⟨_,z⟩
   .exact aF z q
   .exact z
  .have q':G.ow b≠.none:=(how b w)▸q;exact qz hk (R.lt b q')
 .clear old lt ht hz sW how fh hk;rcases Nat.lt_trichotomy k st.hp.length with q|q|q
  .have e1:st.hp[k]?=I nI:=by
    have e0:(st.hp++[ob])[k]?=I nI:=e0;rwa [OH q]at e0
   exact(R.cells k nI e1).tr Tt (L 0) (by simp;exact dP ‹_›) (by simp;exact dP ‹_›) (by simp)
  .subst q;have e0:(st.hp++[ob])[st.hp.length]?=I nI:=e0;simp at e0;subst e0;exact hc
  .have e0:(st.hp++[ob])[k]?=I nI:=e0;rw[pR (by simp;exact xE ‹_›)]at e0;exact aD e0
 .show k<(st.hp++[ob]).length;rw[aN];clear lt hc ht hz hk;by_cases q:k=st.hp.length
  .clear e' old sW how fh;subst q;simp
  .rw[fh _ (by simp;exact q) (ao · rfl)]at e';clear fh;rcases old (G.ad (.cell k))with w|w
   .clear old how;rcases sW _ w with z|⟨z|z,_⟩<;>(rw[z]at e';cases e')
    exact aF U q
   .rw[how _ w]at e';exact cM (R.fH k e') (cx _ _)
 .rw[fh _ (ao · rfl) (ao · rfl)]at e';have e1:G.ow (G.ad (.attr k y))=.attr k y:=by
   clear lt hc ht hz fh hk;rcases old (G.ad (.attr k y))with w|w
   .clear old how;rcases sW _ w with z|⟨z|z,_⟩<;>(rw[z]at e';exact ao e' U)
   .exact(how _ w)▸e'
  have:=R.eY k y e1;unfold ea at this⊢;generalize e:st.hp[k]?=ze;induction ze using bL with
  |none=>rw[e]at this;exact ft this|some ob1=>
   have cV:k<st.hp.length:=by
    clear e1 e' old lt hc ht hz sW how fh hk;rcases j8 k st.hp.length with q|q
    .exact q
    .rw[pR q]at e;exact aD e
   rw[OH cV,e];exact e▸this
 .exact R.top.tr Tt (L 0) (by simp) (by intro i y _;simp) λy=>.inl (by simp)
 .exact R.out.tr Tt (L 0) λi Y=>⟨by simp,(by intro y;simp),by intro y;simp⟩
def aG.Yh{d:K}(R:aG F X G d h)(x:bn F G P l):
 ∃c,aG F X c {d with hp:=d.hp++[.e9 P]} (h.push<|bO l 0)/\(∀n,Le n G c)/\VR F c (.cell d.hp.length) (.ref h.objs.size):=by
 refine⟨{G with ad:=λa=>if a=.cell d.hp.length then h.objs.size else G.ad a,ow:=λb=>if b=h.objs.size then .cell d.hp.length else G.ow b},?_⟩;generalize f:({G with ad:=λa=>if a=.cell d.hp.length then h.objs.size else G.ad a,ow:=λb=>if b=h.objs.size then .cell d.hp.length else G.ow b}:Gh)=c;have v:c.ad (.cell d.hp.length)=h.objs.size:=ax f<|aa U
 have A:c.ow h.objs.size=.cell d.hp.length:=ax f<|aa U
 have m:∀a,a≠.cell d.hp.length->c.ad a=G.ad a:=λa Q=>ax f<|u Q
 have r:∀b,b≠h.objs.size->c.ow b=G.ow b:=λb s=>ax f<|u s
 have z:c.fz=G.fz:=ax f U;have t:c.tm=G.tm:=ax f U;have E:=R.CT (G':=c) (h':=h.push<|bO l 0) (ob:=.e9 P) (λb o e=>di _ e) (λa p Y=>m a p) (λb s=>r b (dP ‹_›))
  (λb s=>by clear m v x;by_cases q:b=h.objs.size;clear t z s r;subst q;exact .inr ⟨.inl A,dy (gx h U)⟩;exact .inl ((r b q).trans (R.fresh s))) z t
 have T:Le 0 G c:=by refine⟨λb o q=>by refine Z z ?_;exact q,λk q=>?_,λk y q=>?_,λj y Y=>m _ (ao · rfl),λb i o q Y=>(t)▸q⟩;have S:=R.fH k q;exact⟨m _ (by simp;exact dP ‹_›),(Z (r _ (λw=>by rw[w,R.fresh (aA _)]at q;exact ao q U)) q)⟩;exact⟨m _ (ao · rfl),(Z (r _ (λw=>by rw[w,R.fresh (aA _)]at q;exact ao q U)) q)⟩
 clear t z r m;exact aI (E (.e9 ((v)▸A) (Z v (⟨l,0,gx h U,x.mono T⟩)))) λL M=>⟨L,M,.cell v.symm A⟩
def Yi(a:bC T F z d n)(c:aW X A d){m f}:bv T F X (X.lv+2) A (aP F X) (aB T z (n+1)<|.List m f) (bH (.List m f) X.env):=by
 intro G b s R Q E h;rw[Xs]at h;have q:=h.jS;refine OI<|a.es X A c m f q.1 G b s R _ _ (q.2.bind (aA _) λS l L P M N I i t j=>?_)
 have v:=j.jS;have w:=CR v.1;have j:=v.2;have e:=t.store w.1;refine⟨by refine Z t.length ?_;exact g w.2<|by lk,?_⟩;refine aL λx=>?_;by_cases y:T.gQ f=B;rw[aa y]at j;exact cC (i.r.Yh e) λY o k p=>x<|j Y _ _ (k _) ⟨o,i.g,i.o,i.t⟩ (.r p)
 rw[u y]at j;exact cB (i.r.nE (bO P 0) U) λo k p=>x<|j _ _ _ (k _) ⟨o,i.g,i.o,i.t⟩ (.r (.lst p (e.mono (k 0))))
def Yj{v:CV}{q:bf}{st d4:K}(e:bx v st=.ok q d4):d4=st/\oG st v=I q:=by
 unfold bx at e;generalize oG st v=o at e⊢;induction o with
 |none=>exact cO Internal.R.ctorIdx e U|some b=>obtain⟨rfl,rfl⟩:=Internal.R.ok.inj e;exact⟨U,U⟩
def Jp{d:K}(e:bx v d=.ok q a):bx v a=.ok q a:=by refine aL λf=>aI (Yj e) λc h=>?_;subst c;exact f e
end
section
open PySem PySem.SeqAt PyProof.Rows PySem.Calls
set_option backward.match.sparseCases true
def jT{d:K}(e:m d=.ok a c):M.bind m f d=f a c:=by unfold M.bind;exact Z e U
def o5{d:K}(e:m d=.exc a c):M.bind m f d=.exc a c:=by unfold M.bind;exact Z e U
def mC{a:K}(e:m a=.C):M.bind m f a=.C:=by unfold M.bind;exact Z e U
def Jq{ex:ai}(S0:bv T F X (X.lv+2) A (aP F X) (aB T cl n ex) (bH ex X.env))(he:pV ex X.env (bH ex X.env)=(do let v<-bH ex X.env;rG ex.pos;m7 [v] (rx v))):
 bv T F X (X.lv+2) A jR (M.bind (aB T cl n ex) bx) (pV ex X.env<|bH ex X.env):=λG st s R Q E h=>wpAny_isTrue_value (S0 G st s R _ _<|h.bind (aA _) λa wb G1 va s1 e1 L1 R1 V1 h1=>v8 R1 V1 h1) he
def Yk{a:K}:(M.bind (nu .Not v) bx) a=(M.bind (bx v) λq=>M.pure<|!q) a:=by
 have e:nu .Not v a=(match oG a v with|some b=>.ok (.bool !b) a|none=>.C:R CV):=by cases v<;>rfl
 unfold M.bind bx;refine Z e ?_;cases oG a v<;>rfl
def Yl(c:bC T F k d n)(f:aW X A d){x i}:bv T F X (X.lv+2) A jR (M.bind (aB T k (n+1)<|.UnaryOp .Not x i) bx) (pV (.UnaryOp .Not x i) X.env<|bH (.UnaryOp .Not x i) X.env):=by
 intro G j s R Q E h;rw[I8,M.bind_assoc]at h;have e:(λa=>M.bind (nu .Not a) bx)=λa=>M.bind (bx a) λq=>M.pure (!q):=by funext a j;exact Yk
 rw[e,<-M.bind_assoc]at h;refine wpAny_isTrue_Not<|c.t X A f x G j s R _ _ (h.bind (aA _) λq m t w v y z o p r=>?_)
 subst p;exact r.ok o U
def Ym{d:K}(e:m d=.ok c a):fy m d=.C\/(∃h f,fy m d=.ok (.lst h) f)\/fy m d=.ok c a:=by
 unfold fy;refine Z e ?_;induction c using CV.casesOn with
 |bY y=>
  dsimp only;rcases ay a.loc y with _|i
  exact .inl U;induction i using SV.casesOn with
  |ol h=>exact .inr<|.inl ⟨_,_,U⟩
  |_=>exact .inl U
 |c6=>exact .inl U|_=>exact .inr<|.inr U
def Jr{f:K}(h:aH T F X n a G (M.bind (fy m) bx f) Q E):aH T F X n a G (M.bind m bx f) Q E:=by
 generalize e:m f=j;induction j using Internal.R.casesOn with
 |C=>
  have d:fy m f=.C:=by unfold fy;exact Z e U
  rw[mC d]at h;exact uK h
 |exc x i=>
  have d:fy m f=.exc x i:=by unfold fy;exact Z e U
  rw[o5 d]at h;exact Z (o5 e) h
 |ok c i=>
  rcases Ym e with d|⟨o,k,d⟩|d
  rw[mC d]at h;exact uK h;rw[jT d]at h;exact uK h;rw[jT d]at h;exact Z (jT e) h
def Yn(a:bC T F p d n)(c:aW X A d){t b o e}:bv T F X (X.lv+2) A jR (M.bind (aB T p (n+1)<|.IfExp t b o e) bx) (pV (.IfExp t b o e) X.env<|bH (.IfExp t b o e) X.env):=by
 intro G r s R Q E h;rw[I9,M.bind_assoc]at h;refine amQ<|a.t X A c t G r s R _ _ (h.bind (aA _) λq f i w j v y k x m=>?_)
 clear v h;subst x;induction q with
 |true=>exact a.t X A c b i f j k _ _<|Jr m
 |false=>exact a.t X A c o i f j k _ _<|Jr m
def Yo(a:bC T F j d n)(c:aW X A d){f i e}:bv T F X (X.lv+2) A jR (M.bind (aB T j (n+1)<|.BoolOp f i e) bx) (pV (.BoolOp f i e) X.env<|bH (.BoolOp f i e) X.env):=by intro G k s R Q E h;rw[I7]at h;exact wpAny_isTrue_BoolOp<|a.bt X A c f i G k s R _ _ h
def Yp(c:bC T F m d n)(e:aW X A d){l f j i}:bv T F X (X.lv+2) A jR (M.bind (aB T m (n+1)<|.Compare l f j i) bx) (pV (.Compare l f j i) X.env<|bH (.Compare l f j i) X.env):=by intro G o s R Q E h;rw[Ja,M.bind_assoc]at h;rw[arm_isTrue_Compare];exact af<|c.e X A e l G o s R _ _ (h.bind (aA _) λa k p q r x y t v w=>c.ct X A e i f j p k r a q t v _ _ w)
def Yq(a:bC T F j d n)(c:aW X A d){f i e}:bv T F X (X.lv+2) A (aP F X) (aB T j (n+1)<|.BoolOp f i e) (bH (.BoolOp f i e) X.env):=by intro G k s R Q E h;rw[I7]at h;exact a.b X A c e f i G k s R _ _ h
def Yr(c:bC T F m d n)(e:aW X A d){l f j i}:bv T F X (X.lv+2) A (aP F X) (aB T m (n+1)<|.Compare l f j i) (bH (.Compare l f j i) X.env):=by intro G o s R Q E h;rw[Ja]at h;rw[arm_eval_Compare];exact af<|c.e X A e l G o s R _ _ (h.bind (aA _) λa k p q r x y t v w=>c.c X A e i f j p k r a q t v _ _ w)
def Ys(c:bC T F cl d n)(H:aW X A d)(es:D ai)(pos:cJ)(hn:bV es=B):bv T F X (X.lv+2) A (λG=>du F X.lv G) (kv T cl (n+1) es) (xI<|lS pos (k9 es X.env)):=by
 intro G st s R Q E h;induction es with
 |nil=>rw[XC]at h;exact A9<|h.ok R .nil
 |cons e es=>replace h:=XD▸h;exact aI (v' (env:=X.env) hn) λmD Yt=>uL (c.e X A H e G st s R _ _<|h.bind (aA _) λa wb G1 va s1 e1 L1 R1 V1 h1=>c.es X A H es pos Yt G1 wb s1 R1 _ _ (h1.bind (aA _) λvs wc G2 ws s2 e2 L2 R2 V2 h2=>h2.ok R2 (.cons (V1.mono L2) V2))) mD
def Yu(a:bC T F i d n)(c:aW X A d)(f:al ai):bv T F X (X.lv+2) A (aP F X) (qy T i (n+1) f) (evalPart f X.env):=by
 intro G j s R Q E h;induction f with
 |none=>rw[XE]at h;exact aE<|h.ok R (.r .none)
 |some e=>rw[XF]at h;exact a.e X A c e G j s R _ _ h
def Yv(c:bC T F S d n)(i:aW X A d)(j:cJ)(k:mW)(p:D ai):bv T F X (X.lv+2) A (aP F X) (jN T S (n+1) k p) (FJ j k<|lT p X.env):=by
 intro G b s R Q E h;induction p using bk with
 |nil=>unfold jN at h;exact h.elim|cons e m=>
  induction m using bk with
  |nil=>rw[Jc]at h;exact c.e X A i e G b s R _ _ h|cons f m=>
   replace h:=Jd▸h;show am _ _ (do
    let v<-bH e X.env
    rG j
    let t<-m7 [v] (rx v)
    match k,t with
    |.And,ag|.Or,B=>pure v
    |_,_=>FJ j k<|lT (f::m) X.env) _ _ _
   refine af<|c.e X A i e G b s R _ _ (h.bind (aA _) λa L W M K N C U l P=>af (fO (af (dF (v8 U l (P.bind (aA _) λq r Z w x I V Y g o=>?_))))))
   clear I P N h;subst g;have y:(k==.And)≠q->am F.md A (pure M) Q E x:=λz=>by rw[u z]at o;exact aE<|o.ok Y (l.mono V)
   have O:(k==.And)=q->am F.md A (FJ j k<|lT (f::m) X.env) Q E x:=λz=>by rw[aa z]at o;exact c.b X A i j k (f::m) Z r x Y _ _ o
   clear o e;cases k<;>cases q<;>first|exact y (by lk)|exact O<|by lk
def Yw(c:bC T F z d n)(i:aW X A d)(j:mW)(l:D ai):bv T F X (X.lv+2) A jR (M.bind (jN T z (n+1) j l) bx) (OF j l X.env):=by
 intro G t s R Q E h;induction l using bk with
 |nil=>unfold M.bind jN at h;exact h.elim|cons e p=>
  rw[arm_allTrue_cons];induction p using bk with
  |nil=>
   replace h:=Jc▸h;refine af<|c.t X A i e G t s R _ _ ?_
   generalize r:M.bind (aB T z n e) bx t=P;induction P using Internal.R.casesOn with
   |C=>rw[r]at h;exact h|exc x k=>rw[r]at h;exact h|ok q k=>replace h:=r▸h;intro Y w v I b S;subst S;have m:=h Y q v I b U;clear h;cases j<;>cases q<;>exact aE m
  |cons f p=>
   rw[Jd,M.bind_assoc]at h;have r:(λa=>M.bind (M.bind (bx a) λq=>if(j==.And)=q then jN T z n j (f::p)else M.pure a) bx)=λa=>M.bind (bx a) λq=>if(j==.And)=q then M.bind (jN T z n j (f::p)) bx else M.pure q:=by
    funext a t
    rw[M.bind_assoc];generalize o:bx a t=L;induction L using Internal.R.casesOn with
    |C=>exact Z (mC o)<|Z (mC o) U
    |exc x k=>exact Z (o5 o)<|Z (o5 o) U
    |ok q k=>
     refine Z (jT o)<|Z (jT o) ?_
     clear h;by_cases m:(j==.And)=q;exact Z (aa m)<|Z (aa m) U
     exact Z (u m)<|Z (u m) (Jp o)
   rw[r,<-M.bind_assoc]at h;refine af<|c.t X A i e G t s R _ _ (h.bind (aA _) λq k Y w v B I b S y=>?_)
   clear B r h;subst S;have N:(j==.And)≠q->am F.md A (pure q) Q E v:=λm=>by rw[u m]at y;exact aE<|y.ok b U
   have V:(j==.And)=q->am F.md A (OF j (f::p) X.env) Q E v:=λm=>by rw[aa m]at y;exact c.bt X A i j (f::p) Y k v b _ _ y
   clear y e;cases j<;>cases q<;>first|exact N (by lk)|exact V<|by lk
def Yx(i:bC T F N d n)(j:aW X A d)(o:cJ)(m:D ie)(x:D ai)(G:Gh)(y:K)(s:aM)(a:CV)(p:ah)(R:aZ F X G y s)(k:VO F X.lv G a p)(Q:bp)(E:bp)
 (h:aH T F X (X.lv+2) (aP F X) G (gm T N (n+1) a m x y) Q E):am F.md A (FK o p m<|xJ m x (lT x X.env)) Q E s:=by
 induction m using bk with
 |nil=>unfold gm at h;exact h.elim|cons z m=>
  induction x using bk with
  |nil=>cases m<;>(unfold gm at h;exact h.elim)
  |cons e t=>
   induction m using bk with
   |nil=>
    induction t using bk with
    |cons f t=>unfold gm at h;exact h.elim|nil=>
     rw[Je]at h;refine aI (aH.ite h) λg h=>?_;show am _ _ (FK o p [z] [ajQ z e<|bH e X.env]) _ _ _;refine Z (ajR g) ?_;show am _ _ (do
      let r<-m7 [p] (bH e X.env)
      rG o
      Fq [p,r] (n9 z p r)) _ _ _
     exact af<|dF (i.e X A j e G y s R _ _ (h.bind (aA _) λb Y G1 O s1 e1 S L l M=>af (fO (ajS (zf j L (k.mono S) l M)))))
   |cons v m=>
    induction t using bk with
    |nil=>unfold gm at h;exact h.elim|cons I t=>
     rw[Jf]at h;refine aI (aH.ite h) λg h=>?_;show am _ _ (do
      let r<-m7 [p] (bH e X.env)
      rG o
      let c<-m7 [p,r] (n9 z p r)
      release [p,r] [c]
      if<-m7 [c,r] (rx c)then FK o r (v::m) (xJ (v::m) (I::t)<|lT (I::t) X.env)else pure c) _ _ _
     refine af<|dF (i.e X A j e G y s R _ _ (h.bind (aA _) λb Y G1 O s1 e1 S L l M=>af (fO (af (dF (zf j L (k.mono S) l (M.bind (aA _) λc wc G2 vc s2 e2 L2 R2 W h2=>af (A' (af (dF (v8 R2 W (h2.bind (aA _) λq V G3 w s3 e3 C H V3 P=>?_))))))))))))
     subst V3;induction q using dN with
     |true=>rw[aa U]at P;exact i.c X A j o (v::m) (I::t) G3 V s3 b O H ((l.mono L2).mono C) _ _ P|false=>rw[u<|by decide]at P;exact aE<|P.ok H (W.mono C)
def Yy(i:bC T F Y d n)(j:aW X A d)(o:cJ)(m:D ie)(L:D ai)(G:Gh)(y:K)(s:aM)(a:CV)(t:ah)(R:aZ F X G y s)(k:VO F X.lv G a t)(Q:bf->aM->Prop)(E:bp)
 (h:aH T F X (X.lv+2) jR G (M.bind (gm T Y (n+1) a m L) bx y) Q E):am F.md A (FL o t m<|xJ m L (lT L X.env)) Q E s:=by
 induction m using bk with
 |nil=>unfold M.bind gm at h;exact h.elim|cons r m=>
  induction L using bk with
  |nil=>cases m<;>(unfold M.bind gm at h;exact h.elim)
  |cons e v=>
   induction m using bk with
   |nil=>
    induction v using bk with
    |cons f v=>unfold M.bind gm at h;exact h.elim|nil=>
     replace h:=Je▸h;have h:aH T F X (X.lv+2) jR G ((if nZ r e=B then C else M.bind (M.bind (aB T Y n e) λb=>iR r a b) bx) y) Q E:=by by_cases q:nZ r e=B;rw[aa q]at h;exact h.elim;rw[u q]at h⊢;exact h
     refine aI (aH.ite h) λhm h=>?_;rw[M.bind_assoc]at h;show am _ _ (FL o t [r] [ajQ r e<|bH e X.env]) _ _ _;refine Z (ajR hm) ?_;show am _ _ (do
      let z<-m7 [t] (bH e X.env)
      rG o
      let c<-Fq [t,z] (n9 r t z)
      m7 [c] (rx c)) _ _ _
     exact af<|dF (i.e X A j e G y s R _ _ (h.bind (aA _) λb l G1 vb s1 e1 V g N O=>af (fO (af (ajS (zf j g (k.mono V) N (O.bind (aA _) λc W G2 vc s2 e2 L2 H V2 h2=>dF (v8 H V2 h2))))))))
   |cons p m=>
    induction v using bk with
    |nil=>unfold M.bind gm at h;exact h.elim|cons S v=>
     replace h:=Jf▸h;have h:aH T F X (X.lv+2) jR G ((if nZ r e=B then C else(aB T Y n e).bind λb=>(iR r a b).bind λc=>(bx c).bind λq=>if q=B then M.bind (gm T Y n b (p::m) (S::v)) bx else M.pure q) y) Q E:=by
      by_cases q:nZ r e=B;rw[aa q]at h;exact h.elim;rw[u q]at h⊢;rw[M.bind_assoc]at h;have e0:(λb=>M.bind (M.bind (iR r a b) λc=>M.bind (bx c) λq=>if q=B then gm T Y n b (p::m) (S::v)else M.pure c) bx)=
       λb=>(iR r a b).bind λc=>(bx c).bind λq=>if q=B then M.bind (gm T Y n b (p::m) (S::v)) bx else M.pure q:=by
       funext b
       rw[M.bind_assoc]
       congr 1
       funext c y
       rw[M.bind_assoc];generalize P:bx c y=Yz;induction Yz using Internal.R.casesOn with
       |C=>exact Z (mC P)<|Z (mC P) U
       |exc x l=>exact Z (o5 P)<|Z (o5 P) U
       |ok q l=>
        refine Z (jT P)<|Z (jT P) ?_
        induction q using dN with
        |true=>exact Z (aa U)<|Z (aa U) U
        |false=>exact Z (u<|by lk)<|Z (u (by lk)) (Jp P)
      exact e0▸h
     refine aI (aH.ite h) λhm h=>?_;show am _ _ (do
      let z<-m7 [t] (bH e X.env)
      rG o
      let c<-m7 [t,z] (n9 r t z)
      release [t,z] [c]
      if<-m7 [c,z] (rx c)then FL o z (p::m) (xJ (p::m) (S::v)<|lT (S::v) X.env)else pure ag) _ _ _
     refine af<|dF (i.e X A j e G y s R _ _ (h.bind (aA _) λb l G1 vb s1 e1 V g N O=>af (fO (af (dF (zf j g (k.mono V) N (O.bind (aA _) λc W G2 vc s2 e2 L2 H V2 h2=>af (A' (af (dF (v8 H V2 (h2.bind (aA _) λq zh G3 w s3 e3 L3 R3 V3 I=>?_))))))))))))
     subst V3;induction q using dN with
     |true=>rw[aa U]at I;exact i.ct X A j o (p::m) (S::v) G3 zh s3 b vb R3 ((N.mono L2).mono L3) _ _ I|false=>rw[u<|by decide]at I;exact aE<|I.ok R3 U
def YA(J:bC T F cl d n)(H:aW X A d)(ex:ai)(S0:bv T F X (X.lv+2) A (aP F X) (aB T cl (n+1) ex) (bH ex X.env)):bv T F X (X.lv+2) A jR (M.bind (aB T cl (n+1) ex) bx) (pV ex X.env<|bH ex X.env):=by
 induction ex using gL with
 |BoolOp op vs pos=>exact Yo J H|IfExp t b o pos=>exact Yn J H|Compare l ops cs pos=>exact Yp J H
 |UnaryOp op x pos=>induction op with
  |Not=>exact Yl J H|_=>exact Jq S0 U
 |_=>exact Jq S0 U
end
section
open PySem PySem.SeqAt PyProof.Rows PySem.Calls
def YB(h:l≠f):∀(n i:J)(s:aM)(Q:D ah->aM->Prop),s.heap.IsListIter f l i->s.heap.IsList l d->i+n<=d.size->
 (∀j,j.IsListIter f l (i+n)->fN f s.heap j->Q ((d.toList.drop i).take n) {s with heap:=j})->am (cr m w) A (draw (.ref f) n) Q E s:=by
 intro n;induction n with
 |zero=>
  intro i s Q a _ _ k;have:=k s.heap a<|amR ..
  rw[List.take_zero]at this;exact aE this
 |succ n o=>
  intro i s Q a b c k;have e:i<d.size:=Ct c;refine af<|ajT a b (x:=d[i]) (by simp[e]) λcR YC Js=>af (dF (o (i+1) _ _ YC (b.extBut Js.extBut h) (Cs c) λhP YD CU=>aE ?_))
  have:=k hP (Z (show i+(n+1)=i+1+n by exact TW) YD)<|Js.trans CU
  rwa [show d.toList.drop i=d[i]::d.toList.drop (i+1) by simp[uM,e],OJ]at this
def Jt(i:A.handled=W)(q:my s.heap a c)
 (j:∀k,Ba s.heap.objs.size s.heap k->Q c {s with heap:=k}):am (cr d w) A (OK (.ref a) c.length W) Q E s:=by
 induction q with
 |t q=>
  have:=wpAny_unpackItems_tuple (prog:=d) (w:=w) (E:=E) i q (Q:=Q)<|by simpa using j
  simpa using this
 |l q=>
  have f:a≠s.heap.objs.size:=av q λo n p=>dP<|jy n
  unfold OK notIterableAtAll;refine af<|af (aje q.typeIs slot_list_iter.lookup (aE ?_))
  simp only [FM,FN];refine af<|dF (ajU q (af (dF (YB f c.length 0 _ _ ⟨_,gx _ U,U,U⟩ (q.push _) (by simp) λcR YE dq=>?_))))
  have h:pW c.length (Bb 0 c.toArray.toList)=c:=by simp
  refine Z h<|Z (u (by simp)) ?_
  have YF:cR.IsList a c.toArray:=(q.push _).extBut dq.extBut f;refine af<|dF (ajV i YE YF (by simp) λhP CU=>?_)
  simp only [Option.isSome_none,FM,FN];exact aE<|j hP λb o m e=>CU b o m (dq.extBut b o m (di _ e))
def CW(i:A.handled=W)(q:my s.heap a e)
 (j:c.length=e.length)(k:c.findIdx? (·.1)=W)
 (h:∀f,Ba s.heap.objs.size s.heap f->am (cr d w) A (Bc (c.map (·.2)) e) Q E {s with heap:=f}):am (cr d w) A (unpack (.ref a) c) Q E s:=by
 unfold unpack;exact Z j<|Z k (af (dF (Jt i q h)))
def YG(h:bV (t::d)=B):Bd (t::d) env=(ag,i7 t env)::Bd d env/\bV d=true:=by refine aI (aI (Bool.and_eq_true_iff.mp h) λa b=>⟨og _▸a,b⟩) λh k=>⟨?_,k⟩;clear k;induction t using gL with|Starred=>exact tf h|_=>rfl
def zi(h:bV d=B):(Bd d env).map (·.2)=d.map (λt=>i7 t env)/\(Bd d env).findIdx? (·.1)=W/\(Bd d env).length=d.length:=by
 induction d with
 |nil=>exact⟨U,U,U⟩|cons t d e=>exact aI (YG (env:=env) h) λf i=>cB (e i) λa b c=>Z f<|⟨by refine Z fq (Z a ?_);rfl,by refine Z List.findIdx?_cons (Z b ?_);rfl,by exact Z bw (Z c U)⟩
abbrev iz(F:au)(a:J)(G:Gh):D SV->D ah->Prop:=cX<|fb F a G
def iz.mono(L:Le (d+2) G e){c v}(x:iz F d G c v):iz F d e c v:=x.imp λY Y a=>a.mono L
def fb.plain(L:Le n G d){v:ah}(x:fb F e G c v)(h:fG c=B):fb F e d c v:=by
 induction x with
 |v a=>exact .v<|a.mono L
 |_=>exact ft h
def iz.plain(L:Le n G d)(x:iz F e G c v):c.all fG=B->iz F e d c v:=
 cX.ind x (λY=>.nil) λY Y Y Y a Y f h=>aI (Bool.and_eq_true_iff.mp h) λp q=>.cons (a.plain L p)<|f q
def zj(h:c.all fG=B):iw c=true:=by
 induction c with
 |nil=>rfl|cons x r e=>rw[gc,cN]at h;exact(aa h.1).trans<|e h.2
def bn.Ju(x:bn F G c v):iz F i G (c.map .v) v:=by
 induction c generalizing v with
 |nil=>exact x.out|cons a c h=>obtain⟨w,l,e,p,q⟩:=x.out;exact Z e<|.cons (.v p) (h q)
def CX(c:D CV):(c.map SV.v).all fG=true:=by induction c with|nil=>rfl|cons _ _ h=>exact h
abbrev o6:Gh->c9->c9->Prop:=λY Y Y=>fD
abbrev iA(X:aU)(a:SV):Nat:=if fG a then X.lv+2 else X.lv+1
abbrev qK(X:aU)(a:D SV):Nat:=if a.all fG then X.lv+2 else X.lv+1
inductive dB(F:au)(G:Gh):bD->PySem.Flow->Prop
 |aO:dB F G .aO .next|brk:dB F G .brk .brk|cnt:dB F G .cnt .cont|ret {c v}:VR F G c v->dB F G (.ret c) (.ret v)
abbrev dR0(T F cl d n):=∀X A,aW X A d->∀ex,bv T F X (X.lv+2) A (fb F X.lv) (lr T cl n ex)<|bH ex X.env
abbrev dR1(T F cl d n):=∀X A,aW X A d->∀es pos,bV es=B->bv T F X (X.lv+2) A (iz F X.lv) (oU T cl n es) (xI<|lS pos (k9 es X.env))
abbrev dR2(T F cl d n):=∀X A,aW X A d->∀t G st s sv v,aZ F X G st s->fb F X.lv G sv v->∀Q E,aH T F X (iA X sv) o6 G (dm T cl n t sv st) Q E->am F.md A (i7 t X.env v) Q E s
abbrev dR3(T F cl d n):=∀X A,aW X A d->∀ts G st s dG vs,aZ F X G st s->iz F X.lv G dG vs->iw dG=B->∀Q E,aH T F X (qK X dG) o6 G (iS T cl n ts dG st) Q E->am F.md A (Bc (ts.map λt=>i7 t X.env) vs) Q E s
abbrev dR4(T F cl d n):=∀X A,aW X A d->X.isFn=B->∀bW,bv T F X (X.lv+1) A (dB F) (c5 T cl n bW)<|io bW X.env
abbrev dR5(T F cl d n):=∀X A,aW X A d->X.isFn=B->∀we,bv T F X (X.lv+1) A (dB F) (cb T cl n we)<|xK we X.env
structure dR(T:Tab)(F:au)(cl:bP)(d n:J):Prop where
 sv:dR0 T F cl d n
 dG:dR1 T F cl d n
 a:dR2 T F cl d n
 as:dR3 T F cl d n
 s:dR4 T F cl d n
 ss:dR5 T F cl d n
def aW.CY:iA X a<=X.lv+1\/∃c,a=.v c:=by
 induction a with
 |v c=>exact .inr ⟨c,U⟩|_=>exact .inl<|aA _
def aH.up(h:aH T F X n c G r Q E)(f:n<=i):aH T F X i c G r Q E:=by
 induction r with
 |C=>exact h|ok a dI=>exactλd b e L=>h d b e<|L.down f
 |exc x dI=>exactλd v e L=>h d v e<|L.down f
def CZ:qK X (c::a)<=iA X c/\qK X (c::a)<=qK X a:=by
 unfold qK iA;refine Z gc ?_;generalize fG c=p;generalize a.all fG=q;induction p with
 |true=>exact⟨by induction q with|true=>exact aA _|false=>exact bM _,aA _⟩
 |false=>exact⟨aA _,by induction q with|true=>exact bM _|false=>exact aA _⟩
def zk:iA X a<=X.lv+2:=mu (P:=(·<=X.lv+2)) (aA _)<|bM _
def YH:X.lv+1<=iA X sv:=mu (P:=(X.lv+1<=·)) (bM _)<|aA _
def YI{c:K}(R:aZ F X G c s)(a:fb F X.lv G d v)
 (h:aH T F X (iA X d) o6 G (dm T e (n+1) (.Name x p) d c) Q E):am F.md A (i7 (.Name x p) X.env v) Q E s:=by
 rw[v7]at h;rw[arm_assign_Name];exact af<|fO (ajW (v9 R a aW.CY h))
def YJ{e:bK}{k:K}(q:d0 T F e)(f:bC T F r d n)(i:aW X A d)(R:aZ F X G k s)(j:fb F X.lv G m v)
 (h:aH T F X (iA X m) o6 G (dm T r (n+1) (.Attribute o a p) m k) Q E):am F.md A (i7 (.Attribute o a p) X.env v) Q E s:=by
 rw[XY]at h;rw[arm_assign_Attribute];exact af<|dF (f.e X A i o G k s R _ _ (h.bind zk λc t P S L M w y z b=>af (fO (af (dF (g5 (Jo (Qu:=Q) q y z (j.mono w) aW.CY b) (λY N l=>A' l) λY Y x=>x))))))
def VO.keep(x:VO F i G c v)(L:Le n G e)(h:∀d,e.ad d=G.ad d):VO F i e c v:=by
 induction x with
 |r x=>exact .r<|x.mono L
 |bY=>rw[<-h];exact .bY|c6 a=>refine aI (L.attr _ _ a) λj f=>?_;rw[<-j]at f⊢;exact .c6 f
def aG.C0{F:au}{X:aU}{G:Gh}{st:K}{h:bG}(R:aG F X G st h){a:bc}{j:J}{o:dw}(ht:G.tm a=I (j,o)):
 ∃G',aG F X G' st h/\(∀n,n<=j->Le n G G')/\G'.fz a=I o/\∀O,G'.ad O=G.ad O:=by
 have hw:=(R.tm a _ ht);refine⟨{G with ow:=λb=>if b=a then .fz else G.ow b,fz:=λb=>if b=a then I o else G.fz b,tm:=λb=>if b=a then W else G.tm b},?_⟩;generalize hG:({G with ow:=λb=>if b=a then .fz else G.ow b,fz:=λb=>if b=a then I o else G.fz b,tm:=λb=>if b=a then W else G.tm b}:Gh)=G';have sX:G'.ow a=.fz:=ax hG<|aa U
 have kA:∀b,b≠a->G'.ow b=G.ow b:=λb hb=>ax hG<|u hb
 have qL:G'.fz a=I o:=ax hG<|aa U
 have o7:∀b,b≠a->G'.fz b=G.fz b:=λb hb=>ax hG<|u hb
 have sY:G'.tm a=none:=ax hG<|aa U
 have qM:∀b,b≠a->G'.tm b=G.tm b:=λb hb=>ax hG<|u hb
 have fh:∀O,G'.ad O=G.ad O:=λO=>ax hG U;have L:∀n,n<=j->Le n G G':=λn hn=>by refine⟨λb o' q=>?_,λk q=>⟨fh _,?_⟩,λk y q=>⟨fh _,?_⟩,λY Y Y=>fh _,λb i o' q hi=>?_⟩;exact Z (o7 b λz=>by have:=(R.fz b o' q).2;rw[z,hw.2]at this;exact ao this U) q;exact Z (kA _ λz=>by rw[z,hw.2]at q;exact ao q U) q;exact Z (kA _ λz=>by rw[z,hw.2]at q;exact ao q U) q;clear sY o7 qL kA sX hw;exact Z (qM b λz=>by subst z;rw[ht]at q;cases q;exact xL hn hi) q
 have Tt:Tr (λO=>O=.gU) G G' h h:=⟨λb o q Y=>q,λb Y hb=>kA b λz=>hb<|Z z (hw.2),λO Y=>fh O⟩;have L0:=L 0<|dW _
 refine⟨⟨R.sys,λb o' q=>L0.fz _ _<|R.ey b o' q,λb o' q=>?_,λb p q=>?_,λb q=>?_,λk ob q=>?_,λk q=>?_,λk y q=>?_,?_,?_,R.fr⟩,L,qL,fh⟩;refine aL λhG=>?_;clear fh qM sY ht;by_cases z:b=a;clear o7 kA;subst z;rw[qL]at q;obtain rfl:=aK q;exact hG<|⟨hw.1,sX⟩
 rw[o7 b z]at q;exact hG<|⟨(R.fz b o' q).1,(kA b z).trans (R.fz b o' q).2⟩
 refine aL λhG=>?_;clear fh o7 qL sX hw ht;by_cases z:b=a;clear hG qM kA;subst z;rw[sY]at q;exact aD q;rw[qM b z]at q;exact hG<|⟨(R.tm b p q).1,(kA b z).trans (R.tm b p q).2⟩
 clear hG fh qM sY o7 qL sX ht;by_cases z:b=a;clear q kA;subst z;exact dy hw.1;rw[kA b z]at q;exact R.lt b q;exact(R.cells k ob q).tr Tt L0 (ao · rfl) (ao · rfl) λY h=>ao h U;rw[fh]at q;refine aL λhG=>?_;clear fh qM sY o7 qL hw ht;by_cases z:G.ad (.cell k)=a;rw[z,sX]at q;exact ao q U;rw[kA _ z]at q;exact hG<|R.fH k q
 rw[fh]at q;refine aL λhG=>?_;clear fh qM sY o7 qL hw ht;by_cases z:G.ad (.attr k y)=a;rw[z,sX]at q;exact ao q U;rw[kA _ z]at q;exact hG<|R.eY k y q
 exact R.top.tr Tt L0 (ao · rfl) (by intro i y _;simp) λy=>.inl (ao · rfl);exact R.out.tr Tt L0 λi Y=>⟨by exactλh=>ao h U,(by intro y;simp),by intro y;simp⟩
def YK{w:K}(e:bC T F cl d n)(f:aW X A d)(R:aZ F X G w s)(j:fb F X.lv G P v)
 (h:aH T F X (iA X P) o6 G (dm T cl (n+1) (.Subscript o i p) P w) Q E):am F.md A (i7 (.Subscript o i p) X.env v) Q E s:=by
 replace h:=XZ▸h;rw[arm_assign_Subscript];refine af<|dF (e.e X A f o G w s R _ _ (h.bind zk λc y Z ov I D B V g S=>af (dF (e.e X A f i Z y I V _ _ (S.bind zk λk O G2 iv s2 W L m M z=>?_)))))
 have u:=(j.mono B).mono L;have q:=g.mono L;refine af<|fO (af (dF (aL λN=>?_)))
 clear j;clear W S D h;cases u with
 |v r=>exact N<|g5 (CQ (Qu:=Q) f.toU m q M (.r r) z) (λY C l=>A' l) λY Y x=>x
 |ol a b=>
  refine l5 (m.r.C0 a) λG3 H g2 g3 U=>?_;have t:=g2 (X.lv+1)<|aA _
  exact N<|g5 (CQ (Qu:=Q) f.toU ⟨H,m.g,m.o,m.t⟩ (q.keep t U) (M.keep t U) (.r (.lst g3 (b.mono t))) (aH.mono t z)) (λY C l=>A' l) λY Y x=>x
 |od a=>exact z.elim
def YL{i:K}(P:dR T F Y d n)(c:aW X A d)(R:aZ F X G i s)(f:fb F X.lv G x v)
 (h:aH T F X (iA X x) o6 G (dm T Y (n+1) (.Tuple j a p) x i) Q E):am F.md A (i7 (.Tuple j a p) X.env v) Q E s:=by
 replace h:=Jm▸h;induction f with
 |ol a b=>exact h.elim|od a=>exact h.elim|v r=>
  unfold x6 at h;dsimp only at h;by_cases m:bV j=B;replace h:=(aa m)▸h;generalize e:c4 i ‹CV›=S;induction S using bL with
  |none=>rw[e]at h;exact h.elim|some L=>
   replace h:=e▸h;dsimp only at h;by_cases t:L.length=j.length;replace h:=(aa t)▸h;refine fQ (qC R.r (.r r) e) λy g w z q O=>?_;subst w;refine cB (zi (env:=X.env) m) λM N D=>?_;rw[OL];refine af<|fO (CW c.hd q (Z D (Z z.length (Z t U))) N λl V=>Z M ?_)
   have k:∀b o,s.heap.get? b=I o->l.get? b=I o:=λb o e=>V b o (dP<|jy e) e;exact P.as X A c j G i {s with heap:=l} _ _ ⟨R.r.same k,R.g,R.o,R.t⟩ z.Ju (zj<|CX _) _ _<|h.up (by unfold qK;exact Z (aa (CX _)) zk)
   rw[u t]at h;exact h.elim
  rw[u m]at h;exact h.elim
def YM(q:dR T F S d n)(c:aW X A d)(k:D ai)(G:Gh)(r:K)(s:aM)(i:D SV)(m:D ah)(R:aZ F X G r s)(f:iz F X.lv G i m)(j:iw i=B)(Q:c9->aM->Prop)(E:bp)
 (h:aH T F X (qK X i) o6 G (iS T S (n+1) k i r) Q E):am F.md A (Bc (k.map λt=>i7 t X.env) m) Q E s:=by
 induction k with
 |nil=>
  induction i using bk with
  |nil=>obtain rfl:=cX.nl f;rw[X3]at h;exact aE<|h.ok R trivial
  |cons=>exact h.elim
 |cons t k=>
  induction i using bk with
  |nil=>exact h.elim|cons w i=>
   refine fP (cX.out f) λv m e a b=>?_;subst e;rw[zd]at h;refine af<|dF (q.a X A c t G r s w v R a _ _ (h.bind CZ.1 λY o y Y z L p l Y P=>?_))
   replace j:(if fG w=B then iw i else i.all fG)=true:=j;by_cases x:fG w=B;rw[aa x]at j;unfold iA at p;rw[aa x]at p;exact q.as X A c k y o z i m l (iz.mono p b) j _ _<|P.up CZ.2
   rw[u x]at j;exact q.as X A c k y o z i m l (iz.plain p b j) (zj j) _ _<|P.up CZ.2
def YN{a:bK}{c:K}(d:d0 T F a)(R:aZ F X G c s)(h:aH T F X n (aP F X) G (em T x c) Q E):am F.md A (loadName X.env x) Q E s:=by
 intro Γ p CB;have e:(x==("__debug__":H))=false:=by refine nq Fp ?_;intro q;unfold em at h;rw[aa<|.inl q]at h;exact h.elim
 have:=zg (pos:=p) (A:=A) d R h Γ p CB;rw[eval_Name _ _ _ e,aja]at this;exact this
def YO(a:bC T F q d n)(c:aW X A d){i e}(r:T.gQ e=ag):bv T F X (X.lv+2) A (fb F X.lv) (lr T q (n+1)<|.List i e) (bH (.List i e) X.env):=by
 intro G t s R Q E h;rw[Jj,u<|by exact Z r iN]at h;have j:=h.jS;refine OI<|a.es X A c i e j.1 G t s R _ _ (j.2.bind (aA _) λl v P w Y S L f k x=>?_)
 have m:=x.jS;have o:=CR m.1;refine⟨by refine Z k.length ?_;exact g o.2<|dk U,?_⟩;exact aL λy=>cB (f.r.vH (X.lv+1) (bO w 0) U) λz p b=>y<|m.2 _ _ _ (p _) ⟨z,f.g,f.o,f.t⟩ (.ol b ((k.store o.1).mono (p 0)))
def Jv(a:bC T F k d n)(e:aW X A d):bv T F X (X.lv+2) A (fb F X.lv) (mj<|aB T k n j) (bH j X.env):=by
 refineλG m s R Q E h=>a.e X A e j G m s R _ _<|aH.bind (aA _) h λc o r v t w x p q f=>?_
 by_cases i:bj c=B;rw[aa i]at f;exact f.ok p<|.v (q.store i)
 rw[u i]at f;exact f.elim
def YQ(a:bC T F m d n)(c:aW X A d)(e:ai):bv T F X (X.lv+2) A (fb F X.lv) (lr T m (n+1) e) (bH e X.env):=by
 have k:=SA e;generalize q:qx e=o;induction o using DK.casesOn with
 |eQ=>exact Z (zc q)<|Jv a c
 |lst r p=>
  rw[q]at k;obtain rfl:e=.List r p:=k;generalize j:T.gQ p=f;induction f using dN with
  |false=>exact YO a c j|true=>exact Z Jj<|Z (aa j) (Jv a c)
 |dA=>rw[q]at k;refine aJ k λp i=>?_;subst i;intro G x s R Q E h;rw[XV]at h;exact ajX<|cB (R.r.vH (X.lv+1) (dt [] 0) U) λt v w=>h _ _ _ (v _) ⟨t,R.g,R.o,R.t⟩ (.od w)
def YR(o:dR T F p d n)(c:aW X A d)(f:D ai)(i:cJ)(q:bV f=B):bv T F X (X.lv+2) A (iz F X.lv) (oU T p (n+1) f) (xI<|lS i (k9 f X.env)):=by
 intro G r s R Q E h;induction f with
 |nil=>rw[XX]at h;exact A9<|h.ok R .nil
 |cons e f=>replace h:=Jl▸h;exact aI (v' (env:=X.env) q) λj k=>uL (o.sv X A c e G r s R _ _<|h.bind (aA _) λa m t S v L M w x y=>o.dG X A c f i k t m v w _ _ (y.bind (aA _) λN z U Z I V b l P Y=>Y.ok l (.cons (x.mono b) P))) j
def YS{F:au}{X:aU}{G:Gh}{st:K}{s:aM}(R:aZ F X G st s):ajY X.env=false:=by unfold ajY;exact Z R.r.top.kind U
def YT(a:bC T F i d n)(f:aW X A d)(j:uN e W p.line X.env=pure ag):bv T F X (X.lv+1) A (dB F) (c5 T i (n+1)<|.Expr e p) (io (.Expr e p) X.env):=by
 intro G k s R Q E h;rw[CN]at h;refine aL λm=>aI (aH.ite h) λt h=>m<|wpAny_Expr_any (a.e X A f e G k s R _ _ (h.bind (bM _) λc o w v x y z q b r=>?_)) (YS R) j
 exact r.ok q .aO
def YU(a:bC T F i d n)(f:aW X A d):bv T F X (X.lv+1) A (dB F) (c5 T i (n+1)<|.Return (I e) p) (io (.Return (I e) p) X.env):=by intro G j s R Q E h;rw[XG]at h;exact OM<|CS (a.e X A f e) G j s R _ _ (h.bind (bM _) λc k r v t w x m o q=>q.ok m (.ret o))
def YV(a:bC T F f d n)(i:dR T F f d n)(c:aW X A d)(j:X.isFn=B):bv T F X (X.lv+1) A (dB F) (c5 T f (n+1)<|.If t b o p) (io (.If t b o p) X.env):=by
 intro G x s R Q E h;rw[XH]at h;refine wpAny_If<|a.t X A c t G x s R _ _ (h.bind (bM _) λq e k w m y l r z v=>?_)
 clear y h;subst z;induction q with|true=>exact i.ss X A c j b k e m r _ _ v|false=>exact i.ss X A c j o k e m r _ _ v
def YW(k:dR T F o d n)(a:aW X A d)(m:X.isFn=B)(c:D cf):bv T F X (X.lv+1) A (dB F) (cb T o (n+1) c) (xK c X.env):=by
 intro G p s R Q E h;induction c with
 |nil=>rw[XI]at h;exact ON<|h.ok R .aO
 |cons t r=>
  rw[XJ]at h;rw[OO];refine af<|k.s X A a m t G p s R _ _ (h.bind (aA _) λf j q v w x z e y i=>?_)
  clear x h;induction y with
  |aO=>exact k.ss X A a m r q j w e _ _ i|brk=>exact aE<|i.ok e .brk
  |cnt=>exact aE<|i.ok e .cnt
  |ret v=>exact aE<|i.ok e (.ret v)
def zm(f:dR T F k d n)(a:aW X A d)(m:jg t=ag)(c:bV [t]=B)(o:uN v (I t) p.line X.env=pure ag)(q:rH [t] v X.env=pure W):
 bv T F X (X.lv+1) A (dB F) (c5 T k (n+1)<|.Assign [t] v p) (io (.Assign [t] v p) X.env):=by
 intro G r s R Q E h;rw[v6 m]at h;refine aI (aH.ite h) λi h=>ajZ (f.sv X A a v G r s R _ _<|h.bind (bM _) λj e x w y N U z b l=>cB (zi (env:=X.env) c) λP i i=>Z P ?_) o q;exact f.a X A a t x e y j w z b _ _<|l.bind (YH (sv:=j)) λY S D Y V g O L Y M=>M.ok L .aO
def YX(f:bC T F L d n)(B:dR T F L d n)(i:aW X A d)(V:jg v=ag)(g:uN v (I<|.Tuple m a b) p.line X.env=pure ag)
 (O:rH [.Tuple m a b] v X.env=pure W):bv T F X (X.lv+1) A (dB F) (c5 T L (n+1)<|.Assign [.Tuple m a b] v p) (io (.Assign [.Tuple m a b] v p) X.env):=by
 intro G K s R Q E h;rw[Jh V]at h;refine aL λz=>aI (aH.ite h) λr h=>?_;simp only [xM]at r;refine z<|ajZ (f.e X A i v G K s R _ _ (h.bind (bM _) λc t C w M e1 L1 x H j=>?_)) g O
 show am _ _ (i7 (.Tuple m a b) X.env w) _ _ _;generalize e:c4 t c=ze;induction ze using bL with
 |none=>rw[e]at j;exact j.elim|some xs=>
  replace j:=e▸j;dsimp only at j;refine aL λz=>?_;by_cases l:xs.length=m.length;rw[aa l]at j;refine fQ (qC x.r H e) λy vs S N q zz=>?_;subst S;refine cB (zi (env:=X.env) r) λp1 p2 p3=>z ?_;rw[OL];refine af<|fO (CW i.hd q (Z p3 (Z N.length (Z l U))) p2 λD he=>Z p1 ?_)
  have k:∀b o,M.heap.get? b=I o->D.get? b=I o:=λb o e=>he b o (dP<|jy e) e;exact B.as X A i m C t {M with heap:=D} _ _ ⟨x.r.same k,x.g,x.o,x.t⟩ N.Ju (zj<|CX _) _ _<|j.bind (mu (P:=(X.lv+1<=·)) (bM _) (aA _)) λY wc G2 Y s2 e2 L2 R2 Y h2=>h2.ok R2 .aO
  rw[u l]at j;exact j.elim
def ly{p:Prop}(h:Internal.R.C=.ok a s):p:=nomatch h
def C3{h:K}(e:iQ m a b h=.ok r d):bj r=true:=by
 unfold iQ at e;generalize eh a=k at e;generalize eh b=f at e;have S:∀x:H,eg x h=.ok r d->bj r=true:=λx e=>by unfold eg at e;by_cases q:x.length<=eJ;rw[aa q]at e;injection e with e;subst e;rfl;rw[u q]at e;exact ly e
 induction m with
 |Add=>induction k with
  |int i=>induction f with
   |int j=>injection e with e;subst e;rfl
   |_=>exact ly e
  |str x=>induction f with
   |str y=>exact S _ e|_=>exact ly e
  |_=>exact ly e
 |Sub=>induction k with
  |int i=>induction f with
   |int j=>injection e with e;subst e;rfl
   |_=>exact ly e
  |_=>exact ly e
 |_=>exact ly e
def YY{c:K}(R:aZ F X G c s)(a:VO F X.lv G d e)(b:VO F X.lv G f i)
 (h:aH T F X n (aP F X) G (fT d f c) Q E):am F.md A (pS e i) Q E s:=hN R (λY Y h=>(CC R.w a b h).2) h
def YZ{e:bK}(k:d0 T F e)(f:bC T F m d n)(i:aW X A d):bv T F X (X.lv+1) A (dB F) (c5 T m (n+1)<|.AugAssign (.Name x a) o v p) (io (.AugAssign (.Name x a) o v p) X.env):=by intro G u s R Q E h;rw[XO]at h;exact wpAny_AugAssign_Name<|YN k R (h.bind (bM _) λc j q w t C H y z l=>f.e X A i v q j t y _ _ (l.bind (bM _) λb P G2 vb s2 e2 S L M N=>CO L (z.mono S) M (N.bind (n':=X.lv+2) (bM _) λr Z G3 vr s3 I L3 D B V=>v9 D (.v (B.store (C3 I))) (.inr ⟨_,U⟩) (V.bind (n':=X.lv+1) (aA _) λY g G4 Y s4 e4 L4 O Y K=>K.ok O .aO))))
def Y0{e:bK}(k:d0 T F e)(f:bC T F t d n)(i:aW X A d):bv T F X (X.lv+1) A (dB F) (c5 T t (n+1)<|.AugAssign (.Attribute o x a) y v p) (io (.AugAssign (.Attribute o x a) y v p) X.env):=by
 intro G z s R Q E h;rw[XQ]at h;refine wpAny_AugAssign_AttributeAny<|f.e X A i o G z s R _ _ (h.bind (bM _) λc l G1 w s1 e1 L1 P m S=>CP k P m (S.bind (bM _) λL j M vo N e2 Z I D B=>f.e X A i v M j N I _ _ (B.bind (bM _) λb V G3 vb s3 e3 q g O K=>CO g (D.mono q) O (K.bind (n':=X.lv+2) (bM _) λr u G4 vr s4 C H R4 V4 h4=>?_))))
 exact Jo k R4 (((m.mono Z).mono q).mono H) (.v<|V4.store (C3 C)) (.inr ⟨_,U⟩)<|h4.bind (n':=X.lv+1) (aA _) λY Y1 G5 Y s5 e5 L5 R5 Y h5=>h5.ok R5 .aO
def Y2(e:bC T F S d n)(f:aW X A d):bv T F X (X.lv+1) A (dB F) (c5 T S (n+1)<|.AugAssign (.Subscript o i a) L v p) (io (.AugAssign (.Subscript o i a) L v p) X.env):=by intro G M s R Q E h;replace h:=XR▸h;refine aI (aH.ite h) λq h=>wpAny_AugAssign_SubscriptAny (e.e X A f o G M s R _ _<|h.bind (bM _) λc j N w U e1 L1 Z x I=>e.e X A f i N j U Z _ _ (I.bind (bM _) λk D G2 vk s2 e2 y B z V=>YY B (x.mono y) z (V.bind (n':=X.lv+2) (bM _) λg m O vo W e3 l K u C=>?_))) λov iv H=>Xp q;exact e.e X A f v O m W K _ _<|C.bind (bM _) λb st4 G4 vb s4 e4 t R4 V4 h4=>CO R4 (u.mono t) V4 (h4.bind (n':=X.lv+2) (bM _) λr Y1 G5 vr s5 e5 P R5 V5 h5=>CQ f.toU R5 ((((x.mono y).mono l).mono t).mono P) (((z.mono l).mono t).mono P) (.r (V5.store (C3 e5))) (h5.bind (n':=X.lv+1) (aA _) λY st6 G6 Y s6 e6 L6 R6 Y h6=>h6.ok R6 .aO))
end
section
open PySem PySem.SeqAt PyProof.Rows PySem.Calls
set_option backward.match.sparseCases true
def Y3{β:Type}{l:D (H×β)}{a b:β}(h:x≠y)(f:(ay l x).isSome=B)(i:(ay l y).isSome=B):bN (bN l x a) y b=bN (bN l y b) x a:=by
 induction l with
 |nil=>exact ft f|cons p l j=>
  by_cases c:p.1=x;clear j i f;have d:¬p.1=y:=λe=>h<|c.symm.trans e
  exact Z (lu c)<|Z (jj d) (Z (jj d) (lu c).symm)
  by_cases d:p.1=y;clear j i f;exact Z (jj c)<|Z (lu d) (Z (lu d) (jj c).symm)
  exact Z (jj c)<|Z (jj d) (Z (jj d) (Z (jj c) (Z (j (jI c▸f) (jI d▸i)) U)))
def C4{β:Type}{l:D (H×β)}{a:β}(h:(ay l y).isSome=B):(ay (bN l x a) y).isSome=true:=by rw[eA];split<;>first|rfl|exact h
def Y4{β:Type}{l:D (H×β)}{a:β}(c:x≠y)(h:(ay (bN l x a) y).isSome=B):(ay l y).isSome=true:=by rw[eA,u c]at h;exact h
def Y5:iw l=B<->l.countP (λx=>!fG x)<=1:=by
 induction l with
 |nil=>exact⟨λ_=>Nat.zero_le _,λ_=>U⟩|cons x r c=>
  show(if fG x then iw r else r.all fG)=B<->_;by_cases h:fG x=B;rw[aa h,c,List.countP_cons_of_neg<|by simp[h]];refine Z (u h)<|Z (List.countP_cons_of_pos (by simpa using h)) ?_;rw[Fo]
  constructor;intro q;have:aj0 (λx=>!fG x) r=0:=List.countP_eq_zero.mpr λy a=>by simp[q y a]
  exact fF<|bg this
  intro q y a;have:aj0 (λx=>!fG x) r=0:=Nat.le_zero.mp<|aj1 q
  have:=List.countP_eq_zero.mp this y a;simpa using this
def Y6(h:iw l=B):iw l.reverse=true:=by rw[Y5]at h⊢;rw[List.countP_reverse];exact h
noncomputable def qN:D ai->al (D H)
 |[]=>I []|e::r=>(gO e).bind λx=>(qN r).map (x::·)
def Jw(h:qN (e::r)=I l):∃x p q,e=.Name x p/\qN r=I q/\l=x::q:=by refine aL λa=>av (dE h) λx c d=>aJ (qe c) λp f=>av (Option.map_eq_some_iff.mp d) λq i j=>?_;exact a<|⟨x,p,q,f,i,j.symm⟩
def C5(h:l.length=n+1):∃a r,l=a::r/\r.length=n:=by
 rcases l with _|⟨a,r⟩
 exact Nat.noConfusion h;exact⟨a,r,U,FO h⟩
def C6{α:Type}{l:D α}(h:l.length=2):∃a b,l=[a,b]:=by refine aL λe=>d9 (C5 h) λa r c d=>?_;subst c;clear h;refine d9 (C5 d) λb q c f=>?_;subst c;clear d;obtain rfl:=uI f;exact e<|⟨a,b,U⟩
def Jx{α:Type}{l:D α}(h:l.length=3):∃a b c,l=[a,b,c]:=by refine aL λe=>d9 (C5 h) λa r d f=>?_;subst d;clear h;refine eO (C6 f) λb c d=>?_;subst d;exact e<|⟨a,b,c,U⟩
noncomputable def wg(a:K):D H->D SV->K
 |x::c,v::d=>wg (cq x v a) c d|_,_=>a
def Y7{a:K}(h:oU T j n c a=.ok l d):c.length=l.length:=by
 induction n generalizing c a d l with
 |zero=>exact cO Internal.R.ctorIdx h U|succ n f=>
  induction c using bk with
  |nil=>exact bq ig (Internal.R.ok.inj h).1|cons e c=>refine d9 (zb<|Jl▸h) λv s Y h=>d9 (zb h) λk s i h=>?_;exact ax (Internal.R.ok.inj h).1<|bq rr (f i)
def zn(h:(ay s.loc x).isSome=B)(k:s.sc.names.lookup x=I .local):fU x v s=.ok () (cq x v s):=by unfold fU;exact Z (aa h)<|Z nkE (Z k U)
def Y8(h:¬(ay s.loc x).isSome=B):fU x v s=.C:=by unfold fU;exact Z (u h) U
def Y9{cl:bP}:∀{h:D H}{ts:D ai}{d:D SV}{n:J}{st:K},qN ts=I h->(∀x∈h,st.sc.names.lookup x=I .local)->iS T cl n ts d st≠.C->
 d.length=h.length/\iS T cl n ts d st=.ok () (wg st h d)/\(h.Nodup->∀x∈h,(ay st.loc x).isSome=B):=by
 intro h;induction h with
 |nil=>
  intro ts d n st h1 h2 f;clear h2;rcases ts with _|⟨t,r⟩
  clear h1;rcases n with _|n
  exact aF U f;rcases d with _|⟨v,vs⟩
  exact⟨U,U,λY x hx=>aF hx rz⟩;exact aF U f;clear f;exact l6 (Jw h1) λx p q zz zz e=>aF e.symm<|rI _ _
 |cons x h ih=>
  intro ts d n st h1 h2 f;rcases ts with _|⟨t,r⟩
  exact aF (aK<|show I []=I (x::h)from h1).symm<|rI _ _
  refine l6 (Jw h1) λy p l cy hl q=>?_;subst cy;injection q with q1 q2;clear h1;subst q1 q2;rcases n with _|n
  exact aF U f;rcases d with _|⟨v,vs⟩
  exact aF U f;rcases n with _|n
  exact aF U f;rw[zd,v7]at f⊢;clear p;by_cases oz:(ay st.loc x).isSome=B;have e:=zn (v:=v) oz<|h2 x (dj ..)
  rw[jT e]at f⊢;clear e;refine cB (ih (st:=cq x v st) hl (λy hy=>h2 y<|eW _ hy) f) λa b c=>⟨bq (·+1) a,b,λsZ y hy=>?_⟩;clear b a hl ih f h2 n;refine aI (List.nodup_cons.mp sZ) λm1 m2=>?_;clear sZ vs r;rcases List.mem_cons.mp hy with rfl|hy
  exact oz;exact Y4 (λq=>m1<|by exact(q)▸hy)<|c m2 y hy
  rw[mC<|Y8 oz]at f;exact aF U f
def Y'{Q:c9->aM->Prop}:∀{xs:D H}{dG:D SV}{vs:D ah}{G:Gh}{st:K}{s:aM},aZ F X G st s->iz F X.lv G dG vs->iw dG=B->dG.length=xs.length->
 (∀x∈xs,st.sc.names.lookup x=I .local/\(ay st.loc x).isSome=B)->
 (∀G' s',Le (X.lv+1) G G'->aZ F X G' (wg st xs dG) s'->Q () s')->am F.md A (Bc (xs.map λx=>OP X.env x) vs) Q E s:=by
 intro xs;induction xs with
 |nil=>intro dG vs G st s R V o l hx hq;obtain rfl:=uI l;obtain rfl:=cX.nl V;exact aE<|hq G s (Le.refl _ _) R
 |cons x xs ih=>
  intro dG vs G st s R V o l hx hq;induction dG using bk with
  |nil=>exact cO id l U|cons sv dG=>
   refine fP (cX.out V) λv l' e a b=>?_;subst e;obtain⟨h1,h2⟩:=hx x<|dj ..
   refine af<|dF (ajW (v9 (n:=iA X sv) (T:=⟨λY=>W,λY=>W,λY Y=>W,λY Y=>ag,λY=>ag,λY=>W,λY Y=>ag,λY=>ag⟩) R a aW.CY ?_))
   unfold fU;refine Z (aa h2)<|Z nkE (Z h1 ?_)
   intro G1 _ s1 L1 R1 _;replace o:(if fG sv then _ else _)=B:=o;have C7:∀y∈xs,(cq x sv st).sc.names.lookup y=I .local/\(ay (cq x sv st).loc y).isSome=true:=λy hy=>⟨(hx y<|eW _ hy).1,C4 (hx y<|eW _ hy).2⟩;by_cases hv:fG sv=B;rw[aa hv]at o;unfold iA at L1;rw[aa hv]at L1;exact ih R1 (iz.mono L1 b) o (by simpa using l) C7 λG2 s2 L2 R2=>hq G2 s2 ((L1.down<|bM _).trans L2) R2;rw[u hv]at o;unfold iA at L1;rw[u hv]at L1;exact ih R1 (iz.plain L1 b o) (zj o) (by simpa using l) C7 λG2 s2 L2 R2=>hq G2 s2 (L1.trans L2) R2
def Za{f:K}{j:D H}{k:D SV}(h:j.length=2\/j.length=3)(l:k.length=j.length)(n:j.Nodup)(m:∀x∈j,(ay f.loc x).isSome=B):wg f j.reverse k.reverse=wg f j k:=by
 have i:∀{f:K}{x y:H}{a b:SV},x≠y->(ay f.loc x).isSome=B->(ay f.loc y).isSome=B->cq y b (cq x a f)=cq x a (cq y b f):=by intro f x y a b q t v;unfold cq;exact Z (Y3 q t v) U
 refine aL λo=>?_;rcases h with h|h
 refine eO (C6 h) λx y d=>?_;subst d;clear h;refine eO (C6 l) λa b d=>?_;subst d;exact o<|(i (λe=>(List.nodup_cons.mp n).1 (by exact(e)▸.head _)) (m x (.head _)) (m y (.tail _ (.head _)))).symm
 refine r7 (Jx h) λx y z d=>?_;subst d;clear h;refine r7 (Jx l) λa b c d=>?_;subst d;have w:x≠y:=λe=>(List.nodup_cons.mp n).1<|(e)▸.head _
 have A:x≠z:=λe=>(List.nodup_cons.mp n).1<|(e)▸.tail _ (.head _)
 have E:y≠z:=λe=>(List.nodup_cons.mp (List.nodup_cons.mp n).2).1<|(e)▸.head _
 have p:=m x<|.head _
 have r:=m y<|.tail _ (.head _)
 have s:=m z<|.tail _ (.tail _ (.head _))
 refine o ?_;show cq x a (cq y b<|cq z c f)=cq z c (cq y b<|cq x a f);exact Z (i E.symm s r)<|Z (i A.symm (C4 s) (C4 p)) (Z (i w.symm r p) U)
noncomputable def zo(c:fE)(a:J)(t:ai):al Str:=
 amS (λY=>al H) t (λe d=>if(c.kindOf e==I .local&&d.line==a)=B then I e else W) λY=>W
def Zb(h:zo c d t=I x):gO t=I x/\c.kindOf x=I .local:=by
 induction t using gL with
 |Name id f=>refine aI (oB h) λa e=>?_;rw[cN]at a;exact ax e<|⟨U,eq_of_beq a.1⟩
 |_=>exact aD h
def Zc(h:ts.filterMap (zo env line)=aw)(l:aw.length=ts.length):qN ts=I aw/\∀x∈aw,env.kindOf x=I .local:=by
 induction ts generalizing aw with
 |nil=>subst h;exact⟨U,λY h=>aF h rz⟩|cons t r i=>
  have c:(r.filterMap<|zo env line).length<=r.length:=List.length_filterMap_le ..;rw[AZ]at h;rcases e:zo env line t with _|id
  rw[e]at h;clear e;subst h;exact aF l<|dP (ut c)
  rw[e]at h;subst h;refine aI (i U<|FO l) λa b=>aI (Zb e) λf j=>⟨show(gO t).bind (λx=>(qN r).map (x::·))=_ by refine Z f<|Z a ?_;rfl,λx d=>?_⟩;clear f e l;rcases List.mem_cons.mp d with rfl|d
  exact j;exact b x d
def Zd[BEq α]:∀(m:J)(l:D α),l.length<=m->l.eraseDups.length<=l.length:=by
 intro m;induction m with
 |zero=>intro l h;induction l with
  |nil=>simp|cons=>simp at h
 |succ m e=>
  intro l h;induction l with
  |nil=>simp|cons a c=>
   refine Z aj2<|Z bw (Z bw ?_)
   have d:(c.filter λb=>!b==a).length<=c.length:=aj3 ..;rw[bw]at h;have:=e (c.filter λb=>!b==a)<|g d (aj1 h)
   exact fF<|g this d
def Ze[BEq α][LawfulBEq α]:∀(l:D α),l.eraseDups.length=l.length->l.Nodup:=by
 intro l;induction l with
 |nil=>exactλ_=>uy|cons a c e=>
  intro h;rw[aj2,bw,bw]at h;have f:(c.filter λb=>!b==a).length<=c.length:=aj3 ..;have i:=Zd _ (c.filter λb=>!b==a)<|aA _
  have j:(c.filter λb=>!b==a).length=c.length:=OQ f<|g (bg (FO h).symm) i
  have d:=List.length_filter_eq_length_iff.mp j;have k:(c.filter λb=>!b==a)=c:=List.filter_eq_self.mpr d;rw[k]at h;refine List.nodup_cons.mpr ⟨λm=>?_,e<|FO h⟩;have:=d a m;simp at this
def Zf(h:(!c||d)=B):(if q1=B then N else if f=B then N else if e=B then N else if d=B then N else if c=B then a else S)=N\/
 (if q1=B then N else if f=B then N else if e=B then N else if d=B then N else if c=B then a else S)=S/\q1=ag/\e=false:=by
 induction q1 with
 |true=>exact .inl U
 |false=>induction f with
  |true=>exact .inl U
  |false=>induction e with
   |true=>exact .inl U
   |false=>induction d with
    |true=>exact .inl U
    |false=>induction c with
     |true=>exact ft h|false=>exact .inr ⟨U,U,U⟩
def Zg(h:sp i k=B):rH [.Tuple i a b] (.Tuple k c d) env=pure W\/
 ∃f,rH [.Tuple i a b] (.Tuple k c d) env=pure (I f)/\qN i=I f/\(∀x∈f,env.kindOf x=I .local)/\f.Nodup/\(f.length=2\/f.length=3)/\k.length=f.length:=by
 refine(Zf (q1:=!(i.length==2||i.length==3)||k.length !=i.length||env.blockKind !=.function) (Bool.and_eq_true_iff.mp h).2).imp (λh=>h) λh=>cB h λe m n=>⟨_,e,?_⟩;clear e h;refine aI (Bool.or_eq_false_iff.mp n) λj o=>aI (Bool.or_eq_false_iff.mp (Bool.or_eq_false_iff.mp m).1) λp q=>?_;have j:=bne_eq_false_iff_eq.mp j;exact aI (Zc (env:=env) (ts:=i) (line:=(i.head?.map λx:ai=>x.pos.line).getD 0) U j) λr s=>⟨r,s,Ze _<|bne_eq_false_iff_eq.mp o,(Z j<|(Bool.or_eq_true_iff.mp ((xM _).mp p)).imp eq_of_beq eq_of_beq),(bne_eq_false_iff_eq.mp q).trans j.symm⟩
def Zh(JS:dR T F cl d n)(f:aW X A d):bv T F X (X.lv+1) A (dB F) (c5 T cl (n+1)<|.Assign [.Tuple N a b] (.Tuple vs c d') p) (io (.Assign [.Tuple N a b] (.Tuple vs c d') p) X.env):=by
 intro G st s R Q E h;replace h:=(XK)▸h;refine aL λV=>?_;obtain⟨ho,h⟩:=aH.ite h;simp only [xM]at ho;have y:=ho;unfold sp at y;simp only [cN,il]at y;obtain⟨⟨⟨n1,n2⟩,n3⟩,_⟩:=y;refine V ?_;rw[exec_Assign_arm];refine af<|fO (af (aE (Z (u (by lk)) (af (OG (JS.dG X A f vs d' n2 G st s R _ _ (h.bind (bM _) λl i G1 q m e1 L1 j V1 r=>?_)))))))
 by_cases O:l.length=N.length/\iw l=B
 rotate_left
 .rw[u O]at r;exact r.elim
 replace r:=(aa O)▸r;have S:=V1.length;have v:vs.length=l.length:=Y7 e1;have alR:q.length<=1000:=g (bg<|S.trans v.symm) n3;refine⟨by exact(dY)▸g ‹_› (by lk),?_⟩;have R2:aZ F X G1 i {m with heap:=m.heap.push {cls:=.type "tuple",data:=.seq q.toArray}}:=⟨j.r.push _,j.g,j.o,j.t⟩;have hT:my (m.heap.push {cls:=.type "tuple",data:=.seq q.toArray}) m.heap.objs.size q:=.t ⟨_,gx _ U,U,_,U⟩;have fin:∀{H:Gh}{s':aM},Le (X.lv+1) G1 H->∀{L:K},iS T cl n N l i=.ok () L->aZ F X H L s'->Q FP s':=by intro H s' L' L e R';have h2:=r;replace h2:=(jT e)▸h2;exact h2 H FP s' L' R' .aO
 rcases Zg (env:=X.env) (a:=a) (b:=b) (c:=c) (d:=d') ho with sw|⟨aw,sw,q1,q2,q3,q4,q5⟩
 .refine Z sw<|af (aE ?_)
  show am _ _ (do i7 (.Tuple N a b) X.env (.ref m.heap.objs.size);pure FP) _ _ _;rw[OL];refine aL λV=>?_;obtain⟨p1,p2,p3⟩:=zi (env:=X.env) n1;refine V<|af (af (fO (CW f.hd hT (Z p3 (Z S (Z O.1 U))) p2 λh' he=>Z p1 ?_)))
  have k:∀b o,(m.heap.push {cls:=.type "tuple",data:=.seq q.toArray}).get? b=I o->h'.get? b=I o:=λb o e=>he b o (dP<|jy e) e;exact JS.as X A f N G1 i {m with heap:=h'} l q ⟨R2.r.same k,j.g,j.o,j.t⟩ V1 O.2 _ _<|r.bind (mu (P:=(X.lv+1<=·)) (bM _) (aA _)) λY zh G3 Y s3 e3 L3 R3 Y h3=>aE (h3.ok R3 .aO)
 .refine Z sw<|af (aE ?_)
  show am _ _ (do
   rule "assign.swapped-stores"
   let M<-OK (.ref m.heap.objs.size) aw.length W
   Bc (aw.reverse.map λn=>OP X.env n) M.reverse
   pure FP) _ _ _
  have Zi:aw.length=q.length:=q5.symm.trans<|v.trans S.symm
  refine Z Zi<|af (wpAny_rule (af (Jt f.hd hT λh' he=>?_)))
  have k:∀b o,(m.heap.push {cls:=.type "tuple",data:=.seq q.toArray}).get? b=I o->h'.get? b=I o:=λb o e=>he b o (dP<|jy e) e;have w:∀x∈aw,i.sc.names.lookup x=I .local:=λx hx=>by
   rcases j.r.top.kd x with z|⟨_,z⟩
   .exact(z)▸q2 x hx
   .rw[q2 x hx]at z;exact aF z<|by lk
  have gH:iS T cl n N l i≠.C:=λz=>by rw[mC z]at r;exact r
  refine aL λV=>?_;obtain⟨r1,r2,r3⟩:=Y9 q1 w gH;have oz:=r3 q3;refine V<|af (Y' (s:={m with heap:=h'}) (G:=G1) (st:=i) (dG:=l.reverse) ⟨R2.r.same k,j.g,j.o,j.t⟩ (cX.reverse V1) (Y6 O.2) (by simp[r1]) (λx hx=>⟨w x (List.mem_reverse.mp hx),oz x (List.mem_reverse.mp hx)⟩) λH s' L' R'=>?_)
  rw[Za q4 r1 q3 oz]at R';exact aE<|fin L' r2 R'
inductive dK(F:au)(G:Gh):dw->D CV->Prop
 |l {o a i vs n xs}:o.cls=.type "list_iterator"->o.data=.fields #[.ref a,.int (i:J) 0]->G.fz a=I (bO vs n)->bn F G xs vs->dK F G o (xs.drop i)|t {o a i vs oa n xs}:o.cls=.type "tuple_iterator"->o.data=.fields #[.ref a,.int (i:J) 0]->G.fz a=I oa->oa.cls=.type "tuple"->oa.data=.seq vs.toArray n->bn F G xs vs->dK F G o (xs.drop i)|sa {o x t i}:o.cls=.type "str_ascii_iterator"->o.data=.fields #[.str x t,.int (i:J) 0]->dK F G o (((pY x).map CV.str).drop i)|sw {o x t i}:o.cls=.type "str_iterator"->o.data=.fields #[.str x t,.int (i:J) 0]->dK F G o (((pY x).map CV.str).drop i)|r {n i:J}:i<=n->n<1000->dK F G {cls:=.type "range_iterator",data:=.fields #[g7 i,g7 ((n -i:J):V),g7 1]} ((jf n).drop i)
def dK.mono(L:Le n G h){l:D CV}(x:dK F G o l):dK F h o l:=by
 induction x with
 |l a b c d=>exact .l a b (L.fz _ _ c)<|d.mono L
 |t a b c d e f=>exact .t a b (L.fz _ _ c) d e<|f.mono L
 |sa a b=>exact .sa a b|sw a b=>exact .sw a b|r a b=>exact .r a b
def dK.cls{l:D CV}(x:dK F G o l):∃c d,o.cls=.type c/\o.data=.fields d/\(["enumerate","zip","dict_itemiterator","dict_reverseitemiterator","odict_iterator","itertools.zip_longest","itertools.pairwise"]:D aX).contains c=false:=by induction x with|l a b=>exact⟨_,_,a,b,U⟩|t a b=>exact⟨_,_,a,b,U⟩|sa a b=>exact⟨_,_,a,b,U⟩|sw a b=>exact⟨_,_,a,b,U⟩|r=>exact⟨_,_,U,U,U⟩
def Jy{M:m5}(x:dK F G o l)(i:s.heap.get? d=I o)(h:Q () s):am M A (aj4 t (.ref d) v) Q E s:=by
 refine fP x.cls λc f j k m=>?_;have e:∀a:bc,am M A (do
  let o<-load d
  match o.cls,o.data with
  |.type n,.fields f=>
   if(["enumerate","zip","dict_itemiterator","dict_reverseitemiterator","odict_iterator","itertools.zip_longest","itertools.pairwise"]:D aX).contains n&&f[0]?==I (g7 a)then
    rule "for.unpacks-the-owned-tuple"
    updateField d 0 .none
  |_,_=>pure ():lP c9) Q E s:=by
  refineλa=>af<|wpAny_load i (Z j (Z k ?_))
  dsimp only;exact Z m<|aE h
 cases t<;>first|exact aE h|(cases v<;>first|exact aE h|exact e _)
noncomputable def Gh.iB(G:Gh)(a:bc)(o:dw):Gh:={G with tm:=λb=>if b=a then I (0,o)else G.tm b}
def aG.iB{s:K}(R:aG F X G s h)(n:G.tm c=I (0,o))(f:fN c h r)(t:r.get? c=I d):
 aG F X (G.iB c d) s r/\Le 0 G (G.iB c d)/\(G.iB c d).tm c=I (0,d):=by
 have m:=R.tm c _ n;have L:Le 0 G (G.iB c d):=⟨λY Y e=>e,λY e=>⟨U,e⟩,λY Y e=>⟨U,e⟩,λY Y e=>aF e yO,λY Y Y Y e=>aF e yP⟩;have j:Tr (λa=>a=.gU) G (G.iB c d) h r:=⟨λb o q v=>(f.2 b λz=>v (Z z (m.2))).trans q,λb Y v=>rfl,λa Y=>rfl⟩;refine⟨⟨R.sys,R.ey,λb d q=>?_,λb p q=>?_,λb q=>?_,λk w q=>?_,R.fH,R.eY,?_,?_,R.fr⟩,L,aa U⟩;have:=R.fz b d q;exact⟨(f.2 b λz=>by rw[z,m.2]at this;exact ao this.2 U).trans this.1,this.2⟩;change(if b=c then _ else G.tm b)=_ at q;clear n;by_cases z:b=c;clear j L f;rw[aa z]at q;obtain rfl:=aK q;subst z;exact⟨t,m.2⟩;rw[u z]at q;exact⟨(f.2 b z).trans (R.tm b p q).1,(R.tm b p q).2⟩;clear m n;by_cases z:b=c;clear j L;clear q o f;subst z;exact dy t;exact Z (f.2 b z)<|R.lt b q
 exact(R.cells k w q).tr j L (ao · rfl) (ao · rfl) λY h=>ao h U;exact R.top.tr j L (ao · rfl) (by intro i y _;simp) λy=>.inl (ao · rfl);exact R.out.tr j L λi Y=>⟨by exactλh=>ao h U,(by intro y;simp),by intro y;simp⟩
def zp{i:J}:((pY x).map CV.str)[i]?=(x.cps[i]?).map λc=>CV.str ⟨#[c]⟩:=by
 unfold pY;refine Z rJ<|Z rJ (Z aj5 ?_)
 cases x.cps[i]?<;>rfl
def Jz{n:J}:(jf n)[i]?=if i<n then I (CV.int i)else none:=by
 unfold jf;refine Z rJ ?_;rw[AS];by_cases h:i<n;exact Z (aa h)<|Z (List.getElem?_range h) U
 exact Z (u h)<|Z (pR (by simp;exact iM ‹_›)) U
def x8{l:D α}(h:l.drop i=x::r):l[i]?=I x/\l.drop (i+1)=r:=by constructor;have:=List.getElem?_drop (xs:=l) (i:=i) (j:=0);rw[h]at this;simpa using this.symm;exact ax FQ<|Z h U
def x9{l:D α}(h:l.drop i=[]):l[i]?=none:=by rw[pR];exact List.drop_eq_nil_iff.mp h
def Zj{F:au}{X:aU}{G:Gh}{st:K}{s:aM}{A:bS}{E:bp}{it:bc}{o:dw}{x:CV}{l:D CV}{Q:al ah->aM->Prop}(R:aZ F X G st s)(ht:G.tm it=I (0,o))(e:dK F G o (x::l))
 (hq:∀v o' h' tk,VR F G x v->dK F G o' l->h'.get? it=I o'->fN it s.heap h'->Q (I v) {s with heap:=h',toks:=tk}):am F.md A (rK<|.ref it) Q E s:=by
 refine aL λhG=>aI (R.r.tm it _ ht) λho hw=>?_;generalize hl:x::l=xl at e;clear hw ht;cases e with
 |l a b c d=>
  refine aI (x8 hl.symm) λe1 e2=>av (d.get _ e1) λv e3 r=>hG<|ajT ⟨o,ho,a,b⟩ (gn (R.r.fz _ _ c).1) (by simpa using e3) λh' hi hs=>?_
  clear e3 e1 b a ho hG;refine cC hi λo' f1 f2 f3=>?_;have:=dK.l (i:=_) f2 f3 c d;rw[e2]at this;exact hq v o' h' s.toks r this f1 hs
 |t a b c c1 c2 d=>
  refine aI (x8 hl.symm) λe1 e2=>av (d.get _ e1) λv e3 r=>hG<|wpAny_pyNext_tuple_item ⟨o,ho,a,b⟩ (vR (R.r.fz _ _ c).1 c1 c2) (by simpa using e3) λh' hi hs=>?_
  clear e3 e1 b a ho hG;refine cC hi λo' f1 f2 f3=>?_;have:=dK.t (i:=_) f2 f3 c c1 c2 d;rw[e2]at this;exact hq v o' h' s.toks r this f1 hs
 |sa a b=>
  refine aI (x8 hl.symm) λe1 e2=>?_;rw[zp,OR]at e1;refine av e1 λc e3 cy=>?_;subst cy;refine hG<|wpAny_pyNext_ascii_item ⟨o,ho,a,b⟩ e3 λh' hi hs=>?_
  clear e3 b a ho hG;refine cC hi λo' f1 f2 f3=>?_;have:=dK.sa (F:=F) (G:=G) f2 f3;rw[e2]at this;exact hq _ o' h' _ (.str _ _) this f1 hs
 |sw a b=>
  refine aI (x8 hl.symm) λe1 e2=>?_;rw[zp,OR]at e1;refine av e1 λc e3 cy=>?_;subst cy;refine hG<|wpAny_pyNext_wide_item ⟨o,ho,a,b⟩ e3 λh' hi hs=>?_
  clear e3 b a ho hG;refine cC hi λo' f1 f2 f3=>?_;have:=dK.sw (F:=F) (G:=G) f2 f3;rw[e2]at this;exact hq _ o' h' _ (.str _ _) this f1 hs
 |@r n i a b=>
  clear a;refine aI (x8 hl.symm) λe1 e2=>?_;rw[Jz]at e1;split at e1;rename_i cV;injection e1 with e1;subst e1;refine hG<|wpAny_pyNext_range_item ho (Int.ofNat_lt.mpr (aiT cV)) λh' hi hs=>?_
  have:=dK.r (F:=F) (G:=G) (n:=n) (i:=i+1) (xE ‹_›) b;rw[e2]at this;refine hq _ _ h' _ (.int _ _) this (Z hi ?_) hs;have z1:((i+1:J):V)=(i:V)+1:=by rfl
  have z2:((n -(i+1):J):V)=((n -i:J):V) -1:=Uj cV;exact Z z1<|Z z2 U
  exact aD e1
def JA{m:K}(R:aZ F X G m s)(n:G.tm j=I (0,o))(e:dK F G o (x::l))
 (p:∀v h f i,1<=i->VR F G x v->dK F G h l->f.get? j=I h->fN j s.heap f->Q (I v) {s with heap:=f,toks:=i}):am F.md A (rK<|.ref j) Q E s:=
 g5 (wpAny_toks_of R.t<|Zj (Q:=λr k=>1<=k.toks->Q r k) (E:=E) R n e λv h f i a b c d t=>p v h f i t a b c d) (λY Y x=>x.2 x.1) λY Y x=>x.2
def JB{F:au}{x:K}(h:A.handled=W)(R:aZ F X G x s)(v:G.tm q=I (0,o))(f:dK F G o [])
 (j:∀w,Ba q s.heap w->Q W {s with heap:=w}):am F.md A (rK<|.ref q) Q E s:=by
 refine aL λk=>aI (R.r.tm q _ v) λm y=>?_;generalize p:([]:D CV)=T at f;clear y v;cases f with
 |l a b c d=>
  have e:=x9 p.symm;refine k<|ajV h ⟨o,m,a,b⟩ (gn (R.r.fz _ _ c).1) ?_ j
  have:=d.length;rw[aj6]at e;simp;exact g (bg this) e
 |t a b c z P d=>
  have e:=x9 p.symm;refine k<|wpAny_pyNext_tuple_end h ⟨o,m,a,b⟩ (vR (R.r.fz _ _ c).1 z P) ?_ j
  have:=d.length;rw[aj6]at e;simp;exact g (bg this) e
 |sa a b=>have e:=x9 p.symm;rw[zp,aj7]at e;exact k<|wpAny_pyNext_ascii_end h ⟨o,m,a,b⟩ e j
 |sw a b=>have e:=x9 p.symm;rw[zp,aj7]at e;exact k<|wpAny_pyNext_wide_end h ⟨o,m,a,b⟩ e j
 |@r n i a b=>have e:=x9 p.symm;rw[Jz]at e;split at e;exact cO OS e U;exact k<|wpAny_pyNext_range_end h m (AQ (bq jA (ru (Nat.not_lt.mp ‹_›)))) j
def Zk{m:J}:(if(0:V)<m then(m:V) -0 else 0)=m:=by
 induction m using AM with
 |zero=>rfl|succ m=>exact(aa<|Int.ofNat_succ_pos m).trans<|Int.sub_zero _
def JC{y:K}(R:aZ F X G y s)(d:VO F X.lv G c v)(e:gG y c=I l)
 (j:∀o,dK F G o l->o.isFreed=ag->Q (.ref s.heap.objs.size) {s with heap:=s.heap.push o}):am F.md A (FR v) Q E s:=by
 induction c using CV.casesOn with
 |str x=>
  obtain rfl:=aK e;clear e;refine aJ d.str_inv λt h=>?_;subst h;by_cases P:x.cps.all (·<128)=B;exact wpAny_pyIter_ascii P<|j _ (by have:=dK.sa (F:=F) (G:=G) (o:={cls:=.type "str_ascii_iterator",data:=.fields #[.str x t,.int 0 0]}) (i:=0) U U;simpa using this) U
  exact wpAny_pyIter_wide (by simpa using P)<|j _ (by have:=dK.sw (F:=F) (G:=G) (o:={cls:=.type "str_iterator",data:=.fields #[.str x t,.int 0 0]}) (i:=0) U U;simpa using this) U
 |fS n=>
  obtain rfl:=aK e;clear e;obtain⟨b,t,f,w,rfl,p,q,z⟩:=d.out;clear d;refine aJ (g8 p) λm h=>?_;subst h;have k:amT 0 (m:V) 1=(m:V):=(rangeSize_one ..).trans Zk;refine wpAny_pyIter_range (R.r.fz _ _ z).1 (small_one (by lk) (by lk) (dX _)<|pQ q (dk U))<|Z k (j _ ?_ U)
  have:=dK.r (F:=F) (G:=G) (n:=m) (i:=0) (dW _)<|Int.ofNat_lt.mp q
  simpa using this
 |lst S=>obtain rfl:=aK e;clear e;refine l6 d.lst_inv λa L n h z r=>?_;subst h;exact ajU (gn (R.r.fz _ _ z).1)<|j _ (.l (i:=0) U U z r) U
 |tup S=>obtain rfl:=aK e;clear e;refine GC d.H8 λa o L n h z T Y r=>?_;subst h;exact wpAny_pyIter_tuple (vR (R.r.fz _ _ z).1 T Y)<|j _ (.t (i:=0) U U z T Y r) U
 |_=>exact aD e
end
section
open PySem PySem.SeqAt PyProof.Rows PySem.Calls
def Ns.slots{h c:bG}(k:∀b o,h.get? b=I o->∃d,c.get? b=I {o with slots:=d})(e:h.Ns a m):c.Ns a m:=by exact aL λf=>l6 e λo i j n p r=>aJ (k a o n) λd q=>f<|⟨_,i,j,q,p,r⟩
def gV.slots(L:gV F G h j n p Q)(k:∀b o,h.get? b=I o->∃T,s.get? b=I {o with slots:=T})
 (t:∀b o,h.get? b=I o->(∀i,G.ow b≠.locs i)->s.get? b=I o):gV F G s j n p Q:=by
 have E:Tr (λa=>∃i,a=.locs i) G G h s:=⟨λb o q X=>t b o q λi v=>X ⟨i,v⟩,λY Y Y=>rfl,λY Y=>rfl⟩;have P:=Le.refl 0 G;exact{
  kind:=L.kind,glob:=L.glob,blt:=L.blt,kd:=L.kd,lo:=L.lo,la:=L.la
  ns:=by obtain⟨m,S,r⟩:=L.ns;exact⟨m,Ns.slots k S,λy d w e=>(r y d w e).tr E P (by simp)<|by simp⟩
  ce:=λy d=>by obtain⟨c,o,x,f,⟨z,l,A⟩,r⟩:=L.ce y d;exact⟨c,o,x,f,⟨z,t _ _ l<|by refine Z f ?_;simp,A⟩,λw e=>(r w e).tr E P (by simp)<|by simp⟩
  fr:=λy d=>by obtain⟨c,o,i,x,v,f,⟨z,l,A⟩,r⟩:=L.fr y d;exact⟨c,o,i,x,v,f,⟨z,t _ _ l<|by refine Z f ?_;simp,A⟩,r⟩
  own:=L.own}
def aG.slots{m:K}(R:aG F X G m h)(k:∀b o,h.get? b=I o->∃n,d.get? b=I {o with slots:=n})
 (c:∀b o,h.get? b=I o->(∀i,G.ow b≠.locs i)->d.get? b=I o):aG F X G m d:=by
 have s:Tr (λa=>∃i,a=.locs i) G G h d:=⟨λb o q t=>c b o q λi v=>t ⟨i,v⟩,λY Y Y=>rfl,λY Y=>rfl⟩;have w:=Le.refl 0 G;refine⟨R.sys,R.ey,λb o q=>?_,λb p q=>?_,λb q=>?_,λj y q=>(R.cells j y q).tr s w (by simp) (by simp)<|by simp,R.fH,R.eY,R.top.slots k c,?_,R.fr⟩;have:=R.fz b o q;exact⟨c _ _ this.1<|by refine Z this.2 ?_;simp,this.2⟩;have:=R.tm b p q;exact⟨c _ _ this.1<|by refine Z this.2 ?_;simp,this.2⟩;exact aJ (Option.isSome_iff_exists.mp<|R.lt b q) λo e=>aJ (k b o e) λn z=>dy z;have:∀l:D Fm,oX F G h l->oX F G d l:=by intro l;induction l with|nil=>exactλY=>trivial|cons f r A=>exactλx=>⟨x.1.slots k c,A x.2⟩
 exact this _ R.out
def aG.JD{F:au}{X:aU}{G:Gh}{st:K}{h h':bG}(R:aG F X G st h){a:bc}(hs:fN a h h')(hw:G.ow a=.none):aG F X G st h':=by
 have ne:∀b,G.ow b≠.none->b≠a:=λb hb q=>hb<|Z q hw
 have Tt:Tr (λO=>O=.none) G G h h':=⟨λb o q hb=>(hs.2 b<|ne b hb).trans q,λY Y Y=>rfl,λY Y=>rfl⟩;have L0:=Le.refl 0 G;refine⟨R.sys,R.ey,λb o q=>?_,λb p q=>?_,λb q=>?_,λj ob q=>(R.cells j ob q).tr Tt L0 (ao · rfl) (ao · rfl) λY h=>ao h U,R.fH,R.eY,R.top.tr Tt L0 (ao · rfl) (by intro i y _;simp) λy=>.inl (ao · rfl),R.out.tr Tt L0 λi Y=>⟨by exactλh=>ao h U,(by intro y;simp),by intro y;simp⟩,R.fr⟩;have:=R.fz b o q;exact⟨(hs.2 b<|ne b (by refine Z this.2 ?_;simp)).trans this.1,this.2⟩;have:=R.tm b p q;exact⟨(hs.2 b<|ne b (by refine Z this.2 ?_;simp)).trans this.1,this.2⟩;exact Z (hs.2 b<|ne b q)<|R.lt b q
def fV.at(x:fV F G h k (.inst c f)):G.ow (G.ad<|.cell k)=.cell k/\∃o e,h.get? (G.ad<|.cell k)=I o/\o.cls=.ref e/\F.cU c=I e:=
 x.out.elim (λz=>oW.casesOn (motive:=λY=>G.ow (G.ad<|.cell k)=.cell k/\∃o e,h.get? (G.ad<|.cell k)=I o/\o.cls=.ref e/\F.cU c=I e) z λo e Y Y a b c d Y Y Y Y Y Y=>⟨a,o,e,b,c,d⟩) λz=>vF.casesOn (motive:=λY=>G.ow (G.ad<|.cell k)=.cell k/\∃o e,h.get? (G.ad<|.cell k)=I o/\o.cls=.ref e/\F.cU c=I e) z λo e Y a b c d Y Y Y Y=>⟨a,o,e,b,c,d⟩
def fV.C8(x:fV F G h k (.inst c d))(a:h.get? (G.ad<|.cell k)=I o)(q:F.exc c=B):lw F c o:=
 x.out.elim (λz=>oW.casesOn (motive:=λY=>lw F c o) z λY Y Y Y Y b Y Y Y Y Y Y Y l=>aK (b.symm.trans a)▸l q) λz=>vF.casesOn (motive:=λY=>lw F c o) z λY Y Y Y b Y Y Y Y Y l=>aK (b.symm.trans a)▸l
def aG.JE{F:au}{X:aU}{G:Gh}{st:K}{h h':bG}(R:aG F X G st h){k:J}{c:aX}{as:D (H×SV)}(e:st.hp[k]?=I (.inst c as)){o o':dw}{vs:js ah}(hs:fN (G.ad<|.cell k) h h')(ho:h.get? (G.ad<|.cell k)=I o)
 (zr:h'.get? (G.ad<|.cell k)=I o')(h1:o'.cls=o.cls)(h2:o'.dict=o.dict)(h3:o'.data=.fields vs)(hD:F.exc c=B->lw F c o'):aG F X G st h':=by
 have hn:pO o'=true:=by unfold pO;exact Z h3 U
 have hc:=R.cells k _ e;have hw:=hc.at.1;have Tt:=qF hs hw;have L:=Le.refl 0 G;have new:fV F G h' k (.inst c as):=by
  clear hw h3 hs e;refine hc.out.elim (λz=>?_) λz=>?_;obtain⟨_,_,_,_,a1,a2,a3,a4,a5,a6,a7,a8,a9,IX⟩:=z;clear IX a5;obtain rfl:=aK<|ho.symm.trans a2
  exact .inst a1 zr (h1.trans a3) a4 hn (h2.trans a6) a7 (Tt.keep _ _ a8<|by refine Z a7 ?_;simp) (a9.tr Tt L λY h=>ao h U) hD;obtain⟨_,_,a0,a1,a2,a3,a4,a5,a6,a7,a8⟩:=z;clear a8 a5;subst a0;obtain rfl:=aK<|ho.symm.trans a2
  exact .vD a1 zr (h1.trans a3) a4 hn (h2.trans a6) a7<|hD a7
 have:=R.y8 e (.inl hw) hs (dy zr) new λy hy=>⟨c,as,U,by have:=R.eY k y hy;unfold ea at this;rw[e]at this;exact this⟩;have e2:st.hp.set k (.inst c as)=st.hp:=by
  refine ai6 λj=>Z A3 ?_;clear new hw hc hn hD h3 h2 h1 zr ho hs;by_cases q:k=j;subst q;refine Z (aa U)<|Z e ?_
  rw[aa];rcases j8 k st.hp.length with q|q
  exact q;rw[pR q]at e;exact aD e;exact Z (u q) U
 rw[e2]at this;exact this
inductive nJ(G:Gh)(h:bG)(e:bc)(fl:ah):Prop
 |mk (oe vs T oT ts):h.get? e=I oe->oe.data=.fields vs->vs[1]?=I (.ref T)->G.ow T=.none->T≠e->h.get? T=I oT->oT.data=.fields ts->ts[3]?=I fl->nJ G h e fl
def nJ.Zl{L:bc}(x:nJ G h e (g7 L)):sG G h e L:=by obtain⟨m,n,T,o,p,a,b,c,d,f,k,i,j⟩:=x;exact⟨m,n,a,b,(Array.getElem?_eq_some_iff.mp c).1,.inr ⟨T,o,p,c,d,f,k,i,.inr j⟩⟩
def nJ.Zm(x:nJ G h e .none):sG G h e L:=by obtain⟨m,n,T,o,p,a,b,c,d,f,k,i,j⟩:=x;exact⟨m,n,a,b,(Array.getElem?_eq_some_iff.mp c).1,.inr ⟨T,o,p,c,d,f,k,i,.inl j⟩⟩
def Zn(o:oX F G h l)(k:∀f∈l,f.HP):aj8 h {} (kx l)/\∀b,b∈(kx l).filterMap (·.frame)->∃i,G.ow b=.locs i:=by
 induction l with
 |nil=>exact⟨trivial,λb n=>aF n rz⟩|cons f r p=>
  refine aL λs=>aI (p o.2 λd t=>k d<|eW _ t) λa b=>s<|Z (show kx (f::r)=if f.isFn then f.env::kx r else kx r from U) ?_
  by_cases q:f.isFn=B;refine Z (aa q) ?_;have j:=k f (dj ..) q;obtain⟨m,⟨v,y,A,w,x,_⟩,_⟩:=o.1.ns;refine⟨⟨by refine Z o.1.kind ?_;lk,⟨_,v,j,U,w,λE z=>by rw[x]at z;exact cO OT z U⟩,a⟩,λc e=>?_⟩;rw[AZ,j]at e;rcases List.mem_cons.mp e with rfl|e
  exact⟨_,o.1.lo⟩;exact b c e;exact Z (u q)<|⟨a,b⟩
def Zo{k:K}(R:aG F X G k h)(j:X.isFn=B):aj8 h {} X.envs/\(∀b,b∈X.envs.filterMap (·.frame)->∃i,G.ow b=.locs i)/\X.envs=X.env::kx X.out:=by
 obtain⟨a,b⟩:=Zn R.out R.fr.2;have e:X.envs=X.env::kx X.out:=by unfold aU.envs;exact Z (aa j) U
 have d:=R.fr.1 j;obtain⟨m,⟨n,q,r,o,p,_⟩,_⟩:=R.top.ns;refine Z e<|⟨⟨by refine Z R.top.kind ?_;lk,⟨_,n,d,U,o,λs z=>by rw[p]at z;exact cO OT z U⟩,a⟩,λc f=>?_,U⟩
 rw[AZ,d]at f;rcases List.mem_cons.mp f with rfl|f
 exact⟨_,R.top.lo⟩;exact b c f
def Zp{o:dw}(h:o.data=.fields e):(o.mapFields f).dict=o.dict:=by obtain⟨c,d,a,s⟩:=o;obtain rfl:a=_:=h;rfl
def C9{L:K}(f:aW X A d)(S:X.isFn=B)(R:aZ F X G L s)(e:L.hp[k]?=I (.inst c as))(j:F.fresh c=ag)(hx:sG G s.heap (G.ad<|.cell k) X.env.locals)
 (M:∀h',aG F X G L h'->nJ G h' (G.ad<|.cell k) (g7 X.env.locals)->Q () {s with heap:=h'}):am F.md A (noteFrame (.ref<|G.ad (.cell k)) X.env) Q E s:=by
 have m:=R.r.fr.1 S;have N:=(R.r.cells k _ e).at.1;obtain⟨oe,vs,z,x,n,p⟩:=hx;have hD:=(R.r.cells k _ e).C8 z;unfold noteFrame;simp only [m];have y:∀(cR:bG)(r:ah)(b:bf),aG F X G L cR->cR.get? (G.ad<|.cell k)=I oe->
  am F.md A (do let a<-frameOf X.env;let V<-entryPlaceOf X.env.locals b;let t<-amU r a .none (g7 X.env.locals) .none V;OU (.ref<|G.ad (.cell k)) 1 t) Q E {s with heap:=cR}:=by
  intro cR r b o8 sT;clear p z;refine cB (Zo o8 S) λg O f3=>?_;have C:=f.fr;rw[f3]at C g O;refine af<|wpAny_frameOf_fun (s:={s with heap:=cR}) C g m λhP zs=>?_
  have H:∀b o,cR.get? b=I o->(∀i,G.ow b≠.locs i)->hP.get? b=I o:=λb o q hb=>(zs.2.1 b λhm=>aJ (O b hm) λi hi=>hb i hi).trans q;have mA:=o8.slots zs.2.2 H;have zt:=H _ _ sT<|by refine Z N ?_;simp
  refine af<|wpAny_entryPlaceOf λV l=>af (lR ?_ (l.sizeOk5 _ _ _ _ _))
  generalize ht:({cls:=.type "traceback",dict:=W,data:=.fields ([r,.ref X.env.locals,.none,g7 X.env.locals,.none]++(if V.isEmpty then iJ 6 oh else V)).toArray}:dw)=ot;have P:ot.isFreed=false:=ax ht U;have wi:=di ot zt;refine xF wi x n ?_;have Zq:=mA.push ot;have h:hP.objs.size≠G.ad (.cell k):=jB<|jy zt
  have wj:=xN x (·.setIfInBounds 1 (gy hP.objs.size));have zu:=k8 (rE (·.setIfInBounds 1 (gy hP.objs.size))) wi<|FS wj
  refine M _ (Zq.JE e (jD ..) wi zu (OV ..) ?_ wj λq=>?_) ⟨_,_,hP.objs.size,ot,_,zu,wj,by simp[n],mA.fresh<|aA _,h,?_,by exact ax ht U,?_⟩;exact Zp x;clear zu h wi P l zt H zs C f3 O g sT b n N m M e S;obtain⟨JF,t0,d1,d2,d3,_⟩:=hD q;rw[x]at d1;injection d1 with d1;subst d1;exact⟨_,t0,wj,by simp[d2],by refine Z (aj9<|by lk) ?_;exact d3,λq=>by rw[j]at q;exact ft q⟩;exact Z (OW _ _<|Ne.symm h)<|gx hP P
  clear zu wj h wi P zt H zs C f3 O g sT b hD n x vs oe N m M j e S;rcases l with rfl|⟨_,_,_,_,_,_,_,rfl⟩<;>simp
 clear hD n N m j e S;rcases p with h1|⟨T,oT,ts,h1,hT,h,v,w,Y⟩
 exact af<|lQ z x h1 (Z (u (by lk)) (y s.heap .none _ R.r z))
 refine af<|lQ z x h1 (Z (aa (show(gy T !=oh)=B from U)) ?_)
 rcases Y with Y|Y
 refine af<|lQ v w Y (Z (u (show¬((oh==g7 X.env.locals)=B)from by simp[g7])) (af (xF v w (Array.getElem?_eq_some_iff.mp Y).1 ?_)))
 have o8:=R.r.JD (h':=s.heap.update T<|rE (·.setIfInBounds 3 oh)) (jD ..) hT;exact y _ _ _ o8<|(OW _ _ h).trans z
 exact af<|lQ v w Y (Z (aa (show(g7 X.env.locals==g7 X.env.locals)=B from by simp)) (aE (M s.heap R.r ⟨oe,vs,T,oT,ts,z,x,h1,hT,h,v,w,Y⟩)))
def zv{i:K}{M:m5}(R:aZ F X G i s)(p:nJ G s.heap (G.ad<|.cell k) fl)
 (q:∀h,aG F X G i h->nJ G h (G.ad<|.cell k) (fr.elim .none λf=>g7 f)->Q () {s with heap:=h}):am M A (setFlight (.ref<|G.ad (.cell k)) fr) Q E s:=by
 refine aL λr=>?_;obtain⟨t,v,T,x,y,j,m,n,o,c,d,a,w⟩:=p;have e:=(Array.getElem?_eq_some_iff.mp w).1;refine r<|af (lQ j m n (Z (aa (show(gy T !=oh)=B from U)) (xF d a e (q _ (R.r.JD (jD ..) o) ⟨t,v,T,_,_,(OW _ _ c).trans j,m,n,o,c,k8 _ d (FS (xN a _)),xN a _,by simp[e]⟩))))
def Zr{T:Tab}{F:au}{X:aU}{G:Gh}{st:K}{s:aM}{d:J}{A:bS}{E:bp}(H:aW X A d)(hf:X.isFn=B){x:CV}{v:ah}(V:sV T F X G x st v s)(hq:∀v s',sV T F X G x st v s'->E v s'):
 oi F.md A X.env (OX F.md A X.env E) v s:=by
 obtain⟨R,k,c,as,rfl,e,hc,rfl,fl⟩:=V;have JG:=R.r.fr.1 hf;have eL:X.env.frame.getD 0=X.env.locals:=Z JG U;rw[eL]at fl;refine C9 H hf R e hc.2 fl λcR o8 zw=>?_;have Zs:aZ F X G st {s with heap:=cR}:=⟨o8,R.g,R.o,R.t⟩;obtain⟨oe,vs,T',oT,ts,he,hd,h1,r⟩:=id zw;refine af<|lQ (s:={s with heap:=cR}) he hd h1 (Z (u (dk U)) (zv Zs zw λhP mA zx=>hq _ _ ⟨⟨mA,R.g,R.o,R.t⟩,k,c,as,U,e,hc,U,?_⟩))
 rw[JG]at zx;exact Z eL zx.Zl
def Zt:jh a c (m+1)=M.bind a λq=>if q=B then M.bind c λf=>match f with
 |.brk=>M.pure .aO|.ret v=>M.pure<|.ret v
 |_=>jh a c m
 else M.pure .aO:=by
 funext dI
 have o:jh a c (m+1) dI=(match a dI with
  |.C=>.C|.exc e h=>.exc e h|.ok ag h=>.ok .aO h
  |.ok B h=>match c h with
   |.C=>.C|.exc e d=>.exc e d|.ok .brk d=>.ok .aO d|.ok (.ret v) d=>.ok (.ret v) d|.ok _ d=>jh a c m d:Internal.R bD):=U
 refine Z o ?_;generalize i:a dI=j;induction j using Internal.R.casesOn with
 |C=>exact Z (mC i) U|exc x s=>exact Z (o5 i) U|ok q s=>
  refine Z (jT i) ?_;induction q with
  |false=>rfl|true=>
   refine Z (aa U) ?_;dsimp only;generalize k:c s=n;induction n using Internal.R.casesOn with
   |C=>exact Z (mC k) U|exc x s=>exact Z (o5 k) U
   |ok f s=>refine Z (jT k) ?_;cases f<;>rfl
def aH.Zu(h:aH T F X n c G r Q E)(m:∀x f e v d,Le n G e->sV T F X e x f v d->(∀v d,sV T F X e x f v d->E v d)->o v d):aH T F X n c G r Q o:=by induction r with|C=>exact h|ok a f=>exact h|exc x f=>exactλe v d k p=>m x f e v d k p λv i j=>h e v i k j
def Zv(a:bC T F l d n)(JS:dR T F l d n)(c:aW X A d)(D:X.isFn=B):bv T F X (X.lv+1) A (dB F) (c5 T l (n+1)<|.While t b [] p) (io (.While t b [] p) X.env):=by
 intro G O s R Q E h;rw[XU]at h;refine wpAny_While<|codeAny_whileLoop (λm P=>∃S o,Le (X.lv+1) G S/\aZ F X S o P/\aH T F X (X.lv+1) (dB F) S (jh (M.bind (aB T l n t) bx) (cb T l n b) m o) Q E) (λm s1 hI=>aL λW=>fP hI λG1 V K R1 L=>?_) WF ⟨G,O,Le.refl _ _,R,h⟩
 induction m with
 |zero=>exact uK L|succ m=>
  rw[Zt]at L;have j:∀{α β:Type}{k:J}{i:Gh->α->β->Prop}{r:Internal.R α}{C:β->aM->Prop}{N:Gh},aH T F X k i N r C E->aH T F X k i N r C (oi F.md A X.env λe P=>OX F.md A X.env E e P):=
   λh=>h.Zu λx O S v P Y i k=>Zr c D i k
  refine W<|a.t X A c t G1 V s1 R1 _ _ (j (L.bind (bM _) λq g N w s2 e2 H R2 V2 y=>?_))
  clear e2 L W h;subst V2;induction q with
  |false=>rw[u<|by decide]at y⊢;exact ON<|y.ok R2 .aO
  |true=>
   rw[aa U]at y⊢;refine JS.ss X A c D b N g s2 R2 _ _<|j (y.bind (aA _) λf z G3 w s3 e3 L3 Z V3 I=>?_)
   clear e3 y j D;induction V3 with
   |aO=>exact⟨m,gb _,G3,z,(K.trans<|H.down (bM _)).trans L3,Z,I⟩|cnt=>exact⟨m,gb _,G3,z,(K.trans<|H.down (bM _)).trans L3,Z,I⟩|brk=>exact I.ok Z .aO|ret v=>exact I.ok Z<|.ret v
def Zw{d:K}:dD a (x::r) d=(match a x d with
 |.C=>.C|.exc _ _=>.C|.ok .brk c=>.ok .aO c|.ok (.ret v) c=>.ok (.ret v) c|.ok _ c=>dD a r c:Internal.R bD):=U
def aH.turn{T:Tab}{F:au}{X:aU}{G G':Gh}{st:K}{n:J}{E:bp}{turn:CV->M bD}{x:CV}{r:D CV}{Q:PySem.Flow->aM->Prop}{Q':PySem.Flow->aM->Prop}{E':bp}(h:aH T F X n (dB F) G (dD turn (x::r) st) Q E)
 (k:∀f d4 wk g s',turn x st=.ok f d4->Le n G' wk->aZ F X wk d4 s'->dB F wk f g->aH T F X n (dB F) G (match f with|.brk=>.ok .aO d4|.ret v=>.ok (.ret v) d4|_=>dD turn r d4:Internal.R bD) Q E->Q' g s'):aH T F X n (dB F) G' (turn x st) Q' E':=by
 replace h:=Zw▸h;generalize e:turn x st=ze;induction ze using Internal.R.casesOn with
 |C=>rw[e]at h;exact h|exc a b=>rw[e]at h;exact uK h|ok f d4=>replace h:=e▸h;refineλwk g s' L' R' V'=>k f d4 wk g s' e L' R' V' ?_;clear V';clear k;cases f<;>exact h
def Db(a:ai):Bool:=ql a
def Zx{A:bS}{prog:Program}{w:cF}{s:aM}{R:pK->aM->Prop}{target:ai}{it:ah}{body orelse:D cf}{env:fE}(a:J->aM->Prop)
 (turn:∀n s,a n s->am (cr prog w) A (rK it) (λr dq=>match r with
  |none=>am (cr prog w) A (xK orelse env) (λf iT=>R (.ok f) iT) (oi (cr prog w) A env λe s'=>R (.error e) s') dq
  |some v=>am (cr prog w) A (aj4 target it v) (λY o9=>am (cr prog w) A (i7 target env v) (λY iT=>am (cr prog w) A (xK body env) (λf lz=>match f with
   |.next|.cont=>∃m,m<n/\a m lz
   |.brk=>R (.ok .next) lz|.ret v=>R (.ok<|.ret v) lz) (oi (cr prog w) A env λe s'=>R (.error e) s') iT) (oi (cr prog w) A env λe s'=>R (.error e) s') o9) (oi (cr prog w) A env λe s'=>R (.error e) s') dq) (oi (cr prog w) A env λe s'=>R (.error e) s') s)
 (n:J)(h:a n s):k7 (cr prog w) A (.forLoop target it body orelse env) R s:=by
 refine codeAny_loop' U a (λn s hI=>aka<|af (fO (af (ajv (g5 (turn n s hI) (λr dq cR=>?_) λY Y x=>fO x))))) n h;induction r with
 |none=>exact aE<|.inr ⟨U,codeAny_block cR⟩
 |some v=>
  refine af<|g5 cR (λY o9 hP=>af (g5 hP (λY iT sR=>af (g5 sR (λf lz ta=>?_) λY Y x=>x)) λY Y x=>x)) λY Y x=>x
  induction f with
  |next=>exact aE<|.inl ⟨U,ta⟩
  |cont=>exact aE<|.inl ⟨U,ta⟩
  |brk=>exact aE ta|ret v=>exact aE ta
def Le.JH(L:Le n G c)(f:∀p,G.tm d≠I p):Le n G (c.iB d o):=by refine⟨L.fz,L.cell,L.attr,L.var,λa j h e i=>?_⟩;show(if a=d then _ else c.tm a)=_;exact Z (u λq=>by subst q;exact f _ e)<|L.tm a j h e i
noncomputable def Gh.gp(G:Gh)(a:bc):Gh:={G with tm:=λb=>if b=a then W else G.tm b,ow:=λb=>if b=a then .none else G.ow b}
def aG.gp{T:K}(R:aG F X G T h)(l:G.tm m=I p)(s:Ba m h S):aG F X (G.gp m) T S/\∀{n:J}{w:Gh},Le n w G->(∀p,w.tm m≠I p)->Le n w (G.gp m):=by
 have t:=(R.tm m _ l).2;have d:∀b,b≠m->(G.gp m).ow b=G.ow b:=λb x=>u x;have f:(G.gp m).ow m=.none:=aa U;have v:∀{b c},G.ow b=c->c≠.gU->b≠m:=λ{b c}e M q=>by subst q;rw[t]at e;exact M e.symm
 have r:∀{n:J}{w:Gh},Le n w G->(∀p,w.tm m≠I p)->Le n w (G.gp m):=by intro n w L P;refine⟨L.fz,λk e=>?_,λk y e=>?_,L.var,λa j o e N=>?_⟩;clear P f t s l;exact aI (L.cell k e) λQ A=>⟨Q,(d _<|v A (ao · rfl)).trans A⟩;clear P f t s l;exact aI (L.attr k y e) λQ A=>⟨Q,(d _<|v A (ao · rfl)).trans A⟩;show(if a=m then W else G.tm a)=_;exact Z (u λq=>by subst q;exact P _ e)<|L.tm a j o e N
 have L:Le 0 G (G.gp m):=by refine⟨λY Y e=>e,λk e=>⟨U,(d _<|v e (ao · rfl)).trans e⟩,λk y e=>⟨U,(d _<|v e (ao · rfl)).trans e⟩,λY Y e=>aF e yO,λY Y Y Y e=>aF e yP⟩
 have E:Tr (λc=>c=.gU) G (G.gp m) h S:=⟨λb o q x=>s b o (λz=>x<|(z)▸t) q,λb Y x=>d b λz=>x<|(z)▸t,λc Y=>rfl⟩;refine⟨⟨R.sys,R.ey,λb o q=>?_,λb p q=>?_,λb q=>?_,λk D q=>?_,λk q=>?_,λk y q=>?_,?_,?_,R.fr⟩,r⟩;have:=R.fz b o q;have x:=v this.2 (ao · rfl);exact⟨s b o x this.1,(d b x).trans this.2⟩;change(if b=m then W else G.tm b)=_ at q;clear r v f t l;by_cases z:b=m;rw[aa z]at q;exact aD q;rw[u z]at q;have:=R.tm b p q;exact⟨s b _ z this.1,(d b z).trans this.2⟩;clear r v t l;by_cases z:b=m;clear E L;clear p d s;subst z;exact aF f q;rw[d b z]at q;clear p f d;exact aJ (Option.isSome_iff_exists.mp<|R.lt b q) λo e=>dy<|s b o z e
 exact(R.cells k D q).tr E L (ao · rfl) (ao · rfl) λY h=>ao h U;refine R.fH k ?_;clear r v t s l;by_cases z:G.ad (.cell k)=m;rw[show(G.gp m).ad (.cell k)=m from z,f]at q;exact ao q U;exact(d _ z).symm.trans q;refine R.eY k y ?_;clear r v t s l;by_cases z:G.ad (.attr k y)=m;rw[show(G.gp m).ad (.attr k y)=m from z,f]at q;exact ao q U;exact(d _ z).symm.trans q;exact R.top.tr E L (ao · rfl) (by intro i y _;simp) λy=>.inl (ao · rfl);exact R.out.tr E L λi Y=>⟨by exactλh=>ao h U,(by intro y;simp),by intro y;simp⟩
inductive Dc(T:Tab)(F:au)(cl:bP)(n:J)(t:ai)(b:D cf)(X:aU)(G1:Gh)(it:bc)(Q:PySem.Flow->aM->Prop)(E:bp)(m:J)(s':aM):Prop
 |mk (G':Gh) (d4:K) (o':dw) (l:D CV):l.length=m->Le (X.lv+1) G1 G'->aZ F X G' d4 s'->G'.tm it=I (0,o')->dK F G' o' l->
  aH T F X (X.lv+1) (dB F) G1 (dD (λx=>(dm T cl n t<|.v x).bind λY=>cb T cl n b) l d4) Q E->Dc T F cl n t b X G1 it Q E m s'
def Zy(a:bC T F L d n)(JS:dR T F L d n)(i:aW X A d)(hf:X.isFn=B)(hs:Db it=ag):bv T F X (X.lv+1) A (dB F) (c5 T L (n+1)<|.For t it b [] p) (io (.For t it b [] p) X.env):=by
 intro G st s R Q E h;rw[Ji]at h;refine wpAny_For (a.e X A i it G st s R _ _<|h.bind (bM _) λc O G1 v M e1 L1 N V1 Z=>?_)<|CM hs
 generalize e:gG O c=ze;induction ze using bL with
 |none=>rw[e]at Z;exact Z.elim|some r=>
  rw[e]at Z;dsimp only at Z;refine JC N V1 e λo I0 K=>aL λhG=>?_;clear e1 h hs;refine cB (N.r.vH 0 o K) λg1 g2 g3=>?_;have P:∀p,G1.tm M.heap.objs.size≠I p:=λp q=>by rw[N.r.yK<|aA _]at q;exact aD q
  refine hG<|Zx (Dc T F L n t b X G1 M.heap.objs.size Q E) ?_ r.length ⟨_,O,o,r,U,g2 _,⟨g1,N.g,N.o,N.t⟩,g3,I0.mono (g2 0),Z⟩
  intro m s2 hI;clear p g3 g2 g1 hG K Z;obtain⟨G2,S,o2,l,hl,L2,z,u,I2,h2⟩:=hI;induction l with
  |nil=>refine JB i.hd z u I2 λh' he=>?_;clear hl hf;exact aI (z.r.gp u he) λr1 D=>ON<|h2 _ _ _ (D L2 P) ⟨r1,z.g,z.o,z.t⟩ .aO
  |cons x l=>
   refine JA z u I2 λv V h' tk C j I' ho H=>cB (z.r.iB u H ho) λr1 D r3=>?_;have R3:aZ F X (G2.iB M.heap.objs.size V) S {s2 with heap:=h',toks:=tk}:=⟨r1,z.g,z.o,C⟩;refine Jy (I'.mono D) ho ?_;have ht:aH T F X (X.lv+1) (dB F) (G2.iB M.heap.objs.size V) (((dm T L n t<|.v x).bind λY=>cb T L n b) S)
    (λf lz=>match f with|.next|.cont=>∃m',m'<m/\Dc T F L n t b X G1 M.heap.objs.size Q E m' lz|.brk=>Q .next lz|.ret v=>Q (.ret v) lz) (oi F.md A X.env λe s'=>OX F.md A X.env E e s'):=by
    refine h2.turn λf d4 y k s' e L' R' V' g=>?_;have L3:Le (X.lv+1) G1 y:=(L2.JH P).trans L';have t3:y.tm M.heap.objs.size=I (0,V):=L'.tm _ _ _ r3<|lL _
    have I3:dK F y V l:=(I'.mono D).mono L';have hm:l.length<m:=(hl)▸gb _;clear e r3 H ho C D r1 h2 u hl P hf;cases V' with
    |aO=>exact⟨l.length,hm,y,d4,V,l,U,L3,R',t3,I3,g⟩|cnt=>exact⟨l.length,hm,y,d4,V,l,U,L3,R',t3,I3,g⟩|brk=>exact g _ _ _ L3 R' .aO|ret v=>exact g _ _ _ L3 R'<|.ret v
   exact JS.a X A i t _ S _ (.v x) v R3 (.v<|j.mono D) _ _<|ht.bind (n':=iA X (.v x)) (bM _) λY zh G3 w s3 e3 L3 R4 Y g=>JS.ss X A i hf b G3 zh s3 R4 _ _ g
def Zz{M:m5}(f:α->β->lP (OY β))(a:β->α->β)(d:∀x b(Q:OY β->aM->Prop)(E:bp)(s:aM),Q (.yield<|a b x) s->am M A (f x b) Q E s):∀(l:D α)(b:β)(Q:β->aM->Prop),Q (l.foldl a b) s->am M A (forIn l b f) Q E s:=by
 intro l;induction l with
 |nil=>exactλb Q h=>Z (List.forIn_nil ..)<|aE h
 |cons x r e=>exactλb Q h=>Z (akb ..)<|af (d x b _ _ _ (e (a b x) Q h))
noncomputable def rW(a:D (H×ah))(p:H×ah):D (H×ah):=if(a.lookup p.1).isNone then a++[p]else a
noncomputable def wl(a:D H)(c d:D ah):D (H×ah):=a.zip<|c++d.drop (d.length+c.length -a.length)
def Dd{a:D H}(h:x∉a):(a.zip c).lookup x=none:=by
 induction a generalizing c with
 |nil=>rfl|cons y r d=>
  induction c with
  |nil=>rfl|cons v e=>rw[rL,not_or]at h;exact Z oj<|Z gh (Z (beq_eq_false_iff_ne.mpr h.1) (d h.2))
def PP(l r:D (H×α))(x:H):(l++r).lookup x=(l.lookup x).or (r.lookup x):=by
 induction l with
 |nil=>rfl|cons p l d=>
  obtain⟨y,v⟩:=p;refine Z m6<|Z gh (Z gh ?_)
  cases x==y;exact d;rfl
def JI{a:D H}(h:x∈a.take c.length):((a.zip c).lookup x).isSome=true:=by
 induction a generalizing c with
 |nil=>simp at h|cons y r e=>
  induction c with
  |nil=>simp at h|cons v f=>
   refine Z oj<|Z gh ?_
   cases d:x==y with
   |true=>rfl|false=>
    rw[bw,OJ,rL]at h;rcases h with h|h
    rw[h,j9]at d;exact tf d;exact e h
def ZA{aw:D H}{vals:D ah}(nd:aw.Nodup):∀(k:J)(ds:D ah)(acc:D ah),k<=aw.length->ds.length=aw.length -k->(acc.length=vals.length\/fD)->k<=(vals++acc).length->vals.length<=(vals++acc).length->
 (k<vals.length->acc=[])->(vals.length<=k->(vals++acc).length=k)->(vals++acc).length<=aw.length->
 ((aw.drop k).zip ds).foldl rW (aw.zip<|vals++acc)=aw.zip (vals++acc++ds.drop ((vals++acc).length -k)):=by
 intro k ds;induction ds generalizing k with
 |nil=>intro acc _ _ _ _ _ _ _ _;simp
 |cons d ds ih=>
  intro acc h1 h2 _ h3 _ h5 h6 h7;have hk:k<aw.length:=by rw[bw]at h2;exact UE h2
  refine Z (uM hk)<|Z oj (Z eM ?_)
  clear h3 h1;by_cases cV:k<(vals++acc).length;have hv:k<vals.length:=by
   clear hk h7 h5 h2 ih d ds nd;rcases j8 k vals.length with q|q
   exact q;exact aF (h6 q)<|jB cV
  have ha:=h5 hv;clear hv h6 h5 nd;subst ha;rw[eN]at*;have hs:rW (aw.zip vals) (aw[k],d)=aw.zip vals:=by
   unfold rW;have:((aw.zip vals).lookup aw[k]).isSome=true:=JI<|nq akc (⟨k,by exact Nat.lt_min.mpr ⟨cV,cM cV h7⟩,U⟩)
   rw[u];intro q;dsimp only at q;rw[FT]at q;rw[q]at this;exact ft this
  refine Z hs ?_;have:=ih (k+1) [] (g ‹_› ‹_›) (by rw[bw]at h2;exact H5 h2) (.inr trivial) (by simp;exact g ‹_› ‹_›) (by simp) (λY=>rfl) (λq=>by simp;exact OQ q cV)<|by simpa using h7
  rw[eN]at this;exact Z this<|Z (show vals.length -k=(vals.length -(k+1))+1 by exact Uk cV) (Z List.drop_succ_cons U)
  have he:(vals++acc).length=k:=h6<|g ‹_› (Nat.not_lt.mp cV)
  have hv:vals.length<=k:=by rw[aN]at he;exact UH he
  have hs:rW (aw.zip<|vals++acc) (aw[k],d)=aw.zip (vals++(acc++[d])):=by
   unfold rW;have e1:aw.zip (vals++acc)=(aw.take k).zip (vals++acc):=by
    conv=>lhs;rw[<-xO k aw,<-eN (vals++acc)]
    rw[akd<|by rw[lb];exact(n4 (cG hk)).trans he.symm];simp
   have hd:aw.drop k=aw[k]::aw.drop (k+1):=uM hk;have hn:(aw.zip<|vals++acc).lookup aw[k]=none:=by refine(e1)▸(Dd λhm=>?_);have JJ:=nd;rw[<-xO k aw,List.nodup_append]at JJ;exact JJ.2.2 aw[k] hm aw[k] (by rw[hd];exact dj ..) U
   rw[aa<|by dsimp only;rw[hn];rfl];have e2:aw.zip (vals++(acc++[d]))=(aw.take k).zip (vals++acc)++(aw.drop k).zip [d]:=by
    rw[<-db];conv=>lhs;rw[<-xO k aw]
    rw[akd<|by rw[lb];exact(n4 (cG hk)).trans he.symm]
   rw[e2,e1,hd,oj,ake]
  refine(hs)▸?_;have:=ih (k+1) (acc++[d]) (xE ‹_›) (by rw[bw]at h2;exact H5 h2) (.inr trivial) (by simp at he⊢;exact bg<|bq rr he.symm) (by simp) (λq=>aF hv<|akf (OZ q)) (λY=>by simp at he⊢;exact bq rr he)<|by simp at he⊢;exact g (bg (bq rr he)) hk
  refine(this)▸?_;have z1:(vals++(acc++[d])).length -(k+1)=0:=by simp at he⊢;exact UG he
  have z2:(vals++acc).length -k=0:=ru<|bg he
  rw[z1,z2];simp
def ZB{a:D H}{ws:D ah}(d:a.Nodup)(e:ws.length=a.length):(a.filterMap λn=>((a.zip ws).lookup n).map (n,·))=a.zip ws:=by
 have h:∀(c:D (H×ah))(a:D H)(ws:D ah),a.Nodup->ws.length=a.length->(∀n∈a,c.lookup n=W)->(a.filterMap λn=>((c++a.zip ws).lookup n).map (n,·))=a.zip ws:=by
  intro c a;induction a generalizing c with
  |nil=>exactλws _ _ _=>rfl|cons y r k=>
   intro ws d e i;induction ws with
   |nil=>cases e
   |cons v f=>
    rw[A4]at d;have m:(c++(y,v)::r.zip f).lookup y=I v:=by rewrite[PP];refine Z (i y<|dj ..)<|Z gh ?_;rw[j9];rfl
    refine Z oj<|Z AZ (Z m ?_)
    dsimp only [Option.map_some];have:=k (c++[(y,v)]) f d.2 (by simpa using e) (λn j=>by rewrite[PP];exact Z (i n<|eW _ j)<|Z gh (Z (beq_eq_false_iff_ne.mpr (λq=>d.1 (by exact(q)▸j))) U))
    rw[db]at this;exact Z (show c++(y,v)::r.zip f=c++([(y,v)]++r.zip f)from U)<|Z this U
 simpa using h [] a ws d e (λY Y=>rfl)
structure JK(fd:uO)(aw:D H):Prop where
 po:fd.params.posonlyargs=[]
 ar:fd.params.args.map (·.arg)=aw
 va:fd.params.vararg=W
 ko:fd.params.kwonlyargs=[]
 kw:fd.params.kwarg=W
 nd:aw.Nodup
inductive qO(h:bG)(fd:uO):D ah->Prop
 |none:fd.defaults=.none->qO h fd []|tup {t o n ds}:fd.defaults=.ref t->h.get? t=I o->o.data=.seq ds.toArray n->qO h fd ds
def De{M:m5}(P:JK fd aw)(a:qO s.heap fd k)(p:i.length<=aw.length)(r:aw.length<=i.length+k.length)(m:k.length<=aw.length)
 (h:Q (wl aw i k) s):am M A (bindArgs fd ⟨i,[]⟩) Q E s:=by
 have t:∀(c:al (js ah)->lP (D<|H×ah)),(∀o,(o.getD #[]).toList=k->am M A (c o) Q E s)->am M A (seqItems? fd.defaults) (λo s'=>am M A (c o) Q E s') E s:=by
  intro c l;clear h m r p;induction a with
  |none e=>exact(e)▸(aE<|l W U)
  |tup e v hd=>exact(e)▸(wpAny_seqItems v hd<|l _ (by rfl))
 have y:=P.nd;obtain⟨F,G,pa,T,X,S,L,N,R,I,V,g,O,K,C⟩:=fd;obtain⟨po,ar,va,ko,kd,kw,de⟩:=pa;obtain rfl:po=[]:=P.po;obtain rfl:ko=[]:=P.ko;obtain rfl:va=none:=P.va;obtain rfl:kw=none:=P.kw;have e:ar.map (·.arg)=aw:=P.ar;subst e;clear P a;unfold bindArgs;refine af<|aE (af (t _ λo v=>(v)▸?_))
 clear t;generalize hn:ar.map (·.arg)=aw at*;have z:k.drop (k.length -aw.length)=k:=Z (show k.length -aw.length=0 by exact ru m) U;refine Z (u<|by simp;assumption)<|Z (show Ox (·.arg) ([]:D Arg)++aw=aw from U) (Z z ?_)
 have c3:(List.filter (λn=>(akg n<|aw.zip i).isNone)<|pW (aw.length -k.length) aw)=[]:=by
  refine nq List.filter_eq_nil_iff ?_;intro x hx;have:((aw.zip i).lookup x).isSome=true:=JI (by rw[akc]at hx⊢;clear z de kd C K O g V I R N L S X T G F y v o h m p;obtain⟨j,hj,q⟩:=hx;exact⟨j,by exact Nat.lt_min.mpr ⟨cM (Nat.lt_min.mp hj).1<|Nat.sub_le_iff_le_add.mpr r,(Nat.lt_min.mp hj).2⟩,q⟩)
  refine nq FT ?_;intro q;rw[q]at this;exact ft this
 dsimp only;refine Z c3<|Z (u (dk U)) (af (Zz _ rW (λx b Q E s w=>?_) _ _ _ ?_))
 clear c3 z de kd C K O g V I R N L S X T G F y v o h m r p;obtain⟨n,d⟩:=x;unfold rW at w;by_cases q:(akg n b).isNone=B;rw[aa q]at w⊢;exact aE w;rw[u q]at w⊢;exact aE w;have f:=ZA (vals:=i) y (aw.length -k.length) k [] (g' _ _) ((aiY m).symm) (.inr trivial) (by simp;assumption) (by simp) (λY=>rfl) (λq=>by simp;exact OQ q<|Nat.sub_le_iff_le_add.mpr r)<|by simpa using p
 rw[eN]at f;refine Z f ?_;have e0:i.length -(aw.length -k.length)=k.length+i.length -aw.length:=UT m;refine(e0)▸?_;have fm:=ZB (ws:=i++k.drop (k.length+i.length -aw.length)) y<|by simp;exact US p r
 refine af<|aE ?_
 dsimp only;exact Z (u FU)<|Z (show aw++Ox (·.arg) ([]:D Arg)=aw from eN aw) (Z fm (aE h))
def ZC(h:mm c e d=I l):e.length<=c.length/\c.length<=e.length+d.length/\l=c.zip ((e++d.drop (d.length+e.length -c.length)).map .v):=by
 induction e generalizing c l with
 |nil=>
  induction c using bk with
  |nil=>obtain rfl:=aK h;exact⟨by exact dk U,by exact dk U,U⟩
  |cons p c=>rw[SM]at h;split at h;rename_i q;obtain rfl:=aK h;refine⟨by exact dk U,by simpa using q,?_⟩;rewrite[uP];refine Z O0 ?_;rw[Nat.add_zero];exact aD h
 |cons a e i=>
  induction c using bk with
  |nil=>exact aD h|cons p c=>
   rw[SJ]at h;rw[OR]at h;refine av h λo j f=>?_;subst f;refine cB (i j) λk m n=>⟨by simpa using k,by simp;exact UP m,(Z n ?_)⟩;have z:d.length+(a::e).length -(p::c).length=d.length+e.length -c.length:=by simp only [bw];exact Uy
   exact Z z U
def ZD:(a.lookup y).isSome=B->((Be n aw a).lookup y).isSome=true:=by
 induction aw generalizing n a with
 |nil=>exact id|cons p r c=>
  obtain⟨x,k⟩:=p;intro h;unfold Be;split;refine c<|Z gh ?_
  cases y==x;exact h;rfl;exact c h
def PQ{n:J}(h:aw.lookup y=I .cell):((Be n aw c).lookup y).isSome=true:=by
 induction aw generalizing n c with
 |nil=>exact aD h|cons p r d=>
  obtain⟨x,k⟩:=p;rw[gh]at h;unfold Be;cases a:y==x with
  |true=>rw[a]at h;obtain rfl:=aK h;exact Z (aa<|by lk)<|ZD (Z gh (Z a U))
  |false=>rw[a]at h;split;exact d h;exact d h
def JL{c:H->al xP}(j:c y=I .local):∀{a:D H}{f:D ah}{m:H->al ah},a.Nodup->bindL c (a.zip f) m y=((a.zip f).lookup y).or (m y):=by
 intro a;induction a with
 |nil=>intro f m _;rfl|cons x r k=>
  intro f m h;induction f using bk with
  |nil=>rfl|cons v n=>
   rw[A4]at h;refine Z oj ?_;unfold bindL;refine Z (k h.2)<|Z gh ?_
   cases d:y==x with
   |true=>
    have e:y=x:=eq_of_beq d;subst e;refine Z (Dd h.1)<|Z (aa j) ?_
    simp
   |false=>
    by_cases i:c x=I .local;refine Z (aa i) ?_;have:¬y=x:=λq=>by rw[q,j9]at d;exact tf d
    dsimp only;exact Z (u this) U;exact Z (u i) U
def ZE{c:H->al xP}(j:c y≠I .local):∀{a:D H}{f:D ah}{m:H->al ah},a.Nodup->bindC c (a.zip f) m y=((a.zip f).lookup y).or (m y):=by
 intro a;induction a with
 |nil=>intro f m _;rfl|cons x r k=>
  intro f m h;induction f using bk with
  |nil=>rfl|cons v n=>
   rw[A4]at h;refine Z oj ?_;unfold bindC;refine Z (k h.2)<|Z gh ?_
   cases d:y==x with
   |true=>
    have e:y=x:=eq_of_beq d;subst e;refine Z (Dd h.1)<|Z (u j) ?_
    simp
   |false=>
    by_cases i:c x=I .local;exact Z (aa i) U;refine Z (u i) ?_;have:¬y=x:=λq=>by rw[q,j9]at d;exact tf d
    dsimp only;exact Z (u this) U
def JM{a:D H}(h:ay (a.map λx=>(x,SV.un)) y=I c):c=.un:=by
 induction a with
 |nil=>exact aD h|cons x r d=>rw[fq,RV]at h;by_cases e:x=y;rw[aa e]at h;exact(aK h).symm;rw[u e]at h;exact d h
def wn{a d:D H}(r:bn F G f i)(h:ay (a.zip (f.map SV.v)++d.map λx=>(x,SV.un)) y=I k):
 k=.un\/∃c v,k=.v c/\VR F G c v/\(a.zip i).lookup y=I v:=by
 induction a generalizing f i with
 |nil=>left;rw[List.zip_nil_left,uP]at h;exact JM h
 |cons x a j=>
  induction r using bn.casesOn with
  |nil=>clear j;left;rw[O1,ake,uP]at h;exact JM h
  |@cons c f v i p q=>
   rw[fq,oj,m6]at h;by_cases e:x=y;rw[l7 e]at h;clear j;subst e;obtain rfl:=aK h;exact .inr ⟨c,v,U,p,by refine Z oj<|Z gh ?_;rw[j9]⟩;rw[jI e]at h;rcases j q h with z|⟨m,n,o,s,t⟩
   exact .inl z;exact .inr ⟨m,n,o,s,(Z oj<|Z gh (Z (beq_eq_false_iff_ne.mpr (λw=>e w.symm)) t))⟩
structure Df(T:Tab)(F:au)(K:bK)(q:aX)(a:bc)(f:jH)(o:dw)(fd:uO)(ds:D ah):Prop where
 ho:F.base.get? a=I o
 hd:o.data=.func fd
 par:JK fd f.params
 body:fd.body=.stmts f.body
 sc:fd.scope=f.sc
 Dg:fd.closure=[]
 glob:fd.globals=lK
 blt:fd.builtins=uo
 code:F.base.CodeRec fd.code fd.qualname
 dv:qO F.base fd ds
 dr:∀G:Gh,(∀a o,F.base.get? a=I o->G.fz a=I o)->bn F G f.km ds
 dl:f.km.length<=f.params.length
 co:f.sc.isCoroutine=ag
 gen:f.sc.isGenerator=ag
 kind:f.sc.kind=.function
 pk:∀x∈f.params,f.sc.names.lookup x=I .local\/f.sc.names.lookup x=I .cell
 nf:∀y,f.sc.names.lookup y≠I .free
 keep:rM K (.ref a)=B
noncomputable def oo(X:aU)(c:K)(a:fE):aU:={env:=a,isFn:=B,out:=⟨X.env,c.loc,c.sc,X.isFn⟩::X.out}
def ZF(c:K)(a:fE):(oo X c a).lv=X.lv+1:=U
def ZG{X:aU}(c:K)(a:fE):(oo X c a).envs=a::X.envs:=by unfold oo aU.envs;exact Z (aa U) U
def JN{F:au}{X:aU}{st:K}{f:jH}{fd:uO}{a:bc}{P:D H}{cs:D CV}{ws:D ah}{qual:H}{Q:fE->aM->Prop}(R:aZ F X G st s)(hn:P=f.params)(N:fd.scope=f.sc)(V:fd.globals=lK)(S:fd.builtins=uo)(hk:f.sc.kind=.function)(nd:P.Nodup)
 (pk:∀x∈P,f.sc.names.lookup x=I .local\/f.sc.names.lookup x=I .cell)(nf:∀y,f.sc.names.lookup y≠I .free)(d:bn F G cs ws)
 (hq:∀l M s',l.frame=I l.locals->(∀n,Le n G M)->aZ F (oo X st l) M ⟨P.zip (cs.map .v)++f.locs.map λx=>(x,.un),st.hp,f.sc⟩ s'->(∀b o,s.heap.get? b=I o->s'.heap.get? b=I o)->Q l s'):
 am F.md A (FV fd.scope fd.globals [] (P.zip ws) qual (I a) fd.code W fd.builtins) Q E s:=by
 refine A5 R.t<|akh (by exact Z N hk) (λx hx=>?_) λl he s' h=>?_
 refine Z N ?_;have hm:x.1∈P:=(aki hx).1;rcases pk _ hm with q|q
 exact .inl q;exact .inr ⟨q,PQ q⟩;have eL:l.locals=s.heap.objs.size:=Z he U;have eC:l.cells=Be (s.heap.objs.size+1) f.sc.names []:=Z he<|ax N U
 have eS:l.scope=f.sc:=Z he<|ax N U
 have eF:l.frame=I l.locals:=Z he U;have eG:l.globals=mainGlobals:=Z he<|ax V U
 have eB:l.builtins=builtinsNs:=Z he<|ax S U
 have eK:∀y,l.kindOf y=f.sc.names.lookup y:=λy=>by show l.scope.names.lookup y=_;exact Z eS U
 refine eO h.toInCall.same λcR tk cy=>?_;subst cy;intro gX;have gq:=h.toInCall.ns;have T:=h.toInCall.keep;dsimp only at gq T;have O:∀n c,l.cells.lookup n=I c->s.heap.objs.size<c:=λn c hc=>by have:=h.above n c<|rN hc;exact eL▸this
 generalize hG:({G with ad:=λm=>if m=.locs (X.lv+1)then l.locals else G.ad m,ow:=λb=>if b=l.locals then .locs (X.lv+1)else match l.cells.find? (λp=>l.cells.lookup p.1==I b)with|some p=>.slot (X.lv+1) p.1|none=>G.ow b}:Gh)=M;have g:∀m,m≠.locs (X.lv+1)->M.ad m=G.ad m:=λm hO=>ax hG<|u hO
 have lA:M.ad (.locs<|X.lv+1)=l.locals:=ax hG<|aa U
 have mE:M.ow l.locals=.locs (X.lv+1):=ax hG<|aa U
 have ZH:∀n c,l.cells.lookup n=I c->M.ow c=.slot (X.lv+1) n:=λn c hc=>by
  have hm:=rN hc;refine ax hG ?_;show(if c=l.locals then _ else _)=_;refine Z (u λq=>by have:=O n c hc;rw[q,eL]at this;exact n8 _ this) ?_;clear S V;generalize hf:l.cells.find? (λp=>l.cells.lookup p.1==I c)=C;induction C using bL with
  |none=>have:=List.find?_eq_none.mp hf _ hm;rw[hc]at this;simp at this
  |some p=>obtain⟨pn,pc⟩:=p;have e1:(l.cells.lookup pn==I c)=true:=FG (p:=λp:H×bc=>l.cells.lookup p.1==I c) hf;dsimp only;exact Z (name_of_addr h.apart (rN<|eq_of_beq e1) hm) U
 have zy:∀b,b<s.heap.objs.size->M.ow b=G.ow b:=λb S=>by
  refine ax hG ?_;show(if b=l.locals then _ else _)=_;refine Z (u<|by rw[eL];exact dP ‹_›) ?_;clear V;generalize hf:l.cells.find? (λp=>l.cells.lookup p.1==I b)=C;induction C using bL with
  |none=>rfl|some p=>obtain⟨pn,pc⟩:=p;exact aF S<|Nat.not_lt.mpr (cG (O pn b (eq_of_beq (FG (p:=λp:H×bc=>l.cells.lookup p.1==I b) hf:(l.cells.lookup pn==I b)=B))))
 have nK:∀b,s.heap.objs.size<=b->M.ow b=.none\/((cR.get? b).isSome=B/\(M.ow b=.locs (X.lv+1)\/∃y,M.ow b=.slot (X.lv+1) y)):=λb S=>by
  by_cases q:b=l.locals;clear S V;subst q;exact nr gq λzz zz zz ho zz=>.inr ⟨dy ho,.inl mE⟩;clear V;generalize hf:l.cells.find? (λp=>l.cells.lookup p.1==I b)=C;induction C using bL with
  |none=>left;rw[<-hG];show(if b=l.locals then _ else _)=_;rw[u q,hf];exact R.r.fresh S
  |some p=>obtain⟨pn,pc⟩:=p;refine av (h.cell pn b<|eq_of_beq (FG (p:=λp:H×bc=>l.cells.lookup p.1==I b) hf:(l.cells.lookup pn==I b)=B)) λob e2 zz=>.inr ⟨dy e2,.inr ⟨pn,?_⟩⟩;rw[<-hG];show(if b=l.locals then _ else _)=_;rw[u q,hf]
 have z:M.fz=G.fz:=by rw[<-hG]
 have t:M.tm=G.tm:=by rw[<-hG]
 have lt:∀b,G.ow b≠.none->M.ow b=G.ow b:=λb S=>zy b<|R.r.Cg S
 have L:∀n,Le n G M:=λn=>by refine⟨λb o q=>by rw[z];exact q,λk q=>⟨g _ (ao · rfl),?_⟩,λk y q=>⟨g _ (ao · rfl),?_⟩,λj y Y=>g _ (ao · rfl),λb i o q Y=>by rw[t];exact q⟩;rw[lt _<|by rw[q];simp];exact q;rw[lt _<|by rw[q];simp];exact q
 have Tt:Tr (λm=>m=.locs (X.lv+1)\/∃y,m=.slot (X.lv+1) y) G M s.heap cR:=⟨λb o q Y=>T b o q,λb S Y=>lt b S,λm hO=>g m λq=>hO<|.inl q⟩;refine hq l M _ eF L ⟨(⟨R.r.sys,λb o q=>(L 0).fz _ _<|R.r.ey b o q,λb o q=>?_,λb p q=>?_,λb q=>?_,λk ob q=>(R.r.cells k ob q).tr Tt (L 0) (by simp) (by simp)<|by simp,λk q=>?_,λk y q=>?_,?_,?_,?_⟩),R.g,R.o,(gX:1<=tk)⟩ T;rw[z]at q;have:=R.r.fz b o q;exact⟨T _ _ this.1,(lt b<|by rw[this.2];simp).trans this.2⟩;rw[t]at q;have:=R.r.tm b p q;exact⟨T _ _ this.1,(lt b<|by rw[this.2];simp).trans this.2⟩;rcases j8 b s.heap.objs.size with w|w
 rw[zy b w]at q;exact qz T<|R.r.lt b q
 rcases nK b w with v|⟨v,_⟩
 exact aF v q;exact v;rw[g _ (ao · rfl)]at q;rcases j8 (G.ad<|.cell k) s.heap.objs.size with w|w
 rw[zy _ w]at q;exact R.r.fH k q;clear S V;rcases nK _ w with v|⟨_,v|⟨y,v⟩⟩<;>(rw[v]at q;exact ao q U)
 rw[g _ (ao · rfl)]at q;rcases j8 (G.ad<|.attr k y) s.heap.objs.size with w|w
 rw[zy _ w]at q;exact R.r.eY k y q;clear S V;rcases nK _ w with v|⟨_,v|⟨y',v⟩⟩<;>(rw[v]at q;exact ao q U)
 have V':=d.mono<|L 0
 exact{
  kd:=λy=>.inl<|eK y,kind:=by have:=hk;rw[<-eS]at this;exact this,glob:=eG,blt:=eB,lo:=mE,la:=lA
  ns:=by
   refine⟨_,gq,λy hy sv e=>?_⟩;clear S V;rcases wn V' e with rfl|⟨c,v,rfl,r1,r2⟩
   exact .un;rw[JL (by rw[eK];exact hy) nd,r2];exact .s<|.v r1
  ce:=λy hy=>by
   refine aJ (Option.isSome_iff_exists.mp<|show(l.cells.lookup y).isSome=B by rw[eC];exact PQ hy) λc hc=>av (h.cell y c hc) λob e1 e2=>⟨c,_,hc,ZH y c hc,⟨ob,e1,e2⟩,λsv e=>?_⟩;clear S V;rcases wn V' e with rfl|⟨c,v,rfl,r1,r2⟩
   exact .un;rw[ZE (by rw[eK,hy];lk) nd,r2];exact .s<|.v r1
  fr:=λy hy=>aF hy<|nf y
  own:=λy sv e=>by
   clear S V;rcases wn V' e with rfl|⟨c,v,rfl,r1,r2⟩
   exact .inr<|.inl U
   exact .inl ⟨c,U⟩}
 refine⟨?_,?_⟩;exact R.r.top.tr Tt (L 0) (by simp) (by intro i y hi;simp;exactλq=>aF q<|dP (ut hi)) λy=>.inl<|by simp
 exact R.r.out.tr Tt (L 0) λi hi=>⟨by simp;exact dP<|uv hi,(by intro y;simp;exact dP<|uv hi),by intro y;simp⟩;refine⟨λY=>eF,λr V=>?_⟩;clear S;rcases List.mem_cons.mp V with rfl|V
 exactλq=>R.r.fr.1 q;exact R.r.fr.2 r V
noncomputable def tb(r:RH)(c:K):Internal.R CV:=match r with
 |.C=>.C
 |.ok v hp=>.ok v {c with hp}
 |.exc e hp=>.exc e {c with hp}
def JO{a:K}:ma c q args a=if args.all bj=B then tb (c q args a.hp) a else .C:=by unfold ma tb;split;cases c q args a.hp<;>rfl;rfl
def te(T:Tab)(F:au)(X:aU)(A:bS)(a:bc)(r:D CV->D aQ->RH):Prop:=
 ∀G st s args vals,aZ F X G st s->bn F G args vals->∀R:pK->aM->Prop,aH T F X (X.lv+2) (vI F) G (tb (r args st.hp) st) (λw s'=>R (.ok<|.ret w) s') (λw s'=>R (.error w) s')->
  k7 F.md A (.call (.ref a) ⟨vals,[]⟩) R s
structure jo(X:aU)(A:bS)(d:J):Prop where
 fr:A.frames=I X.envs
 hd:A.handled=W
 dp:A.depth+3*d<=602
 un:A.units+12*d<=6008
def aW.ZI(a:aW X A d):jo X A d:=⟨a.fr,a.hd,by have:=a.dp;exact g ‹_› (by lk),by have:=a.un;exact g ‹_› (by lk)⟩
def tg(T:Tab)(F:au)(c:bP)(d:J):Prop:=∀X A,jo X A d->∀q a,F.jk q=I a->te T F X A a (c q)
structure JP(T:Tab)(F:au)(c:bK):Prop where
 lim:F.base.NoLimit
 fn:∀q a,F.jk q=I a->∃f,T.fns q=I f/\(f.native=W->∃o fd ds,Df T F c q a f o fd ds)/\∀e,f.native=I e->∀X A d,jo X A (d+1)->te T F X A a e
def jo.deeper(a:jo X A (d+1))(e:K)(c:fE):aW (oo X e c) (A.deeper c) d:=by refine⟨?_,a.hd,?_,?_⟩;show A.frames.map (c::·)=I _;refine Z a.fr ?_;rw[ZG];rfl;have:=a.dp;show A.depth+1+3*d<=600;exact Uf this;have:=a.un;show A.units+3+12*d<=6000;exact Ue this
def aG.leave{G:Gh}{c:K}(R:aG F (oo X c d) G a h):aG F X G {c with hp:=a.hp} h:=
 ⟨R.sys,R.ey,R.fz,R.tm,R.lt,R.cells,R.fH,R.eY,R.out.1,R.out.2,⟨λq=>R.fr.2 _ (dj ..) q,λf e=>R.fr.2 f<|eW _ e⟩⟩
def ZJ{h:K}(a:aW X A d)(n:X.isFn=B)(f:sV T F X G x h v s)
 (q:∀i,aZ F X G h i->(∃k c j,x=.cell k/\h.hp[k]?=I (.inst c j)/\(T.exc c=B/\F.fresh c=ag)/\v=.ref (G.ad<|.cell k)/\nJ G i.heap (G.ad<|.cell k) .none)->Q () i):am F.md A (leaving X.env v) Q E s:=by
 obtain⟨R,k,c,j,rfl,e,o,rfl,p⟩:=f;have m:=R.r.fr.1 n;have r:X.env.frame.getD 0=X.env.locals:=Z m U;rw[r]at p;exact af<|C9 a n R e o.2 p λcR o8 zw=>zv (fr:=W) (s:={s with heap:=cR}) ⟨o8,R.g,R.o,R.t⟩ zw λhP mA zx=>q _ ⟨mA,R.g,R.o,R.t⟩ ⟨k,c,j,U,e,o,U,zx⟩
def ZK{i:bK}(K1:JP T F i)(JS:dR T F (aj T d) d AF):tg T F (aj T<|d+1) (d+1):=by
 refineλX A H q a hq=>aL λhG=>cC (K1.fn q a hq) λf hT JQ JR=>hG ?_;generalize hn:f.native=ZL;induction ZL using bL with
 |some m=>refineλG st s args vals R V Rr h=>JR m hn X A d H G st s args vals R V Rr ?_;rw[sA hT]at h;unfold oV at h;replace h:=hn▸h;exact h
 |none=>
  refineλG st s args vals R V Rr h=>aL λhG=>?_;clear JR hq;refine r7 (JQ hn) λo fd ds j=>?_;rw[sA hT]at h;unfold oV at h;replace h:=hn▸h;refine hG ?_;generalize hb:mm f.params args f.km=ZM;induction ZM using bL with
  |none=>rw[hb]at h;exact h.elim|some l=>
   replace h:=hb▸h;dsimp only at h;clear JQ hT hG;refine cB (ZC hb) λb1 b2 b3=>?_;have mF:=V.length;have wo:=(j.dr G R.r.ey);have th:=wo.length;have V':bn F G (args++f.km.drop (f.km.length+args.length -f.params.length)) (vals++ds.drop (ds.length+vals.length -f.params.length)):=(th)▸(mF)▸V.append (wo.drop _);have d4:=R.r.vW;refine O2 (by have:=H.dp;show A.depth<1000;exact H0 this) (d4 _ _ j.ho) j.hd (Z j.sc j.co) ((j.sc)▸j.gen) j.body (j.code.keeps d4) ?_;have hD:qO s.heap fd ds:=by clear V';clear th wo mF b3 b2 b1 h hG;cases j.dv with|none e=>exact .none e|tup e1 e2 e3=>exact .tup e1 (d4 _ _ e2) e3
   refine De j.par hD (g (bg mF) b1) (g b2<|bg (congr (bq Nat.add mF.symm) th.symm)) (g (bg th) j.dl)<|Z j.Dg ?_
   have tj:wl f.params vals ds=f.params.zip (vals++ds.drop (ds.length+vals.length -f.params.length)):=U;refine Z tj<|JN R U j.sc j.glob j.blt j.kind j.par.nd j.pk j.nf V' λenv G1 s1 ef L1 R1 k1=>⟨(K1.lim.keeps d4).keeps k1,O3 ?_⟩
   rw[<-b3]at R1;have H':=H.deeper st env;refine JS.ss (oo X st env) (A.deeper env) H' U f.body G1 _ s1 R1 _ _ ?_;clear V' j;generalize hr:cb T (aj T d) AF f.body ⟨l++f.locs.map λx=>(x,.un),st.hp,f.sc⟩=lB;induction lB using Internal.R.casesOn with
   |C=>rw[hr]at h;exact h.elim|ok fl wc=>replace h:=hr▸h;intro G2 w s2 L2 R2 V2;have JT:aZ F X G2 {st with hp:=wc.hp} s2:=⟨R2.r.leave,R2.g,R2.o,R2.t⟩;have L':Le (X.lv+2) G G2:=(L1 _).trans L2;clear k1 ef tj hD d4 th wo mF b3 b2 b1 hG;induction V2 with|aO=>exact h G2 .none s2 L' JT .none|ret v=>exact h G2 _ s2 L' JT v|brk=>exact h.elim|cnt=>exact h.elim
   |exc x wc=>replace h:=hr▸h;refineλG2 w s2 L2 V2=>ZJ (X:=oo X st env) H' U V2 λs3 R3 V3=>?_;clear V2;clear k1 ef tj hD d4 th wo mF b3 b2 b1 hG;refine Bx V3 λk c as cy e hc vT f2=>?_;subst cy;subst vT;exact h G2 _ s3 ((L1 _).trans L2) ⟨⟨R3.r.leave,R3.g,R3.o,R3.t⟩,k,c,as,U,e,hc,U,f2.Zm⟩
def alx(x:AT d a):∃l:D (H×ij),d=FW l/\l.map (·.1)=a:=by
 induction x with
 |nil=>exact⟨[],U,U⟩|cons y t _ c=>obtain⟨l,rfl,rfl⟩:=c;exact⟨(y,t)::l,U,U⟩
def ZN(l:D (H×ij)):bn F G ((l.map (·.1)).map CV.str) (FW l):=by induction l with|nil=>exact .nil|cons p l d=>exact .cons (.str _ _) d
def aG.Dh{w:K}(R:aG F X G w h)(k:∀b o,h.get? b=I o->l.get? b=I o)(f:h.objs.size<=a)(r:l.get? a=I o):
 aG F X (G.fI a o) w l/\(∀n,Le n G<|G.fI a o)/\(G.fI a o).fz a=I o:=by
 have d:=R.fresh f;have m:=R.yJ f;have s:=R.yK f;have c:∀b,b≠a->(G.fI a o).ow b=G.ow b:=λb t=>u t;have L:∀n,Le n G (G.fI a o):=λn=>by refine⟨λb j q=>?_,λv q=>⟨U,?_⟩,λv y q=>⟨U,?_⟩,λY Y Y=>rfl,λb i j q Y=>q⟩;exact((Z (u λz=>by subst z;rw[m]at q;exact aD q) q):(if b=a then _ else G.fz b)=_);exact Z (c _ λz=>by rw[z,d]at q;exact ao q U) q;exact Z (c _ λz=>by rw[z,d]at q;exact ao q U) q
 refine⟨R.grow (n:=0) ⟨λb j e Y=>k b j e,λb t Y=>c b λq=>t<|(q)▸d,λY Y=>rfl⟩ (L 0) (λb j e=>?_) (λb p e=>?_) (λb e=>?_) (λb v e=>?_) λb v x e=>?_,L,aa U⟩;change(if b=a then I o else G.fz b)=_ at e;clear s m d f;by_cases q:b=a;clear L c;rw[aa q]at e;obtain rfl:=aK e;subst q;exact⟨r,aa U⟩;rw[u q]at e;exact⟨k _ _ (R.fz b j e).1,(c b q).trans (R.fz b j e).2⟩;have:=R.tm b p e;exact⟨k _ _ this.1,(c b λq=>by rw[q,d]at this;exact ao this.2 U).trans this.2⟩;clear s m d f;by_cases q:b=a;exact(q)▸dy r;rw[c b q]at e;exact qz k<|R.lt b e
 clear s m d r f k;by_cases q:b=a;rw[q]at e;rw[show(G.fI a o).ow a=.fz from aa U]at e;exact ao e U;exact(c b q)▸e;clear s m d r f k;by_cases q:b=a;rw[q]at e;rw[show(G.fI a o).ow a=.fz from aa U]at e;exact ao e U;exact(c b q)▸e
def du.one{X:aU}(x:du F X.lv G [a] v):∃c,v=[c]/\VO F X.lv G a c:=fP x λv l e p q=>⟨v,e.trans<|bq _ q,p⟩
def du.two{X:aU}(x:du F X.lv G [a,b] v):∃c d,v=[c,d]/\VO F X.lv G a c/\VO F X.lv G b d:=fP x λv l e p q=>av (du.one (X:=X) q) λw f r=>⟨v,w,e.trans<|bq _ f,p,r⟩
def du.three{X:aU}(x:du F X.lv G [a,b,c] v):∃h i j,v=[h,i,j]/\VO F X.lv G a h/\VO F X.lv G b i/\VO F X.lv G c j:=fP x λv l e p q=>fP (du.two (X:=X) q) λw d f r t=>⟨v,w,d,e.trans<|bq _ f,p,r,t⟩
def ZO{F:au}(i:(a==g6)=ag)(d:s.heap.get? a=I o)(j:o.ExactDict)(k:o.data=.dict #[e] m)(n:Q (.int 1<|s.toks+1) {s with toks:=s.toks+1+1}):
 am F.md A (c8 (.builtin "len") [.ref a]) Q E s:=by
 have f:s.TypeIs (.ref a) "dict":=⟨o,d,j.1⟩;have c:MeetsIn F.pg F.w (Builtin.«dict.__len__» ⟨[.ref a],[]⟩) (λY R s=>s.heap.get? a=I o/\R (.ok<|.ret (.int 1 s.toks)) {s with toks:=s.toks+1}):=.of_wp λA R s z=>aI z λd h=>by refine((af<|af (FX d k (aE ?_))):am _ _ (dictSize a>>=_) _ _ s);exact af<|wpAny_pendingCount_other i (wpAny_ret_mkInt h)
 refine Calls.call_function_entry kind_len plain_len entry_len (args_len1 _)<|af (m:=oneArg "len" _) (aE ?_)
 refine af (m:=callSpecial? (.ref a)<|ak "__len__") (AX (name:=ak "__len__") f akj
  (xQ akj f PySem.F.entry_dict_len (PySem.F.args_dict_len_1 _) c ⟨d,?_⟩))
 exact af<|dF (aE (af (aju (Z (u (by lk)) (Z (u (by lk)) (af (wpAny_mkInt (aE ⟨_,U,n⟩))))))))
def ZP{b:K}(R:be F X G b s)(a:VO F X.lv G c v)(e:sg b c=I m)(o:m<2^63)(j:∀t Y,Q (.int m t) {s with toks:=Y}):am F.md A (c8 (.builtin "len") [v]) Q E s:=by
 refine r9 (P:=λr=>r=I m) e (λn e=>r9 (P:=λr=>r=I m) e (λn e=>?_) λS n e=>?_) λx n e=>?_;refine av (Option.map_eq_some_iff.mp e) λZ T h=>?_;subst h;refine cC (nG R.r a T) λy h z f=>?_;subst h;have w:(y==g6)=false:=beq_eq_false_iff_ne.mpr z;clear z T e a;cases f with
 |s d k=>exact akk w d (k.length▸(lM (Int.ofNat_lt.mpr o)<|dk U))<|k.length▸j _ _
 |i d k=>exact akk w d (k.length▸(lM (Int.ofNat_lt.mpr o)<|dk U))<|k.length▸j _ _
 |t a1 a2 L D B g O=>exact ZO w a1 a2 L<|j _ _
 obtain rfl:=aK e;refine fQ (qC R.r a n) λy M h N q w=>?_;subst h;have p:=N.length;have this:(M.toArray.size:V)=(S.length:V):=bq jA p;clear a n;induction q with
 |l q=>exact call_len_list q (H2 o p)<|this▸j _ _
 |t q=>exact amV q (H2 o p)<|this▸j _ _
 refine aJ (oE n▸a:VO F X.lv G (.str x) v).str_inv λt h=>?_;subst h;refine aI (oB e) λp h=>?_;subst h;exact P.len_str (by rw[dY]at p;exact Int.not_le.mpr<|lM (Int.ofNat_lt.mpr o) (dk U))<|j _ _
def ZQ{n:K}(R:be F X G n s)(a:VO F X.lv G c v)(b:VO F X.lv G k l)(e:eP n c=I P)(i:bi P k=I r)(T:i9 k=B)
 (o:∀w Y,mw F G r w->Q (w.getD .none) {s with toks:=Y}):am F.md A (c8 (.builtin "dict.get") [v,l]) Q E s:=by
 refine aL λp=>cC (nG R.r a e) λy h z f=>?_;subst h;have q:(y==g6)=false:=beq_eq_false_iff_ne.mpr z;clear a;induction k using CV.casesOn with
 |str x=>refine aJ b.str_inv λt h=>?_;subst h;exact av (sO f i) λj d m=>p<|xQ xR d.typeIs Bf (O4 _ _) (akl (strKind F.pg F.w) y (nh x t) q) ⟨_,d.mapOf,(o _ _ (m.find i))⟩
 |int x=>refine aJ b.int_inv λt h=>?_;subst h;exact av (sP f i) λj d m=>p<|xQ xR d.typeIs Bf (O4 _ _) (akl (AN F.pg F.w) y (x7 x t) q) ⟨_,d.mapOf,(o _ _ (m.find i))⟩
 |_=>exact ft T
def ZR{o:K}(R:be F X G o s)(a:VO F X.lv G c v)(b:VO F X.lv G k P)(e:eP o c=I T)(j:bi T k=I r)(Y:i9 k=B)
 (p:∀f S,mw F G r f->Q (f.getD w) {s with toks:=S}):am F.md A (c8 (.builtin "dict.get") [v,P,w]) Q E s:=by
 refine aL λq=>cC (nG R.r a e) λy i z h=>?_;subst i;have l:(y==g6)=false:=beq_eq_false_iff_ne.mpr z;induction k using CV.casesOn with
 |str x=>refine aJ b.str_inv λt i=>?_;subst i;exact av (sO h j) λm d n=>q<|xQ xR d.typeIs Bf (akm _ _ _) (akn (strKind F.pg F.w) y (nh x t) l w) ⟨_,d.mapOf,(p _ _ (n.find j))⟩
 |int x=>refine aJ b.int_inv λt i=>?_;subst i;exact av (sP h j) λm d n=>q<|xQ xR d.typeIs Bf (akm _ _ _) (akn (AN F.pg F.w) y (x7 x t) l w) ⟨_,d.mapOf,(p _ _ (n.find j))⟩
 |_=>exact ft Y
def ZS{v:K}(R:be F X G v s)(o:y.length=1)(p:x.length<=1000)
 (w:∀q z b a,(∀n,Le n G q)->aG F X q v z->VR F q (.lst<|(rq x y).map .str) (.ref a)->Q (.ref a) {s with heap:=z,toks:=b}):am F.md A (c8 (.builtin "str.split") [.str x t,.str y c]) Q E s:=by
 have f:(y.length==0)=false:=Z o U;have j:x.length<=sizeLine:=Z dY<|g ‹_› (by lk)
 have d:(FY x (AJ x y 0 x.length<|x.length+1) y.length).length<=sizeLine:=by
  have h:=StrLaws.occ_length_le x y 0 x.length<|x.length+1
  have:(FY x (AJ x y 0 x.length<|x.length+1) y.length).length<=x.length+2:=by unfold FY;simp;assumption
  exact Z dY<|g this (g (dC p 2) (by lk))
 have i:∀(l:D (H×ij))(k:J),l.map (·.1)=rq x y->Q (.ref s.heap.objs.size) {s with heap:=s.heap.push<|bO (FW l) 0,toks:=k}:=by intro l k e;clear d j f p o;exact cB (R.r.nE (bO (FW l) 0) U) λP T Y=>w _ _ _ _ T P<|.lst Y (ax e (ZN l))
 clear w p o;cases h:(decide (x.length<y.length)||decide (ako x<ako y))with
 |true=>exact uF FZ (lU _ _ _) O5 (O6 _ _) (meets_str_split_cannot_occur x y t c h)<|i [(x,t)] s.toks (aa h).symm
 |false=>
  generalize m:(AJ x y 0 x.length<|x.length+1).isEmpty=r;induction r using dN with
  |true=>exact uF FZ (lU _ _ _) O5 (O6 _ _) (meets_str_split_not_found x y t c h f m)<|i [(x,t)] s.toks ((u (by refine Z h ?_;lk)).trans (aa m)).symm
  |false=>
   refine uF FZ (lU _ _ _) O5 (O6 _ _) (meets_str_split_sep x y t c h f m j d)<|(?_:wants Q E _ {s with toks:=_,heap:=s.heap.push {cls:=.type "list",data:=.seq (strsFrom s.toks (FY x (AJ x y 0 x.length (x.length+1)) y.length)).toArray}})
   rw[strsFrom_eq];exact i _ _<|(numbered_texts _ _).trans ((u (by refine Z h ?_;lk)).trans (u (by refine Z m ?_;lk))).symm
def ZT{m:K}{s:aM}(R:be F X G m s)(a:VO F X.lv G c v)(e:c4 m c=I n)(o:kj n=I f)(h:∀p,c≠.tup p)(r:(f.map (·.length)).sum+f.length*x.length<=16000000)
 (w:∀i k,(pM x f).length<=eJ->Q (.str (pM x f) i) {s with toks:=k}):am F.md A (c8 (.builtin "str.join") [.str x t,v]) Q E s:=by
 refine aL λz=>fQ (qC R.r a e) λy Y d b P q=>?_;subst d;clear P a;refine av (alx<|b.strsOf.get o) λl d j=>?_;subst d;subst j;have T:JoinOk x (l.map (·.1))=true:=by unfold JoinOk;rw[StrLaws.joinTotal];rw[og];exact dx (Cu ((dY)▸g ‹_› (by lk)))
 refine z (SC.join (q h) U T λi k=>w i k ?_);have:=StrLaws.join_length_le x (l.map (·.1));have e:pM x (l.map (·.1))=uQ x (l.map (·.1)):=O7 x _;exact Z e (Z dY (g this (g r (by lk))))
def ZU{i:K}(R:be F X G i s)(e:ay i.loc x=I (.ol p))(a:VO F X.lv G (.bY x) Y)(b:VO F X.lv G (.lst q) v)(j:p.length+q.length<100000)
 (S:∀t,be F X G (cq x (.ol<|p++q) i) t->Q .none t):am F.md A (c8 (.builtin "list.extend") [Y,v]) Q E s:=by
 refine aL λL=>aJ (R.r.slot e (by simp)<|by simp) λN r=>?_;obtain⟨_,w,h,m,n,l⟩:=y9 r;refine l6 b.lst_inv λy f k o z P=>?_;subst o;cases a with
 |r a=>cases a
 |bY=>
  have c:=l.length;have d:=P.length;refine L ?_;refine uF akp ⟨_,n,U⟩ PySem.F.entry_list_extend (PySem.F.args_list_extend_2 _ _)
   (amW _ h.toArray m y f.toArray k (by unfold amX;simp;exactλ_=>Z dY (c▸d▸sH j (by lk))) (by refine Z dY ?_;simp;exact UF j c) (by refine Z dY ?_;simp;exact c▸d▸sH j (by lk))) ⟨n,(R.r.fz _ _ z).1,?_⟩
  refine aJ (v5 h m (λx=>x++f.toArray) (h++f) (by simp)) λM T=>S _ ⟨R.r.y7 e (by simp) (by simp) w (jD ..) (by simp) (.ol w ⟨h++f,M,?_,l.append P⟩),R.g,R.o⟩;have:=k8 (rF λx=>x++f.toArray) n (Z T U);exact T▸this
def JU(T:Tab)(F:au)(X:aU)(A:bS):Prop:=∀(E:bp)G st s c cc v vc b(Q:bp),be F X G st s->VO F X.lv G c v->VO F X.lv G cc vc->yq T st c cc=I b->(∀G' s',(∀n,Le n G G')->be F X G' st s'->Q (.bool b) s')->
 am F.md A (c8 (.builtin "isinstance") [v,vc]) Q E s
def JV(T:Tab)(F:au)(X:aU)(A:bS):Prop:=∀(E:bp)G st s k c as v x t(Q:bp),be F X G st s->st.hp[k]?=I (.inst c as)->T.exc c=B->VO F X.lv G (.cell k) v->(∀s',be F X G st s'->Q .none s')->
 am F.md A (c8 (.builtin "ValueError.__init__") [v,.str x t]) Q E s
def JW(T:Tab)(F:au)(X:aU)(A:bS):Prop:=∀(E:bp)G st s c x y v vk(Q:bp),be F X G st s->VO F X.lv G c v->eP st c=I []->VR F G (.tup [.str x,.str y]) vk->(∀s',be F X G st s'->Q .none s')->
 am F.md A (c8 (.builtin "dict.get") [v,vk]) Q E s
def JX(T:Tab)(F:au)(X:aU)(A:bS):Prop:=∀(E:bp)G st s c v es(Q:bp),be F X G st s->VO F X.lv G c v->eP st c=I es->Bq es=B->es.length<=1000->(∀G' s' w,(∀n,Le n G G')->be F X G' st s'->VR F G' (.lst<|es.map (·.1)) w->Q w s')->
 am F.md A (c8 (.type "list") [v]) Q E s
structure dT(T:Tab)(F:au)(X:aU)(A:bS):Prop where
 eT:JU T F X A
 ZV:JV T F X A
 get:JW T F X A
 ld:JX T F X A
@[elab_as_elim] def pb{T:Tab}{F:au}{X:aU}{G:Gh}{j:K}{n:J}{E:bp}{P:D ah->Prop}{f:CV->M CV}{i:D CV}{m:D ah}(c:du F X.lv G i m)(h:aC T F X n (aP F X) G (a1 f i j) Q E)(k:∀a v,VO F X.lv G a v->aC T F X n (aP F X) G (f a j) Q E->P [v]):P m:=
 h.opt λa e h=>av (du.one (X:=X)<|ym e▸c) λv q p=>by subst q;exact k a v p h
@[elab_as_elim] def qP{T:Tab}{F:au}{X:aU}{G:Gh}{st:K}{n:J}{E:bp}{P:D ah->Prop}{f:CV->CV->M CV}{i:D CV}{vs:D ah}(c:du F X.lv G i vs)(h:aC T F X n (aP F X) G (a2 f i st) Q E)(k:∀a b v w,VO F X.lv G a v->VO F X.lv G b w->aC T F X n (aP F X) G (f a b st) Q E->P [v,w]):P vs:=
 h.opt λa e h=>fP (du.two (X:=X)<|oD e▸c) λv w q p p2=>by subst q;exact k _ _ v w p p2 h
@[elab_as_elim] def qQ{T:Tab}{F:au}{X:aU}{G:Gh}{j:K}{n:J}{E:bp}{P:ah->Prop}{f:V->M CV}{c:CV}{v:ah}(a:VO F X.lv G c v)(h:aC T F X n (aP F X) G (jJ c f j) Q E)(k:∀i t,aC T F X n (aP F X) G (f i j) Q E->P (.int i t)):P v:=
 h.opt λi e h=>aJ (BE e▸a:VO F X.lv G (.int i) v).int_inv λt q=>Z q<|k i t h
@[elab_as_elim] def wq{T:Tab}{F:au}{X:aU}{G:Gh}{j:K}{n:J}{E:bp}{P:ah->Prop}{f:H->M CV}{c:CV}{v:ah}(a:VO F X.lv G c v)(h:aC T F X n (aP F X) G (qi c f j) Q E)(k:∀x t,aC T F X n (aP F X) G (f x j) Q E->P (.str x t)):P v:=
 h.opt λi e h=>aJ (oE e▸a:VO F X.lv G (.str i) v).str_inv λt q=>Z q<|k i t h
@[elab_as_elim] def tp{T:Tab}{F:au}{X:aU}{G:Gh}{i:K}{n:J}{E:bp}{P:D ah->Prop}{f:H->M CV}{e:D CV}{j:D ah}(c:du F X.lv G e j)(h:aC T F X n (aP F X) G (s1 f e i) Q E)(k:∀x t,aC T F X n (aP F X) G (f x i) Q E->P [.str x t]):P j:=
 pb c h λa v p h=>wq (P:=λv=>P [v]) p h k
@[elab_as_elim] def zA{T:Tab}{F:au}{X:aU}{G:Gh}{st:K}{n:J}{E:bp}{P:D ah->Prop}{f:H->H->M CV}{i:D CV}{vs:D ah}(c:du F X.lv G i vs)(h:aC T F X n (aP F X) G (s2 f i st) Q E)(k:∀x t y d,aC T F X n (aP F X) G (f x y st) Q E->P [.str x t,.str y d]):P vs:=
 qP c h λa b v w p q h=>wq (P:=λv=>P [v,w]) p h λx t h=>wq (P:=λw=>P [.str x t,w]) q h<|k x t
@[elab_as_elim] def JY{T:Tab}{F:au}{X:aU}{G:Gh}{st:K}{n:J}{Q E:bp}{P:D ah->Prop}{f:V->V->M CV}{i:D CV}{vs:D ah}(c:du F X.lv G i vs)(h:aC T F X n (aP F X) G (i2 f i st) Q E)(k:∀x t y d,aC T F X n (aP F X) G (f x y st) Q E->P [.int x t,.int y d]):P vs:=
 qP c h λa b v w p q h=>qQ (P:=λv=>P [v,w]) p h λx t h=>qQ (P:=λw=>P [.int x t,w]) q h<|k x t
def ZW{T:Tab}{F:au}{X:aU}{G:Gh}{n:J}{E:bp}{β:Type}{c:Gh->α->β->Prop}{Q:β->aM->Prop}{b:bf}{m:R α}{p:Prop}(h:aC T F X n c G (if(a&&b)=B then m else .C) Q E)(k:a=B->b=B->aC T F X n c G m Q E->p):p:=by
 induction a with
 |false=>exact h.elim
 |true=>induction b with
  |false=>exact h.elim|true=>exact k U U h
def ZX{T:Tab}{F:au}{X:aU}{G:Gh}{d:K}{s:aM}{n:J}{A:bS}{Q:bp}{c:CV}{v:ah}(R:be F X G d s)(a:VO F X.lv G c v)(h:aC T F X n (aP F X) G (ny c d) Q E):am F.md A (c8 (.builtin "len") [v]) Q E s:=
 aC.opt h λm e h=>h.ite λf h=>ZP R a e f λt i=>h.ok R.tok<|.r (.int _ _)
def ZY{T:Tab}{F:au}{X:aU}{G:Gh}{i:K}{s:aM}{n:J}{A:bS}{Q:bp}(f:dT T F X A){d:CV}{w:ah}(R:be F X G i s)(a:VO F X.lv G c v)(b:VO F X.lv G d w)(h:aC T F X n (aP F X) G (vq T c d i) Q E):am F.md A (c8 (.builtin "isinstance") [v,w]) Q E s:=
 aC.opt h λq e h=>f.eT _ G i s _ _ _ _ _ _ R a b e λk m L j=>h _ _ _ (L _) j<|.r (.bool _)
def ZZ{T:Tab}{F:au}{X:aU}{G:Gh}{a:K}{s:aM}{n:J}{A:bS}{E:bp}{x:H}{t:ij}{d:CV}{w:ah}(R:be F X G a s)(b:VO F X.lv G d w)(h:aC T F X n (aP F X) G (rV x d a) Q E):am F.md A (c8 (.builtin "str.join") [.str x t,w]) Q E s:=by exact aC.y0 h λc h=>h.opt λo e h=>h.ite λf h=>aL λi=>av (dE e) λp j m=>i<|ZT R b j m (λl q=>c (q▸rfl)) f λv k Y=>h.ok R.tok (.r (.str _ _))
def Z0{T:Tab}{F:au}{X:aU}{G:Gh}{c:K}{s:aM}{n:J}{A:bS}{E:bp}{i:V}{t:ij}(R:be F X G c s)(h:aC T F X n (aP F X) G (.ok (.int<|if i=0 then 0 else i.natAbs.log2+1) c) Q E):am F.md A (c8 (.builtin "int.bit_length") [.int i t]) Q E s:=by
 refine call_gives akq (typeIs_int _ _ _) PySem.F.entry_int_bit_length (PySem.F.args_int_bit_length_1 _) (amY i t) ?_;have e:((Fl i:J):V)=(if i=0 then 0 else(i.natAbs.log2:V)+1):=by unfold Fl;clear h;by_cases a:i=0;subst a;rfl;refine Z (u<|by simpa using a)<|Z (u a) ?_;simp
 exact Z e<|h.ok R.tok (.r (.int _ _))
def Z1{F:au}{G:Gh}{r:al CV}{w:al ah}{V:ah->Prop}(f:mw F G r w)(a:r=W->V .none)(d:∀c v,r=I c->VR F G c v->V v):V (w.getD .none):=by induction f with|none=>exact a U|some f=>exact d _ _ U f
def Z2{T:Tab}{F:au}{X:aU}{G:Gh}{i:K}{s:aM}{n:J}{A:bS}{Q E:bp}(d:dT T F X A){k:CV}{w:ah}(R:be F X G i s)(a:VO F X.lv G c v)(b:VO F X.lv G k w)(h:aC T F X n (aP F X) G (Bp c k i) Q E):am F.md A (c8 (.builtin "dict.get") [v,w]) Q E s:=by
 refine aC.opt h λS e h=>?_;by_cases j:i9 k=B;replace h:=(aa j)▸h;refine h.opt λr o h=>ZQ R a b e o j λw p f=>Z1 f (V:=λv=>Q v {s with toks:=p}) (λq=>?_) λc v q f=>?_;rw[q]at h;exact aC.ok h R.tok<|.r .none
 rw[q]at h;exact aC.ok h R.tok<|.r f
 replace h:=(u j)▸h;refine ZW h λt z l=>aL λP=>?_;clear h;refine eO (IN z) λx y m=>?_;subst m;exact P<|d.get _ G i s _ _ _ _ _ _ R a (List.isEmpty_iff.mp t▸e) (b.store U) λL Y=>aC.ok l Y (.r .none)
def Z3{T:Tab}{F:au}{X:aU}{G:Gh}{m:K}{s:aM}{n:J}{A:bS}{E:bp}{j:D CV}{o:D ah}(R:be F X G m s)(d:du F X.lv G j o)(h:aC T F X n (aP F X) G (BO j m) Q E):am F.md A (c8 (.builtin "dict.get") o) Q E s:=by
 refine h.opt λp q h=>oA (du.three (X:=X)<|RT q▸d) λv w i k a b c=>?_;subst k;refine aC.opt h λy e h=>h.ite λt h=>h.opt λr x h=>ZR R a b e x t.1 λw z f=>?_;clear x t e b a q;induction f with
 |none=>exact h.ok R.tok c|some f=>exact h.ok R.tok<|.r f
def JZ{T:Tab}{F:au}{X:aU}{G:Gh}{d:K}{n:J}{Q:bp}{c:CV}{f:H->D CV->M CV}(h:aC T F X n (aP F X) G (BP c f d) Q E):∃x a,c=.bY x/\ay d.loc x=I (.ol a)/\aC T F X n (aP F X) G (f x a d) Q E:=
 aL λi=>h.opt λx e h=>h.opt λa j h=>i ⟨x,a,RS e,RX j,h⟩
def Z4{T:Tab}{F:au}{X:aU}{G:Gh}{f:K}{s:aM}{n:J}{A:bS}{E:bp}{d:CV}{w:ah}(R:be F X G f s)(a:VO F X.lv G c v)(b:VO F X.lv G d w)(h:aC T F X n (aP F X) G (yr c d f) Q E):am F.md A (c8 (.builtin "list.append") [v,w]) Q E s:=by refine aL λj=>?_;obtain⟨x,m,rfl,e,h⟩:=JZ h;exact j<|aC.ite h λi h=>W3 R e a (b.store i.1) i.2 λo k=>h.ok k (.r .none)
def Z5{T:Tab}{F:au}{X:aU}{G:Gh}{f:K}{s:aM}{n:J}{A:bS}{E:bp}{c:CV}{w:ah}(R:be F X G f s)(a:VO F X.lv G c v)(b:VO F X.lv G d w)(h:aC T F X n (aP F X) G (yu c d f) Q E):am F.md A (c8 (.builtin "list.extend") [v,w]) Q E s:=by obtain⟨x,k,rfl,e,h⟩:=JZ h;exact h.opt λm q h=>h.ite λi h=>ZU R e a (BF q▸b) i λo j=>h.ok j<|.r .none
def Z6{T:Tab}{F:au}{X:aU}{G:Gh}{i:K}{s:aM}{n:J}{A:bS}{Q:bp}(f:dT T F X A){d:CV}{w:ah}(R:be F X G i s)(a:VO F X.lv G c v)(b:VO F X.lv G d w)(h:aC T F X n (aP F X) G (BQ T c d i) Q E):am F.md A (c8 (.builtin "ValueError.__init__") [v,w]) Q E s:=
 wq (P:=λw=>am F.md A (c8 (.builtin "ValueError.__init__") [v,w]) Q E s) b h λx t h=>h.opt λk e h=>h.opt λp j h=>h.ite λm h=>f.ZV _ G i s _ _ _ _ _ _ _ R (oF j) m (vj e▸a) λq o=>h.ok o<|.r .none
def Z7{T:Tab}{F:au}{X:aU}{G:Gh}{i:K}{s:aM}{n:J}{A:bS}{Q E:bp}(c:dT T F X A){f:D CV}{j:D ah}(R:be F X G i s)(d:du F X.lv G f j)(h:aC T F X n (aP F X) G (BR f i) Q E):am F.md A (c8 (.builtin "dict.get") j) Q E s:=
 r9 (P:=λr=>aC T F X n (aP F X) G r Q E) h (λY h=>Z3 R d h) λp e h=>fP (du.two (X:=X)<|oD e▸d) λv w q a b=>by subst q;exact Z2 c R a b h
def eD(T:Tab)(F:au)(X:aU)(A:bS)(w:ah)(f:D CV->M CV):Prop:=∀(n:J)(G:Gh)(st:K)(s:aM)(args:D CV)(vs:D ah)(Q E:bp),be F X G st s->du F X.lv G args vs->aC T F X n (aP F X) G (f args st) Q E->am F.md A (c8 w vs) Q E s
def Z8(c:dT T F X A)(f:A.handled=W):eD T F X A (.builtin "len") (a1 ny):=λn G i s e j Q E R d h=>pb d h λa v p h=>ZX R p h
def Z9:(if i<0 then-i else i)=(i.natAbs:V):=by
 induction i using NZ with
 |ofNat n=>exact u<|Int.not_lt.mpr (dX n)
 |negSucc n=>exact aa<|N5 n
def Z'(c:dT T F X A)(k:A.handled=W):eD T F X A (.builtin "abs") (a1 λv=>jJ v λi=>M.pure (.int i.natAbs)):=by refineλn G m s j o Q E R d h=>pb d h λa v p h=>qQ p h λi t h=>amZ λf q=>?_;have e:(if i<0 then-i else i)=(i.natAbs:V):=Z9;exact(e)▸h.ok R.tok (.r<|.int _ _)
def aaa(c:dT T F X A)(j:A.handled=W):eD T F X A (.builtin "chr") (a1 λv=>jJ v λi s=>if 0<=i/\i<1114112 then .ok (.str ⟨#[i.toNat]⟩) s else .C):=λn G k s e m Q E R d h=>pb d h λa v p h=>qQ p h λi t h=>aC.ite h λf h=>P.chr_of_int (Z (dx<|Int.not_lt.mpr f.1)<|Z (dx (Int.not_lt.mpr (Int.lt_add_one_iff.mp (show _<1114111+1 from f.2)))) U)<|h.ok R.tok (.r (.str _ _))
def aab(a:dT T F X A)(i:A.handled=W):eD T F X A (.builtin "ord") (s1 λx s=>aS (qf x.cps.toList) λc=>.ok (.int c) s):=by
 refineλn G j s f k Q E R d h=>tp d h λx t h=>h.opt λc e h=>?_;have q:x=⟨#[c]⟩:=by obtain⟨⟨l⟩⟩:=x;exact bq (λl=>O8 ⟨l⟩)<|ym e
 subst q;exact P.ord_of_char<|h.ok R.tok (.r (.int _ _))
def aac(c:dT T F X A)(i:A.handled=W):eD T F X A (.builtin "min") (i2 λa b=>M.pure (.int (if b<a then b else a))):=by
 refineλn G st s args vs Q E R d h=>JY d h λx t y e h=>min_two_ints i λj tk k=>?_;have:=λz=>h.ok (b:=.int _ z) (s:={s with heap:=j,toks:=tk}) ⟨R.r.same k,R.g,R.o⟩<|.r (.int _ z)
 split;rename_i q;rw[aa q]at this;exact this e;rename_i q;rw[u q]at this;exact this t
def aad(c:dT T F X A)(i:A.handled=W):eD T F X A (.builtin "max") (i2 λa b=>M.pure (.int (if b>a then b else a))):=by
 refineλn G st s args vs Q E R d h=>JY d h λx t y e h=>max_two_ints i λj tk k=>?_;have:=λz=>h.ok (b:=.int _ z) (s:={s with heap:=j,toks:=tk}) ⟨R.r.same k,R.g,R.o⟩<|.r (.int _ z)
 split;rename_i q;rw[aa q]at this;exact this e;rename_i q;rw[u q]at this;exact this t
def aae(c:dT T F X A)(hh:A.handled=W):eD T F X A (.builtin "isinstance") (a2<|vq T):=λn G st s e vs Q E R V h=>qP V h λa b v w p q h=>ZY c R p q h
def aaf(a:dT T F X A)(i:A.handled=W):eD T F X A (.builtin "str.lstrip") (s2 λx y s=>if x.length<=eJ then .ok (.str (AK x y)) s else .C):=λn G st s args vs Q E R c h=>zA c h λx t y d h=>aC.ite h λf h=>SC.lstripChars (λt' k=>h.ok R.tok<|.r (.str _ _)) f
def aag(a:dT T F X A)(i:A.handled=W):eD T F X A (.builtin "str.strip") (s2 λx y s=>if x.length<=eJ then .ok (.str (ro x y)) s else .C):=λn G st s args vs Q E R c h=>zA c h λx t y d h=>aC.ite h λf h=>SC.stripChars (λt' k=>h.ok R.tok<|.r (.str _ _)) f
def aah(a:dT T F X A)(i:A.handled=W):eD T F X A (.builtin "str.lower") (s1 λx=>eg (iK x)):=λn G j s d k Q E R c h=>tp c h λx t h=>aI (sN (t:=s.toks) (tk:=s.toks+1) R h) λe f=>SC.lower (dx<|Cu e) f
def aai(a:dT T F X A)(j:A.handled=W):eD T F X A (.builtin "str.upper") (s1 λx=>eg (AL x)):=by exactλn G k s d m Q E R c h=>tp c h λx t h=>aL λe=>aI (sN (t:=s.toks) (tk:=s.toks+1) R h) λf i=>e<|SC.upper (dx (Cu f)) i
def aaj(a:dT T F X A)(e:A.handled=W):eD T F X A (.builtin "str.isdigit") (s1 λx=>M.pure (.bool (aiH x))):=λn G f s d i Q E R c h=>tp c h λx t h=>SC.isdigit<|h.ok R (.r (.bool _))
def aak(a:dT T F X A)(e:A.handled=W):eD T F X A (.builtin "str.isalnum") (s1 λx=>M.pure (.bool (aiI x))):=λn G f s d i Q E R c h=>tp c h λx t h=>SC.isalnum<|h.ok R (.r (.bool _))
def aal(a:dT T F X A)(hh:A.handled=W):eD T F X A (.builtin "str.find") (s2 λx y=>M.pure (.int (Fe x y))):=λn G st s e vs Q E R c h=>zA c h λx t y u h=>SC.find<|h.ok R.tok (.r (.int _ _))
def aam(c:dT T F X A)(hh:A.handled=W):eD T F X A (.builtin "str.split") (s2 λx y s=>if y.length=1/\x.length<=1000 then .ok (.lst ((rq x y).map .str)) s else .C):=λn G st s f vs Q E R d h=>zA d h λx t y e h=>aC.ite h λhx h=>ZS R hx.1 hx.2 λG' h' tk a L R' V'=>h _ _ _ (L _) ⟨R',R.g,R.o⟩<|.r V'
def aan(c:dT T F X A)(hh:A.handled=W):eD T F X A (.builtin "str.join") (a2 λv w=>qi v λx=>rV x w):=λn G st s e vs Q E R V h=>qP V h λa b v w p q h=>wq p h λx t h=>ZZ R q h
def aao(c:dT T F X A)(f:A.handled=W):eD T F X A (.builtin "int.bit_length") (a1 λv=>jJ v λi s=>if i.natAbs.log2<100000 then .ok (.int (if i=0 then 0 else i.natAbs.log2+1)) s else .C):=λn G j s e k Q E R d h=>pb d h λa v p h=>qQ p h λi t h=>aC.ite h λY h=>Z0 R h
def aap(a:dT T F X A)(e:A.handled=W):eD T F X A (.builtin "dict.get") (BR):=λn G f s d i Q E R c h=>Z7 a R c h
def aaq(c:dT T F X A)(hh:A.handled=W):eD T F X A (.builtin "list.append") (a2 yr):=λn G st s e vs Q E R V h=>qP V h λa b v w p q h=>Z4 R p q h
def aar(c:dT T F X A)(hh:A.handled=W):eD T F X A (.builtin "list.extend") (a2 yu):=λn G st s e vs Q E R V h=>qP V h λa b v w p q h=>Z5 R p q h
def aas(c:dT T F X A)(hh:A.handled=W):eD T F X A (.builtin "ValueError.__init__") (a2<|BQ T):=λn G st s e vs Q E R V h=>qP V h λa b v w p q h=>Z6 c R p q h
def J0{β:Type}[BEq α][LawfulBEq α]{P:α->β->Prop}{l:D (α×β)}(h:∀p∈l,P p.1 p.2){x:α}{y:β}(e:l.lookup x=I y):P x y:=by
 induction l with
 |nil=>exact aD e|cons p l a=>
  rw[gh]at e;cases q:x==p.1 with
  |true=>rw[q]at e;obtain rfl:=aK e;exact Z (eq_of_beq q)<|h p (dj ..)
  |false=>rw[q]at e;exact a (λp c=>h p<|eW _ c) e
def aat(a:dT T F X A)(c:A.handled=W):∀p∈G8 T,eD T F X A (.builtin p.1) p.2:=by refine List.forall_mem_cons.mpr ⟨Z8 a c,(List.forall_mem_cons.mpr ⟨Z' a c,(List.forall_mem_cons.mpr ⟨aaa a c,(List.forall_mem_cons.mpr ⟨aab a c,(List.forall_mem_cons.mpr ⟨aac a c,(List.forall_mem_cons.mpr ⟨aad a c,(List.forall_mem_cons.mpr ⟨aae a c,(List.forall_mem_cons.mpr ⟨aaf a c,?_⟩)⟩)⟩)⟩)⟩)⟩)⟩)⟩;refine List.forall_mem_cons.mpr ⟨aag a c,(List.forall_mem_cons.mpr ⟨aah a c,(List.forall_mem_cons.mpr ⟨aai a c,(List.forall_mem_cons.mpr ⟨aaj a c,(List.forall_mem_cons.mpr ⟨aak a c,(List.forall_mem_cons.mpr ⟨aal a c,(List.forall_mem_cons.mpr ⟨aam a c,(List.forall_mem_cons.mpr ⟨aan a c,?_⟩)⟩)⟩)⟩)⟩)⟩)⟩)⟩;exact List.forall_mem_cons.mpr ⟨aao a c,(List.forall_mem_cons.mpr ⟨aap a c,(List.forall_mem_cons.mpr ⟨aaq a c,(List.forall_mem_cons.mpr ⟨aar a c,(List.forall_mem_cons.mpr ⟨aas a c,(uR _)⟩)⟩)⟩)⟩)⟩
def aau{T:Tab}{F:au}{X:aU}{G:Gh}{j:K}{s:aM}{n:J}{A:bS}{E:bp}(a:dT T F X A)(m:A.handled=W){i:aX}{d:D CV}{k:D ah}(R:be F X G j s)(c:du F X.lv G d k)(h:aC T F X n (aP F X) G (G9 T i d j) Q E):am F.md A (c8 (.builtin i) k) Q E s:=
 h.opt λf e h=>J0 (P:=λi f=>eD T F X A (.builtin i) f) (aat a m) e n G j s d k Q E R c h
def aly:eD T F X A (.type "int") (s1 λx s=>aS (oJ x) λi=>.ok (.int i) s):=λn G st s args vs Q E R a h=>tp a h λx t h=>h.opt λi e h=>aI (RU e) λd e=>W.KIN.call_text e d<|h.ok R.tok (.r (.int _ _))
def alz:eD T F X A (.type "str") (a1 λv=>jJ v λi s=>if i.natAbs.log2<1900 then .ok (.str<|toString i) s else .C):=λn G st s e vs Q E R c h=>pb c h λa v p h=>qQ p h λi t h=>aC.ite h λhl h=>P.str_of_int (g ‹_› (by lk))<|h.ok R.tok (.r (.str _ _))
def alA:eD T F X A (.type "range") (a1 λv=>jJ v λn s=>if 0<=n/\n<1000 then .ok (.fS n) s else .C):=by exactλn G m s d o Q E R c h=>pb c h λa v p h=>qQ p h λi t h=>h.ite λe h=>call_range_1<|cB (R.r.nE {cls:=.type "range",data:=.fields #[.int 0 s.toks,.int i t,.int 1 (s.toks+1)]} U) λf j k=>h _ _ _ (j _) ⟨f,R.g,R.o⟩ (.r (.fS e.1 e.2 k))
def alB(d:dT T F X A):eD T F X A (.type "list") (a1 Ha):=by
 refineλn G x s o V Q E R f h=>pb f h λc v a h=>r9 (P:=λr=>aC T F X n (aP F X) G r Q E) h (λY h=>?_) λb e h=>?_;refine h.opt λg e h=>h.ite λj h=>?_;rw[cN,il]at j;exact d.ld _ G x s _ _ _ _ R a e j.1 j.2 λO W w L l S=>h _ _ _ (L _) l<|.r S
 refine h.ite λM h=>l6 (BF e▸a:VO F X.lv G (.lst b) v).lst_inv λy K k m z p=>?_;subst m;have q:=(R.r.fz _ _ z).1;have i:=p.length;refine call_list_seq y (.inl U) q U U (λu C N I=>?_)<|by refine Z dY ?_;simp;exact Cp M i
 clear i q z k a;exact cB (R.r.Dh N (aA _) I) λD t B=>h _ _ _ (t _) ⟨D,R.g,R.o⟩<|.r (.lst B (p.mono (t 0)))
def aav{T:Tab}{F:au}{X:aU}{G:Gh}{i:K}{s:aM}{n:J}{A:bS}{E:bp}(a:dT T F X A){k:aX}{d:D CV}{j:D ah}(R:be F X G i s)(c:du F X.lv G d j)(h:aC T F X n (aP F X) G (Hc T k d i) Q E):am F.md A (c8 (.type k) j) Q E s:=
 h.opt λf e h=>J0 (l:=Hb) (P:=λm f=>eD T F X A (.type m) f) (List.forall_mem_cons.mpr ⟨aly,List.forall_mem_cons.mpr ⟨alz,List.forall_mem_cons.mpr ⟨alA,List.forall_mem_cons.mpr ⟨alB a,uR _⟩⟩⟩⟩) e n G i s d j Q E R c h
abbrev tq0(T:Tab)(F:au)(K:bK):=∀c C x f,F.cU c=I C->T.gP c x=I f->∃q a,f=.fn q/\F.jk q=I a/\fp K (.ref C) x=I (I<|.ref a)/\FA K (.ref a)=I (.type "function")
abbrev tq1(T:Tab)(F:au)(K:bK):=∀c C x f,F.cU c=I C->T.gP c x=I f->∃q a mc,f=.fn q/\F.jk q=I a/\O9 K C mc=B/\Bg K (.ref C) mc x=I (.val<|.ref a)/\uB K (.ref C) "__getattribute__"=I (I<|.builtin "type.__getattribute__")
structure tq(T:Tab)(F:au)(K:bK):Prop where
 J1:∀q a,F.jk q=I a->rM K (.ref a)=B
 J2:∀c C,F.cU c=I C->rM K (.ref C)=B
 gt:∀c C,F.cU c=I C->T.exc c=ag->fp K (.ref C) "__getattr__"=I W
 gP:tq0 T F K
 cls:tq1 T F K
 make:∀c C,F.cU c=I C->T.exc c=ag->O' K C=B
abbrev Di(F:au)(X:aU):Gh->CV×D CV->ah×D ah->Prop:=λG p q=>VO F X.lv G p.1 q.1/\du F X.lv G p.2 q.2
noncomputable def aaw:Bg [] (.type "ValueError") (.type "type") "__init__"=I (.val<|.builtin "ValueError.__init__"):=by kernel_rfl
def aax:typeOf (.type "ValueError")=pure (.type "type"):=by kernel_rfl
noncomputable def aay:A1 (.builtin "ValueError.__init__")=true:=by rfl
noncomputable def aaz:akr "ValueError"=false:=by decide +kernel
def nL{a:aX}{P:H->aX->Prop}(e:(if x=k then I v else r)=I a)(h:P k v)(n:r=I a->P x a):P x a:=by
 by_cases q:x=k;rw[aa q]at e;exact Z q<|ax (aK e) h
 rw[u q]at e;exact n e
def aaA{P:H->aX->Prop}{a:aX}(e:vm x=I a)(c:P "lstrip" "str.lstrip")(d:P "strip" "str.strip")(f:P "lower" "str.lower")(h:P "upper" "str.upper")(i:P "split" "str.split")(j:P "join" "str.join")(k:P "find" "str.find")(m:P "isdigit" "str.isdigit")(n:P "isalnum" "str.isalnum"):P x a:=
 nL e c λe=>nL e d λe=>nL e f λe=>nL e h λe=>nL e i λe=>nL e j λe=>nL e k λe=>nL e m λe=>nL e n λe=>aD e
def aaB{a:K}(R:be F X G a s)(c:typeOf (.type T)=pure (.type "type"))(d:akr T=ag)
 (e:Bg [] (.type T) (.type "type") name=I (.val v))(f:A1 v=B)(h:Q (v,[]) {s with toks:=s.toks+1}):am F.md A (Bh (.type T) name k) Q E s:=by
 refine aL λi=>?_;obtain⟨m,j,_⟩:=R.r.top.ns;refine i<|W.method_type (h₀:={objs:=#[]}) (K:=[]) ⟨j,λb o q=>?_,dW _⟩ (λY Y q=>aD q) c d e f h
 simp[Heap.get?]at q
def aaC{s:aM}(a:fu F G y f s.heap):s.TypeIs (.ref y) "dict"/\∀b,gy y=.ref b->∃c,s.heap.get? b=I c/\c.dict=none:=by generalize e:s.heap=h at a;induction a using fu.casesOn with|s d k=>subst e;exact⟨d.typeIs,d.mapOf.noDict⟩|i d k=>subst e;exact⟨d.typeIs,d.mapOf.noDict⟩|t a1 a2=>subst e;exact⟨⟨_,a1,a2.1⟩,λb q=>Pa q▸⟨_,a1,a2.2.1⟩⟩
def aaD{T:Tab}{k:K}(R:be F X G k s)(a:VO F X.lv G p w)(h:aC T F X n (Di F X) G (vn p x k) Q E):
 am F.md A (Bh w x P) Q E s:=by
 unfold vn at h;generalize e:eP k p=z at h;induction z with
 |some Y=>
  refine h.ite λi h=>?_;subst i;refine cC (nG R.r a e) λy q z c=>?_;subst q;clear z;refine aI (aaC c) λj l=>?_;have f:Q (.builtin "dict.get",_) s:=h.ok R ⟨.r<|.blt _,.cons a .nil⟩
  with_reducible exact ke j aks xR PySem.F.type_dict_get l f
 |none=>
  induction p using CV.casesOn with
  |bY y=>
   refine aC.opt h λS e d=>?_;clear h;refine aJ (R.r.slot (CA e) nofun nofun) λL r=>?_;obtain⟨M,m,t,_⟩:=r.Cz.2;obtain rfl:w=.ref (G.ad<|.var X.lv y):=a.out;have j:s.TypeIs (.ref<|G.ad (.var X.lv y)) "list":=⟨_,t,U⟩;have b:∀v,gy (G.ad<|.var X.lv y)=.ref v->∃o,s.heap.get? v=I o/\o.dict=none:=λv e=>Pa e▸⟨_,t,U⟩;clear t m e;by_cases i:x="append";replace d:=(aa i)▸d;clear e;subst i;have f:Q (.builtin "list.append",_) s:=d.ok R ⟨.r<|.blt _,.cons a .nil⟩
   with_reducible exact ke j akt FD PySem.F.type_list_append b f
   replace d:=(u i)▸d;refine d.ite λi d=>?_;clear e;subst i;have f:Q (.builtin "list.extend",_) s:=d.ok R ⟨.r<|.blt _,.cons a .nil⟩
   with_reducible exact ke j akt akp PySem.F.type_list_extend b f
  |_=>exact h.elim
def aaE{d:bK}{C:K}(L:d0 T F d)(M:tq T F d)(R:be F X G C s)(a:VO F X.lv G ca va)(h:aC T F X n (Di F X) G (oI T ca x C) Q E):
 am F.md A (Bh va x pl) Q E s:=by
 induction ca using CV.casesOn with
 |str y=>refine aC.opt h λN e h=>aJ a.str_inv λt w=>?_;subst w;have S:∀b,Pb y t=.ref b->∃o,s.heap.get? b=I o/\o.dict=none:=λY e=>aku e;have v:Q (.builtin N,[.str y t]) s:=h.ok R ⟨.r<|.blt _,.cons a .nil⟩;clear h;revert v;refine aaA (P:=λx N=>Q (.builtin N,[.str y t]) s->am F.md A (Bh (.str y t) x pl) Q E s) e ?_ ?_ ?_ ?_ ?_ ?_ ?_ ?_ ?_;intro v;with_reducible exact ke (lU _ _ _) pX PySem.F.slot_str_lstrip PySem.F.type_str_lstrip S v;intro v;with_reducible exact ke (lU _ _ _) pX PySem.F.slot_str_strip PySem.F.type_str_strip S v;intro v;with_reducible exact ke (lU _ _ _) pX PySem.F.slot_str_lower PySem.F.type_str_lower S v;intro v;with_reducible exact ke (lU _ _ _) pX PySem.F.slot_str_upper PySem.F.type_str_upper S v;intro v;with_reducible exact ke (lU _ _ _) pX FZ PySem.F.type_str_split S v;intro v;with_reducible exact ke (lU _ _ _) pX PySem.F.slot_str_join PySem.F.type_str_join S v;intro v;with_reducible exact ke (lU _ _ _) pX PySem.F.slot_str_find PySem.F.type_str_find S v;intro v;with_reducible exact ke (lU _ _ _) pX PySem.F.slot_str_isdigit PySem.F.type_str_isdigit S v;intro v;with_reducible exact ke (lU _ _ _) pX PySem.F.slot_str_isalnum PySem.F.type_str_isalnum S v
 |int i=>
  refine aC.ite h λD h=>aJ a.int_inv λt w=>?_;subst w;subst D;have v:Q (.builtin "int.bit_length",_) s:=h.ok R ⟨.r<|.blt _,.cons a .nil⟩
  with_reducible exact ke (typeIs_int _ _ _) PySem.F.plainAttrs_int akq PySem.F.type_int_bit_length (λY e=>aku e) v
 |cell k=>
  refine aC.opt h λp e h=>h.y0 λl h=>?_;replace e:=oF e;rw[FH]at l;refine aI a.y5 λw a2=>?_;subst w;generalize hn:ay p.2 x=z at h;induction z with
  |some=>exact h.elim|none=>
   refine aC.opt h λf J h=>?_;obtain⟨o,j,es,m,b1,b2,b3,B,b5,b6,b7,b8,b9,_⟩:=sD (R.r.cells k _ e)<|.inr (L.exc▸l)
   refine fQ (M.gP _ j x f B J) λq fa w V g O=>?_;subst w;have l2:=(b9.look (m:=m) (y:=x)).2 hn;refine W.method_fn (R.r.gW L) (vY b2 b3 b5 b6 b8) (L.cls _ j B l).get (M.gt _ j B l) g O ?_<|h.ok R ⟨.r (.fn V),.cons (.r (.cell U a2)) .nil⟩
   show(uE x<|dt es m).map _=_;exact Z l2 U
 |cls c=>refine aC.opt h λf J h=>?_;obtain⟨j,rfl,hc⟩:=a.out;refine Bx (M.cls c _ x f hc J) λq fa mc w V g O f4=>?_;subst w;exact W.method_cls (R.r.gW L) f4<|W.cls_value (R.r.gW L) g O U (h.ok R.tok ⟨.r (.fn V),.nil⟩)
 |typ nm=>
  refine aC.ite h λD h=>aI D λw u=>?_;subst w;subst u;obtain rfl:va=.type "ValueError":=a.out;have v:∀H,Q (.builtin "ValueError.__init__",[]) {s with toks:=H}:=λH=>h.ok R.tok ⟨.r<|.blt _,.nil⟩;clear h
  with_reducible exact aaB R aax aaz aaw aay<|v _
 |_=>exact aaD R a h
def J3(i:bV c=B):(lS d<|k9 c a).any (·.1)=ag/\(lS d<|k9 c a).all (!·.1)=true:=by
 induction c with
 |nil=>exact⟨U,U⟩|cons e c j=>refine aL λk=>aI (v' (env:=a) i) λm n=>aI (j n) λf h=>k ?_;refine Z m ?_;unfold lS at f h⊢;exact Z fq<|Z AU (Z gc (Z f (Z h (⟨U,U⟩))))
def J4{M:m5}(k:bV c=B)(h:am M A (xI<|lS j (k9 c a)) (λd i=>Q ⟨d,[]⟩ i) E s):
 am M A (evalArgs f B (lS j<|k9 c a) []) Q E s:=by
 induction c with
 |nil=>have e:am M A (pure ([]:D ah)) (λd i=>Q ⟨d,[]⟩ i) E s:=h;exact af<|g5 h (λd i m=>dF (af (aE (af (aE (aE m)))))) λY Y x=>x
 |cons e c=>refine aI (v' (env:=a) k) λn o=>?_;rw[n]at h⊢;exact evalArgs_plain h
def Dj(c:bK)(v:ah):Prop:=(∃a,v=.ref a/\rM c v=B)\/(∃d,v=.builtin d)\/∃e,v=.type e
def aaF{c:bK}{M:m5}(h:bG)(X:c.In h/\Dj c v):∃k,(k=Keeper.frame\/k=Keeper.machine\/k=Keeper.boundFrame)/\uC M h (keeperOf v) k:=by obtain⟨X,⟨a,rfl,d⟩|⟨e,rfl⟩|⟨f,rfl⟩⟩:=X;exact W.keeps_K d h X;exact⟨.machine,.inr<|.inl U,akv U⟩;exact⟨.machine,.inr<|.inl U,akv U⟩
def aaG{f:K}{s:aM}(k:tg T F m d)(c:jo X A d)(n:F.jk q=I a)(R:aZ F X G f s)(e:du F X.lv G args j)
 (h:aH T F X (X.lv+2) (aP F X) G (ma m q args f) Q E):am F.md A (c8 (.ref a) j) Q E s:=by
 rw[JO]at h;by_cases i:args.all bj=B;rw[aa i]at h;exact uD (k X A c q a n G f s args j R (e.store i) _ h.vr);rw[u i]at h;exact h.elim
def aG.aaH{G:Gh}{i:K}(R:aG F X G i h)(Q:F.cU c=I d)(T:F.exc c=ag):
 ∃j,aG F X j {i with hp:=i.hp++[.inst c []]} ((h.push i6).push<|uS d h.objs.size)/\(∀n,Le n G j)/\VR F j (.cell i.hp.length) (.ref<|h.objs.size+1):=by
 refine⟨{G with ad:=λf=>if f=.cell i.hp.length then h.objs.size+1 else if f=.dict i.hp.length then h.objs.size else G.ad f,ow:=λb=>if b=h.objs.size+1 then .cell i.hp.length else if b=h.objs.size then .dict i.hp.length else G.ow b},?_⟩;generalize k:({G with ad:=λf=>if f=.cell i.hp.length then h.objs.size+1 else if f=.dict i.hp.length then h.objs.size else G.ad f,ow:=λb=>if b=h.objs.size+1 then .cell i.hp.length else if b=h.objs.size then .dict i.hp.length else G.ow b}:Gh)=j;have r:j.ad (.cell i.hp.length)=h.objs.size+1:=ax k<|aa U
 have s:j.ad (.dict i.hp.length)=h.objs.size:=by refine ax k ?_;show(if d8.dict i.hp.length=.cell i.hp.length then h.objs.size+1 else if d8.dict i.hp.length=.dict i.hp.length then h.objs.size else G.ad (.dict i.hp.length))=_;exact Z (u (ao · rfl))<|Z (aa U) U
 have v:j.ow (h.objs.size+1)=.cell i.hp.length:=ax k<|aa U
 have w:j.ow h.objs.size=.dict i.hp.length:=by refine ax k ?_;show(if h.objs.size=h.objs.size+1 then d8.cell i.hp.length else if h.objs.size=h.objs.size then .dict i.hp.length else G.ow h.objs.size)=_;exact Z (u TQ)<|Z (aa U) U
 have x:∀f,f≠.cell i.hp.length->f≠.dict i.hp.length->j.ad f=G.ad f:=λf S y=>by refine ax k ?_;show(if f=.cell i.hp.length then h.objs.size+1 else if f=.dict i.hp.length then h.objs.size else G.ad f)=_;exact Z (u S)<|Z (u y) U
 have p:∀b,b≠h.objs.size->b≠h.objs.size+1->j.ow b=G.ow b:=λb m l=>by refine ax k ?_;show(if b=h.objs.size+1 then d8.cell i.hp.length else if b=h.objs.size then .dict i.hp.length else G.ow b)=_;exact Z (u l)<|Z (u m) U
 have z:j.fz=G.fz:=ax k U;have t:j.tm=G.tm:=ax k U;have A:((h.push i6).push<|uS d h.objs.size).get? (h.objs.size+1)=I (uS d h.objs.size):=by have:=gx (h.push i6) (o:=uS d h.objs.size) U;rwa [rD]at this
 have E:((h.push i6).push<|uS d h.objs.size).get? h.objs.size=I W.emptyDict:=di _<|gx h U
 have P:=R.CT (G':=j) (h':=(h.push i6).push<|uS d h.objs.size) (ob:=.inst c []) (λb o e=>di _ (di _ e)) x (λb m=>p b (dP ‹_›) (dP (uv m)))
  (λb m=>by clear x s r T Q;by_cases q:b=h.objs.size+1;clear E t z m p w;subst q;exact .inr ⟨.inl v,dy A⟩;clear A v;by_cases Y:b=h.objs.size;clear t z m p q;subst Y;exact .inr ⟨.inr w,dy E⟩;exact .inl ((p b Y q).trans (R.fresh m))) z t
 clear t z p x;exact aI (P (.inst (a:=d) (es:=[]) (n:=0) (Z r v) (Z r A) U Q U (Z s U) (Z s w) (Z s E) .nil (λq=>by rw[T]at q;exact ft q))) λL M=>⟨L,M,.cell r.symm v⟩
def J5{a:K}(h:aH T F X n (aP F X) G (nz T i c args a) Q E):∃q,aH T F X n (aP F X) G (yv a.hp.length<|tb (i q (.cell a.hp.length::args) (a.hp++[.inst c []])) {a with hp:=a.hp++[.inst c []]}) Q E/\args.all bj=B/\T.gP c "__init__"=I (.fn q)/\args.length<=100:=by
 refine aL λj=>?_;by_cases e:args.length>100;unfold nz at h;rw[aa e]at h;exact h.elim;unfold nz at h;rw[u e]at h;refine j<|aH.opt h λq k h=>av (dE k) λf m o=>?_
 obtain rfl:=yw o;rw[JO]at h;by_cases d:(CV.cell a.hp.length::args).all bj=B;rw[aa d]at h;exact⟨q,h,by rw[gc,cN]at d;exact d.2,m,iM e⟩;rw[u d]at h;exact h.elim
def J6{i:K}(h:aH T F X n (aP F X) G (yv k<|tb r i) Q E)(j:Le n G m)(o:VR F m (.cell k) w0):aH T F X n (vI F) m (tb r i) (λw s=>w=.none/\Q w0 s) E:=by
 induction r using RH.casesOn with
 |C=>exact h.elim|ok v p=>refineλc w d a q f=>aH.qJ h λt h=>?_;obtain rfl:=R9 t;exact⟨f.out 0,h c w0 d (j.trans a) q<|.r (o.mono (a.down (dW _)))⟩
 |exc e p=>exactλc w d a f=>h c w d (j.trans a) f
def jo.makes(a:aW X A d)(e:D ah):jo X (A.under<|.builtin "type.__call__" ⟨.ref c::e,[]⟩) d:=
 ⟨a.fr,a.hd,by have:=a.dp;show A.depth+1+3*d<=602;exact S' this,by have:=a.un;show A.units+1+12*d<=6008;exact SY this⟩
def aaI{T:Tab}{F:au}{f:bK}{p:K}{s:aM}{d:J}{A:bS}{b:bP}{E:bp}(l:d0 T F f)(P:tq T F f)(L:tg T F b d)(i:aW X A d){c:aX}{j:bc}{n:D CV}{v:D ah}(o:T.exc c=ag)(x:F.cU c=I j)(R:aZ F X G p s)(k:du F X.lv G n v)
 (h:aH T F X (X.lv+2) (aP F X) G (nz T b c n p) Q E):am F.md A (c8 (.ref j) v) Q E s:=by
 refine aL λM=>l5 (J5 h) λq h N Z H=>fQ (P.gP c j _ _ x Z) λq' a e B V g=>?_;injection e with e;subst e;have w:=R.r.gW l;obtain⟨y,m,O,t,u⟩:=s;dsimp only at w;refine cC (R.r.aaH x<|(l.exc)▸o) λC Y S z=>?_;dsimp only at Y z;exact M<|uD (W.make_core (W.makes_of w (P.make c j x o)) (Fv w V) (λr=>ajt w r g) (.inl U) (L X _ (jo.makes i v) q a B C {p with hp:=p.hp++[.inst c []]} ⟨(y.push i6).push (uS j y.objs.size),m,O,t,u⟩ (.cell p.hp.length::n) (.ref (y.objs.size+1)::v) ⟨Y,R.g,R.o,R.t⟩ (.cons z ((k.store N).mono (S 0))) _ (J6 h (S _) z)))
def PR(T:Tab)(F:au)(X:aU)(A:bS)(cl:bP):Prop:=∀(Q E:bp)G st s c C args vs,T.exc c=B->F.cU c=I C->aZ F X G st s->du F X.lv G args vs->
 aH T F X (X.lv+2) (aP F X) G (nz T cl c args st) Q E->am F.md A (c8 (.ref C) vs) Q E s
structure kC(T:Tab)(F:au)(K:bK)(cl:bP)(d:J):Prop where
 k0:d0 T F K
 kc:tq T F K
 ks:tg T F cl d
 ne:∀X A,aW X A d->PR T F X A cl
 bl:∀X A,aW X A d->dT T F X A
def aaJ{e:bK}{p:K}{s:aM}{d:J}{A:bS}{w:bP}{Q E:bp}(i:kC T F e w d)(j:aW X A d){f:CV}{v:ah}{m:D CV}{x:D ah}(q:VO F X.lv G f v)(R:aZ F X G p s)(k:du F X.lv G m x)
 (h:aH T F X (X.lv+2) (aP F X) G (cH T w f m p) Q E):(Dj e v)/\am F.md A (c8 v x) Q E s:=by
 induction q with
 |r q=>
  induction q using VR.casesOn with
  |fn y=>exact⟨.inl ⟨_,U,i.kc.J1 _ _ y⟩,aaG i.ks j.ZI y R k h⟩|@cls c a t=>refine⟨.inl ⟨_,U,i.kc.J2 _ _ t⟩,?_⟩;generalize n:T.exc c=o;induction o using dN with|true=>exact i.ne X A j _ _ G p s _ _ _ _ n t R k h|false=>exact aaI i.k0 i.kc i.ks j n t R k h
  |blt id=>exact⟨.inr<|.inl ⟨_,U⟩,hN R (λY Y h=>aau (i.bl X A j) j.hd R.w k h) h⟩|typ b=>exact⟨.inr<|.inr ⟨_,U⟩,hN R (λY Y h=>aav (i.bl X A j) R.w k h) h⟩|_=>exact h.elim
 |_=>exact h.elim
def J7{T:Tab}{F:au}{a:bK}{X:aU}{G:Gh}{o:K}{s:aM}{d:J}{A:bS}{k:bP}{E:bp}(c:kC T F a k d)(e:bC T F k d n)(i:aW X A d){f:CV}{v:ah}{fst:D CV}{first:D ah}{m:D ai}{j:cJ}(p:bV m=B)(w:VO F X.lv G f v)(x:du F X.lv G fst first)(R:aZ F X G o s)
 (h:aH T F X (X.lv+2) (aP F X) G (M.bind (kv T k n m) (λq=>cH T k f<|fst++q) o) Q E):am F.md A (callWith j v first (lS j<|k9 m X.env) []) Q E s:=by
 refine W.callWith_of (P:=λh=>a.In h/\Dj a v) ?_ (λh=>aaF h) ?_;exact Z ((J3 p).1) U;exact J4 p<|e.es X A i m j p G o s R _ _ (h.bind (aA _) λq y S L N I r t z b=>aI (aaJ c i (w.mono r) t ((x.mono r).append z) b) λl Y=>⟨⟨t.r.gW c.k0,l⟩,Y⟩)
def aaK{a:bK}(c:kC T F a k d)(e:bC T F k d n)(i:aW X A d){f m args j}:bv T F X (X.lv+2) A (aP F X) (aB T k (n+1)<|.Call (.Name f m) args [] j) (bH (.Call (.Name f m) args [] j) X.env):=by intro G w s R Q E h;rw[Xw]at h;refine aI (aH.ite h) λo h=>?_;rw[Bi,xM]at o;exact wpAny_Call_NameR<|zg c.k0 R (h.bind (aA _) λx p y v z b l q r t=>J7 (fst:=[]) (first:=[]) c e i o.1 r .nil q t)
def aaL:backToKw a (akw [] c)=[]:=U
def Dk(a:bV es=B)(c:es.length<=20):akx (es.length+([]:D Keyword).length) (lS pos<|k9 es env) (backToKw pos<|akw [] env)=true:=by
 unfold akx;refine Z ((J3 a).2)<|Z aaL ?_
 simp;exact br ‹_› (by lk)
def aaM{c:bK}{f:K}(e:kC T F c m d)(R:aZ F X G f s)(a:VO F X.lv G i j)(h:aH T F X n (Di F X) G (oI T i x f) k E):
 am F.md A (Bh j x o) k E s:=hN R (λY Y h=>aaE e.k0 e.kc R.w a h) h
def aaN{c:bK}(e:kC T F c t d)(f:bC T F t d n)(i:aW X A d){o m q args j}(z:mi m args=W):bv T F X (X.lv+2) A (aP F X) (aB T t (n+1)<|.Call (.Attribute o m q) args [] j) (bH (.Call (.Attribute o m q) args [] j) X.env):=by
 intro G b s R Q E h;rw[Xv z]at h;refine aL λl=>aI (aH.ite h) λv h=>?_;simp only [Bi,xM,xS,aky]at v;refine aI v λr P=>?_;obtain⟨⟨Y,w⟩,V⟩:=r;refine l ?_;rewrite[Pc];refine Z (wa Y)<|af (f.e X A i o G b s R _ _ (h.bind (aA _) λa S g O K u C L M N=>af (fO ?_)))
 have k:=Dk (pos:=j) (env:=X.env) w (iM ‹_›:args.length<=20);have p:xT B o X.env q j=pure j:=by unfold xT;simp[P]
 unfold Pd;refine Z k<|af (dF (aaM e L M (N.bind (aA _) λH U G2 x s2 e2 L2 I y D=>?_)))
 obtain⟨x,first⟩:=x;exact af<|F1 p (J7 e f i w y.1 y.2 I D)
def aaO(c:bC T F cl d n)(f:aW X A d){o m b args j P}(l:mi m args=I P):bv T F X (X.lv+2) A (aP F X) (aB T cl (n+1)<|.Call (.Attribute o m b) args [] j) (bH (.Call (.Attribute o m b) args [] j) X.env):=by
 intro G K s R Q E h;rw[Xu l]at h;refine aL λY=>?_;obtain⟨S,L⟩:=aH.ite h;clear h;simp only [Bi,xM,xS,aky]at S;obtain⟨⟨⟨M,N⟩,u⟩,D⟩:=S;clear u;obtain⟨C,H,k2,p2,rfl,rfl⟩:=Sn l;clear l;obtain⟨y,z⟩:=P;refine Y ?_;rewrite[Pc];refine Z (wa M)<|af (c.e X A f o G K s R _ _ (L.bind (aA _) λa wb G1 va v e1 L1 V V1 O=>af (fO ?_)))
 have k:=Dk (es:=[.Constant (.str y) C H,.Constant (.str z) k2 p2]) (pos:=j) (env:=X.env) N<|show 2<=20 by lk
 have w:xT B o X.env b j=pure j:=by unfold xT;simp[D]
 unfold Pd;refine Z k<|aH.opt O λx e W=>W.qJ λp i=>?_
 clear O W;clear k e1 D M L Y;obtain rfl:=oE e;clear e;obtain⟨t,rfl⟩:=V1.str_inv;refine af<|dF (GM.replace (af (F1 w (callWith_builtin (by rfl) (J4 N (uL (A7 ?_) U))))))
 refine uL (A7<|A9 ?_) U;have ht:=V.t;refine A5 (show 1<=v.toks+1+1 by exact bU _ _)<|SC.replaceW (by show v.toks≠0;exact jB ‹_›) (by show v.toks+1≠0;exact TD) (by show v.toks≠v.toks+1;exact HX) ?_ (g p.2.2 (dk U)) (g (bg p.2.1) (dk U)) λt' k' hk=>?_
 refine nq Fp ?_;intro q;rw[q]at p;exact aF (p.1.symm.trans p.2.1)<|by lk
 exact i.ok (V.tok hk)<|.r (.str _ _)
structure wr(T:Tab)(F:au)(a:bK):Prop where
 own:∀d c,F.cU d=I c->T.exc d=ag->Pe a c "__class__"=B/\akz a c=B/\fp a (.ref c) "__class__"=I (I<|.builtin "object.__class__")/\pU a c (.type "object")=I B
 cg:uB a (.builtin "object.__class__") "__get__"=I (I<|.builtin "getset_descriptor.__get__")
 tk:akA a (.builtin "object.__class__")=I B
 cc:∀d c e f,F.cU d=I c->T.exc d=ag->F.cU e=I f->gz a (.ref c) (.ref f)=I (T.sub d<|.cls e)
 ct:∀d c n,F.cU d=I c->T.exc d=ag->l9 n=B->gz a (.ref c) (.type n)=I ag
 tc:∀e f n,F.cU e=I f->n∈["NoneType","bool","int","str"]->gz a (.type n) (.ref f)=I ag
def qR{P:aX->Prop}(h:l9 n=B)(a:P "int")(c:P "str")(d:P "bool")(e:P "list"):P n:=by
 unfold l9 at h;simp only [om,Ob]at h;rcases h with((h|h)|h)|h
 exact Z h a;exact Z h c;exact Z h d;exact Z h e
def aaP{a:bK}(h:l9 n=B):gz a (.type "bool") (.type n)=I (n=="bool"||n=="int"):=qR (P:=λn=>gz a (.type "bool") (.type n)=I (n=="bool"||n=="int")) h (by kernel_rfl) (by kernel_rfl) (by kernel_rfl)<|by kernel_rfl
inductive J8(T:Tab)(F:au)(a:bK)(G:Gh)(st:K)(h:bG)(c:CV)(v:ah):Prop
 |mk (t:ah) (H:bG->Prop):W.KitX a v t H->H h->v≠.builtin "__main__.__loader__#opaque"->(∀cc vc b,VR F G cc vc->je T st c cc=I b->gz a t vc=I b)->J8 T F a G st h c v
def qS{a:bK}{h:K}{t:ah}(m:∀e d,F.cU e=I d->∀b,vp T h e c=I b->gz a t (.ref d)=I b)(o:∀n b,l9 n=B->BM T h n c=I b->gz a t (.type n)=I b):
 ∀i j b,VR F G i j->je T h c i=I b->gz a t j=I b:=by
 intro i j b f e;induction f using VR.casesOn with
 |cls p=>exact m _ _ p _ e|typ n=>
  by_cases k:l9 n=B;exact o _ _ k<|(aa k).symm.trans e
  exact aD<|(u k).symm.trans e
 |_=>exact aD e
def aaQ{a:K}(e:kq T a k=I d):∃f,a.hp[k]?=I (.inst d f)/\T.exc d=false:=by
 refine aL λh=>av (dE e) λp i c=>?_;clear e;by_cases q:T.exc p.1=B;exact aD<|(aa q).symm.trans c
 obtain rfl:=aK<|(u q).symm.trans c
 exact h<|⟨p.2,oF i,by rw[FH]at q;exact q⟩
def J9{a:K}{P:Prop}(h:∃d b,je T a c d=I b)(i:∀e,vp T a e c=W)(j:∀n,BM T a n c=W):P:=by
 refine eO h λd b e=>?_;induction d using CV.casesOn with
 |cls x=>exact aD<|(i x).symm.trans e
 |typ n=>
  by_cases f:l9 n=B;exact aD<|(j n).symm.trans ((aa f).symm.trans e)
  exact aD<|(u f).symm.trans e
 |_=>exact aD e
def zB{a:bK}{f:K}(h:wr T F a)(i:n∈["NoneType","bool","int","str"]){c:CV}(j:∀e,vp T f e c=I ag)(e:aX)(d:bc)(k:F.cU e=I d)(q:vp T f e c=I b):gz a (.type n) (.ref d)=I b:=by rw[j e]at q;exact q▸h.tc e d n k i
def J'{T:Tab}{F:au}{f:bK}{X:aU}{G:Gh}{l:K}{h:bG}(M:d0 T F f)(w:wr T F f)(R:aG F X G l h){c:CV}{v:ah}(a:VO F X.lv G c v)(Q:∃N b,je T l c N=I b):J8 T F f G l h c v:=by
 replace a:=a.out;induction c using CV.casesOn with
 |none=>obtain rfl:v=.none:=a;exact⟨_,_,W.kitx_none,trivial,nofun,qS (λe i s b q=>zB w (by lk) (λY=>rfl) e i s q) λn b r q=>q▸(qR (P:=λn=>gz _ (.type "NoneType") (.type n)=I ag) r (by kernel_rfl) (by kernel_rfl) (by kernel_rfl)<|by kernel_rfl)⟩
 |bool y=>obtain rfl:v=.bool y:=a;exact⟨_,_,W.kitx_bool,trivial,nofun,qS (λe i s b q=>zB w (by lk) (λY=>rfl) e i s q) λn b r q=>q▸aaP r⟩
 |int y=>obtain⟨t,rfl⟩:=a;exact⟨_,_,W.kitx_int,trivial,nofun,qS (λe i s b q=>zB w (by lk) (λY=>rfl) e i s q) λn b r q=>q▸(qR (P:=λn=>gz _ (.type "int") (.type n)=I (n=="int")) r (by kernel_rfl) (by kernel_rfl) (by kernel_rfl)<|by kernel_rfl)⟩
 |str y=>obtain⟨t,rfl⟩:=a;exact⟨_,_,W.kitx_str,trivial,nofun,qS (λe i s b q=>zB w (by lk) (λY=>rfl) e i s q) λn b r q=>q▸(qR (P:=λn=>gz _ (.type "str") (.type n)=I (n=="str")) r (by kernel_rfl) (by kernel_rfl) (by kernel_rfl)<|by kernel_rfl)⟩
 |lst Z=>obtain⟨b,D,m,rfl,z,_⟩:=a;exact⟨_,_,W.kitx_list,⟨_,(R.fz _ _ z).1,U⟩,nofun,qS (λe i s b q=>aD q) λn b r q=>q▸(qR (P:=λn=>gz _ (.type "list") (.type n)=I (n=="list")) r (by kernel_rfl) (by kernel_rfl) (by kernel_rfl)<|by kernel_rfl)⟩
 |tup Z=>obtain⟨b,o,D,m,rfl,z,J,_,_⟩:=a;exact⟨_,_,W.kitx_tuple,⟨_,(R.fz _ _ z).1,J⟩,nofun,qS (λe i s b q=>aD q) λn b r q=>q▸(qR (P:=λn=>gz _ (.type "tuple") (.type n)=I ag) r (by kernel_rfl) (by kernel_rfl) (by kernel_rfl)<|by kernel_rfl)⟩
 |cell k=>
  refine aL λS=>aI a λA zz=>?_;subst A;rcases e:kq T l k with _|d
  exact S<|J9 Q (λx=>show(kq T l k).map _=W from e▸rfl) λn=>show(kq T l k).map _=W from e▸rfl
  refine av (aaQ e) λas B p=>?_;obtain⟨o,j,es,m,b1,V,g,E,O,u,b7,C,b9,_⟩:=sD (R.cells k _ B)<|.inr (M.exc▸p)
  refine u7 (w.own d j E p) λH o2 o3 o4=>S<|⟨_,_,W.kitx_own H o2 o3 w.cg w.tk o4,vY V g O u C,nofun,qS (λL i s b q=>?_) λn b r q=>?_⟩
  replace q:(kq T l k).map (λd=>T.sub d<|.cls L)=I b:=q;rw[e]at q;exact q▸w.cc d j L i E p s;replace q:(kq T l k).map (λY=>ag)=I b:=q;rw[e]at q;exact q▸w.ct d j n E p r
 |_=>exact J9 Q (λY=>rfl) λY=>rfl
def aaR{T:Tab}{F:au}{a:bK}{G:Gh}{i:K}{t:ah}{c:CV}(j:∀k m b,VR F G k m->je T i c k=I b->gz a t m=I b){b:bf}(h:D CV):∀{f},bn F G h f->nx T i c h=I b->W.kitAny a t f=I b:=by
 induction h with
 |nil=>intro f d e;obtain rfl:=d.out;exact e
 |cons y h n=>
  intro f d e;obtain⟨v,f,rfl,p,q⟩:=d.out;rw[BN]at e;unfold W.kitAny;generalize w:je T i c y=z at e;rcases z with _|_|_
  exact aD e;exact Z (j _ _ _ p w)<|n q e
  exact Z (j _ _ _ p w) e
def aaS{T:Tab}{a:K}{x:CV}{d:D CV}{b:bf}(e:nx T a c (x::d)=I b):∃f b,je T a c f=I b:=by
 rw[BN]at e;refine aL λh=>?_;rcases w:je T a c x with _|q
 rw[w]at e;exact aD e;exact h<|⟨_,_,w⟩
def Dl{T:Tab}{F:au}{d:bK}{X:aU}{A:bS}(q:d0 T F d)(L:wr T F d):JU T F X A:=by
 intro E G M s c r v V b Q R a w e y;have k:∀N,Q (.bool b) {s with toks:=N}:=λN=>y G _ (λY=>Le.refl _ _) R.tok;have Z:=R.r.gW q;have j:je T M c r=I b->bj r=B->am F.md A (c8 (.builtin "isinstance") [v,V]) Q E s:=λe g=>by clear y;obtain⟨t,f,h,p,l,P⟩:=J' q L R.r a ⟨_,_,e⟩;exact W.kia_one h Z p (P _ _ _ (w.store g) e) l k
 refine aL λS=>?_;clear y;induction r using CV.casesOn with
 |tup n=>
  have e:(if n.isEmpty=B then W else nx T M c n)=I b:=e;clear j;obtain⟨u,o,C,m,rfl,z,D,J,i⟩:=w.out;clear w;rcases n with _|⟨x,n⟩
  exact aD e;obtain⟨t,f,h,p,l,P⟩:=J' q L R.r a<|aaS e
  clear a;obtain⟨H,od,O,os⟩:=o;dsimp only at D J;subst D J;exact S<|W.kia_tup h Z p (R.r.fz _ _ z).1 (aaR P _ i e) l k
 |typ Pf=>exact S<|j e U
 |cls Pf=>exact S<|j e U
 |_=>exact aD e
def aG.newExc{i:K}(R:aG F X G i h)(r:D ah)(l:F.cU c=I d)(A:F.exc c=B):
 ∃j,aG F X j {i with hp:=i.hp++[.inst c []]} ((h.push<|iU r).push<|jQ d h.objs.size)/\(∀n,Le n G j)/\VR F j (.cell i.hp.length) (.ref<|h.objs.size+1):=by
 refine⟨{G with ad:=λf=>if f=.cell i.hp.length then h.objs.size+1 else G.ad f,ow:=λb=>if b=h.objs.size+1 then .cell i.hp.length else G.ow b},?_⟩;generalize k:({G with ad:=λf=>if f=.cell i.hp.length then h.objs.size+1 else G.ad f,ow:=λb=>if b=h.objs.size+1 then .cell i.hp.length else G.ow b}:Gh)=j;have s:j.ad (.cell i.hp.length)=h.objs.size+1:=ax k<|aa U
 have v:j.ow (h.objs.size+1)=.cell i.hp.length:=ax k<|aa U
 have E:∀f,f≠.cell i.hp.length->j.ad f=G.ad f:=λf P=>ax k<|u P
 have x:∀b,b≠h.objs.size+1->j.ow b=G.ow b:=λb m=>ax k<|u m
 have z:j.fz=G.fz:=ax k U;have t:j.tm=G.tm:=ax k U;have y:((h.push<|iU r).push<|jQ d h.objs.size).get? (h.objs.size+1)=I (jQ d h.objs.size):=by have:=gx (h.push<|iU r) (o:=jQ d h.objs.size) U;rwa [rD]at this
 have w:=R.CT (G':=j) (h':=(h.push<|iU r).push<|jQ d h.objs.size) (ob:=.inst c []) (λb o e=>di _ (di _ e)) (λf p Y=>E f p) (λb m=>x b (dP (uv m)))
  (λb m=>by by_cases q:b=h.objs.size+1;clear m;subst q;exact .inr ⟨.inl v,dy y⟩;exact .inl ((x b q).trans (R.fresh m))) z t
 exact aI (w (.vD (a:=d) ((s)▸v) ((s)▸y) U l U U A ⟨_,h.objs.size,U,U,U,λY=>rfl⟩)) λQ T=>⟨Q,T,.cell s.symm v⟩
def Dm{T:Tab}{F:au}{f:bK}(v:d0 T F f)(Y:tq T F f)(S:tg T F L d)(i:aW X A d):PR T F X A L:=by refineλQ E G w s c j o r n x R k h=>l5 (J5 h) λq h M N p=>fQ (Y.gP c j _ _ x N) λC a e I D B=>?_;obtain rfl:=CV.fn.inj e;have b:=R.r.gW v;have V:=v.ex c j x n;obtain⟨y,m,O,t,K⟩:=s;dsimp only at b;refine cC (R.r.newExc r x<|(v.exc)▸n) λu l P z=>?_;dsimp only at l z;exact uD<|WP b V D B (Z k.length (Z dY (g p (by lk)))) (S X _ (jo.makes i r) q a I u {w with hp:=w.hp++[.inst c []]} ⟨(y.push (iU r)).push (jQ j y.objs.size),m,O,t,K⟩ (.cell w.hp.length::o) (.ref (y.objs.size+1)::r) ⟨l,R.g,R.o,R.t⟩ (.cons z ((k.store M).mono (P 0))) _ (J6 h (P _) z))
def Dn{d:bK}(j:d0 T F d):JV T F X A:=by
 refineλE G L s k c M v x t Q R e h a r=>aI a.out λw y=>?_;clear y a;subst w
 skip
 have z:F.exc c=true:=(j.exc)▸h;obtain⟨N,o,f,m,b,l⟩:=(R.r.cells k _ e).at;obtain⟨D,J,n,p,P,S⟩:=(R.r.cells k _ e).C8 m z;refine WQ (R.r.gW j) (j.ex c f l h) m b n P (by simp[dY]) ?_;have Ka:(s.heap.push<|iU [Pb x t]).get? (G.ad<|.cell k)=I o:=di _ m;have i:=xN n (·.setIfInBounds 0 (gy s.heap.objs.size));have mz:=k8 (rE (·.setIfInBounds 0 (gy s.heap.objs.size))) Ka<|FS i
 refine r _ ⟨(R.r.push<|iU [Pb x t]).JE e (jD ..) Ka mz (OV ..) ?_ i λY=>⟨_,s.heap.objs.size,i,by simp[p],by simp[p],λq=>?_⟩,R.g,R.o⟩;exact Zp n;exact Z (aj9<|by lk)<|S q
end
section
open PySem PySem.SeqAt PySem.Calls
def aaT{M:m5}(r:A.handled=W)
 (h:am M A t (λv dq=>∃x a o f,v=.ref x/\fr.In dq.heap/\jm fr a/\dq.heap.get? x=I o/\o.cls=.ref a/\o.data=.fields f/\f[1]?=I .none/\E (.ref x) dq) E s):
 am M A (raiseStmt w (I t) W) Q E s:=by
 refine af<|g5 h (λv dq cR=>?_) λY Y x=>x
 obtain⟨x,a,o,f,rfl,y,z,i,n,p,b,q⟩:=cR;refine av z.cls λc l F=>?_;have j:=y _ _ l;obtain⟨G,e,d,P,T⟩:=dq;dsimp only at i j;have k:(gy a::c.bm).contains (.type "BaseException")=true:=by refine Z (sS F) ?_;decide +kernel
 have m:=i;obtain⟨L,N,X,S⟩:=o;dsimp only at n p;subst n p
 repeat(first|(with_reducible refine rC i ?_)|(with_reducible refine rC j ?_)|(with_reducible refine Fz j<|Z k ?_)|(with_reducible refine lQ (s:=⟨G,e,d,P,T⟩) m U b ?_)|wp_step)
 refine af<|akB (Z r ?_)
 first
  |exact Pg q|exact af<|aE (Pg q)
def aG.raised(R:aG F X G j h)(e:j.hp[k]?=I (.inst c m))(b:F.cU f=F.cU c)(S:F.exc c=B)(n:F.exc f=B)(A:F.fresh f=ag):
 aG F X G {j with hp:=j.hp.set k<|.inst f m} h:=by
 have d:=R.cells k _ e;obtain⟨E,o,a,P,_⟩:=d.at;have Q:∀{o:dw},lw F c o->lw F f o:=λ⟨L,M,N,e,f,_⟩=>⟨L,M,N,e,f,λq=>by rw[A]at q;exact ft q⟩;have p:fV F G h k (.inst f m):=by
  clear P E A e;refine d.out.elim (λz=>?_) λz=>?_;obtain⟨_,_,_,_,r,s,t,v,w,x,T,J,V,l⟩:=z;exact .inst r s t (b.trans v) w x T J V λY=>Q<|l S
  obtain⟨_,_,g,r,s,t,v,w,x,T,i⟩:=z;subst g;exact .vD r s t (b.trans v) w x n<|Q i
 refine R.y8 e (.inl E) ⟨U,λY Y=>rfl⟩ (dy P) p λy O=>⟨f,m,U,?_⟩;have:=R.eY k y O;unfold ea at this;rw[e]at this;exact this
set_option tactic.hygienic true in
def aaU(t:d0 T F c)(f:bC T F cl d n)(i:aW X A d){p:cJ}:bv T F X (X.lv+1) A (dB F) (c5 T cl (n+1)<|.Raise (I e) W p) (io (.Raise (I e) W p) X.env):=by
 intro G V s R Q E h;rw[XS]at h;rw[arm_exec_Raise];refine af<|fO (aaT (fr:=c) i.hd (af (f.e X A i e G V s R _ _ (h.bind (bM _) λa g O va u v L1 m z q=>af (fO (aE (aH.opt q λk v q=>aH.opt q λp r q=>aH.opt q λb w q=>?_)))))))
 obtain rfl:=vj v;replace r:=oF r;clear v h;refine u8 (t.up _ b w) λl P Y S C=>aI z.out λH a2=>?_;clear a2 z;subst H;have L:F.exc p.1=true:=(t.exc)▸l;obtain⟨hw,o,j,x,y,hC⟩:=(m.r.cells k _ r).at;clear hw;obtain⟨M,t0,N,d2,d3,Z⟩:=(m.r.cells k _ r).C8 x L;exact⟨_,j,o,M,U,m.r.gW t,t.ex _ j hC l,x,y,N,Z P,(q O _ u (Le.refl _ _) ⟨⟨m.r.raised r C L ((t.exc)▸Y) S,m.g,m.o,m.t⟩,k,b,p.2,U,(F3 (List.getElem?_eq_some_iff.mp r).1),⟨Y,S⟩,U,o,M,x,N,by exact cM (dk U)<|bg d2.symm,.inl<|Z P⟩)⟩
structure tv(T:Tab)(F:au)(a:bK):Prop where
 ec:∀d e c f,F.cU d=I e->F.cU c=I f->T.exc d=B->T.sub d (.cls c)=B->T.exc c=B/\pU a e (.ref f)=I B
def aaV{M:m5}(m:b.In s.heap)(p:jm b a)(n:s.heap.get? x=I o)(q:o.cls=.ref c)(r:pU b c (.ref a)=I B)(v:Q B s):
 am M A (excMatches (.ref x)<|.ref a) Q E s:=by
 refine av p.cls λe w y=>?_;have j:=m _ _ w;have L:=Fw (M:=M) m r;obtain⟨h,i,d,t,z⟩:=s;dsimp only at n j L;have k:(gy a::e.bm).contains (.type "BaseException")=true:=by refine Z (sS y) ?_;decide +kernel
 have f:=tc_notTuple;unfold excMatches
 repeat(first|(with_reducible refine rC n<|Z q ?_)|with_reducible refine rC j ?_|(with_reducible refine Fz j<|Z k ?_)|with_reducible refine L.at ?_|wp_step)
 exact v
def aaW(k:d0 T F d)(e:ai):bv T F X (X.lv+2) A (aP F X) (Hk T e) (bH e X.env):=by
 show bv T F X (X.lv+2) A (aP F X) (mh T 8 e) (bH e X.env);generalize 8=n;induction n generalizing e with
 |zero=>exactλG f s R Q E h=>h.elim|succ n m=>
  intro G f s R Q E h;replace h:aH T F X (X.lv+2) (aP F X) G ((match ve e with
   |some p=>if gk p.1=B then(mh T n p.1).bind λv=>iu T v p.2.1 else C
   |none=>(match gO e with
    |some x=>em T x|none=>C)) f) Q E:=h
  generalize q:ve e=z at h;induction z with
  |some p=>
   obtain⟨o,a,p⟩:=p;obtain rfl:e=.Attribute o a p:=lj (BC _) q;replace h:aH T F X (X.lv+2) (aP F X) G ((if gk o=B then(mh T n o).bind (λv=>iu T v a)else C) f) Q E:=h;by_cases i:gk o=B;rw[aa i]at h;rewrite[ajO];exact Z (wa i)<|af (m o G f s R _ _ (h.bind (aA _) λc t S v L M N w y b=>af (fO (af (dF (g5 (CP (Q:=Q) k w y b) (λr D l=>af (Of (aE l))) λY Y x=>x))))))
   rw[u i]at h;exact h.elim
  |none=>
   generalize P:gO e=z at h;clear m;induction z with
   |some x=>refine aJ (qe P) λp j=>?_;subst j;exact zg k R h
   |none=>exact h.elim
def aaX(o:d0 T F c):∀(d:D ai),bV d=B->bv T F X (X.lv+2) A (λG=>bn F G) (nB T d) (xI<|lS p (k9 d X.env)):=by
 intro d;induction d with
 |nil=>exactλY G n s R Q E h=>A9<|h.ok R .nil
 |cons e d q=>
  refineλr G n s R Q E h=>aI (v' (env:=X.env) r) λi j=>uL (aaW o e G n s R _ _<|h.bind (aA _) λa k t S v L M w x y=>q j t k v w _ _ (y.bind (aA _) λN z U Z I V b l P f=>?_)) i;by_cases m:bj a=B;rw[aa m]at f;exact f.ok l<|.cons ((x.mono b).store m) P
  rw[u m]at f;exact f.elim
def aaY(h:nB T c f=.ok d a):d.length=c.length:=by
 induction c generalizing f a d with
 |nil=>exact(bq ig (Internal.R.ok.inj h).1).symm|cons e c i=>
  refine d9 (zb h) λv s Y h=>d9 (zb h) λk m j h=>?_;by_cases q:bj v=B;rw[aa q]at h;exact ax (Internal.R.ok.inj h).1<|bq rr (i j)
  rw[u q]at h;exact cO Internal.R.ctorIdx h U
def aaZ(R:aZ F X G d s)(e:d.sc.names.lookup x=I .local)(h:∀f,aZ F X G (cq x .un d) f->i () f):
 am F.md A (do OP X.env x .none;unbindBehindTheSuite X.env x j) i E s:=by
 have a:=R.r.top;obtain⟨m,k,c⟩:=a.ns;refine wpAny_nameGoes_keeps (a.vG e<|dk U) k (Z a.kind U) λp v n o=>h _ ⟨R.r.Iz e c n o .un,R.g,R.o,lL _⟩
inductive Kb(T:Tab)(c x:H)(hs:D ai)(hp:cJ)(k:J)(st:K)(r:Internal.R Internal.bD):Prop
 |mk (cn:aX) (d4:K) (dn:aX) (as:D (H×SV)) (zC s2:K) (vs:D CV):em T c st=.ok (.cls cn) d4->st.sc.names.lookup x=I .local->st.hp[k]?=I (.inst dn as)->T.exc dn=B->T.sub dn (.cls cn)=B->T.gQ hp=ag->bV hs=B->hs.length<=1000->
  fU x (.v<|.cell k) st=.ok () zC->nB T hs zC=.ok vs s2->r=.ok (.ret<|.lst vs) (cq x .un s2)->Kb T c x hs hp k st r
def aa0{c:CV}(h:BY c=I x):c=.cls x:=by induction c using CV.casesOn with|cls y=>exact aK h▸rfl|_=>exact aD h
def Do{P:Internal.R β->Prop}(c:¬P .C)(h:P (aS o k)):∃x,o=I x/\P (k x):=by
 rcases o with _|x
 exact aF h c;exact⟨x,U,h⟩
def aa1{P:Internal.R Internal.bD->Prop}(e:¬P .C)(h:P (oM T c x i q (.cell k) s)):∃r,P r/\Kb T c x i q k s r:=by refine d9 (BZ (k:=λw Y=>aS (BY w) _) e h) λw j v a=>?_;clear h;refine av (Do e a) λt y h=>?_;clear a;obtain rfl:=aa0 y;refine av (Do e h) λz b a=>?_;clear h;rw[<-(show k=z from aK b)]at a;have h:=a;clear a;by_cases m:s.sc.names.lookup x=I .local;rw[aa m]at h;refine av (Do e h) λn l h=>?_;obtain⟨o,A⟩:=n;by_cases f:(T.exc o&&T.sub o (.cls t)&&!T.gQ q&&bV i&&decide (i.length<=1000))=B;rw[aa f]at h;refine d9 (BZ e h) λd p E h=>d9 (BZ e h) λF G Q h=>?_;simp only [cN,og,il]at f;exact⟨_,h,t,j,o,A,p,G,F,v,m,oF l,f.1.1.1.1,f.1.1.1.2,f.1.1.2,f.1.2,f.2,E,Q,U⟩;rw[u f]at h;exact aF h e;rw[u m]at h;exact aF h e
def aa8(f:gV F j k m a l1 h)(i:gV F n o p a r c)(d:h.names.lookup x=I .local):c.names.lookup x=I .local:=by
 have e:=f.vG d nofun;rcases i.kd x with q|⟨_,q⟩
 exact q.symm.trans e;rw[e]at q;exact am0<|aK q
def aa9{T:Tab}{F:au}(K0:d0 T F a)(HO:tv T F a)(i:aW X A d)(hf:X.isFn=B)
 (t:bv T F X (X.lv+1) A (dB F) (cb T cl n b) (xK b X.env)):
 bv T F X (X.lv+1) A (dB F) (c5 T cl (n+1)<|.Try b [.ExceptHandler (I (.Name c cp)) (I x) [.Return (I (.List hs hp)) rp] pd] [] [] p) (io (.Try b [.ExceptHandler (I<|.Name c cp) (I x) [.Return (I<|.List hs hp) rp] pd] [] [] p) X.env):=by
 intro G st s R Q E h;replace h:=XT▸h;dsimp only at h;refine wpAny_Try_except<|t G st s R _ _ ?_
 generalize hr:cb T cl n b st=lB;induction lB using Internal.R.casesOn with
 |C=>rw[hr]at h;exact h.elim|ok f y=>replace h:=hr▸h;intro V w N L1 q V1;have O:=h V w N L1 q V1;clear h t hf;induction V1 with|aO=>exact aE O|_=>exact O
 |exc v y=>
  replace h:=hr▸h;dsimp only at h;intro V w N L1 V1;clear t;obtain⟨q,k,dn,as,rfl,e,hc,rfl,fl⟩:=V1;have u:=q.r.fr.1 hf;have eL:X.env.frame.getD 0=X.env.locals:=Z u U;replace fl:=eL▸fl;clear eL u;obtain⟨r,h,cn,d4,H,as',zC,s2,vs,Kc,Dp,S,hx,z,L,gq,l,mD,M,rfl⟩:=aa1 (P:=λr=>aH T F X (X.lv+1) (dB F) G r Q E) (λh=>h.elim) h;clear L;obtain rfl:H=dn:=by rw[e]at S;replace S:=aK S;injection S with S;exact S.symm
  clear S as';refine C9 i hf q e hc.2 fl λh2 R2 f2=>zv (fr:=W) (s:={N with heap:=h2}) ⟨R2,q.g,q.o,q.t⟩ f2 λh3 R3 f3=>?_;have Kd:aZ F X V y {N with heap:=h3}:=⟨R3,q.g,q.o,q.t⟩;refine wpAny_handleBy_cons (codeAny_handlers_test<|Ix (T:=T) (st:=y) K0 Kd.w Kc λcv V4=>?_) nofun;clear f2 Kc d4 fl hc hf;obtain⟨j,rfl,hC⟩:=V4.out;obtain⟨hw,o,m,ho,qI,hD⟩:=(R3.cells k _ e).at;clear e as;refine aI (HO.ec _ m _ j hD hC hx z) λKe Y=>aaV (b:=a) (s:={N with heap:=h3}) (R3.gW K0) (K0.ex _ j hC Ke) ho qI Y<|Z (aa U) (codeAny_handlers_suite_as (zv (fr:=W) Kd f3 λh4 R4 f4=>?_))
  have RS4:aZ F X V y {N with heap:=h4}:=⟨R4,q.g,q.o,q.t⟩;refine v9 (T:=T) (n:=X.lv+2) (G:=V) (st:=y) RS4 (.v<|.cell U hw) (.inr ⟨_,U⟩)<|Z mD ?_
  intro G5 _ s5 L5 R5 _;rw[OO];refine af<|OM (OI (aaX K0 hs gq G5 zC s5 R5 _ _ (Z M ?_)))
  intro G6 ws s6 L6 R6 V6;have Kf:vs.length=hs.length:=aaY M;refine⟨by refine Z V6.length<|Z Kf (Z dY ?_);exact g l<|by lk,?_⟩;clear Kf f4 Y Ke hD qI ho hw hC f3 M mD l gq z hx H;refine cB (R6.r.nE (bO ws 0) U) λg1 g2 g3=>aE ?_;have R7:aZ F X _ s2 {s6 with heap:=s6.heap.push<|bO ws 0}:=⟨g1,R6.g,R6.o,R6.t⟩;exact aaZ R7 (aa8 q.r.top R6.r.top Dp) λs8 R8=>h _ _ s8 (((L1.trans<|L5.down (bM _)).trans<|L6.down (bM _)).trans<|g2 _) R8<|.ret (.lst g3 (V6.mono (g2 0)))
end
section
open PySem PySem.SeqAt PyProof.Rows PySem.Calls
def abc{l:D α}{f:α->β->lP (OY β)}(c:β)(h:∀x∈l,∀c,f x c=pure (.yield<|a c x)):forIn l c f=pure (l.foldl a c):=by
 induction l generalizing c with
 |nil=>rfl|cons x l d=>rewrite[akb,h x<|dj ..];exact Z eM<|d _ λy e=>h y (eW _ e)
noncomputable def qT(a:fE)(c:D (H×bc))(p:H×xP):D (H×bc):=if(p.2==.free)=B then(p.1,(a.cells.lookup p.1).getD 0)::c else c
def wt(c:fE)(a:D (H×xP)):D (H×bc):=a.foldl (qT c) []
def Kg{scope:f9}(h:∀p∈scope.names,p.2=.free->(e.cells.lookup p.1).isSome=B):closureFor scope e=pure (wt e scope.names):=by
 simp only [closureFor];rw[abc (a:=qT e) [] λx f c=>?_];rfl;obtain⟨n,k⟩:=x;unfold qT;by_cases q:(k==Ph)=B;have:=h _ f<|eq_of_beq q
 refine aJ (Option.isSome_iff_exists.mp this) λa i=>?_;rw[aa q,aa q];unfold cellOf;rw[i];rfl;rw[u q,u q]
def abd(h:a.lookup y=I .free)(v:i.cells.lookup y=I c):(wt i a).lookup y=I c:=by
 have s:∀(a:D (H×xP))(d:D (H×bc)),(d.lookup y=W\/d.lookup y=I c)->(a.lookup y=I .free\/d.lookup y=I c)->(a.foldl (qT i) d).lookup y=I c:=by
  intro a;induction a with
  |nil=>intro d _ h;rcases h with h|h;exact aD h;exact h
  |cons p r o=>
   clear h;obtain⟨n,k⟩:=p;refineλd t f=>Z eM ?_;have j:(qT i d (n,k)).lookup y=I c\/(qT i d (n,k)).lookup y=d.lookup y/\((y==n)=ag\/k≠.free):=by
    unfold qT;clear f t o r a;by_cases q:(k==Ph)=B;refine Z (aa q)<|Z gh ?_
    cases m:y==n with
    |true=>have e:y=n:=eq_of_beq m;subst e;exact Z v<|.inl U
    |false=>exact .inr ⟨U,.inl U⟩
    exact Z (u q)<|.inr ⟨U,.inr λz=>q (by exact Z z U)⟩
   clear a v;rcases j with s1|⟨s1,s2⟩
   exact o _ (.inr s1)<|.inr s1
   refine o _ (Z s1 t)<|Z s1 ?_
   clear s1 t o;rcases f with f|f
   rw[gh]at f;cases m:y==n with
   |false=>rw[m]at f;exact .inl f|true=>
    rw[m]at f;obtain rfl:=aK f;clear f;rcases s2 with s2|s2
    rw[m]at s2;exact tf s2;exact aF U s2
   exact .inr f
 exact s a [] (.inl U)<|.inl h
def Ki:(kg scope env).names.lookup y=scope.names.lookup y\/(scope.names.lookup y=I .free/\(kg scope env).names.lookup y=I .cell):=by
 have c:∀a:D (H×xP),(a.map λ(n,k)=>if(k==.free&&env.scope.kind==.function&&env.kindOf n==I .cell)=B then(n,akC)else(n,k)).lookup y=a.lookup y\/
  (a.lookup y=I .free/\(a.map λ(n,k)=>if(k==.free&&env.scope.kind==.function&&env.kindOf n==I .cell)=B then(n,akC)else(n,k)).lookup y=I .cell):=by
  intro a;induction a with
  |nil=>exact .inl U|cons p r d=>
   obtain⟨n,k⟩:=p;refine Z fq ?_;dsimp only;by_cases q:(k==Ph&&env.scope.kind==.function&&env.kindOf n==I .cell)=B;refine Z (aa q)<|Z gh (Z gh ?_)
   cases e:y==n with
   |false=>exact d|true=>rw[cN,cN]at q;exact Z (eq_of_beq q.1.1)<|.inr ⟨U,U⟩
   refine Z (u q)<|Z gh (Z gh ?_)
   cases e:y==n with|false=>exact d|true=>exact .inl U
 exact c scope.names
noncomputable def gJ(l:D (H×SV)):D (H×SV):=l.map λp=>(p.1,match p.2 with|.v c=>.v c|_=>.un)
def Dq(h:ay (gJ l) y=I d):d=.un\/∃c,d=.v c/\ay l y=I (.v c):=by
 induction l with
 |nil=>exact aD h|cons p r e=>
  obtain⟨x,a⟩:=p;replace h:ay ((x,_)::gJ r) y=_:=h;rw[RV]at h⊢;by_cases q:x=y;rw[aa q]at h⊢;clear e r;obtain rfl:=aK h;clear h;induction a with|v c=>exact .inr ⟨c,U,U⟩|_=>exact .inl U
  rw[u q]at h⊢;exact e h
noncomputable def jU(X:aU)(c:K)(a:fE):aU:={env:=a,isFn:=ag,out:=⟨X.env,c.loc,c.sc,X.isFn⟩::X.out}
def abe(a:K)(c:fE):(jU X a c).envs=X.envs:=by show(if ag=B then _ else kx (⟨X.env,a.loc,a.sc,X.isFn⟩::X.out))=X.envs;exact Z (u<|dk U) U
def aW.jU(a:aW X A d)(e:K)(c:fE):aW (jU X e c) A d:=⟨by rw[abe];exact a.fr,a.hd,a.dp,a.un⟩
def iW(t:ai):D (H×SV):=(m9 t).map λx=>(x,SV.un)
def abf{f:K}(R:aG F X G f h)(d:ew a t f=B):∀p∈a.names,p.2=.free->(X.env.cells.lookup p.1).isSome=true:=by
 intro p k m;unfold ew at d;rw[cN,Fo]at d;have:=d.2 p k;simp only [cN,om,il,Pj]at this;refine aL λj=>?_;rcases this.2 with q|q|q
 exact aF m q;obtain⟨c,o,e,_⟩:=R.top.ce _ q;exact j<|Z e U
 obtain⟨c,o,i,e,_⟩:=R.top.fr _ q;exact j<|Z e U
def zD{f:K}(h:ew d t f=B):d.kind=.function/\(∀x∈m9 t,d.names.lookup x=I .local)/\∀p∈d.names,p.2≠.cell/\(p.2=.local->d.names.lookup p.1=I .local/\(p.1∈m9 t\/ay f.loc p.1=W))/\
 (p.2=.free->f.sc.names.lookup p.1=I .cell\/f.sc.names.lookup p.1=I .free):=by
 unfold ew at h;simp only [cN,Fo,il]at h;refine aL λi=>aI h λe j=>?_;obtain⟨k,m⟩:=e;refine i<|⟨k,m,λp n=>aI (j p n) λe c=>?_⟩;obtain⟨a,b⟩:=e
 refine⟨by simpa using a,λq=>?_,λq=>?_⟩;simp only [om,Pj]at b;rcases b with b|b
 exact aF q b;simpa using b;simp only [om,Pj]at c;rcases c with c|c
 exact aF q c;simpa using c
def Dr:ay (l++r) y=(ay l y).or (ay r y):=by
 induction l with
 |nil=>rfl|cons p l d=>obtain⟨x,v⟩:=p;refine Z m6 ?_;rewrite[RV,RV];split;rfl;exact d
def Ds:ay (iW t) y=W/\y∉m9 t\/ay (iW t) y=I .un/\y∈m9 t:=by
 unfold iW;generalize m9 t=l;induction l with
 |nil=>exact .inl ⟨U,by exact dk U⟩|cons x l e=>
  show ay ((x,SV.un)::l.map λx=>(x,.un)) y=W/\_\/ay ((x,SV.un)::l.map λx=>(x,.un)) y=I .un/\_;rewrite[RV];by_cases q:x=y;exact Z (aa q)<|Z q (.inr ⟨U,by exact dj ..⟩)
  refine Z (u q) ?_;rcases e with⟨a,b⟩|⟨a,b⟩
  exact .inl ⟨a,by simp;exact⟨λz=>q z.symm,b⟩⟩;exact .inr ⟨a,by simp[b]⟩
structure wu(X:aU)(scope:f9)(env:fE):Prop where
 sc:env.scope=kg scope X.env
 ce:env.cells=wt X.env scope.names
 gl:env.globals=X.env.globals
 bl:env.builtins=X.env.builtins
def Kj{st:K}(d:gV F G h X.lv X.env st.loc st.sc)(ok:ew j t st=B)(ce:wu X j env)(lo:G.ow env.locals=.locs (X.lv+1))(la:G.ad (.locs<|X.lv+1)=env.locals)(ns:∃m,h.Ns env.locals m):
 gV F G h (X.lv+1) env (iW t++gJ st.loc) j:=by
 refine aL λhG=>cB (zD ok) λqU wx k=>hG ?_;exact{
  kd:=λy=>by have:=Ki (scope:=j) (env:=X.env) (y:=y);rw[<-ce.sc]at this;exact this
  kind:=(ce.sc)▸qU
  glob:=ce.gl.trans d.glob
  blt:=ce.bl.trans d.blt
  lo:=lo
  la:=la
  ns:=by
   clear wx qU hG la lo ce ok d;refine aJ ns λm gq=>⟨m,gq,λy hy sv e=>?_⟩;rw[Dr]at e;clear gq;rcases Ds (t:=t) (y:=y)with⟨a,b⟩|⟨a,b⟩
   rw[a]at e;rcases Dq e with q|⟨c,_,q⟩
   exact Z q<|.un
   clear e;rcases((k _<|rN hy).2.1 U).2 with w|w
   exact aF w b;rw[w]at q;exact aD q;rw[a]at e;obtain rfl:=aK e;exact .un
  ce:=λy hy=>aF U (k _<|rN hy).1
  fr:=λy hy=>by
   have e0:∀sv,ay (iW t++gJ st.loc) y=I sv->sv=.un\/∃c,sv=.v c/\ay st.loc y=I (.v c):=λsv e=>by
    rw[Dr]at e;clear hy k wx qU hG ns la lo ce ok d;rcases Ds (t:=t) (y:=y)with⟨a,b⟩|⟨a,b⟩
    rw[a]at e;exact Dq e;rw[a]at e;obtain rfl:=aK e;exact .inl U
   have f:∀{c:bc},X.env.cells.lookup y=I c->env.cells.lookup y=I c:=λhc=>Z ce.ce<|abd hy hc
   clear wx qU hG ns la lo ok;rcases(k _<|rN hy).2.2 U with q|q
   clear hy k;obtain⟨c,o,e2,e3,e4,r⟩:=d.ce y q;refine⟨c,o,X.lv,f e2,gb _,e3,e4,λsv e=>?_⟩;clear e4 e3 e2 f c q ce d;rcases e0 sv e with w|⟨cv,rfl,w⟩
   exact .inl w;have r2:=r _ w;clear r;clear e0 w e;cases r2 with
   |s r3=>cases r3 with|v r4=>exact .inr ⟨cv,_,U,U,r4⟩
   clear hy k ce;obtain⟨c,o,i,e2,hi,e3,e4,r⟩:=d.fr y q;refine⟨c,o,i,f e2,uv hi,e3,e4,λsv e=>?_⟩;clear hi e4 e3 e2 f c q d;rcases e0 sv e with w|⟨cv,rfl,w⟩
   exact .inl w;clear i e0 e;rcases r _ w with r|⟨cv',x,r1,r2,r3⟩
   clear w t;exact cO SV.ctorIdx r U;obtain rfl:=SV.v.inj r1;exact .inr ⟨cv,x,U,r2,r3⟩
  own:=λy sv e=>by
   rw[Dr]at e;clear k wx qU hG ns la lo ce ok d;rcases Ds (t:=t) (y:=y)with⟨a,b⟩|⟨a,b⟩
   rw[a]at e;rcases Dq e with q|⟨c,q,_⟩
   exact .inr<|.inl q
   exact .inl ⟨c,q⟩;rw[a]at e;obtain rfl:=aK e;exact .inr<|.inl U}
def Kk{d:K}(R:aG F (jU X d c) G e h)(f:ew a t d=B)(i:wu X a c):aG F (jU X d c) G ⟨iW t++gJ d.loc,e.hp,a⟩ h:=by obtain⟨m,j,_⟩:=R.top.ns;exact⟨R.sys,R.ey,R.fz,R.tm,R.lt,R.cells,R.fH,R.eY,Kj R.out.1 f i R.top.lo R.top.la ⟨m,j⟩,R.out,R.fr⟩
def abg{T:K}(R:aZ F X G T s){M:m5}(ok:ew e t T=B)
 (hq:∀d v s',d.locals=s.heap.objs.size->(∀n,Le n G v)->wu X e {d with scope:=kg e X.env}->aZ F (jU X T {d with scope:=kg e X.env}) v ⟨iW t++gJ T.loc,T.hp,e⟩ s'->Q d s'):
 am M A (FV e X.env.globals (wt X.env e.names) [] X.env.qual W .none<|I X.env) Q E s:=by
 refine aL λr=>cB (zD ok) λH wx N=>r<|akD (λp hp=>(N p hp).1) (dk U) (λcR S hsb=>?_) H
 generalize f:newEnv _ _ _ _ _ _ _ _ _=d;have O:d.locals=s.heap.objs.size:=ax f U;have eG:d.globals=X.env.globals:=ax f U;have eB:d.builtins=X.env.builtins:=ax f U;have eC:d.cells=wt X.env e.names:=ax f U;have m:∀b o,s.heap.get? b=I o->cR.get? b=I o:=λb o q=>(hsb.2 b<|dP (jy q)).trans<|di _ q
 generalize r:({G with ad:=λa=>if a=.locs (X.lv+1)then s.heap.objs.size else G.ad a,ow:=λb=>if b=s.heap.objs.size then .locs (X.lv+1)else G.ow b}:Gh)=v;have x:∀a,a≠.locs (X.lv+1)->v.ad a=G.ad a:=λa hO=>ax r<|u hO
 have lA:v.ad (.locs<|X.lv+1)=s.heap.objs.size:=ax r<|aa U
 have P:v.ow s.heap.objs.size=.locs (X.lv+1):=ax r<|aa U
 have l:∀b,b≠s.heap.objs.size->v.ow b=G.ow b:=λb V=>ax r<|u V
 have z:v.fz=G.fz:=ax r U;have t':v.tm=G.tm:=ax r U;have g:∀b,G.ow b≠.none->v.ow b=G.ow b:=λb V=>l b λq=>V (Z q (R.r.fresh (aA _)));have L:∀n,Le n G v:=λn=>by refine⟨λb o q=>by refine Z z ?_;exact q,λk q=>⟨x _ (ao · rfl),?_⟩,λk y q=>⟨x _ (ao · rfl),?_⟩,λj y Y=>x _ (ao · rfl),λb i o q Y=>(t')▸q⟩;exact Z (g _<|by rw[q];simp) q;rw[g _<|by rw[q];simp];exact q
 have C:Tr (λa=>a=.locs (X.lv+1)) G v s.heap cR:=⟨λb o q Y=>m b o q,λb V Y=>g b V,λa hO=>x a hO⟩;have top:=R.r.top;have ce:wu X e {d with scope:=kg e X.env}:=⟨U,eC,eG,eB⟩;refine hq d v _ O L ce ⟨(⟨R.r.sys,λb o q=>(L 0).fz _ _<|R.r.ey b o q,λb o q=>?_,λb p q=>?_,λb q=>?_,λk ob q=>(R.r.cells k ob q).tr C (L 0) (ao · rfl) (ao · rfl) λY h=>ao h U,λk q=>?_,λk y q=>?_,?_,?_,?_⟩),R.g,R.o,R.t⟩;rw[z]at q;have:=R.r.fz b o q;exact⟨m _ _ this.1,(g b<|by rw[this.2];simp).trans this.2⟩;rw[t']at q;have:=R.r.tm b p q;exact⟨m _ _ this.1,(g b<|by rw[this.2];simp).trans this.2⟩;refine aL λr=>?_;by_cases w:b=s.heap.objs.size;refine nr S λzz zz zz ho zz=>r ?_;rw[w];exact dy ho;rw[l b w]at q;exact r<|qz m (R.r.lt b q)
 rw[x _ (ao · rfl)]at q;refine aL λr=>?_;by_cases w:G.ad (.cell k)=s.heap.objs.size;rw[w,P]at q;exact ao q U;rw[l _ w]at q;exact r<|R.r.fH k q
 rw[x _ (ao · rfl)]at q;refine aL λr=>?_;by_cases w:G.ad (.attr k y)=s.heap.objs.size;rw[w,P]at q;exact ao q U;rw[l _ w]at q;exact r<|R.r.eY k y q
 exact Kj (top.tr C (L 0) (by simp) (by intro i y hi;simp) λy=>.inl<|by simp) ok ce (by show v.ow d.locals=_;exact(O)▸P) (by show _=d.locals;exact(O)▸lA) ⟨_,(by show cR.Ns d.locals _;exact(O)▸S)⟩;refine⟨?_,?_⟩;exact R.r.top.tr C (L 0) (by show¬(d8.locs X.lv=.locs (X.lv+1));simp) (by intro i y hi;simp) λy=>.inl (ao · rfl);exact R.r.out.tr C (L 0) λi hi=>⟨by simp;exact dP<|uv hi,(by intro y;simp),by intro y;simp⟩;refine⟨λq=>(ft q),λc hg=>aL λr=>?_⟩;rcases List.mem_cons.mp hg with rfl|hg
 exact r λq=>R.r.fr.1 q;exact r<|R.r.fr.2 c hg
def c7(T:Tab)(f:bP)(n:J)(e t:ai)(d:D ai)(a:f9):CV->M (al CV):=λx=>λs=>match jM t x s.loc with
 |none=>.C
 |some l=>match((match d with
  |[]=>M.pure B
  |c::_=>(aB T f n c).bind bx:M bf).bind λq=>if q=B then(aB T f n e).bind λv=>if bj v then M.pure (I v)else C else M.pure W) {s with loc:=l,sc:=a} with
  |.ok v h=>.ok v {h with loc:=s.loc,sc:=s.sc}|_=>.C
def ty(T:Tab)(d:bP)(n:J)(e:ai)(a:D ai):M (al CV):=(match a with
 |[]=>M.pure B|c::_=>(aB T d n c).bind bx:M bf).bind λq=>if q=B then(aB T d n e).bind λv=>if bj v then M.pure (I v)else C else M.pure W
set_option tactic.hygienic true in
def abi(h:c7 T f n e t d a x s=.ok o i):
 ∃l c,jM t x s.loc=I l/\ty T f n e d {s with loc:=l,sc:=a}=.ok o c/\i={c with loc:=s.loc,sc:=s.sc}:=by
 unfold c7 at h;refine aL λj=>?_;rcases k:jM t x s.loc with _|l;rw[k]at h;exact ly h;rw[k]at h;dsimp only at h;generalize m:ty T f n e d {s with loc:=l,sc:=a}=z at j;have q:=m;unfold ty at q;rw[q]at h;induction z using Internal.R.casesOn with
 |C=>exact ly h|exc _ _=>exact ly h|ok v c=>obtain⟨rfl,rfl⟩:=Internal.R.ok.inj h;exact j<|⟨l,c,k,m,U⟩
def Kl{e t f c a p}:aB T i (n+1) (.ListComp e [⟨t,f,c,0⟩] a p)=if decide (n<4)||decide (c.length>1)||ql f then C elseλs=>if !ew a t s then .C else((aB T i n f).bind λj=>λs=>match gG s j with
 |none=>.C
 |some d=>if ew a t s then(match cW (c7 T i n e t c a) d s with
  |.ok l h=>if l.length<=1000 then .ok (.lst l) h else .C
  |.exc x h=>.exc x h|.C=>.C)else .C) s:=by rfl
def Dt:ay ((x,v)::l) x=I v:=aa U
def abj(h:y≠x):ay ((y,v)::l) x=ay l x:=u h
def Du:bN ((x,v)::l) x w=(x,w)::l:=aa U
def Km(h:y≠x):bN ((y,v)::l) x w=(y,v)::bN l x w:=u h
def abk(A:4<=n)(h:∀y∈m9 t,d.names.lookup y=I .local)(o:jM t x f=I l):
 dm T E n t (.v x) ⟨iW t++gJ f,j,d⟩=.ok () ⟨l,j,d⟩:=by
 obtain⟨m,rfl⟩:∃m,n=m+4:=⟨n -4,by exact(n7 A).symm⟩;clear A;cases Sl o with
 |n y p e F r=>
  clear F o;subst e r;refine Z v7<|(zn (x:=y) (s:=⟨(y,.un)::gJ f,j,d⟩) (by exact Z Dt U) (h y (dj ..))).trans ?_
  show R.ok () (K.mk (bN ((y,.un)::gJ f) y<|.v x) j d)=_;exact Z Du U
 |t y z G P k c a b e ev i Q w r=>
  clear w Q o;subst e ev r;have X:=h y<|.tail _ (.head _)
  have Y:=h z<|.head _
  have S:=zn (x:=y) (v:=.v a) (s:=⟨(z,.un)::(y,.un)::gJ f,j,d⟩) (Z (abj λq=>i q.symm)<|Z Dt U) X;have L:=zn (x:=z) (v:=.v b) (s:=cq y (.v a) ⟨(z,.un)::(y,.un)::gJ f,j,d⟩) (by unfold cq;exact Z (Km λq=>i q.symm)<|Z Dt U) Y;refine Z Jm ?_;show iS T E (m+3) [.Name y G,.Name z P] [SV.v a,.v b] ⟨(z,.un)::(y,.un)::gJ f,j,d⟩=_;refine Z zd<|Z v7 (Z (jT S) (Z zd (Z v7 (Z (jT L) ?_))))
  unfold cq;exact Z (Km λq=>i q.symm)<|Z Du (Z Du U)
def abl(a:bC T F cl d n)(JS:dR T F cl d n)(f:aW X A d)(hn:4<=n){s1:K}{Q2:aM->Prop}(hi:k.length<=1)
 (p:∀y∈m9 t,i.names.lookup y=I .local)(R0:aZ F X G ⟨iW t++gJ loc,hp,i⟩ s)(hb:jM t x loc=I l)(h:ty T cl n e k ⟨l,hp,i⟩=.ok o s1)(Vx:VR F G x v)
 (Kn:∀w G' xv s',o=I w->Le (X.lv+2) G G'->aZ F X G' s1 s'->VR F G' w xv->Qe xv s')(zE:o=none->∀G' s',Le (X.lv+2) G G'->aZ F X G' s1 s'->Q2 s'):
 am F.md A (i7 t X.env v) (λY o9=>am F.md A (forIn k B λc r=>if r=B then do let ok<-pV c X.env (bH c X.env);pure (akE ok)else pure (akE r))
  (λok iT=>if ok=B then am F.md A (bH e X.env) Qe E iT else Q2 iT) E o9) E s:=by
 refine JS.a X A f t G _ s (.v x) v R0 (.v Vx) _ _<|Z (abk hn p hb) ?_
 intro G2 _ s2 L2 R2 _;have z:Le (X.lv+2) G G2:=L2;have P:∀(sa:K)(Q:Gh)(S:aM),Le (X.lv+2) G Q->aZ F X Q sa S->((aB T cl n e).bind λv=>if bj v then M.pure (I v)else C) sa=.ok o s1->am F.md A (bH e X.env) Qe E S:=by
  refineλsa Q S L3 R3 j=>a.e X A f e Q sa S R3 _ _ ?_;unfold M.bind at j;generalize m:aB T cl n e sa=L;induction L using Internal.R.casesOn with
  |C=>rw[m]at j;cases j
  |exc _ _=>rw[m]at j;cases j
  |ok w sb=>
   replace j:=m▸j;dsimp only at j;clear zE h hb p hi hn;by_cases hs:bj w=B;rw[aa hs]at j;obtain⟨rfl,rfl⟩:=Internal.R.ok.inj j;exactλG4 xv s4 L4 R4 V4=>Kn w G4 xv s4 U (L3.trans L4) R4<|V4.store hs
   rw[u hs]at j;exact ly j
 clear Kn hb p hn;induction k using bk with
 |nil=>exact wpAny_tests_nil<|Z (aa U) (P _ G2 s2 z R2 h)
 |cons c rest=>
  induction rest using bk with
  |cons _ _=>simp at hi|nil=>
   refine wpAny_tests_one<|a.t X A f c G2 _ s2 R2 _ _ ?_
   unfold ty at h;dsimp only at h;generalize hm:M.bind (aB T cl n c) bx=mt at h⊢;unfold M.bind at h;generalize m:mt ⟨l,hp,i⟩=L;induction L using Internal.R.casesOn with
   |C=>rw[m]at h;cases h
   |exc _ _=>rw[m]at h;cases h
   |ok q sb=>
    replace h:=m▸h;dsimp only at h;intro Q b S L3 R3 V3;have V3:q=b:=V3;clear hi;subst V3;induction q using dN with
    |true=>exact Z (aa U)<|P _ Q S (z.trans L3) R3 h
    |false=>refine Z (u<|by lk) ?_;have h:M.pure (none:al CV) sb=.ok o s1:=h;clear P;obtain⟨rfl,rfl⟩:=Internal.R.ok.inj h;exact zE U Q S (z.trans L3) R3
noncomputable def Gh.kD(G:Gh)(i:J)(a:bc)(o:dw):Gh:={G with tm:=λb=>if b=a then I (i,o)else G.tm b}
def aG.kD{s:K}(R:aG F X G s h)(n:G.tm c=I (i,o))(f:fN c h r)(t:r.get? c=I d):
 aG F X (G.kD i c d) s r/\Le 0 G (G.kD i c d)/\(G.kD i c d).tm c=I (i,d):=by
 have m:=R.tm c _ n;have L:Le 0 G (G.kD i c d):=⟨λY Y e=>e,λY e=>⟨U,e⟩,λY Y e=>⟨U,e⟩,λY Y e=>aF e yO,λY Y Y Y e=>aF e yP⟩;have j:Tr (λa=>a=.gU) G (G.kD i c d) h r:=⟨λb o q v=>(f.2 b λz=>v ((z)▸m.2)).trans q,λb Y v=>rfl,λa Y=>rfl⟩;refine⟨⟨R.sys,R.ey,λb d q=>?_,λb p q=>?_,λb q=>?_,λk w q=>?_,R.fH,R.eY,?_,?_,R.fr⟩,L,aa U⟩;have:=R.fz b d q;exact⟨(f.2 b λz=>by rw[z,m.2]at this;exact ao this.2 U).trans this.1,this.2⟩;change(if b=c then _ else G.tm b)=_ at q;clear n;by_cases z:b=c;clear j L f;rw[aa z]at q;obtain rfl:=aK q;subst z;exact⟨t,m.2⟩;rw[u z]at q;exact⟨(f.2 b z).trans (R.tm b p q).1,(R.tm b p q).2⟩;clear m n;by_cases z:b=c;clear j L;clear q o f;subst z;exact dy t;exact(f.2 b z)▸R.lt b q;exact(R.cells k w q).tr j L (ao · rfl) (ao · rfl) λY h=>ao h U;exact R.top.tr j L (ao · rfl) (by intro i y _;simp) λy=>.inl (ao · rfl);exact R.out.tr j L λi Y=>⟨by exactλh=>ao h U,(by intro y;simp),by intro y;simp⟩
def Le.kD(L:Le n G c)(f:∀p,G.tm d≠I p):Le n G (c.kD i d o):=by refine⟨L.fz,L.cell,L.attr,L.var,λa j h e k=>?_⟩;show(if a=d then _ else c.tm a)=_;exact Z (u λq=>by subst q;exact f _ e)<|L.tm a j h e k
def abm{F:au}{f:K}(R:aZ F X G f s)(h:G.tm a=I (i,bO c m))(n:c.length<=1000)
 (o:∀d j,aZ F X (G.kD i a<|bO (c++[v]) d) f j->Q .none j):am F.md A (c8 (.builtin "list.append") [.ref a,v]) Q E s:=by
 have e:=(R.r.tm _ _ h).1;refine uF FD ⟨_,e,U⟩ Oz (OA _ _) (OB _ c.toArray m v<|by refine Z dY ?_;simp;exact g ‹_› (by lk)) ⟨e,?_⟩;clear n;refine aJ (v5 c m (λx=>x.push v) (c++[v])<|by simp) λd k=>?_;have:=k8 (rF λx=>x.push v) e<|Z k U
 rw[k]at this;exact o d _ ⟨(R.r.kD h (jD ..) this).1,R.g,R.o,R.t⟩
def aG.abn{c:K}(R:aG F (jU X c d) G a h):aG F X G {c with hp:=a.hp} h:=
 ⟨R.sys,R.ey,R.fz,R.tm,R.lt,R.cells,R.fH,R.eY,R.out.1,R.out.2,⟨λq=>R.fr.2 _ (dj ..) q,λf e=>R.fr.2 f<|eW _ e⟩⟩
def abo(e:dK F G o l)(f:s.heap.get? i=I o)(h:Q (.ref i) s):am F.md A (FR<|.ref i) Q E s:=by cases e with|l a b c d=>exact wpAny_pyIter_listiter ⟨o,f,a,b⟩ h|t a b c j k d=>exact wpAny_pyIter_tupleiter ⟨o,f,a,b⟩ h|sa a b=>exact wpAny_pyIter_striter_ascii ⟨o,f,a,b⟩ h|sw a b=>exact wpAny_pyIter_striter_wide ⟨o,f,a,b⟩ h|r a b=>exact wpAny_pyIter_rangeiter f h
def Le.Ko(h:G.ow d=.gU):Le 0 G (G.gp d):=by
 have c:∀b,b≠d->(G.gp d).ow b=G.ow b:=λb i=>u i;have f:∀{b a},G.ow b=a->a≠.gU->b≠d:=λ{b a}e j q=>by subst q;rw[h]at e;exact j e.symm
 exact⟨λY Y e=>e,λk e=>⟨U,(c _<|f e (ao · rfl)).trans e⟩,λk y e=>⟨U,(c _<|f e (ao · rfl)).trans e⟩,λY Y e=>aF e yO,λY Y Y Y e=>aF e yP⟩
inductive Dv(T:Tab)(F:au)(cl:bP)(n:J)(e t:ai)(ifs:D ai)(scope:f9)(X':aU)(G0:Gh)(it a:bc)(st sE:K)(L:D CV)(lv m:J)(s:aM):Prop
 |mk (G':Gh) (nM:D aQ) (o':dw) (l done:D CV) (ws:D ah) (k:J) (l2:D CV):l.length=m->Le (lv+3) G0 G'->aZ F X' G' ⟨iW t++gJ st.loc,nM,scope⟩ s->G'.tm it=I (0,o')->dK F G' o' l->G'.tm a=I (lv+2,bO ws k)->bn F G' done ws->
  cW (c7 T cl n e t ifs scope) l ⟨st.loc,nM,st.sc⟩=.ok l2 sE->done++l2=L->Dv T F cl n e t ifs scope X' G0 it a st sE L lv m s
def Dw(T:Tab)(F:au)(h:bP)(n:J)(e t:ai)(d:D ai)(c:f9)(i:aU)(j:Gh)(k a:bc)(o p:K)(L:D CV)(q m:J)(s:aM):Prop:=∃f,f<m/\Dv T F h n e t d c i j k a o p L q f s
def abp{o:K}{B:K}{v:D CV}{k:J}{q:D ah}{x:dw}{y:D aQ}{w:CV}{r:ah}{W:bp}
 (V:aZ F N f ⟨iW t++gJ o.loc,y,d⟩ s)(z:X≠a)(b:∀p,S.tm a≠I p)(i:f.tm a=I (E+2,bO q k))(G:f.tm X=I (0,x))(C:Le (E+3) S f)(H:dK F f x l)(g:bn F f done q)(R:VR F f w r)
 (h:cW (c7 T cl n e t P d) l ⟨o.loc,y,o.sc⟩=.ok v B)(hd:done++w::v=L)(hm:l.length<m)(Q:done.length<=1000):
 am F.md A (c8 (.builtin "list.append") [.ref a,r]) (λY M=>Dw T F cl n e t P d N S X a o B L E m M) W s:=by
 have j:=g.length;refine abm V i (Z j Q) λO M R5=>?_;have q0:=V.r.tm _ _ i;have c:Le 0 f (f.kD (E+2) a<|bO (q++[r]) O):=⟨λY Y e=>e,λY e=>⟨U,e⟩,λY Y e=>⟨U,e⟩,λY Y e=>aF e<|n6 _,λY Y Y Y e=>aF e<|n6 _⟩;refine⟨l.length,hm,_,y,x,l,done++[w],q++[r],O,v,U,C.kD b,R5,(u z).trans G,H.mono c,aa U,(g.append<|.cons R .nil).mono c,h,?_⟩;rw[db];exact hd
def abq(h:Internal.R.ok a s=.ok b d):a=b/\s=d:=aI (Internal.R.ok.inj h) λe f=>⟨e,f⟩
def abr{s f:K}(h:cW a (x::l) s=.ok r f):∃e c d,a x s=.ok e c/\cW a l c=.ok d f/\r=(match e with|some v=>v::d|none=>d):=by
 rw[yF]at h;generalize m:a x s=i at h;induction i using Internal.R.casesOn with
 |ok e c=>
  dsimp only at h;generalize j:cW a l c=k at h;induction k using Internal.R.casesOn with
  |ok d s2=>obtain⟨rfl,rfl⟩:=abq h;exact⟨e,c,d,U,j,U⟩
  |_=>exact nomatch h
 |_=>exact ly h
def abt{z:K}(a:bC T F cl d n)(JS:dR T F cl d n)(c:aW (jU X z y) A d)(hn:4<=n){G1:Gh}{f:bc}{o:dw}{L:D CV}{kE:D aQ}{sE:K}{Rr:pK->aM->Prop}
 (hi:N.length<=1)(ok:ew i t z=B)(ce:wu X i y)(H:S≠f)(Dx:∀p,G0.tm S≠I p)(Dy:∀p,G0.tm f≠I p)(L1:Le (X.lv+3) G0 G1)
 (R1:aZ F (jU X z y) G1 ⟨iW t++gJ z.loc,kE,i⟩ s)(ti:G1.tm S=I (0,o))(I1:dK F G1 o b)(td:G1.tm f=I (X.lv+2,bO [] 0))
 (hc:cW (c7 T cl n e t N i) b ⟨z.loc,kE,z.sc⟩=.ok L sE)(hL:L.length<=1000)
 (zF:∀G' s' ws k,Le (X.lv+3) G0 G'->sE.loc=z.loc->sE.sc=z.sc->aZ F (jU X z y) G' ⟨iW t++gJ z.loc,sE.hp,i⟩ s'->G'.tm f=I (X.lv+2,bO ws k)->bn F G' L ws->Rr (.ok .next) s'):
 k7 F.md A (.compLoop (.ListComp e [⟨t,iter,N,0⟩] i pos) 0 (.ref S) (.ref f) y) Rr s:=by
 have H':=c;generalize hX:jU X z y=X' at H';have R:X'.lv=X.lv+1:=ax hX U;have Dz:X'.env=y:=ax hX U;refine codeAny_loop U (Dv T F cl n e t N i X' G0 S f z sE L X.lv) ?_ b.length ⟨G1,kE,o,b,[],[],0,L,U,L1,by exact(hX)▸R1,ti,I1,td,.nil,hc,U⟩;intro m s2 hI;clear hc td ti;obtain⟨G2,pd,o2,l,done,ws,k,l2,hl,L2,W,Q,I2,DA,V2,zH,M⟩:=hI;refine aka ?_;rw[compTurn_list];refine af<|fO (af ?_)
 rcases l with _|⟨x,l⟩
 clear hl Dz R hL Dy ce ok hi hn;refine aI (aI (Internal.R.ok.inj zH) λh1 h2=>⟨h1,h2⟩) λcy vT=>?_;subst cy;subst vT;rw[eN]at M;clear zH;subst M;refine JB c.hd W Q I2 λC he=>aE<|aI (W.r.gp Q he) λr1 r2=>?_
 have hD:(G2.gp S).tm f=I (X.lv+2,bO ws k):=(u λq=>H q.symm).trans DA;exact zF _ _ ws k (r2 L2 Dx) U U ((hX)▸⟨r1,W.g,W.o,W.t⟩) hD<|V2.mono (Le.Ko (W.r.tm _ _ Q).2)
 refine l6 (abr zH) λow s3c l3 ht G kG=>fP (abi ht) λabu s1c hb O hs3=>?_;subst hs3;clear zH ht zF;refine JA W Q I2 λv o' C tk gX h I' ho ye=>cB (W.r.iB Q ye ho) λr1 r2 r3=>?_;have R3:aZ F X' (G2.iB S o') ⟨iW t++gJ z.loc,pd,i⟩ {s2 with heap:=C,toks:=tk}:=⟨r1,W.g,W.o,gX⟩;have DB:(G2.iB S o').tm f=I (X.lv+2,bO ws k):=(u λq=>H q.symm).trans DA;have L3:Le (X.lv+3) G0 (G2.iB S o'):=L2.JH Dx;refine af (Jy (I'.mono r2) ho ?_);have hm:l.length<m:=(hl)▸gb _;have P:=abl (E:=oi F.md A y λe s'=>Rr (.error e) s') a JS H' hn hi (zD ok).2.1 R3 hb O (h.mono r2)
  (Qe:=λxv s4=>am F.md A (c8 (.builtin "list.append") [.ref f,xv]) (λY s5=>Dw T F cl n e t N i X' G0 S f z sE L X.lv m s5) (oi F.md A y λe s'=>Rr (.error e) s') s4)
  (Q2:=Dw T F cl n e t N i X' G0 S f z sE L X.lv m)
  (λw G4 xv s4 ho L4 R4 V4=>by
   have j:Le (X.lv+3) (G2.iB S o') G4:=by rw[R]at L4;exact L4
   refine abp (hX▸Kk (hX.symm▸R4).r ok ce|>λq=>⟨q,R4.g,R4.o,R4.t⟩) H Dy (j.tm _ _ _ DB (gb _)) (j.tm _ _ _ r3 (lL _)) (L3.trans j) ((I'.mono r2).mono j) ((V2.mono r2).mono j) V4 G ?_ hm ?_;exact ax M (Z kG (Z ho U));have hL:=hL;rw[<-M,aN]at hL;exact g (cx _ _) hL)
  (λho G4 s4 L4 R4=>by
   have j:Le (X.lv+3) (G2.iB S o') G4:=by rw[R]at L4;exact L4
   exact⟨l.length,hm,G4,s1c.hp,o',l,done,ws,k,l3,U,L3.trans j,(hX▸Kk (hX.symm▸R4).r ok ce|>λq=>⟨q,R4.g,R4.o,R4.t⟩),j.tm _ _ _ r3 (lL _),(I'.mono r2).mono j,j.tm _ _ _ DB (gb _),(V2.mono r2).mono j,G,by exact ax M (Z kG (Z ho U))⟩)
 replace P:=Dz▸P;refine af (g5 P (λY o9 hP=>af (g5 hP (λokb iT sR=>?_) λY Y C=>C)) λY Y C=>C);clear hP o9 P hm DB r3 ye ho gX O hb abu kG G l3 ow r2 r1 M DA Q hl l2 k Dz R hL Dy Dx H ce ok hi hn;rcases okb with _|_
 exact aE ⟨U,sR⟩;exact af (af (g5 sR (λx lz ta=>af (g5 ta (λY alV aby=>aE (aE ⟨U,aby⟩)) λY Y C=>C)) λY Y C=>C))
def aG.abz{E:K}(R:aG F X G E h)(x:G.ow a=.locs j)(S:X.lv<j)(P:h.get? a=I o):
 ∃d,aG F X d E h/\(∀n,Le n G d)/\d.tm a=I (0,o)/\∀b,b≠a->d.tm b=G.tm b:=by
 refine⟨{G with ow:=λb=>if b=a then .gU else G.ow b,tm:=λb=>if b=a then I (0,o)else G.tm b},?_⟩;generalize m:({G with ow:=λb=>if b=a then .gU else G.ow b,tm:=λb=>if b=a then I (0,o)else G.tm b}:Gh)=d;have l:d.ow a=.gU:=ax m<|aa U
 have f:∀b,b≠a->d.ow b=G.ow b:=λb s=>ax m<|u s
 have Q:d.tm a=I (0,o):=ax m<|aa U
 have v:∀b,b≠a->d.tm b=G.tm b:=λb s=>ax m<|u s
 have z:d.fz=G.fz:=ax m U;have r:d.ad=G.ad:=ax m U;have t:∀{b c},G.ow b=c->(∀i,c≠.locs i)->b≠a:=λ{b c}e M q=>by subst q;rw[x]at e;exact M j e.symm
 have L:∀n,Le n G d:=λn=>by refine⟨λb o q=>by refine Z z ?_;exact q,λk q=>⟨by exact Z r U,(f _<|t q (λY h=>ao h U)).trans q⟩,λk y q=>⟨by exact Z r U,(f _<|t q (λY h=>ao h U)).trans q⟩,λj y Y=>Z r U,λb i D q Y=>?_⟩;exact(v b<|t (R.tm b _ q).2 (λY h=>ao h U))▸q
 have A:Tr (λc=>c=.locs j) G d h h:=⟨λb o q Y=>q,λb Y s=>f b λq=>s<|(q)▸x,λc Y=>Z r U⟩;refine⟨⟨R.sys,λb o q=>(L 0).fz _ _<|R.ey b o q,λb o q=>?_,λb p q=>?_,λb q=>?_,λk N q=>(R.cells k N q).tr A (L 0) (ao · rfl) (ao · rfl) λY h=>ao h U,λk q=>?_,λk y q=>?_,?_,?_,R.fr⟩,L,Q,v⟩;replace q:=(z)▸q;have:=R.fz b o q;exact⟨this.1,(f b<|t this.2 (λY h=>ao h U)).trans this.2⟩;by_cases w:b=a;clear t v f x;subst w;rw[Q]at q;obtain rfl:=aK q;exact⟨P,l⟩;rw[v b w]at q;exact⟨(R.tm b p q).1,(f b w).trans (R.tm b p q).2⟩;by_cases w:b=a;exact Z w<|dy P
 rw[f b w]at q;exact R.lt b q;replace q:=(r)▸q;by_cases w:G.ad (.cell k)=a;rw[w,l]at q;exact ao q U;rw[f _ w]at q;exact R.fH k q;replace q:=(r)▸q;by_cases w:G.ad (.attr k y)=a;rw[w,l]at q;exact ao q U;rw[f _ w]at q;exact R.eY k y q;exact R.top.tr A (L 0) (by simp;exact dP ‹_›) (by intro i y T;simp) λy=>.inl (ao · rfl);exact R.out.tr A (L 0) λi T=>⟨by simp;exact dP<|g9 T S,(by intro y;simp),by intro y;simp⟩
def Kp{T:Tab}{F:au}{X:aU}{G:Gh}{st:K}{s:aM}{d:J}{A:bS}{C:bP}{E:bp}(f:bC T F C d n)(JS:dR T F C d n)(h:aW X A d){t:ai}{l:D ai}{r:f9}{abB:cJ}{use:al (ah->lP c9)}{Q:bp}(R:aZ F X G st s)(hg:(decide (n<4)||decide (l.length>1)||ql v0)=ag)
 (DC:ew r t st=B)
 (hit:∀(Qi:bp),(∀c w P v b y L Y,Le (X.lv+2) G P->aZ F X P w b->VO F X.lv P c v->aB T C n v0 st=.ok c w->gG w c=I y->ew r t w=B->cW (c7 T C n e t l r) y w=.ok L Y->L.length<=1000->Qi v b)->
  am F.md A (bH v0 X.env) Qi E s)
 (zF:∀c w P L Y S i j N W k,Le (X.lv+2) G P->aB T C n v0 st=.ok c w->Le (X.lv+2) P S->aZ F X S Y N->S.tm i=I (X.lv+2,bO W k)->bn F S L W->(∀p,P.tm i≠I p)->(∀p,P.tm j≠I p)->i≠j->(∃o m,S.tm j=I (0,o)/\N.heap.Ns j m)->
  (∃y,gG w c=I y/\ew r t w=B/\cW (c7 T C n e t l r) y w=.ok L Y)->L.length<=1000->F4 F.md A E use Q (.ref i) j (.ok .next) N):
 am F.md A (comprehension (.ListComp e [⟨t,v0,l,0⟩] r pos) r X.env abB (newList []) ag (bH v0 X.env) use) Q E s:=by
 simp only [Bi,xS]at hg;refine aL λhG=>aI hg λDD hs=>?_;obtain⟨hn,hi⟩:=DD;refine cB (zD DC) λk1 k2 k3=>hG<|akF (g:=⟨t,v0,l,0⟩) (gs:=[]) U (CM hs) (Kg (abf R.r DC)) k1 (λx hx hl=>((k3 x hx).2.1 hl).1) (hit _ λc w P v b y L Y L1 M V1 e1 ei u hc hL=>JC M V1 ei λo I0 hfo=>?_)
 refine cB (M.r.vH 0 o hfo) λg1 g2 g3=>?_;have R2:aZ F X _ w {b with heap:=b.heap.push o}:=⟨g1,M.g,M.o,M.t⟩;refine lR<|cB (R2.r.vH (X.lv+2) (bO [] 0) U) λf1 f2 f3=>?_
 have R3:aZ F X _ w {b with heap:=(b.heap.push o).push<|bO [] 0}:=⟨f1,M.g,M.o,M.t⟩;refine abg R3 u λz G4 s4 eL L4 ce R4=>?_;have hD:(b.heap.push o).objs.size=b.heap.objs.size+1:=rD ..;have hC:z.locals=b.heap.objs.size+2:=by refine Z eL ?_;show((b.heap.push o).push _).objs.size=_;rewrite[rD];exact Z hD U
 have gH:b.heap.objs.size≠(b.heap.push o).objs.size:=Z hD HX;have Kq:=L4 1|>.tm _ _ _ ((f2 1).tm _ _ _ g3<|bU _ _) (bU _ _)
 have td4:=L4 (X.lv+3)|>.tm _ _ _ f3 (gb _)
 have I4:=((I0.mono<|g2 0).mono<|f2 0).mono<|L4 0
 have LL:Le (X.lv+3) P G4:=((g2 _).trans<|f2 _).trans<|L4 _
 have fr:∀a,b.heap.objs.size<=a->∀p,P.tm a≠I p:=λa ha p q=>by rw[M.r.yK ha]at q;exact aD q
 have O:∀{Rr:pK->aM->Prop},(∀S N W k,Le (X.lv+3) P S->Y.loc=w.loc->Y.sc=w.sc->aZ F (jU X w {z with scope:=kg r X.env}) S ⟨iW t++gJ w.loc,Y.hp,r⟩ N->S.tm (b.heap.push o).objs.size=I (X.lv+2,bO W k)->bn F S L W->Rr (.ok .next) N)->
  k7 F.md A (.compLoop (.ListComp e [⟨t,v0,l,0⟩] r pos) 0 (.ref b.heap.objs.size) (.ref (b.heap.push o).objs.size) {z with scope:=kg r X.env}) Rr s4:=λhf=>
  abt f JS (h.jU w _) (iM ‹_›) (iM ‹_›) u ce gH (fr _<|aA _) (fr _<|Z hD (cx _ _)) LL R4 Kq I4 td4 hc hL hf
 have fin:k7 F.md A (.compLoop (.ListComp e [⟨t,v0,l,0⟩] r pos) 0 (.ref b.heap.objs.size) (.ref (b.heap.push o).objs.size) {z with scope:=kg r X.env}) (F4 F.md A E use Q (.ref (b.heap.push o).objs.size) z.locals) s4:=by
  refine O λS N W k L5 e2 e3 H td5 V5=>?_;obtain⟨m,hm,_⟩:=H.r.top.ns;have hm:N.heap.Ns z.locals m:=hm;have Dp:S.ow z.locals=.locs (X.lv+1):=H.r.top.lo;refine nr (id hm) λoC zz zz hoC zz=>l5 (H.r.abn.abz Dp (gb _) hoC) λG6 r1 r2 r3 r4=>?_;clear O R4 R3 f1 R2 g1 M;have hse:Y={w with hp:=Y.hp}:=by cases Y;cases w;cases e2;cases e3;rfl
  have DE:(b.heap.push o).objs.size≠z.locals:=Z hD<|Z hC (dP (gb _))
  refine zF c w P L Y G6 _ _ N W k L1 e1 ((L5.down<|bM _).trans<|r2 _) (Z hse<|⟨r1,H.g,H.o,H.t⟩) ((r4 _ DE).trans td5) (V5.mono<|r2 0) (fr _<|Z hD (cx _ _)) (fr _<|Z hC (cx _ _)) DE ⟨oC,m,r3,hm⟩ ⟨y,ei,u,hc⟩ hL
 exact akG fin<|abo I4 (R4.r.tm _ _ Kq).1 fin
def Kr{T:Tab}{F:au}{X:aU}{G:Gh}{b:K}{s:aM}{d:J}{A:bS}{w:bP}{E:bp}(a:bC T F w d n)(f:aW X A d){P:ai}{q:D ai}{k:f9}{pos:cJ}{i:Gh->CV->ah->Prop}{Q:bp}{m:J}(hm:m<=X.lv+2)(R:aZ F X G b s)(DC:ew k t b=B)
 (h:aH T F X m i G (((aB T w n P).bind λiv=>λs=>match gG s iv with
  |none=>.C
  |some j=>if ew k t s then(match cW (c7 T w n e t q k) j s with
   |.ok l y=>if l.length<=1000 then .ok (.lst l) y else .C
   |.exc x y=>.exc x y|.C=>.C)else .C) b) Q E)(H:bp)
 (hQ:∀c o Y v S j L V,Le (X.lv+2) G Y->aZ F X Y o S->VO F X.lv Y c v->aB T w n P b=.ok c o->gG o c=I j->ew k t o=B->cW (c7 T w n e t q k) j o=.ok L V->L.length<=1000->H v S)
 (hx:∀(r:Internal.R (D CV)),(∃c o j,aB T w n P b=.ok c o/\gG o c=I j/\cW (c7 T w n e t q k) j o=r)->∀x y,r≠.exc x y):
 am F.md A (bH P X.env) H E s:=by
 refine a.e X A f P G b s R _ _<|h.bind hm λc o Y v S N L1 R1 V1 p=>?_
 generalize M:gG o c=g;induction g using bL with
 |none=>rw[M]at p;exact p.elim|some j=>
  replace p:=M▸p;dsimp only at p;by_cases z:ew k t o=B;replace p:=(aa z)▸p;generalize Z:cW (c7 T w n e t q k) j o=O;induction O using Internal.R.casesOn with
  |C=>rw[Z]at p;exact p.elim|exc x y=>exact aF U<|hx _ ⟨c,o,j,N,M,Z⟩ x y
  |ok L V=>replace p:=Z▸p;dsimp only at p;by_cases hL:L.length<=1000;exact hQ c o Y v S j L V L1 R1 V1 N M z Z hL;rw[u hL]at p;exact p.elim
  rw[u z]at p;exact p.elim
set_option tactic.hygienic true in
def Ks{c:CV->M (al CV)}:∀(l:D CV)(s:K)(x:CV)(d:K),cW c l s≠.exc x d:=by
 intro l;induction l with
 |nil=>intro s x d q;cases q
 |cons a l i=>
  intro s x d q;rw[yF]at q;generalize c a s=z at q;induction z using Internal.R.casesOn with
  |C=>cases q
  |exc _ _=>cases q
  |ok o h=>
   dsimp only at q;generalize e:cW c l h=f;induction f using Internal.R.casesOn with
   |C=>rw[e]at q;cases q
   |ok _ _=>rw[e]at q;cases q
   |exc y s2=>exact i h y s2 e
def abH{T:Tab}{F:au}{X:aU}{G:Gh}{q:K}{n:J}{k:bP}{E:bp}{t:ai}{j:D ai}{f:f9}{a:Gh->CV->ah->Prop}{Q:bp}{m:J}{c:CV}{r:K}{L:D CV}
 (h:aH T F X m a G (((aB T k n v).bind λw=>λs=>match gG s w with
  |none=>.C
  |some d=>if ew f t s then(match cW (c7 T k n e t j f) d s with
   |.ok l o=>if l.length<=1000 then .ok (.lst l) o else .C
   |.exc x o=>.exc x o|.C=>.C)else .C) q) Q E)
 (y:aB T k n v q=.ok c i)(z:∃d,gG i c=I d/\ew f t i=B/\cW (c7 T k n e t j f) d i=.ok L r)(b:L.length<=1000):aH T F X m a G (.ok (.lst L) r) Q E:=by
 refine aL λA=>cC z λd P p Y=>?_;unfold M.bind at h;replace h:=y▸h;dsimp only at h;replace h:=P▸h;dsimp only at h;rw[aa p,Y]at h;dsimp only at h;rw[aa b]at h;exact A h
def abI{T:Tab}{F:au}{X:aU}{d:J}{A:bS}{P:bP}(a:bC T F P d n)(K:dR T F P d n)(f:aW X A d){t Z:ai}{b:D ai}{p:f9}{w:cJ}:
 bv T F X (X.lv+2) A (aP F X) (aB T P (n+1)<|.ListComp e [⟨t,Z,b,0⟩] p w) (bH (.ListComp e [⟨t,Z,b,0⟩] p w) X.env):=by
 intro G C s R Q E h;rw[Kl]at h;refine aL λH=>aI (aH.ite h) λhg h=>?_;by_cases v:ew p t C=B;refine H ?_;rotate_left
 .rw[aa<|by simpa using v]at h;exact h.elim
 rw[u<|by simp[v]]at h;rw[akH];refine Kp (use:=W) a K f R hg v (λQi hQ=>Kr (pos:=w) a f (aA _) R v h Qi hQ λr z x V q=>l6 z λY Y y Y Y hr=>Ks y _ x V<|hr.trans q) λc wb G1 L sE G' i j V ws k L1 e1 L2 l td o hD hC S M hx hL=>d9 M λoC m g hm=>⟨m,hm,λh' hs=>?_⟩;have hA:=abH h e1 hx hL;refine aI (l.r.gp g hs.extBut) λr1 r2=>?_;have N:(G'.gp j).tm i=I (X.lv+2,bO ws k):=(u S).trans td;exact l5 (r1.C0 N) λU q1 O q3 zz=>hA U (.ref i) _ ((L1.trans<|r2 L2 hC).trans<|O _ (aA _)) ⟨q1,l.g,l.o,l.t⟩<|.r (.lst q3 ((o.mono (Le.Ko (l.r.tm _ _ g).2)).mono (O 0 (dW _))))
def aH.abJ{T:Tab}{F:au}{X:aU}{d:K}{c:bf}{m:M γ}{f:γ->M α}{Q:β->aM->Prop}(h:aH T F X n a G (M.bind (if c=B then C else m) f d) Q E):c=ag/\aH T F X n a G (M.bind m f d) Q E:=by induction c with|true=>exact uK h|false=>exact⟨U,h⟩
def aH.abK{T:Tab}{F:au}{X:aU}{d:K}{b:K->bf}{m:M γ}{f:γ->M α}{Q:β->aM->Prop}(h:aH T F X n c G (M.bind (λs=>if b s=B then .C else m s) f d) Q E):b d=ag/\aH T F X n c G (M.bind m f d) Q E:=by
 have e:M.bind (λs=>if b s=B then Internal.R.C else m s) f d=if b d=B then .C else M.bind m f d:=by show(match(if b d=B then Internal.R.C else m d)with|.C=>Internal.R.C|.ok a i=>f a i|.exc e i=>.exc e i)=_;cases b d<;>rfl
 rw[e]at h;generalize k:b d=j;induction j using dN with|true=>rw[k]at h;exact uK h|false=>rw[k]at h;exact⟨U,h⟩
def abL:c5 T f (n+3) (.Assign [.Name y h] (.ListComp e [⟨t,i,c,0⟩] a d) p)=(aB T f (n+1)<|.ListComp e [⟨t,i,c,0⟩] a d).bind λv=>(if bj v then M.pure (SV.v v)else C:M SV).bind λw=>(fU y w).bind λY=>M.pure .aO:=by
 refine Z (v6 U)<|Z (u (show¬((!qo (.Name y h))=B)from iN)) (Z (zc U) ?_);rw[mj,M.bind_assoc]
 rfl
def abM(f:bC T F cl d n)(JS:dR T F cl d n)(i:aW X A d)(hsw:uN (.ListComp e [⟨t,it,ifs,0⟩] P pos) (I<|.Name y py) p.line X.env=pure B):
 bv T F X (X.lv+1) A (dB F) (c5 T cl (n+3)<|.Assign [.Name y py] (.ListComp e [⟨t,it,ifs,0⟩] P pos) p) (io (.Assign [.Name y py] (.ListComp e [⟨t,it,ifs,0⟩] P pos) p) X.env):=by
 intro G st s R Q E h;rw[abL,Kl]at h;refine aL λhG=>aI (aH.abJ h) λhg h=>aI (aH.abK h) λg h=>?_;have g:ew P t st=true:=by simpa using g
 refine hG ?_;generalize hc:((aB T cl n it).bind λiv=>λs=>match gG s iv with
  |none=>Internal.R.C
  |some S=>if ew P t s then(match cW (c7 T cl n e t ifs P) S s with
   |.ok l N=>if l.length<=1000 then .ok (.lst l) N else .C
   |.exc x N=>.exc x N|.C=>.C)else .C:M CV)=cm at h
 refine Z (exec_Assign_Name_used _ _ _ _ hsw)<|af (fO (af ?_))
 have fin:∀{L:D CV}{O:K},cm st=.ok (.lst L) O->aH T F X (X.lv+1) (dB F) G (((fU y<|.v (.lst L)).bind λY=>M.pure bD.aO) O) Q E:=by intro L O e1;unfold M.bind at h;rw[e1]at h;dsimp only at h;rw[aa<|show bj (.lst L)=B from U]at h;exact h
 have u:aH T F X (X.lv+1) (aP F X) G (cm st) (λv N=>fD) E:=by unfold M.bind at h;generalize e1:cm st=DF;induction DF using Internal.R.casesOn with|C=>rw[e1]at h;exact h.elim|ok v N=>exactλY Y Y Y Y Y=>trivial|exc x N=>rw[e1]at h;exact h
 rw[<-hc]at u;refine af (g5 (Kp (use:=I (i7 (.Name y py) X.env)) (Q:=λY N=>Q .next N) f JS i R hg g (λQi hQ=>Kr (pos:=pos) (Q:=λv N=>fD) f i (bM _) R g u Qi hQ λr ⟨_,_,S,_,_,hr⟩ x N q=>Ks S _ x N (hr.trans q)) ?_)
  (λY N hq=>aE (aE hq)) λY Y e=>e)
 refineλc wb G1 L O G' j w N ws k L1 e1 L2 R2 td z hD hC DE hCm hx hL=>d9 hCm λoC m tC hm=>?_;have hcm:cm st=.ok (.lst L) O:=by refine cC hx λS ei qU qI=>ax hc ?_;unfold M.bind;refine Z e1 ?_;dsimp only;refine Z ei ?_;dsimp only;refine Z (aa qU) (Z qI ?_);dsimp only;exact Z (aa hL) U
 have H:=fin hcm;refine l5 (R2.r.C0 td) λV q1 q2 q3 zz=>?_;have RF:aZ F X V O N:=⟨q1,R2.g,R2.o,R2.t⟩;have LF:Le (X.lv+2) G1 V:=L2.trans (q2 _ (aA _));have tC':V.tm w=I (0,oC):=(q2 (X.lv+2) (aA _)).tm _ _ _ tC (bU _ _);refine akI (v9 (T:=T) (n:=X.lv+1) (G:=V) (st:=O) RF (.v (.lst q3 (z.mono (q2 0 (dW _))))) (.inr ⟨_,U⟩) ?_);have hL0:Le (X.lv+1) G V:=(L1.trans LF).down (bM _);unfold M.bind at H;generalize mD:fU y (.v (.lst L)) O=abS;induction abS using Internal.R.casesOn with
 |C=>rw[mD]at H;exact H.elim|exc _ _=>rw[mD]at H;exactλG3 v3 s3 L3 R3=>H G3 v3 s3 (hL0.trans L3) R3|ok b sF=>
  rw[mD]at H;intro G3 _ s3 L3 R3 _;have Kt:=L3.tm _ _ _ tC' (bU _ _);have gC:=(R3.r.tm _ _ Kt).1;have gC0:=(R2.r.tm _ _ tC).1;refine⟨m,hm.at' (λo q=>by rw[gC0]at q;obtain rfl:=aK q;exact gC),λh' hs=>aI (R3.r.gp Kt hs.extBut) λr1 r2=>?_⟩;have hG:Le (X.lv+1) G (G3.gp w):=by have a:Le (X.lv+1) G1 (G3.gp w):=r2 ((LF.down (bM _)).trans L3) hC;exact(L1.down (bM _)).trans a
  exact H _ _ _ hG ⟨r1,R3.g,R3.o,R3.t⟩ .aO
def Ku{c:K}{p:Prop}(h:aH T F X m a G (sr x c) Q E)(k:x.length<=1000000->aH T F X m a G (.ok x c) Q E->p):p:=by unfold sr at h;by_cases q:x.length<=1000000;rw[aa q]at h;exact k q h;rw[u q]at h;exact h.elim
def abU{X:aU}{m:bP}(a:bC T F m d n)(f:aW X A d)(e:ai):bv T F X (X.lv+2) A (λY(x:H)(v:ah)=>x.length<=1000000/\∃t,v=.str x t) (jP (aB T m n) e) (bH e X.env):=by
 intro G y s R Q E h;unfold jP at h;generalize q:r8 e=z at h;induction z with
 |some x=>refine eO (yk q) λk p i=>?_;subst i;exact Ku h λq h=>A7<|h.ok (R.tok (lL _)) ⟨q,_,U⟩
 |none=>
  generalize l:Hm e=z at h;clear q;induction z with
  |none=>exact h.elim|some p=>
   obtain⟨v,c⟩:=p;refine aJ (lj (Hl _) l) λP S=>?_;subst S;have h:aH T F X (X.lv+2) (λY(x:H)(v:ah)=>x.length<=1000000/\∃t,v=.str x t) G ((if c=-1 then(aB T m n v).bind vx else C) y) Q E:=h;by_cases o:c=-1;rw[aa o]at h;subst o;refine wpAny_FormattedValue_plain<|a.e X A f v G y s R _ _ (h.bind (aA _) λr L B w V M O b N j=>?_)
   unfold vx at j;generalize D:hK r=z at j;clear M h;induction z with
   |none=>exact j.elim|some x=>clear h;obtain rfl:=oE D;refine aJ N.str_inv λt i=>?_;subst i;exact Ku j λz j=>wpAny_formatField_str (j.ok b ⟨z,_,U⟩) (j.ok (b.tok<|lL _) ⟨z,_,U⟩)<|Z dY (g z (by lk))
   rw[u o]at h;exact h.elim
def abV(a:bC T F o d n)(c:aW X A d)(i:D ai)(f:H)(G dI s)(R:aZ F X G dI s)(m:f.length+1000000*i.length<=eJ)(Q:H->aM->Prop)(h:aH T F X (X.lv+2) (λY(x y:H)=>y=f++x) G (jC (aB T o n) i dI) Q E):
 Joins F.md A E (lT i X.env) f Q s:=by
 induction i generalizing f G dI s with
 |nil=>exact h.ok R<|by cases f;show _=O8 _;simp
 |cons e i p=>
  refine abU a c e G dI s R _ _<|h.bind (aA _) λx k q v r I B w z l=>?_
  obtain⟨P,t,rfl⟩:=z;rw[bw]at m;have j:(f++x).length+1000000*i.length<=sizeLine:=by rw[strLen_append];exact UW m P
  exact⟨x,t,U,g (cx _ _) j,p (f++x) q k r w j<|l.bind (aA _) λy S V b O W K L M N=>N.ok L (by refine Z M ?_;rw[akJ])⟩
def cc2(h:¬l.length<2):∃a b r,l=a::b::r:=by
 induction l using bk with
 |nil=>exact aF Nat.zero_lt_two h
 |cons a l=>induction l using bk with
  |nil=>exact aF Nat.one_lt_two h|cons b r=>exact⟨a,b,r,U⟩
def abX(a:bC T F k d n)(c:aW X A d){j e}:bv T F X (X.lv+2) A (aP F X) (aB T k (n+1)<|.JoinedStr j e) (bH (.JoinedStr j e) X.env):=by
 intro G m s R Q E h;replace h:=Xx▸h;refine aI (aH.ite h) λi h=>?_;rw[Bi,xS,xS]at i;refine r7 (cc2 i.1) λabY abZ f q=>?_;subst q;refine wpAny_JoinedStr<|abV a c (abY::abZ::f) Str.empty G m s R (by refine Z dY ?_;have:=i.2;show 0+_<=_;exact g (bg (i4 _)) (g (d7 1000000 (Nat.not_lt.mp this)) (dk U))) _ (h.bind (aA _) λx o v b w y z p r t=>?_)
 refine Z r ?_;rw[Str.empty_append];exact Jn p (lL _) t
def cP.none_of(R:cP F G c a)(e:bi c (.str x)=I W):x∉a.map (·.1):=by
 induction c generalizing a with
 |nil=>exact Z (show a=[]from R.out) rz|cons p c h=>refine oA (cP.key.2.2 p.1 p.2 c _ R) λy w l d i j k=>?_;replace e:=(yn (v:=p.2) (r:=c) (x:=.str x) (b:=decide (y=x))<|by exact Z d U).symm.trans e;clear d R j;subst i;by_cases q:y=x;rw[i5 q]at e;exact av (Option.map_eq_some_iff.mp e) λz Y f=>aD f.symm;rw[dx q]at e;exactλm=>(List.mem_cons.mp m).elim (λz=>q z.symm)<|h k e
inductive Kv(T:Tab)(F:au)(A:bS)(E:bp)(env:fE)(pos:cJ)(ks:D (al ai))(vs:D ai)(es:D (CV×CV)):Prop
 |mk (pairs:D (lP ah×lP ah)):(evalEachOpt ks env).zip ((lT vs env).map λv=>do let x<-v;rG pos;pure x)=pairs.map (λp=>(I p.1,p.2))->pairs.length=ks.length->(ks=[]->vs=[])->
  (∀(s:aM)(Q:D (ah×ah)->aM->Prop),(∀l tk cY,s.toks<=tk->Carries (strKind F.pg F.w) l cY->(∀G,cP F G es cY)->(cY.map (·.1)).Nodup->Q l {s with toks:=tk})->
   am F.md A (evalPairs pairs) Q E s)->Kv T F A E env pos ks vs es
def ab0(m:D (al ai))(d:D ai)(n:D (CV×CV))(e:qm m d=I n):Kv T F A E env pos m d n:=by
 induction m generalizing d n with
 |nil=>
  refine aL λo=>?_;rcases d with _|⟨v,d⟩
  obtain rfl:=aK e;exact o<|⟨[],U,U,λY=>rfl,λs Q h=>evalPairs_nil (h [] s.toks [] (aA _) trivial (λY=>.nil) uy)⟩
  exact aD e
 |cons k m X=>
  refine aL λo=>?_;rcases d with _|⟨v,d⟩
  exact aD e;refine av (dE e) λx j e=>av (dE j) λk a j=>?_;subst a;refine eO (yk j) λS p a=>?_;subst a;clear j;refine av (dE e) λi y e=>?_;clear j;refine eO (GI y) λL M a=>?_;subst a;clear y;refine av (dE e) λt q e=>av (dE e) λr N e=>aI (oB e) λb a=>?_;subst a;clear e;obtain rfl:=Option.isNone_iff_eq_none.mp b;clear b e;obtain⟨f,R,B,u,V⟩:=X d t q;refine o<|⟨(bH (.Constant (.str x) S p) env,do let x<-bH (.Constant (.int i) L M) env;rG pos;pure x)::f,?_,bq (·+1) B,λz=>aF z (rI _ _),λs Q h=>?_⟩
  rw[fq,<-R];rfl;refine evalPairs_cons<|A7 (af (A6 (af (fO (aE (V _ _ λl C w O c P K=>h _ _ ((x,.int i _)::w) (g (g (bM _) (bM _)) O) ⟨nh x _,U,c⟩ (λG=>.cons (.int _ _) (P G)) (Z fq ?_)))))));rw[A4]
  exact⟨cP.none_of (P ⟨λY=>0,λY=>.none,λY=>W,λY=>W⟩) N,K⟩
def ab1{j v i}:bv T F X (X.lv+2) A (aP F X) (aB T cl (n+1)<|.Dict j v i) (bH (.Dict j v i) X.env):=by
 intro G st s R Q E h;rw[Xt]at h;refine aI (aH.ite h) λy h=>?_;rw[xS]at y;generalize q:qm j v=O;induction O using bL with
 |none=>rw[q]at h;exact h.elim|some L=>
  rw[q]at h;refine aL λM=>?_;obtain⟨f,N,P,Z,B⟩:=ab0 (T:=T) (F:=F) (A:=A) (E:=E) (pos:=i) (env:=X.env) j v L q;have V:j≠[]->f≠[]:=λw K=>w<|uI (P▸K▸rfl)
  have t:∀(m:bG)d p,s.toks<=p->(∀b o,s.heap.get? b=I o->m.get? b=I o)->m.DictOf (strKind F.pg F.w) s.heap.objs.size d->(∀G,cP F G L d)->Q (.ref s.heap.objs.size) {s with heap:=m,toks:=p}:=by refineλm d p x k a S=>av (Heap.dictOf_iff.mp a) λo u C=>cB (R.r.Dh k (aA _) u) λH r2 r3=>?_;have:=R.t;exact h _ _ _ (r2 _) ⟨H,R.g,R.o,by dsimp only;exact g ‹_› ‹_›⟩<|.r (.dA (λz=>by have:=R.r.Ch;rw[<-z,R.r.fresh (aA _)]at this;exact ao this U) r3 C (S _))
  clear h;by_cases w:j=[];clear V B P N f y h;subst w;have:=Z U;clear Z;subst this;obtain rfl:=aK q;exact M<|ajX (t _ [] s.toks (aA _) (λb o e=>di _ e) (akK _) λY=>.nil)
  refine M<|wpAny_Dict_pairs (knd:=strKind F.pg F.w) N (V w) (P▸iM y) (B _ _ λl p d x c S nd=>⟨d,c,?_,λm a hs=>?_⟩)
  exact akK _;rw[merged_nil_of_nodup _ nd]at a;have x:s.toks<=p:=x;refine t m d (p+l.length) (UQ x) (λb o e=>hs.extBut b o (λz=>?_)<|di _ e) a S;rw[z]at e;exact aF (jy e)<|n8 _
def DG(o:A.units<=6008):JW T F X A:=by refineλE G S s c x y v L Q R a e k p=>aL λq=>cC (nG R.r a e) λd j z f=>?_;subst j;obtain⟨r,M,t,h,m,rfl,w,b,l⟩:=(VO.r (i:=0) k).pair;have P:=IJ R w b l;have Y:(d==g6)=false:=beq_eq_false_iff_ne.mpr z;have n:=f.IL;exact q<|xQ xR n.typeIs Bf (O4 _ _) (meetsH_dict_get (AO (strKind F.pg F.w)) d r Y) ⟨by show A.units+1<9900;exact lk 2 o U,[x,y],[],P,n,p _ R.tok⟩
def cP.keys(R:cP F G h d)(i:f.length=d.length)
 (n:∀(j:J)(v:ah),f[j]?=I v->∃(k:H)(x:ah),d[j]?=I (k,x)/\(strKind F.pg F.w).is k v=B):bn F G (h.map (·.1)) f:=by
 induction h generalizing d f with
 |nil=>cases R;cases uI i;exact .nil
 |cons p h q=>
  cases R with
  |@cons y c w _ d r s=>
   clear r;induction f with
   |nil=>cases i
   |cons v f=>refine d9 (n 0 v U) λk x e o=>?_;cases e;have:∃t,v=.str y t:=Value.isStrOf_shape o;clear o;refine aJ this λt m=>?_;subst m;exact .cons (.str _ _)<|q s (by simpa using i) λj a z=>by simpa using n (j+1) a (by simpa using z)
def DH(S:A.handled=W):JX T F X A:=by
 refineλE G st s c v w Q R a e P hl L=>aL λM=>cC (nG R.r a e) λy b z f=>?_;subst b;have N:(y==g6)=false:=beq_eq_false_iff_ne.mpr z;have I:∃h,s.heap.DictOf (strKind F.pg F.w) y h/\cP F G w h:=by
  cases f with
  |s d k=>exact⟨_,d,k⟩|i d k=>
   clear R e;induction w with
   |nil=>obtain rfl:=k;exact⟨[],Cw d,.nil⟩|cons e=>obtain⟨e,_⟩:=e;obtain⟨_,_,_,f,_⟩:=k;obtain rfl:e=_:=f;exact ft P
  |t=>exact ft P
 refine av I λh d k=>?_;have l:∃q,s.heap.DictAt (strKind F.pg F.w) y h q:=r7 d λo w q r=>⟨q,o,w,r⟩;refine aJ l λq l=>M<|W.kdl_call (W.kdl_dict N) S l ((dY)▸(k.length)▸g ‹_› (by lk)) λh' tk p D B V m=>cB (R.r.Dh B (aA _) V) λO Y K=>?_
 refine L _ _ _ Y ⟨O,R.g,R.o⟩<|.lst (vs:=p.toList) (n:=D) (Z K U) ((cP.keys k ?_ λj v u=>?_).mono (Y 0))
 exact(xU)▸m.1;exact d9 (m.2 j v<|(aj5)▸u) λC x H e2=>⟨C,x,H,e2⟩
def ge(e:c=C):bv T F X m A a c t:=by intro G d s R Q E h;rw[e]at h;exact h.elim
def Kw{h:bK}(j:kC T F h G d)(s:bC T F G d n)(N:dR T F G d n)(w:aW X A d)(k:EK)(Y:jK P=k)(E:oK k P):bv T F X (X.lv+2) A (aP F X) (aB T G (n+1) P) (bH P X.env):=by
 induction k with
 |const c=>refine eO E λa b z=>?_;subst z;exact X6|name x=>refine aJ E λp z=>?_;subst z;exact X7 j.k0|bool S L=>refine aJ E λp z=>?_;subst z;exact Yq s w|bin l S r=>refine aJ E λp z=>?_;subst z;exact X8 s w|un S x=>refine aJ E λp z=>?_;subst z;exact X9 s w|iff t b o=>refine aJ E λp z=>?_;subst z;exact Yg s w|tup R=>refine eO E λk p z=>?_;subst z;exact Ya s w|lst R p=>obtain rfl:=E;exact Yi s w
 |dict B L=>refine aJ E λp z=>?_;subst z;exact ab1|cmp l Z V=>refine aJ E λp z=>?_;subst z;exact Yr s w|nA o m g args p=>clear Y;obtain rfl:=E;generalize M:mi m args=Q;induction Q using bL with|none=>exact aaN j s w M|some O=>exact aaO s w M
 |call f args=>refine eO E λq p z=>?_;subst z;exact aaK j s w|qk L=>refine aJ E λp z=>?_;subst z;exact abX s w|attr o a=>refine aJ E λp z=>?_;subst z;exact Yc j.k0 s w|slice v l y=>refine eO E λq p z=>?_;subst z;exact Ye s w|rev v=>refine Bz E λa b c q p z=>?_;subst z;exact Yf s w|sub v i=>refine av E λp z D=>?_;subst z;exact Yd s w D|comp e t Pf J u=>refine aJ E λp z=>?_;subst z;exact abI s N w|bad=>exact ge<|Jk Y
noncomputable def nN(e:ai):Bool:=e.ctorIdx==9||e.ctorIdx==10
def DI(h:nN e=B):jK e=.bad:=by
 induction e using gL with
 |SetComp|DictComp=>rfl
 |_=>exact ft h
def ab2(h:nN e=B):qx e=.eQ:=by
 induction e using gL with
 |SetComp|DictComp=>rfl
 |_=>exact ft h
def wy(h:jK e=.bad):∀n,aB T a n e=C
 |0=>rfl|_+1=>Jk h
def ab3(h:nN e=B):∀n,lr T a n e=C
 |0=>rfl|n+1=>by refine Z (zc<|ab2 h) ?_;rw[wy<|DI h];rfl
def Kx(h:oN v=ag)(c:nN v=ag):uN v t l d=pure false:=by
 induction v using gL with
 |ListComp=>exact tf h|SetComp|DictComp=>exact tf c
 |_=>rfl
def DJ(d:nN v=ag)(ha:(a.ctorIdx==23)=ag):uN v (I a) l env=pure false:=by
 induction v using gL with
 |ListComp=>induction a using gL with
  |Name=>exact tf ha|_=>rfl
 |SetComp|DictComp=>exact tf d
 |_=>rfl
def DL:(if c=B then(a:M α)else a)=a:=by cases c<;>rfl
def ab4{c:bK}(f:kC T F c r d)(j:bC T F r d n)(z:dR T F r d n)(k:aW X A d):∀(t:ai)(G:Gh)(w:K)(s:aM)(q:SV)(v:ah),aZ F X G w s->fb F X.lv G q v->∀(Q:c9->aM->Prop)E,
 aH T F X (iA X q) o6 G (dm T r (n+1) t q w) Q E->am F.md A (i7 t X.env v) Q E s:=by
 intro t G w s q v R m Q E h;have y:dm T r (n+1) t q=C->am F.md A (i7 t X.env v) Q E s:=λe=>by rw[e]at h;exact h.elim
 induction t using gL with|Name x p=>exact YI R m h|Attribute o a p=>exact YJ f.k0 j k R m h|Subscript o i p=>exact YK j k R m h|Tuple b a p=>exact YL z k R m h|_=>exact y U
def Ky:rH [.Name x q] v a=pure none:=by cases v<;>rfl
def ab5:rH [.Attribute o x q] v a=pure none:=by cases v<;>rfl
def ab6:rH [.Subscript o i q] v a=pure none:=by cases v<;>rfl
def ab7(c:jg v=ag):rH [.Tuple e k q] v d=pure none:=by induction v using gL with|Tuple=>exact tf c|_=>rfl
def ab8:yC e gens sc=.bad\/∃t f d,gens=[⟨t,f,d,0⟩]:=by
 induction gens with
 |nil=>exact .inl U
 |cons c h=>induction h with
  |cons _ _=>exact .inl U|nil=>
   obtain⟨t,f,d,a⟩:=c;induction a with
   |negSucc _=>exact .inl U
   |ofNat k=>induction k with
    |succ _=>exact .inl U|zero=>exact .inr ⟨t,f,d,U⟩
def ab9(h:Db a=B):jK a=.bad:=by induction a using gL with|Set d k q=>rfl|_=>exact ft h
def aca(h:yC e a c=.bad):∀n,lr T d n (.ListComp e a c p)=C
 |0=>rfl|n+1=>by refine Z (zc U) ?_;rw[wy (e:=.ListComp e a c p) h];rfl
def acb(a:bC T F i d n)(w:dR T F i d n)(f:∀m,n=m+2->bC T F i d m/\dR T F i d m)(c:aW X A d)(y:nN v=ag):bv T F X (X.lv+1) A (dB F) (c5 T i (n+1)<|.Assign [.Name x q] v p) (io (.Assign [.Name x q] v p) X.env):=by
 generalize z:oN v=k;induction k using dN with
 |false=>exact zm w c U U (Kx z y) Ky|true=>
  clear y;refine By (So z) λe h l o r=>?_;subst r;rcases ab8 (e:=e) (gens:=h) (sc:=l)with j|⟨t,E,s,rfl⟩
  exact ge<|by rw[v6 U,aca j];rfl
  obtain⟨b,j⟩:∃b,uN (.ListComp e [⟨t,E,s,0⟩] l o) (I<|.Name x q) p.line X.env=pure b:=⟨_,U⟩;induction b with
  |false=>exact zm w c U U j Ky|true=>
   induction n with
   |zero=>exact ge U
   |succ n=>induction n with
    |zero=>exact ge U|succ m=>exact abM (f m U).1 (f m U).2 c j
def acd(c:bC T F j d n)(r:dR T F j d n)(h:∀m,n=m+2->bC T F j d m/\dR T F j d m)(f:aW X A d)(z:jg t=ag):bv T F X (X.lv+1) A (dB F) (c5 T j (n+1)<|.Assign [t] v p) (io (.Assign [t] v p) X.env):=by
 generalize k:nN v=w;induction w using dN with
 |true=>exact ge<|by refine Z (v6 z) ?_;rw[ab3 k];exact DL
 |false=>
  generalize b:qo t=y;induction y using dN with
  |false=>exact ge<|Z (v6 z) (Z b U)
  |true=>cases Sp b with
   |n x q e=>subst e;exact acb c r h f k|a o a q e=>subst e;exact zm r f U U (DJ k U) ab5|s o i q e=>subst e;exact zm r f U U (DJ k U) ab6
def ace{f:bK}(j:kC T F f cl d)(HO:tv T F f)(r:bC T F cl d n)(Y:dR T F cl d n)(l:∀m,n=m+2->bC T F cl d m/\dR T F cl d m)(w:aW X A d)(S:X.isFn=B)
 {P:cf}(k:SK)(hk:oR P=k)(z:oQ k P):bv T F X (X.lv+1) A (dB F) (c5 T cl (n+1) P) (io P X.env):=by
 induction k with
 |expr e=>
  clear hk S l;refine aJ z λp y=>?_;subst y;generalize hc:oN e=DM;induction DM using dN with
  |true=>exact ge<|Z CN (Z (aa hc) U)
  |false=>generalize h1:nN e=DN;induction DN using dN with
   |true=>exact ge<|by refine Z CN ?_;rw[wy (DI h1)];exact DL
   |false=>exact YT r w<|Kx hc h1
 |pass=>refine aJ z λp y=>?_;subst y;exactλG P s R Q E h=>wpAny_Pass<|aH.ok (a:=bD.aO) h R .aO
 |brk=>refine aJ z λp y=>?_;subst y;exactλG P s R Q E h=>wpAny_Break<|aH.ok (a:=bD.brk) h R .brk
 |cnt=>refine aJ z λp y=>?_;subst y;exactλG P s R Q E h=>wpAny_Continue<|aH.ok (a:=bD.cnt) h R .cnt
 |qp=>refine aJ z λp y=>?_;subst y;exactλG P s R Q E h=>wpAny_Return_none<|aH.ok (a:=bD.ret .none) h R (.ret .none)
 |ret e=>refine aJ z λp y=>?_;subst y;exact YU r w|qq ts vs=>refine Bz z λa b c d p y=>?_;subst y;exact Zh Y w|oO ts v=>
  clear hk S l;refine nr z λa b p y hv=>?_;subst y;generalize h1:nN v=DN;induction DN using dN with
  |true=>exact ge<|by refine Z (Jh hv) ?_;rw[wy (DI h1)];exact DL
  |false=>exact YX r Y w hv (DJ h1 U)<|ab7 hv
 |oP t v p=>refine aI z λy ht=>?_;subst y;exact acd r Y l w ht|qr x op v=>refine eO z λa p y=>?_;subst y;exact YZ j.k0 r w|qt o x op v=>refine eO z λa p y=>?_;subst y;exact Y0 j.k0 r w|nC o i op v=>refine eO z λa p y=>?_;subst y;exact Y2 r w|iff t b o=>refine aJ z λp y=>?_;subst y;exact YV r Y w S|hM t b=>refine aJ z λp y=>?_;subst y;exact Zv r Y w S|qu t it b=>
  clear hk l;refine aJ z λp y=>?_;subst y;generalize hs:Db it=zhs;induction zhs using dN with
  |false=>exact Zy r Y w S hs|true=>exact ge<|by refine Z Ji ?_;rw[wy (ab9 hs)]
 |raise e=>refine aJ z λp y=>?_;subst y;exact aaU j.k0 r w|qw b c x hs hp=>refine By z λcp rp q p y=>?_;subst y;exact aa9 j.k0 HO w S<|Y.ss X A w S b
 |bad=>exact ge<|XW hk
def acg:bC T F cl d 0 where
 e X A f m:=ge U
 t X A f m:=ge U
 es X A f es j h:=ge U
 o X A f eo:=ge U
 b X A f j op vs:=ge U
 bt X A f op vs:=ge U
 c X A f j k cs G dI s a va R i Q E h:=h.elim
 ct X A f j k cs G dI s a va R i Q E h:=h.elim
def ach:dR T F cl d 0 where
 sv X A c ex:=ge U
 dG X A c es pos h:=ge U
 a X A c t G dI s sv v R e Q E h:=h.elim
 as X A c ts G dI s dG vs R e ho Q E h:=h.elim
 s X A c hf bW:=ge U
 ss X A c hf we:=ge U
def aci{f:bK}(i:kC T F f v d)(j:bC T F v d n)(l:dR T F v d n):bC T F v d (n+1) where
 e X A k r:=Kw i j l k _ U<|BV r
 t X A k r:=YA j k r<|Kw i j l k _ U (BV r)
 es X A k es p h:=Ys j k es p h
 o X A k eo:=Yu j k eo
 b X A k p w x:=Yv j k p w x
 bt X A k w x:=Yw j k w x
 c X A k p q y G dI s a z R m Q E h:=Yx j k p q y G dI s a z R m Q E h
 ct X A k p q y G dI s a z R m Q E h:=Yy j k p q y G dI s a z R m Q E h
def acj{c:bK}(e:kC T F c k d)(HO:tv T F c)(f:bC T F k d n)(o:dR T F k d n)(p:∀m,n=m+2->bC T F k d m/\dR T F k d m):dR T F k d (n+1) where
 sv X A i ex:=YQ f i ex
 dG X A i es pos h:=YR o i es pos h
 a X A i t G dI s sv v R j Q E h:=ab4 e f o i t G dI s sv v R j Q E h
 as X A i ts G dI s dG vs R j ho Q E h:=YM o i ts G dI s dG vs R j ho Q E h
 s X A i hf bW:=ace e HO f o p i hf _ U<|Sz bW
 ss X A i hf we:=YW o i hf we
def DO{K:bK}(a:kC T F K cl d)(i:tv T F K):∀n,bC T F cl d n/\dR T F cl d n:=by
 intro n;induction n using Nat.strongRecOn with
 |_ n f=>
  induction n using AM with
  |zero=>exact⟨acg,ach⟩|succ n=>exact aI (f n<|gb _) λc h=>⟨aci a c h,acj a i c h λm e=>f m<|Um e⟩
structure Kz(T:Tab)(F:au)(K:bK):Prop where
 k0:d0 T F K
 kc:tq T F K
 kf:JP T F K
 ki:wr T F K
 kh:tv T F K
noncomputable def DP{T:Tab}{F:au}{c:bK}(e:Kz T F c):∀d,tg T F (aj T d) d
 |0=>λX A f q a n G o s j k R i p h=>h.elim|d+1=>by have m:=DP e d;refine ZK e.kf (DO (K:=c) ⟨e.k0,e.kc,m,λX A f=>Dm e.k0 e.kc m f,λX A f=>⟨Dl e.k0 e.ki,Dn e.k0,DG f.toU,DH f.hd⟩⟩ e.kh AF).2
def gA(h:bG)(t:bc->al dw):Prop:=∀a o,t a=I o->h.get? a=I o
noncomputable def tz(v:ah):al Str:=match v with|.str x _=>I x|_=>W
noncomputable def mG(v:ah):al Addr:=match v with|.ref a=>I a|_=>W
noncomputable def wz(v:ah):al String:=match v with|.type m=>I m|_=>W
noncomputable def ack(v:ah):Tok:=match v with|.str _ t=>t|_=>0
noncomputable def DQ(d:Data):al (js ah×J):=match d with|.seq a n=>I (a,n)|_=>W
def DR(h:tz v=I x):∃t,v=.str x t:=by induction v with|str y t=>exact⟨t,by exact Z (aK h) U⟩|_=>exact aD h
def pe(h:mG v=I x):v=.ref x:=by induction v with|ref a=>exact Z (aK h) U|_=>exact aD h
def zI(h:wz v=I x):v=.type x:=by induction v with|type a=>exact Z (aK h) U|_=>exact aD h
def KA(h:DQ v=I x):v=.seq x.1 x.2:=by induction v with|seq a b=>exact ax (aK h) U|_=>exact aD h
noncomputable def kH{α:Type}(o:al α)(p:α->bf):Bool:=match o with|some a=>p a|none=>ag
def lC(h:kH o p=B):∃a,o=I a/\p a=true:=by induction o with|none=>exact ft h|some a=>exact⟨a,U,h⟩
def zJ(P:aR)(l:D jt):D DictEntry:=l.map λe=>match tz e.key with|some x=>⟨fk P x,.str x<|ack e.key,e.val⟩|none=>e
noncomputable def KC(v:ah):Bool:=match v with|.none=>B|_=>ag
noncomputable def KD(b:bf)(v:ah):Bool:=match v with|.bool c=>b==c|_=>ag
noncomputable def KG(i:V)(v:ah):Bool:=match v with|.int j _=>i==j|_=>ag
noncomputable def KH(m:aX)(v:ah):Bool:=match v with|.builtin k=>m==k|_=>ag
def acl(h:KC v=B):v=.none:=by induction v with|none=>rfl|_=>exact ft h
def acm(h:KD b v=B):v=.bool b:=by induction v with|bool c=>exact Z (eq_of_beq<|show(b==c)=B from h) U|_=>exact ft h
def acn(h:KG i v=B):∃t,v=.int i t:=by induction v with|int j t=>exact⟨t,by exact Z (eq_of_beq<|show(i==j)=B from h) U⟩|_=>exact ft h
def aco(h:KH m v=B):v=.builtin m:=by induction v with|builtin k=>exact Z (eq_of_beq<|show(m==k)=B from h) U|_=>exact ft h
section
variable(t:bc->al dw) (fa ca:aX->al bc)
noncomputable def zK(f:CV->ah->bf):D CV->D ah->bf
 |[],a=>(match a with|[]=>B|_::_=>ag)
 |c::d,a=>(match a with|[]=>ag|v::a=>f c v&&zK f d a)
def gvT(f:CV->ah->bf)(a:D CV)(o:dw):Bool:=kH (wz o.cls) (·=="tuple")&&kH (DQ o.data) λd=>zK f a d.1.toList
noncomputable def wA:J->CV->ah->bf
 |0,_,_=>ag
 |n+1,c,v=>match c with
  |.none=>KC v|.bool b=>KD b v|.int i=>KG i v|.str x=>kH (tz v) (x==·)|.tup d=>kH (mG v) λa=>kH (t a)<|gvT (wA n) d
  |.fn q=>kH (mG v) λa=>kH (fa q) (rO · a)|.cls q=>kH (mG v) λa=>kH (ca q) (rO · a)|.typ m=>kH (wz v) (m==·)|.blt m=>KH m v|_=>ag
def acq(n:J):D CV->D ah->Bool:=zK<|wA t fa ca n
noncomputable def zL(n:J):D (CV×CV)->D jt->bf
 |[],a=>(match a with|[]=>B|_::_=>ag)
 |e::c,a=>(match a with|[]=>ag|d::a=>(match e.1 with|.str x=>kH (tz d.key) (x==·)|_=>ag)&&wA t fa ca n e.2 d.val&&zL n c a)
end
def KI(H:∀c v,f c v=B->sU F c v):∀(c:D CV)(v:D ah),zK f c v=B->∀G:Gh,(∀a o,F.base.get? a=I o->G.fz a=I o)->bn F G c v:=by
 intro c;induction c with
 |nil=>intro v h G e;induction v with
  |nil=>exact .nil|cons _ _=>exact ft h
 |cons c cs ih=>intro v h G e;induction v with
  |nil=>exact ft h|cons v vs=>have h:=(cN _ _).mp h;exact .cons (H c v h.1 G e)<|ih vs h.2 G e
def DS(f:gA F.base t):∀(n:J)(c:CV)(v:ah),wA t F.jk F.cU n c v=B->sU F c v:=by
 intro n;induction n with
 |zero=>exactλc v h=>ft h|succ n ih=>
  intro c v h G hG;induction c using CV.casesOn with
  |none=>exact(acl h)▸.none|bool b=>exact(acm h)▸.bool _|int b=>refine aJ (acn h) λt cy=>?_;subst cy;exact .int _ _|str x=>refine av (lC h) λy e h=>aJ (DR e) λt cy=>?_;subst cy;exact(eq_of_beq<|show(x==y)=B from h)▸.str _ _
  |typ m=>exact av (lC h) λy e h=>(zI e)▸(eq_of_beq<|show(m==y)=B from h)▸.typ _
  |blt b=>exact(aco h)▸.blt _|fn q=>exact av (lC h) λa e h=>av (lC h) λb e2 h=>(pe e)▸(rP h)▸.fn e2
  |cls q=>exact av (lC h) λa e h=>av (lC h) λb e2 h=>(pe e)▸(rP h)▸.cls e2
  |tup xs=>refine av (lC h) λa e h=>av (lC h) λo e2 h=>?_;have h:=(cN _ _).mp h;exact av (lC h.1) λm e3 h3=>av (lC h.2) λd e4 h4=>Z (pe e)<|.tup (vs:=d.1.toList) (n:=d.2) (hG _ _ (f _ _ e2)) (Z (zI e3) (Z (eq_of_beq (show(m=="tuple")=B from h3)) U)) ((Pk)▸KA e4) (KI ih xs _ h4 G hG)
  |_=>exact ft h
def acr(f:gA F.base t)(es:D (CV×CV)):∀(ds:D jt),zL t F.jk F.cU n es ds=B->ds=zJ F.w.params ds->
 ∃cY,(∀G:Gh,(∀a o,F.base.get? a=I o->G.fz a=I o)->cP F G es cY)/\Pairs (strKind F.pg F.w) ds cY/\(∀e∈ds,∃k,(strKind F.pg F.w).is k e.key=B/\e.hash=(strKind F.pg F.w).hash k)/\cY.map (·.1)=es.filterMap (λe=>match e.1 with|.str x=>I x|_=>W):=by
 induction es with
 |nil=>intro ds h _;induction ds using bk with
  |nil=>exact⟨[],λY Y=>.nil,.nil,λY he=>aF he rz,U⟩|cons _ _=>exact ft h
 |cons e es ih=>intro ds h hr;induction ds using bk with
  |nil=>exact ft h|cons d ds=>
   have h:=(cN _ _).mp h;have h':=(cN _ _).mp h.1;unfold zJ at hr;replace hr:=(fq)▸hr;have r1:=(rQ hr).1;refine l5 (ih ds h.2 (rQ hr).2) λcY a1 a2 a3 a4=>?_;clear h ih;obtain⟨c0,c⟩:=e;have h1:=h'.1;clear hr;clear h;induction c0 using CV.casesOn with
   |str x=>
    refine av (lC h1) λy e1 q=>?_;have q:x=y:=eq_of_beq q;clear h1;subst q;clear q;obtain⟨hs,ky,vl⟩:=d;refine aJ (DR e1) λu cy=>?_;subst cy;refine⟨(x,vl)::cY,λG hG=>.cons (DS f n c vl h'.2 G hG)<|a1 G hG,.cons (nh x u) U a2,λe he=>?_,by exact Z fq<|Z a4 U⟩;clear e1 a4 a2 a1 cY h' es;rcases List.mem_cons.mp he with rfl|he
    exact⟨x,nh x u,bq am1 r1⟩;exact a3 e he
   |_=>exact ft h1
def acs(c:gA F.base t)(i:a≠g6)(e:t a=I {cls:=.type "dict",data:=.dict d m})(j:zL t F.jk F.cU n f d.toList=B)(k:d.toList=zJ F.w.params d.toList)
 (nd:(f.filterMap λe=>match e.1 with|.str x=>I x|_=>W).Nodup):sU F (.dA f) (.ref a):=λG h=>l5 (acr c f d.toList j k) λp q a2 a3 a4=>.dA i (h _ _<|c _ _ e) ⟨d,m,⟨U,U,U⟩,U,λe he=>a3 e<|by simpa using he,a2,by rw[a4];exact nd⟩<|q G h
noncomputable def iX:D (aX×bc):=[("_wall",21),("Thing.__init__",37),("Text.__init__",59),("ListThing.__init__",79),("TableThing.__init__",98),("TableThing.put",105),("TableThing.row",112),("TableThing.pairs",117),("RangeThing.__init__",137),("ProcThing.__init__",158),("ErrorThing.__init__",178),("FiberThing.__init__",198),("ModuleThing.__init__",218),("ModuleThing.is_own",225),("is_int",237),("sort_of",244),("same",251),("takes_in",258),("code_of",264),("is_word",271),("is_figures",276),("is_label",283),("is_plain_symbol",290),("full_name",297),("show_letter",304),("show_text",309),("show_symbol",316),("show_pair",323),("show_range",330),("show_held",335),("show_thing",342),("message_text",350),("show",358),("named",365),("whole",372),("need_room",380),("figures",387),("letters",400),("read_int",408),("in_room",415),("integer_for",422),("display",429),("Format.__init__",443),("Format.padded",450),("Format.number",457),("Formatter.__init__",478),("Formatter.value",485),("Formatter.letter",492),("Formatter.count",499),("Formatter.sign",506),("Formatter.piece",513),("Formatter.whole",520),("filled",534),("GemError.__init__",549),("Raised.__init__",569),("raise_version",581),("own_module",588),("class_above",595),("make_own",602),("World.__init__",630),("World.tick",637),("World.write",644),("World.number",651),("World.next_ident",658),("World.ident",665),("World.builtin",672),("World.make_builtin",677),("World.give_own",684),("World.new_module",692),("World.class_of",699),("World.own_of",706),("World.own_behind",713),("World.root_of",720),("World.real_class",727),("World.text",734),("World.list_of",741),("World.table_of",748),("World.key_of",755),("World.range_of",762),("World.proc",769),("World.thing",776),("World.is_error_class",783),("World.spread",790),("World.numbers_of",797),("World.need_size",804),("World.sized_text",811),("World.error",818),("World.fail",825),("World.need_thawed",832),("World.set_field",839),("World.describe",846),("World.own_constant",853),("World.find_constant",860),("World.constant",867),("World.find_in",874),("World.constant_in",881),("World.set_constant",888),("_law_box",902),("_law_take",909),("_law_size",916),("_law_place",921),("_law_row",926),("_law_figures",933),("_law_numeral",940),("_law_strange",947),("_law_amount",954),("_law_value",961),("_law_run",968),("_law_units",975),("_law_wants",980),("_law_ahead",987),("_law_padded",994),("_law_number",1001),("_law_told_by",1008),("_law_piece",1015),("_law_due",1022),("_law_heard",1029),("_law_agrees",1036),("_law_turn_right",1041),("law",1048)]
noncomputable def gu:D (aX×bc):=[("Thing",40),("Text",62),("ListThing",82),("TableThing",120),("RangeThing",140),("ProcThing",161),("ErrorThing",181),("FiberThing",201),("ModuleThing",228),("Format",460),("Formatter",523),("GemError",552),("Raised",572),("World",891),("Raised!",572)]
noncomputable def DT:D Addr:=[2,21,37,39,40,59,61,62,79,81,82,98,105,112,117,119,120,137,139,140,158,160,161,178,180,181,198,200,201,218,225,227,228,237,244,251,258,264,271,276,283,290,297,304,309,316,323,330,335,342,350,358,365,372,380,387,400,408,415,422,429,443,450,457,459,460,478,485,492,499,506,513,520,522,523,534,549,551,552,569,571,572,581,588,595,602,630,637,644,651,658,665,672,677,684,692,699,706,713,720,727,734,741,748,755,762,769,776,783,790,797,804,811,818,825,832,839,846,853,860,867,874,881,888,890,891,902,909,916,921,926,933,940,947,954,961,968,975,980,987,994,1001,1008,1015,1022,1029,1036,1041,1048]
def tt(P:aR)(a:bc):al Obj:=match Nat.blt a 1049 with|true=>((Head.TF P).get a).bind W.alive|false=>W
def act(P:aR):gA (Head.H1 P) (tt P):=by
 intro a o e;unfold tt at e;refine aL λc=>?_;split at e;rename_i h;exact av (Option.bind_eq_some_iff.mp e) λq d f=>c<|(W.abs_get (by simpa using h) d).trans f
 exact aD e
def KK(P:aR):W.Frag:=DT.map λa=>(a,(tt P a).getD default)
def acu(P:aR):DT.all (λa=>(tt P a).isSome)=true:=by kernel_rfl
def acv(c:gA b (tt P)):(KK P).In b:=by
 refineλa o e=>c a o ?_;have d:=acu P;unfold KK at e;generalize DT=l at e d;induction l with
 |nil=>cases e
 |cons b l f=>
  rw[gc,cN]at d;rw[fq,gh]at e;cases q:a==b with
  |true=>rw[q]at e;have:=eq_of_beq q;subst this;obtain⟨i,h⟩:=Option.isSome_iff_exists.mp d.1;rw[h]at e⊢;exact e
  |false=>rw[q]at e;exact f e d.2
def fW(w:cF)(os:dM)(b:bG):au where
 pg:=pw
 w:=w
 os:=os
 base:=b
 jk:=λq=>iX.lookup q
 cU:=λc=>gu.lookup c
 exc:=O.exc
 fresh:=λc=>c=="Raised"
noncomputable def wB(v:Data):al (js jt×J):=match v with|.dict a n=>I (a,n)|_=>W
def KJ(h:wB v=I x):v=.dict x.1 x.2:=by induction v using FI with|dict c n=>exact aK h▸rfl|_=>exact aD h
noncomputable def KL(v:Data):al (js ah):=match v with|.fields a=>I a|_=>W
def acw(h:KL v=I x):v=.fields x:=by induction v using FI with|fields c=>exact aK h▸rfl|_=>exact aD h
noncomputable def KN(v:Data):al FuncData:=match v with|.func fd=>I fd|_=>W
def acx(h:KN v=I x):v=.func x:=by induction v using FI with|func fd=>exact aK h▸rfl|_=>exact aD h
noncomputable def DU(v:ah):Bool:=match v with|.none=>B|_=>ag
noncomputable def KO(v:ah):al String:=match v with|.builtin a=>I a|_=>W
def acy(h:KO v=I x):v=.builtin x:=by induction v using akL with|builtin a=>exact aK h▸rfl|_=>exact aD h
def dU(h:o.any f=B):∃x,o=I x/\f x=true:=by
 rcases o with _|x
 exact ft h;exact⟨x,U,h⟩
def lD(P:aR)(a:bc):js DictEntry:=(((tt P a).bind λo=>wB o.data).map (·.1)).getD #[]
def zM(P:aR)(a:bc):Bool:=((tt P a).bind λo=>wB o.data).any λp=>p.1.toList.all λe=>(tz e.key).isSome
def wC(c:gA b (tt P))(h:zM P a=B):b.Ns a (Bj<|lD P a):=by
 refine av (dU h) λd f h=>?_;obtain⟨i,n⟩:=d;have j:lD P a=i:=by unfold lD;exact Z f U
 refine av (dE f) λo e m=>Z j<|⟨o,i,n,c a _ e,KJ m,λx p=>?_,λY=>rfl⟩
 have:=List.all_eq_true.mp h x<|by simpa using p
 generalize x.key=k at this;induction k with|str y t=>exact⟨y,t,U⟩|_=>exact ft this
def KP(P:aR):zM P 3=true:=by kernel_rfl
def acz(P:aR):zM P 0=true:=by kernel_rfl
def KQ(P:aR):zM P 2=true:=by kernel_rfl
noncomputable def DV:D Addr:=[22,393,604,607]
def acA(P:aR):DV.map (λa=>(lD P a).toList)=DV.map (λa=>zJ P (lD P a).toList):=by kernel_rfl
noncomputable def wD:D H->bf
 |[]=>B|x::l=>!l.contains x&&wD l
noncomputable def DW:∀{l:D H},wD l=B->l.Nodup
 |[],_=>uy|x::l,h=>by replace h:(!l.contains x&&wD l)=B:=h;rw[cN]at h;exact List.nodup_cons.mpr ⟨by simpa using h.1,DW h.2⟩
def KR(P:aR)(a:bc)(d:D (CV×CV)):Bool:=DV.contains a&&(tt P a).any λo=>(wB o.data).any λp=>(wz o.cls).any (·=="dict")&&o.dict.isNone&&o.slots.size==0&&zL (tt P) (λq=>iX.lookup q) (λc=>gu.lookup c) 30 d p.1.toList&&wD (d.filterMap λe=>match e.1 with|.str x=>I x|_=>W)
noncomputable def KS(c:CV):al (D<|CV×CV):=match c with|.dA a=>I a|_=>W
def acB(h:KS c=I x):c=.dA x:=by induction c using CV.casesOn with|dA y=>exact aK h▸rfl|_=>exact aD h
def gB(P:aR)(c:CV)(v:ah):Bool:=(KS c).elim (wA (tt P) (λq=>iX.lookup q) (λc=>gu.lookup c) 30 c v) λd=>(mG v).any λa=>KR P a d
def acC(P:aR)(p:H×CV):Bool:=(Bj (lD P 3) p.1).elim ((Bj (lD P 0) p.1).any λv=>gB P p.2 v) λv=>gB P p.2 v
def KU{k:dM}(d:gA b (tt w.params))(h:gB w.params c v=B):sU (fW w k b) c v:=by
 refine r9 (P:=λb=>b=B) h (λY h=>DS (F:=fW w k b) d 30 _ _ h) λM e q=>?_;clear h;obtain rfl:=acB e;clear e;refine av (dU q) λa e h=>?_;clear q;obtain rfl:=pe e;clear e;unfold KR at h;rw[cN]at h;refine aI h λr f=>av (dU f) λo e f=>av (dU f) λi m f=>?_;obtain⟨s,n⟩:=i;rw[cN,cN,cN,cN]at f;refine aI f λi x=>?_;obtain⟨⟨⟨j,y⟩,l⟩,A⟩:=i;clear f;refine av (dU j) λE G j=>?_;have Q:lD w.params a=s:=by unfold lD;refine Z e ?_;show(((wB o.data)).map (·.1)).getD #[]=_;exact Z m U
 clear f;obtain⟨T,X,S,L⟩:=o;clear f h;obtain rfl:S=.dict s n:=KJ m;clear m;obtain rfl:T=.type E:=zI G;clear G;obtain rfl:E="dict":=eq_of_beq j;clear j;obtain rfl:X=none:=Option.isNone_iff_eq_none.mp y;clear y j;obtain rfl:L=#[]:=NY<|by simpa using l
 have p:=List.map_inj_left.mp (acA w.params) a<|by simpa using r
 rw[Q]at p;refine acs (F:=fW w k b) (t:=tt w.params) (n:=30) d ?_ e A p<|DW x
 intro z;clear p Q x A l e;subst z;exact aF r<|by lk
def acD(P:aR):Hy.all (·.all (acC P))=true:=by kernel_rfl
def KV{β:Type}{l:D (H×β)}{b:β}(h:ay l x=I b):(x,b)∈l:=by
 induction l with
 |nil=>cases h
 |cons p l d=>
  induction p using Prod.casesOn with
  |_ y c=>by_cases q:y=x;rw[l7 q]at h;clear d;obtain rfl:=aK h;subst q;exact dj ..;rw[jI q]at h;exact eW _<|d h
def acE(w:cF)(f:dM)(a:gA b (tt w.params))(x:H)(c:CV)(h:O.glob x=I c):Iw (fW w f b) x c:=by
 refine av (Option.bind_eq_some_iff.mp h) λl i h=>?_;have d:=List.all_eq_true.mp (List.all_eq_true.mp (acD w.params) _<|List.mem_of_getElem? i) _<|KV h
 exact⟨_,wC a<|KP w.params,r9 (P:=λb=>b=B) d (λe d=>av (dU d) λv i d=>.inr ⟨e,_,v,wC a<|acz w.params,i,KU a d⟩) λv e d=>.inl ⟨v,e,KU a d⟩⟩
def nO(r:al (al ah))(a:aX):Bool:=r.any λo=>o.any λv=>(KO v).any (·==a)
def ph{d:aX}(h:nO r d=B):r=I (I<|.builtin d):=by refine av (dU h) λo a f=>?_;subst a;refine av (dU f) λv a i=>?_;subst a;exact av (dU i) λx e h=>Z (acy e)<|Z (eq_of_beq h) U
def DX(r:al (al ah))(a:bc):Bool:=r.any λo=>o.any λv=>(mG v).any (rO · a)
def KW(h:DX r a=B):r=I (I<|.ref a):=by refine av (dU h) λo c d=>?_;subst c;refine av (dU d) λv c f=>?_;subst c;exact av (dU f) λx e h=>Z (pe e)<|Z (rP h) U
noncomputable def zN(r:al (al ah)):Bool:=r.any Option.isNone
def DY(h:zN r=B):r=I none:=av (dU h) λo e h=>e.trans<|bq I (Option.isNone_iff_eq_none.mp h)
noncomputable def pi(r:al bf)(b:bf):Bool:=r.any (·==b)
def qV(h:pi r b=B):r=I b:=av (dU h) λc e h=>e.trans<|bq I (eq_of_beq h)
def kI{l:D (aX×β)}(h:l.lookup x=I b):(x,b)∈l:=by
 induction l with
 |nil=>cases h
 |cons p l a=>
  rw[gh]at h;cases q:x==p.1 with
  |true=>have:=eq_of_beq q;clear a;subst this;rw[q]at h;obtain rfl:=aK h;exact dj ..
  |false=>rw[q]at h;exact eW _<|a h
def zO(P:aR)(p:aX×bc):Bool:=rM (KK P) (.ref p.2)&&(O.exc p.1||((pT (KK P) p.2).any (·.hasDict)&&nO (fp (KK P) (.ref p.2) "__getattribute__") "object.__getattribute__"&&
 nO (fp (KK P) (.ref p.2) "__setattr__") "object.__setattr__"&&ajw (KK P) p.2&&zN (fp (KK P) (.ref p.2) "__getattr__")&&O' (KK P) p.2&&Pe (KK P) p.2 "__class__"&&
 nO (fp (KK P) (.ref p.2) "__class__") "object.__class__"&&pi (pU (KK P) p.2<|.type "object") B))
def acF(P:aR):gu.all (zO P)=true:=by kernel_rfl
def KX{P:aR}(h:gu.lookup c=I a):zO P (c,a)=true:=List.all_eq_true.mp (acF P) _<|kI h
def zP(h:gu.lookup c=I a)(i:O.exc c=ag):CF (KK P) a/\fp (KK P) (.ref a) "__getattr__"=I W/\O' (KK P) a=B/\
 Pe (KK P) a "__class__"=B/\akz (KK P) a=B/\fp (KK P) (.ref a) "__class__"=I (I<|.builtin "object.__class__")/\pU (KK P) a (.type "object")=I true:=by
 have q:=KX (P:=P) h;unfold zO at q;simp only [i,uH,cN]at q;refine aL λj=>cB q λv f k=>?_;obtain⟨⟨⟨⟨⟨⟨⟨d,m⟩,n⟩,o⟩,p⟩,r⟩,s⟩,t⟩:=f;refine j<|⟨⟨?_,ph m,ph n,o⟩,DY p,r,s,d,ph t,qV k⟩
 cases e:pT (KK P) a with
 |none=>rw[e]at d;cases d
 |some cd=>rw[e]at d;exact⟨cd,U,d⟩
def zQ(P:aR)(a:bc):Bool:=nO (fp (KK P) (.ref a) "__getattribute__") "BaseException.__getattribute__"&&nO (fp (KK P) (.ref a) "__setattr__") "object.__setattr__"&&zN (fp (KK P) (.ref a) "__getattr__")&&
 nO (uB (KK P) (.ref a) "__call__") "type.__call__"&&pi (W.instIn (KK P) (.ref a)<|.type "type") B
def acG(P:aR):zQ P 552=true:=by kernel_rfl
def acH(P:aR):zQ P 572=true:=by kernel_rfl
def acI(P:aR):(KK P).lookup 552=I (Head.QR P):=by kernel_rfl
def acJ(P:aR):(KK P).lookup 572=I (Head.QS P):=by kernel_rfl
def KY(h:zQ P a=B)(d:∃c:Xc,(KK P).lookup a=I (c.o a)/\oZ c.bm):jm (KK P) a:=by unfold zQ at h;simp only [cN]at h;refine aL λe=>?_;obtain⟨⟨⟨⟨f,i⟩,j⟩,k⟩,m⟩:=h;exact e<|⟨d,ph f,ph i,DY j,ph k,qV m⟩
def acK{c:aX}(h:gu.lookup c=I a)(e:O.exc c=B):a=552\/a=572:=by
 have:gu.all (λp=>!O.exc p.1||(rO p.2 552||rO p.2 572))=true:=by decide +kernel
 have q:=List.all_eq_true.mp this _<|kI h
 simp only [e,F5,uH,om]at q;exact q.imp rP rP
def KZ(P:aR)(p:aX×bc):Bool:=sC.all (·.all λx=>!O.attr p.1 x||zN (fp (KK P) (.ref p.2) x))
def acL(P:aR):gu.all (KZ P)=true:=by kernel_rfl
def K2(w:cF)(i:dM){b:bG}(a:gA b (tt w.params)):d0 O (fW w i b) (KK w.params) where
 gW:=acv a
 exc:=U
 glob:=acE w i a
 cls c d h f:=(zP h f).1
 ex c d h f:=by
  rcases acK h f with rfl|rfl
  exact KY (acG _) ⟨⟨_,_,_,_,_,_,_,_,_,_,_,_,_,_,_⟩,acI _,[],U⟩;exact KY (acH _) ⟨⟨_,_,_,_,_,_,_,_,_,_,_,_,_,_,_⟩,acJ _,[552],U⟩
 up c c' h:=by have e:O.up c=if(c=="Raised")=B then I "Raised!" else none:=U;rw[e]at h;split at h;rename_i q;have:=eq_of_beq q;clear e;subst this;obtain rfl:=aK h;exact⟨by kernel_rfl,by kernel_rfl,by kernel_rfl,by kernel_rfl,by kernel_rfl⟩;clear e;exact aD h
 vV c d x h f:=by
  have q:=List.all_eq_true.mp (acL w.params) _<|kI h
  have q:=λl m=>List.all_eq_true.mp (List.all_eq_true.mp q l m) x;have f0:((sC[x.cps.size]?).any (·.contains x)&&(vB c x).isNone)=true:=f;rw[cN]at f0;refine av (dU f0.1) λl i k=>?_;have q:=q l (List.mem_of_getElem? i) (by simpa using k);simp only [f,F5,uH]at q;exact DY q
section
variable(t:bc->al dw) (fa ca:aX->al bc)
def PS(a:uO):Bool:=(mG a.code).any λc=>(t c).any λo=>(KL o.data).any λd=>(d[1]?:al ah).any λv=>(tz v).any (·==a.qualname)
def DZ(a:uO)(c:D CV):Bool:=match mG a.defaults with|none=>DU a.defaults&&c.isEmpty|some d=>(t d).any λo=>(DQ o.data).any λp=>acq t fa ca 30 c p.1.toList
def K3(f:jH)(a:bc):Bool:=(t a).any λo=>(KN o.data).any λc=>c.params.posonlyargs.isEmpty&&(c.params.args.map (·.arg)==f.params)&&c.params.vararg.isNone&&c.params.kwonlyargs.isEmpty&&c.params.kwarg.isNone&&wD f.params&&c.closure.isEmpty&&
 rO c.globals lK&&rO c.builtins uo&&PS t c&&DZ t fa ca c f.km&&lc f.km.length f.params.length&&!f.sc.isCoroutine&&!f.sc.isGenerator&&decide (f.sc.kind=.function)&&
 f.params.all (λx=>decide (f.sc.names.lookup x=I .local)||decide (f.sc.names.lookup x=I .cell))&&f.sc.names.all (λp=>!decide (p.2=.free))
noncomputable def K4(o:dw):al (FuncBody×f9):=match o with|⟨_,_,.func fd,_⟩=>I (fd.body,fd.scope)|_=>W
end
def acM{F:au}(a:gA F.base t)(h:PS t fd=B):F.base.CodeRec fd.code fd.qualname:=by refine aL λj=>av (dU h) λc e h=>av (dU h) λo k h=>av (dU h) λm n h=>av (dU h) λv i h=>av (dU h) λq p h=>aJ (DR p) λd f=>?_;subst f;rw[eq_of_beq h]at i;exact j<|⟨c,o,m,d,pe e,a _ _ k,acw n,i⟩
def acN(h:DU v=B):v=.none:=by induction v using akL with|none=>rfl|_=>exact ft h
def acO(c:gA F.base t)(h:DZ t F.jk F.cU fd i=B):∃f,qO F.base fd f/\∀G:Gh,(∀a o,F.base.get? a=I o->G.fz a=I o)->bn F G i f:=by
 unfold DZ at h;refine aL λk=>?_;rcases e:mG fd.defaults with _|d
 rw[e]at h;replace h:(DU fd.defaults&&i.isEmpty)=true:=h;rw[cN]at h;obtain rfl:=List.isEmpty_iff.mp h.2;exact k<|⟨[],.none (acN h.1),λY Y=>.nil⟩
 rw[e]at h;refine av (dU (o:=t d) h) λo e2 h=>av (dU h) λDD e3 h=>?_;obtain⟨f,m⟩:=DD;exact k<|⟨f.toList,.tup (pe e) (c _ _ e2) (n:=m) (Z (KA e3) (Z Pk U)),KI (DS c 30) i f.toList h⟩
def iC{P:Prop}(h:(a&&b)=B)(k:a=B->b=B->P):P:=aI (Bool.and_eq_true_iff.mp h) k
def acP{T:Tab}{c:bK}(d:gA F.base t)(h:K3 t F.jk F.cU f a=B)(hv:(t a).bind K4=I (.stmts f.body,f.sc))(hk:rM c (.ref a)=B):∃o fd ds,Df T F c q a f o fd ds:=by
 refine aL λhG=>av (dU h) λo e z1=>?_;clear h;refine av (dU z1) λfd e3 h=>?_;clear z1;obtain⟨oc,od,da,sl⟩:=o;obtain rfl:da=.func fd:=acx e3;rw[e]at hv;have hv:I (fd.body,fd.scope)=I (akM f.body,f.sc):=hv;replace hv:=aK hv;refine aI (Prod.mk.inj hv) λhv1 wE=>iC h λh h17=>iC h λh h16=>iC h λh h15=>iC h λh h14=>iC h λh h13=>iC h λh h12=>iC h λh h11=>iC h λh h10=>iC h λh h9=>iC h λh h8=>iC h λh h7=>iC h λh h6=>iC h λh h5=>iC h λh h4=>iC h λh h3=>iC h λh1 h2=>av (acO d h11) λvs d1 d2=>hG ?_;refine⟨_,fd,vs,⟨d _ _ e,U,⟨List.isEmpty_iff.mp h1,eq_of_beq h2,Option.isNone_iff_eq_none.mp h3,List.isEmpty_iff.mp h4,Option.isNone_iff_eq_none.mp h5,DW h6⟩,hv1,wE,List.isEmpty_iff.mp h7,rP h8,rP h9,
  acM d h10,d1,d2,eX h12,(og _).mp h13,(og _).mp h14,jx h15,λx hx=>?_,λy hy=>?_,hk⟩⟩
 have:=List.all_eq_true.mp h16 x hx;rw[om,il,il]at this;exact this;have:=List.all_eq_true.mp h17 _<|rN hy
 simp at this
def K5(P:aR)(p:aX×bc):Bool:=rM (KK P) (.ref p.2)&&match O.fns p.1 with|some f=>K3 (tt P) (λq=>iX.lookup q) (λc=>gu.lookup c) f p.2|none=>ag
def acZ(P:aR):iX.all (K5 P)=true:=by kernel_rfl
def ac0(P:aR):iX.map (λp=>(tt P p.2).bind K4)=iX.map (λp=>(O.fns p.1).map λf=>(akM f.body,f.sc)):=by kernel_rfl
def zR(w:cF)(i:dM)(c:gA b (tt w.params))(h:iX.lookup q=I a):∃f,O.fns q=I f/\rM (KK w.params) (.ref a)=B/\∃o n p,Df O (fW w i b) (KK w.params) q a f o n p:=by
 have j:=kI h;have d:=List.all_eq_true.mp (acZ w.params) _ j;have m:=List.map_inj_left.mp (ac0 w.params) _ j;unfold K5 at d;rw[cN]at d;obtain⟨k,d⟩:=d;cases e:O.fns q with
 |none=>rw[e]at d;cases d
 |some f=>rw[e]at d m;exact⟨f,U,k,acP (F:=fW w i b) c d m k⟩
def K6(r:al ah)(n:aX):Bool:=r.any λv=>(wz v).any (·==n)
def ac1(h:K6 r n=B):r=I (.type n):=by refine av (dU h) λv c d=>?_;subst c;exact av (dU d) λx e h=>Z (zI e)<|Z (eq_of_beq h) U
def K7(r:W.CFound):al Addr:=match r with|.val v=>mG v|_=>W
def ac2(h:K7 r=I a):r=.val (.ref a):=by induction r using am2 with|val v=>exact Z (pe h) U|_=>exact aD h
def K8(r:al W.CFound)(a:bc):Bool:=r.any λv=>(K7 v).any (rO · a)
def ac3(h:K8 r a=B):r=I (.val<|.ref a):=by refine av (dU h) λv c d=>?_;subst c;exact av (dU d) λx e h=>Z (ac2 e)<|Z (rP h) U
def mB(P:aR)(c:bc)(p:H×CV):Bool:=(si p.2).any λq=>(iX.lookup q).any λa=>DX (fp (KK P) (.ref c) p.1) a&&K6 (FA (KK P)<|.ref a) "function"&&O9 (KK P) c (.type "type")&&K8 (Bg (KK P) (.ref c) (.type "type") p.1) a&&nO (uB (KK P) (.ref c) "__getattribute__") "type.__getattribute__"
def ac4(P:aR)(p:aX×D (H×CV)):Bool:=(gu.lookup p.1).any λa=>p.2.all<|mB P a
def ac5(P:aR):vz.all (ac4 P)=true:=by kernel_rfl
def ac6(i:gu.lookup c=I a)(h:O.gP c x=I f):mB P a (x,f)=true:=by
 have h:(vz.lookup c).bind (λl=>ay l x)=I f:=h;refine av (Option.bind_eq_some_iff.mp h) λl j k=>?_;have q:=List.all_eq_true.mp (ac5 P) _<|kI j
 refine av (dU q) λd e q=>?_;obtain rfl:=aK<|i.symm.trans e
 exact List.all_eq_true.mp q _<|KV k
def K9(j:gu.lookup c=I d)(h:O.gP c x=I f):∃q a,f=.fn q/\iX.lookup q=I a/\fp (KK P) (.ref d) x=I (I<|.ref a)/\
 FA (KK P) (.ref a)=I (.type "function")/\O9 (KK P) d (.type "type")=B/\Bg (KK P) (.ref d) (.type "type") x=I (.val<|.ref a)/\uB (KK P) (.ref d) "__getattribute__"=I (I<|.builtin "type.__getattribute__"):=by
 have q:=ac6 (P:=P) j h;refine av (dU q) λi e q=>av (dU q) λa k q=>?_;simp only [cN]at q;obtain⟨⟨⟨⟨m,n⟩,o⟩,p⟩,r⟩:=q;exact⟨i,a,yw e,k,KW m,ac1 n,o,ac3 p,ph r⟩
def PT(w:cF)(os:dM)(d:gA b (tt w.params)):tq O (fW w os b) (KK w.params) where
 J1 q a h:=(zR w os d h).choose_spec.2.1
 J2 c i h:=by have q:=KX (P:=w.params) h;unfold zO at q;rw[cN]at q;exact q.1
 gt c i h hx:=(zP h hx).2.1
 gP c i x f hc h:=GB (K9 (P:=w.params) hc h) λq a e e2 h1 h2 zz=>⟨q,a,e,e2,h1,h2⟩
 cls c i x f hc h:=RM (K9 (P:=w.params) hc h) λq a e e2 zz zz h3 h4 h5=>⟨q,a,_,e,e2,h3,h4,h5⟩
 make c i h hx:=(zP h hx).2.2.1
def K'(P:aR)(p:aX×bc):Bool:=O.exc p.1||(gu.all (λe=>pi (gz (KK P) (.ref p.2)<|.ref e.2)<|O.sub p.1 (.cls e.1))&&["int","str","bool","list"].all λn=>pi (gz (KK P) (.ref p.2)<|.type n) ag)
def ac7(P:aR):gu.all (K' P)=true:=by kernel_rfl
def tcB(P:aR)(p:aX×bc):Bool:=["NoneType","bool","int","str"].all λn=>pi (gz (KK P) (.type n)<|.ref p.2) ag
def ac9(P:aR):gu.all (tcB P)=true:=by kernel_rfl
def ada(P:aR):nO (uB (KK P) (.builtin "object.__class__") "__get__") "getset_descriptor.__get__"=true:=by kernel_rfl
def adb(P:aR):pi (akA (KK P)<|.builtin "object.__class__") B=true:=by kernel_rfl
def La(h:gu.lookup d=I a)(f:O.exc d=ag):(∀e c,gu.lookup e=I c->gz (KK P) (.ref a) (.ref c)=I (O.sub d<|.cls e))/\∀n∈["int","str","bool","list"],gz (KK P) (.ref a) (.type n)=I false:=by
 have q:=List.all_eq_true.mp (ac7 P) _<|kI h
 unfold K' at q;simp only [f,uH,cN]at q;exact⟨λe c i=>qV<|List.all_eq_true.mp q.1 _ (kI i),λn j=>qV<|List.all_eq_true.mp q.2 n j⟩
def Lb(w:cF)(k:dM)(b:bG):wr O (fW w k b) (KK w.params) where
 own d a h f:=Bw (zP (P:=w.params) h f) λj j j q1 q2 q3 q4=>⟨q1,q2,q3,q4⟩
 cg:=ph<|ada _
 tk:=qV<|adb _
 cc d a e c h f he:=(La h f).1 e c he
 ct d a n h f i:=(La h f).2 n<|qR i (dk U) (dk U) (dk U) (dk U)
 tc e c n h i:=by
  have q:=List.all_eq_true.mp (ac9 w.params) _<|kI h
  exact qV<|List.all_eq_true.mp q n i
def Lc(P:aR)(p:aX×bc):Bool:=!O.exc p.1||gu.all λe=>!O.sub p.1 (.cls e.1)||(O.exc e.1&&pi (pU (KK P) p.2<|.ref e.2) B)
def adc(P:aR):gu.all (Lc P)=true:=by kernel_rfl
def Ld(w:cF)(f:dM)(b:bG):tv O (fW w f b) (KK w.params) where
 ec d a c e h i j k:=by
  have q:=List.all_eq_true.mp (adc w.params) _<|kI h
  unfold Lc at q;simp only [j,F5,uH]at q;have q:=List.all_eq_true.mp q _<|kI i
  simp only [k,F5,uH,cN]at q;exact⟨q.1,qV q.2⟩
def Lf(P:aR):(Bj (lD P 2) "sys.recursionlimit").isNone=true:=by kernel_rfl
def ade:∀q f,O.fns q=I f->∀a,f.native=I a->q="TableThing.pairs"/\a=ix:=by
 intro q f h a d;have g:=h;refine av (Option.bind_eq_some_iff.mp h) λl j h=>?_;have i:=kI h;have:yI.all (·.all λp=>p.2.native.isNone||p.1=="TableThing.pairs")=true:=by kernel_rfl
 have z:=List.all_eq_true.mp (List.all_eq_true.mp this _<|List.mem_of_getElem? j) _ i;rw[d]at z;have z:(q=="TableThing.pairs")=true:=z;have z:=eq_of_beq z;clear i;subst z;refine⟨U,?_⟩;have e:O.fns "TableThing.pairs"=I {az 10 3 with native:=I ix}:=by kernel_rfl
 rw[e]at g;clear e z h;obtain rfl:=aK g;clear g;obtain rfl:=aK d;rfl
def adf(w:cF)(i:dM)(c:gA b (tt w.params))(j:∀a,iX.lookup "TableThing.pairs"=I a->∀X A d,jo X A (d+1)->te O (fW w i b) X A a ix):Kz O (fW w i b) (KK w.params) where
 k0:=K2 w i c
 kc:=PT w i c
 ki:=Lb w i b
 kh:=Ld w i b
 kf:={
  lim:=⟨_,wC c<|KQ w.params,Option.isNone_iff_eq_none.mp<|Lf _⟩
  fn:=λq a h=>by refine cC (zR w i c h) λf n zz o=>⟨f,n,λY=>o,λe p=>?_⟩;clear o;refine aI (ade q f n e p) λk m=>?_;subst k;subst m;exact j a h}
def adg{F:au}{A:bS}{E:bp}{s:aM}{f:jH}{fd:uO}{a:bc}{cs:D CV}{ws:D ah}{qual:H}{Q:fE->aM->Prop}(qW:F.base=s.heap)(qX:s.os=F.os)(l4:s.gens=#[])(ht:1<=s.toks)
 (qY:∃o,F.base.get? g6=I o)(zS:fd.scope=f.sc)(hg:fd.globals=lK)(hb:fd.builtins=uo)(hk:f.sc.kind=.function)(nd:f.params.Nodup)
 (pk:∀x∈f.params,f.sc.names.lookup x=I .local)(nc:∀y,f.sc.names.lookup y≠I .cell)(nf:∀y,f.sc.names.lookup y≠I .free)(V:∀G:Gh,(∀a o,F.base.get? a=I o->G.fz a=I o)->bn F G cs ws)
 (hq:∀env G' s',env.frame=I env.locals->(∀a o,F.base.get? a=I o->G'.fz a=I o)->aZ F ⟨env,B,[]⟩ G' ⟨f.params.zip (cs.map .v)++f.locs.map λx=>(x,.un),[],f.sc⟩ s'->(∀b o,s.heap.get? b=I o->s'.heap.get? b=I o)->Q env s'):
 am F.md A (FV fd.scope fd.globals [] (f.params.zip ws) qual (I a) fd.code W fd.builtins) Q E s:=by
 refine A5 ht<|akh (by exact Z zS hk) (λx hx=>?_) λenv he s' d=>?_
 exact Z zS<|.inl (pk _ (aki hx).1)
 have eL:env.locals=s.heap.objs.size:=Z he U;have eS:env.scope=f.sc:=Z he<|ax zS U
 have eF:env.frame=I env.locals:=Z he U;have eG:env.globals=mainGlobals:=Z he<|ax hg U
 have eB:env.builtins=builtinsNs:=Z he<|ax hb U
 have eK:∀y,env.kindOf y=f.sc.names.lookup y:=λy=>by show env.scope.names.lookup y=_;exact Z eS U
 clear he pk zS ht;refine eO d.toInCall.same λcR tk cy=>?_;subst cy;intro gX;have gX:1<=tk:=gX;have gq:=d.toInCall.ns;have mH:=d.toInCall.keep;dsimp only at gq mH;have cV:=gq.lt;generalize hG:({ad:=λO=>if O=.locs 0 then env.locals else cR.objs.size,ow:=λb=>if b=env.locals then .locs 0 else if(s.heap.get? b).isSome then .fz else .none,fz:=s.heap.get?,tm:=λY=>W}:Gh)=G';have z:∀a o,F.base.get? a=I o->G'.fz a=I o:=λa o e=>ax hG<|ax qW e
 have mE:G'.ow env.locals=.locs 0:=ax hG<|aa U
 have lA:G'.ad (.locs 0)=env.locals:=by refine ax hG ?_;show(if d8.locs 0=.locs 0 then env.locals else cR.objs.size)=_;exact Z (aa U) U
 have tB:s.heap.get? env.locals=none:=by
  clear lA mE a z cV mH gq gX eK eB eG eF eS hq nf nc nd hk hb hg qY l4 qX qW;cases q:s.heap.get? env.locals with
  |none=>rfl|some o=>have:=jy q;rw[eL]at this;exact aF this<|n8 _
 have tD:∀b o,s.heap.get? b=I o->G'.ow b=.fz:=λb o e=>by refine ax hG ?_;show(if b=env.locals then _ else if(s.heap.get? b).isSome=B then _ else _)=_;exact Z (u λq=>by subst q;rw[tB]at e;exact aD e)<|Z e U
 have nK:∀b,G'.ow b≠.none->(cR.get? b).isSome=true:=λb hb=>by
  clear tD tB lA mE a z cV gX eK eB eG eF eS eL hq nf nc nd hk hg qY l4 qX qW;by_cases q:b=env.locals;clear mH gX hb;subst q;exact nr gq λzz zz zz ho zz=>dy ho;rw[<-hG]at hb;change(if b=env.locals then d8.locs 0 else if(s.heap.get? b).isSome=B then d8.fz else d8.none)≠.none at hb;rw[u q]at hb;clear q gq gX;cases e:s.heap.get? b with
  |none=>rw[e]at hb;exact aF U hb|some o=>exact dy<|mH _ _ e
 have wF:∀O,O≠.locs 0->G'.ow (G'.ad O)=.none:=λO hO=>by
  have e:G'.ad O=cR.objs.size:=ax hG<|u hO
  refine Z e ?_;clear hO tD tB lA mE e a z cV mH gq gX eK eB eG eF eS eL hq nf nc nd hk hb hg qY l4 qX qW;cases q:G'.ow cR.objs.size with
  |none=>rfl|_=>have:=nK cR.objs.size (by refine Z q ?_;simp);exact aJ (Option.isSome_iff_exists.mp this) λo ho=>aF (jy ho)<|n8 _
 have V':=V G' z;refine hq env G' _ eF z ⟨(⟨qY,z,λb o q=>?_,λb p q=>?_,nK,λk ob q=>?_,λk q=>?_,λk y q=>?_,?_,trivial,λY=>eF,λg hg=>by cases hg⟩),l4,qX,gX⟩ mH;have q:s.heap.get? b=I o:=by rw[<-hG]at q;exact q
 exact⟨mH _ _ q,tD b o q⟩;rw[<-hG]at q;exact aD q;clear wF nK tD tB lA mE a z cV mH gq gX eK eB eG eF eS eL hq nf nc nd hk hb hg qY l4 qX qW;exact aD q;rw[wF _ (ao · rfl)]at q;exact ao q U;rw[wF _ (ao · rfl)]at q;exact ao q U;exact{
  kd:=λy=>.inl<|eK y,kind:=by have:=hk;rw[<-eS]at this;exact this,glob:=eG,blt:=eB,lo:=mE,la:=lA
  ns:=by
   refine⟨_,gq,λy hy sv e=>?_⟩;clear wF nK tD tB lA mE a z cV mH gq gX eB eG eF eS eL hq nf nc hk hb hg qY l4 qX qW;rcases wn V' e with rfl|⟨c,v,rfl,r1,r2⟩
   exact .un;exact Z (JL (by rw[eK];exact hy) nd)<|Z r2 (.s (.v r1))
  ce:=λy hy=>aF hy<|nc y
  fr:=λy hy=>aF hy<|nf y
  own:=λy sv e=>by
   clear wF nK tD tB lA mE a z cV mH gq gX eK eB eG eF eS eL hq nf nc nd hk hb hg qY l4 qX qW;rcases wn V' e with rfl|⟨c,v,rfl,r1,r2⟩
   exact .inr<|.inl U
   exact .inl ⟨c,U⟩}
def Lg:O.fns "law"=I (ae 93):=by kernel_rfl
def adh:iX.lookup "law"=I 1048:=by kernel_rfl
def adi:(ae 93).native=none:=by kernel_rfl
def wG:(ae 93).params=[("script":H)]:=by kernel_rfl
def Lh:(ae 93).km=[]:=by kernel_rfl
def adj:(ae 93).sc.names.lookup ("script":H)=I .local:=by kernel_rfl
def adk:(ae 93).sc.names.all (λp=>!decide (p.2=.cell))=true:=by kernel_rfl
def adl(P:aR):(tt P g6).isSome=true:=by kernel_rfl
def adm(z:∀a,iX.lookup "TableThing.pairs"=I a->∀X A d,jo X A (d+1)->te O (fW w s.os s.heap) X A a ix)(c:gA s.heap (tt w.params))(S:1<=s.toks)(M:s.gens=#[])(N:s.heap.get? L=I o)(R:o.cls=.type "list")(V:o.data=.seq vs.toArray n)(g:∀G,bn (fW w s.os s.heap) G l vs)(j:aj O 40 "law" [.arg l] []=.ok (.bool B) hp)(u:∀s',(∀b o,s.heap.get? b=I o->s'.heap.get? b=I o)->s'.os=s.os->s'.gens=#[]->Q (.bool B) s'):am (cr pw w) callerA (c8 (.ref 1048) [.ref L]) Q E s:=by
 have h:=adf w s.os c z;refine aL λr=>?_;clear z;obtain⟨f,hT,_,ob,fd,ds,i⟩:=zR w s.os c adh;rw[Lg]at hT;obtain rfl:=aK hT;have JS:=(DO (T:=O) (F:=fW w s.os s.heap) (K:=KK w.params) (cl:=aj O 39) (d:=39) ⟨h.k0,h.kc,DP h 39,λX A c=>Dm h.k0 h.kc (DP h 39) c,λX A c=>⟨Dl h.k0 h.ki,Dn h.k0,DG c.toU,DH c.hd⟩⟩ h.kh AF).2;refine r<|uD (O2 (by lk) i.ho i.hd (Z i.sc i.co) (Z i.sc i.gen) i.body i.code ?_)
 have p:ds.length=0:=by have:=(i.dr ⟨λY=>0,λY=>.none,s.heap.get?,λY=>W⟩ λa o e=>e).length;rw[Lh]at this;exact this
 refine De i.par i.dv (Z wG<|aA _) (by refine Z wG ?_;simp) (Z p<|dW _) ?_;refine Z i.Dg ?_;have H:ds=[]:=uI p;clear p;subst H;have m:wl (ae 93).params [.ref L] []=(ae 93).params.zip [.ref L]:=Z wG U;refine Z m<|adg (cs:=[.arg l]) U U M S ?_ i.sc i.glob i.blt i.kind i.par.nd (λx hx=>?_) (λy hy=>?_) i.nf (λG r=>.cons (.arg (r _ _ N) R V (g G)) .nil) λk G1 s1 ef hz R1 k1=>?_
 clear m r u j g V R N M S;obtain⟨o,ho⟩:=Option.isSome_iff_exists.mp<|adl w.params
 exact⟨o,c _ _ ho⟩;rw[wG]at hx;rw[F6]at hx;clear m r u j g V R N M S;subst hx;exact adj;have:=List.all_eq_true.mp adk _<|rN hy
 simp at this;refine⟨h.kf.lim.keeps k1,O3 ?_⟩;have H':aW ⟨k,B,[]⟩ (callerA.deeper k) 39:=⟨U,U,(by decide:(1+claimMargin)+1+3*39<=600),(by decide:4+3+12*39<=6000)⟩;refine JS.ss ⟨k,B,[]⟩ (callerA.deeper k) H' U _ G1 _ s1 R1 _ _ ?_;rw[sA Lg]at j;unfold oV at j;rw[adi]at j;dsimp only at j;have hb:mm (ae 93).params [.arg l] (ae 93).km=I ((ae 93).params.zip<|[CV.arg l].map .v):=Z wG<|Z Lh U
 rw[hb]at j;dsimp only at j;have P:∀{G2:Gh}{s2:aM}{q:K},Le 1 G1 G2->aZ (fW w s.os s.heap) ⟨k,B,[]⟩ G2 q s2->Q (.bool B) s2:=λL2 t=>u _ (λb o e=>(t.r.fz b o<|t.r.ey b o e).1) t.o t.g;clear hb k1 hz ef m r u g V R N M S;cases hr:cb O (aj O 39) AF (ae 93).body ⟨(ae 93).params.zip ([CV.arg l].map .v)++(ae 93).locs.map λx=>(x,.un),[],(ae 93).sc⟩ with
 |C=>rw[hr]at j;cases j
 |exc x q=>rw[hr]at j;cases j
 |ok fl q=>
  rw[hr]at j;intro G2 w2 s2 L2 t V2;clear o;cases V2 with
  |aO=>cases j
  |brk=>cases j
  |cnt=>cases j
  |ret v=>obtain⟨rfl,rfl⟩:=RH.ok.inj j;cases v;exact P L2 t
def alC(h:akN [] d (.list .int)=B):∃a,d=.list a/\Pm [] a .int=true:=by induction d using akO with|list a=>exact⟨a,U,(Pn _).symm.trans h⟩|_=>exact ft h
def alD(h:akN [] d .int=B):∃i,d=.int i:=by induction d using akO with|int i=>exact⟨i,U⟩|_=>exact ft h
def adn(h:Pm [] c .int=B):∃e:D V,c=e.map .int:=by
 induction c with
 |nil=>exact⟨[],U⟩|cons d c f=>unfold Pm at h;rw[cN]at h;refine aJ (f h.2) λe a=>?_;subst a;refine aJ (alD h.1) λi a=>?_;subst a;exact⟨i::e,U⟩
def ado{c:D V}(r:Fb [] k h d (c.map .int) e)(G:Gh):bn F G (c.map .int) d:=by
 induction c generalizing d e with
 |nil=>exact Z (akP r).1 .nil|cons x c f=>refine yi (akQ r) λv l p q i j a b=>?_;subst i;refine av (W.readsW_int_inv a) λt z j=>?_;subst z;exact .cons (.int _ _)<|f b
def adp(P:aR):DX (I<|Bj (lD P 3) "law") 1048=true:=by kernel_rfl
def adq(a:D xq):Head.bz.row.toRowW.claim.post a (.bool B) a=true:=by kernel_rfl
def adr(h:Po Head.bz.row.records r []=B):r=[]:=by
 rcases r with _|⟨x,r⟩
 rfl;unfold Po at h;exact ft h
noncomputable def Li(o:al bf):Bool:=
 am3 (λY=>bf) (am4 (λY=>al xq) (am5 (λY=>al xq) (o.map W.WData.bool) (λb=>I<|.bool !b) λY=>W) (λY=>I<|.bool ag) (λY=>I<|.bool B) λY=>W) (λY=>B) λY=>ag
def ads{a:D V}(c:Pp Head.bz.row.records Head.bz.row.toRowW.pre {args:=[.list<|a.map .int]}=B):a.length<=63:=by
 refine iM λq=>?_;have z:(63:V)<((a.map Pq).length:J):=by rw[b0];exact(uT (n:=63)).mpr q
 have l:W.less? (.int 63) (.int ((a.map Pq).length:J))=I true:=bq I<|i5 z
 exact ft<|(bq Li l).symm.trans ((by kernel_rfl:Li (W.less? (.int 63) (.int ((a.map Pq).length:J)))=Pp Head.bz.row.records Head.bz.row.toRowW.pre {args:=[.list (a.map .int)]}).trans c)
def adt{d:D V}(c:NV [.list<|d.map .int]=B):∀x∈d,x.natAbs.log2<=2^20:=λx e=>by have w:(if x==0 then 0 else x.natAbs.log2+1)<=2^20:=(W.layableW_iff.mp<|W.layableW_item (W.layableW_arg c _ (.head _)) (.int x) (List.mem_map_of_mem e)).2.2;by_cases z:x=0;subst z;exact dW _;rw[u λq=>z (eq_of_beq q)]at w;exact Nat.le_of_succ_le w
inductive Lj(args:D xq):Prop
 |mk (xs:D V):args=[.list<|xs.map .int]->xs.length<=63->(∀x∈xs,x.natAbs.log2<=2^20)->Lj args
def adu{a:D xq}(f:Po Head.bz.row.records a Head.bz.row.args=B)(j:Pp Head.bz.row.records Head.bz.row.toRowW.pre {args:=a}=B)(e:NV a=B):Lj a:=by refine fP (W.hasAllW_cons f) λd r c h i=>?_;subst c;clear f;obtain rfl:=adr i;clear i;refine av (alC h) λn c k=>?_;subst c;clear h;refine aJ (adn k) λm c=>?_;subst c;exact⟨m,U,ads j,adt e⟩
inductive Ll(cl:H->al bc)(h:bG)(vs:D ah)(xs:D V):Prop
 |mk (L:bc) (o:dw) (us:js ah) (n) (as:D bc):vs=[.ref L]->h.get? L=I o->o.cls=.type "list"->o.data=.seq us n->Fb [] cl h us.toList (xs.map .int) as->Ll cl h vs xs
def adv(d:Fb [] k h m [.list<|r.map .int] w):Ll k h m r:=by refine yi (akQ d) λv l p q t x a b=>?_;subst t;obtain rfl:=(akP b).1;refine RQ (W.readsW_list_open a) λl o i n s z e f c j y=>?_;subst z;exact⟨_,_,_,_,_,U,e,f,c,j⟩
def adw{dq:aM}(a:gA dq.heap (tt w.params))(G:W.Ground Head.qv Head.loose [] (λ_ _=>fD) w l0 h s dq.heap):h "law"=I (.ref 1048):=by
 refine aL λi=>oA G.T.g λo t v d e j k=>?_;clear j;refine oA (wC a<|KP w.params) λm n p c f q r=>?_;have c:dq.heap.get? lK=I m:=c;rw[d]at c;clear q d;cases c;rw[e]at f;clear c e o;cases f;refine i ?_;rw[<-k,r];have:=KW<|adp w.params
 injection this
def adx(q:∀(w:cF)(s:aM),gA s.heap (tt w.params)->∀a,iX.lookup "TableThing.pairs"=I a->∀X A d,jo X A (d+1)->te O (fW w s.os s.heap) X A a ix)
 (j:∀m:D V,m.length<=63->(∀x∈m,x.natAbs.log2<=2^20)->∃t,aj O 40 "law" [.arg<|m.map .int] []=.ok (.bool B) t):PySem.Challenge.rw_tn0028_01.Holds:=by
 refine Head.Rz λw l0 dq g K G Y l E v u C f i y=>?_;have c:gA dq.heap (tt w.params):=λa o e=>Y a o<|act _ a o e
 obtain⟨z,b⟩:=aiz f;obtain⟨m,rfl,p,k⟩:=adu z b i;obtain⟨t,F⟩:=j m p k;refine⟨_,adw c G,?_⟩;obtain⟨L,o,P,n,H,rfl,Q,r,T,S⟩:=adv y;clear y z b i f;exact adm (λa M=>q w dq c a M) c l E Q r (vs:=P.toList) (Z Pk T) (ado S) F λs' N R J=>⟨.inl ⟨_,.bool B,[],U,λ_=>rfl,(.bool B),adq _,λ_=>⟨uy,λ_ h=>nomatch h⟩⟩,.of_keep N,R,.of_eq J⟩
def lW(h:bG)(d:bc)(v:ah)(m:J):Prop:=∃o e,h.get? d=I o/\o.ExactDict/\o.data=.dict #[e] m/\e.val=v
def lW.keeps{d:bc}(x:lW h d v m)(k:∀b o,h.get? b=I o->a.get? b=I o):lW a d v m:=d9 x λo e c r=>⟨o,e,k _ _ c,r⟩
def lW.typeIs{s:aM}(x:lW s.heap d v m):s.TypeIs (.ref d) "dict":=fP x λo Y a c Y=>⟨o,a,c.1⟩
def ady(e:(d==g6)=ag)(x:lW s.heap d v m)(f:Q (.ref s.heap.objs.size) {s with heap:=s.heap.push {cls:=.type "dict_values",data:=.fields #[.ref d]}}):
 am (cr c w) A (callWith i (.builtin "dict.values") [.ref d] [] []) Q E s:=by
 have a:MeetsIn c w (Builtin.«dict.values» ⟨[.ref d],[]⟩) (λY R s=>s.TypeIs (.ref d) "dict"/\R (.ok<|.ret (.ref s.heap.objs.size)) {s with heap:=s.heap.push {cls:=.type "dict_values",data:=.fields #[.ref d]}}):=
  .of_wp λA R s z=>aI z λj h=>by
   refine af ?_;unfold am6;refine af<|wpAny_notOrdered_dict j ?_
   show am _ _ (pure d) _ _ s;refine aE ?_;show am _ _ (akR d>>=_) _ _ s;unfold akR;exact Z (u<|by rw[e];exact iN)<|af (aE (af (lR (aE ⟨_,U,h⟩))))
 exact method_meetsIn akS PySem.F.entry_dict_values U<|PySem.evalArgs_none ⟨U,x.typeIs,PySem.F.args_dict_values_1 _,_,a,x.typeIs,f⟩
def adz{j:bc}(f:s.heap.IsValuesView j d)(x:lW s.heap d v m)
 (p:Q (.ref s.heap.objs.size) {s with heap:=s.heap.push {cls:=.type "dict_valueiterator",data:=.fields #[.ref d,.int 0 0,.int 1 0,.int m 0]}}):am (cr k w) A (FR<|.ref j) Q E s:=by
 refine aL λq=>cC (id f) λt h r i=>fQ (id x) λo e n y a z=>q ?_;refine wpAny_pyIter_slot f.typeIs akT<|AY akT f.typeIs PySem.F.entry_dict_values_iter ?_ (PySem.F.args_dict_values_iter_1 _)
 unfold Builtin.«dict_values.__iter__»;refine af<|aE (af ?_)
 unfold am7;refine af<|lQ h i (x:=.ref d) U (aE (af ?_))
 unfold am8;refine af<|FX n a (af (Pr n a ?_))
 have c:Pt "dict_valueiterator"=false:=by lk
 simp only [c,FM,FN];exact lR<|aE ⟨_,U,"dict_valueiterator",_,⟨_,gx _ U,U⟩,PySem.F.slot_dict_valueiterator_next.lookup,p⟩
def one_item(a:s.heap.IsValIter f d 0 1 m)(x:lW s.heap d v m)
 (t:∀p,p.IsValIter f d 1 1 m->fN f s.heap p->Q (I v) {s with heap:=p}):am (cr r w) A (rK<|.ref f) Q E s:=by
 refine aL λy=>cC (id a) λo q z n=>fQ (id x) λl e h b i j=>y ?_;unfold rK;refine af (Oq (AX (name:=ak "__next__") a.typeIs F7
  (AY F7 a.typeIs akU ?_<|akV _)))
 refine af<|aE (af (af ?_))
 first|refine af (F8 a.typeIs<|aE ?_)|refine af<|F9 a.typeIs (aE ?_)
 refine af<|akW q n ?_
 have k:Pt "dict_valueiterator"=false:=by lk
 refine Z k<|Z (u iN) ?_
 show am _ _ (if(gy d==oh)=B then _ else _) _ _ s;refine Z (u<|show¬((gy d==oh)=B)from iN)<|af (aE (af (FX h i (Z (u (dk U)) ?_))))
 refine af<|aE (af (Pr h i (Z (u (by simp)) (aE ?_))))
 dsimp only;refine Z (u<|show¬(((0:J):V)<0)from Tf) ?_;rw[AS];refine af ?_;first|refine af (F8 a.typeIs<|aE ?_)|refine af<|F9 a.typeIs (aE ?_)
 refine af<|Pu a.typeIs ?_
 show am _ _ (OU (.ref f) 1 (g7<|(0:J)+1)>>=_) _ _ s;refine af<|xF q n (dk U) ?_
 have c:(s.heap.update f<|rE (·.setIfInBounds 1 (g7 (((0:J):V)+1)))).IsValIter f d 1 1 m:=
  ⟨_,k8 _ q<|FS (xN n _),(OV ..).trans z,by rw[xN n];simp[g7]⟩
 refine af<|dF (af (Pu (s:={s with heap:=s.heap.update f (rE (·.setIfInBounds 1 (g7 (((0:J):V)+1))))}) c.typeIs ?_))
 refine af<|Pu (s:={s with heap:=s.heap.update f (rE (·.setIfInBounds 1 (g7 (((0:J):V)+1))))}) c.typeIs ?_
 show am _ _ (pure e.val) _ _ _;exact aE<|aE ⟨_,U,aE (j▸t _ c (jD ..))⟩
def adA(t:A.handled=W)(c:s.heap.IsValIter j d 1 1 m)(x:lW s.heap d v m)(y:∀k,Ba j s.heap k->Q W {s with heap:=k}):am (cr n w) A (rK<|.ref j) Q E s:=by
 refine aL λz=>cC (id c) λo p G q=>fQ (id x) λP e f l h r=>z ?_;unfold rK;refine af (Oq (AX (name:=ak "__next__") c.typeIs F7
  (AY F7 c.typeIs akU ?_<|akV _)))
 refine af<|aE (af (af ?_))
 first|refine af (F8 c.typeIs<|aE ?_)|refine af<|F9 c.typeIs (aE ?_)
 refine af<|akW p q ?_
 have i:Pt "dict_valueiterator"=false:=by lk
 refine Z i<|Z (u iN) ?_
 show am _ _ (if(gy d==oh)=B then _ else _) _ _ s;refine Z (u<|show¬((gy d==oh)=B)from iN)<|af (aE (af (FX f h (Z (u (dk U)) ?_))))
 refine af<|aE (af (Pr f h (Z (u (by simp)) (aE ?_))))
 have F:(#[e]:js jt)[(1:J)]?=none:=U;dsimp only;refine Z (u<|show¬(((1:J):V)<0)from Tg) ?_;rewrite[AS];refine Z F<|af ?_
 first|refine af (F8 c.typeIs<|aE ?_)|refine af<|F9 c.typeIs (aE ?_)
 show am _ _ (OU (.ref j) 0 .none>>=_) _ _ s;refine af<|xF p q (dk U) ?_
 show am _ _ (newExc (.type "StopIteration") []>>=_) _ _ _;refine af ?_;simp only [newExc,newTuple];refine af<|lR (af (m:=akX _ _) (F1 (a:=oh) (by first|rfl|(simp only [akX];rfl)) (lR ?_ (by size_fits)))) (by size_fits)
 unfold raiseNew;refine af<|akB (Z (show A.in1.handled=W from t) (af (aE (Pg ?_))))
 exact af<|wpAny_isInstance (T:="StopIteration") (b:=B) ⟨_,gx _ U,U⟩ isSubtype_stop (aE (y _ (((jD ..).extBut.push _).push _)))
inductive Lm:Prop
 |mk (p1 k1 p2 p3 p4 k2 p5 p6 kt p7 p8 p9 Bv qZ Ln) (sc:f9) (D0 D1):(az 10 3).body=[.Return (I (.ListComp (.Tuple [.Subscript (.Name "row" p1) (.Constant (.int 0) k1 p2) p3,.Subscript (.Name "row" p4) (.Constant (.int 1) k2 p5) p6] kt p7)
  [⟨.Name "row" p8,.Call (.Attribute (.Attribute (.Name "self" p9) "rows" Bv) "values" qZ) [] [] Ln,[],0⟩] sc D0)) D1]->(qZ.endLine !=Ln.line)=ag->sc.kind=.function->sc.names=[((".0":H),.local),(("row":H),.local)]->Lm
noncomputable def adB:Lm:=⟨_,_,_,_,_,_,_,_,_,_,_,_,_,_,_,_,_,_,U,U,U,U⟩
def aG.Lo{m:K}(R:aG F X G m h)(d:G.ow a=.none)(r:G.fz a=W)(s:h.get? a=I o):
 aG F X (G.fI a o) m h/\(∀n,Le n G (G.fI a o))/\(G.fI a o).fz a=I o:=by
 have c:∀b,b≠a->(G.fI a o).ow b=G.ow b:=λb j=>u j;have L:∀n,Le n G (G.fI a o):=λn=>by refine⟨λb f q=>?_,λk q=>⟨U,?_⟩,λk y q=>⟨U,?_⟩,λY Y Y=>rfl,λb i f q Y=>q⟩;show(if b=a then _ else G.fz b)=_;exact Z (u (λz=>by subst z;rw[r]at q;exact aD q)) q;exact Z (c _ (λz=>by rw[z,d]at q;exact ao q U)) q;exact Z (c _ (λz=>by rw[z,d]at q;exact ao q U)) q
 refine⟨R.grow (n:=0) ⟨λb f e Y=>e,λb j Y=>c b λq=>j (Z q d),λY Y=>rfl⟩ (L 0) (λb f e=>?_) (λb p e=>?_) (λb e=>?_) (λb k e=>?_) λb k x e=>?_,L,aa U⟩;change(if b=a then I o else G.fz b)=_ at e;by_cases q:b=a;clear L c r d;rw[aa q]at e;obtain rfl:=aK e;subst q;exact⟨s,aa U⟩;rw[u q]at e;exact⟨(R.fz b f e).1,(c b q).trans (R.fz b f e).2⟩;have:=R.tm b p e;exact⟨this.1,(c b (λq=>by rw[q,d]at this;exact ao this.2 U)).trans this.2⟩;by_cases q:b=a;exact Z q (dy s);rw[c b q]at e;exact R.lt b e;by_cases q:b=a;rw[q,show(G.fI a o).ow a=.fz from aa U]at e;exact ao e U;exact(c b q).symm.trans e;by_cases q:b=a;rw[q,show(G.fI a o).ow a=.fz from aa U]at e;exact ao e U;exact(c b q).symm.trans e
def adC{F:au}{s:aM}{A:bS}{E:bp}{env:fE}{m:H->al ah}{L:bc}{items:js ah}{x0 x1:ah}{p1 p2 p3 p4 p5 p6 p7:cJ}{k1 k2 kt:J}{Q:bp}(hk:env.scope.kind=.function)(kd:env.kindOf "row"=I .local)(hn:s.heap.Ns env.locals m)(hm:m "row"=I (.ref L))
 (hL:s.heap.IsList L items)(h0:items[0]?=I x0)(h1:items[1]?=I x1)(hq:∀tk,Q (.ref s.heap.objs.size) {s with heap:=s.heap.push {cls:=.type "tuple",data:=.seq #[x0,x1]},toks:=tk}):
 am F.md A (bH (.Tuple [.Subscript (.Name "row" p1) (.Constant (.int 0) k1 p2) p3,.Subscript (.Name "row" p4) (.Constant (.int 1) k2 p5) p6] kt p7) env) Q E s:=by
 have nm:∀{p:cJ}{tk:J}{Q:bp},Q (.ref L) {s with toks:=tk}->am F.md A (bH (.Name "row" p) env) Q E {s with toks:=tk}:=λq=>A2 (ajy hk kd hn hm q) (by lk);refine OG (uL (A8 (nm (tk:=s.toks) (A6 (qE (.list (s:={s with toks:=s.toks+1}) hL.typeIs) (Oe (s:={s with toks:=s.toks+1}) hL (by lk) (by lk) h0 (uL (A8 (nm (tk:=s.toks+1) (A6 (qE (.list (s:={s with toks:=s.toks+1+1}) hL.typeIs) (Oe (s:={s with toks:=s.toks+1+1}) hL (by lk) (by lk) h1 ?_))))) U)))))) U);exact A9 ⟨by refine Z dY ?_;show 2<=_;exact Tc,hq _⟩
def adD{F:au}(c:s.heap.get? a=I (bO ws m))(h:ws.length<=1000)
 (i:∀d e j,fN a s.heap e->e.get? a=I (bO (ws++[v]) d)->Q .none {s with heap:=e,toks:=j}):am F.md A (c8 (.builtin "list.append") [.ref a,v]) Q E s:=by
 refine uF FD ⟨_,c,U⟩ Oz (OA _ _) (OB _ ws.toArray m v (by refine Z dY ?_;simp;exact yW h)) ⟨c,?_⟩;refine aL λk=>aJ (v5 ws m (λx=>x.push v) (ws++[v]) (by simp)) λd f=>?_;have:=k8 (rF λx=>x.push v) c (Z f U);rw[f]at this;exact k (i d _ _ (jD ..) this)
def an(h:a<b):@Ne bc a b:=dP h
def na(h:b<a):@Ne bc a b:=jB h
inductive D2(s:aM)(ls d:bc)(m:J)(x0 x1:ah)(n:J)(s':aM):Prop
 |one (h':bG) (tk:J) (m'):s'={s with heap:=h',toks:=tk}->(∀b o,s.heap.get? b=I o->h'.get? b=I o)->h'.Ns ls m'->n=1->h'.IsValIter s.heap.objs.size d 0 1 m->h'.get? (s.heap.objs.size+1)=I (bO [] 0)->D2 s ls d m x0 x1 n s'
 |zero (h':bG) (tk:J) (m') (T k:J):s'={s with heap:=h',toks:=tk}->(∀b o,s.heap.get? b=I o->h'.get? b=I o)->h'.Ns ls m'->n=0->h'.IsValIter s.heap.objs.size d 1 1 m->s.heap.objs.size+1<T->h'.get? T=I {cls:=.type "tuple",data:=.seq #[x0,x1]}->h'.get? (s.heap.objs.size+1)=I (bO [.ref T] k)->D2 s ls d m x0 x1 n s'
def adE{F:au}(hh:A.handled=W)(hk:t.kind=.function)
 (V:t.names=[((".0":H),.local),(("row":H),.local)])(hv:s.heap.IsValuesView view d)(x:lW s.heap d (.ref L) m)(hL:s.heap.IsList L j)(h0:j[0]?=I x0)(h1:j[1]?=I x1)
 (hq:∀R tk a T k,(∀b o,s.heap.get? b=I o->R.get? b=I o)->s.heap.objs.size<=a->s.heap.objs.size<=T->a≠T->R.get? T=I {cls:=.type "tuple",data:=.seq #[x0,x1]}->R.get? a=I (bO [.ref T] k)->Q (.ref a) {s with heap:=R,toks:=tk}):
 am F.md A (FR (.ref view)) (λi o9=>am F.md A (newList []) (λg iT=>am F.md A (FV t h.globals cl [] h.qual W .none (I h)) (λc lz=>
  k7 F.md A (.compStart (.ListComp (.Tuple [.Subscript (.Name "row" p1) (.Constant (.int 0) k1 p2) p3,.Subscript (.Name "row" p4) (.Constant (.int 1) k2 p5) p6] kt p7) [⟨.Name "row" p8,it,[],0⟩] t pos) 0 i g {c with scope:=kg t h})
   (F4 F.md A E W Q g c.locals) lz) E iT) E o9) E s:=by
 have D:∀{b:J}{o:dw},s.heap.get? b=I o->b<s.heap.objs.size:=λe=>jy e;refine aL λhG=>d9 (id x) λod zz hod zz=>av (id hL) λoL hoL zz=>hG ?_;refine adz hv x ?_;generalize O:({cls:=.type "dict_valueiterator",data:=.fields #[.ref d,.int 0 0,.int 1 0,.int m 0]}:dw)=z;refine lR ?_;have P:(s.heap.push z).objs.size=s.heap.objs.size+1:=rD ..;have K:((s.heap.push z).push (bO [] 0)).objs.size=s.heap.objs.size+2:=by rewrite[rD];exact Z P U
 refine akD (λp hp=>by rw[V]at hp;simp at hp;rcases hp with rfl|rfl<;>simp) (dk rfl) (λcR X v=>?_) hk;change cR.Ns ((s.heap.push z).push (bO [] 0)).objs.size _ at X;change fN ((s.heap.push z).push (bO [] 0)).objs.size (((s.heap.push z).push (bO [] 0)).push _) cR at v;rw[K]at X v;have k0:∀b o,s.heap.get? b=I o->cR.get? b=I o:=λb o e=>(v.2 b (an (cM (D e) (cx _ _)))).trans (di _ (di _ (di _ e)));have gI:cR.get? s.heap.objs.size=I z:=(v.2 _ (an yV)).trans (di _ (di _ (gx _ (ax O U))));have gD:cR.get? (s.heap.objs.size+1)=I (bO [] 0):=(v.2 _ (an yT)).trans (di _ (by have:=gx (s.heap.push z) (o:=bO [] 0) U;exact P▸this));generalize hce:newEnv _ _ _ _ _ _ _ _ _=c;have Y:c.locals=s.heap.objs.size+2:=ax hce (ax K U);have u:({c with scope:=kg t h}:fE).scope.kind=.function:=hk;have C:({c with scope:=kg t h}:fE).kindOf "row"=I .local:=by
  show(kg t h).names.lookup ("row":H)=_;have e0:t.names.lookup ("row":H)=I .local:=Z V U;rcases Ki (scope:=t) (env:=h) (y:="row")with e|⟨e,_⟩
  exact Z e (Z e0 U);rw[e0]at e;exact aF e (by lk)
 refine Z P ?_;have G:k7 F.md A (.compLoop (.ListComp (.Tuple [.Subscript (.Name "row" p1) (.Constant (.int 0) k1 p2) p3,.Subscript (.Name "row" p4) (.Constant (.int 1) k2 p5) p6] kt p7) [⟨.Name "row" p8,it,[],0⟩] t pos) 0 (.ref s.heap.objs.size) (.ref (s.heap.objs.size+1)) {c with scope:=kg t h})
  (F4 F.md A E W Q (.ref (s.heap.objs.size+1)) c.locals) {s with heap:=cR}:=by
  refine codeAny_compLoop_list (D2 s c.locals d m x0 x1) ?_ 1 (.one cR s.toks _ U k0 (Z Y X) U ⟨z,gI,by exact ax O U,by exact ax O U⟩ gD);rintro n s' (⟨R,tk,m',rfl,kp,ns,rfl,iI,iD⟩|⟨R,tk,m',T,k,rfl,kp,ns,rfl,iI,hT,gT,gD'⟩);refine one_item iI (x.keeps kp) λB i2 S=>?_;have M:∀b o,s.heap.get? b=I o->B.get? b=I o:=λb o e=>(S.2 b (dP (D e))).trans (kp b o e);have ns2:B.Ns c.locals m':=ns.sameBut S (Z Y (na yV));have iD2:B.get? (s.heap.objs.size+1)=I (bO [] 0):=(S.2 _ (na vL)).trans iD;refine akI (ajA C ns2 (λw N f=>?_) (Z u U));change w.Ns c.locals _ at N;change fN c.locals B w at f;replace f:=(Y)▸f;have Lp:∀b o,s.heap.get? b=I o->w.get? b=I o:=λb o e=>(f.2 b (an (cM (D e) (cx _ _)))).trans (M b o e);have Lq:w.get? (s.heap.objs.size+1)=I (bO [] 0):=(f.2 _ (an yT)).trans iD2;have i3:w.IsValIter s.heap.objs.size d 1 1 m:=i2.extBut f.extBut (an yV);have hL3:w.IsList L j:=av hL λo ho r=>⟨o,Lp _ _ ho,r⟩;refine adC u C N (aa U) hL3 h0 h1 λGs=>?_;have Lr:s.heap.objs.size+1<w.objs.size:=jy Lq;refine adD (m:=0) (ws:=[]) (di _ Lq) (by lk) λm2 h4 tk2 l g4=>⟨0,by lk,.zero h4 tk2 _ w.objs.size m2 U (λb o e=>(l.2 b (an (cM (D e) (cx _ _)))).trans (di _ (Lp b o e)))
   ((N.push _).sameBut l (Z Y (na yT))) U ((show(w.push _).IsValIter s.heap.objs.size d 1 1 m from let⟨o',e',r⟩:=i3;⟨o',di _ e',r⟩).extBut l.extBut (an vL)) Lr ?_ g4⟩
  exact(l.2 _ (na (Uc Lr))).trans (gx _ U);refine adA hh iI (x.keeps kp) λB eb=>?_;have M:∀b o,s.heap.get? b=I o->B.get? b=I o:=λb o e=>eb b o (dP (D e)) (kp b o e);refine⟨m',ns.extBut eb (Z Y (na yV)),λw f=>?_⟩;rw[Y]at f;refine hq w tk _ T k (λb o e=>(f.2 b (an (cM (D e) (cx _ _)))).trans (M b o e)) (cx _ _) (Ud hT) (an hT) ?_ ?_;have gH:T≠s.heap.objs.size+2:=λq=>by refine l6 ns λo' es ep e1 e2 zz=>?_;rw[Y,<-q]at e1;replace e1:=(gT)▸e1;obtain rfl:=aK e1;exact cO OT e2 U
  exact(f.2 T gH).trans (eb T _ (na (cG hT)) gT);exact(f.2 _ (an yT)).trans (eb _ _ (na vL) gD')
 exact akG G (wpAny_pyIter_valiter ⟨z,gI,by exact ax O U,by exact ax O U⟩ G)
def adM:vz.all (λp=>(ay p.2 "rows").isNone)=true:=by kernel_rfl
def adN:(sC[(ak "rows").cps.size]?).any (·.contains "rows")=true:=by kernel_rfl
def adO(c:aX):O.attr c "rows"=true:=by
 show((sC[(ak "rows").cps.size]?).any (·.contains "rows")&&(vB c "rows").isNone)=B;rw[cN];refine⟨adN,?_⟩;unfold vB;cases e:vz.lookup c with
 |none=>rfl|some l=>exact List.all_eq_true.mp adM _<|kI e
def adP:O.fns "TableThing.pairs"=I {az 10 3 with native:=I ix}:=by kernel_rfl
def Ls:(az 10 3).params=[("self":H)]:=by kernel_rfl
def Lu:(az 10 3).sc.names.lookup ("self":H)=I .local:=by kernel_rfl
def adQ(h:ea a k "rows"=I (.od j)):
 aB O cl 3 (.Attribute (.Name "self" p) "rows" q) ⟨("self",.v<|.cell k)::l,a,(az 10 3).sc⟩=.ok (.c6 k "rows") ⟨("self",.v<|.cell k)::l,a,(az 10 3).sc⟩:=by
 refine Z Jb<|Z (aa (show gk (Expr.Name (ak "self") p)=B from U)) ?_
 unfold M.bind;refine Z I6 ?_;have f:em O "self" ⟨("self",.v<|.cell k)::l,a,(az 10 3).sc⟩=.ok (.cell k) ⟨("self",.v<|.cell k)::l,a,(az 10 3).sc⟩:=by unfold em;refine Z (u<|by lk) ?_;dsimp only;exact Z nkE (Z Lu U)
 refine Z f ?_;dsimp only;unfold ea at h;refine aL λi=>?_;rcases e:a[k]? with _|o
 rw[e]at h;exact aD h;rw[e]at h;rcases o with⟨c,d⟩|m
 refine i ?_;show aS (gR a[k]?) _=_;refine Z e ?_;show(if O.attr c "rows"=B then aS (ay d "rows") _ else _)=_;exact Z (aa<|adO c)<|Z (show ay d "rows"=_ from h) U
 exact aD h
def adR(h:ix args hp≠.C):∃k p a b,args=[.cell k]/\ea hp k "rows"=I (.od [(.tup p,.lst [a,b])])/\ix args hp=.ok (.lst [.tup [a,b]]) hp:=by
 unfold ix at h⊢;rcases q:((qf args).bind oH).bind λk=>(l8<|ea hp k "rows").bind Gj with _|r
 rw[q]at h;exact aF U h;refine aL λj=>av (dE q) λk m n=>av (dE m) λc o s=>av (dE n) λE t v=>?_;refine av (dE v) λd w x=>?_;obtain⟨y,z⟩:=d;exact av (dE x) λp A e=>av (dE e) λl f i=>j<|⟨k,p,r.1,r.2,by exact Z (ym o) (Z (vj s) U),by exact Z (GK t) (Z (ym w) (Z (show y=_ from vf A) (Z (show z=_ from BF f) (Z (oD i) U)))),U⟩
inductive Lv(F:au)(G:Gh)(h:bG)(k:J)(c1 c2:CV):Prop
 |mk (L:bc) (vs:D ah) (n0 n1:J):G.ad (.attr k "rows")≠g6->lW h (G.ad<|.attr k "rows") (.ref L) n0->(∀b,gy (G.ad<|.attr k "rows")=.ref b->∃ob,h.get? b=I ob/\ob.dict=W)->G.fz L=I (bO vs n1)->bn F G [c1,c2] vs->Lv F G h k c1 c2
def adS{d:K}(R:aG F X G d h)(j:G.ow (G.ad<|.attr k "rows")=.attr k "rows")(c:ea d.hp k "rows"=I (.od [(.tup p,.lst [m,n])])):Lv F G h k m n:=by
 refine aL λe=>aJ (R.attr (k:=k) (y:="rows") c) λo f=>?_;clear c;refine aI f.Cy λQ a=>?_;clear f o;cases a with
 |s _ q=>obtain⟨_,_,_,q,_⟩:=q.out;exact e<|CV.noConfusion q
 |i _ q=>obtain⟨_,_,_,q,_⟩:=q.out;exact e<|CV.noConfusion q
 |t a1 a2 r v w x z=>
  clear x w v;obtain⟨L,l,A,rfl,E,P⟩:=z.out 0;refine e<|⟨L,l,_,A,λq=>?_,⟨_,_,a1,a2,r,U⟩,λb q=>Pa q▸⟨_,a1,a2.2.1⟩,E,P⟩
  have:=R.Ch;rw[<-q,j]at this;exact d8.noConfusion this
def adT{N:dM}(c:gA b (tt w.params))(ha:iX.lookup "TableThing.pairs"=I a)(X:aU)(A:bS)(d:J)(HA:jo X A (d+1)):te O (fW w N b) X A a ix:=by
 intro G st s P v R i Rr h;obtain⟨k,p,c1,c2,rfl,zU,hn⟩:=adR (args:=P) (hp:=st.hp) λq=>by rw[q]at h;exact h
 rw[hn]at h;clear hn;obtain⟨f,hT,_,o,fd,ds,j⟩:=zR w N c ha;rw[adP]at hT;clear ha;obtain rfl:=aK hT;have k0:=K2 w N c;have kc:=PT w N c;have lim:(fW w N b).base.NoLimit:=⟨_,wC c<|KQ w.params,Option.isNone_iff_eq_none.mp<|Lf _⟩;have Q:=R.r.vW;have D3:ds=[]:=by have:=(j.dr G R.r.ey).length;exact uI<|Z this U
 subst D3;refine O2 (by have:=HA.dp;show A.depth<1000;exact H0 this) (Q _ _ j.ho) j.hd (Z j.sc j.co) (Z j.sc j.gen) j.body (j.code.keeps Q) ?_;have hD:qO s.heap fd []:=by clear lim kc k0 zU p h;cases j.dv with|none e=>exact .none e|tup e1 e2 e3=>exact .tup e1 (Q _ _ e2) e3
 have mF:=i.length;refine De j.par hD (Z mF<|aA _) (Z mF<|aA _) (dW _)<|Z j.Dg ?_
 have tj:wl ({az 10 3 with native:=I ix}:jH).params v []=(["self"]:D H).zip v:=by unfold wl;refine Z (show({az 10 3 with native:=I ix}:jH).params=[("self":H)]from Ls) ?_;simp
 refine Z tj ?_;refine JN R Ls.symm j.sc j.glob j.blt j.kind (dk U) (λx hx=>by rw[F6]at hx;subst hx;exact .inl Lu) j.nf i λy G1 s1 ef L1 R1 k1=>?_
 refine⟨(lim.keeps Q).keeps k1,O3 ?_⟩;have H':=HA.deeper st y;have m:kC O (fW w N b) (KK w.params) (λY Y Y=>.C) d:=⟨k0,kc,λX A c q a hq G st s P v R i Rr h=>h.elim,λX A c=>Dm k0 kc (λX A c q a hq G st s P v R i Rr h=>h.elim) c,λX A c=>⟨Dl k0<|Lb w N b,Dn k0,DG c.toU,DH c.hd⟩⟩;have n:=(DO (T:=O) (F:=fW w N b) (K:=KK w.params) m (Ld w N b) 3).1;clear k1 ef tj mF Q lim kc k0;obtain⟨p1,k1',p2,p3,p4,k2,p5,p6,kt,p7,p8,p9,z,qZ,E,sc,D0,D1,eb,ep,ek,en⟩:=adB;show am _ _ (xK (az 10 3).body y) _ _ _;refine Z eb ?_;rw[OO];refine af<|OM (A5 R1.t ?_)
 rw[akH];refine akF (use:=W) U (CM U) (Kg λq hq hf=>by rw[en]at hq;simp at hq;rcases hq with rfl|rfl<;>exact cO am9 hf U) ek (λq hq Y=>by rw[en]at hq⊢;simp at hq;rcases hq with rfl|rfl<;>rfl) ?_;show am _ _ (bH (.Call (.Attribute (.Attribute (.Name "self" p9) "rows" z) "values" qZ) [] [] E) y) _ _ _;rewrite[Pc];refine Z (wa U)<|af (n.e (oo X st y) (A.deeper y) H' (.Attribute (.Name "self" p9) "rows" z) G1 _ s1 R1 _ _ ?_)
 have ev:=adQ (cl:=λY Y Y=>.C) (p:=p9) (q:=z) (l:=(az 10 3).locs.map λx=>(x,.un)) zU;change aH _ _ _ _ _ _ (aB O (λY Y Y=>.C) 3 (.Attribute (.Name "self" p9) "rows" z) (⟨((["self"]:D H).zip<|([.cell k]:D CV).map SV.v)++(az 10 3).locs.map (λx=>(x,SV.un)),st.hp,(az 10 3).sc⟩:K)) _ _;have ev:aB O (λY Y Y=>.C) 3 (.Attribute (.Name "self" p9) "rows" z) (⟨((["self"]:D H).zip<|([.cell k]:D CV).map SV.v)++(az 10 3).locs.map (λx=>(x,SV.un)),st.hp,(az 10 3).sc⟩:K)=_:=ev;refine Z ev ?_;intro G2 v2 V L2 R2 V2;clear ev eb D1;obtain⟨rfl,ow⟩:v2=.ref (G2.ad<|.attr k "rows")/\_:=V2.out;clear ev;obtain⟨L,vs,n0,n1,gH,one,nd,gl,Vl⟩:=adS R2.r ow zU;have hT:V.TypeIs (.ref<|G2.ad (.attr k "rows")) "dict":=one.typeIs;have hL:V.heap.IsList L vs.toArray:=⟨_,(R2.r.fz _ _ gl).1,U,n1,U⟩;refine af<|fO ?_
 have S:=Dk (es:=[]) (pos:=E) (env:=y) U<|dk U
 have Lw:xT B (.Attribute (.Name "self" p9) "rows" z) y qZ E=pure E:=by
  have ep2:qZ.endLine=E.line:=by simpa using ep
  unfold xT;simp[ep2]
 unfold Pd;refine Z S<|af (dF ?_)
 unfold calleeOf;refine Z (aa U) ?_
 with_reducible refine ke hT aks akS PySem.F.type_dict_values nd ?_
 refine af (F1 Lw (ady (beq_eq_false_iff_ne.mpr gH) one ?_));clear Lw S gl nd gH n1 ep hT;obtain⟨x0,h0,V0⟩:=Vl.get 0 U;obtain⟨x1,h1,V1⟩:=Vl.get 1 U;clear Vl ow zU i;have D4:∀b o,V.heap.get? b=I o->(V.heap.push {cls:=.type "dict_values",data:=.fields #[.ref (G2.ad (.attr k "rows"))]}).get? b=I o:=λb o e=>di _ e;refine adE (s:={V with heap:=V.heap.push {cls:=.type "dict_values",data:=.fields #[.ref (G2.ad (.attr k "rows"))]}}) HA.hd ek en ⟨_,gx _ U,U,U⟩ (one.keeps D4) (let⟨o,e,r⟩:=hL;⟨o,D4 _ _ e,r⟩) (Z akY h0) (Z akY h1)
  λh' tk t T k' kp hD M Lx gT gD=>λgX=>?_
 have R3:=(R2.r.push {cls:=.type "dict_values",data:=.fields #[.ref (G2.ad (.attr k "rows"))]}).same kp;have jV:V.heap.objs.size<=(V.heap.push {cls:=.type "dict_values",data:=.fields #[.ref (G2.ad (.attr k "rows"))]}).objs.size:=by rw[rD];exact bM _
 have hD:V.heap.objs.size<=t:=g jV hD;have M:V.heap.objs.size<=T:=g jV M;clear jV kp D4 h1 h0 hL one n0 vs en ek D0 sc E qZ z p9 p8 p7 kt p6 p5 k2 p4 p3 p2 k1' p1 p v;obtain⟨R4,L4,f4⟩:=R3.Lo (R2.r.fresh M) (R2.r.yJ M) gT;clear gT M;obtain⟨R5,L5,f5⟩:=R4.Lo (a:=t) ((u Lx).trans (R2.r.fresh hD)) ((u Lx).trans (R2.r.yJ hD)) gD;refine aE ?_;have pj:bn (fW w N b) G2 [c1,c2] [x0,x1]:=.cons V0 (.cons V1 .nil);exact h _ _ _ ((L1 _).trans ((L2.down (by rw[ZF];exact bM _)).trans ((L4 _).trans (L5 _)))) ⟨R5.leave,R2.g,R2.o,gX⟩ (.lst f5 (.cons (.tup ((L5 0).fz _ _ f4) U U ((pj.mono (L4 0)).mono (L5 0))) .nil))
end
section
open PySem
set_option tactic.hygienic true
def adW(e:∀f:D V,f.length<=63->(∀x∈f,x.natAbs.log2<=2^20)->∃h,aj O 40 "law" [.arg<|f.map .int] []=.ok (.bool B) h):PySem.Challenge.rw_tn0028_01.Holds:=
 adx (λw s c a i X A d j=>adT c i X A d j) e
end
section
open PySem
def Ok{α:Type}(m:M α)(Q:α->K->Prop)(E:bZ)(s:K):Prop:=@R.rec α (λY=>Prop) bA Q E<|m s
def aq(q:bf)(A a:Prop):Prop:=@akZ (λY=>Prop) a A q
def vN(q:bf)(A:Prop):Prop:=@akZ (λY=>Prop) A bA q
def pq(c:CV):M CV:=fy<|M.pure c
def tE(c:CV):M SV:=if bj c then M.pure (.v c)else C
def adX(a:bf)(c:D CV):M CV:=match a with
 |true=>BX c|false=>M.pure<|.lst c
def pt(a:CV):M (D CV):=λs=>match gG s a with|some l=>.ok l s|none=>.C
def pu(w:CV):M (D CV):=λs=>match c4 s w with|some l=>.ok l s|none=>.C
def kF{α β:Type}(f:α->M β)(Q:β->K->Prop)(E:bZ)(a:α)(s:K):Prop:=Ok (f a) Q E s
def kJ{α β γ:Type}(f:α->β->M γ)(Q:γ->K->Prop)(E:bZ)(a:α)(b:β)(s:K):Prop:=Ok (f a b) Q E s
def Ly{α β γ δ:Type}(f:α->β->γ->M δ)(Q:δ->K->Prop)(E:bZ)(a:α)(b:β)(c:γ)(s:K):Prop:=Ok (f a b c) Q E s
def kV{α β:Type}(v:(β->K->Prop)->K->Prop)(c:α->β->K->Prop)(a:α)(s:K):Prop:=v (c a) s
def Lz{α β γ:Type}(v:(γ->K->Prop)->K->Prop)(c:α->β->γ->K->Prop)(a:α)(b:β)(s:K):Prop:=v (c a b) s
def kQ{α:Type}{ρ:Type}(f:α->(ρ->K->Prop)->K->Prop)(Q:ρ->K->Prop)(a:α)(s:K):Prop:=f a Q s
def kP{α:Type}(f:α->(K->Prop)->K->Prop)(Q:K->Prop)(a:α)(s:K):Prop:=f a Q s
def wH(A a:K->Prop)(q:bf)(s:K):Prop:=aq q (A s)<|a s
def LA{α:Type}(Q:D α->K->Prop)(v:α)(a:D α)(s:K):Prop:=Q (v::a) s
def LB(Q:bZ)(a:D CV)(s:K):Prop:=vN (!ku a)<|Q (.tup a) s
def LC(c:bf)(Q:bZ)(E:bZ)(a:D CV)(s:K):Prop:=vN (!ku a)<|Ok (adX c a) Q E s
def kL(Q:bZ)(l:D CV)(s:K):Prop:=l.length<=1000/\Q (.lst l) s
def zV(a:f9)(t:ai)(d:CV->M (al CV))(Q:bZ)(E:bZ)(c:D CV)(s:K):Prop:=vN (!ew a t s)<|Ok (cW d c) (kL Q) E s
def kB(c:mW)(A a:K->Prop)(q:bf)(s:K):Prop:=match c with
 |.And=>aq q (A s)<|a s
 |.Or=>aq q (a s)<|A s
def adY(a:mW)(A:K->Prop)(Q:bZ)(E:bZ)(v:CV)(s:K):Prop:=Ok (bx v) (kB a A<|Q v) E s
def adZ(A:K->Prop)(Q:bZ)(E:bZ)(c:CV)(s:K):Prop:=Ok (bx c) (wH A<|Q c) E s
def kCh(c:ie)(f:CV->(CV->K->Prop)->K->Prop)(a:CV)(Q:bZ)(E:bZ)(b:CV)(s:K):Prop:=Ok (iR c a b) (adZ (f b Q) Q E) E s
def LD(T:Tab)(c:bP)(a:CV×D CV)(d:D CV):M CV:=cH T c a.1<|a.2++d
structure Vv where
 e:ai->(CV->K->Prop)->K->Prop
 es:D ai->(D CV->K->Prop)->K->Prop
 o:al ai->(CV->K->Prop)->K->Prop
 b:mW->D ai->(CV->K->Prop)->K->Prop
 c:D ie->D ai->CV->(CV->K->Prop)->K->Prop
def LG(T:Tab)(z:bP)(E:bZ)(n:J)(v:Vv)(k:EK)(Q:bZ)(s:K):Prop:=match k with
 |.const c=>Ok (yy c) Q E s|.name x=>Ok (em T x) Q E s|.bool q j=>v.b q j Q s|.bin l q r=>v.e l (kV (v.e r)<|kJ (ej q) Q E) s|.un q x=>v.e x (kF (nu q) Q E) s|.iff t b o=>v.e t (kF bx (wH (v.e b<|kF pq Q E)<|v.e o (kF pq Q E)) E) s|.tup w=>vN (!bV w)<|v.es w (LB Q) s
 |.lst w p=>vN (!bV w)<|v.es w (LC (T.gQ p) Q E) s
 |.dict F j=>vN (decide (F.length>15))<|Ok (qd ((qm F j).map .dA)) Q E s
 |.cmp l A X=>v.e l (kQ (v.c A X) Q) s
 |.nA o m Y args p=>vN (!gk o||!bV args||decide (args.length>20)||Y.endLine !=p.line) (match mi m args with
  |some G=>v.e o (kF (λr=>sq r G.1 G.2) Q E) s|none=>v.e o (kF (λr=>oI T r m) (kV (v.es args)<|kJ (LD T z) Q E) E) s)
 |.call f args=>vN (!bV args||decide (args.length>20))<|Ok (em T f) (kV (v.es args) (kJ (cH T z) Q E)) E s
 |.qk j=>vN (decide (j.length<2)||decide (j.length>10))<|Ok (jC (aB T z n) j) (kF eg Q E) E s
 |.attr o a=>vN (!gk o)<|v.e o (kF (λr=>iu T r a) Q E) s
 |.slice x l d=>v.e x (kV (v.o l)<|Lz (v.o d) (Ly ir Q E)) s|.rev x=>v.e x (kF nv Q E) s|.sub x i=>v.e x (kV (v.e i)<|kJ fT Q E) s|.comp e t P y h=>vN (decide (n<4)||decide (y.length>1)||ql P)<|vN (!ew h t s) (v.e P (kF pt (zV h t (c7 T z n e t y h) Q E) E) s)
 |.bad=>bA
def vBK(v:Vv)(E:bZ)(c:mW)(a:D ai)(Q:bZ)(s:K):Prop:=match a with
 |[]=>bA
 |e::l=>(match l with
  |[]=>v.e e Q s|f::a=>v.e e (adY c (v.b c (f::a) Q) Q E) s)
def ad2(v:Vv)(E:bZ)(d:ie)(e:ai)(c:D ie)(f:D ai)(a:CV)(Q:bZ)(s:K):Prop:=match c with
 |[]=>(match f with
  |[]=>vN (nZ d e)<|v.e e (kF (iR d a) Q E) s
  |_::_=>bA)
 |h::c=>(match f with
  |[]=>bA|i::f=>vN (nZ d e)<|v.e e (kCh d (v.c (h::c) (i::f)) a Q E) s)
def vCK(v:Vv)(E:bZ)(c:D ie)(d:D ai)(a:CV)(Q:bZ)(s:K):Prop:=match c with
 |[]=>bA
 |f::c=>(match d with
  |[]=>bA|e::d=>ad2 v E f e c d a Q s)
mutual
noncomputable def vE(T:Tab)(h:bP)(E:bZ):J->ai->(CV->K->Prop)->K->Prop
 |0,_,_,_=>bA
 |n+1,e,Q,s=>match jK e with
  |.const c=>Ok (yy c) Q E s|.name x=>Ok (em T x) Q E s|.bool q k=>ya T h E n q k Q s|.bin l q r=>vE T h E n l (kV (vE T h E n r)<|kJ (ej q) Q E) s|.un q x=>vE T h E n x (kF (nu q) Q E) s|.iff t b o=>vE T h E n t (kF bx (wH (vE T h E n b<|kF pq Q E)<|vE T h E n o (kF pq Q E)) E) s|.tup v=>vN (!bV v)<|mI T h E n v (LB Q) s
  |.lst v p=>vN (!bV v)<|mI T h E n v (LC (T.gQ p) Q E) s
  |.dict z k=>vN (decide (z.length>15))<|Ok (qd ((qm z k).map .dA)) Q E s
  |.cmp l y G=>vE T h E n l (kQ (wI T h E n y G) Q) s
  |.nA o m P args p=>vN (!gk o||!bV args||decide (args.length>20)||P.endLine !=p.line) (match mi m args with
   |some A=>vE T h E n o (kF (λr=>sq r A.1 A.2) Q E) s|none=>vE T h E n o (kF (λr=>oI T r m) (kV (mI T h E n args)<|kJ (LD T h) Q E) E) s)
  |.call f args=>vN (!bV args||decide (args.length>20))<|Ok (em T f) (kV (mI T h E n args) (kJ (cH T h) Q E)) E s
  |.qk k=>vN (decide (k.length<2)||decide (k.length>10))<|Ok (jC (aB T h n) k) (kF eg Q E) E s
  |.attr o a=>vN (!gk o)<|vE T h E n o (kF (λr=>iu T r a) Q E) s
  |.slice x l d=>vE T h E n x (kV (vO T h E n l)<|Lz (vO T h E n d) (Ly ir Q E)) s|.rev x=>vE T h E n x (kF nv Q E) s|.sub x i=>vE T h E n x (kV (vE T h E n i)<|kJ fT Q E) s|.comp e t F w j=>vN (decide (n<4)||decide (w.length>1)||ql F)<|vN (!ew j t s) (vE T h E n F (kF pt (zV j t (c7 T h n e t w j) Q E) E) s)
  |.bad=>bA
noncomputable def mI(T:Tab)(a:bP)(E:bZ):J->D ai->(D CV->K->Prop)->K->Prop
 |0,_,_,_=>bA|_+1,[],Q,s=>Q [] s|n+1,e::c,Q,s=>vE T a E n e (kV (mI T a E n c)<|LA Q) s
noncomputable def vO(T:Tab)(a:bP)(E:bZ):J->al ai->(CV->K->Prop)->K->Prop
 |0,_,_,_=>bA|_+1,W,Q,s=>Q .none s|n+1,I e,Q,s=>vE T a E n e Q s
noncomputable def ya(T:Tab)(a:bP)(E:bZ):J->mW->D ai->(CV->K->Prop)->K->Prop
 |0,_,_,_,_=>bA|n+1,c,d,Q,s=>vBK ⟨vE T a E n,mI T a E n,vO T a E n,ya T a E n,wI T a E n⟩ E c d Q s
noncomputable def wI(T:Tab)(c:bP)(E:bZ):J->D ie->D ai->CV->(CV->K->Prop)->K->Prop
 |0,_,_,_,_,_=>bA|n+1,d,e,a,Q,s=>vCK ⟨vE T c E n,mI T c E n,vO T c E n,ya T c E n,wI T c E n⟩ E d e a Q s
end
abbrev vv(T:Tab)(a:bP)(E:bZ)(n:J):Vv:=⟨vE T a E n,mI T a E n,vO T a E n,ya T a E n,wI T a E n⟩
def Ok.bind(h:Ok m (λa s=>Ok (f a) Q E s) E s):Ok (M.bind m f) Q E s:=by unfold Ok M.bind at*;cases e:m s<;>rw[e]at h<;>exact h
def Ok.mono(h:Ok m Q E s)(k:∀a s,Q a s->c a s):Ok m c E s:=by unfold Ok at*;generalize e:m s=d;induction d using Internal.R.casesOn with|ok a f=>rw[e]at h;exact k _ _ h|exc x f=>rw[e]at h;exact h|C=>rw[e]at h;exact h
noncomputable def q6(h:vN q A):q=ag/\A:=by induction q with|true=>exact h.elim|false=>exact⟨U,h⟩
def Ok.guard{q:bf}(h:vN q (Ok m Q E s)):Ok (if q then C else m) Q E s:=by refine aI (q6 h) λa h=>?_;subst a;exact h
def Ok.ad4{c:K->bf}(h:vN (c s) (Ok m Q E s)):Ok (λs=>if c s=B then .C else m s) Q E s:=by
 refine aI (q6 h) λq h=>?_;have e:(λs=>if c s=B then R.C else m s) s=m s:=by show(if c s=B then R.C else m s)=m s;exact Z q U
 unfold Ok at*;exact Z e h
def Ok.zW(h:aq q (Ok a Q E s) (Ok b Q E s)):Ok (if q=B then a else b) Q E s:=by cases q<;>exact h
def Ok.fy(h:Ok m (λv s=>Ok (pq v) Q E s) E s):Ok (Internal.fy m) Q E s:=by unfold Ok Internal.fy at*;generalize e:m s=c;induction c using Internal.R.casesOn with|ok a d=>rw[e]at h;exact h|exc x d=>rw[e]at h;exact h|C=>rw[e]at h;exact h
def aq.imp(h:aq q A c)(a:A->d)(b:c->e):aq q d e:=by cases q;exact b h;exact a h
def vN.imp(h:vN q A)(a:A->c):vN q c:=by cases q;exact a h;exact h
abbrev VS0(T cl n):=∀E a op e Q s,wI T cl E n op e a Q s->Ok (gm T cl n a op e) Q E s
structure VS(T:Tab)(cl:bP)(n:J):Prop where
 e:∀E e Q s,vE T cl E n e Q s->Ok (aB T cl n e) Q E s
 es:∀E e Q s,mI T cl E n e Q s->Ok (kv T cl n e) Q E s
 o:∀E e Q s,vO T cl E n e Q s->Ok (qy T cl n e) Q E s
 b:∀E op e Q s,ya T cl E n op e Q s->Ok (jN T cl n op e) Q E s
 c:VS0 T cl n
def Ok.jS(h:vN (!b) (Ok m Q E s)):Ok (ji b m) Q E s:=by induction b with|true=>exact h|false=>exact h.elim
def Ok.items(h:Ok (pt c) (kF f Q E) E s):Ok (λs=>match gG s c with
 |some a=>f a s|none=>.C) Q E s:=by
 unfold Ok pt at h;unfold Ok;dsimp only at h⊢;generalize e:gG s c=d;induction d using bL with|none=>rw[e]at h;exact h|some l=>rw[e]at h;exact h
def Ok.comp(h:Ok (pt k) (zV a t (c7 T f n e t d a) Q E) E s):Ok (B8 (ev T f n) e t d a k) Q E s:=by
 unfold Ok pt at h;unfold Ok;generalize i:gG s k=j;induction j using bL with
 |none=>rw[i]at h;exact h.elim|some c=>
  rw[i]at h;have h:zV a t (c7 T f n e t d a) Q E c s:=h;refine aI (q6 h) λq3 h=>?_;have h:Ok (cW (B7 (ev T f n) e t d a) c) (kL Q) E s:=h;unfold Ok at h;unfold B8;rw[i];dsimp only;rw[aa (show ew a t s=B by simpa using q3)];generalize cW (B7 (ev T f n) e t d a) c s=z at h⊢;induction z with
  |C=>exact h|exc x m=>exact h|ok l m=>have h:kL Q l m:=h;show R.rec bA Q E (if l.length<=1000 then _ else _);exact Z (aa h.1)<|h.2
def ad5(S:VS T j n)(k:EK)(h:LG T j E n (vv T j E n) k Q s):Ok (oS T j n (ev T j n) k) Q E s:=by
 induction k with
 |const c=>exact h|name x=>exact h|bool op w=>exact S.b _ _ _ _ _ h|bin l op r=>exact .bind<|(S.e _ _ _ _ h).mono λa s h=>.bind (S.e _ _ _ _ h)
 |un op x=>exact .bind<|S.e _ _ _ _ h
 |iff t b o=>exact .bind<|.bind ((S.e _ _ _ _ h).mono λc s h=>Ok.mono h λq s h=>.zW (aq.imp h (λh=>.fy (S.e _ _ _ _ h)) λh=>.fy (S.e _ _ _ _ h)))
 |tup es=>exact .jS<|vN.imp h λh=>.bind ((S.es _ _ _ _ h).mono λw s h=>.jS h)
 |lst es p=>exact .jS (vN.imp h λh=>.bind ((S.es _ _ _ _ h).mono λw s h=>.jS (vN.imp h λh=>by
  generalize hc:T.gQ p=DM;induction DM using dN with
  |true=>rw[hc]at h;exact h|false=>rw[hc]at h;exact h)))
 |dict ks w=>exact .guard h|cmp l ops cs=>exact .bind<|(S.e _ _ _ _ h).mono λa s h=>S.c _ _ _ _ _ _ h
 |nA o m ap args p=>
  refine .guard<|vN.imp h λh=>?_
  generalize hr:mi m args=lB;induction lB using bL with
  |none=>rw[hr]at h;exact .bind<|(S.e _ _ _ _ h).mono λr s h=>.bind (Ok.mono h λfs s h=>.bind (S.es _ _ _ _ h))
  |some yz=>rw[hr]at h;exact .bind<|S.e _ _ _ _ h
 |call f args=>exact .guard<|vN.imp h λh=>.bind (h.mono λfv s h=>.bind (S.es _ _ _ _ h))
 |qk w=>exact .guard<|vN.imp h λh=>.bind h
 |attr o a=>refine aI (q6 h) λq h=>?_;show Ok (if gk o=B then _ else _) Q E s;exact Z (aa<|by simpa using q)<|.bind (S.e _ _ _ _ h)
 |slice v l d=>exact .bind<|(S.e _ _ _ _ h).mono λr s h=>.bind ((S.o _ _ _ _ h).mono λa s h=>.bind (S.o _ _ _ _ h))
 |rev v=>exact .bind<|S.e _ _ _ _ h
 |sub v i=>exact .bind<|(S.e _ _ _ _ h).mono λr s h=>.bind (S.e _ _ _ _ h)
 |comp e t it ifs scope=>exact .guard<|vN.imp h λh=>.ad4 (vN.imp h λh=>.bind ((S.e _ _ _ _ h).mono λiv s h=>.comp h))
 |bad=>exact h.elim
def ad6(h:vE T a E (n+1) e Q s):LG T a E n (vv T a E n) (jK e) Q s:=by
 conv at h=>whnf
 generalize jK e=k at h⊢;induction k using EK.casesOn<;>exact h
def ad7(S:VS T cl n):VS T cl (n+1) where
 e E e Q s h:=ad5 S _<|ad6 h
 es E es Q s h:=by
  induction es using bk with
  |nil=>exact h|cons e es=>exact .bind<|(S.e _ _ _ _ h).mono λv s h=>.bind ((S.es _ _ _ _ h).mono λvs s h=>h)
 o E eo Q s h:=by induction eo using bL with|none=>exact h|some e=>exact S.e _ _ _ _ h
 b E op es Q s h:=by
  induction es using bk with
  |nil=>exact h.elim
  |cons e es=>induction es using bk with
   |nil=>exact S.e _ _ _ _ h
   |cons f es=>exact .bind<|(S.e _ _ _ _ h).mono λv s h=>.bind (Ok.mono h λq s h=>by cases op<;>cases q<;>first|exact S.b _ _ _ _ _ h|exact h)
 c E a ops es Q s h:=by
  induction ops using bk with
  |nil=>exact h.elim
  |cons op ops=>induction es using bk with
   |nil=>exact h.elim
   |cons e es=>induction ops using bk with
    |nil=>induction es using bk with
     |nil=>exact .guard<|vN.imp h λh=>.bind (S.e _ _ _ _ h)
     |cons _ _=>exact h.elim
    |cons op' ops=>induction es using bk with
     |nil=>exact h.elim|cons e' es=>exact .guard<|vN.imp h λh=>.bind ((S.e _ _ _ _ h).mono λb s h=>.bind (Ok.mono h λc s h=>.bind (Ok.mono h λq s h=>.zW (aq.imp h (λh=>S.c _ _ _ _ _ _ h) λh=>h))))
noncomputable def pv:∀n,VS T a n
 |0=>⟨λY Y Y Y h=>h.elim,λY Y Y Y h=>h.elim,λY Y Y Y h=>h.elim,λY Y Y Y Y h=>h.elim,λY Y Y Y Y Y h=>h.elim⟩|n+1=>ad7<|pv n
def LH(Q:SV->K->Prop)(a:D CV)(s:K):Prop:=vN (!ku a)<|Q (.ol a) s
def kU(Q:K->Prop)(_:c9)(s:K):Prop:=Q s
def kN{α:Type}(Q:bD->K->Prop)(_:α)(s:K):Prop:=Q .aO s
def LI(Q:bD->K->Prop)(v:CV)(s:K):Prop:=Q (.ret v) s
def ad8(T:Tab)(a:H)(v:SV)(r:CV):M Unit:=kr T r a v
def alE(T:Tab)(a:H)(r w:CV):M Unit:=kr T r a<|.v w
def LJ(x:H)(r:CV):M Unit:=fU x<|.v r
def ad9(v:SV)(Q:K->Prop)(E:bZ)(r k:CV)(s:K):Prop:=match v with|.v w=>Ok (jL r k w) (kU Q) E s|.ol a=>Ok (jL r k<|.lst a) (kU Q) E s|_=>bA
def D5(k:J)(f:D SV->(K->Prop)->K->Prop)(Q:K->Prop)(a:D CV)(s:K):Prop:=vN (!decide (a.length=k))<|f (a.map .v) Q s
def LK(k:J)(f:D SV->(K->Prop)->K->Prop)(Q:K->Prop)(l:D SV)(s:K):Prop:=vN (!(decide (l.length=k)&&iw l))<|f l Q s
def LM(T:Tab)(a:H)(c:mV)(v:(CV->K->Prop)->K->Prop)(Q:bD->K->Prop)(E:bZ)(r:CV)(s:K):Prop:=Ok (iu T r a) (kV v<|kJ (iQ c) (kF (alE T a r) (kN Q) E) E) E s
def LN(a:mV)(v:(CV->K->Prop)->K->Prop)(Q:bD->K->Prop)(E:bZ)(r k:CV)(s:K):Prop:=Ok (fT r k) (kV v<|kJ (iQ a) (kF (jL r k) (kN Q) E) E) E s
def aea(A:K->Prop)(Q:bD->K->Prop)(f:bD)(s:K):Prop:=match f with|.aO=>A s|f=>Q f s
structure Ww where
 sv:ai->(SV->K->Prop)->K->Prop
 dG:D ai->(D SV->K->Prop)->K->Prop
 a:ai->SV->(K->Prop)->K->Prop
 as:D ai->D SV->(K->Prop)->K->Prop
 s:cf->(bD->K->Prop)->K->Prop
 ss:D cf->(bD->K->Prop)->K->Prop
def LO(T:Tab)(E:bZ)(v:Vv)(e:ai)(k:DK)(Q:SV->K->Prop)(s:K):Prop:=match k with
 |.lst a p=>aq (T.gQ p) (v.e e (kF tE Q E) s)<|vN (!bV a) (v.es a (LH Q) s)
 |.dA=>Q (.od []) s|.eQ=>v.e e (kF tE Q E) s
def aeb(E:bZ)(w:Ww)(a:D ai)(v:SV)(Q:K->Prop)(s:K):Prop:=match v with
 |.v x=>vN (!bV a)<|Ok (pu x) (D5 a.length (w.as a) Q) E s
 |_=>bA
def LP(T:Tab)(E:bZ)(v:Vv)(w:Ww)(t:ai)(x:SV)(Q:K->Prop)(s:K):Prop:=match t with|.Name y _=>Ok (fU y x) (kU Q) E s|.Attribute o a _=>v.e o (kF (ad8 T a x) (kU Q) E) s|.Subscript o i _=>v.e o (kV (v.e i)<|ad9 x Q E) s|.Tuple c _ _=>aeb E w c x Q s|_=>bA
def aec(w:Ww)(c:D ai)(a:D SV)(Q:K->Prop):K->Prop:=match c with
 |[]=>(match a with
  |[]=>Q|_::_=>λY=>bA)
 |t::c=>(match a with
  |[]=>λY=>bA|v::a=>w.a t v<|w.as c a Q)
def LQ(T:Tab)(f:bP)(E:bZ)(n:J)(v:Vv)(w:Ww)(k:SK)(Q:bD->K->Prop)(s:K):Prop:=match k with
 |.expr e=>vN (oN e)<|v.e e (kN Q) s
 |.pass=>Q .aO s|.brk=>Q .brk s|.cnt=>Q .cnt s|.qp=>Q (.ret .none) s|.ret e=>v.e e (kF pq (LI Q) E) s|.qq c h=>vN (!sp c h)<|w.dG h (LK c.length (w.as c) (Q .aO)) s
 |.oO c x=>vN (!bV c)<|v.e x (kF pu (D5 c.length (w.as c) (Q .aO)) E) s
 |.oP t x _=>vN (!qo t)<|w.sv x (kP (w.a t) (Q .aO)) s
 |.qr x d y=>Ok (em T x) (kV (v.e y)<|kJ (iQ d) (kF (LJ x) (kN Q) E) E) E s|.qt o a d y=>v.e o (LM T a d (v.e y) Q E) s|.nC o i d y=>vN (lq i)<|v.e o (kV (v.e i) (LN d (v.e y) Q E)) s
 |.iff t b o=>v.e t (kF bx (wH (w.ss b Q)<|w.ss o Q) E) s|.hM t b=>Ok (jh ((aB T f n t).bind bx) (cb T f n b) WF) Q E s|.qu t j b=>v.e j (kF pt (kF (dD λx=>(dm T f n t (.v x)).bind λY=>cb T f n b) Q E) E) s|.raise e=>v.e e (kF (sy T) Q E) s|.qw ..=>bA|.bad=>bA
mutual
noncomputable def tF(T:Tab)(a:bP)(E:bZ):J->ai->(SV->K->Prop)->K->Prop
 |0,_,_,_=>bA|n+1,e,Q,s=>LO T E (vv T a E n) e (qx e) Q s
noncomputable def tG(T:Tab)(a:bP)(E:bZ):J->D ai->(D SV->K->Prop)->K->Prop
 |0,_,_,_=>bA|_+1,[],Q,s=>Q [] s|n+1,e::c,Q,s=>tF T a E n e (kV (tG T a E n c)<|LA Q) s
noncomputable def vA(T:Tab)(a:bP)(E:bZ):J->ai->SV->(K->Prop)->K->Prop
 |0,_,_,_,_=>bA|n+1,t,v,Q,s=>LP T E (vv T a E n) ⟨tF T a E n,tG T a E n,vA T a E n,tH T a E n,vS T a E n,bu T a E n⟩ t v Q s
noncomputable def tH(T:Tab)(a:bP)(E:bZ):J->D ai->D SV->(K->Prop)->K->Prop
 |0,_,_,_,_=>bA|n+1,c,d,Q,s=>aec ⟨tF T a E n,tG T a E n,vA T a E n,tH T a E n,vS T a E n,bu T a E n⟩ c d Q s
noncomputable def vS(T:Tab)(c:bP)(E:bZ):J->cf->(bD->K->Prop)->K->Prop
 |0,_,_,_=>bA
 |n+1,j,Q,s=>match oR j with
  |.expr e=>vN (oN e)<|vE T c E n e (kN Q) s
  |.pass=>Q .aO s|.brk=>Q .brk s|.cnt=>Q .cnt s|.qp=>Q (.ret .none) s|.ret e=>vE T c E n e (kF pq (LI Q) E) s|.qq d h=>vN (!sp d h)<|tG T c E n h (LK d.length (tH T c E n d) (Q .aO)) s
  |.oO d x=>vN (!bV d)<|vE T c E n x (kF pu (D5 d.length (tH T c E n d) (Q .aO)) E) s
  |.oP t x _=>vN (!qo t)<|tF T c E n x (kP (vA T c E n t) (Q .aO)) s
  |.qr x f y=>Ok (em T x) (kV (vE T c E n y)<|kJ (iQ f) (kF (LJ x) (kN Q) E) E) E s|.qt o a f y=>vE T c E n o (LM T a f (vE T c E n y) Q E) s|.nC o i f y=>vN (lq i)<|vE T c E n o (kV (vE T c E n i) (LN f (vE T c E n y) Q E)) s
  |.iff t b o=>vE T c E n t (kF bx (wH (bu T c E n b Q)<|bu T c E n o Q) E) s|.hM t b=>Ok (jh ((aB T c n t).bind bx) (cb T c n b) WF) Q E s|.qu t k b=>vE T c E n k (kF pt (kF (dD λx=>(dm T c n t (.v x)).bind λY=>cb T c n b) Q E) E) s|.raise e=>vE T c E n e (kF (sy T) Q E) s|.qw ..=>bA|.bad=>bA
noncomputable def bu(T:Tab)(a:bP)(E:bZ):J->D cf->(bD->K->Prop)->K->Prop
 |0,_,_,_=>bA|_+1,[],Q,s=>Q .aO s|n+1,c::r,Q,s=>vS T a E n c (aea (bu T a E n r Q) Q) s
end
abbrev ww(T:Tab)(a:bP)(E:bZ)(n:J):Ww:=⟨tF T a E n,tG T a E n,vA T a E n,tH T a E n,vS T a E n,bu T a E n⟩
abbrev tI0(T cl n):=∀E t v Q s,vA T cl E n t v Q s->Ok (dm T cl n t v) (λY=>Q) E s
abbrev tI1(T cl n):=∀E t v Q s,tH T cl E n t v Q s->Ok (iS T cl n t v) (λY=>Q) E s
structure tI(T:Tab)(cl:bP)(n:J):Prop where
 sv:∀E e Q s,tF T cl E n e Q s->Ok (lr T cl n e) Q E s
 dG:∀E e Q s,tG T cl E n e Q s->Ok (oU T cl n e) Q E s
 a:tI0 T cl n
 as:tI1 T cl n
 s:∀E t Q s,vS T cl E n t Q s->Ok (c5 T cl n t) Q E s
 ss:∀E t Q s,bu T cl E n t Q s->Ok (cb T cl n t) Q E s
def Ok.pu{f:D CV->M α}(h:Ok (pu w) (λa s=>vN (!decide (a.length=k))<|Ok (f a) Q E s) E s):
 Ok (λs=>match c4 s w with
  |some a=>if a.length=k then f a s else .C
  |none=>.C) Q E s:=by
 unfold Ok Internal.pu at*;dsimp only at h⊢;generalize e:c4 s w=c;induction c using bL with
 |none=>rw[e]at h;exact h|some a=>rw[e]at h;dsimp only at h⊢;exact aI (q6 h) λq h=>Z (aa<|by simpa using q) h
def Ok.mj(h:Ok m (kF tE Q E) E s):Ok (Internal.mj m) Q E s:=.bind h
def aed(S:VS T a n)(k:DK)(h:LO T E (vv T a E n) e k Q s):Ok (B9 T (ev T a n) e k) Q E s:=by
 induction k with
 |lst c p=>have h:aq (T.gQ p) (vE T a E n e (kF tE Q E) s) (vN (!bV c)<|mI T a E n c (LH Q) s):=h;refine Ok.zW<|aq.imp h (λh=>.mj (S.e _ _ _ _ h)) λh=>.jS (vN.imp h λh=>.bind ((S.es _ _ _ _ h).mono λvs s h=>.jS h))
 |dA=>exact h|eQ=>exact .mj<|S.e _ _ _ _ h
def aee{n:J}(S:VS T cl n)(c:tI T cl n)(t:ai)(v:SV)(h:LP T E (vv T cl E n) (ww T cl E n) t v Q s):Ok (Ht T (ev T cl n) t v) (λY=>Q) E s:=by
 induction t using gL with
 |Name x p=>exact h|Attribute o a p=>exact .bind<|S.e _ _ _ _ h
 |Subscript o i p=>exact .bind<|(S.e _ _ _ _ h).mono λr s h=>.bind ((S.e _ _ _ _ h).mono λk s h=>by cases v<;>exact h)
 |Tuple ts a p=>
  induction v with
  |v w=>
   refine aI (q6 h) λq h=>?_;have q:bV ts=true:=by simpa using q
   show Ok (x6 (ev T cl n) ts<|.v w) _ E s;unfold x6;simp only [q,Ga];exact .pu (f:=λxs=>iS T cl n ts<|xs.map .v)<|Ok.mono h λxs s h=>vN.imp h λh=>c.as _ _ _ _ _ h
  |_=>exact h.elim
 |_=>exact h.elim
def aef{n:J}(S:VS T d n)(a:tI T d n)(k:SK)(h:LQ T d E n (vv T d E n) (ww T d E n) k Q s):Ok (vy T (ev T d n) k) Q E s:=by
 induction k with
 |expr e=>exact .guard<|vN.imp h λh=>.bind (S.e _ _ _ _ h)
 |pass=>exact h|brk=>exact h|cnt=>exact h|qp=>exact h|ret e=>exact .bind<|.fy (S.e _ _ _ _ h)
 |qq ts vs=>exact .guard<|vN.imp h λh=>.bind ((a.dG _ _ _ _ h).mono λl s h=>aI (q6 h) λq h=>Z (aa (by simpa using q)) (.bind (a.as _ _ _ _ _ h)))
 |oO ts v=>exact .guard<|vN.imp h λh=>.bind ((S.e _ _ _ _ h).mono λw s h=>.pu (f:=λxs=>(iS T d n ts (xs.map .v)).bind λY=>M.pure Internal.bD.aO) (Ok.mono h λxs s h=>vN.imp h λh=>Ok.bind (f:=λY=>M.pure Internal.bD.aO) (a.as _ _ _ _ _ h)))
 |oP t v p=>exact .guard<|vN.imp h λh=>.bind ((a.sv _ _ _ _ h).mono λw s h=>.bind (a.a _ _ _ _ _ h))
 |qr x op v=>exact .bind<|Ok.mono h λj s h=>.bind ((S.e _ _ _ _ h).mono λb s h=>.bind (Ok.mono h λr s h=>.bind h))
 |qt o x op v=>exact .bind<|(S.e _ _ _ _ h).mono λr s h=>.bind (Ok.mono h λj s h=>.bind ((S.e _ _ _ _ h).mono λb s h=>.bind (Ok.mono h λw s h=>.bind h)))
 |nC o i op v=>exact .guard<|vN.imp h λh=>.bind ((S.e _ _ _ _ h).mono λr s h=>.bind ((S.e _ _ _ _ h).mono λk s h=>.bind (Ok.mono h λj s h=>.bind ((S.e _ _ _ _ h).mono λb s h=>.bind (Ok.mono h λw s h=>.bind h)))))
 |iff t b o=>exact .bind<|.bind ((S.e _ _ _ _ h).mono λc s h=>Ok.mono h λq s h=>.zW (aq.imp h (λh=>a.ss _ _ _ _ h) λh=>a.ss _ _ _ _ h))
 |hM t b=>exact h|qu t it b=>exact .bind<|(S.e _ _ _ _ h).mono λiv s h=>.items h
 |raise e=>exact .bind<|S.e _ _ _ _ h
 |qw=>exact h.elim|bad=>exact h.elim
def aeg(h:vS T a E (n+1) c Q s):LQ T a E n (vv T a E n) (ww T a E n) (oR c) Q s:=by
 conv at h=>whnf
 generalize oR c=k at h⊢;induction k using SK.casesOn<;>exact h
def aeh:tI T a 0:=⟨λY Y Y Y h=>h.elim,λY Y Y Y h=>h.elim,λY Y Y Y Y h=>h.elim,λY Y Y Y Y h=>h.elim,λY Y Y Y h=>h.elim,λY Y Y Y h=>h.elim⟩
def aei(S:VS T cl n)(c:tI T cl n):tI T cl (n+1) where
 sv E e Q s h:=aed S _ h
 dG E es Q s h:=by
  induction es with
  |nil=>exact h|cons e es=>exact .bind<|(c.sv _ _ _ _ h).mono λv s h=>.bind ((c.dG _ _ _ _ h).mono λvs s h=>h)
 a E t v Q s h:=aee S c t v h
 as E ts vs Q s h:=by
  induction ts with
  |nil=>induction vs with
   |nil=>exact h|cons _ _=>exact h.elim
  |cons t ts=>induction vs with
   |nil=>exact h.elim|cons v vs=>exact .bind<|(c.a _ _ _ _ _ h).mono λY s h=>c.as _ _ _ _ _ h
 s E t Q s h:=aef S c _<|aeg h
 ss E ts Q s h:=by
  induction ts with
  |nil=>exact h
  |cons st r=>exact .bind<|(c.s _ _ _ _ h).mono λf s h=>by cases f<;>first|exact c.ss _ _ _ _ h|exact h
noncomputable def tJ:∀n,tI T a n
 |0=>aeh|n+1=>aei (pv n)<|tJ n
@[irreducible] def Cl(d:bP)(q:aX)(c:D CV)(e:D aQ)(Q E:cT):Prop:=match d q c e with|.ok v a=>Q v a|.exc x a=>E x a|.C=>bA
def bB(Q:cT)(fl:bD)(s:K):Prop:=match fl with|.ret v=>Q v s.hp|.aO=>Q .none s.hp|_=>bA
def ba(i:O.fns q=I f)(j:f.native=W)(k:mm f.params args f.km=I l)
 (h:bu O (aj O d) (λx s=>E x s.hp) 100 f.body (bB Q) ⟨l++f.locs.map (λx=>(x,.un)),c,f.sc⟩):Cl (aj O<|d+1) q args c Q E:=by
 have h:=(tJ 100).ss _ _ _ _ h;unfold Cl;refine Z (sA i) ?_;unfold oV;refine Z j ?_;dsimp only;refine Z k ?_;dsimp only;unfold Ok at h;show(match(match cb O (aj O d) 100 f.body ⟨l++f.locs.map (λx=>(x,.un)),c,f.sc⟩ with
  |.ok (.ret v) s=>RH.ok v s.hp|.ok .aO s=>.ok .none s.hp|.ok _ _=>.C|.exc e s=>.exc e s.hp
  |.C=>.C:RH)with
  |.ok v a=>Q v a|.exc x a=>E x a|.C=>bA)
 generalize e:cb O (aj O d) 100 f.body ⟨l++f.locs.map (λx=>(x,.un)),c,f.sc⟩=m;induction m using Internal.R.casesOn with
 |C=>rw[e]at h;exact h|exc x s=>rw[e]at h;exact h|ok fl s=>rw[e]at h;clear e;cases fl<;>exact h
def Ok.own(d:args.all bj=B)(h:Cl c q args s.hp (λv hp=>Q v {s with hp}) (λx hp=>E x {s with hp})):Ok (ma c q args) Q E s:=by delta Ok ma;refine Z (aa d) ?_;delta Cl at h;cases e:c q args s.hp<;>rw[e]at h<;>exact h
def Cl.mono(h:Cl d q args a Q E)(k:∀v a,Q v a->f v a)(i:∀v a,E v a->j v a):Cl d q args a f j:=by unfold Cl at*;generalize e:d q args a=ze;induction ze using RH.casesOn with|ok v c=>rw[e]at h;exact k _ _ h|exc v c=>rw[e]at h;exact i _ _ h|C=>rw[e]at h;exact h
def aq.i(a:q=B->A)(b:q=ag->c):aq q A c:=by cases q;exact b U;exact a U
def aq.d[nY p](a:p->A)(b:¬p->c):aq (decide p) A c:=aq.i (λh=>a<|jx h) λh=>b<|Pw h
def aq.q{b:V}(x:a=b->A)(y:a≠b->c):aq (a==b) A c:=aq.i (λh=>x<|by simpa using h) λh=>y<|by simpa using h
def Ok.mod(c:b≠0)(h:Q (.int<|a.fmod b) s):Ok (ej .Mod (.int a)<|.int b) Q E s:=by unfold Ok;exact Z (show ej .Mod (.int a) (.int b) s=if b=0 then .C else .ok (.int<|a.fmod b) s from U)<|Z (u c) h
def Ok.fdiv(c:b≠0/\b.natAbs.log2<9000)(h:Q (.int<|a.fdiv b) s):Ok (ej .FloorDiv (.int a)<|.int b) Q E s:=by unfold Ok;exact Z (show ej .FloorDiv (.int a) (.int b) s=if b≠0/\b.natAbs.log2<9000 then .ok (.int<|a.fdiv b) s else .C from U)<|Z (aa c) h
def Ok.mul(c:qh a b=B)(h:Q (.int<|a*b) s):Ok (ej .Mult (.int a)<|.int b) Q E s:=by unfold Ok;exact Z (show ej .Mult (.int a) (.int b) s=if qh a b then .ok (.int<|a*b) s else .C from U)<|Z (aa c) h
noncomputable abbrev tK(a c n:V)(b f:bf):aQ:=.e9 [.int a,.int c,.int n,.bool b,.bool f]
structure bX(c:J)(f:bf)(o:aQ):Prop where
 h:∃g sd n b,o=tK g sd n b f/\0<=g/\0<=sd/\sd<2147483648/\0<=n/\n<=c
def Ok.pow(c:0<=b/\b<=1000000/\a.natAbs<2^64)(h:Q (.int<|a^b.toNat) s):Ok (ej .Pow (.int a)<|.int b) Q E s:=by unfold Ok;exact Z (show ej .Pow (.int a) (.int b) s=if 0<=b/\b<=1000000/\a.natAbs<2^64 then .ok (.int<|a^b.toNat) s else .C from U)<|Z (aa c) h
def px(h:n<2^k):n.log2<=k:=by by_cases z:n=0;clear h;subst z;exact dW _;exact cG<|(Nat.log2_lt z).mpr h
def Sm(k:J)(a:V):Prop:=a.natAbs<2^k
def Sm.of(h:a.natAbs<2^64):Sm 64 a:=h
def Sm.mul(x:Sm j a)(y:Sm k b):Sm (j+k) (a*b):=by unfold Sm at*;rw[Gb,Nat.pow_add];exact Nat.mul_lt_mul_of_lt_of_le x (cG y)<|ak0 _
def Sm.bits(x:Sm j a)(y:Sm k b)(h:j+k+2<2^27):qh a b=true:=by unfold qh;have c:=px x;have d:=px y;exact Z il<|br (dC (aY c d) 2) h
def cZ(a:bX c f b)(p:c<=1000000)(q:0<m)(x:m<=1000000)
 (h:∀i z,0<=i->i<m->bX (c+1) f z->Q (.int i) (z::r)):Cl (aj O<|d+1) "_law_take" [.cell 0,.int m] (b::r) Q E:=by
 obtain⟨e,G,n,A,rfl,y,s,t,j,o⟩:=a.h;have w:m≠0/\m.natAbs.log2<9000:=⟨by exact Int.ne_of_gt q,br (px (k:=21)<|br (qA (n:=1000000) (jz q) x) (by lk))<|by lk⟩;refine ba (f:=ae 72) (by kernel_rfl) (by kernel_rfl) (l:=[("box",.v<|.cell 0),("many",.v<|.int m)]) (by kernel_rfl) ?_;(conv=>whnf);refine aq.d (λF=>?_) λF=>?_;refine Ok.mod w.1<|Ok.fdiv w ?_
 (conv=>whnf);exact h _ _ (xV _ q) (xW _ q) ⟨_,_,_,_,U,by refine Z (ak1 _<|jz ‹_›) ?_;exact Int.ediv_nonneg y<|jz ‹_›,s,t,j,by exact bR o<|Int.ofNat_le.mpr (bM _)⟩;(conv=>whnf);induction A with
 |true=>(conv=>whnf);refine Ok.mul (Sm.bits (.of<|bU _ _) (.of<|sJ p j o)<|dk U) ?_;(conv=>whnf);refine Ok.mul (Sm.bits (Sm.mul (.of<|bU _ _)<|.of (sJ p j o)) (.of<|sJ p j o)<|dk U) ?_;(conv=>whnf);refine Ok.mul (Sm.bits (.of<|bU _ _) (.of<|sJ p j o)<|dk U) ?_;(conv=>whnf);refine Ok.mod (w.1) ?_;(conv=>whnf);exact h _ _ (xV _ q) (xW _ q) ⟨_,_,_,_,U,y,s,t,by exact xx j<|dk U,by exact Fk o 1⟩
 |false=>
  (conv=>whnf);refine Ok.mul (Sm.bits (.of<|bU _ _) (.of<|sJ p j o)<|dk U) ?_;(conv=>whnf);refine Ok.pow ⟨by lk,by lk,by exact Tq p s t j o⟩ ?_;(conv=>whnf);refine Ok.mul (Sm.bits (.of ?_) (.of<|bU _ _)<|dk U) ?_;exact br (qA (n:=2147483647) (xV _<|show(0:V)<2147483647 by lk)<|jz (xW _ (show(0:V)<2147483647 by lk)))<|by lk
  (conv=>whnf);refine Ok.mul (Sm.bits (.of<|bU _ _) (.of<|sJ p j o)<|dk U) ?_;(conv=>whnf);refine Ok.pow ⟨by lk,dk U,?_⟩ ?_;exact U6 p j o (xV _<|show(0:V)<2147483647 by lk)<|xW _ (show(0:V)<2147483647 by lk)
  (conv=>whnf);refine Ok.mod (w.1) ?_;(conv=>whnf);exact h _ _ (xV _ q) (xW _ q) ⟨_,_,_,_,U,y,s,t,by exact xx j<|dk U,by exact Fk o 1⟩
structure iY where
 n:V
 ms:D (CV×CV)
noncomputable def wO(w:iY):aQ:=.inst "World" [("natives",.v<|.dA []),("prelude",.v<|.dA []),("read",.v .none),("most",.v<|.int 20000),("taken",.v<|.int 0),("last_number",.v<|.int w.n),("last_ident",.v<|.int 8),("symbol_idents",.od []),("made",.od w.ms),
 ("version",.v<|.int 0),("const_version",.v<|.int 0),("globals",.od []),("out",.ol []),("here",.v .none),("is_ready",.v<|.bool B),("main",.v<|.cell 7)]
def LR(o:al SV):Bool:=match o with
 |none=>ag
 |some v=>(match v with
  |.v w=>!BL w|.un=>ag|_=>B)
def gd(c:aX)(a:D (H×SV))(x:H):Bool:=O.attr c x&&LR (ay a x)
noncomputable def LS(o:al SV)(x:H)(k:J):CV:=match o with
 |none=>.none
 |some v=>(match v with
  |.v w=>w|_=>.c6 k x)
def fJ(a:D (H×SV))(x:H)(k:J):CV:=LS (ay a x) x k
def zX(c:aX)(a:D (H×SV))(x:H)(f:CV):Bool:=!O.exc c&&(ay a x).isNone&&decide ((O.gP c x).bind si=si f)&&(si f).isSome
def yb(c:aX)(a:D (H×SV))(x:H)(v:SV):Bool:=O.attr c x&&decide (a.length<=50)&&(!O.exc c||fG v)&&(ay a x).isNone
def PU(c:aX)(a:D (H×SV))(x:H):Bool:=O.attr c x&&decide (a.length<=50)&&vt (ay a x) (.v .none)
def Ok.fx(c:args.all bj=B)(h:Cl d q args s.hp (λv a=>Q v {s with hp:=a}) (λx a=>E x {s with hp:=a})):Ok (cH O d (.fn q) args) Q E s:=Ok.own c h
def Ok.fn(c:B=args.all bj)(h:Cl d q args s.hp (λv a=>Q v {s with hp:=a}) (λx a=>E x {s with hp:=a})):Ok (cH O d (.fn q) args) Q E s:=Ok.own c.symm h
def Ok.new(j:O.gP c "__init__"=I (.fn q))(k:args.length<=100)(ha:args.all bj=B)
 (h:Cl d q (.cell s.hp.length::args) (s.hp++[.inst c []]) (λv f=>v=.none/\Q (.cell s.hp.length) {s with hp:=f}) (λx f=>E x {s with hp:=f})):Ok (cH O d (.cls c) args) Q E s:=by
 show Ok (nz O d c args) Q E s;have a:Ok (ma d q (.cell s.hp.length::args)) (λv i=>v=.none/\Q (.cell s.hp.length) i) E {s with hp:=s.hp++[.inst c []]}:=Ok.own ha h;unfold Ok at a;have e:nz O d c args s=yv s.hp.length (ma d q (.cell s.hp.length::args) {s with hp:=s.hp++[.inst c []]}):=by unfold nz;exact Z (u<|Nat.not_lt.mpr k)<|Z j U
 unfold Ok;refine Z e ?_;generalize ma d q (.cell s.hp.length::args) {s with hp:=s.hp++[.inst c []]}=r at a;induction r using Internal.R.casesOn with
 |C=>exact a.elim|ok v i=>obtain⟨rfl,a⟩:=a;exact a
 |exc x i=>exact a
def Ok.run(e:m s=.ok a s')(q:P a s'):Ok m P E s:=by unfold Ok;exact Z e q
def wJ(e:sg s v=I n)(h:n<2^63):ny v s=.ok (.int n) s:=by show aS (sg s v) _=_;exact Z e<|aa h
def zY(d:hK a=W)(h:c4 s a=I c)(e:lf c i=I v)(f:c.length<=100000):fT a (.int i) s=.ok v s:=by show(match hK a with|some x=>BJ s x i|none=>vg s a i)=_;refine Z d ?_;unfold vg;refine Z h ?_;show aS (lf c i) _=_;exact Z e<|aa f
def LU(d:jG v=none)(h:(c4 s v).bind kj=I c)(e:(c.map (·.length)).sum+c.length*x.length<=16000000):rV x v s=.ok (.str<|pM x c) s:=by unfold rV;exact Z d<|Z (u (show¬(none:al (D CV)).isSome=B from FU)) (Z h (aa e))
def aej(h:s.hp[k]?=I (.inst c a))(e:O.attr c x=B)(d:LR (ay a x)=B):iu O (.cell k) x s=.ok (LS (ay a x) x k) s:=by
 show aS (gR s.hp[k]?) _=_;refine Z h ?_;show(if O.attr c x=B then aS (ay a x) (G7 k x s)else .C)=_;refine Z (aa e) ?_;generalize ay a x=o at d;induction o with
 |none=>exact ft d|some v=>
  induction v using SV.casesOn with
  |v w=>exact u<|by rw[FH,<-og];exact d
  |un=>exact ft d|_=>rfl
def Ok.at(h:s.hp[k]?=I (.inst c a))(e:gd c a x=B)(q:Q (fJ a x k) s):Ok (iu O (.cell k) x) Q E s:=
 Ok.run (aej h ((cN ..)▸e).1 ((cN ..)▸e).2) q
def Ok.me(h:s.hp[k]?=I (.inst c d))(e:zX c d x f=B)(q:P (f,[.cell k]) s):Ok (oI O (.cell k) x) P E s:=by
 unfold zX at e;rw[cN,cN,cN,og,FT,il]at e;obtain⟨⟨⟨m,n⟩,o⟩,i⟩:=e;obtain⟨t,j⟩:=Option.isSome_iff_exists.mp i;clear i;obtain rfl:=yw j;obtain⟨a,p,r⟩:=dE o;clear j;obtain rfl:=yw r;refine Ok.run ?_ q;show aS (gR s.hp[k]?) _=_;refine Z h ?_;show(if O.exc c=B then Internal.R.C else _)=_;refine Z m<|Z (u iN) ?_
 show(match ay d x with
  |none=>aS (O.gP c x) λf=>Internal.R.ok (f,[CV.cell k]) s|some _=>.C)=_
 refine Z n ?_;show aS (O.gP c x) _=_;exact Z p U
def LV(h:s.hp[k]?=I (.inst c a))(d:O.attr c x=B)(e:a.length<=50)(f:O.exc c=B->fG v=B)(i:vt (ay a x) v=B):kr O (.cell k) x v s=.ok () {s with hp:=s.hp.set k<|.inst c (bN a x v)}:=by show aS (gR s.hp[k]?) _=_;exact Z h<|aa ⟨d,e,f,i⟩
def Ok.tL(h:s.hp[k]?=I (.inst c f))(e:yb c f x v=B)(q:a () {s with hp:=s.hp.set k<|.inst c (bN f x v)}):Ok (kr O (.cell k) x v) a E s:=by unfold yb at e;simp only [cN,FT,om,og,il]at e;refine aI e λd i=>aI d λd j=>?_;obtain⟨m,n⟩:=d;exact Ok.run (LV h m n (λz=>j.resolve_left<|Z z FU)<|Z i U) q
def Ok.gS(h:s.hp[k]?=I (.inst c d))(e:PU c d x=B)(q:a () {s with hp:=s.hp.set k<|.inst c (bN d x (.v v))}):Ok (kr O (.cell k) x<|.v v) a E s:=by unfold PU at e;simp only [cN,il]at e;exact Ok.run (LV h e.1.1 e.1.2 (λY=>rfl) e.2) q
def Ok.str(h:a.length<=16777216)(q:Q (.str a) s):Ok (eg a) Q E s:=by delta Ok eg;exact Z (aa<|show a.length<=eJ from h) q
def Ok.add(h:(a++b).length<=16777216)(q:Q (.str<|a++b) s):Ok (ej .Add (.str a)<|.str b) Q E s:=Ok.str h q
def Ok.wh(h:vE T i E m t (λc s=>Ok (bx c) (λq s=>aq q (bu T i E m b (λfl s=>match fl with
 |.brk=>F .aO s|.ret v=>F (.ret v) s|_=>Ok (jh ((aB T i m t).bind bx) (cb T i m b) n) F E s) s)<|F .aO s) E s) s):Ok (jh ((aB T i m t).bind bx) (cb T i m b)<|n+1) F E s:=by
 have a:=Ok.bind (f:=bx)<|(pv m).e _ _ _ _ h
 generalize(aB T i m t).bind bx=tm at a⊢;unfold Ok at a⊢;(conv in jh _ _ _ _=>whnf);generalize tm s=ze at a⊢;induction ze using Internal.R.casesOn with
 |C=>exact a|exc _ _=>exact a|ok q s1=>
  induction q with
  |false=>exact a|true=>
   have d:=(tJ m).ss _ _ _ _ a;unfold Ok at d;dsimp only;generalize cb T i m b s1=D6 at d⊢;induction D6 using Internal.R.casesOn with
   |C=>exact d|exc _ _=>exact d|ok fl s2=>cases fl<;>exact d
end
section
open PySem
set_option tactic.hygienic true
noncomputable abbrev LW(c a:CV):D (H×SV):=[("number",.v c),("owner",.v a),("fields",.od []),("own",.v .none),("frozen",.v<|.bool ag),("ident",.v .none)]
abbrev tA(a:V)(o:CV)(m:D (H×SV)):D (H×SV):=LW (.int a) o++m
def LX(c:aX):Bool:=!O.exc c&&(["number","owner","fields","own","frozen","ident"]:D aX).all λx=>O.attr c<|ak x
def wK:(r++[a]).set r.length b=r++[b]:=by simp
def fB:(r++[a])[r.length]?=I a:=by simp
def Ok.ff(e:yb c d x v=B)(q:a () ⟨l,f++[.inst c<|bN d x v],h⟩):
 Ok (kr O (.cell f.length) x v) a E ⟨l,f++[.inst c d],h⟩:=Ok.tL fB e<|Z wK q
def Ok.sv(h:bj v=B)(q:Q (.v v) s):Ok (tE v) Q E s:=by delta Ok tE;exact Z (aa h) q
def tM(e:O.attr c x=B)(f:O.exc c=ag)(a:(decide (d.length<=50)&&(ay d x).isNone)=B):yb c d x v=true:=by unfold yb;rw[cN]at a;exact Z e<|Z f (Z a.1 (Z a.2 U))
def tN(i:LX c=B)(k:bj a=B)(h:Q .none (j++[.inst c<|LW (.int num) a])):Cl (aj O<|d+1) "Thing.__init__" [.cell j.length,.int num,a] (j++[.inst c []]) Q E:=by
 unfold LX at i;simp only [cN,og,gc,List.all_nil,and_true]at i;refine Bw i λe m n o p q r=>ba (f:=az 7 0) U U (l:=[("self",.v<|.cell j.length),("number",.v<|.int num),("owner",.v a)]) U<|Ok.ff (tM m e U) (Ok.sv k (Ok.ff (tM n e U) ?_))
 refine Ok.ff (tM o e U)<|Ok.ff (tM p e U) (Ok.ff (tM q e U) (Ok.ff (tM r e U) ?_))
 exact h
def aek(h:Q .none (a++[.inst "Text"<|tA num (.cell o) [("text",.v (.str x))]])):Cl (aj O<|d+2) "Text.__init__" [.cell a.length,.int num,.cell o,.str x] (a++[.inst "Text" []]) Q E:=by exact ba (f:=az 8 0) U U (l:=[("self",.v<|.cell a.length),("number",.v<|.int num),("owner",.v<|.cell o),("text",.v<|.str x)]) U<|Ok.fn U (tN U U (Ok.ff U h))
def ael(h:Q .none (a++[.inst "ListThing"<|tA num (.cell o) [("items",.v (.lst c))]])):Cl (aj O<|d+2) "ListThing.__init__" [.cell a.length,.int num,.cell o,.lst c] (a++[.inst "ListThing" []]) Q E:=by exact ba (f:=az 9 0) U U (l:=[("self",.v<|.cell a.length),("number",.v<|.int num),("owner",.v<|.cell o),("items",.v<|.lst c)]) U<|Ok.fn U (tN U U (Ok.ff U h))
def aem(h:Q .none (a++[.inst "TableThing"<|tA num (.cell o) [("rows",.od []),("spare",.v .none)]])):Cl (aj O<|d+2) "TableThing.__init__" [.cell a.length,.int num,.cell o] (a++[.inst "TableThing" []]) Q E:=by
 refine ba (f:=az 10 0) U U (l:=[("self",.v<|.cell a.length),("number",.v<|.int num),("owner",.v<|.cell o)]) U<|Ok.fn U (tN U U (Ok.ff U (Ok.ff U ?_)))
 exact h
def aen(h:Q .none (a++[.inst "ErrorThing"<|tA num (.cell o) [("message",.v (.cell m)),("cause",.v .none)]])):Cl (aj O<|d+2) "ErrorThing.__init__" [.cell a.length,.int num,.cell o,.cell m] (a++[.inst "ErrorThing" []]) Q E:=by
 refine ba (f:=az 13 0) U U (l:=[("self",.v<|.cell a.length),("number",.v<|.int num),("owner",.v<|.cell o),("message",.v<|.cell m)]) U<|Ok.fn U (tN U U (Ok.ff U (Ok.ff U ?_)))
 exact h
def aeo(h:Q .none (a++[.inst "RangeThing"<|tA num (.cell o) [("first",.v (.int 1)),("last",.v .none),("open",.v (.bool B))]])):
 Cl (aj O<|d+2) "RangeThing.__init__" [.cell a.length,.int num,.cell o,.int 1,.none,.bool B] (a++[.inst "RangeThing" []]) Q E:=by
 refine ba (f:=az 11 0) U U (l:=[("self",.v<|.cell a.length),("number",.v<|.int num),("owner",.v<|.cell o),("first",.v<|.int 1),("last",.v .none),("is_open",.v<|.bool B)]) U<|Ok.fn U (tN U U (Ok.ff U (Ok.ff U ?_)))
 exact Ok.ff U h
end
section
open PySem
abbrev jp(d:V)(c:CV)(h:H)(e a:CV)(i:SV)(f:CV):D (H×SV):=tA d c [("name",.v<|.str h),("is_class",.v e),("parent",.v a),("outer",.v .none),("methods",.od []),("constants",.od []),("mixed",i),("ahead",.ol []),("attached",.v .none),("native",.v f),("kept",.v .none)]
def dz(r:D aQ)(j:J)(h:H):Prop:=∃d c e a i f,r[j]?=I (.inst "ModuleThing"<|jp d c h e a i f)
def aT(r a:D aQ):Prop:=∀(j:J)(o:aQ),r[j]?=I o->a[j]?=I o
def PV:aQ->CV
 |.inst _ a=>fJ a "name" 0|_=>.none
noncomputable def aw:D Str:=(["Object","BasicObject","Class","Module","Kernel","Comparable","Enumerable","NilClass","TrueClass","FalseClass","Numeric","Integer","String","Symbol","Array","Hash","Range","Exception","StandardError","ArgumentError","TypeError"]:D aX).map ak
noncomputable def jW(a:D (CV×CV)):D H->J
 |[]=>0
 |x::l=>(match bi a (.str x)with|some W=>1|_=>0)+jW a l
def q7(r:D aQ)(j:J):Prop:=∃c o d a f e,r[j]?=I (.inst "ModuleThing"<|jp c (.cell (o+2)) "Array" d a f e)/\dz r o "Class"
structure eU(p:Prop)(w:iY)(r:D aQ):Prop where
 all:∀p∈w.ms,∃nm j,p=(.str nm,.cell<|j+2)/\dz r j nm
 base:∀nm∈(["Object","Class","Module"]:D H),bi w.ms (.str nm)≠I W
 len:w.ms.length+jW w.ms aw<=21
 arr:p\/∀j,bi w.ms (.str "Array")=I (I<|.cell (j+2))->q7 r j
noncomputable abbrev WI:=eU bA
def aT.refl(r:D aQ):aT r r:=λY Y e=>e
def aT.trans(x:aT r c)(y:aT c a):aT r a:=λj o e=>y j o<|x j o e
def aT.app(r l:D aQ):aT r (r++l):=λj o e=>Z (OH<|(List.getElem?_eq_some_iff.mp e).1) e
def dz.ext(x:aT r i):dz r j k->dz i j k:=λh=>vd h λa b c d e f h=>⟨a,b,c,d,e,f,x _ _ h⟩
def q7.ext(x:aT r i):q7 r j->q7 i j:=λh=>BA h λa b c d e f h m=>⟨a,b,c,d,e,f,x _ _ h,m.ext x⟩
def eU.ext(a:eU p w r)(x:aT r c):eU p w c:=⟨λp d=>d9 (a.all p d) λf j e m=>⟨f,j,e,m.ext x⟩,a.base,a.len,a.arr.imp id λh j e=>(h j e).ext x⟩
def eU.num(a:eU p w r)(n:V):eU p ⟨n,w.ms⟩ r:=⟨a.all,a.base,a.len,a.arr⟩
def eU.mono(a:eU p w r)(h:p->q):eU q w r:=⟨a.all,a.base,a.len,a.arr.imp h id⟩
def dz.set(h:dz r j s)(k:r[i]?=I o)(m:∀t p v n x w,o=.inst "ModuleThing" (jp t p s v n x w)->dz [y] 0 s):dz (r.set i y) j s:=by refine vd h λa b c d e f h=>?_;by_cases q:i=j;subst q;rw[k]at h;obtain rfl:=aK h;exact vd (m _ _ _ _ _ _ U) λa b c d e f h=>⟨a,b,c,d,e,f,by exact Z (F3 (List.getElem?_eq_some_iff.mp k).1) h⟩;exact⟨a,b,c,d,e,f,by exact Z (rR q) h⟩
def dz.tL(m:dz r j d)(k:r[i]?=I (.inst "ModuleThing"<|jp n a f b c x y)):dz (r.set i<|.inst "ModuleThing" (jp h o f p s t v)) j d:=
 m.set k λY Y Y Y Y Y q=>by have e:CV.str f=CV.str d:=bq PV q;replace e:=CV.str.inj e;clear m;subst e;exact⟨_,_,_,_,_,_,U⟩
def eU.set{f:H}(o:f="Array"->p)(d:eU p w r)(k:r[i]?=I (.inst "ModuleThing"<|jp n a f b c x y)):eU p w (r.set i<|.inst "ModuleThing" (jp Q a' f T c' x' y')):=
 ⟨λp o=>let⟨s,j,e,m⟩:=d.all p o;⟨s,j,e,m.tL k⟩,d.base,d.len,by
  by_cases q:f="Array";exact .inl<|o q
  refine d.arr.imp id λh j e=>BA (h j e) λz l A E F G t m=>?_;have P:i≠j:=λe=>by
   subst e;rw[k]at t;have v:CV.str f=CV.str "Array":=bq PV<|aK t
   replace v:=CV.str.inj v;exact q v
  exact⟨z,l,A,E,F,G,by refine Z (rR P) ?_;exact t,m.tL k⟩⟩
def aT.set(x:aT r a)(h:r.length<=i):aT r (a.set i o):=λj c e=>Z (rR<|by have:=(List.getElem?_eq_some_iff.mp e).1;omega)<|x j c e
def tO{k' x:H}{v:CV}{es:D (CV×CV)}{q:al CV}(h:bi es (.str x)=I q):bi ((.str k',v)::es) (.str x)=I (if k'=x then I v else q):=by
 refine Z (yn (b:=k'==x) U)<|Z h ?_
 by_cases e:k'=x;exact Z (aa e)<|Z (beq_iff_eq.mpr e) U
 exact Z (u e)<|Z (beq_eq_false_iff_ne.mpr e) U
def LY(h:∀p∈c,∃k,p.1=.str k):∃q,bi c (.str x)=I q/\∀v,q=I v->(.str x,v)∈c:=by
 induction c with
 |nil=>exact⟨W,U,λY h=>aD h⟩|cons p c ih=>
  obtain⟨k,v⟩:=p;refine aJ (h _<|dj ..) λk' e=>?_;obtain rfl:k=.str k':=e;refine av (ih λp hp=>h p<|eW _ hp) λq h1 h2=>⟨_,tO h1,λa d=>?_⟩;by_cases e:k'=x;rw[aa e]at d;exact ax (aK d)<|Z e (dj ..)
  rw[u e]at d;exact eW _<|h2 a d
def q8(h:∀p∈c,∃k,p.1=.str k)(e:bi c (.str x)=I W):gN c (.str x) v=c++[(.str x,v)]/\(∃q,bi c (.str y)=I q/\bi (c++[(.str x,v)]) (.str y)=I (if x=y then I v else q)):=by
 induction c with
 |nil=>exact⟨U,W,U,tO<|show bi [] (.str y)=I W from U⟩|cons p c ih=>
  obtain⟨k,a⟩:=p;refine aJ (h _<|dj ..) λd e'=>?_;obtain rfl:k=.str d:=e';have hs:=λp hp=>h p<|eW _ hp
  refine av (LY (x:=x) hs) λq h1 zz=>?_;rw[tO h1]at e;have i:¬d=x:=λz=>by rw[aa z]at e;exact aD (aK e).symm
  rw[u i]at e;clear zz;obtain rfl:=aK e;obtain⟨i1,q2,i2,i3⟩:=ih hs h1;refine⟨?_,_,tO i2,?_⟩;show(match I (d==x)with|some B=>_|_=>(CV.str d,a)::gN c (.str x) v)=_;exact Z (beq_eq_false_iff_ne.mpr i)<|Z i1 U
  refine Z m6<|Z (tO i3) ?_
  by_cases f:d=y;exact Z (aa f)<|Z (aa f) (Z (u λz=>i (f.trans z.symm)) U)
  exact Z (u f)<|Z (u f) U
def eU.keys(a:eU p w r):∀p∈w.ms,∃k,p.1=.str k:=λp c=>let⟨d,j,e,_⟩:=a.all p c;⟨d,by exact Z e U⟩
def eU.find(a:eU p w r)(c:H):bi w.ms (.str c)=I W\/∃j,bi w.ms (.str c)=I (I<|.cell (j+2))/\dz r j c:=by
 refine av (LY (x:=c) a.keys) λq f h=>?_;induction q with
 |none=>exact .inl f|some v=>refine d9 (a.all _<|h v U) λi j e m=>?_;injection e with d k;injection d with d;clear h;subst d;subst k;exact .inr ⟨j,f,m⟩
def aep(h:∀p∈a,∃k,p.1=.str k)(e:bi a (.str x)=I W)(l:D H):jW (a++[(.str x,v)]) l<=jW a l/\(x∈l->jW (a++[(.str x,v)]) l+1<=jW a l):=by
 induction l with
 |nil=>exact⟨aA _,λh=>aF h rz⟩|cons y l ih=>
  obtain⟨c,i2⟩:=ih;obtain⟨_,q,d,h2⟩:=q8 (v:=v) (y:=y) h e;show(match bi _ (.str y)with|some W=>1|_=>0)+jW _ l<=(match bi _ (.str y)with|some W=>1|_=>0)+jW _ l/\(_->(match bi _ (.str y)with|some W=>1|_=>0)+jW _ l+1<=(match bi _ (.str y)with|some W=>1|_=>0)+jW _ l);refine Z d<|Z h2 ?_
  by_cases z:x=y;clear h2;subst z;rw[e]at d;obtain rfl:=aK d;refine Z (aa U) ?_;dsimp only;exact⟨g (bg<|i4 _)<|g c (bU _ 1),λY=>g (fF<|g (bg (i4 _)) c)<|bg (lN (jW a l) 1)⟩;exact Z (u z)<|⟨by exact dO c _,λhm=>dO (i2 ((List.mem_cons.mp hm).resolve_left z)) _⟩
def eU.add{c:H}(d:c="Array"->p)(a:eU p w r)(hn:c∈aw)(e:bi w.ms (.str c)=I W)(m:dz r j c):eU p ⟨n,gN w.ms (.str c)<|.cell (j+2)⟩ r where
 all p d:=by
  rw[(q8 (y:=c) a.keys e).1]at d;rcases List.mem_append.mp d with q|q
  exact a.all p q;rw[F6]at q;exact⟨c,j,q,m⟩
 base x hx:=by
  obtain⟨i,q,k,o⟩:=q8 (y:=x) (v:=.cell<|j+2) a.keys e;show bi (gN w.ms _ _) _≠_;refine Z i<|Z o ?_
  have:=a.base x hx;rw[k]at this;split;simp;exact this
 len:=by
  show(gN w.ms _ _).length+jW (gN w.ms _ _) aw<=21;refine Z ((q8 (y:=c) a.keys e).1)<|Z aN ?_
  have:=(aep (v:=.cell<|j+2) a.keys e aw).2 hn;have:=a.len;show _+1+_<=_;omega
 arr:=by
  by_cases z:c="Array";exact .inl<|d z
  refine a.arr.imp id λh j' f=>h j' ?_;obtain⟨i,q,k,o⟩:=q8 (y:="Array") (v:=.cell<|j+2) a.keys e;have f:bi (gN w.ms _ _) _=_:=f;rw[i,o,u z]at f;exact Z k f
def Ok.st(a:K)(e:s=a)(h:Ok m P E a):Ok m P E s:=e▸h
def Ok.get(d:eP s a=I c)(e:bi c (.str x)=I q)(p:Q (q.getD .none) s):Ok (cH O f (.blt "dict.get") [a,.str x]) Q E s:=by show Ok (Bp a<|.str x) Q E s;refine Ok.run ?_ p;show aS (eP s a) _=_;refine Z d ?_;show aS (bi c<|.str x) _=_;exact Z e U
def Ok.get3(c:eP s a=I es)(d:bi es (.str x)=I q)(e:bj v=B)(p:Q (q.getD v) s):Ok (cH O f (.blt "dict.get") [a,.str x,v]) Q E s:=by show Ok (BO [a,.str x,v]) Q E s;refine Ok.run ?_ p;show aS (eP s a) _=_;refine Z c ?_;show(if i9 (.str x)=B/\bj v=B then _ else _)=_;exact Z (aa ⟨U,e⟩)<|Z d U
def Ok.LZ(h:bi a (.str x)=I (I v))(p:Q v s):Ok (fT (.dA a)<|.str x) Q E s:=by refine Ok.run ?_ p;show aS (bi a<|.str x) _=_;exact Z h U
def Ok.yE(h:s.hp[k]?=I (.inst c d))(e:ay d y=I (.od es))(f:es.length<=100000)(i:bi es (.str x)=I q)(j:bj v=B)(p:a () {s with hp:=s.hp.set k<|.inst c (bN d y (.od (gN es (.str x) v)))}):Ok (jL (.c6 k y) (.str x) v) a E s:=by refine Ok.run ?_ p;show(if bj v=B/\_ then _ else _)=_;refine Z (aa ⟨j,U⟩) ?_;show aS (gR s.hp[k]?) _=_;refine Z h ?_;show aS (l8<|ay d y) _=_;refine Z e ?_;show(if(es.isEmpty&&qj (.str x))=B then _ else if i9 (.str x)=B/\es.length<=100000 then _ else _)=_;exact Z (u<|by rw[show qj (.str x)=ag from U,Fx];exact FU)<|Z (aa ⟨U,f⟩) (Z i U)
def Ok.q9(hb:jM t i s.loc=I l)
 (h:vE T c (λY Y=>bA) n e (λv f=>bj v=B/\Ok (cW (c7 T c n e t [] d) o) (λvs j=>P (v::vs) j) E {f with loc:=s.loc,sc:=s.sc}) {s with loc:=l,sc:=d}):Ok (cW (c7 T c n e t [] d) (i::o)) P E s:=by
 have a:=(pv n).e _ _ _ _ h;unfold Ok at a;unfold Ok;rw[yF];have e1:c7 T c n e t [] d i s=match((aB T c n e).bind λv=>if bj v then M.pure (I v)else C) {s with loc:=l,sc:=d} with
  |.ok v f=>.ok v {f with loc:=s.loc,sc:=s.sc}|_=>.C:=by
  unfold c7;exact Z hb U
 refine Z e1 ?_;unfold M.bind;generalize k:aB T c n e {s with loc:=l,sc:=d}=m;induction m using Internal.R.casesOn with
 |C=>rw[k]at a;exact a|exc _ _=>rw[k]at a;exact a|ok v s1=>rw[k]at a;refine aI a λhs a=>?_;dsimp only at a⊢;refine Z (aa hs) ?_;dsimp only;cases e3:cW (c7 T c n e t [] d) o {s1 with loc:=s.loc,sc:=s.sc}<;>rw[e3]at a<;>exact a
section
def aeq(h:Q .none (a++[.inst "ModuleThing"<|jp num .none c (.bool mJ) .none (.ol []) .none])):Cl (aj O<|d+2) "ModuleThing.__init__" [.cell a.length,.int num,.none,.str c,.bool mJ] (a++[.inst "ModuleThing" []]) Q E:=by
 refine ba (f:=az 15 0) U U (l:=[("self",.v<|.cell a.length),("number",.v<|.int num),("owner",.v .none),("name",.v<|.str c),("is_class",.v<|.bool mJ),("parent",.v .none),("outer",.v .none)]) U ?_;(conv=>whnf);refine Ok.fn U (tN U U ?_)
 iterate 11
  refine Ok.ff (by kernel_rfl) ?_
 exact h
def zZ(w a:iY):Prop:=∀k v,bi w.ms (.str k)=I (I v)->bi a.ms (.str k)=I (I v)
def fK(d:J)(c:H):Prop:=∀{p:Prop}{b w r}{Q E:cT},eU p w r->(∀j e a,eU p e a->aT r a->dz a j c->zZ w e->(c="Array"->p\/q7 a j)->Q (.cell<|j+2) (b::wO e::a))->Cl (aj O d) "World.builtin" [.cell 1,.str c] (b::wO w::r) Q E
def Bo(d:J)(c:H):Prop:=∀{b w r}{Q E:cT},WI w r->(∀j e a,WI e a->aT r a->dz a j c->Q (.cell<|j+2) (b::wO e::a))->Cl (aj O d) "World.builtin" [.cell 1,.str c] (b::wO w::r) Q E
def fK.bo(h:fK d c):Bo d c:=λa k=>h a λj e f i n m Y Y=>k j e f i n m
def D7(c:bi w.ms (.str a)=I (I<|.cell j))(h:Q (.cell j) (b::wO w::r)):Cl (aj O<|d+1) "World.builtin" [.cell 1,.str a] (b::wO w::r) Q E:=by refine ba (f:=az 69 6) U U (l:=[("self",.v<|.cell 1),("name",.v<|.str a)]) U ?_;(conv=>whnf);exact Ok.get U c h
noncomputable def hV:CV->D (CV×CV)
 |.dA a=>a|_=>[]
noncomputable def mJ(a:H):Bool:=!(ak "Kernel"==a||(ak "Comparable"==a||(ak "Enumerable"==a||ag)))
structure Fd(p:Prop)(w:iY)(r:D aQ)(nm:H)(w0:iY)(r0:D aQ)(num:V)(a c:CV)(x:SV)(y:CV):Prop where
 W:eU (p\/nm="Array") w0 r0
 X:aT r r0
 k:r0[r.length]?=I (.inst "ModuleThing"<|jp num a nm (.bool (mJ nm)) c x y)
 K:zZ w w0
 f:bi w0.ms (.str nm)=I (I<|.cell (r.length+2))
def Fd.set(F:Fd p w r d w0 e num a c x y):Fd p w r d w0 (e.set r.length<|.inst "ModuleThing" (jp num a' d (.bool (mJ d)) c' x' y')) num a' c' x' y':=
 ⟨F.W.set .inr F.k,F.X.set<|aA _,F3 (List.getElem?_eq_some_iff.mp F.k).1,F.K,F.f⟩
def Fd.grow(F:Fd p w r h w0 j num a c x y)(d:eU (p\/h="Array") w1 i)(X:aT j i)(f:zZ w0 w1):Fd p w r h w1 i num a c x y:=⟨d,F.X.trans X,X _ _ F.k,λk v e=>f k v<|F.K k v e,f _ _ F.f⟩
def Ow(c:H)(d:D aQ)(a:CV):Prop:=c="Array"->∃o,a=.cell (o+2)/\dz d o "Class"
def Ow.ext(c:Ow d f a)(X:aT f i):Ow d i a:=λe=>let⟨o,h,m⟩:=c e;⟨o,h,m.ext X⟩
def Ow.set(d:Ow f i a)(F:Fd p w r f w0 i num a c x y):Ow f (i.set r.length<|.inst "ModuleThing" (jp num a f (.bool (mJ f)) c' x' y')) a:=λe=>av (d e) λo h m=>⟨o,h,m.tL F.k⟩
def Fd.own(F:Fd p w r nm w0 i num a c x y)(d:Ow nm i a)(e:nm="Array"):q7 i r.length:=by refine av (d e) λo h m=>?_;have k:=F.k;clear d F;subst e;subst h;exact⟨_,_,_,_,_,_,k,m⟩
def Fd.fin(F:Fd p w r i w0 r0 num a c x y)(d:Ow i r0 a):eU p w0 r0:=⟨F.W.all,F.W.base,F.W.len,by
 by_cases e:i="Array";refine .inr λj h=>?_;have f:=F.f;rw[e,h]at f;injection f with f;injection f with f;injection f with f;have:j=r.length:=ak2 f;exact Z this<|F.own d e
 exact F.W.arr.imp (λh=>h.resolve_right e) id⟩
def aer:aw.all (λx=>lc x.length 30)=true:=U
def gi(a b:H):(a++b).length=a.length+b.length:=by show(a.cps++b.cps).size=_;exact Z Array.size_append U
def aes(e:a∈aw)(h:Q .none (b::wO w::r)):Cl (aj O<|d+1) "World.give_own" [.cell 1,.str a] (b::wO w::r) Q E:=by
 refine ba (f:=az 69 8) U U (l:=[("self",.v<|.cell 1),("name",.v<|.str a)]) U ?_;have c:(a++ak ".").length<=16777216:=by rw[gi];have:=eX<|List.all_eq_true.mp aer _ e;show _+1<=_;exact br ‹_› (dk U)
 exact Ok.add c<|Ok.add c h
def aet(R:t∈aw)(h2:bi (hV<|gC 66) (.str t)=I (I T))(h3:bi (hV<|gC 67) (.str t)=I q)(h4:q.getD (.tup [])=.tup mx)
 (hp:T=.none\/∃p,T=.str p/\fK (d+3) p)(hm:mx=[]\/∃p,mx=[.str p]/\fK (d+3) p)(i:eU p w r)(X:bi w.ms (.str t)=I W)
 (h:∀j w' M,eU p w' M->aT r M->dz M j t->zZ w w'->(t="Array"->p\/q7 M j)->Q (.cell<|j+2) (b::wO w'::M)):Cl (aj O<|d+4) "World.make_builtin" [.cell 1,.str t] (b::wO w::r) Q E:=by
 let L:=λq:SV=>([("self",.v<|.cell 1),("name",.v<|.str t),("is_class",.v<|.bool (mJ t)),("found",.v<|.cell (r.length+2)),("parent",q)]:D (H×SV));let P:=λ(k:J)(q:SV)(G:iY)(A:D aQ)=>bu O (aj O<|d+3) (λx s=>E x s.hp) (100 -k) ((az 69 7).body.drop k) (bB Q) ⟨L q,b::wO G::A,(az 69 7).sc⟩;have s8:∀{G A num a c x y},Fd p w r t G A num a c x y->Ow t A a->P 8 (.v T) G A:=λ{G A num a c x y}F o=>Ok.fn U<|aes R (h _ _ _ (F.fin o) F.X ⟨_,_,_,_,_,_,F.k⟩ F.K λe=>.inr (F.own o e))
 have s7:∀{G A num a c y},Fd p w r t G A num a c (.ol []) y->Ow t A a->P 7 (.v T) G A:=λ{G A num a c y}F o=>by
  refine Ok.get3 (es:=hV<|gC 67) U h3 U<|Z h4 ?_
  clear h4 h2;rcases hm with rfl|⟨p,rfl,hb⟩
  exact⟨eX U,(Ok.gS (k:=r.length+2) (c:="ModuleThing") F.k U<|s8 (F.set (x':=.v (.lst []))) (o.set F))⟩;refine Ok.q9 U<|Ok.fn U (hb F.W λj w1 r1 W1 X1 m1 K1 Y=>⟨U,(⟨eX U,?_⟩)⟩)
  have S:=F.grow W1 X1 K1;exact Ok.gS (k:=r.length+2) (c:="ModuleThing") S.k U<|s8 (S.set (x':=.v (.lst [.cell (j+2)]))) ((o.ext X1).set S)
 have s6:∀{G A num a c y},Fd p w r t G A num a c (.ol []) y->P 6 (.v T) G A:=λ{G A num a c y}F=>by
  have N:∀{n:H}{Q':cT},n∈(["Object","Class","Module"]:D H)->(∀j,dz A j n->Q' (.cell<|j+2) (b::wO G::A))->Cl (aj O<|d+3) "World.builtin" [.cell 1,.str n] (b::wO G::A) Q' λx hp=>E x hp:=λR hq=>by
   rcases F.W.find _ with q|⟨j,q,m⟩
   exact aF q<|F.W.base _ R
   exact D7 q<|hq _ m
  refine aq.i (λY=>?_) λz=>?_;exact Ok.fn U<|N (dk U) λj m=>Ok.gS (k:=r.length+2) (c:="ModuleThing") F.k U (s7 (F.set (a':=.cell (j+2))) λY=>⟨j,U,m.tL F.k⟩)
  refine Ok.fn U<|N (dk U) λj Y=>Ok.gS (k:=r.length+2) (c:="ModuleThing") F.k U ?_
  exact s7 (F.set (a':=.cell<|j+2)) λe=>by rw[e]at z;exact aF z<|by decide +kernel
 have s4:∀{G A num a c y},Fd p w r t G A num a c (.ol []) y->P 4 .un G A:=λ{G A num a c y}F=>by
  refine Ok.LZ h2 ?_;clear s7 s8 h4 h2;rcases hp with rfl|⟨p,rfl,hb⟩
  exact Ok.gS (k:=r.length+2) (c:="ModuleThing") F.k U<|s6 (F.set (c':=.none))
  refine Ok.fn U<|hb F.W λj w1 r1 W1 X1 m1 K1 Y=>?_
  have S:=F.grow W1 X1 K1;exact Ok.gS (k:=r.length+2) (c:="ModuleThing") S.k U<|s6 (S.set (c':=.cell (j+2)))
 refine ba (f:=az 69 7) U U (l:=[("self",.v<|.cell 1),("name",.v<|.str t)]) U ?_;(conv=>whnf);refine Ok.st ⟨[("self",.v (.cell 1)),("name",.v (.str t)),("is_class",.v (.bool (mJ t))),("found",.un),("parent",.un)],b::wO ⟨w.n+1,w.ms⟩::r,(az 69 7).sc⟩ U ?_;refine Ok.new (q:="ModuleThing.__init__") U (eX U) U<|aeq (d:=d+1) ⟨U,(Ok.yE (es:=w.ms) U U (by have:=i.len;omega) X U ?_)⟩
 have X0:=aT.app r [.inst "ModuleThing"<|jp (w.n+1) .none t (.bool (mJ t)) .none (.ol []) .none];have F0:Fd p w r t ⟨w.n+1,gN w.ms (.str t)<|.cell (r.length+2)⟩ (r++[.inst "ModuleThing"<|jp (w.n+1) .none t (.bool (mJ t)) .none (.ol []) .none]) (w.n+1) .none .none (.ol []) .none:=
  ⟨((i.mono .inl).ext X0).add .inr R X ⟨_,_,_,_,_,_,fB⟩,X0,fB,λk v e=>by
   obtain⟨i1,q,i2,i3⟩:=q8 (y:=k) (v:=.cell<|r.length+2) i.keys X;show bi (gN w.ms _ _) _=_;clear s7 s8 h4 h2;refine Z i1<|Z i3 (Z (u λz=>by rw[z,e]at X;cases X) ?_)
   exact i2.symm.trans e,by
   obtain⟨i1,q,i2,i3⟩:=q8 (y:=t) (v:=.cell<|r.length+2) i.keys X;show bi (gN w.ms _ _) _=_;exact Z i1<|Z i3 (Z (aa U) U)⟩
 refine Ok.gS (k:=r.length+2) (c:="ModuleThing") F0.k U ?_;exact s4<|F0.set (y':=.str t)
end
def L7(h:f∈(["Object","Class","Module"]:D H)):fK (d+1) f:=λ{p b w r Q E}a i=>by
 rcases a.find f with q|⟨j,q,m⟩
 exact aF q<|a.base _ h
 exact D7 q<|i _ _ _ a (aT.refl _) m (λY Y e=>e) λe=>by rw[e]at h;exact aF h (by decide +kernel)
def wL(o:c∈aw)(s:bi (hV<|gC 66) (.str c)=I (I i))(t:bi (hV<|gC 67) (.str c)=I q)(x:q.getD (.tup [])=.tup k)
 (y:i=.none\/∃p,i=.str p/\fK (d+3) p)(A:k=[]\/∃p,k=[.str p]/\fK (d+3) p):fK (d+5) c:=λ{p b w r Q E}a n=>by
 rcases a.find c with e|⟨j,e,m⟩
 refine ba (f:=az 69 6) U U (l:=[("self",.v<|.cell 1),("name",.v<|.str c)]) U ?_;(conv=>whnf);refine Ok.get U e ?_;(conv=>whnf);exact Ok.fn U (aet o s t x y A a e λj S L F G P T X=>n _ _ _ F G P T X);exact D7 e<|n _ _ _ a (aT.refl _) m (λY Y e=>e) λz=>a.arr.imp id λh=>h _ (z▸e)
def wM(x:H):Bool:=aw.contains x
def wN(h:wM x=B):x∈aw:=List.contains_iff_mem.mp h
def wP(c:wM a=B)(e:bi (hV<|gC 66) (.str a)=I (I .none))(f:bi (hV<|gC 67) (.str a)=I W):fK (d+5) a:=wL (wN c) e f U (.inl U)<|.inl U
def aeu:fK (d+5) "Enumerable":=wL (wN U) U U U (.inl U)<|.inl U
def aev:fK (d+1) "Object":=L7<|dj ..
def tP(c:wM a=B)(e:bi (hV<|gC 66) (.str a)=I (I<|.str "Object"))(f:bi (hV<|gC 67) (.str a)=I (I<|.tup [.str p]))(h:fK (d+5) p):fK (d+7) a:=wL (d:=d+2) (wN c) e f U (.inr ⟨_,U,L7<|dj ..⟩)<|.inr ⟨_,U,h⟩
def D8(c:wM a=B)(e:bi (hV<|gC 66) (.str a)=I (I<|.str p))(f:bi (hV<|gC 67) (.str a)=I W)(h:fK (d+3) p):fK (d+5) a:=wL (wN c) e f U (.inr ⟨_,U,h⟩)<|.inl U
def aew:fK (d+7) "String":=tP U U U<|wP U U U
def aex:fK (d+7) "Symbol":=tP U U U<|wP U U U
def aey:fK (d+7) "Array":=tP U U U<|wP U U U
def aez:fK (d+7) "Hash":=tP U U U<|wP U U U
def aeA:fK (d+7) "Range":=tP U U U<|wP U U U
def L8:fK (d+7) "StandardError":=D8 (d:=d+2) (p:="Exception") U U U<|wL (wN U) U U U (.inr ⟨_,U,aev⟩) (.inl U)
def aeB:fK (d+9) "ArgumentError":=D8 (d:=d+4) (p:="StandardError") U U U L8
def pz:Bo (d+9) "ArgumentError":=aeB.bo
def aeC:fK (d+9) "TypeError":=D8 (d:=d+4) (p:="StandardError") U U U L8
def kK:Bo (d+9) "TypeError":=aeC.bo
def nP(a:WI w r)(h:∀j e k m c,WI m c->aT r c->c[j]?=I (.inst "Text"<|tA e (.cell (k+2)) [("text",.v (.str x))])->dz c k "String"->Q (.cell<|j+2) (b::wO m::c)):
 Cl (aj O<|d+9) "World.text" [.cell 1,.str x] (b::wO w::r) Q E:=by
 refine ba (f:=az 69 15) U U (l:=[("self",.v<|.cell 1),("text",.v<|.str x)]) U ?_;(conv=>whnf);refine Ok.fn U (aew.bo (a.num (w.n+1)) λj t n o p s=>Ok.new (q:="Text.__init__") U (eX U) U (aek ⟨U,?_⟩));have i:=aT.app n [.inst "Text"<|tA (w.n+1) (.cell (j+2)) [("text",.v (.str x))]];exact h n.length _ _ _ _ (o.ext i) (p.trans i) fB<|s.ext i
def tQ(c:aX):CV->al bf
 |.typ n=>if l9 n then I ag else W
 |.cls e=>I<|O.sub c (.cls e)
 |_=>W
noncomputable def wQ(c:aX):D CV->al bf
 |[]=>I ag
 |v::l=>match tQ c v with
  |some B=>I B|some ag=>wQ c l|none=>W
def L9(h:s.hp[k]?=I (.inst c as))(d:O.exc c=ag)(e:tQ c v=I b):je O s (.cell k) v=I b:=by
 have a:kq O s k=I c:=by unfold kq;exact Z h<|u (by exact Z d iN)
 induction v using CV.casesOn with
 |typ n=>
  unfold tQ at e;by_cases q:l9 n=B;refine(aa q).trans ?_;show(kq O s k).map _=_;exact Z a<|(aa q).symm.trans e
  exact aD<|(u q).symm.trans e
 |cls n=>show(kq O s k).map _=_;exact Z a e
 |_=>exact aD e
def Ok.eT(h:s.hp[k]?=I (.inst c f))(a:O.exc c=ag)(d:∀s x,yq O s x v=je O s x v)(e:tQ c v=I q)(p:Q (.bool q) s):Ok (cH O i (.blt "isinstance") [.cell k,v]) Q E s:=by show Ok (vq O (.cell k) v) Q E s;refine Ok.run ?_ p;show aS (yq O s (.cell k) v) _=_;rw[d,L9 h a e];rfl
def Ok.D9(h:s.hp[k]?=I (.inst c as))(hx:O.exc c=ag)(hl:l.isEmpty=ag)(e:wQ c l=I q)(p:Q (.bool q) s):Ok (cH O cl (.blt "isinstance") [.cell k,.tup l]) Q E s:=by
 show Ok (vq O (.cell k)<|.tup l) Q E s;have go:∀l:D CV,wQ c l=I q->nx O s (.cell k) l=I q:=by
  intro l;induction l with
  |nil=>exact id|cons a l ih=>
   intro e;replace e:(match tQ c a with
    |some B=>I B|some ag=>wQ c l|none=>W)=I q:=e
   rw[BN];generalize d:tQ c a=f;induction f using bL with
   |none=>rw[d]at e;exact aD e|some b=>refine Z (L9 h hx d) ?_;rw[d]at e;cases b;exact ih e;exact e
 refine Ok.run ?_ p;show aS (if l.isEmpty=B then W else nx O s (.cell k) l) _=_;exact Z hl<|Z (u iN) (Z (go l e) U)
def tR(m:dz r j c)(t:c.length<=30)(h:Q (.str c) (b::o::r)):Cl (aj O<|d+1) "full_name" [.cell<|j+2] (b::o::r) Q E:=by
 refine vd m λn p w q x s k=>ba (f:=ae 25) U U (l:=[("module",.v<|.cell (j+2))]) U<|Ok.wh ?_
 iterate 6
  refine Ok.at k U ?_
 (conv=>whnf);have e:ak ""++c=c:=ai1 U;have i:c++ak ""=c:=Oa U;refine Ok.add (a:=ak "") (b:=c) (Z e<|g ‹_› (dk U))<|Z e (Ok.add (a:=c) (b:=ak "") (by refine Z i ?_;exact g ‹_› (dk U)) ?_)
 exact Z i h
end
section
open PySem
set_option tactic.hygienic true
def tS(r:D aQ)(x:CV)(a c:H):Prop:=∃j d t e o m f k,x=.cell (j+2)/\r[j]?=I (.inst "Raised!" [("reason",.v d),("thing",.v<|.cell (t+2))])/\
 r[t]?=I (.inst "ErrorThing"<|tA e (.cell (o+2)) [("message",.v (.cell (m+2))),("cause",.v .none)])/\dz r o a/\r[m]?=I (.inst "Text"<|tA f (.cell (k+2)) [("text",.v (.str c))])
def aeD(y:Bo (d+9) j)(a:WI w r)(h:∀t z o m n k p c,WI p c->aT r c->c[t]?=I (.inst "ErrorThing"<|tA z (.cell (o+2)) [("message",.v (.cell (m+2))),("cause",.v .none)])->dz c o j->c[m]?=I (.inst "Text"<|tA n (.cell (k+2)) [("text",.v (.str e))])->Q (.cell<|t+2) (b::wO p::c)):
 Cl (aj O<|d+10) "World.error" [.cell 1,.str j,.str e] (b::wO w::r) Q E:=by
 refine ba (f:=az 69 27) U U (l:=[("self",.v<|.cell 1),("name",.v<|.str j),("message",.v<|.str e)]) U ?_;(conv=>whnf);refine Ok.fn U (y (a.num (w.n+1)) λo X Y A F G=>?_);(conv=>whnf);refine Ok.fn U (nP A λm n k S s P x T L=>?_);(conv=>whnf);refine Ok.new (q:="ErrorThing.__init__") U (eX U) U (aen ⟨U,?_⟩);have i:=aT.app s [.inst "ErrorThing"<|tA (w.n+1) (.cell (o+2)) [("message",.v (.cell (m+2))),("cause",.v .none)]];exact h s.length _ _ _ _ _ _ _ (P.ext i) ((F.trans x).trans i) fB ((G.ext x).ext i)<|i _ _ T
def Ok.raise(h:s.hp[k]?=I (.inst c a))(e:O.up c=I c')(p:E (.cell k) {s with hp:=s.hp.set k<|.inst c' a}):Ok (sy O<|.cell k) F E s:=by
 have d:sy O (.cell k) s=.exc (.cell k) {s with hp:=s.hp.set k<|.inst c' a}:=by show aS (gR s.hp[k]?) _=_;refine Z h ?_;show aS (O.up c) _=_;exact Z e U
 unfold Ok;exact Z d p
def Ok.vei(h:s.hp[k]?=I (.inst c a))(e:O.exc c=B)(p:Q .none s):Ok (cH O d (.blt "ValueError.__init__") [.cell k,.str x]) Q E s:=by refine Ok.run ?_ p;show aS (gR s.hp[k]?) _=_;exact Z h<|aa e
def aeF(h:Q .none (a++[.inst "Raised" [("reason",.v<|.str x)]])):Cl (aj O<|d+1) "GemError.__init__" [.cell a.length,.str x] (a++[.inst "Raised" []]) Q E:=by refine ba (f:=az 57 0) U U (l:=[("self",.v<|.cell a.length),("reason",.v<|.str x)]) U ?_;(conv=>whnf);exact Ok.vei fB U (Ok.ff U h)
def aeG(h:Q .none (a++[.inst "Raised" [("reason",.v<|.str "a Ruby error"),("thing",.v<|.cell t)]])):Cl (aj O<|d+2) "Raised.__init__" [.cell a.length,.cell t] (a++[.inst "Raised" []]) Q E:=by refine ba (f:=az 58 0) U U (l:=[("self",.v<|.cell a.length),("thing",.v<|.cell t)]) U ?_;(conv=>whnf);exact Ok.fn U (aeF (Ok.ff U h))
def gv(z:Bo (d+9) p)(a:WI w r)(h:∀x s n,WI s n->aT r n->tS n x p i->E x (b::wO s::n)):Cl (aj O<|d+11) "World.fail" [.cell 1,.str p,.str i] (b::wO w::r) Q E:=by refine ba (f:=az 69 28) U U (l:=[("self",.v<|.cell 1),("name",.v<|.str p),("message",.v<|.str i)]) U ?_;(conv=>whnf);refine Ok.fn U (aeD z a λt X o m Y k y c A F G P T=>Ok.new (q:="Raised.__init__") U (eX U) U (aeG ⟨U,(Ok.raise (c':="Raised!") (fB (r:=b::wO y::c)) U ?_)⟩));have j:=aT.app c [.inst "Raised!" [("reason",.v<|.str "a Ruby error"),("thing",.v<|.cell (t+2))]];have e:(c++[aQ.inst "Raised" [("reason",.v<|.str "a Ruby error"),("thing",.v<|.cell (t+2))]]).set c.length (.inst "Raised!" [("reason",.v<|.str "a Ruby error"),("thing",.v<|.cell (t+2))])=c++[.inst "Raised!" [("reason",.v<|.str "a Ruby error"),("thing",.v<|.cell (t+2))]]:=wK;have f:=h (.cell<|c.length+2) y _ (A.ext j) (F.trans j) ⟨_,_,_,_,_,_,_,_,U,fB,j _ _ G,P.ext j,j _ _ T⟩;rw[<-e]at f;exact f
end
section
open PySem
noncomputable def df(x:H):x++(⟨#[]⟩:H)=x:=Oa U
def Ok.jc{a:ai->M CV}(h:x.length<=1000000)(q:Ok (jC a c) (λy s=>P (x++y) s) E s):Ok (jC a (.Constant (.str x) k p::c)) P E s:=by
 have e:jC a (.Constant (.str x) k p::c)=(M.pure x).bind λx=>(jC a c).bind λy=>M.pure (x++y):=by show(jP a<|.Constant (.str x) k p).bind _=_;exact Z (show jP a (.Constant (.str x) k p)=(if x.length<=1000000 then M.pure x else C)from U)<|Z (aa h) U
 exact Z e<|.bind (.bind q)
def Ok.jn{a:ai->M CV}(q:P ⟨#[]⟩ s):Ok (jC a []) P E s:=q
def Ok.jv(f:x.length<=1000000)(q:Ok (aB T c n v) (λr s=>r=.str x/\Ok (jC (aB T c n) d) (λy s=>P (x++y) s) E s) E s):Ok (jC (aB T c n) (.FormattedValue v (-1) W p::d)) P E s:=by
 have e:jC (aB T c n) (.FormattedValue v (-1) W p::d)=((aB T c n v).bind vx).bind λx=>(jC (aB T c n) d).bind λy=>M.pure (x++y):=U;refine Z e<|.bind (.bind (q.mono λr s q=>?_))
 obtain⟨rfl,q⟩:=q;exact Ok.run (m:=vx<|.str x) (s':=s) (a:=x) (show sr x s=_ by unfold sr;exact Z (aa f) U)<|.bind q
def Ok.vm{s:K}(e:x=m)(a:m.length<=1000000)(q:Q (.str m) s):Ok (eg x) Q E s:=by subst e;exact Ok.str (g a<|dk U) q
def Ok.f3{Q:bZ}{v:ai}{k k':J}{p p' p'':cJ}{a x z m:H}(hm:a++(x++z)=m)(hl:m.length<=1000000)(q:vE T cl E n v (λr s=>r=.str x/\Q (.str m) s) s):
 Ok (jC (aB T cl n) [.Constant (.str a) k p,.FormattedValue v (-1) W p',.Constant (.str z) k' p'']) (λx s=>Ok (eg x) Q E s) E s:=by
 have q1:=(pv n).e _ _ _ _ q;have l1:a.length<=1000000/\x.length<=1000000/\z.length<=1000000:=by rw[<-hm,gi,gi]at hl;exact UB hl
 exact .jc l1.1<|.jv l1.2.1 (q1.mono λr s q=>⟨q.1,.jc l1.2.2 (.jn (.vm (by rw[df,hm]) hl q.2))⟩)
def Ok.f2{Q:bZ}{v:ai}{k:J}{p p':cJ}{a x m:H}(hm:a++x=m)(hl:m.length<=1000000)(q:vE T cl E n v (λr s=>r=.str x/\Q (.str m) s) s):
 Ok (jC (aB T cl n) [.Constant (.str a) k p,.FormattedValue v (-1) W p']) (λx s=>Ok (eg x) Q E s) E s:=by
 have q1:=(pv n).e _ _ _ _ q;have l1:a.length<=1000000/\x.length<=1000000:=by rw[<-hm,gi]at hl;exact Uh hl
 exact .jc l1.1<|.jv l1.2 (q1.mono λr s q=>⟨q.1,.jn (.vm (by rw[df,hm]) hl q.2)⟩)
def wR(h:a[k]?=I (.inst c i))(e:O.exc c=ag)(q:Q (.bool ag) a):Cl (aj O<|d+1) "is_int" [.cell k] a Q E:=by exact ba (f:=ae 16) U U (l:=[("value",.v<|.cell k)]) U<|Ok.eT h e (λY Y=>rfl) U q
def Ma(h:e[k]?=I (.inst c i))(a:O.exc c=ag)(q:Q (.str "thing") e):Cl (aj O<|d+1) "sort_of" [.cell k] e Q E:=by
 refine ba (f:=ae 17) U U (l:=[("value",.v<|.cell k)]) U<|Ok.eT h a (λY Y=>rfl) U (Ok.eT h a (λY Y=>rfl) U (Ok.eT h a (λY Y=>rfl) U ?_))
 exact q
def Ea(h:e[k]?=I (.inst c i))(a:O.exc c=ag)(m:gd c i "owner"=B)(n:fJ i "owner" k=.cell j)(q:Q (.cell j) e):Cl (aj O<|d+1) "World.class_of" [.cell 1,.cell k] e Q E:=by
 refine ba (f:=az 69 10) U U (l:=[("self",.v<|.cell 1),("value",.v<|.cell k)]) U<|Ok.eT h a (λY Y=>rfl) U (Ok.eT h a (λY Y=>rfl) U (Ok.eT h a (λY Y=>rfl) U ?_))
 exact Ok.at h m<|Z n q
structure jX(r:D aQ)(j:J)(c:aX)(as:D (H×SV))(nm:H):Prop where
 k:r[j]?=I (.inst c as)
 x:O.exc c=ag
 o:∃i,gd c as "owner"=B/\fJ as "owner" (j+2)=.cell (i+2)/\dz r i nm
 l:nm.length<=30
def Mb(T:jX r j c t n)(a:WI w r)(o:ak "no implicit conversion of "++(n++ak " into Integer")=m)(y:m.length<=100)(h:∀x k e,WI k e->aT r e->tS e x "TypeError" m->E x (b::wO k::e)):
 Cl (aj O<|d+12) "whole" [.cell 1,.cell<|j+2] (b::wO w::r) Q E:=by
 refine cC T.o λi p q s=>ba (f:=ae 39) U U (l:=[("world",.v<|.cell 1),("value",.v<|.cell (j+2))]) U<|Ok.fn U (wR T.k T.x (Ok.eT T.k T.x (λY Y=>rfl) U ?_))
 refine Ok.fn U<|Ea T.k T.x p q (Ok.fn U (tR s T.l (Ok.f3 o (g ‹_› (dk U)) ⟨U,(Ok.fn U (gv kK a h))⟩)))
def Cl.eq(e:a q args c=.ok v nM)(h:Q v nM):Cl a q args c Q E:=by unfold Cl;exact Z e h
noncomputable def fX:al V->CV
 |some n=>.int n|none=>.none
def wS(s:H)(num:al V):Prop:=∀d hp,aj O (d+1) "read_int" [.str s,.int 0,.bool B] hp=.ok (fX num) hp
def ra(s t:H):Prop:=∀d a,aj O (d+2) "show_text" [.str s] a=.ok (.str t) a
noncomputable abbrev room(n:V):aQ:=.e9 [.int n]
def aeI(T:jX r j c n a)(h:Q (.str a) (b::wO w::r)):Cl (aj O<|d+2) "named" [.cell 1,.cell<|j+2] (b::wO w::r) Q E:=by
 refine cC T.o λi e k m=>ba (f:=ae 38) U U (l:=[("world",.v<|.cell 1),("value",.v<|.cell (j+2))]) U<|Ok.D9 T.k T.x U U (Ok.fn U (Ea T.k T.x e k ?_))
 exact Ok.fn U<|tR m T.l h
def aeJ(a:c[k]?=I (.inst "Text" e))(i:gd "Text" e "text"=B)(j:fJ e "text" k=.str s)(h:Q (.str s) c):Cl (aj O<|d+1) "letters" [.cell 1,.cell k] c Q E:=by
 refine ba (f:=ae 48) U U (l:=[("world",.v<|.cell 1),("value",.v<|.cell k)]) U<|Ok.eT (q:=B) a U (λY Y=>rfl) U (Ok.at a i (Z j ?_))
 exact h
def aeK(T:jX r j c A n)(o:O.sub c (.cls "Text")=ag)(a:WI w r)(p:ak "no implicit conversion of "++(n++ak " into String")=m)(s:m.length<=100)(h:∀x k e,WI k e->aT r e->tS e x "TypeError" m->E x (b::wO k::e)):
 Cl (aj O<|d+12) "letters" [.cell 1,.cell<|j+2] (b::wO w::r) Q E:=by
 refine cC T.o λi t y z=>ba (f:=ae 48) U U (l:=[("world",.v<|.cell 1),("value",.v<|.cell (j+2))]) U<|Ok.eT (q:=ag) T.k T.x (λY Y=>rfl) (bq I o) (Ok.eT T.k T.x (λY Y=>rfl) U ?_)
 refine Ok.fn U<|Ea T.k T.x t y (Ok.fn U (tR z T.l ?_));(conv=>whnf);refine Ok.f3 p (g s (by lk)) ⟨U,?_⟩;(conv=>whnf);refine Ok.fn U ?_;exact gv kK a h
def aeL(T:jX r j c p i)(n:O.sub c (.cls "Text")=ag)(a:WI w r)(o:ak "can't convert "++(i++ak " into Integer")=m)(s:m.length<=100)(h:∀x k e,WI k e->aT r e->tS e x "TypeError" m->E x (b::wO k::e)):
 Cl (aj O<|d+12) "integer_for" [.cell 1,.cell<|j+2] (b::wO w::r) Q E:=by
 refine ba (f:=ae 51) U U (l:=[("world",.v<|.cell 1),("value",.v<|.cell (j+2))]) U<|Ok.fn U (wR T.k T.x (Ok.eT (q:=ag) T.k T.x (λY Y=>rfl) (bq I n) (Ok.f3 (x:=i) o (g ‹_› (dk U)) ?_)))
 refine Ok.fn U<|aeI T ⟨U,(Ok.fn U (gv kK a h))⟩
def Ok.bits(h:n.natAbs<2^64)(q:Q (.int<|if n=0 then 0 else n.natAbs.log2+1) s):Ok (cH O a (.blt "int.bit_length") [.int n]) Q E s:=by have e:cH O a (.blt "int.bit_length") [.int n]=λs=>if n.natAbs.log2<100000 then .ok (.int<|if n=0 then 0 else n.natAbs.log2+1) s else .C:=U;refine Z e ?_;unfold Ok;dsimp only;exact Z (aa<|br (px h) (dk U)) q
def Eb(a:c[k]?=I (.inst "Text" e))(i:gd "Text" e "text"=B)(j:fJ e "text" k=.str s)(o:ra s t)(h:Q (.str t) c):Cl (aj O<|d+3) "show_thing" [.cell k,.int n,.cell m] c Q E:=by
 refine ba (f:=ae 32) U U (l:=[("value",.v<|.cell k),("deep",.v<|.int n),("room",.v<|.cell m)]) U<|Ok.eT (q:=B) a U (λY Y=>rfl) U (Ok.at a i (Z j ?_))
 exact Ok.fn U<|Cl.eq (o _ _) h
def Ok.fz(h:bj v=B)(q:Q v s):Ok (pq v) Q E s:=by cases v<;>first|exact q|exact ft h
def Ec(e:a[k]?=I (.inst c m))(i:O.exc c=ag)(j:Cl (aj O<|d+1) "show_thing" [.cell k,.int 6,.cell a.length] (a++[room 20000]) (λv a=>bj v=B/\Q v a) E):Cl (aj O<|d+2) "show" [.cell k] a Q E:=by refine ba (f:=ae 34) U U (l:=[("value",.v<|.cell k),("deep",.v<|.int 6),("room",.v .none)]) U ?_;(conv=>whnf);refine Ok.fn U ?_;exact Ma e i (Ok.fn U (j.mono (λv a h=>Ok.fz h.1 (h.2)) λv a h=>h))
def aeM(a:c[k]?=I (.inst "Text" e))(i:gd "Text" e "text"=B)(j:fJ e "text" k=.str s)(h:Q (.str s) c):Cl (aj O<|d+1) "display" [.cell k] c Q E:=by
 refine ba (f:=ae 52) U U (l:=[("value",.v<|.cell k)]) U<|Ok.eT (q:=B) a U (λY Y=>rfl) U (Ok.at a i (Z j ?_))
 exact h
def aeN(e:a[k]?=I (.inst c n))(i:O.exc c=ag)(j:O.sub c (.cls "Text")=ag)(m:Cl (aj O d) "show" [.cell k] a (λv a=>bj v=B/\Q v a) E):Cl (aj O<|d+1) "display" [.cell k] a Q E:=by
 refine ba (f:=ae 52) U U (l:=[("value",.v<|.cell k)]) U<|Ok.eT (q:=ag) e i (λY Y=>rfl) (bq I j) (Ok.eT (q:=ag) e i (λY Y=>rfl) U (Ok.fn U (m.mono (λv a h=>Ok.fz h.1 (Ok.fz h.1 ?_)) λv a h=>h)))
 exact h.2
def aeO(a:c[k]?=I (.inst "Text" e))(i:gd "Text" e "text"=B)(j:fJ e "text" k=.str s)(o:ra s t)(h:Q (.str t) c):Cl (aj O<|d+4) "show" [.cell k,.int n,.cell m] c Q E:=by refine ba (f:=ae 34) U U (l:=[("value",.v<|.cell k),("deep",.v<|.int n),("room",.v<|.cell m)]) U ?_;(conv=>whnf);refine Ok.fn U ?_;exact Ma a U (Ok.fn U (Eb a i j o h))
def aeP{n:V}(a:n.natAbs<2^64)(h:Q .none c):Cl (aj O<|d+1) "need_room" [.cell 1,.int<|if n=0 then 0 else n.natAbs.log2+1] c Q E:=by exact ba (f:=ae 41) U U (l:=[("world",.v<|.cell 1),("bits",.v<|.int (if n=0 then 0 else n.natAbs.log2+1)),("reason",.v<|.str "number too big")]) U<|aq.d (λq=>aF q (Int.not_lt.mpr (mu (P:=(·<=(14000:V))) (by lk) (bR (Fk (Int.ofNat_le.mpr (px a)) 1) (by lk))))) λY=>h
def aeQ(a:n.natAbs<2^64)(h:Q (.int n) c):Cl (aj O<|d+2) "in_room" [.cell 1,.int n] c Q E:=by exact ba (f:=ae 50) U U (l:=[("world",.v<|.cell 1),("found",.v<|.int n)]) U<|Ok.bits a (Ok.fn U (aeP a h))
def alF{j:J}{s t m:H}{num:al V}(hk:r[j]?=I (.inst "Text" as))(ha:gd "Text" as "text"=B)(hs:fJ as "text" (j+2)=.str s)(hr:wS s num)(ht:ra s t)(a:WI w r)
 (hn:∀n,num=I n->n.natAbs<2^64/\Q (.int n) (b::wO w::r))(hm:ak "invalid value for Integer(): "++t=m)(hl:m.length<=200)
 (h:num=W->∀x w' r',WI w' r'->aT r r'->tS r' x "ArgumentError" m->E x (b::wO w'::r')):
 Cl (aj O<|d+12) "integer_for" [.cell 1,.cell<|j+2] (b::wO w::r) Q E:=by
 refine ba (f:=ae 51) U U (l:=[("world",.v<|.cell 1),("value",.v<|.cell (j+2))]) U<|Ok.fn U (wR hk U (Ok.eT (q:=B) hk U (λY Y=>rfl) U (Ok.at hk ha ?_)))
 refine Z hs<|Ok.fn U (Cl.eq (hr _ _) ?_)
 induction num with
 |some n=>exact Ok.fn U<|aeQ (hn n U).1 ((hn n U).2)
 |none=>exact Ok.f2 (x:=t) hm (g ‹_› (dk U))<|Ok.fn U (Ec hk U (Eb ((aT.app r [room 20000] _ _ hk)) ha hs ht ⟨U,U,(Ok.fn U (gv pz (a.ext (aT.app r [room 20000])) λx w' r' W' X' e=>h U x w' r' W' ((aT.app r _).trans X') e))⟩))
def Ok.Mc(h:s.hp[m]?=I (.e9 l))(a:l.length<=100000)(e:lf l i=I v)(q:Q v s):Ok (fT (.cell m)<|.int i) Q E s:=Ok.run (zY U (show se s.hp[m]?=_ from h▸rfl) e a) q
def Ok.aeR(h:s.hp[m]?=I (.e9 l))(a:bj v=B)(e:kl l i v=I c)(q:Q () {s with hp:=s.hp.set m<|.e9 c}):Ok (jL (.cell m) (.int i) v) Q E s:=by refine Ok.run ?_ q;show(if bj v=B/\_ then _ else _)=_;refine Z (aa ⟨a,U⟩) ?_;show aS (se s.hp[m]?) _=_;refine Z h ?_;show aS (kl l i v) _=_;exact Z e U
def Ok.Md(h:ea s.hp k x=I (.od a))(c:a.length<100000)(q:Q (.int a.length) s):Ok (cH O i (.blt "len") [.c6 k x]) Q E s:=by
 show Ok (ny<|.c6 k x) Q E s;have e:sg s (.c6 k x)=I a.length:=by
  show(c4 s<|.c6 k x).elim ((eP s<|.c6 k x).map ig) _=_;have d:c4 s (.c6 k x)=none:=by unfold c4;dsimp only;exact Z h U
  have f:eP s (.c6 k x)=I a:=by unfold eP;dsimp only;exact Z h U
  exact Z d<|Z f U
 exact Ok.run (wJ e<|g9 c (dk U)) q
noncomputable def Ed:∀l:D H,kj (l.map .str)=I l
 |[]=>rfl|x::l=>by show(kj<|l.map .str).map _=_;exact Z (Ed l) U
def Ee(h:c[m]?=I (room n))(e:1<=n)(q:Q (.bool B) (c.set m<|room (n -(1+a)))):Cl (aj O<|d+1) "takes_in" [.cell m,.int a] c Q E:=by
 refine ba (f:=ae 19) U U (l:=[("room",.v<|.cell m),("many",.v<|.int a)]) U<|Ok.Mc h (eX U) U (aq.d (λz=>aF z (Int.not_lt.mpr e)) λY=>Ok.Mc h (eX U) U ?_)
 exact Ok.aeR h U U q
def Ef(e:a[k]?=I (.inst c o))(i:O.exc c=ag)(j:O.sub c (.cls "Text")=ag)(n:wQ c [.cls "ListThing",.cls "TableThing",.cls "RangeThing"]=I B)(h:Cl (aj O d) "show_held" [.cell k,.int 6,.cell m] a (λv a=>bj v=B/\Q v a) E):
 Cl (aj O<|d+1) "show_thing" [.cell k,.int 6,.cell m] a Q E:=by
 refine ba (f:=ae 32) U U (l:=[("value",.v<|.cell k),("deep",.v<|.int 6),("room",.v<|.cell m)]) U<|Ok.eT (q:=ag) e i (λY Y=>rfl) (bq I j) (Ok.D9 e i U n (Ok.fn U (h.mono (λv a h=>Ok.fz h.1 ?_) λv a h=>h)))
 exact h.2
def aeS(a:hp[k]?=I (.inst "ListThing" as))(ha:gd "ListThing" as "items"=B)(hi:fJ as "items" k=.lst [.int 1,.cell q])(hm:hp[m]?=I (room 20000))(hq:hp[q]?=I (.inst "Text" ts))(hb:gd "Text" ts "text"=B)(hs:fJ ts "text" q=.str "q")
 (h:Q (.str "[1, \"q\"]") (hp.set m<|room 19997)):Cl (aj O<|d+6) "show_held" [.cell k,.int 6,.cell m] hp Q E:=by
 have zE:(hp.set m<|room 19997)[q]?=I (.inst "Text" ts):=by rw[rR];exact hq;intro z;rw[<-z,hm]at hq;cases hq
 have tT:(hp.set m<|room 19997)[k]?=I (.inst "ListThing" as):=by rw[rR];exact a;intro z;rw[<-z,hm]at a;cases a
 refine ba (f:=ae 31) U U (l:=[("value",.v<|.cell k),("deep",.v<|.int 6),("room",.v<|.cell m)]) U<|Ok.eT (q:=ag) a U (λY Y=>rfl) U (Ok.eT (q:=B) a U (λY Y=>rfl) U (Ok.at a ha ?_))
 refine Z hi<|Ok.at a ha (Z hi (Ok.fn U (Ee hm (dk U) ?_)))
 refine Ok.at tT ha<|Z hi (Ok.q9 U (⟨U,Ok.q9 U ?_⟩))
 refine Ok.fn U ?_;refine aeO (t:="\"q\"") zE hb hs (λY Y=>rfl) ⟨U,(⟨eX U,?_⟩)⟩
 (conv=>whnf);have e:ak "["++pM (ak ", ") [ak<|toString 1,ak "\"q\""]++ak "]"="[1, \"q\"]":=U;rw[<-e]at h;exact h
def aeT(hk:j[k]?=I (.inst "RangeThing" c))(ha:gd "RangeThing" c "first"=B)(i:fJ c "first" k=.int 1)(hb:gd "RangeThing" c "last"=B)(Eg:fJ c "last" k=.none)(hc:gd "RangeThing" c "open"=B)(Eh:fJ c "open" k=.bool B)(hm:j[m]?=I (room 20000))
 (h:Q (.str "1...") (j.set m<|room 19997)):Cl (aj O<|d+6) "show_held" [.cell k,.int 6,.cell m] j Q E:=by
 have a:(j.set m<|room 19997)[k]?=I (.inst "RangeThing" c):=by rw[rR];exact hk;intro z;rw[<-z,hm]at hk;cases hk
 refine ba (f:=ae 31) U U (l:=[("value",.v<|.cell k),("deep",.v<|.int 6),("room",.v<|.cell m)]) U<|Ok.eT (q:=B) hk U (λY Y=>rfl) U (Ok.fn U (Ee hm (dk U) ?_))
 have sub:∀{Q:cT}{E:cT},Q (.str "1...") (j.set m<|room 19997)->Cl (aj O<|d+5) "show_range" [.cell k,.int 5,.cell m] (j.set m<|room 19997) Q E:=λ{Q E}h=>by
  refine ba (f:=ae 30) U U (l:=[("value",.v<|.cell k),("deep",.v<|.int 5),("room",.v<|.cell m)]) U<|Ok.at a ha (Z i (Ok.at a ha ?_))
  refine Z i<|Ok.at a hb (Z Eg (Ok.at a ha ?_))
  refine Z i<|Ok.at a hc (Z Eh ?_)
  have e:ak (toString 1)++ak "..."++ak ""="1...":=U;rw[<-e]at h;exact h
 exact Ok.fn U<|sub h
def aeU:aj O (d+5) "show_pair" [.str "k",.none,.int 5,.cell m] a=.ok (.str "k: nil") a:=by kernel_rfl
def aeV(h:ea c k "rows"=I (.od [(.tup f,.lst [a,b])]))(q:Q (.lst [.tup [a,b]]) c):Cl (aj O<|d+1) "TableThing.pairs" [.cell k] c Q E:=by
 refine Cl.eq (v:=.lst [.tup [a,b]]) (nM:=c) ?_ q;have e:O.fns "TableThing.pairs"=I {az 10 3 with native:=I ix}:=by kernel_rfl
 refine Z (sA e) ?_;show ix [.cell k] c=_;unfold ix;show(match(l8<|ea c k "rows").bind Gj with|some p=>RH.ok (.lst [.tup [p.1,p.2]]) c|none=>.C)=_;exact Z h U
def aeW(o:zX "TableThing" i "pairs" (.fn "TableThing.pairs")=B)(a:n[k]?=I (.inst "TableThing" i))(s:gd "TableThing" i "rows"=B)(p:ay i "rows"=I (.od [(.tup [.str "sym",.str "k"],.lst [.str "k",.none])]))(t:n[m]?=I (room 20000))
 (h:Q (.str "{k: nil}") (n.set m<|room 19997)):Cl (aj O<|d+6) "show_held" [.cell k,.int 6,.cell m] n Q E:=by
 have j:(n.set m<|room 19997)[k]?=I (.inst "TableThing" i):=by rw[rR];exact a;intro z;rw[<-z,t]at a;cases a
 have r:∀c,c[k]?=I (.inst "TableThing" i)->ea c k "rows"=I (.od [(.tup [.str "sym",.str "k"],.lst [.str "k",.none])]):=λc e=>by unfold ea;exact(e)▸p
 refine ba (f:=ae 31) U U (l:=[("value",.v<|.cell k),("deep",.v<|.int 6),("room",.v<|.cell m)]) U<|Ok.eT (q:=ag) a U (λY Y=>rfl) U (Ok.eT (q:=ag) a U (λY Y=>rfl) U (Ok.at a s ?_))
 unfold fJ;refine Z p<|Ok.Md (r _ a) (eX U) (Ok.at a s ?_)
 unfold fJ;refine Z p<|Ok.Md (r _ a) (eX U) (Ok.fn U (Ee t (dk U) (Ok.me (f:=.fn "TableThing.pairs") j o ?_)))
 refine Ok.fn U<|aeV (r _ j) (Ok.q9 U ?_);(conv=>whnf);refine Ok.fn U (Cl.eq aeU ⟨U,(⟨eX U,?_⟩)⟩)
 have e:ak "{"++pM (ak ", ") [ak "k: nil"]++ak "}"="{k: nil}":=U;rw[<-e]at h;exact h
def aeX(T:dz r j a)(c:a.length<=30)(h:Q (.str a) (b::o::r)):Cl (aj O<|d+2) "show_thing" [.cell<|j+2,.int 6,.cell m] (b::o::r) Q E:=by
 refine vd (id T) λe p s i t n k=>ba (f:=ae 32) U U (l:=[("value",.v<|.cell (j+2)),("deep",.v<|.int 6),("room",.v<|.cell m)]) U<|Ok.eT (q:=ag) k U (λY Y=>rfl) U (Ok.D9 (q:=ag) k U U U ?_)
 exact Ok.eT (q:=B) k U (λY Y=>rfl) U<|Ok.fn U (tR T c h)
end
section
open PySem
set_option tactic.hygienic true
abbrev fC(b:aQ)(r:D aQ)(c m:H)(E:cT):Prop:=∀x d a,WI d a->aT r a->tS a x c m->E x (b::wO d::a)
def fC.ext(h:fC b r d m E)(x:aT r i):fC b i d m E:=λa j f c X e=>h a j f c (x.trans X) e
def Me(e:∀d c,aj O (d+2) "show" [.bool q] c=.ok (.str t) c)(a:WI w r)(i:ak "no implicit conversion of "++(t++ak " into Integer")=m)(j:m.length<=100)(h:fC b r "TypeError" m E):
 Cl (aj O<|d+12) "whole" [.cell 1,.bool q] (b::wO w::r) Q E:=by
 refine ba (f:=ae 39) U U (l:=[("world",.v<|.cell 1),("value",.v<|.bool q)]) U ?_;(conv=>whnf);refine Ok.fn U (Cl.eq (e _ _) (Ok.f3 i (g ‹_› (dk U)) ⟨U,?_⟩));(conv=>whnf);refine Ok.fn U ?_;exact gv kK a h
def Mf(a:WI w r)(h:∀j e c,WI e c->aT r c->dz c j "Symbol"->Q (.cell<|j+2) (b::wO e::c)):Cl (aj O<|d+8) "World.class_of" [.cell 1,.str x] (b::wO w::r) Q E:=ba (f:=az 69 10) U U (l:=[("self",.v<|.cell 1),("value",.v<|.str x)]) U<|Ok.fn U (aex.bo a h)
def aeY(a:WI w r)(hm:ak "no implicit conversion of "++(ak "Symbol"++ak " into Integer")=m)(hl:m.length<=100)(h:fC b r "TypeError" m E):
 Cl (aj O<|d+12) "whole" [.cell 1,.str x] (b::wO w::r) Q E:=by
 refine ba (f:=ae 39) U U (l:=[("world",.v<|.cell 1),("value",.v<|.str x)]) U ?_;(conv=>whnf);refine Ok.fn U (Mf a λj w1 r1 W1 X1 m1=>Ok.fn U (tR m1 (by decide +kernel) ?_));have Ei:ak "no implicit conversion of "++(ak "Symbol"++(ak " into Integer"++(⟨#[]⟩:H)))=m:=by rw[df];exact hm
 (conv=>whnf);refine Z Ei ?_;(conv=>whnf);refine Ok.fn U ?_;exact gv kK W1 (h.ext X1)
def Gk(a:WI w r)(e:ak "can't convert "++(ak "nil"++ak " into Integer")=m)(i:m.length<=100)(h:fC b r "TypeError" m E):Cl (aj O<|d+12) "integer_for" [.cell 1,.none] (b::wO w::r) Q E:=by
 have c:ak "can't convert "++(ak "nil"++(ak " into Integer"++(⟨#[]⟩:H)))=m:=by rw[df];exact e
 refine ba (f:=ae 51) U U (l:=[("world",.v<|.cell 1),("value",.v .none)]) U ?_;(conv=>whnf);refine Z c ?_;(conv=>whnf);refine Ok.fn U ?_;exact gv kK a h
def PW(e:∀d c,aj O (d+7) "named" [.cell 1,.bool q] c=.ok (.str t) c)(a:WI w r)(i:ak "can't convert "++(t++ak " into Integer")=m)(j:m.length<=100)(h:fC b r "TypeError" m E):Cl (aj O<|d+12) "integer_for" [.cell 1,.bool q] (b::wO w::r) Q E:=by refine ba (f:=ae 51) U U (l:=[("world",.v<|.cell 1),("value",.v<|.bool q)]) U ?_;(conv=>whnf);refine Ok.f3 (x:=t) i (g ‹_› (dk U)) (Ok.fn U (Cl.eq (e (d+4) _) ⟨U,?_⟩));(conv=>whnf);refine Ok.fn U ?_;exact gv kK a h
def aeZ(e:∀d c,aj O (d+7) "named" [.cell 1,.str x] c=.ok (.str t) c)(a:WI w r)(i:ak "can't convert "++(t++ak " into Integer")=m)(j:m.length<=100)(h:fC b r "TypeError" m E):Cl (aj O<|d+12) "integer_for" [.cell 1,.str x] (b::wO w::r) Q E:=by refine ba (f:=ae 51) U U (l:=[("world",.v<|.cell 1),("value",.v<|.str x)]) U ?_;(conv=>whnf);refine Ok.f3 (x:=t) i (g j (by lk)) (Ok.fn U (Cl.eq (e (d+4) _) ⟨U,?_⟩));(conv=>whnf);refine Ok.fn U ?_;exact gv kK a h
def ae0(a:WI w r)(e:ak "no implicit conversion of "++(ak "nil"++ak " into String")=m)(h:fC b r "TypeError" m E):Cl (aj O<|d+12) "letters" [.cell 1,.none] (b::wO w::r) Q E:=by
 have c:ak "no implicit conversion of "++(ak "nil"++(ak " into String"++(⟨#[]⟩:H)))=m:=by rw[df];exact e
 refine ba (f:=ae 48) U U (l:=[("world",.v<|.cell 1),("value",.v .none)]) U ?_;(conv=>whnf);rw[c];refine Ok.fn U ?_;exact gv kK a h
def Mg(e:∀d c,aj O (d+2) "show" [.bool q] c=.ok (.str t) c)(a:WI w r)(i:ak "no implicit conversion of "++(t++ak " into String")=m)(j:m.length<=100)(h:fC b r "TypeError" m E):
 Cl (aj O<|d+12) "letters" [.cell 1,.bool q] (b::wO w::r) Q E:=by
 refine ba (f:=ae 48) U U (l:=[("world",.v<|.cell 1),("value",.v<|.bool q)]) U ?_;(conv=>whnf);refine Ok.fn U (Cl.eq (e _ _) (Ok.f3 i (g ‹_› (dk U)) ⟨U,?_⟩));(conv=>whnf);refine Ok.fn U ?_;exact gv kK a h
def ae1(a:WI w r)(hm:ak "no implicit conversion of "++(ak "Symbol"++ak " into String")=m)(h:fC b r "TypeError" m E):
 Cl (aj O<|d+12) "letters" [.cell 1,.str x] (b::wO w::r) Q E:=by
 refine ba (f:=ae 48) U U (l:=[("world",.v<|.cell 1),("value",.v<|.str x)]) U ?_;(conv=>whnf);refine Ok.fn U (Mf a λj w1 r1 W1 X1 m1=>Ok.fn U (tR m1 (by decide +kernel) ?_));have Ei:ak "no implicit conversion of "++(ak "Symbol"++(ak " into String"++(⟨#[]⟩:H)))=m:=by rw[df];exact hm
 (conv=>whnf);refine Z Ei ?_;(conv=>whnf);refine Ok.fn U ?_;exact gv kK W1 (h.ext X1)
end
section
open PySem
set_option genCtorIdx true in
inductive fY|nil|z7|z8|str|sym|arr|wT|fS|cls
noncomputable def fY.nm:fY->H
 |.nil=>"nil"|.z7=>"true"|.z8=>"false"|.str=>"String"|.sym=>"Symbol"|.arr=>"Array"|.wT=>"Hash"|.fS=>"Range"|.cls=>"Class"
def wm:fY->H
 |.nil=>"no implicit conversion from nil to integer"|s=>ak "no implicit conversion of "++(s.nm++ak " into Integer")
noncomputable def ic:fY->H
 |.str=>"ArgumentError"|_=>"TypeError"
def im(s:fY)(a:H):Str:=match s with|.str=>ak "invalid value for Integer(): "++a|.sym=>ak "can't convert "++(a++ak " into Integer")|s=>ak "can't convert "++(s.nm++ak " into Integer")
def lm(s:fY):Str:=ak "no implicit conversion of "++(s.nm++ak " into String")
abbrev gY0(r v):=∀{d b o r'}{Q E:cT},aT r r'->Q (.bool ag) (b::o::r')->Cl (aj O<|d+1) "is_int" [v] (b::o::r') Q E
abbrev gY1(r v s):=∀{d b w r'}{Q E:cT},aT r r'->WI w r'->fC b r' "TypeError" (wm s) E->Cl (aj O<|d+12) "whole" [.cell 1,v] (b::wO w::r') Q E
abbrev gY2(r v s sh num):=∀{d b w r'}{Q E:cT},aT r r'->WI w r'->(∀n,num=I n->Q (.int n) (b::wO w::r'))->(num=W->fC b r' (ic s) (im s sh) E)->Cl (aj O<|d+12) "integer_for" [.cell 1,v] (b::wO w::r') Q E
abbrev gY3(r v s dp):=∀{d b w r'}{Q E:cT},aT r r'->WI w r'->(s=.str->Q (.str dp) (b::wO w::r'))->(s≠.str->fC b r' "TypeError" (lm s) E)->Cl (aj O<|d+12) "letters" [.cell 1,v] (b::wO w::r') Q E
abbrev gY4(r v dp):=∀{d b w r'}{Q E:cT},aT r r'->(∀nQ,aT r' nQ->Q (.str dp) (b::wO w::nQ))->Cl (aj O<|d+12) "display" [v] (b::wO w::r') Q E
abbrev gY5(r v sh):=∀{d b w r'}{Q E:cT},aT r r'->(∀nQ,aT r' nQ->Q (.str sh) (b::wO w::nQ))->Cl (aj O<|d+12) "show" [v] (b::wO w::r') Q E
structure gY(r:D aQ)(v:CV)(s:fY)(dp sh:H)(num:al V):Prop where
 st:bj v=B
 Mh:gY0 r v
 whole:gY1 r v s
 Mi:gY2 r v s sh num
 Mj:gY3 r v s dp
 Mk:gY4 r v dp
 wU:gY5 r v sh
 len:dp.length<=100/\sh.length<=100
 num:∀n,num=I n->n.natAbs<2^64/\s=.str
def gY.ext{c:al V}(a:gY r v s d e c)(x:aT r f):gY f v s d e c:=
 ⟨a.st,λy=>a.Mh<|x.trans y,λy=>a.whole<|x.trans y,λy=>a.Mi<|x.trans y,λy=>a.Mj<|x.trans y,λy=>a.Mk<|x.trans y,λy=>a.wU<|x.trans y,a.len,a.num⟩
def jX.ext(T:jX r j c d e)(x:aT r f):jX f j c d e:=⟨x _ _ T.k,T.x,cC T.o λi a b m=>⟨i,a,b,m.ext x⟩,T.l⟩
def ae2:aT r ((r++[room n]).set r.length<|room a):=(aT.app r _).set<|aA _
def z9{c:aX}{as:D (H×SV)}(T:jX r j c as s.nm)(ht:O.sub c (.cls "Text")=ag)(h1:wm s=ak "no implicit conversion of "++(s.nm++ak " into Integer"))(h2:ic s="TypeError")(h3:im s sh=ak "can't convert "++(s.nm++ak " into Integer"))(h4:s≠.str)(hl:sh.length<=100)
 (hs:∀{d b w r'}{Q E:cT},aT r r'->(∀x,Q (.str sh)<|(b::wO w::r'++[room 20000]).set (r'.length+2) (room x))->Cl (aj O<|d+8) "show_thing" [.cell<|j+2,.int 6,.cell<|r'.length+2] (b::wO w::r'++[room 20000]) Q E):gY r (.cell<|j+2) s sh sh none:=by
 have l1:s.nm.length<=30:=T.l;have wU:∀{d b w r'}{Q E:cT},aT r r'->(∀nQ,aT r' nQ->Q (.str sh) (b::wO w::nQ))->Cl (aj O<|d+9) "show" [.cell<|j+2] (b::wO w::r') Q E:=λ{d b w r' Q E}x h=>Ec (d:=d+7) ((T.ext x).k) T.x<|hs x λy=>⟨U,h _ ae2⟩
 have len:∀a z:H,a.length<=30->z.length<=30->(a++(s.nm++z)).length<=100:=λa z h h'=>by rw[gi,gi];exact g (aY h<|aY l1 h')<|by lk
 refine⟨U,λx h=>wR ((T.ext x).k) T.x h,λx e h=>?_,λx e Y h=>?_,λx e Y h=>?_,λx h=>?_,λ{d}Y Y Y Y Y x h=>wU (d:=d+3) x h,⟨hl,hl⟩,λn q=>aD q⟩;rw[h1]at h;exact Mb (T.ext x) e U (len _ _ (by decide +kernel)<|by decide +kernel) h;have h:=h U;rw[h2,h3]at h;exact aeL (T.ext x) ht e U (len _ _ (by decide +kernel)<|by decide +kernel) h;exact aeK (T.ext x) ht e U (len _ _ (by decide +kernel)<|by decide +kernel)<|h h4
 rename_i d _ _ _ _ _;exact aeN (d:=d+11) ((T.ext x).k) T.x ht<|wU (d:=d+2) x λnQ x'=>⟨U,h _ x'⟩
def Aa(j:bj v=B)(k:∀d e,aj O (d+1) "is_int" [v] e=.ok (.bool ag) e)(m:∀d e,aj O (d+12) "display" [v] e=.ok (.str i) e)(o:∀d e,aj O (d+12) "show" [v] e=.ok (.str f) e)(p:s≠.str)(t:i.length<=100)(x:f.length<=100)
 (y:∀{d b w c}{Q E:cT},WI w c->fC b c "TypeError" (wm s) E->Cl (aj O (d+12)) "whole" [.cell 1,v] (b::wO w::c) Q E)
 (z:∀{d b w c}{Q E:cT},WI w c->fC b c (ic s) (im s f) E->Cl (aj O (d+12)) "integer_for" [.cell 1,v] (b::wO w::c) Q E)
 (l:∀{d b w c}{Q E:cT},WI w c->fC b c "TypeError" (lm s) E->Cl (aj O (d+12)) "letters" [.cell 1,v] (b::wO w::c) Q E):gY r v s i f none:=
 ⟨j,λY h=>Cl.eq (k _ _) h,λY a h=>y a h,λY a Y h=>z a (h U),λY a Y h=>l a (h p),λY h=>Cl.eq (m _ _) (h _ (aT.refl _)),λY h=>Cl.eq (o _ _) (h _ (aT.refl _)),⟨t,x⟩,λn q=>aD q⟩
def ae3:gY r .none .nil "" "nil" none:=
 Aa U (λY Y=>rfl) (λY Y=>by kernel_rfl) (λY Y=>rfl) (λq=>by cases q) (by decide +kernel) (by decide +kernel) (λa h=>ba (f:=ae 39) U U (l:=[("world",.v (.cell 1)),("value",.v .none)]) U (Ok.fn U (gv kK a h)))
  (λa h=>Gk a U (by decide +kernel) h) λa h=>ae0 a U h
def ae4:gY r (.bool B) .z7 "true" "true" none:=
 Aa U (λY Y=>rfl) (λY Y=>rfl) (λY Y=>rfl) (λq=>by cases q) (by decide +kernel) (by decide +kernel) (λa h=>Me (t:="true") (λY Y=>by kernel_rfl) a U (by decide +kernel) h)
  (λa h=>PW (t:="true") (λY Y=>by kernel_rfl) a U (by decide +kernel) h) λa h=>Mg (t:="true") (λY Y=>by kernel_rfl) a U (by decide +kernel) h
def ae5:gY r (.bool ag) .z8 "false" "false" none:=
 Aa U (λY Y=>rfl) (λY Y=>rfl) (λY Y=>rfl) (λq=>by cases q) (by decide +kernel) (by decide +kernel) (λa h=>Me (t:="false") (λY Y=>by kernel_rfl) a U (by decide +kernel) h)
  (λa h=>PW (t:="false") (λY Y=>by kernel_rfl) a U (by decide +kernel) h) λa h=>Mg (t:="false") (λY Y=>by kernel_rfl) a U (by decide +kernel) h
def Ml(hi:∀d c,aj O (d+1) "is_int" [.str x] c=.ok (.bool ag) c)(hd:∀d c,aj O (d+12) "display" [.str x] c=.ok (.str x) c)(hs:∀d c,aj O (d+12) "show" [.str x] c=.ok (.str t) c)(hn:∀d c,aj O (d+7) "named" [.cell 1,.str x] c=.ok (.str t) c)
 (l1:x.length<=10)(l2:t.length<=10):gY r (.str x) .sym x t none:=
 Aa U hi hd hs (λq=>by cases q) (g ‹_› (dk U)) (g ‹_› (dk U)) (λa h=>aeY a U (by decide +kernel) h)
  (λa h=>aeZ (t:=t) hn a U (by rw[gi,gi];have:(ak "can't convert ").length+(ak " into Integer").length<=50:=(by decide +kernel);exact g (bg (Nat.add_left_comm _ _ _)) (g (aY l2 this) (by lk))) h) λa h=>ae1 a U h
def Mm{as:D (H×SV)}{x t:H}{num:al V}(T:jX r j "Text" as "String")(ha:gd "Text" as "text"=B)(hs:fJ as "text" (j+2)=.str x)(hr:wS x num)(ht:ra x t)(hx:x.length<=100)(hl:t.length<=100)(hn:∀n,num=I n->n.natAbs<2^64):gY r (.cell (j+2)) .str x t num:=by
 have len:∀a z:H,a.length<=30->z.length<=30->(a++(fY.str.nm++z)).length<=100:=λa z h h'=>by have:=T.l;rw[gi,gi];have:fY.str.nm.length<=30:=this;exact g (aY h (aY this h')) (by lk)
 refine⟨U,λx h=>wR ((T.ext x).k) T.x h,λx W h=>?_,λx W c h=>?_,λx W h Y=>?_,λx h=>?_,λ{d}Y Y Y Y Y x h=>?_,⟨hx,hl⟩,λn q=>⟨hn n q,U⟩⟩;exact Mb (T.ext x) W U (len _ _ (by decide +kernel) (by decide +kernel)) h;refine alF ((T.ext x).k) ha hs hr ht W (λn q=>⟨hn n q,c n q⟩) U ?_ h;rw[gi];have:(ak "invalid value for Integer(): ").length<=50:=by decide +kernel
 exact g (aY ‹_› ‹_›) (dk U);exact aeJ ((T.ext x).k) ha hs (h U);exact aeM ((T.ext x).k) ha hs (h _ (aT.refl _));exact Ec (d:=d+10) ((T.ext x).k) T.x (Eb (d:=d+8) ((aT.app _ [room 20000] _ _ (T.ext x).k)) ha hs ht ⟨U,h _ (aT.app _ _)⟩)
def Ok.ae6(h:F .aO s):Ok (dD a []) F E s:=h
def Ok.pA(h:vA T c (λY Y=>bA) n t (.v v) (λs=>bu T c (λY Y=>bA) n b (λi s=>match i with
 |.brk=>F .aO s|.ret v=>F (.ret v) s|_=>Ok (dD (λx=>(dm T c n t<|.v x).bind λY=>cb T c n b) r) F E s) s) s):Ok (dD (λx=>(dm T c n t<|.v x).bind λY=>cb T c n b) (v::r)) F E s:=by
 have d:=Ok.bind (f:=λY=>cb T c n b)<|((tJ n).a _ _ _ _ _ h).mono λY s h=>(tJ n).ss _ _ _ _ h
 revert d;show Ok ((λx=>(dm T c n t<|.v x).bind λY=>cb T c n b) v) _ _ _->_;generalize(λx=>(dm T c n t<|.v x).bind λY=>cb T c n b)=a;intro d;unfold Ok at d⊢;(conv in dD _ _ _=>whnf);generalize a v s=ze at d⊢;induction ze using Internal.R.casesOn with
 |C=>exact d|exc _ _=>exact d.elim|ok i s1=>cases i<;>exact d
def Ok.meD(h:ea s.hp k x=I (.od a))(p:P (.blt "dict.get",[.c6 k x]) s):Ok (oI O (.c6 k x) "get") P E s:=by
 have e:eP s (.c6 k x)=I a:=by unfold eP;dsimp only;exact Z h U
 refine Ok.run ?_ p;show vn (.c6 k x) "get" s=_;unfold vn;exact Z e U
def Ok.ae8(h:ea s.hp k x=I (.od []))(p:Q .none s):Ok (cH O c (.blt "dict.get") [.c6 k x,.tup [.str a,.str b]]) Q E s:=by
 show Ok (Bp (.c6 k x)<|.tup [.str a,.str b]) Q E s;have e:eP s (.c6 k x)=I []:=by unfold eP;dsimp only;exact Z h U
 refine Ok.run ?_ p;show aS (eP s<|.c6 k x) _=_;exact Z e U
def Ok.ae9(h:s.hp[k]?=I (.inst c e))(f:ay e x=I (.od []))(i:bj v=B)(p:d () {s with hp:=s.hp.set k<|.inst c (bN e x (.od [(.tup [.str a,.str b],v)]))}):Ok (jL (.c6 k x) (.tup [.str a,.str b]) v) d E s:=by refine Ok.run ?_ p;show(if bj v=B/\_ then _ else _)=_;refine Z (aa ⟨i,U⟩) ?_;show aS (gR s.hp[k]?) _=_;refine Z h ?_;show aS (l8<|ay e x) _=_;exact Z f U
def afa(T:jX r j "ListThing" c "Array")(ha:gd "ListThing" c "items"=B)(hi:fJ c "items" (j+2)=.lst [.int 1,.cell<|q+2])(hq:r[q]?=I (.inst "Text" ts))(hb:gd "Text" ts "text"=B)(hs:fJ ts "text" (q+2)=.str "q"):gY r (.cell<|j+2) .arr "[1, \"q\"]" "[1, \"q\"]" none:=
 z9 T U U U U (λq=>by cases q) (by decide +kernel) λ{d b w r' Q E}x h=>Ef ((aT.app _ _ _ _ (T.ext x).k)) T.x U U<|aeS ((aT.app _ _ _ _ (T.ext x).k)) ha hi (fB (r:=b::wO w::r')) ((aT.app _ _ _ _ (x _ _ hq))) hb hs ⟨U,h _⟩
def afb(T:jX r j "RangeThing" as "Range")(ha:gd "RangeThing" as "first"=B)(c:fJ as "first" (j+2)=.int 1)(hb:gd "RangeThing" as "last"=B)(Eg:fJ as "last" (j+2)=.none)(hc:gd "RangeThing" as "open"=B)(Eh:fJ as "open" (j+2)=.bool B):gY r (.cell<|j+2) .fS "1..." "1..." none:=
 z9 T U U U U (λq=>by cases q) (by decide +kernel) λ{d b w r' Q E}x h=>Ef ((aT.app _ _ _ _ (T.ext x).k)) T.x U U<|aeT ((aT.app _ _ _ _ (T.ext x).k)) ha c hb Eg hc Eh (fB (r:=b::wO w::r')) ⟨U,h _⟩
def afc(T:jX r j "TableThing" c "Hash")(e:zX "TableThing" c "pairs" (.fn "TableThing.pairs")=B)(f:gd "TableThing" c "rows"=B)(i:ay c "rows"=I (.od [(.tup [.str "sym",.str "k"],.lst [.str "k",.none])])):gY r (.cell<|j+2) .wT "{k: nil}" "{k: nil}" none:=
 z9 T U U U U (λq=>by cases q) (by decide +kernel) λ{d b w m Q E}x h=>Ef ((aT.app _ _ _ _ (T.ext x).k)) T.x U U<|aeW e ((aT.app _ _ _ _ (T.ext x).k)) f i (fB (r:=b::wO w::m)) ⟨U,h _⟩
def afd(T:jX r j "ModuleThing" f "Class")(e:dz r j "Array"):gY r (.cell<|j+2) .cls "Array" "Array" none:=
 z9 T U U U U (λq=>by cases q) (by decide +kernel) λ{d b w c Q E}x h=>aeX ((e.ext x).ext<|aT.app c [room 20000]) (by decide +kernel) (by have:=h 20000;exact(show(b::wO w::c++[room 20000]).set (c.length+2) (room 20000)=b::wO w::(c++[room 20000])from by exact Z wK U)▸this)
def afe(a:WI w r)(hq:r[q]?=I (.inst "Text" ts))(hb:gd "Text" ts "text"=B)(hs:fJ ts "text" (q+2)=.str "q")(h:∀j w' c,WI w' c->aT r c->gY c (.cell<|j+2) .arr "[1, \"q\"]" "[1, \"q\"]" W->Q (.cell<|j+2) (b::wO w'::c)):
 Cl (aj O<|d+9) "World.list_of" [.cell 1,.lst [.int 1,.cell<|q+2]] (b::wO w::r) Q E:=by
 refine ba (f:=az 69 16) U U (l:=[("self",.v<|.cell 1),("items",.v<|.lst [.int 1,.cell (q+2)])]) U ?_;(conv=>whnf);refine Ok.fn U (aey.bo (a.num (w.n+1)) λj w1 r1 W1 X1 m1=>?_);(conv=>whnf);refine Ok.new (q:="ListThing.__init__") U (eX U) U (ael ⟨U,?_⟩)
 have e:=aT.app r1 [.inst "ListThing"<|tA (w.n+1) (.cell (j+2)) [("items",.v (.lst [.int 1,.cell (q+2)]))]];exact h r1.length _ _ (W1.ext e) (X1.trans e)<|afa ⟨fB,U,⟨j,U,U,m1.ext e⟩,by decide +kernel⟩ U U (e _ _ (X1 _ _ hq)) hb hs
def aff(a:WI w r)(h:∀j w' i,WI w' i->aT r i->gY i (.cell<|j+2) .fS "1..." "1..." W->Q (.cell<|j+2) (b::wO w'::i)):
 Cl (aj O<|d+9) "World.range_of" [.cell 1,.int 1,.none,.bool B] (b::wO w::r) Q E:=by
 refine ba (f:=az 69 19) U U (l:=[("self",.v<|.cell 1),("first",.v<|.int 1),("last",.v .none),("is_open",.v<|.bool B)]) U ?_;(conv=>whnf);refine Ok.fn U (aeA.bo (a.num (w.n+1)) λj w1 e W1 X1 m1=>?_);(conv=>whnf);refine Ok.new (q:="RangeThing.__init__") U (eX U) U (aeo ⟨U,?_⟩);(conv=>whnf);refine Ok.gS (k:=e.length+2) (c:="RangeThing") (fB (r:=b::wO w1::e)) U ?_
 have X2:aT e ((e++[aQ.inst "RangeThing"<|tA (w.n+1) (.cell (j+2)) [("first",.v (.int 1)),("last",.v .none),("open",.v (.bool B))]]).set e.length<|.inst "RangeThing" (bN (tA (w.n+1) (.cell (j+2)) [("first",.v (.int 1)),("last",.v .none),("open",.v (.bool B))]) "frozen" (.v (.bool B)))):=(aT.app e _).set<|aA _
 exact h e.length _ _ (W1.ext X2) (X1.trans X2)<|afb (as:=bN (tA (w.n+1) (.cell (j+2)) [("first",.v (.int 1)),("last",.v .none),("open",.v (.bool B))]) "frozen" (.v (.bool B))) ⟨Z wK fB,U,⟨j,U,U,m1.ext X2⟩,by decide +kernel⟩ U U U U U U
abbrev tU(c:D (CV×CV))(a:V)(o:J):aQ:=.inst "TableThing"<|tA a (.cell o) [("rows",.od c),("spare",.v .none)]
def afg(h:Q .none (hp++[tU [(.tup [.str "sym",.str "k"],.lst [.str "k",.none])] num o])):Cl (aj O<|d+4) "TableThing.put" [.cell hp.length,.str "k",.none] (hp++[tU [] num o]) Q E:=by
 refine ba (f:=az 10 1) U U (l:=[("self",.v<|.cell hp.length),("key",.v<|.str "k"),("value",.v .none)]) U ?_;have e:ea (hp++[tU [] num o]) hp.length "rows"=I (.od []):=by unfold ea;exact Z fB U
 refine Ok.at fB U<|Ok.meD (k:=hp.length) (x:="rows") e (Ok.ae8 e (Ok.at fB U (Ok.ae9 fB U U ?_)))
 have a:(hp++[tU [] num o]).set hp.length (tU [(.tup [.str "sym",.str "k"],.lst [.str "k",.none])] num o)=_:=wK;exact a▸h
def afh(a:WI w r)(h:∀j w' c,WI w' c->aT r c->gY c (.cell<|j+2) .wT "{k: nil}" "{k: nil}" W->Q (.cell<|j+2) (b::wO w'::c)):
 Cl (aj O<|d+9) "World.table_of" [.cell 1,.lst [.tup [.str "k",.none]]] (b::wO w::r) Q E:=by
 refine ba (f:=az 69 17) U U (l:=[("self",.v<|.cell 1),("pairs",.v<|.lst [.tup [.str "k",.none]])]) U ?_;(conv=>whnf);refine Ok.fn U (aez.bo (a.num (w.n+1)) λj w1 e W1 X1 m1=>?_);(conv=>whnf);refine Ok.new (q:="TableThing.__init__") U (eX U) U (aem ⟨U,?_⟩);(conv=>whnf);refine Ok.pA (Ok.me (f:=.fn "TableThing.put") (fB (r:=b::wO w1::e)) U ?_);(conv=>whnf);refine Ok.fn U (afg (hp:=b::wO w1::e) ?_)
 have X2:=aT.app e [tU [(.tup [.str "sym",.str "k"],.lst [.str "k",.none])] (w.n+1)<|j+2];exact h e.length _ _ (W1.ext X2) (X1.trans X2)<|afc ⟨fB,U,⟨j,U,U,m1.ext X2⟩,by decide +kernel⟩ U U U
abbrev L:=D J
noncomputable abbrev tx(l:L):Str:=⟨l.toArray⟩
def aV(l:L):(tx l).length=l.length:=by show l.toArray.size=_;simp
def tV(a b:L):tx a++tx b=tx (a++b):=by show O8 (a.toArray++b.toArray)=_;simp
def jq(x:H):x=tx x.cps.toList:=by cases x;simp
def Ej(h:tx a=tx b):a=b:=by have:=bq (λx:H=>x.cps.toList) h;simpa using this
def lE:(tx a==tx b)=decide (a=b):=by by_cases h:a=b;subst h;simp;exact Z (dx h)<|beq_eq_false_iff_ne.mpr λq=>h (Ej q)
def pB(c:J)(y:H):ln (tx [c]) y=decide (c∈y.cps.toList):=StrLaws.found_one y c
def Ok.len(h:y.length<=16777216)(q:Q (.int y.length) s):Ok (cH O a (.blt "len") [.str y]) Q E s:=by show Ok (ny<|.str y) Q E s;exact Ok.run (wJ (aa<|show y.length<=eJ from h)<|br h (dk U)) q
def Mn{n:J}(h:i<n):uq (i:V) n=I i:=by
 have:=StrLaws.seqIndex_nonneg (i:=(i:V)) (n:=n) (dX _)<|Int.ofNat_lt.mpr h
 simpa using this
def Ok.idx{i:V}{k:J}(a:i=k)(h:l[k]?=I c)(d:l.length<=16777216)(q:Q (.str<|tx [c]) s):Ok (fT (.str<|tx l)<|.int i) Q E s:=by
 subst a;have f:k<l.length:=(List.getElem?_eq_some_iff.mp h).1;have e:(uq (k:V) (tx l).length).bind ((tx l).cps[·]?)=I c:=by rewrite[aV];refine Z (Mn f) ?_;simpa using h
 refine Ok.run ?_ q;show aS ((uq (k:V) (tx l).length).bind ((tx l).cps[·]?)) _=_;exact Z e (aa (show(tx l).length<=eJ by rw[aV];exact d))
def Ok.kM{i:V}{k:J}(c:i=k)(h:a[k]?=I v)(d:a.length<=100000)(q:Q v s):Ok (fT (.lst a)<|.int i) Q E s:=by
 subst c;have f:k<a.length:=(List.getElem?_eq_some_iff.mp h).1;have e:lf a k=I v:=by unfold lf;exact Z (Mn f) h
 exact Ok.run (zY U U e d) q
def Ok.slice(c:vh a=I lo)(d:vh b=I hi)(h:y.length<=16777216)(q:Q (.str<|lp y lo hi) s):Ok (ir (.str y) a b) Q E s:=by
 delta Ok ir;refine Z c<|Z d ?_
 show R.rec (motive:=λY=>Prop) _ _ _ (if y.length<=eJ then _ else _);exact Z (aa<|show y.length<=eJ from h) q
def Ok.tW(h:-100000000<=n/\n<=10000000)(q:Q (.str<|tx (iJ n.toNat c)) s):Ok (ej .Mult (.str<|tx [c])<|.int n) Q E s:=by
 have e:jd n (tx [c])=tx (iJ n.toNat c):=by
  unfold jd;have:(iJ n.toNat (tx [c]).cps.toList).flatten=iJ n.toNat c:=by
   show(iJ n.toNat [c]).flatten=_;generalize n.toNat=m;induction m with
   |zero=>rfl|succ m f=>exact Z ak3<|Z Px (Z f (Z ak3 U))
  exact Z this U
 unfold Ok;exact Z (show ej .Mult (.str<|tx [c]) (.int n) s=if-100000000<=n/\n<=10000000/\(tx [c]).length<=1 then eg (jd n<|tx [c]) s else .C from U)<|Z (aa ⟨h.1,h.2,by exact aA 1⟩) (Z e (Ok.str (by rewrite[aV];exact Z hE (g (N7 (n:=10000000)|>.mpr h.2) (by lk))) q))
def Ok.cD(h:a.length+b.length<=16777216)(q:Q (.str<|tx (a++b)) s):Ok (ej .Add (.str<|tx a)<|.str (tx b)) Q E s:=by rw[<-tV]at q;exact Ok.add (by rw[gi,aV,aV];exact h) q
def aq.t(d:x=tx a)(e:y=tx b)(h:a=b->A)(f:a≠b->c):aq (x==y) A c:=by subst d;subst e;exact Z lE<|aq.d h f
def afi(l:L)(n:J):cut l W (I (n:V))=l.take n:=by
 show pW (d6 l.length n -0) (Bb 0 l)=_;unfold d6;refine Z (u qB)<|Z AV ?_
 rcases xw n l.length with q|q
 congr 1;exact mq.trans<|n4 q
 exact Z (m4<|bg (mq.trans (uw q)).symm)<|Z (m4 q) U
def afj(l:L)(n:J):cut l (I (n:V)) W=l.drop n:=by
 show pW (l.length -d6 l.length n) (Bb (d6 l.length n) l)=_;unfold d6;refine Z (u qB) ?_;rcases xw n l.length with q|q
 have:(max 0<|min (n:V) l.length).toNat=n:=mq.trans<|n4 q
 exact Z this<|Z (m4 (by simp)) U
 have:(max 0<|min (n:V) l.length).toNat=l.length:=mq.trans<|uw q
 refine Z this<|Z (lV (aA _)) (Z (lV q) ?_);simp
def fZ(l:L)(n:J):lp (tx l) W (I (n:V))=tx (l.take n):=by unfold lp;have e:(tx l).cps.toList=l:=U;refine Z e ?_;rw[afi]
def lF(l:L)(n:J):lp (tx l) (I (n:V)) W=tx (l.drop n):=by unfold lp;have e:(tx l).cps.toList=l:=U;refine Z e ?_;rw[afj]
structure Rc where
 v:CV
 s:al fY
 dp:H
 sh:H
 num:al V
def bI(r:D aQ)(R:Rc):Prop:=match R.s with|none=>∃n:V,R.v=.int n/\R.num=I n/\R.dp=ak (toString n)/\R.sh=ak (toString n)/\n.natAbs<2^100|some s=>gY r R.v s R.dp R.sh R.num
abbrev Er:=H×H
abbrev dL(α:Type):=Except Er α
noncomputable def pC:Er:=("ArgumentError","too few arguments")
noncomputable def iO:Er:=("ArgumentError","incomplete format specifier; use %% (double %) instead")
noncomputable def oq:Er:=("ArgumentError","width too big")
def lG(R:Rc):dL Int:=match R.s with
 |none=>.ok<|R.num.getD 0
 |some s=>.error ("TypeError",wm s)
noncomputable def dg(c:J):Bool:=decide (c∈(ak "0123456789").cps.toList)
noncomputable def jY(n c:J):L->dL (J×J×L)
 |[]=>if dg c then .error (if n*10+(c -48)>20000 then oq else iO)else .ok (n,c,[])
 |a::l=>if dg c then(if n*10+(c -48)>20000 then .error oq else jY (n*10+(c -48)) a l)else .ok (n,c,a::l)
def kO(c:J)(l:L)(a:D Rc):dL (V×J×L×D Rc):=
 if c=42 then match a with
  |[]=>.error pC
  |R::a=>match lG R with
   |.error e=>.error e
   |.ok n=>if n.natAbs>20000 then .error oq else match l with
    |[]=>.error iO|d::f=>.ok (n,d,f,a)
 else match jY 0 c l with|.error e=>.error e|.ok (n,d,f)=>.ok (n,d,f,a)
def fe{α:Type}(o:dL α)(P:α->Prop)(b:aQ)(c:D aQ)(E:cT):Prop:=match o with|.ok a=>P a|.error e=>fC b c e.1 e.2 E
abbrev fo(c:L)(d:D Rc)(i a:J):aQ:=.inst "Formatter" [("world",.v<|.cell 1),("text",.v<|.str (tx c)),("values",.v<|.lst (d.map (·.v))),("place",.v<|.int i),("used",.v<|.int a)]
structure Cx(r0 r:D aQ)(f:J):Prop where
 x:aT r0 r
 l:r0.length<=f
 lt:f<r.length
def Cx.get(a:Cx c r f):(r.set f o)[f]?=I o:=F3 a.lt
def Cx.ext(a:Cx c r f)(o:aQ):aT c (r.set f o):=a.x.set a.l
def PX{r:D α}:(r.set i a).set i b=r.set i b:=by simp
def iE{l:D α}(h:l.drop i=c::d):l[i]?=I c/\l.drop (i+1)=d/\i<l.length:=by
 have a:i<l.length:=by
  rcases j8 i l.length with q|q
  exact q;rw[lV q]at h;exact cO pN h U
 rw[uM a]at h;injection h with e f;exact⟨by exact Z (kZ a)<|Z e U,f,a⟩
def tX(a:Cx r0 r f)(j:WI w r0)(hr:n.length<=1000)
 (h:match l with
  |c::_=>Q (.str<|tx [c]) (b::wO w::r.set f (fo n o (i+1) m))|[]=>fC b r0 iO.1 iO.2 E)(p:n.drop i=l):Cl (aj O<|d+12) "Formatter.letter" [.cell<|f+2] (b::wO w::r.set f (fo n o i m)) Q E:=by
 have s:(b::wO w::r.set f (fo n o i m))[f+2]?=I (fo n o i m):=a.get;have hl:(tx n).length<=16777216:=by rw[aV];exact g ‹_› (dk U)
 refine ba (f:=az 54 2) U U (l:=[("self",.v<|.cell (f+2))]) U<|Ok.at s U (Ok.at s U ?_)
 refine Ok.len hl<|aq.d (λq=>?_) λq=>?_
 have e:l=[]:=ax p<|lV (by rw[aV]at q;exact Int.ofNat_le.mp q)
 clear p;subst e;refine Ok.at s U ?_;(conv=>whnf);refine Ok.fn U ?_;refine(gv pz (j.ext (a.ext _)) λx w' r' W' X' e=>?_)
 exact h x w' r' W' ((a.ext _).trans X') e;induction l with
 |nil=>rw[Py]at p;rw[aV]at q;exact aF (Int.ofNat_le.mpr p) q
 |cons c l'=>
  refine cB (iE p) λe1 zz e3=>Ok.at s U<|Ok.gS s U ?_
  have e:(r.set f<|fo n o i m).set f (fo n o (i+1) m)=r.set f (fo n o (i+1) m):=PX;rw[<-e]at h;have tT:(b::wO w::(r.set f<|fo n o i m).set f (fo n o (i+1) m))[f+2]?=I (fo n o (i+1) m):=Z e a.get;exact Ok.at tT U<|Ok.at tT U (Ok.idx (k:=i) (H7) e1 (g ‹_› (dk U)) h)
def Ok.tY(h:xs.length<=100000)(q:Q (.int xs.length) s):Ok (cH O a (.blt "len") [.lst xs]) Q E s:=by show Ok (ny<|.lst xs) Q E s;exact Ok.run (wJ U<|br h (dk U)) q
def wV(a:Cx z r f)(j:WI w z)(hr:o.length<=1000)
 (h:match vs with
  |R::_=>Q R.v (b::wO w::r.set f (fo n o i<|m+1))|[]=>fC b z pC.1 pC.2 E)(hs:∀R∈o,bj R.v=B)(p:o.drop m=vs):Cl (aj O<|d+12) "Formatter.value" [.cell<|f+2] (b::wO w::r.set f (fo n o i m)) Q E:=by
 have s:(b::wO w::r.set f (fo n o i m))[f+2]?=I (fo n o i m):=a.get;have y:(o.map (·.v)).length=o.length:=b0 ..;refine ba (f:=az 54 1) U U (l:=[("self",.v<|.cell (f+2))]) U<|Ok.at s U (Ok.at s U ?_)
 refine Ok.tY (xs:=o.map (·.v)) (g (bg y)<|g hr (dk U)) ?_;refine aq.d (λq=>?_) λq=>?_;have e:vs=[]:=ax p<|lV (by rw[y]at q;exact Int.ofNat_le.mp q)
 clear p;subst e;refine Ok.at s U ?_;(conv=>whnf);refine Ok.fn U ?_;refine(gv pz (j.ext (a.ext _)) λx w' r' W' X' e=>?_)
 exact h x w' r' W' ((a.ext _).trans X') e;induction vs with
 |nil=>rw[Py]at p;rw[y]at q;exact aF (Int.ofNat_le.mpr p) q
 |cons c l'=>
  refine cB (iE p) λe1 zz e3=>Ok.at s U<|Ok.gS s U ?_
  have e:(r.set f<|fo n o i m).set f (fo n o i<|m+1)=r.set f (fo n o i<|m+1):=PX;rw[<-e]at h;have t:(b::wO w::(r.set f<|fo n o i m).set f (fo n o i<|m+1))[f+2]?=I (fo n o i<|m+1):=Z e a.get;refine Ok.at t U<|Ok.at t U (Ok.kM (k:=m) (v:=c.v) (H7) (Z rJ (Z e1 U)) (g (bg y) (g hr (dk U))) ?_)
  exact Ok.fz (hs _<|uU e1) h
def hM(a:bP)(n:J)(c:cf)(k:J):M bD:=match c with|.While t b _ _=>jh ((aB O a n t).bind bx) (cb O a n b) k|_=>C
noncomputable def bW(f:jH)(i:J):Stmt:=f.body.getD i<|.Pass default
def afk(h:dg c=B):oJ (tx [c])=I ((c -48:J):V):=by
 have h:c∈(ak "0123456789").cps.toList:=jx h;have e:(ak "0123456789").cps.toList=[48,49,50,51,52,53,54,55,56,57]:=by kernel_rfl
 rw[e]at h;exact(by decide +kernel:∀c∈([48,49,50,51,52,53,54,55,56,57]:D J),oJ (tx [c])=I ((c -48:J):V)) c h
def Ok.int(h:oJ x=I n)(q:Q (.int n) s):Ok (cH O a (.typ "int") [.str x]) Q E s:=by refine Ok.run ?_ q;show aS (oJ x) _=_;exact Z h U
def Ok.rb(c:a.natAbs<2^64)(d:b.natAbs<2^64)(h:Q (.int<|a*b) s):Ok (ej .Mult (.int a)<|.int b) Q E s:=Ok.mul (Sm.bits (.of c) (.of d)<|dk U) h
def Ok.afl(e:a+b=n)(h:Q (.int n) s):Ok (ej .Add (.int a)<|.int b) Q E s:=by subst e;exact h
def aq.rc(h:decide (c∈y.cps.toList)=B->A)(d:decide (c∈y.cps.toList)=ag->a):aq (ln (tx [c]) y) A a:=by rw[pB];exact aq.i h d
abbrev Mo(f c m:J)(a:H):D (H×SV):=[("self",.v<|.cell (f+2)),("first",.v<|.str a),("found",.v<|.int m),("letter",.v<|.str (tx [c]))]
def Ek:jY n c l=if dg c then(if n*10+(c -48)>20000 then .error oq else match l with
 |[]=>.error iO|d::l'=>jY (n*10+(c -48)) d l')else .ok (n,c,l):=by
 induction l with
 |nil=>refine Eq.trans (b:=if dg c then .error (if n*10+(c -48)>20000 then oq else iO)else .ok (n,c,[])) U ?_;by_cases q:dg c=B;rw[aa q,aa q];by_cases z:n*10+(c -48)>20000;rw[aa z,aa z];rw[u z,u z];rw[u q,u q]
 |cons=>rfl
def afm(j:Cx G r f)(n:WI w G)(hr:o.length<=1000):∀(k:J)(l:L)(i c m:J),o.drop i=l->l.length<k->m<=20000->
 fe (jY m c l) (λx=>∀i',o.drop i'=x.2.2->F .aO ⟨Mo f x.2.1 x.1 a,b::wO w::r.set f (fo o v i' P),(az 54 3).sc⟩) b G E->
 Ok (hM (aj O<|d+13) 96 (bW (az 54 3) 2) k) F (λx s=>E x s.hp) ⟨Mo f c m a,b::wO w::r.set f (fo o v i P),(az 54 3).sc⟩:=by
 intro k;induction k with
 |zero=>exactλl i c m t A=>aF A<|n6 _
 |succ k ih=>
  intro l i c m t A hm h;rw[Ek]at h;have p:(b::wO w::r.set f (fo o v i P))[f+2]?=I (fo o v i P):=j.get;refine Ok.wh<|aq.rc (λq=>?_) λq=>?_
  have q:dg c=true:=q;rw[aa q]at h;have e:((m:V)*10+(c -48:J))=((m*10+(c -48):J):V):=by rfl
  refine Ok.rb (br ‹_› (dk U)) (dk U)<|Ok.int (afk q) (Ok.afl e ?_)
  clear e;generalize m*10+(c -48)=N at h⊢;refine aq.d (λz=>?_) λz=>?_;rw[aa<|Int.ofNat_lt.mp z]at h;refine Ok.at p U ?_;(conv=>whnf);refine Ok.fn U ?_;refine gv pz (n.ext (j.ext _)) λx w' r' W' X' e=>?_
  exact h x w' r' W' ((j.ext _).trans X') e;have z':¬N>20000:=λy=>z<|Int.ofNat_lt.mpr y
  rw[u z']at h;refine Ok.me (f:=.fn "Formatter.letter") p U<|Ok.fn U (tX (l:=l) j n hr ?_ t)
  induction l with
  |nil=>exact h|cons c' l'=>exact ih l' (i+1) c' N (iE t).2.1 (ux A) (Nat.not_lt.mp z') h
  have q:dg c=false:=q;rw[u<|by exact Z q iN]at h;exact h i t
def aq.c{c:J}(d:y=tx [e])(h:c=e->A)(f:c≠e->a):aq (tx [c]==y) A a:=
 aq.t U d (λq=>h<|by injection q) λq=>f λz=>q<|Z z U
def bI.st{R:Rc}(h:bI r R):bj R.v=true:=by unfold bI at h;generalize e:R.s=a;induction a using bL with|none=>rw[e]at h;exact av h λn h c=>Z h U|some s=>rw[e]at h;exact h.st
def Ab{b:CV}(c:bj a=B)(d:bj b=B):[a,b].all bj=true:=Z gc<|Z c (Z gc (Z d U))
def Mp:∀{l:L}{m c:J},m<=20000->jY m c l=.ok x->x.1<=20000:=by
 intro l;induction l with
 |nil=>intro m c a h;replace h:(if dg c then _ else _)=_:=h;split at h;exact cK h;obtain rfl:=dQ h;exact a
 |cons c' l ih=>intro m c a h;replace h:(if dg c then(if m*10+(c -48)>20000 then _ else _)else _)=_:=h;split at h;split at h;exact cK h;exact ih (iM ‹_›) h;clear ih;obtain rfl:=dQ h;exact a
def afn{R:Rc}(h:bI c R)(x:aT c r)(a:WI w c)(q:fe (lG R) (λn=>n.natAbs<2^100->Q (.int n) (b::wO w::r)) b c E):Cl (aj O<|d+12) "whole" [.cell 1,R.v] (b::wO w::r) Q E:=by
 unfold bI at h;unfold lG at q;generalize e:R.s=f;induction f using bL with
 |none=>rw[e]at h q;refine qb h λn i j k k m=>?_;rw[j]at q;exact Z i<|Cl.eq (nM:=b::wO w::r) (v:=.int n) U (q m)
 |some s=>rw[e]at h q;exact h.whole x (a.ext x)<|fC.ext q x
def Mq(j:Cx r0 r f)(k:WI w r0)(hR:∀R∈p,bI r0 R)(hr:o.length<=900)(hn:p.length<=1000)(hi:o.drop i=l)(hu:p.drop m=vs)
 (h:fe (kO c l vs) (λx=>x.1.natAbs<=20000->∀i' u',o.drop i'=x.2.2.1->p.drop u'=x.2.2.2->Q (.tup [.int x.1,.str<|tx [x.2.1]]) (b::wO w::r.set f (fo o p i' u'))) b r0 E):
 Cl (aj O<|d+14) "Formatter.count" [.cell<|f+2,.str<|tx [c]] (b::wO w::r.set f (fo o p i m)) Q E:=by
 have hk:∀i m,(b::wO w::r.set f (fo o p i m))[f+2]?=I (fo o p i m):=λY Y=>j.get;refine ba (f:=az 54 3) U U (l:=[("self",.v<|.cell (f+2)),("first",.v<|.str (tx [c]))]) U ?_;unfold kO at h;refine aq.c (e:=42) U (λq=>?_) λq=>?_;rw[aa q]at h;refine Ok.at (hk i m) U<|Ok.me (f:=.fn "Formatter.value") (hk i m) U (Ok.fn U (wV (vs:=vs) j k hn ?_ (λR Ac=>(hR R Ac).st) hu))
 induction vs using bk with
 |nil=>exact h|cons R vs=>
  have hm:R∈p:=uU (iE hu).1;dsimp only at h;refine Ok.fx (Ab U (hR R hm).st)<|afn (hR R hm) (j.ext _) k ?_
  generalize e:lG R=ze;induction ze using ip with
  |error e'=>rw[e]at h;exact h|ok n=>
   rw[e]at h;dsimp only at h;refineλMr=>aq.d (λz=>?_) λz=>?_;have z':n.natAbs>20000:=Int.ofNat_lt.mp z;rw[aa z']at h;refine Ok.at (hk i<|m+1) U ?_;(conv=>whnf);refine Ok.fn U ?_;refine gv pz (k.ext (j.ext _)) λx w' r' W' X' e=>?_
   exact h x w' r' W' ((j.ext _).trans X') e;have z':¬n.natAbs>20000:=λy=>z<|Int.ofNat_lt.mpr y
   rw[u z']at h;refine Ok.me (f:=.fn "Formatter.letter") (hk i<|m+1) U<|Ok.fn U (tX (l:=l) j k (g ‹_› (dk U)) ?_ hi)
   induction l using bk with
   |nil=>exact h|cons c' l'=>exact h (Nat.not_lt.mp z') (i+1) (m+1) (iE hi).2.1 (iE hu).2.1
 rw[u q]at h;refine afm (P:=m) (a:=tx [c]) j k (g ‹_› (dk U)) 1000 l i c 0 hi (ax hi<|Z i8 (Ut hr)) (g (g (bU _ _) ‹_›)<|dk U) ?_;generalize e:jY 0 c l=ze;induction ze using ip with
 |error e'=>rw[e]at h;exact h|ok x=>rw[e]at h;exactλi' Ad=>h (Mp (g (g (bU _ _) ‹_›)<|dk U) e) i' m Ad hu
noncomputable def bQ(n:J):Nat:=if n<10 then 48+n else 87+n
noncomputable def fL(b:J):J->J->L
 |0,_=>[]|k+1,n=>if n=0 then[]else bQ (n%b)::fL b k (n/b)
def Ms:fL b (k+1) n=if n=0 then[]else bQ (n%b)::fL b k (n/b):=U
def cI(n b:J):L:=if n=0 then[48]else(fL b 128 n).reverse
def afo(h:n<16):(ak "0123456789abcdefghijklmnopqrstuvwxyz").cps.toList[n]?=I (bQ n):=by
 have:∀m:Fin 16,(ak "0123456789abcdefghijklmnopqrstuvwxyz").cps.toList[m.val]?=I (bQ m.val):=by decide +kernel
 exact this ⟨n,h⟩
def afp(a b:J):Int.fmod (a:V) (b:V)=((a%b:J):V):=Z (ak4 _<|dX _) U
def Mt(a b:J):Int.fdiv (a:V) (b:V)=((a/b:J):V):=Z (ak1 _<|dX _) U
def Ok.El{i:V}{k:J}(a:i=k)(h:y.cps.toList[k]?=I c)(d:lc y.cps.toList.length 16777216=B)(q:Q (.str<|tx [c]) s):Ok (fT (.str y)<|.int i) Q E s:=Z (jq y)<|Ok.idx a h (eX d) q
def Ok.Em{a b:J}(h:0<b)(q:Q (.int ((a%b:J):V)) s):Ok (ej .Mod (.int a)<|.int b) Q E s:=by refine Ok.mod (λk=>jB h<|lO k) ?_;rw[afp];exact q
def Ok.afq{a b:J}(h:0<b/\b<2^64)(q:Q (.int ((a/b:J):V)) s):Ok (ej .FloorDiv (.int a)<|.int b) Q E s:=by refine Ok.fdiv ⟨by exactλk=>jB h.1<|lO k,br (px (k:=64)<|by show b<_;exact h.2)<|dk U⟩ ?_;rw[Mt];exact q
def Ok.app(h:ay s.loc x=I (.ol xs))(a:xs.length<100000)(c:bj v=B)(q:Q .none (cq x (.ol<|xs++[v]) s)):Ok (cH O d (.blt "list.append") [.bY x,v]) Q E s:=by show Ok (yr (.bY x) v) Q E s;refine Ok.run ?_ q;show aS (qg<|ay s.loc x) _=_;exact Z h<|aa ⟨c,a⟩
abbrev fc(a:L)(c:V)(d:al V):aQ:=.inst "Format" [("flags",.v<|.str (tx a)),("width",.v<|.int c),("most",.v<|fX d)]
noncomputable def hH(c:L)(a:J)(t:L):L:=if 45∈c then t++iJ (a -t.length) 32 else iJ (a -t.length) 32++t
def aq.jZ(c:x=tx [e])(h:e∈fl->A)(d:e∉fl->a):aq (ln x<|tx fl) A a:=by subst c;rw[pB];exact aq.d h d
def wW{a:J}(m:n[k]?=I (fc fl a o))(i:a<=20000)(j:t.length<=1000000)(h:Q (.str<|tx (hH fl a t)) n):Cl (aj O<|d+1) "Format.padded" [.cell k,.str<|tx t] n Q E:=by
 refine ba (f:=az 53 1) U U (l:=[("self",.v<|.cell k),("text",.v<|.str (tx t))]) U ?_;have e:((a:V) -((tx t).length:J)).toNat=a -t.length:=by rw[aV];exact AR _ _
 unfold hH at h;refine Ok.at m U<|Ok.len (by rw[aV];exact g ‹_› (dk U)) (Ok.tW (c:=32) (by rw[aV];exact Up i j) (Z e ?_))
 refine Ok.at m U<|aq.jZ (e:=45) U (λq=>?_) λq=>?_
 rw[aa q]at h;exact Ok.cD (Z hE<|Ur i j) h;rw[u q]at h;exact Ok.cD (Z hE<|Uq i j) h
abbrev En(n m a:J)(d:L):D (H×SV):=[("number",.v<|.int n),("base",.v<|.int a),("left",.v<|.int m),("found",.ol<|d.map λc=>.str (tx [c]))]
def afr{f:J}(hb:2<=f)(p:f<=16):∀(k m j:J)(i:L),m<2^k->k<j->i.length+k<=200->F .aO ⟨En n 0 f<|i++fL f k m,hp,(ae 42).sc⟩->
 Ok (hM (aj O d) 97 (bW (ae 42) 1) j) F G ⟨En n m f i,hp,(ae 42).sc⟩:=by
 intro k;induction k with
 |zero=>intro m j i r s t h;obtain⟨j,rfl⟩:∃x,j=x+1:=⟨j -1,by exact(n7 s).symm⟩;have e:m=0:=ru r;clear s r;subst e;refine Ok.wh ?_;(conv=>whnf);rw[show fL f 0 0=[]from U,eN]at h;exact h
 |succ k ih=>
  intro m j i r s t h;obtain⟨j,rfl⟩:∃x,j=x+1:=⟨j -1,by exact Co s⟩;refine Ok.wh ?_;rw[Ms]at h;(conv=>whnf);refine aq.d (λq=>?_) λq=>?_;have v:m%f<16:=cM (xy _<|cG ‹_›) p;rw[u<|jB (Int.natCast_pos.mp q)]at h;have hd:m/f<2^k:=by
   refine Bk<|cM r ?_
   rw[rS,xX];exact xB _ hb
  have o:=ih (m/f) j (i++[bQ<|m%f]) hd (j7 ‹_›) (by refine Z aN ?_;show _+1+_<=_;exact TY t)<|by rw[db];exact h
  unfold En at o;rw[on]at o;(conv=>whnf);refine Ok.Em (a:=m) (b:=f) (cG ‹_›) ?_;(conv=>whnf);refine Ok.El (k:=m%f) U (afo v) U ?_;(conv=>whnf);refine Ok.app (xs:=i.map λc=>.str<|tx [c]) U (by rw[b0];exact TZ t) U ?_;(conv=>whnf);exact Ok.afq (a:=m) (b:=f) (⟨cM (by lk) hb,br p<|by lk⟩) o;have e:m=0:=Nat.eq_zero_of_not_pos λk=>q<|Int.natCast_pos.mpr k
  clear q s r;subst e;rw[aa U,eN]at h;exact h
def Mu:∀(k n:J),(fL base k n).length<=k:=by
 intro k;induction k with
 |zero=>exactλn=>aA _|succ k d=>exactλn=>mu (P:=λl:L=>l.length<=k+1) (dW _)<|fF (d _)
def Ae(n a:J):(cI n a).length<=128:=by unfold cI;split;show 1<=128;exact bU _ _;exact Z Pz<|Mu _ _
def afs:∀l:L,pM (ak "") (l.map λc=>tx [c])=tx l:=by
 intro l;have e:∀l:L,uQ (ak "") (l.map λc=>tx [c])=tx l:=by
  intro l;induction l with
  |nil=>rfl|cons c l f=>
   induction l with
   |nil=>rfl|cons h l=>
    show tx [c]++ak ""++uQ (ak "") ((h::l).map λc=>tx [c])=_;refine Z f<|Z (show tx [c]++ak ""=tx [c]from U) ?_;rw[tV]
    rfl
 rw[<-e];exact O7 _ _
def aft(l:L):((l.map λc=>tx [c]).map (·.length)).sum=l.length:=by
 induction l with
 |nil=>rfl|cons c l e=>rw[fq,fq,ak5,e,bw];exact lN _ _
def Ok.sk(h:l.length<=10000000)(q:Q (.str<|tx l) s):Ok (cH O a (.blt "str.join") [.str<|ak "",.lst<|l.map λc=>.str (tx [c])]) Q E s:=by
 show Ok (rV (ak "")<|.lst (l.map λc=>.str (tx [c]))) Q E s;have e:l.map (λc=>CV.str<|tx [c])=(l.map λc=>tx [c]).map .str:=Z xY U;refine Z e<|Ok.run (afs l▸LU U (Ed _) ?_) q
 rewrite[aft,b0];exact Z (show(ak "").length=0 from U)<|g (g (bg (by rfl)) h) (dk U)
def Ok.rev(h:ay s.loc x=I (.ol a))(c:a.length<=100000)(q:Q (.lst a.reverse) s):Ok (nv<|.bY x) Q E s:=by
 have e:c4 s (.bY x)=I a:=by unfold c4;dsimp only;exact Z h U
 have d:nv (.bY x) s=.ok (.lst a.reverse) s:=by show aS (c4 s<|.bY x) _=_;exact Z e<|aa c
 unfold Ok;exact Z d q
def Ok.Mv(h:ay s.loc x=I (.ol xs))(a:xs.length<=100000)(q:Q (.int xs.length) s):Ok (cH O d (.blt "len") [.bY x]) Q E s:=by
 show Ok (ny<|.bY x) Q E s;have e:c4 s (.bY x)=I xs:=by unfold c4;dsimp only;exact Z h U
 have c:sg s (.bY x)=I xs.length:=by show(c4 s<|.bY x).elim ((eP s<|.bY x).map ig) _=_;exact Z e U
 exact Ok.run (wJ c<|br a (dk U)) q
def afu{n i:J}(hb:2<=i)(o:i<=16)(p:n<2^128)(h:Q (.str<|tx (cI n i)) k):Cl (aj O<|d+1) "figures" [.int n,.int i] k Q E:=by
 refine ba (f:=ae 42) U U (l:=[("number",.v<|.int n),("base",.v<|.int i)]) U<|afr hb o 128 n 1000 [] p (bU _ _) (by show 0+128<=200;exact bU _ _) ?_
 rw[uP];have hl:=Mu (base:=i) 128 n;have j:∀{l:L}{m:SV}{E':bZ},l.length<=200->Q (.str<|tx l.reverse) k->bu O (aj O d) E' 96 ((ae 42).body.drop 4) (bB Q) ⟨[("number",.v<|.int n),("base",.v<|.int i),("left",m),("found",.ol<|l.map λc=>.str (tx [c]))],k,(ae 42).sc⟩:=λ{l m E'}hl h=>by
  refine Ok.rev U (by rw[b0];exact g ‹_› (dk U))<|ax ak6 (Ok.sk (Z Pz (g ‹_› (dk U))) ?_)
  exact h
 by_cases q:n=0;clear p;subst q;have e:fL i 128 0=[]:=U;refine Z e ?_;have a:=j (l:=[48]) (m:=.v<|.int 0) (E':=λx s=>E x s.hp) (by show 1<=200;exact br ‹_› (dk U)) h;(conv=>whnf);conv at a=>whnf
 exact a;have e:fL i 128 n=bQ (n%i)::fL i 127 (n/i):=by show(if n=0 then _ else _)=_;exact Z (u q) U
 have h:Q (.str<|tx (fL i 128 n).reverse) k:=by unfold cI at h;rw[u q]at h;exact h
 rw[e]at h hl⊢;refine Ok.Mv (xs:=((bQ (n%i)::fL i 127 (n/i)).map λc=>.str<|tx [c])) U (by rw[b0];exact g ‹_› (dk U)) ?_;have a:=j (m:=.v<|.int 0) (E':=λx s=>E x s.hp) (g ‹_› (dk U)) h;(conv=>whnf);conv at a=>whnf
 exact a
def wX(t:L):L:=(AL<|tx t).cps.toList
noncomputable def base(k:J):Nat:=if k=120\/k=88 then 16 else if k=111 then 8 else if k=98\/k=66 then 2 else 10
noncomputable def mK(a:al V)(n:V)(t:L):L:=match a with
 |some m=>if m=0/\n=0 then[]else iJ (m -t.length).toNat 48++t
 |none=>t
noncomputable def kR(a:L)(n:V):L:=if n<0 then[45]else if 43∈a then[43]else if 32∈a then[32]else[]
noncomputable def j4(c:L)(n:V)(k:J)(t a:L):L:=if 35∈c/\k=111 then a++(if t.take 1=[48]then[]else[48])else if 35∈c/\k∈(ak "xXbB").cps.toList/\n≠0 then a++([48]++[k])else a
noncomputable def hW(a:L)(c:J)(d:al V)(e t:L):L:=if 48∈a/\45∉a/\d=W then iJ ((c:V) -e.length -t.length).toNat 48++t else t
def hY(k:J)(t:L):L:=if k=88 then wX t else t
def Eo(a:L)(c:J)(d:al V)(n:V)(k:J):L:=
 let t:=mK d n<|cI n.natAbs (base k)
 let e:=j4 a n k t<|kR a n
 hH a c<|e++hY k (hW a c d e t)
def Ep(t:L):(wX t).length<=3*t.length:=by
 have:=ana<|tx t
 rw[aV]at this;exact this
def afv(t:L):AL (tx t)=tx (wX t):=jq _
def Ok.up(h:(wX t).length<=10000000)(q:Q (.str<|tx (wX t)) s):Ok (cH O a (.blt "str.upper") [.str<|tx t]) Q E s:=by show Ok (eg<|AL (tx t)) Q E s;rw[afv];exact Ok.str (by rw[aV];exact g ‹_› (dk U)) q
def tZ(a:x=tx [e])(h:e∉fl):ln x (tx fl)=false:=by subst a;rw[pB];exact dx h
def Mw(hx:x=tx [e])(h:e∈fl):ln x (tx fl)=true:=by subst hx;rw[pB];exact i5 h
def aq.tn(d:x=tx a)(e:y=tx b)(h:a≠b->A)(f:a=b->k):aq (!(x==y)) A k:=by
 subst d;subst e;refine Z lE ?_;by_cases q:a=b;exact Z (i5 q)<|f q
 exact Z (dx q)<|h q
def aq.qn{b:V}(x:a≠b->A)(y:a=b->k):aq (!(a==b)) A k:=by
 by_cases q:a=b;exact Z (beq_iff_eq.mpr q)<|y q
 exact Z (beq_eq_false_iff_ne.mpr q)<|x q
def Ok.Af(e:y=tx b)(h:a.length+b.length<=16777216)(q:Q (.str<|tx (a++b)) s):Ok (iQ .Add (.str<|tx a)<|.str y) Q E s:=by subst e;exact Ok.cD h q
def Ok.afw(e:y=tx a)(h:a.length+b.length<=16777216)(q:Q (.str<|tx (a++b)) s):Ok (ej .Add (.str y)<|.str (tx b)) Q E s:=by subst e;exact Ok.cD h q
def aq.Mx(c:x=tx [e])(h:e∉fl->A)(d:e∈fl->a):aq (!ln x (tx fl)) A a:=by
 subst c;rw[pB];by_cases q:e∈fl;exact Z (i5 q)<|d q
 exact Z (dx q)<|h q
abbrev afx(f:J)(n:V)(k:J)(t:L)(a:SV):D (H×SV):=[("self",.v<|.cell f),("value",.v<|.int n),("kind",.v<|.str (tx [k])),("told",.v<|.str (tx t)),("lead",a)]
def afy{wd:J}(p:hp[f]?=I (fc fl wd mo))(hw:wd<=20000)(hm:∀m,mo=I m->0<=m/\m<=20000)(hn:n.natAbs<2^128)(hb:bi (hV<|gC 47) (.str<|tx [k])=I (I<|.int (base k)))(t1:2<=base k/\base k<=16)
 (h:Q (.str<|tx (Eo fl wd mo n k)) hp):Cl (aj O<|d+2) "Format.number" [.cell f,.int n,.str<|tx [k]] hp Q E:=by
 let P:=λ(i:J)(t:L)(ld:SV)=>bu O (aj O<|d+1) (λx s=>E x s.hp) (100 -i) ((az 53 2).body.drop i) (bB Q) ⟨afx f n k t ld,hp,(az 53 2).sc⟩;have s5:∀{t ld:L},t.length<=100000->ld.length<=10->Q (.str<|tx (hH fl wd (ld++hY k t))) hp->P 5 t (.v<|.str (tx ld)):=λ{t ld}o hl h=>by
  unfold hY at h;refine Ok.me (f:=.fn "Format.padded") p U<|aq.c (e:=88) U (λq=>?_) λq=>?_
  rw[aa q]at h;have hu:=Ep t;exact Ok.up (g hu<|g (d7 3 o) (dk U))<|Ok.cD (g (aY hl (g hu (d7 3 o))) (dk U)) (Ok.fn U (wW p hw (Z aN (g (aY hl (g hu (d7 3 o))) (dk U))) h))
  rw[u q]at h;exact Ok.cD (g (aY ‹_› ‹_›)<|dk U)<|Ok.fn U (wW p hw (Z aN (g (aY ‹_› ‹_›) (dk U))) h)
 have s4:∀{t ld:L},t.length<=50000->ld.length<=10->Q (.str<|tx (hH fl wd (ld++hY k (hW fl wd mo ld t)))) hp->P 4 t (.v<|.str (tx ld)):=λ{t ld}o hl h=>by
  unfold hW at h;refine Ok.at p U<|aq.jZ (e:=48) U (λq=>?_) λq=>?_
  refine Ok.at p U<|aq.Mx (e:=45) U (λq2=>?_) λq2=>?_
  clear hn;induction mo with
  |none=>
   rw[aa ⟨q,q2,U⟩]at h;refine Ok.at p U<|Ok.at p U ?_
   refine Ok.len (by rw[aV];exact g ‹_› (dk U))<|Ok.len (by rw[aV];exact g ‹_› (dk U)) (Ok.tW (c:=48) (by rw[aV,aV];exact UM hw o hl) ?_)
   rw[aV,aV];exact Ok.cD (Z hE<|g (aY (g yM hw) o) (dk U))<|s5 (Z aN (Z hE (g (aY (g yM hw) o) (by lk)))) hl h
  |some m=>rw[u λz=>cO OS z.2.2 U]at h;exact Ok.at p U<|s5 (g ‹_› (dk U)) hl h
  rw[u λz=>z.2.1 q2]at h;exact Z (Mw (e:=45) U q2)<|s5 (g ‹_› (dk U)) hl h
  rw[u λz=>q z.1]at h;exact Z (tZ (e:=48) U q)<|s5 (g ‹_› (dk U)) hl h
 have s3:∀{t ld:L},t.length<=50000->ld.length<=5->Q (.str<|tx (let l1:=j4 fl n k t ld;hH fl wd (l1++hY k (hW fl wd mo l1 t)))) hp->P 3 t (.v<|.str (tx ld)):=λ{t ld}o hl h=>by
  unfold j4 at h;have gM:∀h1:(35∈fl/\k∈(ak "xXbB").cps.toList/\n≠0),Q (.str<|tx (hH fl wd ((ld++([48]++[k]))++hY k (hW fl wd mo (ld++([48]++[k])) t)))) hp->P 4 t (.v<|.str (tx (ld++([48]++[k])))):=λh1 h=>s4 o (by refine Z aN ?_;show _+2<=_;exact g (dC ‹_› _)<|dk U) h
  refine Ok.at p U<|aq.jZ (e:=35) U (λq=>?_) λq=>?_
  refine aq.c (e:=111) U (λq2=>?_) λq2=>?_;rw[aa ⟨q,q2⟩]at h;refine Ok.slice (y:=tx t) (lo:=W) (hi:=I 1) U U (by rw[aV];exact g ‹_› (dk U))<|Z (show(I (1:V))=I ((1:J):V)from U) ?_;rw[fZ]
  refine aq.tn (a:=t.take 1) (b:=[48]) U U (λq3=>?_) λq3=>?_;rw[u q3]at h;exact Ok.Af (b:=[48]) U (by show _+1<=_;exact br ‹_› (dk U))<|s4 o (by refine Z aN ?_;show _+1<=_;exact br ‹_› (dk U)) h
  rw[aa q3]at h;exact Ok.Af (b:=[]) U (by show _+0<=_;exact g ‹_› (dk U))<|s4 o (by refine Z aN ?_;show _+0<=_;exact g ‹_› (dk U)) h
  rw[u λz=>q2 z.2]at h;refine Ok.at p U<|aq.jZ (e:=35) U (λY=>?_) λz=>aF q z
  refine aq.rc (λq3=>?_) λq3=>?_;refine aq.qn (λq4=>?_) λq4=>?_;have hc:35∈fl/\k∈(ak "xXbB").cps.toList/\n≠0:=⟨q,jx q3,q4⟩;rw[aa hc]at h;exact Ok.Af (b:=[48]++[k]) (by rw[<-tV];rfl) (by show _+2<=_;exact g (dC ‹_› _)<|dk U)<|gM hc h
  rw[u λz=>z.2.2 q4]at h;exact s4 o (g ‹_› (dk U)) h;rw[u λz=>by have:=i5 z.2.1;rw[q3]at this;exact ft this]at h;exact Z (show ln (tx [k]) (ak "xXbB")=ag from by rw[pB];exact q3)<|s4 o (g ‹_› (dk U)) h
  rw[u λz=>q z.1,u λz=>q z.1]at h;rw[tZ (e:=35) (by kernel_rfl) q];refine Ok.at p U<|aq.jZ (e:=35) U (λz=>aF z q) λY=>?_
  rw[tZ (e:=35) (by kernel_rfl) q];exact s4 o (g ‹_› (dk U)) h
 have s2:∀{t:L},t.length<=50000->Q (.str<|tx (let l1:=j4 fl n k t (kR fl n);hH fl wd (l1++hY k (hW fl wd mo l1 t)))) hp->P 2 t .un:=λ{t}o h=>by
  unfold kR at h;refine aq.d (λq=>?_) λq=>?_;rw[aa q]at h;exact s3 o (ld:=[45]) (by show 1<=5;exact bU _ _) h;rw[u q]at h;refine Ok.at p U<|aq.jZ (e:=43) U (λq2=>?_) λq2=>?_
  rw[aa q2]at h;exact s3 o (ld:=[43]) (by show 1<=5;exact bU _ _) h;rw[u q2]at h;refine Ok.at p U<|aq.jZ (e:=32) U (λq3=>?_) λq3=>?_
  rw[aa q3]at h;exact s3 o (ld:=[32]) (by show 1<=5;exact bU _ _) h;rw[u q3]at h;exact s3 o (ld:=[]) (by show 0<=5;exact bU _ _) h
 have s1:∀{t:L},t.length<=128->Q (.str<|tx (let t:=mK mo n t;let l1:=j4 fl n k t (kR fl n);hH fl wd (l1++hY k (hW fl wd mo l1 t)))) hp->P 1 t .un:=λ{t}o h=>by
  unfold mK at h;clear hn;generalize Ag:mo=afz;induction afz using bL with
  |none=>
   rw[Ag]at p h;refine Ok.at p U ?_;rw[Ag]at s2;have j:=s2 (t:=t) (g ‹_› (dk U)) h;(conv=>whnf);conv at j=>whnf
   exact j
  |some m=>
   obtain⟨m0,m1⟩:=hm m Ag;rw[Ag]at p h s2;dsimp only at h;have lg:¬(m=0/\n=0)->P 1 t .un:=λz=>by
    rw[u z]at h;have go:(m==0)=ag\/((m==0)=B/\(n==0)=ag):=by by_cases q:m=0;exact .inr ⟨beq_iff_eq.mpr q,beq_eq_false_iff_ne.mpr λy=>z ⟨q,y⟩⟩;exact .inl<|beq_eq_false_iff_ne.mpr q
    refine Ok.at p U<|Ok.at p U ?_
    rcases go with q|⟨q,q'⟩
    (conv=>whnf);rw[q];refine Ok.at p U<|Ok.len (by rw[aV];exact g ‹_› (dk U)) ?_
    refine Ok.tW (c:=48) (by rw[aV];exact HU o m0 m1) ?_;rw[aV];exact Ok.cD (by rw[hE];exact g (aY (vK (m:=20000) m1) o)<|dk U)<|s2 (by rw[aN,hE];exact g (aY (vK (m:=20000) m1) o) (dk U)) h
    (conv=>whnf);rw[q];(conv=>whnf);rw[q'];refine Ok.at p U<|Ok.len (by rw[aV];exact g ‹_› (dk U)) ?_
    refine Ok.tW (c:=48) (by rw[aV];exact HU o m0 m1) ?_;rw[aV];exact Ok.cD (by rw[hE];exact g (aY (vK (m:=20000) m1) o)<|dk U)<|s2 (by rw[aN,hE];exact g (aY (vK (m:=20000) m1) o) (dk U)) h
   by_cases z:m=0/\n=0;clear m1 m0;obtain⟨rfl,rfl⟩:=z;rw[aa ⟨U,U⟩]at h;refine Ok.at p U<|Ok.at p U ?_
   exact s2 (t:=[]) (by show 0<=50000;exact bU _ _) h;exact lg z
 refine ba (f:=az 53 2) U U (l:=[("self",.v<|.cell f),("value",.v<|.int n),("kind",.v<|.str (tx [k]))]) U<|Ok.LZ hb ?_
 exact Ok.fn U<|afu t1.1 t1.2 hn (s1 (Ae _ _) h)
noncomputable def nb(n:V):Bool:=(decide (0<=n)&&decide (n<55296))||(decide (57344<=n)&&decide (n<1114112))
def j5(R:Rc):dL L:=match R.s with
 |none=>if nb (R.num.getD 0)then .ok [(R.num.getD 0).toNat]else .error ("ArgumentError","invalid character")
 |some .str=>.ok<|R.dp.cps.toList.take 1
 |some s=>.error ("TypeError",lm s)
def Ok.chr(h:0<=n/\n<1114112)(q:Q (.str<|tx [n.toNat]) s):Ok (cH O a (.blt "chr") [.int n]) Q E s:=by have e:cH O a (.blt "chr") [.int n]=λs=>if 0<=n/\n<1114112 then .ok (.str ⟨#[n.toNat]⟩) s else .C:=U;refine Z e ?_;unfold Ok;dsimp only;exact Z (aa h) q
def afA{R:Rc}(j:Cx T r f)(m:WI w T)(p:bI T R)(h:fe (j5 R) (λt=>Q (.str<|tx t) (b::wO w::r.set f (fo y P i o))) b T E):Cl (aj O<|d+13) "Formatter.sign" [.cell<|f+2,R.v] (b::wO w::r.set f (fo y P i o)) Q E:=by
 have hk:(b::wO w::r.set f (fo y P i o))[f+2]?=I (fo y P i o):=j.get;unfold bI at p;unfold j5 at h;generalize e:R.s=ze;induction ze using bL with
 |some s=>
  rw[e]at p h;refine ba (f:=az 54 4) U U (l:=[("self",.v<|.cell (f+2)),("value",.v R.v)]) U<|Ok.fx (by exact Z gc (Z p.st U)) (p.Mh (j.ext _) ?_)
  refine Ok.at hk U<|Ok.fx (Ab U p.st) (p.Mj (j.ext _) (m.ext (j.ext _)) (λq=>?_) λq=>?_)
  subst q;refine Ok.slice (lo:=W) (hi:=I 1) U U (g p.len.1<|by lk)<|Z (jq R.dp) (Z (show(I (1:V))=I ((1:J):V)from U) ?_);rw[fZ]
  exact h;intro x S L M N e;clear p;cases s<;>first|exact aF U q|exact h x S L M ((j.ext _).trans N) e
 |none=>
  rw[e]at p h;refine cC p λn h1 h2 zz=>?_;rw[h2]at h;refine Z h1 ?_;have h:fe (if nb n=B then .ok [n.toNat]else .error ("ArgumentError","invalid character")) (λt=>Q (.str<|tx t) (b::wO w::r.set f (fo y P i o))) b T E:=h;refine ba (f:=az 54 4) U U (l:=[("self",.v<|.cell (f+2)),("value",.v<|.int n)]) U ?_;have z:∀q:bf,nb n=q->bu O (aj O<|d+12) (λx s=>E x s.hp) 98 ((az 54 4).body.drop 2) (bB Q) ⟨[("self",.v<|.cell (f+2)),("value",.v<|.int n),("is_known",.v<|.bool q)],b::wO w::r.set f (fo y P i o),(az 54 4).sc⟩:=λq X=>by
   rw[X]at h;clear p;induction q with
   |true=>
    have kn:0<=n/\n<1114112:=by unfold nb at X;simp only [om,cN,il]at X;exact X.elim (λq=>⟨q.1,pQ q.2<|by lk⟩) λq=>⟨bR (by lk) q.1,q.2⟩
    exact Ok.chr kn h
   |false=>
    refine Ok.at hk U ?_;(conv=>whnf);refine Ok.fn U ?_;refine gv pz (m.ext (j.ext _)) λx S L M N e=>?_
    exact h x S L M ((j.ext _).trans N) e
  have Y:∀a b c d:bf,decide (0<=n)=a->decide (n<55296)=b->decide (57344<=n)=c->decide (n<1114112)=d->nb n=(a&&b||c&&d):=λa b c d h1 h2 h3 h4=>by unfold nb;exact Z h1<|Z h2 (Z h3 (Z h4 U))
  clear e h p;generalize A:decide (0<=n)=DF;induction DF using dN with
  |false=>
   have F:decide (57344<=n)=false:=by have:=Pw A;exact dx λk=>this (bR (dk U) k)
   (conv=>whnf);refine Z A ?_;(conv=>whnf);exact Z F<|z ag (Y _ _ _ _ A U F U)
  |true=>
   clear h;generalize G:decide (n<55296)=D6;induction D6 using dN with
   |true=>(conv=>whnf);refine Z A ?_;(conv=>whnf);exact Z G<|z B (by exact Z (Y _ _ _ _ A G U U) U)
   |false=>
    generalize F:decide (57344<=n)=ze3;induction ze3 using dN with
    |false=>(conv=>whnf);refine Z A ?_;(conv=>whnf);refine Z G ?_;(conv=>whnf);exact Z F<|z ag (Y _ _ _ _ A G F U)
    |true=>(conv=>whnf);refine Z A ?_;(conv=>whnf);refine Z G ?_;(conv=>whnf);exact Z F<|z _ (Y _ _ _ _ A G F U)
def rd(R:Rc):dL Int:=match R.num with
 |some n=>.ok n
 |none=>match R.s with
  |some s=>.error (ic s,im s R.sh)|none=>.ok 0
noncomputable def f6(c:J):Bool:=decide (c∈(ak "%\n\x00").cps.toList)
def hJ(c:J):Bool:=match bi (hV<|gC 47) (.str<|tx [c])with|some (I _)=>B|_=>ag
noncomputable def nR(a:al V)(t:L):L:=match a with|some m=>t.take m.toNat|none=>t
def fj(d:L)(f:J)(h:al V)(c:J)(a:D Rc):dL (L×D Rc):=
 if f6 c then .error ("ArgumentError","invalid format character - %")
 else if hJ c then match a with
  |[]=>.error pC
  |R::a=>match rd R with
   |.error e=>.error e|.ok n=>.ok (Eo d f h n c,a)
 else if c=99 then match a with
  |[]=>.error pC
  |R::a=>match j5 R with
   |.error e=>.error e|.ok t=>.ok (hH d f t,a)
 else if decide (c∈(ak "sp").cps.toList)=ag then .error ("ArgumentError",ak "malformed format string - %"++tx [c])
 else match a with|[]=>.error pC|R::a=>.ok (hH d f<|nR h (if c=115 then R.dp.cps.toList else R.sh.cps.toList),a)
def Es(h:f<r.length):r.set f o++[x]=(r++[x]).set f o:=by rw[List.set_append_left _ _ h]
def Et(h:f<r.length):((r++[x]).set f o).set r.length y=(r++[y]).set f o:=by
 refine ax (Es h)<|ax (Es h) (Z (List.set_append_right _ _ (by rw[FC];exact aA _)) (Z FC ?_));rw[N8]
 rfl
def wY(h:f<r.length):((r++[x]).set f o)[r.length]?=I x:=Z (rR<|dP h) fB
def Cx.app(a:Cx c r f)(x:aQ):Cx c (r++[x]) f:=⟨a.x.trans<|aT.app r _,a.l,by exact Z aN<|Nat.lt_add_right _ a.lt⟩
structure j6(r0:D aQ)(f:J)(row:L)(Rs:D Rc)(l:L)(vs:D Rc)(r':D aQ):Prop where
 x:aT r0 r'
 k:∃i u,r'[f]?=I (fo row Rs i u)/\row.drop i=l/\Rs.drop u=vs
def j6.ext(F:j6 h f c j l m n)(x:aT n d):j6 h f c j l m d:=⟨F.x.trans x,d9 F.k λi a k e=>⟨i,a,x _ _ k,e⟩⟩
def My(k:J):2<=base k/\base k<=16:=by unfold base;split;lk;split;lk;split<;>lk
def Mz:hV (gC 47)=[100,105,117,120,88,111,98,66].map λk=>(CV.str<|tx [k],CV.int<|base k):=by kernel_rfl
noncomputable def Eu(c:J):∀a:D J,bi (a.map λk=>(CV.str<|tx [k],CV.int<|base k)) (.str<|tx [c])=I (if c∈a then I (.int<|base c)else W)
 |[]=>rfl|k::a=>by
  refine Z fq<|Z (tO (Eu c a)) ?_
  by_cases q:k=c;subst q;exact Z (aa U)<|Z (aa (dj ..)) U
  refine Z (u λz=>q (rQ<|jx (lE.symm.trans (beq_iff_eq.mpr z))).1) ?_;by_cases z:c∈a;exact Z (aa z)<|Z (aa (eW _ z)) U
  exact Z (u z)<|Z (u λy=>(List.mem_cons.mp y).elim (λy=>q y.symm) z) U
def MA:bi (hV<|gC 47) (.str<|tx [c])=I (if hJ c then I (.int<|base c)else W):=by unfold hJ;refine Z Mz ?_;rw[Eu];split<;>rfl
def Ah(b k:J):fL b k 0=[]:=by cases k<;>rfl
def afC:∀d:J,d<10->(Nat.digitChar d).toNat=bQ d:=dk U
def MB(h:n<2^(k+1)):n/10<2^k:=Bk<|cM h (g (bg (xX (2^k) 2)) (xB _ (by lk)))
def afD:∀(k a n:J)(c:D Char),1<=n->n<2^k->k<=a->(PA 10 a n c).map PB=(fL 10 k n).reverse++c.map Char.toNat:=by
 intro k;induction k with
 |zero=>exactλa n c h1 d=>aF d<|xL h1
 |succ k ih=>
  intro a n c h1 d hf;obtain⟨a,rfl⟩:∃x,a=x+1:=⟨a -1,by exact HZ hf⟩;have hd:=afC (n%10)<|xy _ (dk U)
  unfold PA;show _=(if n=0 then[]else bQ (n%10)::fL 10 k (n/10)).reverse++_;refine Z (u<|show¬n=0 by exact jB ‹_›) ?_;by_cases q:n/10=0;refine Z (aa q)<|Z q ?_;rewrite[Ah];exact Z fq<|Z hd U
  refine Z (u q)<|Z (ih a (n/10) _ (PC q) (MB d) (j7 ‹_›)) (Z fq (Z hd (Z ur ?_)));rw[db]
  rfl
def alG(h:n<2^128):(Nat.toDigits 10 n).map PB=cI n 10:=by
 unfold cI;split;clear h;rename_i q;subst q;rfl;rename_i q;have hf:∀a,n<a->(PA 10 a n []).map PB=(fL 10 128 n).reverse:=by
  intro a d;have:∃k,n<2^k/\k<=a/\k<=128:=by
   rcases j8 a 128 with z|z
   exact⟨a,g9 d Nat.lt_two_pow_self,aA _,cG z⟩;exact⟨128,h,z,aA _⟩
  refine cC this λk k1 k2 k3=>Z (afD k a n [] (PC q) k1 k2)<|Z O1 ?_;rw[eN]
  congr 1
  have c:∀(k j n:J),n<2^k->k<=j->fL 10 k n=fL 10 j n:=by
   intro k;clear h;induction k with
   |zero=>intro j n e _;have:n=0:=ru e;subst this;rw[Ah,Ah]|succ k ih=>intro j n e hj;obtain⟨j,rfl⟩:∃x,j=x+1:=⟨j -1,by exact HZ hj⟩;show(if n=0 then[]else bQ (n%10)::fL 10 k (n/10))=if n=0 then[]else bQ (n%10)::fL 10 j (n/10);split;rfl;exact Z (ih j (n/10) (MB e)<|j7 ‹_›) U
  exact c k 128 n k1 k3
 exact hf _<|gb n
def wZ(n:V):L:=if n<0 then 45::cI n.natAbs 10 else cI n.natAbs 10
def MC(n:J)(h:n<2^128):ak (ak7 n)=tx (cI n 10):=by rw[PD,<-alG h];simp
def MD(h:n.natAbs<2^128):ak (toString n)=tx (wZ n):=by
 unfold wZ;induction n with
 |ofNat m=>exact Z (u<|by simp)<|MC m h
 |negSucc m=>
  refine Z (aa<|N5 m) ?_;have e:toString (ak8 m)="-"++ak7 (m+1):=U;have h':m+1<2^128:=h;have e2:(ak8 m).natAbs=m+1:=U;refine Z e<|Z e2 ?_;rewrite[PD];refine Z String.toList_append<|Z on ?_
  have r:=MC (m+1) h';rw[PD]at r;have r:=Ej r;exact Z r U
def afE(n:V):(wZ n).length<=129:=by
 have:=Ae n.natAbs 10;unfold wZ;split;exact Z bw<|br ‹_› (dk U)
 exact g ‹_› (dk U)
end
section
open PySem
set_option tactic.hygienic true
def Ok.inD(c:d=.dA a)(h:bi a (.str x)=I q)(p:Q (.bool q.isSome) s):Ok (iR .In (.str x) d) Q E s:=by
 subst c;have e:yp s .In (.str x) (.dA a)=I q.isSome:=by show(if i9 (.str x)then(bi a<|.str x).map aiG else W)=_;exact Z (aa<|show i9 (.str x)=B from U)<|Z h U
 unfold Ok iR;exact Z e p
def afF:gC 47=.dA (hV<|gC 47):=by kernel_rfl
def aq.afG{c:J}(h:decide (c∈y.cps.toList)=ag->A)(d:decide (c∈y.cps.toList)=B->a):aq (!ln (tx [c]) y) A a:=by rw[pB];cases q:decide (c∈y.cps.toList);exact h q;exact d q
def Ew{R:Rc}(e:j5 R=.ok t):t.length<=1:=by unfold j5 at e;generalize R.s=s at e;cases s;dsimp only at e;split at e;cases e;exact aA _;cases e;rename_i s;cases s<;>first|(cases e;exact List.length_take_le _ _)|cases e
def afH{R:Rc}(h:bI f R)(x:aT f r)(a:WI w f)(q:fe (rd R) (λn=>n.natAbs<2^128->Q (.int n) (b::wO w::r)) b f E):Cl (aj O<|d+12) "integer_for" [.cell 1,R.v] (b::wO w::r) Q E:=by
 unfold bI at h;unfold rd at q;generalize e:R.s=i;induction i using bL with
 |none=>rw[e]at h q;refine qb h λn j k m m o=>?_;rw[k]at q;exact Z j<|Cl.eq (nM:=b::wO w::r) (v:=.int n) (by kernel_rfl) (q (g9 o (by lk)))
 |some s=>
  rw[e]at h q;refine h.Mi x (a.ext x) (λn c=>?_) λc=>?_;rw[c]at q;exact q<|g9 (h.num n c).1 (by lk)
  rw[c]at q;exact fC.ext q x
def Ok.Ai(h:n.natAbs<2^128)(q:Q (.str<|ak (toString n)) s):Ok (cH O c (.typ "str") [.int n]) Q E s:=by have e:cH O c (.typ "str") [.int n]=λs=>if n.natAbs.log2<1900 then .ok (.str<|ak (toString n)) s else .C:=U;refine Z e ?_;unfold Ok;dsimp only;exact Z (aa<|br (px h) (by lk)) q
def ME(c:n.natAbs<2^128)(h:Q (.str<|ak (toString n)) e):Cl (aj O<|d+2) "show" [.int n] e Q E:=by
 refine ba (f:=ae 34) (by kernel_rfl) (by kernel_rfl) (l:=[("value",.v<|.int n),("deep",.v<|.int 6),("room",.v .none)]) (by kernel_rfl)<|Ok.Ai c ?_
 exact h
def afI(c:n.natAbs<2^128)(h:Q (.str<|ak (toString n)) e):Cl (aj O<|d+3) "display" [.int n] e Q E:=by
 refine ba (f:=ae 52) (by kernel_rfl) (by kernel_rfl) (l:=[("value",.v<|.int n)]) (by kernel_rfl)<|Ok.fn U (ME c ?_)
 exact h
def afJ{R:Rc}(h:bI c R)(x:aT c r)(q:∀a,aT r a->Q (.str R.dp) (b::wO w::a)):Cl (aj O<|d+14) "display" [R.v] (b::wO w::r) Q E:=by
 unfold bI at h;generalize e:R.s=f;induction f using bL with
 |none=>rw[e]at h;refine qb h λn i m j o k=>Z i ?_;rw[j]at q;exact afI (g9 k<|by lk)<|q _ (aT.refl _)
 |some s=>rw[e]at h;exact h.Mk (d:=d+2) x q
def afK{R:Rc}(h:bI c R)(x:aT c r)(q:∀a,aT r a->Q (.str R.sh) (b::wO w::a)):Cl (aj O<|d+14) "show" [R.v] (b::wO w::r) Q E:=by
 unfold bI at h;generalize e:R.s=f;induction f using bL with
 |none=>rw[e]at h;refine qb h λn i m o j k=>Z i ?_;rw[j]at q;exact ME (g9 k<|by lk)<|q _ (aT.refl _)
 |some s=>rw[e]at h;exact h.wU (d:=d+2) x q
def w8{R:Rc}(h:bI k R):R.dp.cps.toList.length<=300/\R.sh.cps.toList.length<=300:=by
 unfold bI at h;generalize e:R.s=c;induction c using bL with
 |none=>
  rw[e]at h;refine qb h λn m o d f i=>?_;have a:=afE n;have j:n.natAbs<2^128:=g9 i<|by lk
  exact Z d<|Z f (Z (MD j) (⟨g a (by lk),g a (by lk)⟩))
 |some s=>rw[e]at h;have:=h.len;unfold ai3 at this;exact Z xU<|Z xU (⟨g this.1 (by lk),g this.2 (by lk)⟩)
def MF(c:bj a=B):[a].all bj=true:=by exact Z gc<|Z c U
abbrev t4(f a:J)(c:J)(d:SV):D (H×SV):=[("self",.v<|.cell f),("form",.v<|.cell a),("letter",.v<|.str (tx [c])),("most",d),("told",.un)]
def Ex(a:Cx r0 r f)(j:WI w r0)(N:∀R∈S,bI r0 R)(hn:S.length<=1000)(hw:wd<=20000)(hm:∀m,mo=I m->0<=m/\m<=20000)(hi:A.drop i=l)(hu:S.drop k=vs)
 (h:fe (fj fl wd mo c vs) (λx=>∀r',j6 r0 f A S l x.2 r'->Q (.str<|tx x.1) (b::wO w::r')) b r0 E):
 bu O (aj O<|d+14) (λx s=>E x s.hp) 94 ((az 54 5).body.drop 6) (bB Q) ⟨t4 (f+2) (r.length+2) c mv,b::wO w::(r++[fc fl wd mo]).set f (fo A S i k),(az 54 5).sc⟩:=by
 have C1:=a.app<|fc fl wd mo
 have hk:∀i k,(b::wO w::(r++[fc fl wd mo]).set f (fo A S i k))[f+2]?=I (fo A S i k):=λY Y=>C1.get;have hg:∀i k,(b::wO w::(r++[fc fl wd mo]).set f (fo A S i k))[r.length+2]?=I (fc fl wd mo):=λY Y=>wY a.lt;have bad:∀{m:H}{Q':cT}{k:J},fC b r0 "ArgumentError" m E->Cl (aj O<|d+14) "World.fail" [.cell 1,.str "ArgumentError",.str m] (b::wO w::(r++[fc fl wd mo]).set f (fo A S i k)) Q' E:=λh=>gv (d:=d+3) pz (j.ext<|C1.ext _) λx w' r' W' X' e=>h x w' r' W' ((C1.ext _).trans X') e
 have fin:∀{v:Rc}{G:D Rc},vs=v::G->j6 r0 f A S l G ((r++[fc fl wd mo]).set f<|fo A S i (k+1)):=λe=>⟨C1.ext _,i,k+1,C1.get,hi,(iE<|hu.trans e).2.1⟩;have mem:∀{v:Rc}{G:D Rc},vs=v::G->v∈S:=λe=>uU (iE<|hu.trans e).1;unfold fj at h;refine aq.rc (λq=>?_) λq=>?_;have q:f6 c=true:=q;rw[aa q]at h;refine Ok.at (hk i k) (by kernel_rfl) ?_;(conv=>whnf);exact Ok.fn U (bad h)
 have q:f6 c=false:=q;rw[u<|by exact Z q iN]at h;refine Ok.inD afF MA ?_;generalize qn:hJ c=zqn;induction zqn using dN with
 |true=>
  rw[aa qn]at h;have hb:bi (hV<|gC 47) (.str<|tx [c])=I (I<|.int (base c)):=by exact Z MA<|Z qn U
  refine Ok.me (f:=.fn "Format.number") (hg i k) (by kernel_rfl)<|Ok.at (hk i k) (by kernel_rfl) ?_
  refine Ok.me (f:=.fn "Formatter.value") (hk i k) (by kernel_rfl)<|Ok.fn U (wV (vs:=vs) C1 j hn ?_ (λR M=>(N R M).st) hu)
  generalize o:vs=P;induction P using bk with
  |nil=>rw[o]at h;exact h|cons R G=>
   have F:=fin o;have p:=mem o;rw[o]at h;dsimp only at h⊢;refine Ok.fx (Ab U (N R p).st)<|afH (N R p) (C1.ext _) j ?_
   generalize e:rd R=ze;induction ze using ip with
   |error e'=>rw[e]at h;exact h|ok n=>rw[e]at h;exactλMr=>Ok.fn U<|afy (hg i (k+1)) hw hm Mr hb (My c) (h _ F)
 |false=>
  rw[u<|by exact Z qn iN]at h;(conv=>whnf);refine aq.c (e:=99) (by kernel_rfl) (λqc=>?_) λqc=>?_;rw[aa qc]at h;refine Ok.me (f:=.fn "Format.padded") (hg i k) (by kernel_rfl)<|Ok.me (f:=.fn "Formatter.sign") (hk i k) (by kernel_rfl) ?_
  refine Ok.me (f:=.fn "Formatter.value") (hk i k) (by kernel_rfl)<|Ok.fn U (wV (vs:=vs) C1 j hn ?_ (λR M=>(N R M).st) hu)
  generalize o:vs=P;induction P using bk with
  |nil=>rw[o]at h;exact h|cons R G=>
   have F:=fin o;have p:=mem o;rw[o]at h;dsimp only at h⊢;refine Ok.fx (Ab U (N R p).st)<|afA C1 j (N R p) ?_
   generalize e:j5 R=ze;induction ze using ip with
   |error e'=>rw[e]at h;exact h|ok t=>rw[e]at h;have ht:=Ew e;exact Ok.fn U<|wW (hg i (k+1)) hw (g ‹_› (by lk)) (h _ F)
  rw[u qc]at h;refine aq.afG (λqs=>?_) λqs=>?_;rw[aa qs]at h;refine Ok.at (hk i k) (by kernel_rfl) ?_;(conv=>whnf);have p:ak "malformed format string - %"++(tx [c]++(⟨#[]⟩:H))=ak "malformed format string - %"++tx [c]:=by rw[df]
  exact Z p<|Ok.fn U (bad h)
  rw[u<|by exact Z qs (λz=>nomatch z)]at h;have body:∀{T:L}{r':D aQ}{i' u':J}{G:D Rc},T.length<=300->aT ((r++[fc fl wd mo]).set f<|fo A S i' u') r'->j6 r0 f A S l G ((r++[fc fl wd mo]).set f<|fo A S i' u')->(∀r',j6 r0 f A S l G r'->Q (.str<|tx (hH fl wd (nR mo T))) (b::wO w::r'))->
   bu O (aj O<|d+14) (λx s=>E x s.hp) 89 ((az 54 5).body.drop 11) (bB Q) ⟨[("self",.v<|.cell (f+2)),("form",.v<|.cell (r.length+2)),("letter",.v<|.str (tx [c])),("most",mv),("told",.v<|.str (tx T))],b::wO w::r',(az 54 5).sc⟩:=λ{T r' i' u' G}hT X F h=>by
   have t5:(b::wO w::r')[r.length+2]?=I (fc fl wd mo):=X _ _<|wY a.lt
   refine Ok.me (f:=.fn "Format.padded") t5 (by kernel_rfl) ?_;induction mo with
   |none=>
    refine Ok.at t5 (by kernel_rfl)<|Ok.fn U (wW t5 hw (g ‹_› (by lk)) ?_)
    exact h _<|F.ext X
   |some m=>
    refine aI (hm m U) λm0 zz=>Ok.at t5 (by kernel_rfl) ?_;refine Ok.at t5 (by kernel_rfl)<|Ok.slice (y:=tx T) (lo:=W) (hi:=I m) U U (by rw[aV];exact g ‹_› (by lk)) ?_
    refine Z (show(I m)=I ((m.toNat:J):V)from by rw[rA m0]) ?_;rw[fZ];exact Ok.fn U<|wW t5 hw (by rw[lb];exact g (PE _ _) (Int.toNat_le.mpr (bR zz (dk U)))) (h _ (F.ext X))
  refine aq.c (e:=115) (by kernel_rfl) (λq5=>?_) λq5=>?_;refine Ok.me (f:=.fn "Formatter.value") (hk i k) (by kernel_rfl)<|Ok.fn U (wV (vs:=vs) C1 j hn ?_ (λR M=>(N R M).st) hu)
  generalize o:vs=P;induction P using bk with
  |nil=>rw[o]at h;exact h|cons R G=>
   have F:=fin o;have p:=mem o;rw[o]at h;dsimp only at h⊢;rw[aa q5]at h;have hl:=(w8<|N R p).1;refine Ok.fx (MF (N R p).st)<|afJ (N R p) (C1.ext _) λr' X=>?_
   rw[jq R.dp];exact body hl X F h
  refine Ok.me (f:=.fn "Formatter.value") (hk i k) (by kernel_rfl)<|Ok.fn U (wV (vs:=vs) C1 j hn ?_ (λR M=>(N R M).st) hu)
  generalize o:vs=P;induction P using bk with
  |nil=>rw[o]at h;exact h|cons R G=>
   have F:=fin o;have p:=mem o;rw[o]at h;dsimp only at h⊢;rw[u q5]at h;have hl:=(w8<|N R p).2;refine Ok.fx (MF (N R p).st)<|afK (N R p) (C1.ext _) λr' X=>?_
   rw[jq R.sh];exact body hl X F h
end
section
open PySem
noncomputable def dV(c:J):Bool:=decide (c∈(ak "-+ 0#").cps.toList)
noncomputable def mL(a:L)(c:J):L->dL (L×J×L)
 |[]=>if dV c then .error iO else .ok (a,c,[])
 |d::l=>if dV c then mL (a++[c]) d l else .ok (a,c,d::l)
noncomputable def cS{α β:Type}(a:dL α)(f:α->dL β):dL β:=match a with|.error e=>.error e|.ok x=>f x
def fe.and(h:fe (cS a f) P b c E):fe a (λx=>fe (f x) P b c E) b c E:=by cases a<;>exact h
def fe.mono(h:fe a P b d E)(k:∀x,P x->P' x):fe a P' b d E:=by induction a with|error=>exact h|ok x=>exact k x h
noncomputable def mM(a:L)(n:V):L:=if n<0 then a++[45]else a
noncomputable def iF(m:V):al Int:=if m<0 then W else I m
def t6(l:L)(a:dL (L×D Rc)):dL (L×L×D Rc):=cS a λx=>.ok (x.1,l,x.2)
def rf(a:L)(n:V)(c:J)(l:L)(d:D Rc):dL (L×L×D Rc):=
 if c=46 then match l with
  |[]=>.error iO|e::f=>cS (kO e f d) λx=>t6 x.2.2.1<|fj (mM a n) n.natAbs (iF x.1) x.2.1 x.2.2.2
 else t6 l (fj (mM a n) n.natAbs W c d)
def gf(c:J)(l:L)(a:D Rc):dL (L×L×D Rc):=
 if f6 c then .ok (if c=37 then[37]else[37]++[c],l,a)
 else cS (mL [] c l) λx=>cS (kO x.2.1 x.2.2 a) λy=>rf x.1 y.1 y.2.1 y.2.2.1 y.2.2.2
def afM(h:Q .none (a++[fc [] 0 W])):Cl (aj O<|d+1) "Format.__init__" [.cell a.length] (a++[.inst "Format" []]) Q E:=by
 refine ba (f:=az 53 0) U U (l:=[("self",.v<|.cell a.length)]) U<|Ok.ff U (Ok.ff U (Ok.ff U ?_))
 exact h
def Ey:mL fl c l=if dV c then(match l with
 |[]=>.error iO|a::d=>mL (fl++[c]) a d)else .ok (fl,c,l):=by
 cases l<;>rfl
abbrev f7(b:aQ)(w:iY)(r:D aQ)(f:J)(c:L)(d:D Rc)(e:L)(h:V)(j:al V)(i a:J):D aQ:=b::wO w::(r++[fc e h j]).set f (fo c d i a)
def afN(a:Cx y r f)(j:WI w y)(hr:m.length<=900):∀(k:J)(l:L)(i c:J)(n:L),m.drop i=l->l.length<k->n.length+l.length<=1000->
 fe (mL n c l) (λx=>x.1.length<=1001->∀z,m.drop z=x.2.2->F .aO ⟨t4 (f+2) (r.length+2) x.2.1 .un,f7 b w r f m Rs x.1 0 W z A,(az 54 5).sc⟩) b y E->
 Ok (hM (aj O<|d+14) 96 (bW (az 54 5) 2) k) F (λx s=>E x s.hp) ⟨t4 (f+2) (r.length+2) c .un,f7 b w r f m Rs n 0 W i A,(az 54 5).sc⟩:=by
 intro k;induction k with
 |zero=>exactλl i c n o p=>aF p<|n6 _
 |succ k ih=>
  intro l i c n o p t h;rw[Ey]at h;have C1:=a.app<|fc n 0 W
  have C2:=a.app<|fc (n++[c]) 0 W
  have hkk:(f7 b w r f m Rs n 0 W i A)[f+2]?=I (fo m Rs i A):=C1.get;have hg:(f7 b w r f m Rs n 0 W i A)[r.length+2]?=I (fc n 0 W):=wY a.lt;refine Ok.wh<|aq.rc (λq=>?_) λq=>?_
  have q:dV c=true:=q;rw[aa q]at h;refine Ok.at hg U<|Ok.Af (b:=[c]) U (by show _+1<=_;exact Ug t) ?_
  refine Ok.gS hg U ?_;have e:(f7 b w r f m Rs n 0 W i A).set (r.length+2) (fc (n++[c]) 0 W)=f7 b w r f m Rs (n++[c]) 0 W i A:=by show b::wO w::PF _ _ _=_;exact Z (Et a.lt) U
  have v:(f7 b w r f m Rs (n++[c]) 0 W i A)[f+2]?=I (fo m Rs i A):=C2.get;refine Ok.st ⟨t4 (f+2) (r.length+2) c .un,f7 b w r f m Rs (n++[c]) 0 W i A,(az 54 5).sc⟩ (ax e U)<|Ok.me (f:=.fn "Formatter.letter") v U (Ok.fn U (tX (l:=l) (d:=d+2) C2 j (g ‹_› (dk U)) ?_ o))
  induction l with
  |nil=>exact h|cons c' l'=>exact ih l' (i+1) c' (n++[c]) (iE o).2.1 (ux p) (by refine Z aN ?_;rw[bw]at t;show _+1+_<=_;exact TX t) h
  have q:dV c=false:=q;rw[u<|by exact Z q iN]at h;exact h (by show n.length<=1001;exact g (g (cx _ _) ‹_›)<|dk U) i o
def afO(a:Cx Y r f)(j:WI w Y)(hR:∀R∈F,bI Y R)(hr:t.length<=900)(hn:F.length<=1000)(MG:p.length<=1001)(S:n.natAbs<=20000)(hi:t.drop i=l)(hu:F.drop k=vs)
 (h:fe (rf p n c l vs) (λx=>∀M,j6 Y f t F x.2.1 x.2.2 M->Q (.str<|tx x.1) (b::wO w::M)) b Y E):
 bu O (aj O<|d+14) (λx s=>E x s.hp) 96 ((az 54 5).body.drop 4) (bB Q) ⟨t4 (f+2) (r.length+2) c .un,f7 b w r f t F p n W i k,(az 54 5).sc⟩:=by
 have P:∀p n G i k,(f7 b w r f t F p n G i k)[r.length+2]?=I (fc p n G):=λp n G i k=>wY a.lt;have hk:∀p n G i k,(f7 b w r f t F p n G i k)[f+2]?=I (fo t F i k):=λp n G i k=>(a.app _).get;have N:∀p n G T n' X i k,(f7 b w r f t F p n G i k).set (r.length+2) (fc T n' X)=b::wO w::(r++[fc T n' X]).set f (fo t F i k):=λp n G T n' X i k=>by show b::wO w::PF _ _ _=_;rw[Et a.lt]
 have s5:∀{p:L}{A:J},A<=20000->(fe (if c=46 then match l with
  |[]=>.error iO|c3::l3=>cS (kO c3 l3 vs) λx=>t6 x.2.2.1 (fj p A (iF x.1) x.2.1 x.2.2.2)else t6 l (fj p A W c vs)) (λx=>∀M,j6 Y f t F x.2.1 x.2.2 M->Q (.str<|tx x.1) (b::wO w::M)) b Y E)->
   bu O (aj O<|d+14) (λx s=>E x s.hp) 95 ((az 54 5).body.drop 5) (bB Q) ⟨t4 (f+2) (r.length+2) c .un,f7 b w r f t F p A W i k,(az 54 5).sc⟩:=λ{p A}S h=>by
  refine aq.c (e:=46) U (λq=>?_) λq=>?_;rw[aa q]at h;refine Ok.me (f:=.fn "Formatter.count") (hk p A W i k) U<|Ok.me (f:=.fn "Formatter.letter") (hk p A W i k) U (Ok.fn U (tX (l:=l) (d:=d+2) (a.app _) j (g ‹_› (dk U)) ?_ hi))
  generalize hl:l=zhl;induction zhl using bk with
  |nil=>rw[hl]at h;exact h|cons c3 l3=>
   rw[hl]at h hi;refine Ok.fn U<|Mq (a.app _) j hR hr hn (iE hi).2.1 hu (h.and.mono λx h=>λhx i' u' Ad MH=>aq.d (λz=>?_) λz=>?_)
   rw[show iF x.1=W from aa z]at h;refine Ok.gS (P p A W i' u') U ?_;have o:=Ex (d:=d) (mv:=.v<|.int x.1) (mo:=W) a j hR hn S (λm q=>aD q) Ad MH<|h.and.mono λy h=>h
   rw[<-N p A W p A W i' u']at o;exact o;rw[show iF x.1=I x.1 from u z]at h;refine Ok.gS (P p A W i' u') U ?_;have o:=Ex (d:=d) (mv:=.v<|.int x.1) (mo:=I x.1) a j hR hn S (λm q=>by obtain rfl:=aK q;exact⟨Int.not_lt.mp z,(yL hx).2⟩) Ad MH<|h.and.mono λy h=>h
   exact(N p A W p A (I x.1) i' u')▸o
  rw[u q]at h;exact Ex a j hR hn S (λm q=>aD q) hi hu<|h.and.mono λy h=>h
 unfold rf at h;refine Ok.at (P p n W i k) U<|aq.d (λz=>?_) λz=>?_
 rw[show mM p n=p++[45]from aa z]at h;refine Ok.at (P p n W i k) U<|Ok.cD (b:=[45]) (by show _+1<=_;exact br ‹_› (dk U)) ?_
 refine Ok.at (P p n W i k) U<|Ok.gS (P p n W i k) U ?_
 (conv=>whnf);have h1:=P (p++[45]) n W i k;unfold f7 at h1;rw[<-N p n W (p++[45]) n W i k]at h1;refine Ok.gS h1 U ?_;have e:-n=(n.natAbs:V):=(Int.ofNat_natAbs_of_nonpos<|jz z).symm;have o:=s5 S h;rw[<-e]at o;unfold f7 at o;rw[<-N (p++[45]) n W (p++[45]) (-n) W i k]at o;unfold f7 at o;exact(N p n W (p++[45]) n W i k)▸o;have e:n=(n.natAbs:V):=(Int.natAbs_of_nonneg<|Int.not_lt.mp z).symm;rw[show mM p n=p from u z]at h;have o:=s5 S h;exact e▸o
def afQ(a:Cx t r f)(j:WI w t)(hR:∀R∈p,bI t R)(T:o.length<=900)(hn:p.length<=1000)
 (h:match l with
  |[]=>fC b t iO.1 iO.2 E|c::l=>fe (gf c l vs) (λx=>∀r',j6 t f o p x.2.1 x.2.2 r'->Q (.str<|tx x.1) (b::wO w::r')) b t E)(hi:o.drop i=l)(hu:p.drop k=vs):
 Cl (aj O<|d+15) "Formatter.piece" [.cell<|f+2] (b::wO w::r.set f (fo o p i k)) Q E:=by
 have hk:∀A n G i k,(f7 b w r f o p A n G i k)[f+2]?=I (fo o p i k):=λA n G i k=>(a.app _).get;have hg:∀A n G i k,(f7 b w r f o p A n G i k)[r.length+2]?=I (fc A n G):=λA n G i k=>wY a.lt;refine ba (f:=az 54 5) U U (l:=[("self",.v<|.cell (f+2))]) U<|Ok.new (q:="Format.__init__") U (eX U) U (afM ⟨U,?_⟩)
 have e0:(b::wO w::r.set f (fo o p i k))++[fc [] 0 W]=f7 b w r f o p [] 0 W i k:=by show b::wO w::(r.set f (fo o p i k)++[fc [] 0 W])=_;exact Z (Es a.lt) U
 have el:(b::wO w::r.set f (fo o p i k)).length=r.length+2:=by simp
 (conv=>whnf);refine Z el<|Ok.st ⟨[("self",.v (.cell (f+2))),("form",.un),("letter",.un),("most",.un),("told",.un)],f7 b w r f o p [] 0 W i k,(az 54 5).sc⟩ (by exact ax e0 U) ?_
 refine Ok.me (f:=.fn "Formatter.letter") (hk [] 0 W i k) U<|Ok.fn U (tX (l:=l) (d:=d+2) (a.app _) j (g ‹_› (dk U)) ?_ hi)
 induction l with
 |nil=>exact h|cons c X=>
  have s:=(iE hi).2.1;have P:X.length<1000:=ax s<|Z i8 (br (g (g' _ _) T) (by lk))
  dsimp only at h⊢;unfold gf at h;refine aq.rc (λq=>?_) λq=>?_;have q:f6 c=true:=q;rw[aa q]at h;have F:j6 t f o p X vs ((r++[fc [] 0 W]).set f<|fo o p (i+1) k):=⟨(a.app _).ext _,i+1,k,(a.app _).get,s,hu⟩;refine aq.c (e:=37) U (λz=>?_) λz=>?_;rw[aa z]at h;exact h _ F;rw[u z]at h;exact h _ F;have q:f6 c=false:=q;rw[u<|by exact Z q iN]at h;refine afN (d:=d) (A:=k) (Rs:=p) a j T 1000 X (i+1) c [] s P (by show 0+_<=_;exact TK P)<|h.and.mono λx h=>λhx i' Y=>Ok.me (f:=.fn "Formatter.count") (hk x.1 0 W i' k) U (Ok.fn U (Mq (a.app _) j hR T hn Y hu (h.and.mono λy h=>?_)))
  refineλhy S L M N=>Ok.gS (hg x.1 0 W S L) U ?_;have hs:(f7 b w r f o p x.1 0 W S L).set (r.length+2) (fc x.1 y.1 W)=f7 b w r f o p x.1 y.1 W S L:=by show b::wO w::PF _ _ _=_;exact Z (Et a.lt) U
  have m:=afO (d:=d) a j hR T hn hx hy M N h;exact hs▸m
def Ez(c:L)(a:J)(t:L):(hH c a t).length<=a+t.length:=by
 refine mu (P:=λl:L=>l.length<=a+t.length) (Z aN<|Z hE ?_)<|Z aN (Z hE ?_)
 exact g (dO (g' _ _) _)<|bg (lN _ _)
 exact dC (g' _ _) _
def MI(d:c<=20000)(f:∀m,mo=I m->m<=20000):(Eo fl c mo n k).length<=300000:=by
 have h:=Ae n.natAbs<|base k
 have i:(mK mo n<|cI n.natAbs (base k)).length<=20200:=by
  unfold mK;induction mo with
  |none=>dsimp only;exact g ‹_› (dk U)|some m=>have:=f m U;dsimp only;split;exact dW _;exact Z aN<|Z hE (g (aY (show Fh _<=20000 from Int.toNat_le.mpr (bR (n5 _ (dX _)) this)) h) (by lk))
 have e:∀a:L,(hW fl c mo a<|mK mo n (cI n.natAbs (base k))).length<=40300:=by
  intro a;unfold hW;split;exact Z aN<|Z hE (g (aY (g yM d) i) (by lk))
  exact g ‹_› (dk U)
 have j:∀a:L,(hY k<|hW fl c mo a (mK mo n (cI n.natAbs (base k)))).length<=130000:=λa=>mu (P:=λl:L=>l.length<=130000) (g (Ep _)<|g (d7 3 (e a)) (by lk))<|g (e a) (by lk)
 have o:∀t:L,(j4 fl n k t<|kR fl n).length<=10:=by
  intro t;have:(kR fl n).length<=1:=by unfold kR;split;exact aA _;split;exact aA _;split;exact aA _;exact dW _
  unfold j4;split;refine Z aN ?_;split;show _+0<=_;exact g this<|by lk
  show _+1<=_;exact br this<|by lk
  split;refine Z aN ?_;show _+2<=_;exact g (dC this _)<|by lk
  exact g this<|by lk
 exact g (Ez _ _ _)<|Z aN (g (aY d (aY (o _) (j _))) (by lk))
def Aj(h:kO c l a=.ok x):x.1.natAbs<=20000/\∃k,x.2.2.2=a.drop k:=by unfold kO at h;split at h;split at h;exact cK h;split at h;exact cK h;split at h;exact cK h;rename_i z;split at h;exact cK h;obtain rfl:=dQ h;exact⟨Nat.not_lt.mp z,1,U⟩;split at h;exact cK h;rename_i e;obtain rfl:=dQ h;exact⟨Mp (dW _) e,0,U⟩
def MJ(a:∀R∈n,bI r R)(d:o<=20000)(f:∀m,j=I m->m<=20000)(h:fj fl o j c n=.ok x):x.1.length<=300000:=by
 unfold fj at h;split at h;exact cK h;split at h;split at h;exact cK h;split at h;exact cK h;clear a;obtain rfl:=dQ h;exact MI d f;split at h;split at h;exact cK h;split at h;exact cK h;rename_i e;clear f a;obtain rfl:=dQ h;have:=Ew e;exact g (Ez _ _ _)<|g (aY ‹_› ‹_›) (dk U)
 split at h;exact cK h;split at h;exact cK h;rename_i R p;clear f;obtain rfl:=dQ h;have k:=w8<|a _ (dj ..)
 refine g (Ez _ _ _) ?_;have i:∀t:L,(nR j t).length<=t.length:=λt=>by
  unfold nR;split;exact Z lb<|pP _ _
  exact aA _
 have:=i<|if c=115 then R.dp.cps.toList else R.sh.cps.toList
 split at this<;>(rename_i q;simp only [q,Ga,FN]at this⊢;first|exact g (aY d<|g this k.1) (by lk)|exact g (aY d<|g this k.2)<|by lk)
def jr(h:cS a f=.ok y):∃x,a=.ok x/\f x=.ok y:=by
 induction a with
 |error=>cases h
 |ok x=>exact⟨x,U,h⟩
def MK(o:∀R∈f,bI r0 R)(h:gf c l f=.ok x):x.1.length<=300000:=by
 have i:∀k,∀R∈f.drop k,bI r0 R:=λk R p=>o R<|Bl p
 unfold gf at h;split at h;obtain rfl:=dQ h;dsimp only;split;show 1<=_;exact bU _ _;show 2<=_;exact bU _ _;refine av (jr h) λa w h=>av (jr h) λy q h=>?_;obtain⟨j,k,n⟩:=Aj q;unfold rf at h;split at h;split at h;exact cK h;refine av (jr h) λz r h=>?_;obtain⟨s,b,t⟩:=Aj r;refine av (jr h) λv d h=>?_;obtain rfl:=dQ h;rw[t,n,FQ]at d;exact MJ (i _) j (λm e=>by unfold iF at e;split at e<;>cases e;exact(yL s).2) d;refine av (jr h) λv d h=>?_;obtain rfl:=dQ h;rw[n]at d;exact MJ (i _) j (λm e=>aD e) d
noncomputable def lg:Er:=("ArgumentError","argument too big")
noncomputable def hZ:J->L->D Rc->J->dL L
 |0,_,_,_=>.ok []
 |n+1,l,a,z=>match l with
  |[]=>.ok []
  |c::l=>if c=37 then match l with
   |[]=>.error iO|d::e=>cS (gf d e a) λx=>if z+x.1.length>20000 then .error lg else cS (hZ n x.2.1 x.2.2<|z+x.1.length) λt=>.ok<|x.1++t
   else if z+1>20000 then .error lg else cS (hZ n l a<|z+1) λt=>.ok<|[c]++t
def afR:∀a:D L,pM (ak "") (a.map tx)=tx a.flatten:=by
 intro a;have e:uQ (ak "") (a.map tx)=tx a.flatten:=by
  induction a with
  |nil=>rfl|cons p a ih=>
   induction a with
   |nil=>show tx p=tx (p++[]);rw[eN]|cons p' a=>
    show tx p++ak ""++uQ (ak "") ((p'::a).map tx)=_;refine Z ih<|Z (show tx p++ak ""=tx p from df _) ?_;rw[tV]
    rfl
 exact ax e<|O7 _ _
def afS(a:D L):((a.map tx).map (·.length)).sum=a.flatten.length:=by induction a with|nil=>rfl|cons p a ih=>rw[fq,fq,ak5,ih,Px,aN,aV]
noncomputable def gw:cf->D cf
 |.While _ b _ _=>b|.For _ _ b _ _=>b|_=>[]
abbrev mN(a:D L):D CV:=a.map λp=>.str<|tx p
def Ok.afT(c:c4 s v=I (mN ps))(d:∀a,v≠.tup a)(h:ps.flatten.length<=1000000)(q:Q (.str<|tx ps.flatten) s):Ok (cH O j (.blt "str.join") [.str<|ak "",v]) Q E s:=by
 show Ok (rV (ak "") v) Q E s;have e:mN ps=(ps.map tx).map .str:=by unfold mN;exact Z xY U
 have f:jG v=none:=by
  rcases i:jG v with _|a
  rfl;exact aF (vf i)<|d a
 refine Ok.run (afR ps▸LU f (Z c<|Z e (Ed _)) ?_) q;rewrite[afS];exact Z (show(ak "").length=0 from U)<|g h (dk U)
def Ok.afU(h:ay s.loc x=I (.ol<|xs++[v]))(a:xs.length<100000)(q:Q v s):Ok (fT (.bY x)<|.int (-1)) Q E s:=by
 have e:c4 s (.bY x)=I (xs++[v]):=by unfold c4;dsimp only;exact Z h U
 have c:lf (xs++[v]) (-1)=I v:=by
  unfold lf;refine Z (StrLaws.seqIndex_neg (dk U)<|by rw[aN];show-((_+1:J):V)<=-1;exact Tz) ?_;show(xs++[v])[(-1+((xs++[v]).length:V)).toNat]?=_;have:(-1+((xs++[v]).length:V)).toNat=xs.length:=by rw[aN];show(-1+((_+1:J):V)).toNat=_;exact Ts
  rw[this];exact fB
 exact Ok.run (zY U e c<|by rw[aN];exact a) q
def Ok.nC(e:a+b=n)(h:Q (.int n) s):Ok (iQ .Add (.int a)<|.int b) Q E s:=by subst e;exact h
def afV:∀{l:L}{m c:J},jY m c l=.ok x->x.2.2.length<=l.length:=by
 intro l;induction l with
 |nil=>intro m c h;replace h:(if dg c then _ else _)=_:=h;split at h;exact cK h;obtain rfl:=dQ h;exact aA _
 |cons c' l d=>
  intro m c h;replace h:(if dg c then(if m*10+(c -48)>20000 then _ else _)else _)=_:=h;split at h;split at h;exact cK h;exact uV<|d h
  clear d;obtain rfl:=dQ h;exact aA _
def ML(h:kO c l a=.ok x):x.2.2.1.length<=l.length:=by unfold kO at h;split at h;split at h;exact cK h;split at h;exact cK h;split at h;exact cK h;split at h;exact cK h;obtain rfl:=dQ h;exact bM _;split at h;exact cK h;rename_i e;obtain rfl:=dQ h;exact afV e
def afW:∀{l a:L}{c:J},mL a c l=.ok x->x.2.2.length<=l.length:=by
 intro l;induction l with
 |nil=>intro a c h;rw[show mL a c []=if dV c then .error iO else .ok (a,c,[])from U]at h;by_cases q:dV c=B;rw[aa q]at h;exact cK h;rw[u q]at h;obtain rfl:=dQ h;exact aA _
 |cons d l ih=>
  intro a c h;rw[show mL a c (d::l)=if dV c then mL (a++[c]) d l else .ok (a,c,d::l)from U]at h;by_cases q:dV c=B;rw[aa q]at h;exact uV<|ih h
  clear ih;rw[u q]at h;obtain rfl:=dQ h;exact aA _
def EA(h:fj fl d e c a=.ok x):∃R,a=R::x.2:=by unfold fj at h;split at h;exact cK h;split at h;split at h;exact cK h;split at h;exact cK h;obtain rfl:=dQ h;exact⟨_,U⟩;split at h;split at h;exact cK h;split at h;exact cK h;obtain rfl:=dQ h;exact⟨_,U⟩;split at h;exact cK h;split at h;exact cK h;obtain rfl:=dQ h;exact⟨_,U⟩
def EB(h:gf c l f=.ok x):x.2.1.length<=l.length/\∃n,x.2.2=f.drop n:=by
 have d:∀{R:Rc}{a b:D Rc}{n:J},b=R::a->b=f.drop n->a=f.drop (n+1):=λs t=>by have w:=(t.symm.trans s);exact((iE w).2.1).symm
 unfold gf at h;split at h;obtain rfl:=dQ h;exact⟨aA _,0,U⟩;refine av (jr h) λa A h=>av (jr h) λy m h=>?_;obtain⟨G,k,o⟩:=Aj m;have E:=afW A;have p:=ML m;unfold rf at h;split at h;split at h;exact cK h;rename_i e;refine av (jr h) λz q h=>?_;obtain⟨P,Q,r⟩:=Aj q;have F:=ML q;refine av (jr h) λv i h=>?_;obtain rfl:=dQ h;rw[e,bw]at p;refine aJ (EA i) λR j=>?_;rw[o,FQ]at r;exact⟨by dsimp only;exact g F<|g (cG p) E,_,d j r⟩;refine av (jr h) λv i h=>?_;obtain rfl:=dQ h;exact aJ (EA i) λR j=>⟨by dsimp only;exact g ‹_› ‹_›,_,d j o⟩
def afX{r:D α}(h:r[f]?=I o):r.set f o=r:=by exact aJ (List.getElem?_eq_some_iff.mp h) λa c=>ax c<|List.set_getElem_self ..
abbrev Ak(f:J)(a:D L)(z:J)(c:SV):D (H×SV):=[("self",.v<|.cell f),("found",.ol<|mN a),("size",.v<|.int z),("letter",c)]
def afY(a:WI w P)(hf:P.length<=f)(hR:∀R∈Rs,bI P R)(hr:row.length<=900)(hn:Rs.length<=1000):∀(k:J)(l:L)(vs:D Rc)(A:D L)(lv:SV)(r:D aQ),l.length<k->A.length+l.length<=1000->(∀R∈vs,bI P R)->j6 P f row Rs l vs r->A.flatten.length<=20000->
 fe (hZ k l vs A.flatten.length) (λt=>∀G z lv r',G.flatten=A.flatten++t->G.flatten.length<=20000->aT P r'->F .aO ⟨Ak (f+2) G z lv,b::wO w::r',(az 54 6).sc⟩) b P E->
 Ok (hM (aj O<|d+15) 97 (bW (az 54 6) 1) k) F (λx s=>E x s.hp) ⟨Ak (f+2) A A.flatten.length lv,b::wO w::r,(az 54 6).sc⟩:=by
 intro k;induction k with
 |zero=>exactλl vs A lv r hk=>aF hk<|n6 _
 |succ k ih=>
  refineλl vs A lv r hk hp hv Fi hz h=>fP Fi.k λi j k1 hi hu=>?_;have m:Cx P r f:=⟨Fi.x,hf,(List.getElem?_eq_some_iff.mp k1).1⟩;have er:r.set f (fo row Rs i j)=r:=afX k1;have Al:∀i j,(b::wO w::r.set f (fo row Rs i j))[f+2]?=I (fo row Rs i j):=λY Y=>m.get;refine ax er ?_;(conv at h in hZ _ _ _ _=>whnf);refine Ok.wh<|Ok.at (Al i j) U (Ok.at (Al i j) U ?_)
  refine Ok.len (by rw[aV];exact g ‹_› (dk U))<|aq.d (λq=>?_) λq=>?_
  have ne:l≠[]:=λe=>by rw[e,Py]at hi;rw[aV]at q;exact aF (Int.ofNat_lt.mp q)<|xL hi
  induction l with
  |nil=>exact aF U ne|cons c l=>
   refine cB (iE hi) λzz EC zz=>?_;have step:∀{p:L}{l2:L}{pj:D Rc}{r2:D aQ}{w9:SV},p.length<=300000->l2.length<=l.length->(∀R∈pj,bI P R)->j6 P f row Rs l2 pj r2->fe (if A.flatten.length+p.length>20000 then .error lg else cS (hZ k l2 pj<|A.flatten.length+p.length) λt=>.ok<|p++t) (λt=>
    ∀(G:D L)(z:J)(lv:SV)(r':D aQ),G.flatten=A.flatten++t->G.flatten.length<=20000->aT P r'->F bD.aO ⟨Ak (f+2) G z lv,b::wO w::r',(az 54 6).sc⟩) b P E->
    bu O (aj O<|d+15) (λx s=>E x s.hp) 95 ((gw<|bW (az 54 6) 1).drop 2) (λfl s=>match fl with|.brk=>F .aO s|.ret v=>F (.ret v) s|_=>Ok (hM (aj O<|d+15) 97 (bW (az 54 6) 1) k) F (λx s=>E x s.hp) s) ⟨[("self",.v<|.cell (f+2)),("found",.ol<|mN A++[.str (tx p)]),("size",.v<|.int A.flatten.length),("letter",w9)],b::wO w::r2,(az 54 6).sc⟩:=λ{p l2 pj r2 w9}kE kG wE F2 h=>by
    have hls:(mN A).length<100000:=by rw[b0];rw[bw]at hp;exact Cn hp
    have af0:(A.flatten.length:V)+(tx p).length=((A.flatten.length+p.length:J):V):=by rw[aV];rfl
    refine fP F2.k λi2 u2 k2 hi2 hu2=>?_;have tT:(b::wO w::r2)[f+2]?=I (fo row Rs i2 u2):=k2;refine Ok.afU (xs:=mN A) (v:=.str<|tx p) U hls<|Ok.len (by rw[aV];exact g ‹_› (dk U)) (Ok.nC af0 (aq.d (λz=>?_) λz=>?_))
    rw[aa<|Int.ofNat_lt.mp z]at h;refine Ok.at tT U ?_;(conv=>whnf);refine Ok.fn U ?_;refine gv (d:=d+4) pz (a.ext F2.x) λx w' r' W' X' e=>?_
    exact h x w' r' W' (F2.x.trans X') e;have z':¬A.flatten.length+p.length>20000:=λy=>z<|Int.ofNat_lt.mpr y
    rw[u z']at h;have fl:(A++[p]).flatten=A.flatten++p:=by refine Z List.flatten_append<|Z Px (Z List.flatten_nil ?_);rw[eN]
    have ED:(A++[p]).flatten.length=A.flatten.length+p.length:=Z fl<|Z aN U
    have o:=ih l2 pj (A++[p]) w9 r2 (by rw[bw]at hk;exact br kG<|ux hk) (by refine Z aN ?_;rw[bw]at hp;show _+1+_<=_;exact Uz hp kG) wE F2 (Z ED<|iM ‹_›) (by exact Z ED<|h.and.mono λt h G z lv r' e1 e2 e3=>h G z lv r' (by refine Z e1 (Z fl ?_);rw[db]) e2 e3)
    rw[ED]at o;unfold Ak mN at o;rw[on]at o;exact o
   refine Ok.me (f:=.fn "Formatter.letter") (Al i j) U<|Ok.fn U (tX (l:=c::l) (d:=d+3) m a (g ‹_› (dk U)) ?_ hi)
   dsimp only at h⊢;refine aq.c (e:=37) U (λz=>?_) λz=>?_;rw[aa z]at h;refine Ok.me (f:=.fn "Formatter.piece") (Al (i+1) j) U<|Ok.fn U (afQ (d:=d) (l:=l) m a hR hr hn ?_ EC hu)
   induction l with
   |nil=>exact h|cons c' l'=>
    dsimp only at h⊢;refine cB (iE EC) λj1 j2 j3=>?_;unfold fe cS at h;unfold fe;generalize ep:gf c' l' vs=zep;induction zep using ip with
    |error e=>rw[ep]at h;exact h|ok x=>
     rw[ep]at h;dsimp only at h⊢;intro r2 F2;have hx:=EB ep;have wE:∀R∈x.2.2,bI P R:=λR Ac=>hv R<|by obtain⟨_,n,e⟩:=hx;rw[e]at Ac;exact Bl Ac
     have o:=step (p:=x.1) (w9:=.v<|.str (tx [c])) (MK hv ep) (uV hx.1) wE F2 h;exact Ok.app (xs:=mN A) U (by rw[b0];rw[bw]at hp;exact Cn hp) U o
   rw[u z]at h;have o:=step (p:=[c]) (l2:=l) (pj:=vs) (w9:=.v<|.str (tx [c])) (by show 1<=_;exact bU _ _) (aA _) hv ⟨m.ext _,i+1,j,m.get,EC,hu⟩ h;exact Ok.app (xs:=mN A) U (by rw[b0];rw[bw]at hp;exact Cn hp) U o
  have e:l=[]:=ax hi<|lV (by rw[aV]at q;exact Int.ofNat_le.mp (Int.not_lt.mp q))
  subst e;exact Z er<|h A _ lv r (by rw[eN]) hz Fi.x
end
section
open PySem
set_option tactic.hygienic true
def af2(h:Q .none (c++[fo a e 0 0])):Cl (aj O<|d+1) "Formatter.__init__" [.cell c.length,.cell 1,.str<|tx a,.lst<|e.map (·.v)] (c++[.inst "Formatter" []]) Q E:=by
 refine ba (f:=az 54 0) U U (l:=[("self",.v<|.cell c.length),("world",.v<|.cell 1),("text",.v<|.str (tx a)),("values",.v<|.lst (e.map (·.v)))]) U ?_
 iterate 5
  refine Ok.ff U ?_
 exact h
def af3(a:WI w e)(k:∀R∈i,bI e R)(m:c.length<=900)(n:i.length<=1000)
 (h:fe (hZ 1000 c i 0) (λt=>∀j,aT e j->Q (.str<|tx t) (b::wO w::j)) b e E):
 Cl (aj O<|d+16) "Formatter.whole" [.cell<|e.length+2] (b::wO w::(e++[fo c i 0 0])) Q E:=by
 refine ba (f:=az 54 6) U U (l:=[("self",.v<|.cell (e.length+2))]) U<|afY (d:=d) (f:=e.length) (Rs:=i) (row:=c) a (aA _) k m n 1000 c i [] .un (e++[fo c i 0 0]) (br ‹_› (dk U)) (by show 0+_<=_;exact g (dO m _) (by lk)) k ⟨aT.app _ _,0,0,fB,U,U⟩ (dW _) (fe.mono h λt h o z s j p x r=>Ok.afT (ps:=o) U (λy q=>cO CV.ctorIdx q U) (g ‹_› (dk U)) ?_)
 exact Z p<|h j r
def af4(a:WI w i)(m:∀R∈j,bI i R)(n:c.length<=900)(o:j.length<=1000)
 (h:fe (hZ 1000 c j 0) (λt=>∀k,aT i k->Q (.str<|tx t) (b::wO w::k)) b i E):
 Cl (aj O<|d+17) "filled" [.cell 1,.str<|tx c,.lst<|j.map (·.v)] (b::wO w::i) Q E:=by
 refine ba (f:=ae 55) U U (l:=[("world",.v<|.cell 1),("text",.v<|.str (tx c)),("values",.v<|.lst (j.map (·.v)))]) U<|Ok.new (q:="Formatter.__init__") U (eX U) U (af2 (d:=d+15) ⟨U,(Ok.me (f:=.fn "Formatter.whole") (fB (r:=b::wO w::i)) U (Ok.fn U (af3 (d:=d) a m n o ?_)))⟩)
 exact fe.mono h λt h k e=>h k e
end
section
open PySem
noncomputable def Gl(m:J)(v:CV):Bool:=match v with|.str x=>lc x.length m|_=>ag
def af5(h:Gl m v=B):∃l:L,v=.str (tx l)/\l.length<=m:=by unfold Gl at h;induction v using CV.casesOn with|str x=>exact⟨x.cps.toList,by rw[<-jq],by exact Z xU<|eX h⟩|_=>exact ft h
def Ok.pick(f:0<=i)(j:i<c.length)(n:lc c.length 100000=B)(a:c.all (Gl m)=B)(q:∀l:L,l.length<=m->Q (.str<|tx l) s):Ok (fT (.lst c)<|.int i) Q E s:=by have h:i.toNat<c.length:=yQ f j;exact av (af5<|List.all_eq_true.mp a _ (xZ h)) λl e d=>Ok.kM (k:=i.toNat) (v:=.str<|tx l) (rA f).symm (Z (kZ h)<|Z e U) (eX n)<|q l d
def Ok.Am{i:V}(a:0<=i)(e:i<y.cps.toList.length)(f:lc y.cps.toList.length 100000=B)(q:∀c,c∈y.cps.toList->Q (.str<|tx [c]) s):Ok (fT (.str y)<|.int i) Q E s:=by have d:i.toNat<y.cps.toList.length:=yQ a e;refine Z (jq y) ?_;have:=eX f;exact Ok.idx (k:=i.toNat) (rA a).symm (kZ d) (g this<|by lk)<|q _ (xZ d)
def Ok.MM{w:J->D aQ->Prop}{φ:CV->Prop}(N:J):∀(a:D CV)(k:J)(d:D aQ),k+a.length<=N->w k d->
 (∀x∈a,∃l,jM t x i=I l/\∀k d,k<N->w k d->∀Q':CV->K->Prop,(∀v c,φ v->bj v=B->w (k+1) c->∀f j,Q' v ⟨f,c,j⟩)->vE T cl (λY Y=>bA) n e Q' ⟨l,d,sc⟩)->
 (∀m c,m.length=a.length->(∀v∈m,φ v)->w (k+a.length) c->P m ⟨i,c,p⟩)->Ok (cW (c7 T cl n e t [] sc) a) P E ⟨i,d,p⟩:=by
 intro a;induction a generalizing P with
 |nil=>exactλk d _ q _ h=>h [] d U (uR _) q|cons x a ih=>
  intro k d r q hb h;rw[bw]at r;refine av (hb x<|dj ..) λl e1 e2=>Ok.q9 e1<|e2 k d (Ct r) q _ λv c hv hs s f j=>⟨hs,(ih (k+1) c (Cs r) s (λy o=>hb y (eW _ o)) λm pd h1 h2 h3=>h (v::m) pd (Z bw (Z h1 (Z bw U))) (λy o=>?_) (by refine Z bw ?_;rw[kY,lN 1]at h3;exact h3))⟩
  clear hs;rcases List.mem_cons.mp o with rfl|o
  exact hv;exact h2 y o
def Ok.xa{I:J->K->Prop}(N:J):∀(a:D CV)(k:J)(s:K),k+a.length<=N->I k s->
 (∀x∈a,∀k s,k<N->I k s->∀j:bD->K->Prop,(∀c,I (k+1) c->j .aO c)->vA T d (λY Y=>bA) n t (.v x) (λs=>bu T d (λY Y=>bA) n b j s) s)->
 (∀c,I (k+a.length) c->F .aO c)->Ok (dD (λx=>(dm T d n t<|.v x).bind λY=>cb T d n b) a) F E s:=by
 intro a;induction a with
 |nil=>exactλk s _ e _ h=>h s e|cons x a ih=>intro k s f e hb h;rw[bw]at f;exact Ok.pA<|hb x (dj ..) k s (Ct f) e _ λc i=>ih (k+1) c (Cs f) i (λy hy=>hb y (eW _ hy)) λs2 h2=>h s2 (by refine Z bw ?_;rw[kY,lN 1]at h2;exact h2)
def bX.mono(a:bX c f o)(h:c<=c'):bX c' f o:=⟨GD a.h λd i n j e k m p q r=>⟨d,i,n,j,e,k,m,p,q,by exact bR r<|Int.ofNat_le.mpr h⟩⟩
def MN(a:bX c f b)(s:c<=1000000)(h:∀(l:L)j,l.length<=7->bX (c+1) f j->Q (.str<|tx l) (j::r)):Cl (aj O<|d+2) "_law_size" [.cell 0] (b::r) Q E:=by
 obtain⟨e,t,n,w,rfl,x,y,z,A,F⟩:=id a.h;refine ba (f:=ae 73) U U (l:=[("box",.v<|.cell 0)]) U ?_;cases f;exact Ok.fn U<|cZ a s (dk U) (dk U) λi j k o p=>Ok.pick (m:=7) k o U U λl q=>h l j q p
 exact Ok.fn U<|cZ a s (dk U) (dk U) λi j k o p=>Ok.pick (m:=7) k o U U λl q=>h l j q p
def MO:∀{a:D CV},(∀v∈a,∃c,v=.str (tx [c]))->∃l:L,a=l.map (λc=>.str<|tx [c])/\l.length=a.length:=by
 intro a;induction a with
 |nil=>exactλ_=>⟨[],U,U⟩|cons v a ih=>refineλh=>aJ (h v<|dj ..) λc d=>?_;subst d;exact av (ih λy hy=>h y<|eW _ hy) λl e1 e2=>⟨c::l,by exact Z e1<|Z fq U,by exact Z bw<|Z e2 (Z bw U)⟩
def t7(n:V):(jf n).length=n.toNat:=by unfold jf;rw[b0,Oh]
def EE(h:x∈jf n):∃j,x=.int j:=by unfold jf at h;exact av (List.mem_map.mp h) λj a e=>⟨j,e.symm⟩
def Ok.fS(h:0<=n/\n<1000)(q:Q (.fS n) s):Ok (cH O a (.typ "range") [.int n]) Q E s:=by have e:cH O a (.typ "range") [.int n]=λs=>if 0<=n/\n<1000 then .ok (.fS n) s else .C:=U;refine Z e ?_;unfold Ok;dsimp only;exact Z (aa h) q
def Ok.MP(e:y=tx b)(h:a.length+b.length<=16777216)(q:Q (.str<|tx (a++b)) s):Ok (ej .Add (.str<|tx a)<|.str y) Q E s:=by subst e;exact Ok.cD h q
def af6(e:bX c f b)(y:c<=900000)(h:∀(l:L)m,1<=l.length->l.length<=20->bX (c+8) f m->Q (.str<|tx l) (m::r)):Cl (aj O<|d+3) "_law_place" [.cell 0] (b::r) Q E:=by
 refine ba (f:=ae 74) U U (l:=[("box",.v<|.cell 0)]) U ?_;have X:∀{l:L}{m:aQ},1<=l.length->l.length<=19->bX (c+7) f m->bu O (aj O<|d+2) (λx s=>E x s.hp) 98 ((ae 74).body.drop 2) (bB Q) ⟨[("box",.v<|.cell 0),("front",.v<|.str (tx l))],m::r,(ae 74).sc⟩:=λ{l m}o t e=>by exact Ok.fn U<|cZ e (cA y (dk U)) (dk U) (dk U) λi m F G z=>Ok.Am F G U λP Y=>Ok.cD (by show _+1<=_;exact cA t (dk U)) (h _ _ (by refine Z aN ?_;exact g o (cx _ _)) (by refine Z aN ?_;show _+1<=_;exact cA t (dk U)) (z.mono (aA _)))
 have N:∀{l:L}{m:aQ},1<=l.length->l.length<=11->bX (c+5) f m->bu O (aj O<|d+2) (λx s=>E x s.hp) 99 ((ae 74).body.drop 1) (bB Q) ⟨[("box",.v<|.cell 0),("front",.v<|.str (tx l))],m::r,(ae 74).sc⟩:=λ{l m}o t e=>by
  refine Ok.fn U<|cZ e (cA y (dk U)) (dk U) (dk U) λi m F G z=>aq.q (λq=>?_) λq=>?_
  refine Ok.MP (b:=[46]) U (by show _+1<=_;exact cA t<|dk U)<|Ok.fn U (MN z (cA (k:=6) y (dk U)) λR S p A=>Ok.cD (by refine Z aN ?_;show _+1+_<=_;exact g (aY (dC t 1) p) (dk U)) ?_)
  exact X (Z aN<|Z aN (g o (g (cx _ _) (cx _ _)))) (by refine Z aN<|Z aN ?_;show _+1+_<=_;exact g (aY (dC t 1) p)<|dk U)<|A.mono (aA _)
  exact X o (g t<|dk U)<|z.mono (bM _)
 refine Ok.fn U<|cZ e (g y (by lk)) (dk U) (dk U) λn b1 n0 w B1=>Ok.fS ⟨n0,by exact pQ w (dk U)⟩ (Ok.MM 3 (w:=λk M=>∃m,M=m::r/\bX (c+1+k) f m) (φ:=λv=>∃P,v=.str (tx [P])) (jf n) 0 _ (by rw[t7];exact zT (tk w (dk U))) ⟨b1,U,B1⟩ (λx hx=>?_) λvs nM o t h3=>?_)
 obtain⟨j,rfl⟩:=EE hx;refine⟨_,U,λk M hk hj Q' hq=>?_⟩;obtain⟨S,rfl,A⟩:=hj;exact Ok.fn U<|cZ A (g (aY (dC y 1) (cG hk)) (dk U)) (dk U) (dk U) λi m F G z=>Ok.Am F G U λP Y=>hq _ _ ⟨P,U⟩ U ⟨m,U,z⟩ _ _
 obtain⟨S,rfl,A⟩:=h3;rw[t7]at o A;obtain⟨l,rfl,T⟩:=MO t;refine⟨by exact g (bg o)<|tk w (dk U),(Ok.sk (g (bg<|T.trans o)<|tk w (dk U))<|Ok.afw (a:=[37]) U (by show 1+_<=_;exact g (dO (g (bg (T.trans o)) (tk (n:=3) w (dk U))) 1) (dk U)) (Ok.fn U (MN A (g (aY (dC y 1) (zT (tk (n:=3) w (dk U)))) (dk U)) λR b3 p B3=>?_)))⟩;refine Ok.cD (by refine Z aN ?_;show 1+_+_<=_;exact g (aY (dO (g (bg<|T.trans o)<|tk (n:=3) w (dk U)) 1) p)<|dk U) ?_;exact N (by refine Z aN<|Z aN ?_;show 1<=1+_+_;exact g (cx 1 _)<|cx _ _) (by refine Z aN<|Z aN ?_;show 1+_+_<=_;exact g (aY (dO (g (bg<|T.trans o)<|tk (n:=3) w (dk U)) 1) p)<|dk U)<|B3.mono (g (dC (dO (zT (tk (n:=3) w (dk U))) (_+1)) 1) (aA (_+5)))
noncomputable abbrev EF(t:V)(a c d e f h:SV):D (H×SV):=[("box",.v<|.cell 0),("turn",.v<|.int t),("menu",a),("k",c),("row",d),("at",e),("sign",f),("way",h)]
def af7(e:bX c f b)(G:c<=800000)(h:∀(l:L)o,l.length<=70->bX (c+50) f o->Q (.str<|tx l) (o::r)):Cl (aj O<|d+4) "_law_row" [.cell 0,.int t] (b::r) Q E:=by
 refine ba (f:=ae 75) U U (l:=[("box",.v<|.cell 0),("turn",.v<|.int t)]) U ?_;have s4:∀{l:L}{o:aQ}{P:SV},1<=l.length->l.length<=30->bX (c+40) f o->bu O (aj O<|d+3) (λx s=>E x s.hp) 96 ((ae 75).body.drop 4) (bB Q) ⟨EF t .un P (.v<|.str (tx l)) .un .un .un,o::r,(ae 75).sc⟩:=λ{l o P}h1 p e=>by
  refine aq.q (λq=>?_) λq=>?_;exact h l o (g p<|dk U)<|e.mono (dO (dk U) _)
  refine Ok.len (by rw[aV];exact qD p) ?_;rw[aV];refine Ok.fn U<|cZ e (cA G (dk U)) (Int.natCast_pos.mpr h1) (Int.ofNat_le.mpr (g p (dk U))) λi b1 i0 i1 B1=>Ok.fn U (cZ B1 (cA (k:=41) G (dk U)) (dk U) (dk U) λi2 b2 i20 i21 A=>Ok.Am i20 i21 U λch Y=>Ok.fn U (cZ A (cA (k:=42) G (dk U)) (dk U) (dk U) λi3 b3 i30 i31 B3=>?_))
  obtain⟨a,rfl⟩:∃a:J,i=a:=⟨i.toNat,(rA i0).symm⟩;have hB:=B3.mono (c':=c+50) Vz;have fin:∀(m:L)(j:J),m.length<=1->Q (.str<|tx (l.take a++m++l.drop j)) (b3::r):=λm j hm=>h _ b3 (by exact Z aN<|Z aN (Z lb (Z i8 (VA p hm)))) hB
  have lt:(l.take a).length<=30:=Z lb<|g (pP _ _) p
  have ld:∀j,(l.drop j).length<=30:=λj=>Z i8<|g (g' _ _) p
  rcases(show i3=0\/i3=1\/i3=2 by exact VB i30 i31)with rfl|rfl|rfl
  refine Ok.slice (y:=tx l) (lo:=W) (hi:=I ((a:J):V)) U U (by rw[aV];exact qD p) ?_;rw[fZ];refine Ok.MP (b:=[]) U (by show _+0<=_;exact g lt<|dk U)<|Ok.slice (y:=tx l) (lo:=I ((a+1:J):V)) (hi:=W) U U (by rw[aV];exact qD p) ?_
  rw[lF];refine Ok.cD (by refine Z aN ?_;have:=ld<|a+1;show _+0+_<=_;exact g (aY lt this)<|dk U) ?_;exact fin [] (a+1)<|dW _
  refine Ok.slice (y:=tx l) (lo:=W) (hi:=I ((a:J):V)) U U (by rw[aV];exact qD p) ?_;rw[fZ];refine Ok.cD (b:=[ch]) (by show _+1<=_;exact cA lt<|dk U)<|Ok.slice (y:=tx l) (lo:=I ((a:J):V)) (hi:=W) (by exact ax (Int.add_zero (a:V)) U) U (by rw[aV];exact qD p) ?_
  rw[lF];refine Ok.cD (by refine Z aN ?_;have:=ld a;show _+1+_<=_;exact g (aY (dC lt 1) this)<|dk U) ?_;exact fin [ch] a<|aA _
  refine Ok.slice (y:=tx l) (lo:=W) (hi:=I ((a:J):V)) U U (by rw[aV];exact qD p) ?_;rw[fZ];refine Ok.cD (b:=[ch]) (by show _+1<=_;exact cA lt<|dk U)<|Ok.slice (y:=tx l) (lo:=I ((a+1:J):V)) (hi:=W) U U (by rw[aV];exact qD p) ?_
  rw[lF];refine Ok.cD (by refine Z aN ?_;have:=ld<|a+1;show _+1+_<=_;exact g (aY (dC lt 1) this)<|dk U) ?_;exact fin [ch] (a+1)<|aA _
 have s3:∀{l:L}{o:aQ}{P:SV},1<=l.length->l.length<=100->bX (c+30) f o->bu O (aj O<|d+3) (λx s=>E x s.hp) 97 ((ae 75).body.drop 3) (bB Q) ⟨EF t .un P (.v<|.str (tx l)) .un .un .un,o::r,(ae 75).sc⟩:=λ{l o P}h1 p e=>by
  refine Ok.fn U<|cZ e (cA G (dk U)) (dk U) (dk U) λi b1 i0 i1 B1=>Ok.pick (m:=1) i0 i1 U U λl2 w=>Ok.cD (g (aY p w) (dk U)) (Ok.slice (y:=tx (l++l2)) (lo:=W) (hi:=I ((30:J):V)) U U (by rewrite[aV];refine Z aN ?_;exact g (aY p w) (dk U)) ?_)
  rw[fZ];exact s4 (Z lb<|Z aN (Nat.le_min.mpr ⟨dk U,g h1 (cx _ _)⟩)) (Z lb<|PE _ _)<|B1.mono VC
 refine aq.q (λq=>?_) λq=>?_;refine Ok.fn U<|cZ e (yX G) (dk U) (dk U) λn b1 n0 F B1=>Ok.fS (n:=1+n) ⟨by exact Im n0,by exact VD F⟩ (Ok.MM 27 (w:=λk hp=>∃o,hp=o::r/\bX (c+1+k) f o) (φ:=λv=>∃ch,v=.str (tx [ch])) (jf (1+n)) 0 _ (by rw[t7];exact VE F) ⟨b1,U,B1⟩ (λx hx=>?_) λvs nM h1 p h3=>?_)
 obtain⟨j,rfl⟩:=EE hx;refine⟨_,U,λk hp hk hj Q' hq=>?_⟩;obtain⟨b2,rfl,A⟩:=hj;exact Ok.fn U<|cZ A (VF G hk) (by decide +kernel) (by decide +kernel) λi o i0 i1 B'=>Ok.Am i0 i1 U λch Y=>hq _ _ ⟨ch,U⟩ U ⟨o,U,B'⟩ _ _
 obtain⟨b2,rfl,A⟩:=h3;rw[t7]at h1 A;obtain⟨l,rfl,hl⟩:=MO p;exact⟨by exact VG F h1,(Ok.sk (VH F h1 hl)<|h l b2 (VI F h1 hl) (A.mono (VJ F)))⟩;refine Ok.fn U<|cZ e (yX G) (dk U) (dk U) λn b1 n0 F B1=>Ok.fS (n:=1+n) ⟨by exact Im n0,by exact VK F⟩ (Ok.xa 3 (I:=λk s=>∃l o P,s=⟨EF t .un P (.v (.str (tx l))) .un .un .un,o::r,(ae 75).sc⟩/\l.length<=24*k/\(1<=k->1<=l.length)/\bX (c+1+9*k) f o) (jf (1+n)) 0 _ (by rw[t7];exact VL F) ⟨[],b1,.un,U,dW _,λz=>aF z (Nat.not_succ_le_zero 0),B1⟩ (λx hx k s hk hI F' hF=>?_) λs' hI=>?_)
 obtain⟨j,rfl⟩:=EE hx;obtain⟨l,b2,P,rfl,hl,_,A⟩:=hI;refine Ok.fn U<|cZ A (VM G hk) (dk U) (dk U) λi b3 i0 i1 B3=>Ok.pick (m:=4) i0 i1 U U λl2 w=>Ok.cD (VN hk hl w) (Ok.fn U (af6 B3 (VP G hk) λl3 b4 hl3 MQ B4=>?_))
 exact Ok.cD (Z aN<|VQ hk hl w MQ)<|hF _ ⟨l++l2++l3,b4,_,U,by refine Z aN (Z aN ?_);exact VT hl w MQ,λY=>by refine Z aN (Z aN ?_);exact VU hl3,B4.mono VV⟩
 obtain⟨l,b2,P,rfl,hl,MR,A⟩:=hI;rw[t7]at hl MR A;exact s3 (MR<|VW n0) (VX F hl)<|A.mono (VY F)
noncomputable def dl(b n:J):J->L
 |0=>[bQ<|n%b]|j+1=>bQ (n/b^(j+1)%b)::dl b n j
noncomputable def MS(b n:J):∀j,dl b n (j+1)=dl b (n/b) j++[bQ<|n%b]
 |0=>by show bQ (n/b^(0+1)%b)::[bQ (n%b)]=[bQ (n/b%b)]++_;rw[ak9];rfl
 |j+1=>by
  have e:n/b^(j+1+1)%b=n/b/b^(j+1)%b:=by rw[Nat.div_div_eq_div_mul,<-ala,]
  show bQ _::dl b n (j+1)=(bQ _::dl b (n/b) j)++_;rw[MS b n j,e];rfl
def MT(hb:2<=b):∀(k f n:J),(b^k<=n)->n<b^(k+1)->k<f->(fL b f n).reverse=dl b n k:=by
 intro k;induction k with
 |zero=>intro f n a c d;obtain⟨f,rfl⟩:∃x,f=x+1:=⟨f -1,by exact(n7 d).symm⟩;rw[uW]at a;rw[i4,ak9]at c;show(if n=0 then[]else bQ (n%b)::fL b f (n/b)).reverse=_;rw[u<|jB a,alb c,Ah];rfl
 |succ k ih=>
  intro f n a c d;obtain⟨f,rfl⟩:∃x,f=x+1:=⟨f -1,by exact Co d⟩;have h0:0<b^(k+1):=Bm<|jO hb
  have e1:b^k<=n/b:=(Nat.le_div_iff_mul_le<|jO hb).mpr<|by rw[<-rS];exact a
  have e2:n/b<b^(k+1):=Bk<|by rw[<-ala];exact c
  show(if n=0 then[]else bQ (n%b)::fL b f (n/b)).reverse=_;rw[u<|U2 a e1 e2,ur,ih f (n/b) e1 e2<|vQ d,MS]
def agd(c:2<=b)(a:b^k<=n\/k=0)(d:n<b^(k+1))(e:n<2^128):dl b n k=cI n b:=by
 have f:n≠0->k<128:=λz=>by
  rcases a with a|rfl
  refine PG λq=>?_;have:=x2 (show 0<2 by lk) q;exact xL (g this<|g (PH c k) a) e;lk
 unfold cI;split;rename_i z;clear f e d;subst z;rcases a with a|rfl
 have:0<b^k:=Bm<|jO c
 exact aF a<|akf this
 show[bQ (0%b)]=_;rw[Nat.zero_mod];rfl;rename_i z;clear e;rcases a with a|rfl
 rw[MT c k 128 n a d<|f z];rw[MT c 0 128 n (by rw[uW];exact PC z) d<|by decide]
def Ok.An{Q:bZ}(c:a<2^300)(d:b<2^300)(h:Q (.int ((a*b:J):V)) s):Ok (ej .Mult (.int a)<|.int b) Q E s:=
 Ok.mul (Sm.bits (j:=300) (k:=300) (show(a:V).natAbs<2^300 from c) (show(b:V).natAbs<2^300 from d)<|dk U) h
def Ok.Ao(h:0<b/\b<2^300){Q:bZ}(q:Q (.int ((a/b:J):V)) s):Ok (ej .FloorDiv (.int a)<|.int b) Q E s:=by refine Ok.fdiv ⟨by exactλk=>jB h.1<|lO k,br (px (k:=300)<|by show b<_;exact h.2)<|by lk⟩ ?_;rw[Mt];exact q
abbrev xb(n b a:J)(c:L):D (H×SV):=[("amount",.v<|.int n),("base",.v<|.int b),("unit",.v<|.int a),("row",.v<|.str (tx c))]
def age{p:D aQ}(hb:2<=b)(e:b<=16)(r:n<2^128):∀(j k a:J),n<b^(k+1+j)->j+1<a->(b^k<=n\/k=0)->(∀m,n<b^(m+1)->(b^m<=n\/m=0)->F .aO ⟨xb n b (b^m) [],p,(ae 76).sc⟩)->
 Ok (hM (aj O d) 97 (bW (ae 76) 1) a) F G ⟨xb n b (b^k) [],p,(ae 76).sc⟩:=by
 intro j;induction j with
 |zero=>
  intro k a f i c h;obtain⟨a,rfl⟩:∃x,a=x+1:=⟨a -1,by exact(n7<|cG i).symm⟩;have o:b^k<2^300:=by
   clear i f;rcases c with c|rfl
   exact br c<|g9 r (by lk)
   rw[uW];lk
  have q:¬((b^k*b:J):V)<=n:=λz=>by have z:=Int.ofNat_le.mp z;rw[<-rS]at z;exact aF f<|Nat.not_lt.mpr z
  exact Ok.wh<|Ok.An o (sK e) (aq.d (λz=>aF z q) λY=>h k f c)
 |succ j ih=>
  intro k a f i c h;obtain⟨a,rfl⟩:∃x,a=x+1:=⟨a -1,by exact HY i⟩;have o:b^k<2^300:=by
   clear i f;rcases c with c|rfl
   exact br c<|g9 r (by lk)
   rw[uW];lk
  refine Ok.wh<|Ok.An o (sK e) (aq.d (λz=>?_) λz=>?_)
  have z:=Int.ofNat_le.mp z;refine Ok.An o (sK e) ?_;rw[<-rS]at z⊢;exact ih (k+1) a (by rw[iL k 1 1,kY,lN 1 j];exact f) (j7 i) (.inl z) h;refine h k (PG λy=>z<|Int.ofNat_le.mpr ?_) c;rw[<-rS];exact y
def MU(h:n<16):(ak "0123456789abcdef").cps.toList[n]?=I (bQ n):=by
 have:∀m:Fin 16,(ak "0123456789abcdef").cps.toList[m.val]?=I (bQ m.val):=by decide +kernel
 exact this ⟨n,h⟩
def agf{s:D aQ}(i:2<=b)(m:b<=16):∀(j k:J)(f:L),b^j<2^300->j+1<k->f.length+j<=500->F .aO ⟨xb n b 0<|f++dl b n j,s,(ae 76).sc⟩->
 Ok (hM (aj O d) 96 (bW (ae 76) 2) k) F G ⟨xb n b (b^j) f,s,(ae 76).sc⟩:=by
 intro j;induction j with
 |zero=>
  intro k f p q r h;obtain⟨k,rfl⟩:∃x,k=x+1+1:=⟨k -2,by exact(n7 q).symm⟩;have o:n/b^0%b<16:=cM (xy _<|jO i) m;have h:F .aO ⟨xb n b 0<|f++[bQ (n/b^0%b)],s,(ae 76).sc⟩:=by rw[uW,Nat.div_one];exact h
  have hd:b^0/b=0:=alb<|by rw[uW];exact g (bU _ _) i
  have e:0<b^0:=Bm<|jO i
  generalize b^0=a at*;refine Ok.wh<|aq.d (λY=>Ok.Ao ⟨e,p⟩ (Ok.Em (jO i) ?_)) λz=>aF (Int.ofNat_lt.mpr e) z
  refine Ok.El U (MU o) (by kernel_rfl)<|Ok.cD (by show _+1<=_;exact br r (by lk)) (Ok.Ao ⟨by exact jO i,by exact sK m⟩ ?_)
  rw[hd];exact h
 |succ j ih=>
  intro k f p q r h;obtain⟨k,rfl⟩:∃x,k=x+1:=⟨k -1,by exact HY q⟩;have o:n/b^(j+1)%b<16:=cM (xy _<|jO i) m;have hd:b^(j+1)/b=b^j:=by rw[rS];exact Nat.mul_div_cancel _<|jO i
  have e:0<b^(j+1):=Bm<|jO i
  have hj:b^j<2^300:=br (x2 (cG i)<|bM j) p;have c:=ih k (f++[bQ<|n/b^(j+1)%b]) hj (j7 q) (by rw[aN];show _+1+_<=_;exact Ua r)<|by rw[db];exact h
  rw[<-hd]at c;clear h ih;generalize b^(j+1)=a at*;refine Ok.wh<|aq.d (λY=>Ok.Ao ⟨e,p⟩ (Ok.Em (jO i) ?_)) λz=>aF (Int.ofNat_lt.mpr e) z
  exact Ok.El U (MU o) (by kernel_rfl)<|Ok.cD (by show _+1<=_;exact Ub r) (Ok.Ao ⟨by exact jO i,by exact sK m⟩ c)
def MV{n b:J}(e:2<=b)(i:b<=16)(j:n<2^128)(h:Q (.str<|tx (cI n b)) r):Cl (aj O<|d+1) "_law_figures" [.int n,.int b] r Q E:=by
 refine ba (f:=ae 76) (by kernel_rfl) (by kernel_rfl) (l:=[("amount",.v<|.int n),("base",.v<|.int b)]) (by kernel_rfl)<|age e i j 127 0 1000 (cM j (PH e _)) Tb (.inr U) λk p m=>?_
 have o:b^k<2^300/\k<400:=by
  clear p;rcases m with m|rfl
  refine⟨br m<|g9 j (by lk),PG λq=>?_⟩;have a:=PH e k;have c:=x2 (show 0<2 by lk) q;have d:2^128<=2^400:=by lk
  exact xL (g d<|g c (g a m)) j;exact⟨by rw[uW];lk,by lk⟩
 refine agf e i k 1000 [] o.1 (br o.2<|by lk) (by show 0+k<=_;exact Ui o) ?_;rw[uP,agd e m p j];exact h
noncomputable def lH(b:J):J->J->D J
 |0,_=>[]|k+1,n=>if n=0 then[]else n%b::lH b k (n/b)
def fM(n b:J):D Nat:=if n=0 then[0]else(lH b 128 n).reverse
def Ap:lH b (k+1) n=if n=0 then[]else n%b::lH b k (n/b):=U
def agg:lH b k 0=[]:=by induction k using AM<;>rfl
def agh(b:J):∀k n,fL b k n=(lH b k n).map bQ:=by
 intro k;induction k with
 |zero=>exactλn=>rfl|succ k d=>
  refineλn=>Z Ms<|Z Ap ?_
  by_cases q:n=0;exact Z (aa q)<|Z (aa q) U
  exact Z (u q)<|Z (u q) (Z fq (Z (d _) U))
def pD(n b:J):cI n b=(fM n b).map bQ:=by unfold cI fM;split;rfl;rw[agh,ak6]
noncomputable def iG(b a:J)(c:D J):Nat:=c.foldl (λa d=>a*b+d) a
def agi(b a d:J)(c:D J):iG b a (c++[d])=iG b a c*b+d:=by unfold iG;exact Z List.foldl_append U
def MW(a:2<=b)(h:n<2^(k+1)):n/b<2^k:=Bk<|cM h (g (bg (xX (2^k) 2)) (xB _ a))
def agj(d:2<=b):∀k n,n<2^k->iG b 0 (lH b k n).reverse=n:=by
 intro k;induction k with
 |zero=>intro n h;obtain rfl:=Nat.lt_one_iff.mp h;rfl
 |succ k e=>
  refineλn h=>Z Ap ?_;by_cases z:n=0;exact Z (aa z) z.symm;refine Z (u z)<|Z ur ?_
  rewrite[agi];refine Z (e _<|MW d h) ?_;rw[xX];exact alc n b
def rg(a:2<=b)(c:n<2^128):iG b 0 (fM n b)=n:=by unfold fM;split;rename_i z;refine Z z ?_;show 0*b+0=0;exact VZ;exact agj a _ _ c
def agk(e:0<b):∀k n,∀d∈lH b k n,d<b:=by
 intro k;induction k with
 |zero=>exactλn=>uR _|succ k f=>
  refineλn=>Z Ap ?_;by_cases z:n=0;exact Z (aa z)<|uR _
  exact Z (u z)<|List.forall_mem_cons.mpr ⟨xy _ e,f _⟩
def xc(a:2<=b):∀d∈fM n b,d<b:=by
 intro d h;unfold fM at h;split at h;rw[F6]at h;exact br (bg h)<|cM (dk U) a
 exact agk (jO a) _ _ d<|List.mem_reverse.mp h
def agl{b:J}(hb:2<=b):∀k n,n<2^k->n≠0->∃l d,lH b k n=l++[d]/\d≠0:=by
 intro k;induction k with
 |zero=>exactλn h z=>aF (Nat.lt_one_iff.mp h) z|succ k ih=>
  refineλn h z=>Z Ap<|Z (u z) ?_
  by_cases q:n/b=0;refine Z q<|Z agg ⟨[],n%b,U,λe=>z ?_⟩
  have:=alc n b;rw[q,Nat.mul_zero,e]at this;exact this.symm;exact d9 (ih _ (MW hb h) q) λl d e hd=>⟨n%b::l,d,by refine Z e ?_;rfl,hd⟩
def MX(a:2<=b)(c:n<2^128):fM n b=[0]\/∃d l,fM n b=d::l/\d≠0:=by unfold fM;split;exact .inl U;rename_i z;exact d9 (agl a 128 n c z) λl d e f=>.inr ⟨d,l.reverse,by refine Z e<|Z ald ?_;rfl,f⟩
def agm{d:J}(h:d<16):iK (tx [bQ d])=tx [bQ d]:=by
 have:∀m:Fin 16,iK (tx [bQ m.val])=tx [bQ m.val]:=by decide +kernel
 exact this ⟨d,h⟩
def agn(h:d<16):Fe (ak "0123456789abcdefghijklmnopqrstuvwxyz") (tx [bQ d])=(d:V):=by
 have:∀m:Fin 16,Fe (ak "0123456789abcdefghijklmnopqrstuvwxyz") (tx [bQ m.val])=(m.val:V):=by decide +kernel
 exact this ⟨d,h⟩
def ago(h:d<16):decide ((tx [bQ d]).cps.toList<(ak "\x80").cps.toList)=true:=by
 have:∀m:Fin 16,decide ((tx [bQ m.val]).cps.toList<(ak "\x80").cps.toList)=true:=by decide +kernel
 exact this ⟨d,h⟩
def agp(l:L):pY (tx l)=l.map λc=>tx [c]:=by unfold pY;rfl
def Ok.lower(e:iK x=y)(h:y.length<=1000)(q:Q (.str y) s):Ok (cH O cl (.blt "str.lower") [.str x]) Q E s:=by show Ok (eg<|iK x) Q E s;exact Z e<|Ok.str (g h (dk U)) q
def aq.s{b:H}(x:a=b->A)(y:a≠b->k):aq (a==b) A k:=aq.i (λh=>x<|eq_of_beq h) λh=>y<|beq_eq_false_iff_ne.mp h
noncomputable def kS:cf->ai
 |.For t _ _ _ _=>t|_=>.Constant .none 0 default
abbrev EG(x:H)(left:L)(a:bf)(c:V)(d e:SV)(f:J)(h:bf)(i j:SV):D (H×SV):=[("text",.v<|.str x),("base",.v<|.int 0),("strict",.v<|.bool B),("left",.v<|.str (tx left)),("negative",.v<|.bool a),("size",.v<|.int c),("prefix",d),("own",e),("found",.v<|.int f),("joined",.v<|.bool h),("letter",i),("figure",j)]
def agq{left:L}(o:c<=16)(hs1:2<=c):∀(i:D J)(j:J)(m:bf)(e f:SV),(∀d∈i,d<c)->(j+1)*16^i.length<2^300->(∀e f,F .aO ⟨EG x left n c q ow (iG c j i) (m||!i.isEmpty) e f,hp,(ae 49).sc⟩)->
 Ok (dD (λx=>(dm O (aj O d) 91 (kS<|bW (ae 49) 7)<|.v x).bind λY=>cb O (aj O d) 91<|gw (bW (ae 49) 7))<|i.map λd=>.str (tx [bQ d])) F G ⟨EG x left n c q ow j m e f,hp,(ae 49).sc⟩:=by
 intro i;induction i with
 |nil=>intro j m e f _ _ h;have h:=h e f;exact(show(m||!([]:D J).isEmpty)=m from Pn _)▸h
 |cons v i ih=>
  intro j m e f hd hf h;have p:=hd v<|dj ..
  have k:v<16:=g p o;have h:∀e f,F .aO ⟨EG x left n c q ow (iG c j (v::i)) B e f,hp,(ae 49).sc⟩:=λe f=>by have h:=h e f;exact(show(m||!(v::i).isEmpty)=B from by cases m<;>rfl)▸h
  refine Ok.pA ?_;(conv=>whnf);refine Z (ago k)<|Ok.lower (agm k) (by show 1<=1000;lk) ?_
  (conv=>whnf);refine Z (agn k) ?_;have hm:j<2^300:=cM (gb j)<|g (aiU _ (Bm (by lk))) (cG hf)
  have a:=λe f=>ih (j*c+v) B e f (λy hy=>hd y<|eW _ hy) (by
   refine br ?_ hf;refine Z bw ?_;rewrite[rS];refine Z (xX (16^i.length) 16) ?_;rw[<-Nat.mul_assoc];refine xB _ ?_;have e1:j*c+v+1<=(j+1)*c:=by rw[Nat.succ_mul];exact UK p
   exact g e1<|d7 _ o) λe f=>h e f
  exact aq.d (λY=>Ok.An hm (sK o)<|a _ _) λz=>aF (Int.ofNat_lt.mpr p) z
def f8(a:L×J)(p:H×J):L×Nat:=if iK (tx<|a.1.take 2)=p.1/\(a.2=0\/a.2=p.2)then(a.1.drop 2,p.2)else a
abbrev rh(x:H)(left:L)(a:bf)(c:J)(d e:SV):D (H×SV):=[("text",.v<|.str x),("base",.v<|.int 0),("strict",.v<|.bool B),("left",.v<|.str (tx left)),("negative",.v<|.bool a),("size",.v<|.int c),("prefix",d),("own",e),("found",.un),("joined",.un),("letter",.un),("figure",.un)]
def agr:∀(c:D (H×J))(left:L)(a:J)(e f:SV),left.length<=1000->(∀e f,F .aO ⟨rh x (c.foldl f8 (left,a)).1 k (c.foldl f8 (left,a)).2 e f,hp,(ae 49).sc⟩)->
 Ok (dD (λx=>(dm O (aj O d) 94 (kS<|bW (ae 49) 4)<|.v x).bind λY=>cb O (aj O d) 94<|gw (bW (ae 49) 4))<|c.map λp=>.tup [.str p.1,.int p.2]) F G ⟨rh x left k a e f,hp,(ae 49).sc⟩:=by
 intro c;induction c with
 |nil=>exactλleft a e f _ h=>h e f|cons p c ih=>
  intro left a e f i h;replace h:=(eM)▸h;have j:(iK<|tx (left.take 2)).length<=6:=by
   have h1:=anb<|tx (left.take 2)
   have h2:(tx<|left.take 2).length=_:=aV _;replace h2:=(lb)▸h2;exact g h1<|d7 3 (g (bg h2) (PE _ _))
  refine Ok.pA<|Ok.slice (y:=tx left) (lo:=W) (hi:=I ((2:J):V)) U U (by rw[aV];exact yW i) ?_
  rw[fZ];refine Ok.lower U (g j<|by lk)<|aq.s (λq=>?_) λq=>?_
  refine aq.i (λz=>?_) λz=>?_;have z':a=0\/a=p.2:=by simp only [om,Ob,FM,uX]at z;exact z.imp (λq=>lO q.symm) λq=>lO q.symm
  rw[show f8 (left,a) p=(left.drop 2,p.2)from aa ⟨q,z'⟩]at h;refine Ok.slice (y:=tx left) (lo:=I ((2:J):V)) (hi:=W) U U (by rw[aV];exact yW i) ?_;rw[lF];exact ih (left.drop 2) p.2 _ _ (Z i8<|g (g' _ _) i) h;have z':¬(a=0\/a=p.2):=λy=>by
   clear h;rcases y with rfl|rfl
   simp at z;simp at z
  rw[show f8 (left,a) p=(left,a)from u λy=>z' y.2]at h;exact ih left a _ _ i h;rw[show f8 (left,a) p=(left,a)from u λy=>q y.1]at h;exact Z (show(iK (tx<|left.take 2)==p.1)=ag from beq_eq_false_iff_ne.mpr q)<|ih left a _ _ i h
noncomputable def gZ:D (H×J):=[("0x",16),("0b",2),("0o",8),("0d",10)]
noncomputable def iZ(a:L×J):Nat:=if a.2=0 then(if a.1.take 1=[48]/\1<a.1.length then 8 else 10)else a.2
def Ok.strip(h:x.length<=16777216)(e:ro x y=z)(q:Q (.str z) s):Ok (cH O a (.blt "str.strip") [.str x,.str y]) Q E s:=by subst e;have c:cH O a (.blt "str.strip") [.str x,.str y]=λs=>if x.length<=eJ then .ok (.str<|ro x y) s else .C:=U;refine Z c ?_;unfold Ok;dsimp only;exact Z (aa<|show x.length<=eJ from h) q
def Cl.to_eq(h:Cl d q args c (λf a=>f=v/\a=c) λY Y=>bA):d q args c=.ok v c:=by
 unfold Cl at h;generalize e:d q args c=i;induction i using RH.casesOn with
 |ok f a=>rw[e]at h;exact Z h.1<|Z h.2 U
 |exc=>rw[e]at h;exact h.elim|C=>rw[e]at h;exact h.elim
def ags(a:D (H×J))(left:L)(c:J)(j:k=a.map λp=>.tup [.str p.1,.int p.2])(m:left.length<=1000)
 (h:∀e f,F .aO ⟨rh x (a.foldl f8 (left,c)).1 i (a.foldl f8 (left,c)).2 e f,n,(ae 49).sc⟩):
 Ok (dD (λx=>(dm O (aj O d) 94 (kS<|bW (ae 49) 4)<|.v x).bind λY=>cb O (aj O d) 94<|gw (bW (ae 49) 4)) k) F G ⟨rh x left i c e f,n,(ae 49).sc⟩:=j▸agr a left c e f m h
def agt(hB:c=c0::B')(hc:c0≠45/\c0≠43)(hs:i=[]\/i=[45]\/i=[43])(hx:x.length<=1000)(hl:c.length<=900)(e0:ro x " \t\n\x0b\x0c\r"=tx (i++c))
 (hd:(gZ.foldl f8 (c,0)).1=ds.map bQ)(gH:ds≠[])(EH:ds.length<=60)(jV:2<=iZ (gZ.foldl f8 (c,0))/\iZ (gZ.foldl f8 (c,0))<=16)(cV:∀d∈ds,d<iZ (gZ.foldl f8 (c,0)))
 (h:Q (.int<|if i=[45]then-((iG (iZ (gZ.foldl f8 (c,0))) 0 ds:J):V)else(iG (iZ (gZ.foldl f8 (c,0))) 0 ds:J)) hp):
 Cl (aj O<|d+1) "read_int" [.str x,.int 0,.bool B] hp Q E:=by
 refine ba (f:=ae 49) U U (l:=[("text",.v<|.str x),("base",.v<|.int 0),("strict",.v<|.bool B)]) U ?_;have s5:∀{left:L}{sz:J}{neg:bf}{pf ow:SV},left=ds.map bQ->2<=iZ (left,sz)/\iZ (left,sz)<=16->(∀d∈ds,d<iZ (left,sz))->Q (.int<|if neg=B then-((iG (iZ (left,sz)) 0 ds:J):V)else(iG (iZ (left,sz)) 0 ds:J)) hp->
  bu O (aj O d) (λx s=>E x s.hp) 95 ((ae 49).body.drop 5) (bB Q) ⟨rh x left neg sz pf ow,hp,(ae 49).sc⟩:=λ{left sz neg pf ow}MY jV cV h=>by
  have MZ:left.length=ds.length:=by refine Z MY ?_;rw[b0]
  have s6:∀{z:J},z=iZ (left,sz)->bu O (aj O d) (λx s=>E x s.hp) 94 ((ae 49).body.drop 6) (bB Q) ⟨rh x left neg z pf ow,hp,(ae 49).sc⟩:=λ{z}hz=>by
   rw[<-hz]at h jV cV;(conv=>whnf);have e:(pY<|tx left).map CV.str=ds.map λd=>.str (tx [bQ d]):=by rewrite[agp];exact Z MY<|Z xY (Z xY U)
   refine Z e ?_;refine agq jV.2 jV.1 ds 0 ag .un .un cV (by rw[i4,Gc];exact br (x2 (dk U) EH)<|dk U) λlt fg=>?_
   have e2:(ag||!ds.isEmpty)=true:=by induction ds with|nil=>exact aF U gH|cons=>rfl
   refine Z e2 ?_;clear cV jV hd e0;cases neg<;>exact h
  unfold iZ at s6;refine aq.q (λq=>?_) λq=>?_;have q:sz=0:=lO q;clear h cV jV hd e0;subst q;refine Ok.slice (y:=tx left) (lo:=W) (hi:=I ((1:J):V)) U U (by rw[aV];exact g (bg MZ)<|g EH (dk U)) ?_;rw[fZ];refine aq.t (a:=left.take 1) (b:=[48]) U U (λz=>?_) λz=>?_;refine Ok.len (by rw[aV];exact g (bg MZ)<|g EH (dk U)) ?_;rw[aV];refine aq.d (λy=>?_) λy=>?_;exact s6 (z:=8)<|Z (aa U) (Z (aa ⟨z,Int.ofNat_lt.mp y⟩) U)
  exact s6 (z:=10)<|Z (aa U) (Z (u λw=>y (Int.ofNat_lt.mpr w.2)) U)
  exact Z (show(tx (left.take 1)==ak "0")=ag from by rw[show ak "0"=tx [48]from U,lE];exact dx z)<|s6 (z:=10) (by rw[aa U,u λw=>z w.1])
  exact s6 (u<|show¬sz=0 fromλz=>q (by rw[z];rfl)).symm
 have s3:∀{neg:bf},neg=decide (i=[45])->bu O (aj O d) (λx s=>E x s.hp) 97 ((ae 49).body.drop 3) (bB Q) ⟨[("text",.v<|.str x),("base",.v<|.int 0),("strict",.v<|.bool B),("left",.v<|.str (tx c)),("negative",.v<|.bool neg),("size",.un),("prefix",.un),("own",.un),("found",.un),("joined",.un),("letter",.un),("figure",.un)],hp,(ae 49).sc⟩:=λ{neg}hn=>by
  refine Ok.st ⟨rh x c neg 0 .un .un,hp,(ae 49).sc⟩ U<|ags gZ c 0 U (yY hl) ?_
  intro pf ow;generalize gZ.foldl f8 (c,0)=st at hd jV cV h⊢;refine s5 (sz:=st.2) hd jV cV ?_;rw[hn];simp only [il];exact h
 clear h cV jV hd;subst hB;refine Ok.strip (yW hx) e0 ?_;have ht:(i++c0::B').take 1=if i=[]then[c0]else i:=by rcases hs with rfl|rfl|rfl<;>rfl
 have ls:(tx (i++c0::B')).length<=16777216:=by rw[aV,aN];exact g (aY (show i.length<=1 by rcases hs with rfl|rfl|rfl<;>lk) hl)<|by lk
 clear e0;refine Ok.slice (y:=tx (i++c0::B')) (lo:=W) (hi:=I ((1:J):V)) U U ls ?_;rw[fZ,ht];rcases hs with rfl|rfl|rfl
 rw[aa U]at ht⊢;refine Ok.slice (y:=tx ([]++c0::B')) (lo:=W) (hi:=I ((1:J):V)) U U ls ?_;rw[fZ,ht];(conv=>whnf);show aq (ak "+"==tx [c0]||(ak "-"==tx [c0]||ag)) _ _;rw[show(ak "+"==tx [c0]||(ak "-"==tx [c0]||ag))=ag from by rw[show ak "+"=tx [43]from U,show ak "-"=tx [45]from U,lE,lE,dx (λz:[43]=[c0]=>hc.2 (rQ z).1.symm),dx (λz:[45]=[c0]=>hc.1 (rQ z).1.symm)];rfl]
 refine s3 (neg:=tx [c0]==ak "-") ?_;rw[show ak "-"=tx [45]from U,lE,dx (λz:[c0]=[45]=>hc.1 (rQ z).1)];rfl;rw[u<|dk U]at ht⊢;refine Ok.slice (y:=tx ([45]++c0::B')) (lo:=W) (hi:=I ((1:J):V)) U U ls ?_;rw[fZ,ht];refine Ok.slice (y:=tx ([45]++c0::B')) (lo:=I ((1:J):V)) (hi:=W) U U ls ?_;rw[lF];exact s3 U;rw[u<|dk U]at ht⊢;refine Ok.slice (y:=tx ([43]++c0::B')) (lo:=W) (hi:=I ((1:J):V)) U U ls ?_;rw[fZ,ht];refine Ok.slice (y:=tx ([43]++c0::B')) (lo:=I ((1:J):V)) (hi:=W) U U ls ?_;rw[lF];exact s3 U
def EI(i:∀c∈pre,y.cps.contains c=B)(f:x=a::m)(j:x.getLast?=I z)(k:y.cps.contains a=ag)(n:y.cps.contains z=ag):ro (tx<|pre++x) y=tx x:=by
 unfold ro;rw[ale];have d:(tx<|pre++x).cps.toList=pre++x:=U;have h:Gd y.cps.contains B (tx<|pre++x)=pre.length:=by unfold Gd;refine Z (aa U)<|Z d (Z (List.takeWhile_append_of_pos i) (Z f (Z (m8 (by rw[k];lk)) ?_)));rw[eN]
 have o:PI y.cps.contains B (tx<|pre++x) pre.length=(pre++x).length:=by unfold PI;clear h f;obtain⟨l,rfl⟩:∃l,x=l++[z]:=aJ (List.getLast?_eq_some_iff.mp j) λp e=>⟨p,e⟩;rw[aa U,d,Ge,ald,List.reverse_singleton,List.singleton_append,m8<|by rw[n];lk,aV];exact Nat.sub_zero _
 rw[h,o,alf,d,Ge,m4<|by rw[aN];exact Uv]
structure ng(lead:L)(b sz:J)(z:D J):Prop where
 go:∀n,n<700->∃ds,(gZ.foldl f8 (lead++cI n b,0)).1=ds.map bQ/\iZ (gZ.foldl f8 (lead++cI n b,0))=sz/\ds=z++fM n b
def t8(h:iK (tx [a,c])≠q):f8 ([a,c]++l,0) (q,n)=([a,c]++l,0):=u λz=>h z.1
def xd(h:iK (tx [a,c])=q):f8 ([a,c]++l,0) (q,n)=(l,n):=aa ⟨h,.inl U⟩
def nS(a:m≠0)(c:m≠n):f8 (l,m) (q,n)=(l,m):=u λz=>z.2.elim a c
def Aq(h:iK (tx<|l.take 2)≠q):f8 (l,0) (q,n)=(l,0):=u λz=>h z.1
def ri(x:H):Prop:=(x≠"0x"/\x≠"0b")/\(x≠"0o"/\x≠"0d")
noncomputable instance(x:H):nY (ri x):=by unfold ri;infer_instance
def agu(e:a<10)(f:c<10):ri (iK<|tx [bQ a,bQ c]):=by
 have:∀a c:Fin 10,ri (iK<|tx [bQ a.val,bQ c.val]):=by decide +kernel
 exact this ⟨a,e⟩ ⟨c,f⟩
def agv(d:a<10):ri (iK<|tx [bQ a]):=by
 have:∀a:Fin 10,ri (iK<|tx [bQ a.val]):=by decide +kernel
 exact this ⟨a,d⟩
def M0(h:∀d∈f,d<10)(hn:f≠[]):gZ.foldl f8 (f.map bQ,0)=(f.map bQ,0):=by
 have e:ri (iK<|tx ((f.map bQ).take 2)):=by
  induction f using bk with
  |nil=>exact aF U hn
  |cons a l=>induction l using bk with
   |nil=>exact agv<|h a (dj ..)
   |cons c l=>exact agu (h a<|dj ..)<|h c (eW _ (dj ..))
 unfold gZ;exact Z eM<|Z (Aq e.1.1) (Z eM (Z (Aq e.1.2) (Z eM (Z (Aq e.2.1) (Z eM (Z (Aq e.2.2) U))))))
def xe(c:2<=a)(h:∀l,gZ.foldl f8 (lead++l,0)=(l,a)):ng lead b a []:=⟨λn d=>⟨fM n b,by rw[h];exact⟨pD n b,(u<|by show¬a=0;exact jB (cM (dk U) c)),U⟩⟩⟩
def agw:ng [48,120] 16 16 []:=xe (dk U) λl=>by unfold gZ;exact Z eM<|Z (xd (by decide +kernel)) (Z eM (Z (nS (dk U) (dk U)) (Z eM (Z (nS (dk U) (dk U)) (Z eM (Z (nS (dk U) (dk U)) U))))))
def agx:ng [48,88] 16 16 []:=xe (by lk) λl=>by unfold gZ;rw[eM,xd<|by decide +kernel,eM,nS (by lk)<|by lk,eM,nS (by lk)<|by lk,eM,nS (by lk)<|by decide];rfl
def agy:ng [48,98] 2 2 []:=xe (dk U) λl=>by unfold gZ;exact Z eM<|Z (t8 (by decide +kernel)) (Z eM (Z (xd (by decide +kernel)) (Z eM (Z (nS (dk U) (dk U)) (Z eM (Z (nS (dk U) (dk U)) U))))))
def agz:ng [48,111] 8 8 []:=xe (dk U) λl=>by unfold gZ;exact Z eM<|Z (t8 (by decide +kernel)) (Z eM (Z (t8 (by decide +kernel)) (Z eM (Z (xd (by decide +kernel)) (Z eM (Z (nS (dk U) (dk U)) U))))))
def agA:ng [48,100] 10 10 []:=xe (by lk) λl=>by unfold gZ;exact Z eM<|Z (t8 (by decide +kernel)) (Z eM (Z (t8 (by decide +kernel)) (Z eM (Z (t8 (by decide +kernel)) (Z eM (Z (xd (by decide +kernel)) U))))))
def agB:∀d:Fin 16,bQ d.val=48->d.val=0:=dk U
def EJ(n b:J)(a:2<=b)(c:n<2^128):fM n b≠[]:=by rcases MX a c with e|⟨d,l,e,_⟩<;>refine Z e ?_<;>exact rI _ _
def agC:ng [48] 8 8 [0]:=⟨λn c=>by
 have e:[48]++cI n 8=(0::fM n 8).map bQ:=by rw[pD];rfl
 refine⟨0::fM n 8,?_,?_,U⟩<;>rw[e,M0 (λd a=>by
  rcases List.mem_cons.mp a with rfl|a
  lk;exact g9 (xc (show 2<=8 by lk) d a)<|by lk)<|rI _ _]
 unfold iZ;refine Z (aa U) ?_;rw[aa];refine⟨U,?_⟩;have:=List.length_pos_iff.mpr<|EJ n 8 (by lk) (kz c)
 rewrite[b0];exact Z bw<|Nat.succ_lt_succ this⟩
def agD:ng [] 10 10 []:=⟨λn f=>by
 have e:[]++cI n 10=(fM n 10).map bQ:=pD n 10;have j:=EJ n 10 (dk U)<|kz f
 refine⟨fM n 10,?_,?_,U⟩<;>rw[e,M0 (λd c=>xc (dk U) d c) j];unfold iZ;dsimp only;refine Z (aa U) ?_;rw[u];intro⟨h,i⟩;rcases MX (show 2<=10 by lk) (show n<2^128 by exact kz f)with e|⟨d,l,e,c⟩
 rw[e]at i;exact aF i<|dk U
 rw[e]at h;have a:=xc (show 2<=10 by lk) d<|show d∈fM n 10 by exact Z e (dj ..)
 exact c<|agB ⟨d,by exact g a (by lk)⟩ (rQ h).1⟩
noncomputable def M1(b:J)(a:2<=b):∀k j n,n<2^j->(lH b k n).length<=j
 |0,j,n,_=>dW _|k+1,0,n,h=>by have:n=0:=ru h;subst this;exact aA _
 |k+1,j+1,n,h=>by
  show(if n=0 then[]else n%b::lH b k (n/b)).length<=_;split;exact dW _;have c:n/b<2^j:=Bk<|cM h (by rw[rS,xX];exact xB _ a)
  rw[bw];exact fF<|M1 b a k j _ c
def M2(a:2<=b)(c:n<700):(fM n b).length<=10:=by unfold fM;split;lk;exact Z Pz<|M1 b a 128 10 n (g c (by lk))
def alH(c:z=[]\/z=[0])(a:D J):iG b 0 (z++a)=iG b 0 a:=by
 rcases c with rfl|rfl
 rfl;show iG b (0*b+0) a=_;rw[ajb]
def agE(e:ng lead b sz z)(hz:z=[]\/z=[0])(hb:2<=b/\b<=sz/\sz<=16)(hbs:iG sz 0 (fM n b)=n)(hn:n<700)(lI:pre=[]\/pre=[32])(hs:sgn=[]\/sgn=[45]\/sgn=[43])
 (hl:lead=[]\/∃y,lead=48::y/\y.length<=1):wS (tx<|pre++(sgn++(lead++cI n b))) (I<|if sgn=[45]then-(n:V)else n):=λd hp=>by
 have t1:=hb.1;refine cC (e.go n hn) λds e1 e2 e3=>?_;have gH:=EJ n b t1<|kz hn
 have hlen:=M2 t1 hn;have MG:(cI n b).length<=10:=by rw[pD,b0];exact hlen
 have t9:z.length<=1:=by rcases hz with rfl|rfl<;>lk
 have cV:=xc (n:=n) t1;have i:lead.length<=2:=by
  clear t9 e3 e2 e1 e;rcases hl with rfl|⟨y,rfl,hy⟩
  lk;exact Z bw<|br hy (by lk)
 obtain⟨B',a0,M3,eB⟩:∃B' a,a<16/\lead++cI n b=bQ a::B':=by
  clear i t9 e3 e2 e1 e;rcases hl with rfl|⟨y,rfl,_⟩
  rw[pD]
  match h:fM n b,gH with|a::l,_=>exact⟨l.map bQ,a,cM (cV a<|Z h (dj ..))<|g hb.2.1 hb.2.2,U⟩
  exact⟨y++cI n b,0,dk U,U⟩
 obtain⟨A,z0,EL,eZ⟩:∃A z,z<16/\sgn++(lead++cI n b)=A++[bQ z]:=by
  rewrite[pD];refine ax (List.dropLast_concat_getLast gH)<|Z on ?_;rw[<-db,<-db]
  exact⟨_,(fM n b).getLast gH,cM (cV _<|List.getLast_mem gH)<|g hb.2.1 hb.2.2,U⟩
 have gg:pre.length<=1:=by rcases lI with rfl|rfl<;>lk
 have At:sgn.length<=1:=by rcases hs with rfl|rfl|rfl<;>lk
 have D3:ds.length<=60:=Z e3<|Z aN (g (aY t9 hlen) (by lk))
 have fg:∀a,a<16->(ak " \t\n\x0b\x0c\r").cps.contains (bQ a)=ag/\(bQ a≠45/\bQ a≠43):=λa h=>by
  have:∀d:Fin 16,(ak " \t\n\x0b\x0c\r").cps.contains (bQ d.val)=ag/\(bQ d.val≠45/\bQ d.val≠43):=by decide +kernel
  exact this ⟨a,h⟩
 have M4:(lead++cI n b).length<=12:=Z aN<|g (aY i MG) (by lk)
 have agG:ro (tx<|pre++(sgn++(lead++cI n b))) (ak " \t\n\x0b\x0c\r")=tx (sgn++(lead++cI n b)):=by
  have f:∀c∈pre,(ak " \t\n\x0b\x0c\r").cps.contains c=true:=λc hc=>by
   clear At gg eZ i t9 e3 e2 e1 e;rcases lI with rfl|rfl
   cases hc;refine Z (List.mem_singleton.mp hc) ?_;decide +kernel
  have zl:(sgn++(lead++cI n b)).getLast?=I (bQ z0):=Z eZ<|Z List.getLast?_append U
  clear At gg eZ i t9 e3 e2 e1 e;rcases hs with rfl|rfl|rfl
  exact EI f eB zl (fg a0 M3).1 (fg z0 EL).1;exact EI f U zl (by decide +kernel) (fg z0 EL).1;exact EI f U zl (by decide +kernel) (fg z0 EL).1
 refine Cl.to_eq<|agt eB (fg a0 M3).2 hs (by rewrite[aV];exact Z aN (Z aN (g (aY gg (aY At M4)) (by lk)))) (g M4 (by lk)) agG e1 (Z e3 (List.append_ne_nil_of_right_ne_nil _ gH)) D3 (Z e2 (⟨g hb.1 hb.2.1,hb.2.2⟩)) (λd hd=>?_) ?_
 refine Z e2 ?_;rw[e3]at hd;rcases List.mem_append.mp hd with hd|hd
 clear At gg eZ i t9 e3 e2 e1 e;rcases hz with rfl|rfl
 cases hd;exact Z (List.mem_singleton.mp hd)<|cM (by lk) (g hb.1 hb.2.1)
 exact cM (cV d hd) hb.2.1;refine Z e2<|Z e3 ?_;rewrite[alH hz];exact Z hbs<|⟨U,U⟩
def Ok.agH(a h:α->CV)(hs:∀x,bj (h x)=B):∀(c:D α),
 (∀x∈c,∃l,jM t (a x) f=I l/\∀m:CV->K->Prop,(∀d i,m (h x) ⟨d,j,i⟩)->vE T cl (λY Y=>bA) n e m ⟨l,j,sc⟩)->
 P (c.map h) ⟨f,j,k⟩->Ok (cW (c7 T cl n e t [] sc)<|c.map a) P E ⟨f,j,k⟩:=by
 intro c;induction c generalizing P with
 |nil=>exactλ_ p=>p|cons x c ih=>exactλhb p=>av (hb x<|dj ..) λl e1 e2=>Ok.q9 e1<|e2 _ λd i=>⟨hs x,(ih (λy hy=>hb y (eW _ hy)) p)⟩
noncomputable def u0:L:=(ak " -+0123456789abcdefxXod").cps.toList
def agI(h:c∈u0)(a:H)(d:J)(f:D aQ):aj O (d+1) "show_letter" [.str<|tx [c],.str a] f=.ok (.str<|tx [c]) f:=by
 have e:u0=[32,45,43,48,49,50,51,52,53,54,55,56,57,97,98,99,100,101,102,120,88,111,100]:=by decide +kernel
 rw[e]at h;exact(show∀c∈([32,45,43,48,49,50,51,52,53,54,55,56,57,97,98,99,100,101,102,120,88,111,100]:L),aj O (d+1) "show_letter" [.str<|tx [c],.str a] f=.ok (.str<|tx [c]) f by
  repeat refine RG (by kernel_rfl) ?_
  exactλY h=>nomatch h) c h
def Ok.Au(c:x=tx a)(d:y=tx b)(h:a.length+b.length<=16777216)(q:Q (.str<|tx (a++b)) s):Ok (ej .Add (.str x)<|.str y) Q E s:=by subst c d;exact Ok.cD h q
def agJ(l:L):(pL l.length).map (λk=>CV.str<|tx [l.getD k 0])=l.map λc=>.str (tx [c]):=by refine List.ext_getElem (by rewrite[b0,b0];exact Z Oh U) λk d a=>?_;rewrite[alg,alg,List.getElem_range];exact Z PJ<|Z (kZ (by rw[b0]at a;exact a)) U
def agK(h:∀c∈l,c∈u0)(e:l.length<=100):ra (tx l) (tx (34::(l++[34]))):=λd j=>by
 refine Cl.to_eq<|ba (f:=ae 27) U U (l:=[("text",.v (.str (tx l)))]) U (Ok.len (by rw[aV];exact g e (by lk)) ?_)
 rw[aV];refine Ok.fS ⟨by exact dX _,by exact Int.ofNat_lt.mpr<|br e (dk U:100<1000)⟩<|Ok.agH (α:=J) (λk=>.int k) (λk=>.str (tx [l.getD k 0])) (λY=>rfl) (pL l.length) (λk i=>?_) ?_
 have i:=List.mem_range.mp i;refine⟨_,U,λQ' q=>Ok.idx (k:=k) (c:=l.getD k 0) U (by exact Z PJ<|Z (kZ i) U) (g e<|by lk) ?_⟩;refine Ok.slice (lo:=I<|(k:V)+1) (hi:=I<|(k:V)+2) U U (by rw[aV];exact g e<|by lk)<|Ok.fn U (Cl.eq (agI (h _ (by exact Z PJ (Z (kZ i) (xZ i)))) _ d j) ?_)
 exact q _ _;rw[agJ];refine⟨by rw[b0];exact g e<|by lk,(Ok.sk (g e<|by lk)<|Ok.Au (a:=[34]) (b:=l) U U (by show 1+_<=_;exact g (dO e _) (by lk)) (Ok.Au (a:=34::l) (b:=[34]) U U (by show _+1+1<=_;exact lk 2 e U) ?_))⟩;exact⟨U,U⟩
def iH:al fY->H
 |none=>"Integer"|some s=>s.nm
def dh(R:Rc):CV:=.tup [R.v,.str<|iH R.s,.str R.dp,.str R.sh,fX R.num]
def agL(h:d<16):bQ d∈u0:=by
 have:∀d:Fin 16,bQ d.val∈u0:=by decide +kernel
 exact this ⟨d,h⟩
def Ok.EM{i:V}(n:J)(d:a.length=n)(c:0<=i)(e:i<n)(h:lc n 100000=B)(q:∀k v,k<n->a[k]?=I v->Q v s):Ok (fT (.lst a)<|.int i) Q E s:=by have f:i.toNat<a.length:=d▸(Fg c).mpr e;exact Ok.kM (k:=i.toNat) (rA c).symm (kZ f) (g (bg d)<|eX h)<|q _ _ (yQ c e) (kZ f)
def lX(h:o=I v)(e:o=I a):v=a:=aK<|h.symm.trans e
def agM{d:J}(o:bX c f b)(hc:c<=900000)(p:WI w r)(h:∀R b' w' r',bI r' R->bX (c+3) f b'->WI w' r'->aT r r'->Q (dh R) (b'::wO w'::r')):Cl (aj O<|d+10) "_law_numeral" [.cell 1,.cell 0] (b::wO w::r) Q E:=by
 refine ba (f:=ae 77) U U (l:=[("world",.v<|.cell 1),("box",.v<|.cell 0)]) U ?_;have s1:∀{lead:L}{z:D J}{bs sz:J}{b':aQ},ng lead bs sz z->(z=[]\/z=[0])->(2<=bs/\bs<=sz/\sz<=16)->(∀n,n<700->iG sz 0 (fM n bs)=n)->(lead=[]\/∃y,lead=48::y/\y.length<=1)->(∀c∈lead,c∈u0)->bX (c+1) f b'->
  bu O (aj O<|d+9) (λx s=>E x s.hp) 99 ((ae 77).body.drop 1) (bB Q) ⟨[("world",.v<|.cell 1),("box",.v<|.cell 0),("lead",.v<|.str (tx lead)),("base",.v<|.int bs),("side",.un),("amount",.un),("row",.un)],b'::wO w::r,(ae 77).sc⟩:=λ{lead z bs sz b'}t hz hb hv hl gg o=>by
  have s2:∀{pre sgn:L}{n:J}{b':aQ},(pre,sgn)∈([([],[]),([],[45]),([],[43]),([32],[45])]:D (L×L))->n<700->bX (c+3) f b'->
   bu O (aj O<|d+9) (λx s=>E x s.hp) 98 ((ae 77).body.drop 2) (bB Q) ⟨[("world",.v<|.cell 1),("box",.v<|.cell 0),("lead",.v<|.str (tx lead)),("base",.v<|.int bs),("side",.v<|.str (tx (pre++sgn))),("amount",.v<|.int n),("row",.un)],b'::wO w::r,(ae 77).sc⟩:=λ{pre sgn n b'}lJ hn o=>by
   have lI:pre=[]\/pre=[32]:=by simp only [rL,x3,uX,PK]at lJ;rcases lJ with⟨h,_⟩|⟨h,_⟩|⟨h,_⟩|⟨h,_⟩<;>simp[h]
   have hs:sgn=[]\/sgn=[45]\/sgn=[43]:=by simp only [rL,x3,uX,PK]at lJ;rcases lJ with⟨_,h⟩|⟨_,h⟩|⟨_,h⟩|⟨_,h⟩<;>simp[h]
   have hR:=agE t hz hb (hv n hn) hn lI hs hl;have hlen:(pre++(sgn++(lead++cI n bs))).length<=20:=by
    have:=M2 hb.1 hn;have h1:pre.length<=1:=by rcases lI with rfl|rfl<;>lk
    have h2:sgn.length<=1:=by rcases hs with rfl|rfl|rfl<;>lk
    have h3:lead.length<=2:=by
     clear hR hs lI lJ gg t hc;rcases hl with rfl|⟨y,rfl,hy⟩
     lk;exact Z bw<|br hy (by lk)
    have h4:(cI n bs).length<=10:=by rw[pD,b0];exact this
    simp only [aN];exact g (aY h1<|aY h2 (aY h3 h4))<|by lk
   have hS:=agK (l:=pre++(sgn++(lead++cI n bs))) (λc hc=>by
    rcases List.mem_append.mp hc with hc|hc
    clear hlen hR hs lJ gg t;rcases lI with rfl|rfl
    cases hc;refine Z (List.mem_singleton.mp hc) ?_;decide +kernel;rcases List.mem_append.mp hc with hc|hc
    clear hlen hR lI lJ gg t;rcases hs with rfl|rfl|rfl
    cases hc;refine Z (List.mem_singleton.mp hc) ?_;decide +kernel;refine Z (List.mem_singleton.mp hc) ?_;decide +kernel;rcases List.mem_append.mp hc with hc|hc
    exact gg c hc;rw[pD]at hc;clear hR hs lI lJ gg t;refine av (List.mem_map.mp hc) λv hv cy=>?_;subst cy;have:=xc hb.1 v hv;exact agL<|cM this (g hb.2.1 hb.2.2))<|g hlen (by lk)
   have hk:∀{b':aQ},bX (c+3) f b'->bu O (aj O<|d+9) (λx s=>E x s.hp) 97 ((ae 77).body.drop 3) (bB Q) ⟨[("world",.v<|.cell 1),("box",.v<|.cell 0),("lead",.v<|.str (tx lead)),("base",.v<|.int bs),("side",.v<|.str (tx (pre++sgn))),("amount",.v<|.int n),("row",.v<|.str (tx (pre++(sgn++(lead++cI n bs)))))],b'::wO w::r,(ae 77).sc⟩:=λ{b'}o=>by
    generalize al5:pre++(sgn++(lead++cI n bs))=row at*;refine Ok.fn U<|nP p λj num k w' r' W' X' hj m=>?_;(conv=>whnf);refine Ok.Au (a:=[34]) (b:=row) U U (by show 1+_<=_;exact g (dO hlen _) (by lk)) (Ok.Au (a:=34::row) (b:=[34]) U U (by show _+1+1<=_;exact lk 2 hlen U) ?_)
    have Av:bI r' ⟨.cell<|j+2,I .str,tx row,tx (34::(row++[34])),I<|if sgn=[45]then-(n:V)else n⟩:=
     Mm ⟨hj,U,⟨k,U,U,m⟩,by decide +kernel⟩ U U hR hS (by rw[aV];exact g hlen<|by lk) (by rw[aV];show(row++[34]).length+1<=_;exact Z aN<|lk 2 hlen U) (λm q=>by
      clear hlen hR hs lI lJ gg t hc;obtain rfl:=aK q;have q2:n<2^64:=g9 hn<|by lk
      exact mu (P:=λm:V=>m.natAbs<2^64) (by rw[N1];exact q2) q2)
    have G:=h _ b' w' r' Av o W' X';have e:ln (ak "-") (tx<|pre++sgn)=decide (sgn=[45]):=by simp only [rL,x3,uX,PK]at lJ;clear G Av hlen hR hs lI gg t hc;rcases lJ with⟨rfl,rfl⟩|⟨rfl,rfl⟩|⟨rfl,rfl⟩|⟨rfl,rfl⟩<;>decide +kernel
    (conv=>whnf);refine Z e ?_;by_cases q:sgn=[45];refine Z (i5 q) ?_;rw[aa q,<-Int.zero_sub]at G;exact G;refine Z (dx q) ?_;rw[u q]at G;exact G
   have M5:(pre++sgn).length+(lead.length+(cI n bs).length)<=20:=by simp only [aN]at hlen⊢;exact g (bg<|kY ..) hlen
   refine Ok.cD (a:=pre++sgn) (b:=lead) (UC M5)<|Ok.fn U (MV hb.1 (g hb.2.1 hb.2.2) (kz hn) (Ok.cD (a:=pre++sgn++lead) (b:=cI n bs) (Z aN (g (bg (kY ..)) (g M5 (dk U)))) ?_))
   rw[db,db];exact hk o
  refine Ok.fn U<|cZ o (br hc (by lk)) (dk U) (dk U) λi b1 i0 i1 B1=>Ok.EM 4 U i0 i1 U λk v hk hv=>?_
  have ii:k=0\/k=1\/k=2\/k=3:=TL hk;clear hk gg t;rcases ii with rfl|rfl|rfl|rfl
  refine Z (lX hv<|show _=I (.str (tx ([]++[])))from U)<|Ok.fn U (cZ B1 (yZ hc) (dk U) (dk U) λn b2 n0 n1 B2=>?_)
  clear hc;refine aJ (g8 n0) λn cy=>?_;subst cy;exact s2 (dk U) (yS n1) B2;refine Z (lX hv<|show _=I (.str (tx ([]++[45])))from U)<|Ok.fn U (cZ B1 (yZ hc) (dk U) (dk U) λn b2 n0 n1 B2=>?_)
  clear hc;refine aJ (g8 n0) λn cy=>?_;subst cy;exact s2 (dk U) (yS n1) B2;refine Z (lX hv<|show _=I (.str (tx ([]++[43])))from U)<|Ok.fn U (cZ B1 (yZ hc) (dk U) (dk U) λn b2 n0 n1 B2=>?_)
  clear hc;refine aJ (g8 n0) λn cy=>?_;subst cy;exact s2 (dk U) (yS n1) B2;refine Z (lX hv<|show _=I (.str (tx ([32]++[45])))from U)<|Ok.fn U (cZ B1 (yZ hc) (dk U) (dk U) λn b2 n0 n1 B2=>?_)
  clear hc;refine aJ (g8 n0) λn cy=>?_;subst cy;exact s2 (dk U) (yS n1) B2
 refine Ok.fn U<|cZ o (g hc (by lk)) (dk U) (dk U) λi b1 i0 i1 B1=>Ok.EM 7 U i0 i1 U λk v hk hv=>?_
 have ii:k=0\/k=1\/k=2\/k=3\/k=4\/k=5\/k=6:=TM hk;clear hk hc;rcases ii with rfl|rfl|rfl|rfl|rfl|rfl|rfl
 exact Z (lX hv<|show _=I (.tup [.str (tx []),.int 10])from U)<|s1 agD (.inl U) (dk U) (λn hn=>rg (dk U) (kz hn)) (.inl U) (by decide +kernel) B1
 exact Z (lX hv<|show _=I (.tup [.str (tx [48,120]),.int 16])from U)<|s1 agw (.inl U) (dk U) (λn hn=>rg (dk U) (kz hn)) (.inr ⟨[120],U,dk U⟩) (by decide +kernel) B1
 exact Z (lX hv<|show _=I (.tup [.str (tx [48,98]),.int 2])from U)<|s1 agy (.inl U) (dk U) (λn hn=>rg (dk U) (kz hn)) (.inr ⟨[98],U,dk U⟩) (by decide +kernel) B1
 exact Z (lX hv<|show _=I (.tup [.str (tx [48,111]),.int 8])from U)<|s1 agz (.inl U) (dk U) (λn hn=>rg (dk U) (kz hn)) (.inr ⟨[111],U,dk U⟩) (by decide +kernel) B1
 exact Z (lX hv<|show _=I (.tup [.str (tx [48]),.int 8])from U)<|s1 agC (.inr U) (dk U) (λn hn=>rg (dk U) (kz hn)) (.inr ⟨[],U,dk U⟩) (by decide +kernel) B1
 exact Z (lX hv<|show _=I (.tup [.str (tx [48,100]),.int 10])from U)<|s1 agA (.inl U) (dk U) (λn hn=>rg (dk U) (kz hn)) (.inr ⟨[100],U,dk U⟩) (by decide +kernel) B1
 exact Z (lX hv<|show _=I (.tup [.str (tx [48,88]),.int 16])from U)<|s1 agx (.inl U) (dk U) (λn hn=>rg (dk U) (kz hn)) (.inr ⟨[88],U,dk U⟩) (by decide +kernel) B1
end
section
open PySem
set_option tactic.hygienic true
def ua(d:wS x W)(e:ra x t)(f:lc x.length 100=B)(h:lc t.length 100=B)(i:c[j]?=I (.inst "Text"<|tA num (.cell (k+2)) [("text",.v (.str x))]))(m:dz c k "String"):bI c ⟨.cell<|j+2,I .str,x,t,W⟩:=
 Mm ⟨i,by kernel_rfl,⟨k,by kernel_rfl,U,m⟩,by decide +kernel⟩ (by kernel_rfl) U d e (eX f) (eX h) λY q=>nomatch q
def EN(i0:0<=i)(i1:i<14)(a:WI w r)(h:∀R w' p,bI p R->WI w' p->aT r p->Q (dh R) (b::wO w'::p)):Cl (aj O<|d+10) "_law_strange" [.cell 1,.int i] (b::wO w::r) Q E:=by
 have ii:i=0\/i=1\/i=2\/i=3\/i=4\/i=5\/i=6\/i=7\/i=8\/i=9\/i=10\/i=11\/i=12\/i=13:=Tl i0 i1;have T:∀{x t:H}{n:V},wS x W->ra x t->lc x.length 100=B->lc t.length 100=B->Cl (aj O<|d+9) "World.text" [.cell 1,.str x] (b::wO w::r) (λv hp=>∃w' p,hp=b::wO w'::p/\bI p ⟨v,I .str,x,t,W⟩/\WI w' p/\aT r p) E:=λ{x t n}hr ht hx hl=>nP a λj num k w' p W' X' hj m=>⟨w',p,U,ua hr ht hx hl hj m,W',X'⟩
 refine ba (f:=ae 78) (by kernel_rfl) (by kernel_rfl) (l:=[("world",.v<|.cell 1),("spot",.v<|.int i)]) (by kernel_rfl) ?_;rcases ii with rfl|rfl|rfl|rfl|rfl|rfl|rfl|rfl|rfl|rfl|rfl|rfl|rfl|rfl
 exact h ⟨.none,I .nil,ak "",ak "nil",W⟩ w r ae3 a<|aT.refl _
 exact h ⟨.bool B,I .z7,ak "true",ak "true",W⟩ w r ae4 a<|aT.refl _
 exact h ⟨.bool ag,I .z8,ak "false",ak "false",W⟩ w r ae5 a<|aT.refl _
 exact h ⟨.str "sym",I .sym,ak "sym",ak ":sym",W⟩ w r (Ml (λY Y=>by kernel_rfl) (λY Y=>rfl) (λY Y=>by kernel_rfl) (λY Y=>by kernel_rfl) (by decide +kernel)<|by decide +kernel) a<|aT.refl _
 exact h ⟨.str "a b",I .sym,ak "a b",ak ":\"a b\"",W⟩ w r (Ml (λY Y=>by kernel_rfl) (λY Y=>rfl) (λY Y=>by kernel_rfl) (λY Y=>by kernel_rfl) (by decide +kernel)<|by decide +kernel) a<|aT.refl _
 (conv=>whnf);exact Ok.fn U<|nP a λj num k w' p W' X' hj m=>h ⟨.cell (j+2),I .str,ak "x1",ak "\"x1\"",W⟩ w' p (ua (λY Y=>by kernel_rfl) (λY Y=>by kernel_rfl) U U hj m) W' X'
 (conv=>whnf);exact Ok.fn U<|nP a λj num k w' p W' X' hj m=>h ⟨.cell (j+2),I .str,ak "",ak "\"\"",W⟩ w' p (ua (λY Y=>by kernel_rfl) (λY Y=>by kernel_rfl) U U hj m) W' X'
 (conv=>whnf);exact Ok.fn U<|nP a λj num k w' p W' X' hj m=>h ⟨.cell (j+2),I .str,ak "12y",ak "\"12y\"",W⟩ w' p (ua (λY Y=>by kernel_rfl) (λY Y=>by kernel_rfl) U U hj m) W' X'
 (conv=>whnf);exact Ok.fn U<|nP a λj num k w' p W' X' hj m=>h ⟨.cell (j+2),I .str,ak "a\"b",ak "\"a\\\"b\"",W⟩ w' p (ua (λY Y=>by kernel_rfl) (λY Y=>by kernel_rfl) U U hj m) W' X'
 (conv=>whnf);refine Ok.fn U<|nP a λj num k w' p W' X' hj m=>?_
 (conv=>whnf);exact h ⟨.cell<|j+2,I .str,({cps:=#[Fh 233]}:H)++ak "\t#{",_,W⟩ w' p (ua (λY Y=>by kernel_rfl) (λY Y=>by kernel_rfl) (by kernel_rfl) (by kernel_rfl) hj m) W' X';(conv=>whnf);refine Ok.fn U<|nP a λj num k w1 r1 W1 X1 hj m=>?_
 (conv=>whnf);exact Ok.fn U<|afe W1 hj (by kernel_rfl) U λj w' p W' X' c=>h ⟨.cell (j+2),I .arr,ak "[1, \"q\"]",ak "[1, \"q\"]",W⟩ w' p c W' (X1.trans X')
 (conv=>whnf);exact Ok.fn U<|afh a λj w' p W' X' c=>h ⟨.cell (j+2),I .wT,ak "{k: nil}",ak "{k: nil}",W⟩ w' p c W' X'
 (conv=>whnf);exact Ok.fn U<|aff a λj w' p W' X' c=>h ⟨.cell (j+2),I .fS,ak "1...",ak "1...",W⟩ w' p c W' X'
 (conv=>whnf);refine Ok.fn U<|(tP U U U aeu) a λj w' p W' X' m e A=>?_
 (conv=>whnf);exact BA ((A U).resolve_left id) λz1 o z3 z4 z5 z6 hk mo=>h ⟨.cell<|j+2,I .cls,ak "Array",ak "Array",W⟩ w' p (afd ⟨hk,by kernel_rfl,⟨o,by kernel_rfl,U,mo⟩,by decide +kernel⟩ m) W' X'
end
section
open PySem
def Aw{nT:J}(a:bX c f b)(w:c<=900000)(h:∀(n:V)y,n.natAbs<2^80->bX (c+4) f y->Q (.int n) (y::r)):Cl (aj O<|d+2) "_law_amount" [.cell 0,.int nT] (b::r) Q E:=by
 refine ba (f:=ae 79) U U (l:=[("box",.v<|.cell 0),("spot",.v<|.int nT)]) U ?_;have L:∀{Y i:V}{y:aQ},Y.natAbs=1->0<=i->i<4->bX (c+2) f y->bu O (aj O<|d+1) (λx s=>E x s.hp) 99 ((ae 79).body.drop 1) (bB Q) ⟨[("box",.v<|.cell 0),("spot",.v<|.int nT),("side",.v<|.int Y),("way",.v<|.int i)],y::r,(ae 79).sc⟩:=λ{Y i y}z A P a=>by
  have M:i=0\/i=1\/i=2\/i=3:=Tn A P;have T:∀{m:J}{n:V}{y:aQ},m<=400->0<=n->n<m->bX (c+3) f y->Q (.int<|Y*n) (y::r):=λ{m n y}S o p a=>by
   refine h _ _ ?_<|a.mono (bM _)
   rewrite[Gb];refine Z z ?_;rw[Gc];exact cM (mn o p)<|g S (by lk)
  clear P;rcases N' nT with rfl|hp
  clear A;rcases M with rfl|rfl|rfl|rfl
  exact Ok.fn U<|cZ a (sM w) (dk U) (dk U) λn F o p q=>Ok.rb (sI z) (cM (mn (n:=10) o p) (dk U)) (T (m:=10) (dk U) o p q)
  exact Ok.fn U<|cZ a (sM w) (dk U) (dk U) λn F o p q=>Ok.rb (sI z) (g9 (mn (n:=400) o p) (by lk)) (T (m:=400) (dk U) o p q)
  refine Ok.fn U<|cZ a (sM w) (dk U) (dk U) λn F o p q=>Ok.pow (⟨o,bR (jz p) (dk U),dk U⟩) (Ok.fn U (cZ q (lk 3 w U) (dk U) (dk U) λm b3 N S B3=>?_))
  have G:(2:V)^n.toNat<=2^24/\0<(2:V)^n.toNat:=by
   refine aJ (g8 o) λn t=>?_;subst t;have:=x2 (n:=2) (dk U)<|show n<=24 by exact cG ((uT (m:=24)).mp p)
   have:=ak0 n;show((2:J):V)^n<=_/\0<((2:J):V)^n;rw[<-alh];exact⟨Int.ofNat_le.mpr ‹_›,Int.ofNat_lt.mpr this⟩
  generalize(2:V)^n.toNat=x at G⊢;refine Ok.rb (sI z) (TR N S G)<|h _ _ ?_ B3
  rewrite[Gb];refine Z z ?_;rw[Gc];exact TS N S G;refine Ok.fn U<|cZ a (sM w) (dk U) (dk U) λn F o p q=>Ok.pow (⟨o,bR (jz p) (dk U),dk U⟩) ?_
  have G:((7:V)^n.toNat).natAbs<2^75:=by
   refine aJ (g8 o) λn t=>?_;subst t;have:=x2 (n:=7) (dk U)<|show n<=25 by exact j7 ((uT (m:=26)).mp p)
   show(((7:J):V)^n).natAbs<_;rw[<-alh,ali];exact br this<|dk U
  generalize(7:V)^n.toNat=x at G⊢;refine Ok.mul (Sm.bits (j:=64) (k:=75) (.of<|sI z) G<|dk U)<|h _ _ ?_ (q.mono (bM _))
  rewrite[Gb];refine Z z ?_;rw[Gc];exact g G<|by lk
  have e:decide ((nT:V)>0)=true:=i5<|Int.natCast_pos.mpr hp
  clear M;refine aJ (g8 A) λi t=>?_;subst t;(conv=>whnf);refine Z e ?_;(conv=>whnf);refine Z (show((i:V).fmod 2)=((i%2:J):V)from Z (ak4 _<|dX _) U)<|Ok.EM 2 U (dX _) Tv U λk v R hv=>?_
  have ii:k=0\/k=1:=Nat.le_one_iff_eq_zero_or_eq_one.mp<|j7 R
  clear R A;rcases ii with rfl|rfl
  obtain rfl:=aK hv;exact Ok.fn U<|cZ a (sM w) (dk U) (dk U) λn F o p q=>Ok.rb (sI z) (cM (mn (n:=10) o p) (dk U)) (T (m:=10) (dk U) o p q)
  obtain rfl:=aK hv;exact Ok.fn U<|cZ a (sM w) (dk U) (dk U) λn F o p q=>Ok.rb (sI z) (g9 (mn (n:=400) o p) (by lk)) (T (m:=400) (dk U) o p q)
 refine Ok.fn U<|cZ a (g w (by lk)) (dk U) (dk U) λs b1 s0 X B1=>?_
 have ss:s=0\/s=1:=Tm s0 X;clear X s0;rcases ss with rfl|rfl
 exact Ok.fn U<|cZ B1 (br w (by lk)) (dk U) (dk U) λi F A P q=>L U A P q
 exact Ok.fn U<|cZ B1 (br w (by lk)) (dk U) (dk U) λi F A P q=>L U A P q
def Ok.M6{i:V}{a:D CV}{Q:bZ}{E:bZ}{s:K}(m:J)(f:0<=i)(j:i<a.length)(hl:lc a.length 100000=B)(c:a.all (λv=>match v with|.int n=>lc n.natAbs m|_=>ag)=B)(q:∀n:V,n.natAbs<=m->Q (.int n) s):Ok (fT (.lst a)<|.int i) Q E s:=by
 have h:i.toNat<a.length:=yQ f j;have d:=List.all_eq_true.mp c _<|xZ h
 generalize e:a[i.toNat]=v at d;refine Ok.kM (k:=i.toNat) (v:=v) (rA f).symm ?_ (eX hl) ?_;exact Z (kZ h)<|Z e U
 induction v using CV.casesOn with
 |int n=>exact q n<|eX d
 |_=>exact ft d
noncomputable def qJ:cf->D cf
 |.If _ b _ _=>b|_=>[]
noncomputable def M7:cf->D cf
 |.If _ _ b _=>b|_=>[]
def agN{c d:J}{f:bf}{x:H}{q:J}(a:bX c f b)(hc:c<=800000)(e:WI w r)(h:∀R m w' r',bI r' R->bX (c+10) f m->WI w' r'->aT r r'->Q (dh R) (m::wO w'::r')):Cl (aj O<|d+11) "_law_value" [.cell 1,.cell 0,.str x,.int q] (b::wO w::r) Q E:=by
 let P:=λ(i:J)(o:V)(num:SV)(b:aQ)=>bu O (aj O<|d+10) (λx s=>E x s.hp) (100 -i) ((ae 80).body.drop i) (bB Q) ⟨[("world",.v<|.cell 1),("box",.v<|.cell 0),("want",.v<|.str x),("spot",.v<|.int q),("way",.v<|.int o),("number",num)],b::wO w::r,(ae 80).sc⟩;have s5:∀{n o:V}{m:aQ},n.natAbs<2^100->bX (c+10) f m->P 5 o (.v<|.int n) m:=λ{n o m}hn a=>by exact Ok.Ai (g hn<|by lk)<|Ok.Ai (g hn (by lk)) (h ⟨.int n,W,ak (toString n),ak (toString n),I n⟩ m w r ⟨n,U,U,U,U,hn⟩ a e (aT.refl _))
 have s4:∀{o:V}{m:aQ},bX (c+3) f m->P 4 o .un m:=λ{o m}a=>by
  refine aq.i (λe1=>?_) λe1=>?_;obtain⟨k,sd,n,bb,rfl,g0,s0,s1,n0,n1⟩:=id a.h;clear h;cases f;exact Ok.fn U<|cZ a (Cm hc) (dk U) (dk U) λi m i0 i1 p=>s5 (br (g (rt _ (-12)) (dC (cG (mn (n:=25) i0 i1)) _)) (by lk)) (p.mono HW)
  exact Ok.fn U<|cZ a (Cm hc) (dk U) (dk U) λi m i0 i1 p=>Ok.M6 1000000 i0 i1 U U λn hn=>s5 (br hn (by lk)) (p.mono HW)
  refine aq.i (λe2=>?_) λe2=>?_;refine aq.i (λe3=>?_) λe3=>?_;exact Ok.fn U<|cZ a (Cm hc) (dk U) (dk U) λi m i0 i1 p=>Ok.M6 1114111 i0 i1 U U λn hn=>Ok.fn U (cZ p (lk 4 hc U) (dk U) (dk U) λj m j0 j1 p=>s5 (n:=n+j) (br (rt _ _) (br (aY hn (cG (mn j0 j1))) (by lk))) (p.mono TG))
  refine aq.i (λe4=>?_) λe4=>?_;exact Ok.fn U<|Aw (nT:=1) a (vP hc) λn m hn p=>s5 (yR hn) (p.mono yU)
  exact Ok.fn U<|Aw (nT:=q) a (vP hc) λn m hn p=>s5 (yR hn) (p.mono yU)
  (conv=>whnf);refine Z e2<|aq.i (λe4=>?_) λe4=>?_
  exact Ok.fn U<|Aw (nT:=1) a (vP hc) λn m hn p=>s5 (yR hn) (p.mono yU)
  exact Ok.fn U<|Aw (nT:=q) a (vP hc) λn m hn p=>s5 (yR hn) (p.mono yU)
 have s3:∀{o:V}{m:aQ},bX (c+3) f m->P 3 o .un m:=λ{o m}a=>by
  refine aq.i (λe1=>?_) λe1=>?_;refine aq.i (λe2=>?_) λe2=>?_;refine aq.i (λe3=>?_) λe3=>?_;exact Ok.fn U<|agM a (vP hc) e λR m w' r' hR p W' X'=>h R m w' r' hR (p.mono TH) W' X'
  exact s4 a;(conv=>whnf);exact Z e2<|s4 a
  (conv=>whnf);exact Z e1<|s4 a
 have s2:∀{o:V}{m:aQ},bX (c+2) f m->P 2 o .un m:=λ{o m}a=>by
  refine aq.i (λe1=>?_) λe1=>?_;refine aq.i (λe2=>?_) λe2=>?_;exact Ok.fn U<|cZ a (TN hc) (dk U) (dk U) λi m i0 i1 p=>Ok.fn U (EN (Tk i0) (To i1) e λR w' r' hR W' X'=>h R m w' r' hR (p.mono TE) W' X')
  exact s3<|a.mono HV
  (conv=>whnf);exact Z e1<|s3 (a.mono HV)
 have s1:∀{o:V}{m:aQ},bX (c+1) f m->P 1 o .un m:=λ{o m}a=>by
  have ret:∀{m},bX (c+1) f m->bu O (aj O<|d+10) (λx s=>E x s.hp) 97 (qJ<|bW (ae 80) 1) (λfl s=>match fl with
   |.aO=>bu O (aj O<|d+10) (λx s=>E x s.hp) 98 ((ae 80).body.drop 2) (bB Q) s|f=>bB Q f s) ⟨[("world",.v<|.cell 1),("box",.v<|.cell 0),("want",.v<|.str x),("spot",.v<|.int q),("way",.v<|.int o),("number",.un)],m::wO w::r,(ae 80).sc⟩:=λ{m}a=>by
   exact Ok.fn U<|cZ a (SX hc) (dk U) (dk U) λi m i0 i1 p=>Ok.fn U (EN (HS i0) (HT i1) e λR w' r' hR W' X'=>h R m w' r' hR (p.mono TC) W' X')
  refine aq.i (λe1=>?_) λe1=>?_;(conv=>whnf);exact Z e1<|ret a
  refine aq.i (λe2=>?_) λe2=>?_;refine aq.i (λe3=>?_) λe3=>?_;exact ret a;exact s2<|a.mono yN
  (conv=>whnf);exact Z e2<|s2 (a.mono yN)
 exact ba (f:=ae 80) U U (l:=[("world",.v<|.cell 1),("box",.v<|.cell 0),("want",.v<|.str x),("spot",.v<|.int q)]) U<|Ok.fn U (cZ a (yX hc) (dk U) (dk U) λo m i0 i1 p=>s1 p)
def eE:L->L×L
 |[]=>([],[])|c::l=>if c=42 then([42],l)else((c::l).takeWhile dg,(c::l).dropWhile dg)
structure Ps where
 fl:L
 wd:L
 mo:al L
 rs:L
def mO(a d:L):L->Ps
 |[]=>⟨a,d,W,[]⟩|c::l=>if c=46 then⟨a,d,I (eE l).1,(eE l).2⟩ else⟨a,d,W,c::l⟩
def bJ(l:L):Ps:=mO (l.takeWhile dV) (eE<|l.dropWhile dV).1 (eE<|l.dropWhile dV).2
def Lk(r r':L):Prop:=∀c l,r'=c::l->c=37\/∃m,r=c::m
def M8(f:p 37=ag):∀{l d:L},Lk (l.dropWhile p) d->(l.takeWhile p++d).takeWhile p=l.takeWhile p/\(l.takeWhile p++d).dropWhile p=d:=by
 intro l;induction l with
 |nil=>
  intro d h;cases d with
  |nil=>exact⟨U,U⟩|cons c l=>
   rcases h c l U with rfl|⟨m,e⟩
   simp[f];clear h;cases e
 |cons a l i=>
  intro d h;by_cases q:p a=B;rw[x4 q]at h;exact Z (rT q)<|Z m6 (Z (rT q)<|Z (x4 q) (⟨by exact Z ((i h).1) U,(i h).2⟩))
  rw[uY q]at h;refine Z (m8 q) ?_;cases d with
  |nil=>exact⟨U,U⟩|cons c j=>
   have k:p c=false:=by
    rcases h c j U with rfl|⟨m,e⟩
    exact f;clear h;obtain⟨rfl,rfl⟩:=rQ e;simpa using q
   simp[k]
def ub(q:c≠42):eE (c::l)=((c::l).takeWhile dg,(c::l).dropWhile dg):=u q
def Ax(l:L):l=(eE l).1++(eE l).2:=by
 induction l with
 |nil=>rfl|cons c l=>by_cases q:c=42;exact Z q U;exact Z (ub q)<|(Gf).symm
def M9{l f:L}(h:Lk (eE l).2 f):eE ((eE l).1++f)=((eE l).1,f):=by
 have j:∀{l:L},eE (37::l)=([],37::l):=λ{l}=>Z (ub<|by lk)<|Z (m8<|by decide +kernel) (Z (uY<|by decide +kernel) U)
 induction l with
 |nil=>
  cases f with
  |nil=>rfl|cons c l=>
   rcases h c l U with rfl|⟨m,e⟩
   exact j;clear h;cases e
 |cons c l=>
  by_cases q:c=42;clear h;subst q;rfl;rw[ub q]at h;have e:(eE (c::l)).1=(c::l).takeWhile dg:=Z (ub q) U;have:=M8 (p:=dg) (by decide +kernel) h;refine Z e ?_;generalize i:(c::l).takeWhile dg++f=x at this⊢;induction x with
  |nil=>exact ax this.1<|ax this.2 U
  |cons a x=>
   have k:a≠42:=by
    by_cases d:dg c=B;rw[rT d,m6]at i;injection i with n r;exact ax n q;rw[m8 d,uP]at i;rw[uY d]at h;rcases h a x i with rfl|⟨m,e⟩
    lk;injection e with o s;exact ax o q
   show(if a=42 then _ else _)=_;exact Z (u k)<|Z this.1 (Z this.2 U)
noncomputable def Ps.pre(p:Ps):L:=p.fl++(p.wd++match p.mo with
 |none=>[]|some m=>46::m)
def xf(l:L):l=(bJ l).pre++(bJ l).rs:=by
 have d:l=l.takeWhile dV++l.dropWhile dV:=(Gf).symm;have e:=Ax<|l.dropWhile dV
 unfold bJ;generalize l.takeWhile dV=a at*;generalize l.dropWhile dV=b at*;generalize eE b=s at*;obtain⟨s,t⟩:=s;subst e;subst d;unfold mO;induction t with
 |nil=>simp[Ps.pre]|cons c t=>
  by_cases q:c=46;dsimp only;refine Z (aa q)<|Z q ?_
  simp only [Ps.pre,db,m6];exact ax (Ax t) U;dsimp only;refine Z (u q) ?_;simp[Ps.pre]
def Ay(a b l:L):(mO a b l).fl=a/\(mO a b l).wd=b:=by unfold mO;induction l with|nil=>exact⟨U,U⟩|cons c l=>dsimp only;split<;>exact⟨U,U⟩
def EO{l d:L}(h:Lk (bJ l).rs d):bJ ((bJ l).pre++d)={bJ l with rs:=d}:=by
 unfold bJ at h⊢;have w:=@M8 dV (by decide +kernel) l;generalize z:l.takeWhile dV=a at*;generalize l.dropWhile dV=b at*;have n:=@M9 b;have o:=Ax b;generalize eE b=s at*;obtain⟨s,t⟩:=s;dsimp only at*;have f:∀i:L,Lk t i->(a++(s++i)).takeWhile dV=a/\eE ((a++(s++i)).dropWhile dV)=(s,i):=λi p=>by
  have:Lk b (s++i):=λc m e=>by
   refine Z o ?_;clear o n h;induction s using bk with
   |nil=>exact p c m e|cons x s=>injection e with j r;exact .inr ⟨s++t,by exact ax j U⟩
  have w:=w this;exact⟨w.1,by exact Z w.2<|n p⟩
 unfold mO at h⊢;clear o n;induction t using bk with
 |nil=>
  dsimp only [Ps.pre]at h⊢;have k:=f d h;rewrite[eN,db];refine Z k.1<|Z k.2 ?_
  clear k;cases d with
  |nil=>rfl|cons c l=>
   rcases h c l U with rfl|⟨m,e⟩
   rfl;clear h;cases e
 |cons c t=>
  by_cases q:c=46;subst q;dsimp only at h⊢;rw[aa U]at h;refine Z (aa U) ?_;dsimp only [Ps.pre]at h⊢;have k:=f (46::((eE t).1++d)) λc m e=>by injection e with j r;exact .inr ⟨t,by exact ax j U⟩
  rewrite[db,db];refine Z m6<|Z k.1 (Z k.2 ?_)
  dsimp only;exact Z (aa U)<|Z (M9 h) U
  dsimp only at h⊢;rw[u q]at h;refine Z (u q) ?_;dsimp only [Ps.pre]at h⊢;have k:=f d h;rewrite[eN,db];refine Z k.1<|Z k.2 ?_
  clear k;cases d with
  |nil=>rfl|cons v l=>
   have y:v≠46:=by
    rcases h v l U with rfl|⟨m,e⟩
    lk;injection e with j r;exact ax j q
   dsimp only;exact Z (u y) U
noncomputable def cj(n:J)(z:L):Nat:=z.foldl (λn c=>n*10+(c -48)) n
def d5(z:L)(a:D Rc):dL (V×D Rc):=
 if z=[42]then match a with
  |[]=>.error pC
  |R::a=>match lG R with
   |.error e=>.error e|.ok n=>if n.natAbs>20000 then .error oq else .ok (n,a)
 else if cj 0 z>20000 then .error oq else .ok (cj 0 z,a)
def gK(a:L)(n:V)(d:al V)(r:L)(e:D Rc):dL (L×L×D Rc):=match r with
 |[]=>.error iO|c::l=>t6 l<|fj (mM a n) n.natAbs d c e
def gF(p:Ps)(a:D Rc):dL (L×L×D Rc):=cS (d5 p.wd a) λx=>match p.mo with|none=>gK p.fl x.1 W p.rs x.2|some m=>cS (d5 m x.2) λy=>gK p.fl x.1 (iF y.1) p.rs y.2
def uc{α:Type}(r:L)(f:J->L->dL α):dL α:=match r with|[]=>.error iO|c::l=>f c l
def agO(z:L):∀n,n<=cj n z:=by
 induction z with
 |nil=>exactλn=>aA n|cons c z a=>exactλn=>g (by show n<=n*10+(c -48);exact Uu)<|a _
def agP:∀{l:L}{n c:J},n<=20000->jY n c l=if cj n ((c::l).takeWhile dg)>20000 then .error oq else uc ((c::l).dropWhile dg) λf h=>.ok (cj n<|(c::l).takeWhile dg,f,h):=by
 intro l;induction l with
 |nil=>
  intro n c e;refine Z Ek ?_;by_cases d:dg c=B;exact Z (aa d)<|Z (rT d) (Z (x4 d) U)
  exact Z (u d)<|Z (m8 d) (Z (uY d)<|Z (u (by show¬n>20000;exact Nat.not_lt.mpr e)) U)
 |cons f l i=>
  intro n c e;refine Z Ek ?_;by_cases d:dg c=B;refine Z (aa d)<|Z (rT d) (Z (x4 d) ?_)
  by_cases a:n*10+(c -48)>20000;exact Z (aa a)<|(aa (cM a (agO _ _):20000<cj n (c::_))).symm
  exact Z (u a)<|i (iM a)
  exact Z (u d)<|Z (m8 d) (Z (uY d)<|Z (u (by show¬n>20000;exact Nat.not_lt.mpr e)) U)
def agQ:∀{l a:L}{c:J},mL a c l=uc ((c::l).dropWhile dV) λe f=>.ok (a++(c::l).takeWhile dV,e,f):=by
 intro l;induction l with
 |nil=>
  intro a c;refine Z Ey ?_;by_cases d:dV c=B;exact Z (aa d)<|Z (x4 d) U
  refine Z (u d)<|Z (m8 d) (Z (uY d) ?_);rw[eN];rfl
 |cons e l h=>
  intro a c;refine Z Ey ?_;by_cases d:dV c=B;refine Z (aa d)<|Z (rT d) (Z (x4 d)<|h.trans ?_)
  rw[db];rfl;refine Z (u d)<|Z (m8 d) (Z (uY d) ?_);rw[eN];rfl
def M'(q:c≠42):(c::l).takeWhile dg≠[42]:=λe=>by by_cases d:dg c=B;rw[rT d]at e;injection e with a f;exact q a;rw[m8 d]at e;exact cO pN e U
def agR:cS (uc r f) a=uc r λc l=>cS (f c l) a:=by cases r<;>rfl
def EP:cS (cS a f) c=cS a λx=>cS (f x) c:=by cases a<;>rfl
def Na:kO c l d=cS (d5 (eE (c::l)).1 d) λx=>uc (eE (c::l)).2 λf h=>.ok (x.1,f,h,x.2):=by
 unfold kO;by_cases q:c=42;subst q;refine Z (aa U) ?_;unfold d5;refine Z (aa<|by rfl) ?_;induction d using bk with
 |nil=>rfl|cons R d=>
  dsimp only;cases lG R with
  |error e=>rfl|ok n=>
   dsimp only;by_cases a:n.natAbs>20000;exact Z (aa a)<|Z (aa a) U
   refine Z (u a)<|Z (u a) ?_
   cases l<;>rfl
 refine Z (u q)<|Z (ub q) (Z (agP<|dk U) ?_)
 unfold d5;dsimp only;refine Z (u<|M' q) ?_;by_cases a:cj 0 ((c::l).takeWhile dg)>20000;exact Z (aa a)<|Z (aa a) U
 refine Z (u a)<|Z (u a) ?_
 cases(c::l).dropWhile dg<;>rfl
def Nb(h:f6 c=ag):gf c l d=gF (bJ (c::l)) d:=by
 unfold gf gF bJ;refine Z h<|Z (u iN) (Z agQ<|Z agR ?_)
 generalize(c::l).takeWhile dV=a;generalize(c::l).dropWhile dV=r;induction r using bk with
 |nil=>rfl|cons e l1=>
  show cS (kO e l1 d) _=_;refine Z Na ?_;rw[EP];generalize eE (e::l1)=s;obtain⟨z,t⟩:=s;refine Z ((Ay _ _ _).2)<|Z ((Ay _ _ _).1) ?_
  dsimp only;refine bq (cS<|d5 z d)<|funext λx=>?_
  induction t using bk with
  |nil=>rfl|cons f i=>
   show rf _ _ _ _ _=_;unfold rf mO;by_cases q:f=46;refine Z (aa q) ?_;dsimp only;refine Z (aa q) ?_;dsimp only;induction i using bk with
   |nil=>rfl|cons j k=>
    dsimp only;refine Z Na ?_;rw[EP];refine bq (cS<|d5 _ _)<|funext λy=>?_
    cases(eE (j::k)).2<;>rfl
   refine Z (u q) ?_;dsimp only;exact Z (u q) U
def alI(y:H)(c:J):y.cps.contains c=decide (c∈y.cps.toList):=by rw[ai5,Array.contains_iff_mem,decide_eq_true_iff,Array.mem_toList_iff]
def agS(l:L)(y:H):AK (tx l) y=tx (l.dropWhile λc=>decide (c∈y.cps.toList)):=by
 have a:(tx l).cps.toList=l:=U;have d:Gd y.cps.contains B (tx l)=(l.takeWhile λc=>decide (c∈y.cps.toList)).length:=by unfold Gd;exact Z (aa U)<|Z a (Z (show y.cps.contains=_ from funext<|alI y) U)
 have e:∀k,PI y.cps.contains ag (tx l) k=l.length:=λk=>aV l;unfold AK;rewrite[ale,e,alf];refine Z a<|Z d (Z (m4<|by rw[i8];exact aA _) ?_)
 generalize(λc=>decide (c∈y.cps.toList))=p;have:l.drop (l.takeWhile p).length=l.dropWhile p:=by
  conv=>lhs;arg 2;rw[<-Gf (p:=p) (l:=l)]
  exact Ge
 rw[this]
noncomputable def ja:D L->L
 |[]=>[]|p::a=>37::(p++ja a)
def agT(l:L):∃p a,rq (tx l) (tx [37])=(p::a).map tx/\l=p++ja a/\∀q∈p::a,37∉q:=by
 have j:∃p r,rq (tx l) (tx [37])=p::r:=by unfold rq;split;exact⟨_,_,U⟩;split;exact⟨_,_,U⟩;rw[StrLaws.partsBetween_eq];exact StrLaws.partsFrom_ne _ _ _ _
 refine eO j λp r e=>?_;have c:=StrLaws.split_free (tx l) 37;have i:=StrLaws.join_split (tx l)<|tx [37]
 rw[show(⟨#[37]⟩:H)=tx [37]from U,e]at c;rw[e]at i;have d:∀(r:D H)(p:H),uQ (tx [37]) (p::r)=tx (p.cps.toList++ja (r.map (·.cps.toList))):=λr=>by
  induction r with
  |nil=>refineλp=>Z O1 ?_;show p=tx (_++[]);rw[eN,<-jq]|cons q r k=>
   intro p;show p++tx [37]++uQ (tx [37]) (q::r)=_;refine Z (k q)<|Z fq ?_
   conv=>lhs;rw[jq p]
   rw[tV,tV,db];rfl
 refine⟨p.cps.toList,r.map (·.cps.toList),?_,Ej<|i.symm.trans (d r p),λq f=>?_⟩;rw[e,fq,<-jq,xY];exact bq (p::·) ((ajn λq Y=>jq q).symm.trans<|List.map_id' r).symm;rcases List.mem_cons.mp f with rfl|f
 exact c p<|dj ..
 refine av (List.mem_map.mp f) λs m h=>?_;subst h;exact c s<|eW _ m
def Ok.lstrip(h:l.length<=1000)(q:Q (.str<|tx (l.dropWhile λc=>decide (c∈y.cps.toList))) s):Ok (cH O a (.blt "str.lstrip") [.str<|tx l,.str y]) Q E s:=by have d:cH O a (.blt "str.lstrip") [.str<|tx l,.str y]=λs=>if(tx l).length<=eJ then .ok (.str<|AK (tx l) y) s else .C:=U;refine Z d ?_;unfold Ok;dsimp only;refine Z (aa<|by rw[aV];exact g h<|dk U) ?_;rw[agS];exact q
def Ok.split(h:l.length<=1000)(q:∀p a,l=p++ja a->(∀q∈p::a,37∉q)->Q (.lst<|(p::a).map λp=>.str<|tx p) s):Ok (cH O c (.blt "str.split") [.str<|tx l,.str<|tx [37]]) Q E s:=by have d:cH O c (.blt "str.split") [.str<|tx l,.str<|tx [37]]=λs=>if(tx [37]).length=1/\(tx l).length<=1000 then .ok (.lst<|(rq (tx l)<|tx [37]).map .str) s else .C:=U;refine fP (agT l) λp a e f i=>Z d ?_;unfold Ok;dsimp only;exact Z (aa ⟨U,by rw[aV];exact h⟩)<|Z e (Z xY<|q p a f i)
noncomputable def ud(y:H)(c:J):Bool:=decide (c∈y.cps.toList)
def Az(c:l.length<=1000)(h:Q (.tup [.str<|tx (l.takeWhile<|ud y),.str<|tx (l.dropWhile<|ud y)]) j):Cl (aj O<|d+1) "_law_run" [.str<|tx l,.str y] j Q E:=by
 refine ba (f:=ae 81) U U (l:=[("row",.v<|.str (tx l)),("signs",.v<|.str y)]) U<|Ok.lstrip c ?_
 have e:=Gf (p:=ud y) (l:=l);show bu O (aj O d) (λx s=>E x s.hp) 99 ((ae 81).body.drop 1) (bB Q) ⟨[("row",.v<|.str (tx l)),("signs",.v<|.str y),("rest",.v<|.str (tx<|l.dropWhile (ud y)))],j,(ae 81).sc⟩;revert h e;generalize l.takeWhile (ud y)=a;generalize l.dropWhile (ud y)=b;intro h e;subst e;rw[aN]at c;refine Ok.len (by rewrite[aV];exact Z aN<|g c (by lk))<|Ok.len (by rw[aV];exact g (g (bU _ _) c)<|by lk) (Ok.slice (lo:=W) (hi:=I (a.length:J)) U ?_ (by rewrite[aV];refine Z aN ?_;exact g c<|by lk) ?_)
 show I (I ((tx<|a++b).length -(tx b).length:V))=I (I (a.length:V));rewrite[aV,aV];exact Z aN<|bq (λi=>I<|I i) TU
 rewrite[fZ];exact Z alj h
structure Un where
 at':J
 en:J
 ps:Ps
 kd:L
 cut:bf
noncomputable def xg(a:bf):L->L
 |[]=>if a then[]else[37]
 |c::_=>[c]
def eH(c:J)(a:bf)(p:L):Un:=⟨c,c+1+(bJ p).pre.length+(xg a (bJ p).rs).length,bJ p,xg a (bJ p).rs,a&&((bJ p).rs.dropWhile dg).isEmpty⟩
def ue:al L->CV
 |none=>.none|some l=>.str<|tx l
def cu:L⊕Un->CV
 |.inl t=>.str<|tx t
 |.inr a=>.tup [.int a.at',.int a.en,.str<|tx a.ps.fl,.str<|tx a.ps.wd,ue a.ps.mo,.str<|tx a.kd,.bool a.cut]
section
variable(P:J->L->D (L⊕Un)->Prop)
def KB:=∀n,P n [] []
def KM:=∀n q l us,37∉q->P (n+2+q.length) l us->P n (37::37::(q++l)) (.inl (37::q)::us)
def KT:=∀n c q l us,c=10\/c=0->37∉q->P (n+2+q.length) l us->P n (37::c::(q++l)) (.inl (37::c::q)::us)
def SB:=∀n p l us,37∉p->p.head?≠I 10->p.head?≠I 0->(p=[]->l=[])->(l=[]\/∃m,l=37::m)->P (n+1+p.length) l us->P n (37::(p++l)) (.inr (eH n l.isEmpty p)::.inl ((bJ p).rs.drop 1)::us)
end
def UR(n:J)(l:L)(C:D (L⊕Un)):Prop:=∀P,KB P->KM P->KT P->SB P->P n l C
def UR.nil:UR n [] []:=λY a _ _ _=>a n
def UR.uf(h:37∉q)(k:UR (n+2+q.length) l c):UR n (37::37::(q++l)) (.inl (37::q)::c):=λP a b e f=>b _ _ _ _ h<|k P a b e f
def UR.xh{c:J}(i:c=10\/c=0)(h:37∉q)(k:UR (n+2+q.length) l d):UR n (37::c::(q++l)) (.inl (37::c::q)::d):=λP a b e f=>e _ _ _ _ _ i h<|k P a b e f
def UR.EQ(h:37∉p)(i:p.head?≠I 10)(j:p.head?≠I 0)(m:p=[]->l=[])(o:l=[]\/∃m,l=37::m)(k:UR (n+1+p.length) l c):UR n (37::(p++l)) (.inr (eH n l.isEmpty p)::.inl ((bJ p).rs.drop 1)::c):=λP a b e f=>f _ _ _ _ h i j m o<|k P a b e f
@[elab_as_elim] def UR.ind{P:J->L->D (L⊕Un)->Prop}(h:UR n l c)(a:KB P)(b:KM P)(d:KT P)(e:SB P):P n l c:=h P a b d e
def aq.two{t:L}(d:x=tx a)(e:y=tx b)(h:t=a\/t=b->A)(f:t≠a->t≠b->k):aq (x==tx t||(y==tx t||ag)) A k:=by
 subst d;subst e;refine Z lE<|Z lE ?_;rw[Pn,<-Bool.decide_or]
 exact aq.d (λq=>h<|q.imp PL PL) λq=>f (λz=>q<|.inl z.symm) λz=>q<|.inr z.symm
abbrev nU(j:L)(m:D L)(o:D (L⊕Un))(k n:J)(a b c e f d h i:SV):D (H×SV):=[("row",.v<|.str (tx j)),("parts",.v<|.lst (m.map λp=>.str<|tx p)),("found",.ol<|o.map cu),("k",.v<|.int k),("at",.v<|.int n),("is_last",a),("piece",b),("flags",c),("rest",e),("wide",f),("most",d),("kind",h),("is_cut",i)]
def ER(l:L):eE l=if l.take 1=[42]then([42],l.drop 1)else(l.takeWhile dg,l.dropWhile dg):=by
 induction l using bk with
 |nil=>rfl|cons c l=>by_cases q:c=42;subst q;rfl;exact Z (ub q)<|Z (u<|by simpa using q) U
def Nc(a b l:L):mO a b l=if l.take 1=[46]then⟨a,b,I (eE<|l.drop 1).1,(eE<|l.drop 1).2⟩ else⟨a,b,W,l⟩:=by
 induction l using bk with
 |nil=>rfl|cons c l=>by_cases q:c=46;subst q;rfl;exact Z (u<|by simpa using q)<|u q
def Nd(l:L){b:J}(h:a<=b):lp (tx l) (I (a:V)) (I (b:V))=tx ((l.drop a).take<|b -a):=by
 have e:(tx l).cps.toList=l:=U;have c:∀n:J,d6 l.length n=min n l.length:=λn=>by unfold d6;exact Z (u qB) mq
 unfold lp cut;refine Z e ?_;show tx (pW (d6 l.length b -d6 l.length a)<|l.drop (d6 l.length a))=_;rw[c,c];rcases xw a l.length with q|q
 exact Z (n4 q)<|bq tx (List.take_eq_take_iff.mpr<|by exact Z i8 Ux)
 exact Z (uw q)<|Z (lV q) (Z (lV<|aA _)<|Z alk (Z alk U))
def vN.f(h:b=ag)(p:A):vN b A:=h▸p
def Nf:D Stmt:=M7<|(gw<|bW (ae 82) 2).getD 2 (.Pass default)
def agU{Ps:D L}(kE:p.length<=900)(ul:(us.map cu).length<99000)
 (j:∀c e f o h i,r .aO ⟨nU row Ps (us++[.inr<|eH n last p,.inl<|(bJ p).rs.drop 1]) k n (.v<|.bool last) (.v<|.str (tx p)) c e f o h i,hp,(ae 82).sc⟩):
 bu O (aj O<|d+1) G 92 Nf r ⟨nU row Ps us k n (.v<|.bool last) (.v<|.str (tx p)) c e f o h i,hp,(ae 82).sc⟩:=by
 let S:=λ(i:J)(c e f o h z:SV)=>bu O (aj O<|d+1) G (92 -i) (Nf.drop i) r ⟨nU row Ps us k n (.v<|.bool last) (.v<|.str (tx p)) c e f o h z,hp,(ae 82).sc⟩;have s4:∀{q:Internal.Ps}{h i:SV},bJ p=q->S 4 (.v<|.str (tx q.fl)) (.v<|.str (tx q.rs)) (.v<|.str (tx q.wd)) (.v<|ue q.mo) h i:=λ{q h i}hq=>by
  have gg:=bq ig<|xf p
  rw[aN,hq]at gg;have hr:q.rs.length<=900:=UN kE gg;have hs:bj (ue q.mo)=true:=by cases q.mo<;>rfl
  have s6:∀{z:bf}{kd:L},xg last q.rs=kd->(last&&(q.rs.dropWhile dg).isEmpty)=z->S 6 (.v<|.str (tx q.fl)) (.v<|.str (tx q.rs)) (.v<|.str (tx q.wd)) (.v<|ue q.mo) (.v<|.str (tx kd)) (.v<|.bool z):=λ{z kd}hk hz=>by
   have hkl:kd.length<=1:=by refine ax hk ?_;unfold xg;split;clear j;cases last<;>lk;exact aA 1
   refine Ok.len (by rw[aV];exact mr kE)<|Ok.len (by rw[aV];exact mr hr) (Ok.len (by rw[aV];exact g hkl<|by lk) ?_)
   have eI:((n:V)+1+(tx p).length -(tx q.rs).length+(tx kd).length)=((n+1+q.pre.length+kd.length:J):V):=by rw[aV,aV,aV];exact U3 gg
   refine vN.f (by unfold ku;simp only [gc,hs];rfl)<|Z eI (Ok.app (xs:=us.map cu) U (g9 ul<|dk U) U<|Ok.slice (lo:=I 1) (hi:=W) U U (by rw[aV];exact mr hr) ?_)
   refine Z (show(I (1:V))=I ((1:J):V)from U) ?_;rw[lF];have HH:=j (.v<|.str (tx q.fl)) (.v<|.str (tx q.rs)) (.v<|.str (tx q.wd)) (.v<|ue q.mo) (.v<|.str (tx kd))<|.v (.bool z)
   have eu:eH n last p=⟨n,n+1+q.pre.length+kd.length,q,kd,z⟩:=by unfold eH;exact Z hq<|Z hk (Z hz U)
   rw[eu,hq]at HH;unfold nU at HH;rw[on,show∀x y:L⊕Un,[x,y].map cu=[cu x]++[cu y]fromλY Y=>rfl,<-db]at HH;refine Ok.app (xs:=us.map cu++[cu<|.inr ⟨n,n+1+q.pre.length+kd.length,q,kd,z⟩]) U (by refine Z aN ?_;show _+1<_;exact br ul<|by lk) U ?_;exact HH
  have s5:∀{kd:L}{i:SV},xg last q.rs=kd->S 5 (.v<|.str (tx q.fl)) (.v<|.str (tx q.rs)) (.v<|.str (tx q.wd)) (.v<|ue q.mo) (.v<|.str (tx kd)) i:=λ{kd i}hk=>by
   clear j;induction last using dN with
   |false=>
    have s:=s6 hk U;conv at s=>whnf
    exact s
   |true=>
    refine Ok.fn U<|Az (yY hr) ?_
    have ez:(B&&(q.rs.dropWhile dg).isEmpty)=(tx (q.rs.dropWhile dg)==tx []):=by refine Z lE ?_;cases q.rs.dropWhile dg<;>rfl
    (conv=>whnf);have s:=s6 hk ez;conv at s=>whnf
    exact s
  refine aq.tn (a:=q.rs) (b:=[]) U U (λz=>?_) λz=>?_;refine Ok.slice (lo:=W) (hi:=I 1) U U (by rw[aV];exact mr hr)<|Z (show(I (1:V))=I ((1:J):V)from U) ?_;rw[fZ]
  refine s5 ?_;clear j;generalize hx:q.rs=zhx;induction zhx using bk with|nil=>exact aF hx z|cons c m=>rfl
  clear j;induction last using dN with
  |false=>
   have s:=s5 (kd:=[37]) (i:=i)<|Z z U
   (conv=>whnf);conv at s=>whnf
   exact s
  |true=>
   have s:=s5 (kd:=[]) (i:=i)<|Z z U
   (conv=>whnf);conv at s=>whnf
   exact s
 have s3:∀{a b l:L}{h i:SV},l.length<=900->bJ p=mO a b l->S 3 (.v<|.str (tx a)) (.v<|.str (tx l)) (.v<|.str (tx b)) (.v .none) h i:=λ{a b l h i}hl hq=>by
  rw[Nc]at hq;refine Ok.slice (lo:=W) (hi:=I 1) U U (by rw[aV];exact mr hl)<|Z (show(I (1:V))=I ((1:J):V)from U) ?_;rw[fZ]
  refine aq.t (a:=l.take 1) (b:=[46]) U U (λz=>?_) λz=>?_;rw[aa z,ER]at hq;refine Ok.slice (lo:=I 1) (hi:=I 2) U U (by rw[aV];exact mr hl)<|Z (show(I (1:V))=I ((1:J):V)from U) (Z (show(I (2:V))=I ((2:J):V)from U)<|Z (Nd l (dk U)) (aq.t (a:=(l.drop 1).take 1) (b:=[42]) U U (λy=>?_) λy=>?_))
  rw[aa y,FQ]at hq;refine Ok.slice (lo:=I 2) (hi:=W) U U (by rw[aV];exact mr hl)<|Z (show(I (2:V))=I ((2:J):V)from U) ?_;rw[lF]
  have s:=s4 (h:=h) (i:=i) hq;(conv=>whnf);conv at s=>whnf
  exact s;rw[u y]at hq;refine Ok.slice (lo:=I 1) (hi:=W) U U (by rw[aV];exact mr hl)<|Z (show(I (1:V))=I ((1:J):V)from U) ?_;rw[lF]
  refine Ok.fn U<|Az ((i8)▸(g (g (g' _ _) hl)<|by lk)) ?_
  have s:=s4 (h:=h) (i:=i) hq;(conv=>whnf);conv at s=>whnf
  exact s;rw[u z]at hq;have s:=s4 (h:=h) (i:=i) hq;(conv=>whnf);conv at s=>whnf
  exact s
 have s1:∀{a l:L}{f o h i:SV},l.length<=900->bJ p=mO a (eE l).1 (eE l).2->S 1 (.v<|.str (tx a)) (.v<|.str (tx l)) f o h i:=λ{a l f o h i}hl hq=>by
  have hd:(l.drop 1).length<=900:=(i8)▸(g (g' _ _) hl);rw[ER]at hq;refine Ok.slice (lo:=W) (hi:=I 1) U U (by rw[aV];exact mr hl)<|Z (show(I (1:V))=I ((1:J):V)from U) ?_;rw[fZ]
  refine aq.t (a:=l.take 1) (b:=[42]) U U (λz=>?_) λz=>?_;rw[aa z]at hq;refine Ok.slice (lo:=I 1) (hi:=W) U U (by rw[aV];exact mr hl)<|Z (show(I (1:V))=I ((1:J):V)from U) ?_;rw[lF]
  exact s3 hd hq;rw[u z]at hq;exact Ok.fn U<|Az (yY hl) (s3 (g (PM _).length_le hl) hq)
 exact Ok.fn U<|Az (yY kE) (s1 (g (PM _).length_le kE) U)
def agX(a:D L):(ja a).isEmpty=a.isEmpty:=by cases a<;>rfl
def PY{p:L}(h:p.head?=I x):p.take 1=[x]:=by
 induction p with
 |nil=>exact aD h|cons c p=>obtain rfl:=aK h;rfl
def agY{Ps:D L}(hl:Ps.length<=900)(hq:∀q∈Ps,37∉q/\q.length<=900):∀(m j k n:J)(us:D (L⊕Un))(a b c e f o h i:SV),Ps.length<=k+m->m<j->us.length<=2*k->
 (∀mP k' n' a b c e f o h i,UR n (ja<|Ps.drop k) mP->F .aO ⟨nU row Ps (us++mP) k' n' a b c e f o h i,hp,(ae 82).sc⟩)->
 Ok (hM (aj O<|d+1) 96 (bW (ae 82) 2) j) F G ⟨nU row Ps us k n a b c e f o h i,hp,(ae 82).sc⟩:=by
 intro m;induction m with
 |zero=>
  intro j k n us a b c e f o h i hk hj hu H;obtain⟨j,rfl⟩:∃x,j=x+1:=⟨j -1,by exact(n7 hj).symm⟩;refine Ok.wh<|Ok.tY (by rw[b0];exact vU hl) ?_
  refine aq.d (λq=>?_) λq=>?_;rw[b0]at q;exact aF (Int.ofNat_lt.mp q)<|xL hk
  have H:=H [] k n a b c e f o h i<|Z (lV<|hk) (.nil)
  rw[eN]at H;exact H
 |succ m ih=>
  intro j k n us a b c e f o h i hk hj hu H;obtain⟨j,rfl⟩:∃x,j=x+1:=⟨j -1,by exact Co hj⟩;refine Ok.wh<|Ok.tY (by rw[b0];exact vU hl) ?_
  refine aq.d (λq=>?_) λq=>?_;have cV:k<Ps.length:=by rw[b0]at q;exact Int.ofNat_lt.mp q
  obtain⟨p,ps,hd⟩:∃p ps,Ps.drop k=p::ps:=⟨_,_,uM cV⟩;refine cB (iE hd) λkE pd zz=>?_;have ug:=hq p<|uU kE
  let P:=λ(i:J)(us:D (L⊕Un))(a b c e f o h z:SV)=>bu O (aj O<|d+1) G (96 -i) ((gw<|bW (ae 82) 2).drop i) (λfl s=>match fl with
   |.brk=>F .aO s|.ret v=>F (.ret v) s|_=>Ok (hM (aj O<|d+1) 96 (bW (ae 82) 2) j) F G s) ⟨nU row Ps us k n a b c e f o h z,hp,(ae 82).sc⟩
  have ul:(us.map cu).length<99000:=by rw[b0];exact br (g hu<|d7 2 (g (cG zz) hl))<|dk U
  have pl:(Ps.map λp=>CV.str<|tx p).length<=100000:=by rw[b0];exact vU hl
  have s4:∀{rj:D (L⊕Un)}{c e f o h i:SV},rj.length<=2->(∀mP,UR (n+1+p.length) (ja ps) mP->UR n (ja (p::ps)) (rj++mP))->P 3 (us++rj) (.v<|.bool ps.isEmpty) (.v<|.str (tx p)) c e f o h i:=λ{rj c e f o h i}h2 hU=>by
   refine Ok.len (by rw[aV];exact g ug.2<|by lk) ?_;have K:=ih j (k+1) (n+1+p.length) (us++rj) (.v<|.bool ps.isEmpty) (.v<|.str (tx p)) c e f o h i (Wa hk) (vQ hj) (Z aN<|aY hu h2) λmP k' n' a b c e f o h i u=>by rw[db];refine H _ _ _ _ _ _ _ _ _ _ _ ?_;rw[pd]at u;exact Z hd<|hU mP u
   exact K
  have s2:¬(p=[]/\ps≠[])->P 2 us (.v<|.bool ps.isEmpty) (.v<|.str (tx p)) c e f o h i:=λz=>by
   refine Ok.slice (lo:=W) (hi:=I 1) U U (by rw[aV];exact g ug.2<|by lk)<|Z (show(I (1:V))=I ((1:J):V)from U) ?_;rw[fZ]
   refine aq.two (a:=[10]) (b:=[0]) U U (λy=>?_) λy1 y2=>?_;have hy:∃x p',p=x::p'/\(x=10\/x=0):=by
    induction p with
    |nil=>exact aF y<|dk U
    |cons x p=>exact⟨x,p,U,by simpa using y⟩
   refine Ok.cD (a:=[37]) (b:=p) (by show 1+_<=_;exact g (dO ug.2 1)<|by lk)<|Ok.app (xs:=us.map cu) U (g9 ul<|dk U) U ?_
   have K:=s4 (rj:=[.inl (37::p)]) (c:=c) (e:=e) (f:=f) (o:=o) (h:=h) (i:=i) (by show 1<=_;exact dk U) λmP u=>by refine d9 hy λx p' cy hx=>?_;subst cy;rw[show n+1+(x::p').length=n+2+p'.length from Z bw Wb]at u;exact .xh hx (λz=>ug.1<|eW _ z) u
   unfold P nU at K;rw[on]at K;exact K;refine agU ug.2 ul λc e f o h i=>?_;exact s4 (rj:=[.inr<|eH n ps.isEmpty p,.inl<|(bJ p).rs.drop 1]) (aA 2) λmP u=>by
    rw[<-agX];exact .EQ ug.1 (λy=>y1<|PY y) (λy=>y2<|PY y) (λy=>by
     induction ps with
     |nil=>rfl|cons x ps=>exact aF ⟨y,rI _ _⟩ z) (by
     induction ps with
     |nil=>exact .inl U|cons x ps=>exact .inr ⟨_,U⟩) u
  have s1:P 1 us (.v<|.bool ps.isEmpty) (.v<|.str (tx p)) c e f o h i:=by
   induction p with
   |cons x p=>exact s2 λz=>cO pN z.1 U
   |nil=>
    induction ps with
    |nil=>
     have K:=s2 λz=>z.2 U;conv at K=>whnf
     (conv=>whnf);exact K
    |cons x ps=>
     refine cB (iE pd) λNg uh zz=>?_;have ES:=hq x<|uU Ng
     have hx:(Ps.map λp=>CV.str<|tx p)[k+1]?=I (.str<|tx x):=Z rJ<|Z Ng U
     refine Ok.kM (k:=k+1) U hx pl<|Ok.cD (a:=[37]) (b:=x) (by show 1+_<=_;exact g (dO ES.2 1)<|by lk) ?_
     refine Ok.app (xs:=us.map cu) U (SU ul) U<|Ok.kM (k:=k+1) U hx pl ?_
     refine Ok.len (by rw[aV];exact g ES.2<|by lk) ?_;have K:=ih j (k+2) (n+2+x.length) (us++[.inl (37::x)]) (.v<|.bool ag) (.v<|.str (tx [])) c e f o h i (Wc hk) (vQ hj) (by refine Z aN ?_;show _+1<=_;exact Wd hu) λmP k' n' a b c e f o h i u=>by rw[db];refine H _ _ _ _ _ _ _ _ _ _ _ ?_;rw[show k+2=k+1+1 from U,uh]at u;exact Z hd<|.uf ES.1 u
     unfold nU at K;rw[on]at K;exact K
  refine Ok.tY (by rw[b0];exact vU hl)<|Ok.kM (k:=k) (v:=.str<|tx p) U (by refine Z rJ<|Z kE ?_;rfl) (by rw[b0];exact vU hl) ?_
  have e1:((k:V)==((Ps.map λp=>CV.str<|tx p).length:V) -1)=ps.isEmpty:=by
   rw[b0];have:Ps.length=k+(ps.length+1):=by have:=bq ig hd;rw[i8,bw]at this;exact(alm<|cG cV).symm.trans<|bq (k+·) this
   induction ps with
   |nil=>rw[O0]at this;exact beq_iff_eq.mpr<|We this
   |cons x ps=>rw[bw]at this;exact beq_eq_false_iff_ne.mpr<|Wf this
  (conv=>whnf);refine Z e1 ?_;conv at s1=>whnf
  exact s1;rw[b0]at q;have H:=H [] k n a b c e f o h i<|Z (lV<|Ta q) (.nil)
  rw[eN]at H;exact H
noncomputable def Nh:∀a:D L,a.length<=(ja a).length/\∀q∈a,q.length<=(ja a).length
 |[]=>⟨aA _,uR _⟩|p::a=>by
  have c:=Nh a;have e:(ja (p::a)).length=p.length+(ja a).length+1:=by show(p++ja a).length+1=_;exact Z aN U
  refine⟨by refine Z e<|Z bw ?_;exact fF<|g c.1 (bU _ _),λq h=>?_⟩;rcases List.mem_cons.mp h with rfl|h
  exact Wg e;exact g (g (c.2 q h)<|uV (bU _ _))<|bg e.symm
def agZ{n:L}(t:n.length<=800)(h:∀p l A,n=p++l->37∉p->UR p.length l A->Q (.lst<|(.inl p::A).map cu) P):Cl (aj O<|d+2) "_law_units" [.str<|tx n] P Q E:=by
 refine ba (f:=ae 82) U U (l:=[("row",.v<|.str (tx n))]) U<|Ok.split (g t<|dk U) λp o F G=>?_
 have r:=Nh o;have w:=bq ig F;rw[aN]at w;have s:(ja o).length<=800:=g (g (bU _ _)<|bg w.symm) t;refine Ok.kM (k:=0) (v:=.str<|tx p) U U (by rewrite[b0];exact Z bw<|g (fF<|g r.1 s) (by lk)) ?_;refine Ok.kM (k:=0) (v:=.str<|tx p) U U (by rewrite[b0];exact Z bw<|g (fF<|g r.1 s) (by lk)) ?_;refine Ok.len (by rw[aV];exact g (sE t w)<|dk U)<|agY (Ps:=p::o) (by refine Z bw ?_;exact g (fF<|g r.1 s)<|by lk) (λq x=>⟨G q x,?_⟩) o.length 1000 1 p.length [.inl p] .un .un .un .un .un .un .un .un (by refine Z bw ?_;exact Wh) (br (g r.1 s)<|by lk) (by show 1<=2;lk) λy T X a b c e f j i z m=>?_
 rcases List.mem_cons.mp x with rfl|x
 exact g (sE t w)<|dk U
 exact g (r.2 q x)<|g s (by lk)
 exact h p (ja o) y F (G p<|dj ..) m
def Ok.ag0(y:jM t i s.loc=I l)
 (h:vE T d (λY Y=>bA) n c (λv a=>Ok (bx v) (λq a=>aq q (vE T d (λY Y=>bA) n e (λv a=>bj v=B/\Ok (cW (c7 T d n e t [c] f) m) (λp k=>P (v::p) k) E {a with loc:=s.loc,sc:=s.sc}) a)<|Ok (cW (c7 T d n e t [c] f) m) P E {a with loc:=s.loc,sc:=s.sc}) (λY Y=>bA) a) {s with loc:=l,sc:=f}):
 Ok (cW (c7 T d n e t [c] f) (i::m)) P E s:=by
 have j:Ok (ty T d n e [c]) (λo a=>match o with
  |some v=>Ok (cW (c7 T d n e t [c] f) m) (λp k=>P (v::p) k) E {a with loc:=s.loc,sc:=s.sc}
  |none=>Ok (cW (c7 T d n e t [c] f) m) P E {a with loc:=s.loc,sc:=s.sc}) (λY Y=>bA) {s with loc:=l,sc:=f}:=by
  refine .bind<|.bind (((pv n).e _ _ _ _ h).mono λv a h=>h.mono λq a h=>?_)
  induction q with
  |false=>exact h|true=>exact .bind<|((pv n).e _ _ _ _ h).mono λv a h=>Z (aa h.1)<|h.2
 unfold Ok at j;unfold Ok;rw[yF];have z:c7 T d n e t [c] f i s=match ty T d n e [c] {s with loc:=l,sc:=f} with
  |.ok v a=>.ok v {a with loc:=s.loc,sc:=s.sc}|_=>.C:=by
  unfold c7;exact Z y U
 refine Z z ?_;generalize r:ty T d n e [c] {s with loc:=l,sc:=f}=w;induction w using Internal.R.casesOn with
 |C=>rw[r]at j;exact j|exc _ _=>rw[r]at j;exact j|ok v s1=>
  rw[r]at j;dsimp only at j⊢;induction v with
  |some v=>cases x:cW (c7 T d n e t [c] f) m {s1 with loc:=s.loc,sc:=s.sc}<;>rw[x]at j<;>exact j
  |none=>cases x:cW (c7 T d n e t [c] f) m {s1 with loc:=s.loc,sc:=s.sc}<;>rw[x]at j<;>exact j
def Ok.ext(h:ay s.loc x=I (.ol xs))(a:xs.length+ys.length<100000)(q:Q .none (cq x (.ol<|xs++ys) s)):Ok (cH O c (.blt "list.extend") [.bY x,.lst ys]) Q E s:=by show Ok (yu (.bY x)<|.lst ys) Q E s;refine Ok.run ?_ q;show aS (qg<|ay s.loc x) _=_;exact Z h<|aa a
def rk:CV->Prop
 |.str _=>fD|_=>bA
def ag1(X:∀x,x=.none\/rk x->∃l,jM t x f=I l/\(∀F:CV->K->Prop,(∀q,(q=B->rk x)->F (.bool q) ⟨l,i,j⟩)->vE T w (λY Y=>bA) n c F ⟨l,i,j⟩)/\∀F:CV->K->Prop,F x ⟨l,i,j⟩->vE T w (λY Y=>bA) n e F ⟨l,i,j⟩):
 ∀(a:D CV)(P:D CV->K->Prop),(∀x∈a,x=.none\/rk x)->(∀d:D CV,d.length<=a.length->(∀v∈d,rk v)->P d ⟨f,i,m⟩)->Ok (cW (c7 T w n e t [c] j) a) P E ⟨f,i,m⟩:=by
 intro a;induction a with
 |nil=>exactλP Y h=>h [] (aA 0) λY h=>nomatch h|cons x a z=>
  refineλP o h=>cC (X x<|o x (dj ..)) λl b A G=>?_;have Q:∀y∈a,y=.none\/rk y:=λy S=>o y<|eW _ S
  refine Ok.ag0 b<|A _ λq k=>aq.i (λe=>?_) λY=>?_
  have k:=k e;refine G _ ⟨by cases x<;>first|rfl|exact k.elim,(z _ Q λd p r=>h (x::d) (fF p) λv s=>?_)⟩;clear G A b o h;rcases List.mem_cons.mp s with rfl|s
  exact k;exact r v s;exact z _ Q λd p r=>h d (uV p) r
abbrev waL(c:D (L⊕Un))(d:D CV)(a:SV):D (H×SV):=[("units",.v<|.lst (c.map cu)),("found",.ol d),("unit",a)]
def ag3{us:D (L⊕Un)}(G:us.length<=1000)(h:∀i:D CV,i.length<=3*us.length->(∀v∈i,rk v)->Q (.lst i) A):Cl (aj O<|d+1) "_law_wants" [.lst<|us.map cu] A Q E:=by
 refine ba (f:=ae 83) U U (l:=[("units",.v<|.lst (us.map cu))]) U ?_;show Ok (dD (λx=>(dm O (aj O d) 97 (kS<|bW (ae 83) 1)<|.v x).bind λY=>cb O (aj O d) 97<|gw (bW (ae 83) 1))<|us.map cu) _ _ _;refine Ok.xa (I:=λk s=>∃i a,i.length<=3*k/\(∀v∈i,rk v)/\s=⟨waL us i a,A,(ae 83).sc⟩) us.length (us.map cu) 0 _ (by rw[b0];exact Cj) ⟨[],.un,aA _,(λY h=>nomatch h),U⟩ (λx j k s P c X h=>?_) λs c=>?_;refine fP c λi a o r n=>?_;subst n;refine av (List.mem_map.mp j) λw S n=>?_;subst n;induction w with
 |inl t=>exact h _ ⟨i,.v<|cu (.inl t),by exact Us o,r,U⟩|inr w=>
  refine ag1 (λx j=>?_) _ _ (λx j=>?_) λb p T=>?_;rcases j with rfl|j
  exact⟨_,U,λF y=>y ag λz=>ft z,λF h=>h⟩;induction x using CV.casesOn with
  |str t=>refine⟨_,U,λF y=>aq.i (λe=>?_) λe=>?_,λF h=>h⟩;exact y _ λY=>trivial;(conv=>whnf);exact Z e<|y ag λz=>ft z
  |_=>exact j.elim
  rcases List.mem_cons.mp j with rfl|j
  exact .inr trivial;rcases List.mem_cons.mp j with rfl|j
  cases w.ps.mo with|none=>exact .inl U|some m=>exact .inr trivial
  exact Z (List.mem_singleton.mp j)<|.inr trivial
  have p:b.length<=3:=p;refine⟨by exact g p<|by lk,(Ok.ext (xs:=i) (ys:=b) U (br (aY (g o<|d7 3 (sH P G)) p)<|by lk)<|h _ ⟨i++b,.v<|cu (.inr w),by refine Z aN ?_;exact aY o p,λv q=>?_,U⟩)⟩;rcases List.mem_append.mp q with q|q
  exact r v q;exact T v q
 refine fP c λi a o r n=>?_;subst n;rw[i4,b0]at o;exact h i o r
noncomputable def xi(a:V)(c:J)(l:L):L:=iJ (a -l.length).toNat c++l
def ET(a:V)(c:J)(l:L):(xi a c l).length=(a -l.length).toNat+l.length:=by unfold xi;exact Z aN<|Z hE U
def AA(i:l.length<=1000000)(e:a.natAbs<=100000)(h:Q (.str<|tx (xi a c l)) j):Cl (aj O<|d+1) "_law_ahead" [.str<|tx l,.int a,.str<|tx [c]] j Q E:=by
 refine ba (f:=ae 84) U U (l:=[("row",.v<|.str (tx l)),("many",.v<|.int a),("sign",.v<|.str (tx [c]))]) U ?_;(conv=>whnf);refine Ok.len (by rw[aV];exact g i<|by lk) ?_;unfold xi at h;rw[aV];refine aq.d (λq=>?_) λq=>?_;rw[show(a -l.length).toNat=0 from Int.toNat_eq_zero.mpr<|Int.sub_nonpos_of_le q]at h;exact h;refine Ok.tW (c:=c) (⟨bR (by lk) (yL e).1,bR (yL e).2<|by lk⟩)<|Ok.cD (by exact Z hE<|g (aY (g HR e) (g (Ci q) e)) (by lk)) ?_
 refine Ok.len (by rw[aV];exact g (Ci q)<|g e (by lk))<|Ok.slice (lo:=I (l.length:J)) (hi:=W) (by rw[aV];rfl) U (by rewrite[aV];exact Z aN<|Z hE (g (aY (g HR e) (g (Ci q) e)) (by lk))) ?_
 rewrite[lF];exact Z (List.drop_append_of_le_length<|by rw[hE];exact Int.ofNat_le.mp<|bR (jz (Int.not_le.mp q)) (N6 _))<|Z List.drop_replicate (Z (show a.toNat -l.length=(a -l.length).toNat from Ti) h)
def mxI{a b:J}:(if(b:V)>(a:V)then(b:V)else(a:V))=((max a b:J):V):=by
 rcases j8 a b with z|z
 exact(aa<|Int.ofNat_lt.mpr z).trans<|bq uz (aiQ<|cG z).symm
 exact(u<|Int.not_lt.mpr (Int.ofNat_le.mpr z)).trans<|bq uz (aiR z).symm
def ag5{a:J}(i:t.length<=1000000)(j:a<=20000)(h:Q (.str<|tx (hH fl a t)) k):Cl (aj O<|d+2) "_law_padded" [.str<|tx t,.int a,.str<|tx fl] k Q E:=by
 refine ba (f:=ae 85) U U (l:=[("row",.v<|.str (tx t)),("width",.v<|.int a),("flags",.v<|.str (tx fl))]) U ?_;unfold hH at h;refine aq.jZ (e:=45) U (λq=>?_) λq=>?_;rw[aa q]at h;refine Ok.tW (c:=32) (⟨bR (dk U)<|dX _,bR (Int.ofNat_le.mpr j)<|dk U⟩)<|Ok.cD (by exact Z hE<|g (aY i j) (by lk)) ?_
 refine Ok.len (by rw[aV];exact g i<|by lk) ?_;have e:(if((tx t).length:V)>(a:V)then((tx t).length:V)else(a:V))=((max a t.length:J):V):=by rw[aV];exact mxI
 (conv=>whnf);refine Z e<|Ok.slice (lo:=W) (hi:=I ((max a t.length:J):V)) U U (by rewrite[aV];exact Z aN<|Z hE (g (aY i j) (by lk))) ?_
 rewrite[fZ];exact Z aln<|Z (m4<|Nat.le_max_right _ _) (Z List.take_replicate<|Z (show min (max a t.length -t.length) (a:V).toNat=a -t.length from TV) h)
 rw[u q]at h;refine Ok.fn U<|AA i (g j<|by lk) ?_
 unfold xi;exact Z (show((a:V) -t.length).toNat=a -t.length from AR _ _) h
def Ni(a:L)(e:J)(c:al V)(n:V)(k:J):L:=
 let t:=mK c n<|cI n.natAbs (base k)
 let d:=j4 a n k t<|kR a n
 d++hY k (hW a e c d t)
abbrev lnL(n:V)(k:J)(a:L)(c:J)(d:al V)(e f h:SV):D (H×SV):=[("amount",.v<|.int n),("kind",.v<|.str (tx [k])),("flags",.v<|.str (tx a)),("width",.v<|.int c),("most",.v<|fX d),("base",e),("body",f),("front",h)]
def ag7{wd:J}(hk:k∈[100,105,117,120,88,111,98,66])(hn:n.natAbs<2^128)(hw:wd<=20000)(hm:∀m,mo=I m->0<=m/\m<=20000)(h:Q (.str<|tx (Ni fl wd mo n k)) hp):Cl (aj O<|d+2) "_law_number" [.int n,.str<|tx [k],.str<|tx fl,.int wd,fX mo] hp Q E:=by
 have hmv:bj (fX mo)=true:=by cases mo<;>rfl
 refine ba (f:=ae 86) U U (l:=[("amount",.v<|.int n),("kind",.v<|.str (tx [k])),("flags",.v<|.str (tx fl)),("width",.v<|.int wd),("most",.v<|fX mo)]) U ?_;let P:=λ(i:J)(bd fr:SV)=>bu O (aj O<|d+1) (λx s=>E x s.hp) (100 -i) ((ae 86).body.drop i) (bB Q) ⟨lnL n k fl wd mo (.v<|.int (base k)) bd fr,hp,(ae 86).sc⟩;have s7:∀{t ld:L},t.length<=90000->ld.length<=10->Q (.str<|tx (ld++hY k t)) hp->P 7 (.v<|.str (tx t)) (.v<|.str (tx ld)):=λ{t ld}ht hl h=>by
  unfold hY at h;refine aq.c (e:=88) U (λq=>?_) λq=>?_
  .rw[aa q]at h;have hu:=Ep t;exact Ok.up (g hu<|g (d7 3 ht) (dk U))<|Ok.cD (g (aY hl<|g hu (d7 3 ht))<|dk U) h
  .rw[u q]at h;exact Ok.cD (g (aY hl ht)<|by lk) h
 have s6:∀{t ld:L},t.length<=50000->ld.length<=10->Q (.str<|tx (ld++hY k (hW fl wd mo ld t))) hp->P 6 (.v<|.str (tx t)) (.v<|.str (tx ld)):=λ{t ld}ht hl h=>by
  unfold hW at h;refine aq.jZ (e:=48) U (λq=>?_) λq=>?_
  .refine aq.Mx (e:=45) U (λq2=>?_) λq2=>?_
   .clear hm;induction mo using bL with
    |none=>rw[aa ⟨q,q2,U⟩]at h;refine Ok.len (by rw[aV];exact g hl<|by lk) ?_;rw[aV];exact Ok.fn U<|AA (g ht<|by lk) (Uo hw hl) (s7 (by rw[ET];exact g (aY (g yM hw) ht)<|by lk) hl h)
    |some m=>rw[u λz=>cO OS z.2.2 U]at h;exact s7 (g ht<|by lk) hl h
   .rw[u λz=>z.2.1 q2]at h;(conv=>whnf);exact Z (Mw (e:=45) U q2)<|s7 (g ht<|by lk) hl h
  .rw[u λz=>q z.1]at h;(conv=>whnf);exact Z (tZ (e:=48) U q)<|s7 (g ht<|by lk) hl h
 have EU:((2:V)==(base k:J)||((16:V)==(base k:J)||ag))=decide (k∈(ak "xXbB").cps.toList):=(by decide +kernel:∀k∈([100,105,117,120,88,111,98,66]:L),((2:V)==(base k:J)||((16:V)==(base k:J)||ag))=decide (k∈(ak "xXbB").cps.toList)) k hk;have EV:base k=8<->k=111:=(by decide:∀k∈([100,105,117,120,88,111,98,66]:L),base k=8<->k=111) k hk;have s5:∀{t ld:L},t.length<=50000->ld.length<=8->(∀l1,l1=(if 35∈fl/\k∈(ak "xXbB").cps.toList/\n≠0 then ld++([48]++[k])else ld)->Q (.str<|tx (l1++hY k (hW fl wd mo l1 t))) hp)->P 5 (.v<|.str (tx t)) (.v<|.str (tx ld)):=λ{t ld}ht hl h=>by
  refine aq.jZ (e:=35) U (λq=>?_) λq=>?_
  .skip;(conv=>whnf);show aq ((2:V)==(base k:J)||((16:V)==(base k:J)||ag)) _ _;refine Z EU<|aq.d (λq2=>?_) λq2=>?_
   .refine aq.qn (λq3=>?_) λq3=>?_
    .rw[aa ⟨q,q2,q3⟩]at h;refine Ok.cD (a:=ld) (b:=[48]) (by show _+1<=_;exact br hl<|by lk)<|Ok.cD (a:=ld++[48]) (b:=[k]) (by refine Z aN ?_;show _+1+1<=_;exact lk 2 hl U) ?_
     rw[db];exact s6 ht (by refine Z aN ?_;show _+2<=_;exact g (dC hl _)<|by lk)<|h _ U
    .rw[u λz=>z.2.2 q3]at h;exact s6 ht (g hl<|by lk)<|h _ U
   .rw[u λz=>q2 z.2.1]at h;(conv=>whnf);show aq ((2:V)==(base k:J)||((16:V)==(base k:J)||ag)) _ _;exact Z EU<|Z (dx q2) (s6 ht (g hl<|by lk)<|h _ U)
  .rw[u λz=>q z.1]at h;(conv=>whnf);exact Z (tZ (e:=35) U q)<|s6 ht (g hl<|by lk) (h _ U)
 have s4:∀{t ld:L},t.length<=50000->ld.length<=5->(∀l1,l1=j4 fl n k t ld->Q (.str<|tx (l1++hY k (hW fl wd mo l1 t))) hp)->P 4 (.v<|.str (tx t)) (.v<|.str (tx ld)):=λ{t ld}ht hl h=>by
  unfold j4 at h;have no:¬(35∈fl/\k=111)->P 5 (.v<|.str (tx t)) (.v<|.str (tx ld)):=λz=>by rw[u z]at h;exact s5 ht (g hl<|by lk) h
  refine aq.jZ (e:=35) U (λq=>?_) λq=>?_
  .refine aq.q (λq2=>?_) λq2=>?_
   .have ko:k=111:=EV.mp<|lO q2
    have nk:∀y:L,y=(if 35∈fl/\k∈(ak "xXbB").cps.toList/\n≠0 then y++([48]++[k])else y):=λy=>by rw[u];rintro ⟨_,z,_⟩;rw[ko]at z;exact aF z<|by decide +kernel
    rw[aa ⟨q,ko⟩]at h;refine Ok.slice (lo:=W) (hi:=I 1) U U (by rw[aV];exact g ht<|by lk)<|Z (show(I (1:V))=I ((1:J):V)from U) ?_;rw[fZ]
    refine aq.tn (a:=t.take 1) (b:=[48]) U U (λq3=>?_) λq3=>?_
    .rw[u q3]at h;exact Ok.cD (a:=ld) (b:=[48]) (by show _+1<=_;exact br hl<|by lk)<|s5 ht (by refine Z aN ?_;show _+1<=_;exact br hl<|by lk) λl1 e=>h l1<|by refine Z e ?_;rw[<-nk]
    .rw[aa q3,eN]at h;exact s5 ht (g hl<|by lk) λl1 e=>h l1<|by refine Z e ?_;rw[<-nk]
   .skip;(conv=>whnf);exact Z (beq_eq_false_iff_ne.mpr q2)<|no λz=>q2<|by exact Z (EV.mpr z.2) U
  .skip;(conv=>whnf);exact Z (tZ (e:=35) U q)<|no λz=>q z.1
 have s3:∀{t:L},t.length<=50000->(∀l1,l1=j4 fl n k t (kR fl n)->Q (.str<|tx (l1++hY k (hW fl wd mo l1 t))) hp)->P 3 (.v<|.str (tx t)) .un:=λ{t}ht h=>by
  unfold kR at h;refine aq.d (λq=>?_) λq=>?_
  .rw[aa q]at h;exact s4 (ld:=[45]) ht (by show 1<=5;lk) h
  .rw[u q]at h;refine aq.jZ (e:=43) U (λq=>?_) λq=>?_
   .rw[aa q]at h;exact s4 (ld:=[43]) ht (by show 1<=5;lk) h
   .rw[u q]at h;refine aq.jZ (e:=32) U (λq=>?_) λq=>?_
    .rw[aa q]at h;exact s4 (ld:=[32]) ht (by show 1<=5;lk) h
    .rw[u q]at h;exact s4 (ld:=[]) ht (by show 0<=5;lk) h
 have s2:P 2 (.v<|.str (tx<|cI n.natAbs (base k))) .un:=by
  have hf:=Ae n.natAbs<|base k
  induction mo using bL with
  |none=>
   have K:=s3 (t:=cI n.natAbs<|base k) (g hf<|by lk) λl1 e=>by subst e;exact h
   (conv=>whnf);conv at K=>whnf
   exact K
  |some m=>
   have hm:=hm m U;have h:∀t,t=mK (I m) n (cI n.natAbs<|base k)->Q (.str<|tx (j4 fl n k t (kR fl n)++hY k (hW fl wd (I m) (j4 fl n k t<|kR fl n) t))) hp:=λt e=>by subst e;exact h
   unfold mK at h;dsimp only at h;refine aq.q (λq=>?_) λq=>?_
   .refine aq.q (λq2=>?_) λq2=>?_
    .rw[aa ⟨q,q2⟩]at h;exact s3 (t:=[]) (dW _) λl1 e=>by subst e;exact h _ U
    .rw[u λz=>q2 z.2]at h;refine Ok.fn U<|AA (g hf<|by lk) (q▸dW _) ?_
     exact s3 (by rw[ET];exact g (aY (vK (m:=0)<|AQ q) hf)<|dk U) λl1 e=>by subst e;exact h _ U
   .rw[u λz=>q z.1]at h;(conv=>whnf);refine Z (beq_eq_false_iff_ne.mpr q)<|Ok.fn U (AA (g hf<|by lk) (g (qA (n:=20000) hm.1 hm.2)<|by lk) ?_)
    exact s3 (by rw[ET];exact Tp hf hm) λl1 e=>by subst e;exact h _ U
 have hb:=My k;have s1:P 1 .un .un:=by
  refine aq.q (λq=>?_) λq=>?_
  .refine Ok.Ai (g hn<|by lk) ?_;have e:ak (toString ((n.natAbs:J):V))=tx (cI n.natAbs<|base k):=by
    refine Z (MD<|SW hn) ?_;unfold wZ;refine Z (u<|Int.not_lt.mpr (dX _)) ?_;rewrite[ali];exact Z (show base k=10 from lO q) U
   exact Z e s2
  .exact Ok.fn U<|MV hb.1 hb.2 hn s2
 clear s7 s6 s5 s4 s3 s2 hb EV EU hmv h hm hn hw;simp only [rL,x3,uX]at hk;have K:=s1;clear s1;rcases hk with rfl|rfl|rfl|rfl|rfl|rfl|rfl|rfl
 all_goals
  (conv=>whnf);conv at K=>whnf
  exact K
end
section
open PySem
set_option backward.match.sparseCases true
def rl(e:Er)(v:CV):Prop:=∃a b:H,v=.lst [.str a,.str b]/\(a=""\/a=e.1)/\(b=""\/b=e.2)
def EW(o:dL L)(v:CV):Prop:=match o with|.ok t=>v=.str (tx t)|.error e=>rl e v
def ia(R:Rc)(k:J)(c:L)(d:J)(a:al V):dL L:=
 if hJ k then cS (rd R) λn=>.ok<|Ni c d a n k
 else if k=99 then j5 R
 else .ok (nR a<|if k=115 then R.dp.cps.toList else R.sh.cps.toList)
noncomputable def gj:L:=[100,105,117,120,88,111,98,66,99,115,112]
def AB{R:Rc}(d:k∈gj):fj fl e f k (R::h)=cS (ia R k fl e f) λt=>.ok (hH fl e t,h):=by
 have i:f6 k=false:=by revert k;decide +kernel
 unfold fj ia;refine Z (u<|by rw[i];lk) ?_;by_cases a:hJ k=B;rw[aa a,aa a];dsimp only;cases rd R<;>rfl;rw[u a,u a];by_cases c:k=99;rw[aa c,aa c];dsimp only;cases j5 R<;>rfl;rw[u c,u c];have:decide (k∈(ak "sp").cps.toList)=true:=by
  revert k;intro k d _ a c;have:∀k∈gj,¬hJ k=B->¬k=99->decide (k∈(ak "sp").cps.toList)=true:=by decide +kernel
  exact this k d a c
 rw[this,u<|dk U];rfl
noncomputable def AC:D fY:=[.nil,.z7,.z8,.str,.sym,.arr,.wT,.fS,.cls]
def AD(s:fY):AC[s.ctorIdx]?=I s:=by cases s<;>rfl
def EX(k:fY)(x:H)(h:AC.all (λs=>(s.nm==x)==(s.ctorIdx==k.ctorIdx))=B)(s:fY):s=k/\(s.nm==x)=B\/s≠k/\(s.nm==x)=false:=by
 have q:=eq_of_beq<|List.all_eq_true.mp h s (uU<|AD s)
 by_cases e:s.ctorIdx=k.ctorIdx;exact .inl ⟨aK<|(AD s).symm.trans ((bq (AC[·]?) e).trans<|AD k),q.trans<|beq_iff_eq.mpr e⟩;exact .inr ⟨λz=>e<|bq _ z,q.trans<|beq_eq_false_iff_ne.mpr e⟩
def Nj(s:fY):s=.str/\(s.nm==ak "String")=B\/s≠.str/\(s.nm==ak "String")=false:=EX .str _ (by decide +kernel) s
def ag9(s:fY):s=.sym/\(s.nm==ak "Symbol")=B\/s≠.sym/\(s.nm==ak "Symbol")=false:=EX .sym _ (by decide +kernel) s
def Nk(h:AC.all p=B)(s:fY):p s=true:=List.all_eq_true.mp h s<|uU (AD s)
def Nl(s:fY):(s.nm==ak "Integer")=false:=eq_of_beq<|Nk (p:=λs=>(s.nm==ak "Integer")==ag) (by decide +kernel) s
def aha(h:s≠.str):ic s="TypeError":=by induction s with|str=>exact aF U h|_=>rfl
def ahb(d:H)(h:s≠.str)(e:s≠.sym):im s d=ak "can't convert "++iH (I s)++ak " into Integer":=by have a:∀a b c:H,a++(b++c)=a++b++c:=λa b c=>(akJ a b c).symm;induction s with|str=>exact aF U h|sym=>exact aF U e|_=>exact a _ _ _
def ib(d:J)(Q E:cT)(e:D aQ)(v:CV)(c:al fY)(f h:H)(a:al V)(k j:J)(m:L)(n:al V)(i:J):Prop:=
 bu O (aj O<|d+2) (λx s=>E x s.hp) (100 -i) ((ae 87).body.drop i) (bB Q) ⟨[("record",.v<|dh ⟨v,c,f,h,a⟩),("kind",.v<|.str (tx [k])),("flags",.v<|.str (tx m)),("width",.v<|.int j),("most",.v<|fX n),("sort",.v<|.str (iH c)),("number",.v<|fX a),("row",.un)],e,(ae 87).sc⟩
def mQ(Q:cT)(a:D aQ)(R:Rc)(k:J)(c:L)(d:J)(e:al V):Prop:=∀v,EW (ia R k c d e) v->Q v a
def mQ.to{R:Rc}(h:mQ Q a R k fl c d)(e:ia R k fl c d=x):∀v,EW x v->Q v a:=e▸h
def ahc(n:c.length<=1000)(o:hJ k=B)(h:mQ Q q ⟨v,I s,r,c,W⟩ k fl t w):ib d Q E q v (I s) r c W k t fl w 4:=by
 unfold ib;replace h:=h.to (x:=.error (ic s,im s c))<|by unfold ia;exact Z (aa o) U
 rcases Nj s with⟨rfl,_⟩|⟨f,e⟩
 exact Ok.add (by rw[gi];exact g (aY (show _<=1000 from by decide +kernel) n)<|dk U)<|h _ ⟨_,_,U,.inr U,.inr U⟩
 (conv=>whnf);refine Z (show(iH (I s)==ak "String")=ag from e) ?_;clear e;rcases ag9 s with⟨rfl,_⟩|⟨b,i⟩
 exact h _ ⟨_,_,U,.inr U,.inl U⟩;have a:s.nm.length<=100:=jx<|Nk (p:=λs=>decide (s.nm.length<=100)) (by decide +kernel) s
 (conv=>whnf);refine Z (show(iH (I s)==ak "Symbol")=ag from i) ?_;clear i;have a:(iH<|I s).length<=100:=a;generalize l:iH (I s)=y at a⊢;(conv=>whnf);have j:(ak "can't convert ").length<=100:=by decide +kernel
 have A:(ak " into Integer").length<=100:=by decide +kernel
 refine Ok.add (by rw[gi];exact g (aY j a)<|dk U) ?_;have m:(ak "can't convert "++y).length<=200:=by rw[gi];exact g (aY j a)<|by lk
 generalize F:ak "can't convert "++y=z at m⊢;(conv=>whnf);refine Ok.add (by rw[gi];exact g (aY m A)<|by lk) ?_;subst F;subst l;refine h _ ⟨_,_,U,.inr ?_,.inr ?_⟩;exact(aha f).symm;exact(ahb c f b).symm
def Nm(j:n.natAbs<2^128)(o:k∈gj)(p:i<=20000)(q:∀m,a=I m->0<=m/\m<=20000)(c:bj (fX a)=B)(e:hJ k=B)(h:mQ Q r ⟨v,so,s,t,I n⟩ k fl i a):ib d Q E r v so s t (I n) k i fl a 3:=by
 unfold ib;have f:k∈[100,105,117,120,88,111,98,66]:=(by decide +kernel:∀k∈gj,hJ k=B->k∈[100,105,117,120,88,111,98,66]) k o e;refine Ok.fx (Z gc<|Z gc (Z gc<|Z gc (Z gc (Z c U))))<|ag7 f j p q (h _ ?_)
 unfold ia;exact Z (aa e) U
def ahd(n:c.length<=1000)(e:hJ k=B)(h:mQ Q f ⟨v,I s,i,c,W⟩ k fl j m):ib d Q E f v (I s) i c W k j fl m 3:=by
 have a:ib d Q E f v (I s) i c W k j fl m 4:=ahc n e h;unfold ib at a⊢;(conv=>whnf);conv at a=>whnf
 exact a
def ahe(i:bI r ⟨v,so,j,c,num⟩)(x:c.length<=1000)(o:k∈gj)(p:q<=20000)(t:∀m,f=I m->0<=m/\m<=20000)(a:bj (fX f)=B)(e:hJ k=B)(h:mQ Q y ⟨v,so,j,c,num⟩ k fl q f):ib d Q E y v so j c num k q fl f 3:=by
 rcases so with _|s
 refine qb i λn w z w w b=>?_;rw[show num=I n from z]at h⊢;exact Nm (g b<|by lk) o p t a e h;rcases num with _|n
 exact ahd x e h;exact Nm (g9 (i.num n U).1<|by lk) o p t a e h
def ahf(h:mQ Q m ⟨v,W,o,p,I n⟩ 99 fl r s):ib d Q E m v W o p (I n) 99 r fl s 2:=by
 have t:ia ⟨v,W,o,p,I n⟩ 99 fl r s=j5 ⟨v,W,o,p,I n⟩:=by unfold ia;exact Z (u<|by decide +kernel)<|Z (aa U) U
 replace h:=h.to t;have e:nb n=B->Q (.str<|tx [n.toNat]) m:=λz=>h _ (by unfold j5;dsimp only [PN];exact Z (aa z) U)
 have i:¬nb n=B->Q (.lst [.str "ArgumentError",.str "invalid character"]) m:=λz=>h _ (by unfold j5;dsimp only [PN];exact Z (u z)<|⟨_,_,U,.inr U,.inr U⟩)
 have w:nb n=B<->(0<=n/\n<55296)\/(57344<=n/\n<1114112):=by unfold nb;rw[om,cN,cN,il,il,il,il]
 rw[w]at e i;clear h t w;unfold ib;refine aq.d (λf=>?_) λf=>?_;refine aq.d (λj=>?_) λj=>?_;(conv=>whnf);exact Z (i5 j)<|Ok.chr (⟨f,pQ j<|by lk⟩) (e<|.inl ⟨f,j⟩)
 refine aq.d (λc=>?_) λc=>?_;refine aq.d (λa=>?_) λa=>?_;exact Ok.chr (⟨bR (by lk)<|jz c,a⟩)<|e (.inr<|⟨c,a⟩)
 exact i λk=>k.elim (λq=>a<|pQ q.2 (by lk)) λq=>a q.2;(conv=>whnf);exact Z (dx c)<|i (λq=>q.elim (λq=>j q.2) λq=>c<|lM (dk U) q.1)
 (conv=>whnf);refine Z (dx f)<|aq.d (λc=>?_) λc=>?_
 refine aq.d (λa=>?_) λa=>?_;exact Ok.chr (⟨bR (by lk)<|jz c,a⟩)<|e (.inr<|⟨c,a⟩)
 exact i λk=>k.elim (λq=>a<|pQ q.2 (by lk)) λq=>a q.2;(conv=>whnf);exact Z (dx c)<|i (λk=>k.elim (λq=>f q.1) λq=>f<|bR (by lk) q.1)
def ahg(f:a.cps.toList.length<=300)(h:mQ Q m ⟨v,I s,a,c,num⟩ 99 fl i j):ib d Q E m v (I s) a c num 99 i fl j 2:=by
 have k:ia ⟨v,I s,a,c,num⟩ 99 fl i j=j5 ⟨v,I s,a,c,num⟩:=by unfold ia;exact Z (u<|by decide +kernel)<|Z (aa U) U
 replace h:=h.to k;clear k;unfold ib;(conv=>whnf);refine Z (show(iH (I s)==ak "Integer")=ag from Nl s) ?_;(conv=>whnf);rcases Nj s with⟨rfl,_⟩|⟨n,e⟩
 refine Ok.slice (lo:=W) (hi:=I 1) U U (by rw[xU]at f;exact g f<|dk U)<|Z (jq a) (Z (show(I (1:V))=I ((1:J):V)from U) ?_);rw[fZ]
 exact h _ U;refine Z (show(iH (I s)==ak "String")=ag from e)<|h _ ?_
 cases s<;>first|exact⟨_,_,U,.inr U,.inl U⟩|exact aF U n
def ahh{r:D aQ}(o:bI r ⟨v,so,c,f,num⟩)(t:c.cps.toList.length<=300/\f.cps.toList.length<=300)(w:k∈gj)(y:x<=20000)(b:∀m,i=I m->0<=m/\m<=20000)(j:bj (fX i)=B)(e:¬k∈(ak "sp").cps.toList)(h:mQ Q l ⟨v,so,c,f,num⟩ k fl x i):ib d Q E l v so c f num k x fl i 2:=by
 by_cases q:k=99;rw[q]at h⊢;rcases so with _|s
 refine cC o λn A z A=>?_;rw[show num=I n from z]at h⊢;exact ahf h;exact ahg t.1 h;have a:=ahe (d:=d) (E:=E) o (by have:=t.2;rw[xU]at this;exact g this<|dk U) w y b j ((by decide +kernel:∀k∈gj,¬k∈(ak "sp").cps.toList->¬k=99->hJ k=B) k w e q) h;unfold ib;refine aq.c (e:=99) U (λp=>?_) λY=>?_;exact aF p q;exact a
def Nn{Q E:cT}(j:x.cps.toList.length<=300)(a:∀m,c=I m->0<=m/\m<=20000)(h:Q (.str<|tx (nR c x.cps.toList)) n):bu O (aj O<|d+2) (λx s=>E x s.hp) 96 ((qJ<|bW (ae 87) 1).drop 1) (λi s=>match i with
 |.aO=>bu O (aj O<|d+2) (λx s=>E x s.hp) 98 ((ae 87).body.drop 2) (bB Q) s|f=>bB Q f s) ⟨[("record",.v<|dh ⟨v,so,o,p,num⟩),("kind",.v<|.str (tx [k])),("flags",.v<|.str (tx i)),("width",.v<|.int q),("most",.v<|fX c),("sort",.v<|.str (iH so)),("number",.v<|fX num),("row",.v<|.str x)],n,(ae 87).sc⟩:=by
 rw[jq x]at*;rcases c with _|m
 exact h;have a:=a m U;refine aJ (g8 a.1) λm e=>?_;subst e;refine Ok.slice (lo:=W) (hi:=I (m:V)) U U (g j<|by lk) ?_;rw[fZ];exact h
def ahi{d:J}{i:D aQ}{E:cT}(y:bI r ⟨v,so,a,c,num⟩)(j:a.cps.toList.length<=300/\c.cps.toList.length<=300)(t:k∈gj)(z:n<=20000)(o:∀m,f=I m->0<=m/\m<=20000)(p:bj (fX f)=B)(h:mQ Q i ⟨v,so,a,c,num⟩ k fl n f):ib d Q E i v so a c num k n fl f 1:=by
 have w:_->ib d Q E i v so a c num k n fl f 2:=λe=>ahh y j t z o p e h;unfold ib;refine aq.rc (λq=>?_) λq=>w<|Pw q
 clear w;have s:=(by decide +kernel:∀k∈gj,k∈(ak "sp").cps.toList->k=115\/k=112) k t<|jx q
 replace h:=h.to (x:=.ok<|nR f (if k=115 then a.cps.toList else c.cps.toList)) (by
  unfold ia;rcases s with rfl|rfl
  exact Z (u<|by decide +kernel)<|Z (u<|dk U) U
  exact Z (u<|by decide +kernel)<|Z (u<|dk U) U)
 refine aq.c (e:=115) U (λq=>?_) λq=>?_;rw[aa q]at h;exact Nn j.1 o<|h _ U
 rw[u q]at h;exact Nn j.2 o<|h _ U
def ahj{R:Rc}(i:bI r R)(j:k∈gj)(n:e<=20000)(o:∀m,c=I m->0<=m/\m<=20000)(h:∀v,EW (ia R k fl e c) v->Q v p):Cl (aj O<|d+3) "_law_told_by" [dh R,.str<|tx [k],.str<|tx fl,.int e,fX c] p Q E:=by have q:=ahi (d:=d) (E:=E) i (w8 i) j n o (by rcases c with _|_<;>rfl) h;obtain⟨v,s,t,w,a⟩:=R;refine ba (f:=ae 87) U U (l:=[("record",.v<|dh ⟨v,s,t,w,a⟩),("kind",.v<|.str (tx [k])),("flags",.v<|.str (tx fl)),("width",.v<|.int e),("most",.v<|fX c)]) U ?_;(conv=>whnf);exact Ok.sv (by rcases a with _|_<;>rfl) q
end
section
open PySem
set_option tactic.hygienic true
def ahk(h:∀c∈z,dg c=B)(d:z.length<=600):oJ (tx (48::z))=I ((cj 0 z:J):V):=by
 have e:(ak "0123456789").cps.toList=[48,49,50,51,52,53,54,55,56,57]:=by kernel_rfl
 have f:NumText.AllDigits (tx (48::z)).cps.toList:=λc a=>by
  rcases List.mem_cons.mp a with rfl|a
  lk;have h:=jx<|h c a
  rw[e]at h;exact(by decide:∀c∈([48,49,50,51,52,53,54,55,56,57]:D J),48<=c/\c<=57) c h
 unfold oJ;exact Z (aa<|by rw[aV];show _+1<=_;exact br d<|by lk)<|Z (intText_digits f (rI _ _)<|by rw[aV];show _+1<=_;exact br d (by lk)) U
def ahl(l:L):∀c∈l.takeWhile dg,dg c=true:=by
 induction l with
 |nil=>exact uR _|cons a l f=>
  intro c e;by_cases d:dg a=B;replace e:=(rT d)▸e;rcases List.mem_cons.mp e with rfl|e
  exact d;exact f c e;replace e:=(m8 d)▸e;cases e
def Ok.No(h:ay s.loc x=I (.ol a))(c:lf a i=I v)(d:a.length<=100000)(q:Q v s):Ok (fT (.bY x)<|.int i) Q E s:=by
 have e:c4 s (.bY x)=I a:=by unfold c4;dsimp only;exact Z h U
 exact Ok.run (zY U e c d) q
def Ok.Np(h:ay s.loc x=I (.ol a))(c:bj v=B)(e:kl a i v=I d)(q:Q () (cq x (.ol d) s)):Ok (jL (.bY x) (.int i) v) Q E s:=by refine Ok.run ?_ q;show(if bj v=B/\_ then _ else _)=_;refine Z (aa ⟨c,U⟩) ?_;show aS (ay s.loc x) _=_;refine Z h ?_;show aS (kl a i v) _=_;exact Z e U
def pE(z:L):Prop:=(z=[42]\/(z≠[42]/\∀c∈z,dg c=B))/\z.length<=600
def ahm(h:s≠.nil):wm s=ak "no implicit conversion "++(ak "of "++iH (I s)++ak " into Integer"):=by induction s using fY.casesOn with|nil=>exact aF U h|_=>kernel_rfl
def ahn(s:fY):s=.nil/\(s.nm==ak "nil")=B\/s≠.nil/\(s.nm==ak "nil")=false:=EX .nil _ (by decide +kernel) s
abbrev mR(a:CV)(d:D Rc)(e f:L)(i:J)(h:D CV)(k:J)(c:CV)(j m n:SV):D (H×SV):=[("unit",.v a),("records",.v<|.lst (d.map dh)),("flags",.v<|.str (tx e)),("kind",.v<|.str (tx f)),("spot",.v<|.int i),("sizes",.ol h),("k",.v<|.int k),("size",.v c),("is_open",j),("sort",m),("reason",n),("is_bare",.un),("width",.un),("most",.un),("row",.un)]
def nV{α:Type}(o:dL α)(P:α->Prop)(c:CV->Prop):Prop:=match o with|.ok a=>P a|.error e=>∀w,rl e w->c (.tup [w,.int 0])
def Nq{k:J}(hR:∀R∈m,bI r R)(hn:m.length<=1000)(hv:m.drop i=vs)(hi:i<=m.length)(p:pE z)(hs:∀v,∃f,kl xs k v=I f/\lf f k=I v/\f.length<=100)
 (h:nV (d5 z vs) (λx=>∀i' t re f,kl xs k (.int x.1)=I f->i'<=m.length->m.drop i'=x.2->c .aO ⟨mR j m fl kd i' f k (.str<|tx z) (.v<|.bool o) t re,hp,(ae 88).sc⟩) (λw=>∀i f t re,c (.ret w) ⟨mR j m fl kd i f k (.str<|tx z) (.v<|.bool o) t re,hp,(ae 88).sc⟩)):
 bu O (aj O d) (λY Y=>bA) 96 ((gw<|bW (ae 88) 1).drop 1) c ⟨mR j m fl kd i xs k (.str<|tx z) (.v<|.bool o) t re,hp,(ae 88).sc⟩:=by
 have s2:∀{n:V}{i':J}{f:D CV}{t re:SV},kl xs k (.int n)=I f->(n.natAbs>20000->nV (α:=c9) (.error oq) (λY=>bA) (λw=>∀i f t re,c (.ret w) ⟨mR j m fl kd i f k (.str<|tx z) (.v<|.bool o) t re,hp,(ae 88).sc⟩))->(¬n.natAbs>20000->c .aO ⟨mR j m fl kd i' f k (.str<|tx z) (.v<|.bool o) t re,hp,(ae 88).sc⟩)->bu O (aj O d) (λY Y=>bA) 95 ((gw<|bW (ae 88) 1).drop 2) c ⟨mR j m fl kd i' f k (.str<|tx z) (.v<|.bool o) t re,hp,(ae 88).sc⟩:=λ{n i' f t re}hy h1 h2=>by
  refine cC (hs<|.int n) λys' e1 e2 e3=>?_;rw[hy]at e1;obtain rfl:=aK e1;refine Ok.No U e2 (g e3<|by lk)<|Ok.No U e2 (g e3<|by lk) (aq.d (λq=>?_) λq=>?_)
  have h1:=h1<|(uT (n:=20000)).mp q
  refine aq.q (λq2=>?_) λq2=>?_;(conv=>whnf);exact Z (beq_iff_eq.mpr q2)<|h1 (.lst [.str "ArgumentError",.str ""]) ⟨_,_,U,.inr U,.inl U⟩ _ _ _ _
  refine aq.t (a:=z) (b:=[42]) U U (λq3=>?_) λq3=>?_;induction o using dN with|true=>exact h1 (.lst [.str "ArgumentError",.str ""]) ⟨_,_,U,.inr U,.inl U⟩ _ _ _ _|false=>exact h1 (.lst [.str "ArgumentError",.str "width too big"]) ⟨_,_,U,.inr U,.inr U⟩ _ _ _ _
  (conv=>whnf);exact Z (show(tx z==ak "*")=ag from by rw[show ak "*"=tx [42]from U,lE];exact dx q3)<|h1 (.lst [.str "ArgumentError",.str "width too big"]) ⟨_,_,U,.inr U,.inr U⟩ _ _ _ _
  exact h2 λk=>q<|(uT (n:=20000)).mpr k
 refine aI p λp zl=>?_;rcases p with rfl|⟨p,hd⟩
 unfold d5 at h;rw[aa U]at h;have ui:(m.map dh).length<=100000:=by rw[b0];exact g hn<|by lk
 refine Ok.tY ui ?_;rw[b0];refine aq.q (λq=>?_) λq=>?_;have ev:vs=[]:=(hv)▸List.drop_eq_nil_iff.mpr (bg (lO q).symm);rw[ev]at h;induction o using dN with|true=>exact h (.lst [.str "ArgumentError",.str ""]) ⟨_,_,U,.inr U,.inl U⟩ _ _ _ _|false=>exact h (.lst [.str "ArgumentError",.str "too few arguments"]) ⟨_,_,U,.inr U,.inr U⟩ _ _ _ _
 have cV:i<m.length:=H4 hi q;have ed:=uM cV;generalize eR:m[i]=R at ed;rw[hv]at ed;rw[ed]at h;have AE:bI r R:=hR R<|eR▸xZ cV
 have hx:(m.map dh)[i]?=I (dh R):=by rw[rJ,kZ cV,eR];rfl
 obtain⟨v,Nr,dp,sh,num⟩:=R;refine Ok.kM (k:=i) (v:=dh ⟨v,Nr,dp,sh,num⟩) U hx ui ?_;cases Nr with
 |none=>
  refine cC AE λn z1 z2 zz=>?_;subst z2;refine cC (hs<|.int n) λf e1 e2 e3=>Ok.kM (k:=i) (v:=dh ⟨v,W,dp,sh,I n⟩) U hx ui<|Ok.Np U U e1 ?_
  unfold lG at h;dsimp only [PN]at h;refine s2 (i':=i+1) e1 (λq=>?_) λq=>?_;rw[aa q]at h;exact h;rw[u q]at h;exact h (i+1) _ _ _ e1 (xE cV) U
 |some s=>
  have h:nV (α:=V×D Rc) (.error ("TypeError",wm s)) _ _:=h;(conv=>whnf);rw[show(iH (I s)==ak "Integer")=ag from Nl s];rcases ahn s with⟨rfl,_⟩|⟨n1,e⟩
  induction o using dN with
  |true=>exact h (.lst [.str "",.str ""]) ⟨_,_,U,.inl U,.inl U⟩ _ _ _ _|false=>exact h (.lst [.str "TypeError",.str<|ak "no implicit conversion "++ak "from nil to integer"]) ⟨_,_,U,.inr U,.inr U⟩ _ _ _ _
  have hl:(iH<|I s).length<=100:=by cases s<;>decide +kernel
  have w:wm s=ak "no implicit conversion "++(ak "of "++iH (I s)++ak " into Integer"):=ahm n1;have l1:(ak "of ").length<=100:=by decide +kernel
  have l2:(ak " into Integer").length<=100:=by decide +kernel
  have l3:(ak "no implicit conversion ").length<=100:=by decide +kernel
  (conv=>whnf);rw[show(iH (I s)==ak "nil")=ag from e];generalize C7:dh ⟨v,I s,dp,sh,num⟩=rv at*;generalize hy:iH (I s)=y at hl w⊢;refine Ok.add (by rw[gi];exact g (aY l1 hl)<|by lk) ?_;have p:(ak "of "++y).length<=200:=by rw[gi];exact g (aY l1 hl)<|by lk
  generalize ez:ak "of "++y=z at p w⊢;(conv=>whnf);refine Ok.add (by rw[gi];exact g (aY p l2)<|by lk) ?_;have xj:(z++ak " into Integer").length<=300:=by rw[gi];exact g (aY p l2)<|by lk
  generalize ez2:z++ak " into Integer"=z2 at xj w⊢;induction o using dN with
  |true=>exact h (.lst [.str "",.str ""]) ⟨_,_,U,.inl U,.inl U⟩ _ _ _ _|false=>exact Ok.add (by rw[gi];exact g (aY l3 xj)<|by lk)<|h (.lst [.str "TypeError",.str<|ak "no implicit conversion "++z2]) ⟨_,_,U,.inr U,.inr w.symm⟩ _ _ _ _
 unfold d5 at h;rw[u p]at h;refine cC (hs<|.int (cj 0 z:J)) λf e1 e2 e3=>aq.t (a:=z) (b:=[42]) U U (λq3=>aF q3 p) λq3=>Ok.cD (a:=[48]) (b:=z) (by show 1+_<=_;exact g (dO zl _)<|by lk)<|Ok.int (ahk hd zl) ?_
 refine Ok.Np U U e1<|s2 e1 (λq=>?_) λq=>?_
 rw[aa<|Tx q]at h;exact h;rw[u<|TP q]at h;exact h i _ _ _ e1 hi hv
end
section
open PySem
def xk(o:dL (L×L×D Rc))(a:D Rc)(v:CV):Prop:=match o with|.ok x=>∃n:J,v=.tup [.str<|tx x.1,.int n]/\x.2.2=a.drop n/\n<=a.length|.error e=>∃w,v=.tup [w,.int 0]/\rl e w
def aho(c:J):hJ c=decide (c∈[100,105,117,120,88,111,98,66]):=by
 unfold hJ;refine Z Mz ?_;rw[Eu];by_cases h:c∈[100,105,117,120,88,111,98,66];exact Z (aa h)<|Z (i5 h) U
 exact Z (u h)<|Z (dx h) U
def ahp:(ak "diuxXobBcsp").cps.toList=gj:=by decide +kernel
def EY(h:c∉gj)(a:f6 c=ag):fj fl i j c k=.error ("ArgumentError",ak "malformed format string - %"++tx [c]):=by
 have d:hJ c=false:=by rw[aho];exact dx λz=>h<|(by decide +kernel:∀c∈[100,105,117,120,88,111,98,66],c∈gj) c z
 have e:¬c=99:=λz=>h<|by refine Z z ?_;lk
 have f:decide (c∈(ak "sp").cps.toList)=false:=
  dx λz=>h<|(by decide +kernel:∀c∈(ak "sp").cps.toList,c∈gj) c z
 unfold fj;exact Z (u<|by rw[a];lk)<|Z (u<|by rw[d];lk) (Z (u e)<|Z (aa f) U)
def Nt(a:c∈gj):fj fl h i c []=.error pC:=by
 have f:f6 c=false:=by
  have:∀c∈gj,f6 c=false:=by decide +kernel
  exact this c a
 unfold fj;refine Z (u<|by rw[f];lk) ?_;by_cases d:hJ c=B;rw[aa d];rw[u d];by_cases e:c=99;rw[aa e];rw[u e];have:decide (c∈(ak "sp").cps.toList)=true:=by
  have:∀k∈gj,¬hJ k=B->¬k=99->decide (k∈(ak "sp").cps.toList)=true:=by decide +kernel
  exact this c a d e
 rw[this,u<|dk U]
def ahq(a:L)(c:J)(t:L):t.length<=(hH a c t).length:=by unfold hH;split;rw[aN];exact cx _ _;rw[aN];exact bU _ _
def ahr{R:Rc}(f:bI r R)(i:c<=20000)(j:∀m,a=I m->m<=20000)(h:ia R k fl c a=.ok t):t.length<=300000:=by
 unfold ia at h;split at h;refine av (jr h) λn o e=>?_;clear h;obtain rfl:=dQ e;exact g (ahq fl c _)<|MI (fl:=fl) (mo:=a) (n:=n) (k:=k) i j
 split at h;exact g (Ew h)<|dk U
 obtain rfl:=dQ h;have d:=w8 f;have:∀x:L,(nR a x).length<=x.length:=λx=>by unfold nR;clear h;induction a using bL with|none=>exact aA _|some m=>exact List.length_take_le' _ _
 exact g (this _)<|mu (P:=λl:L=>l.length<=300000) (g d.1<|by lk) (g d.2<|by lk)
abbrev xm(a:CV)(d:D Rc)(e f:L)(i:J)(h:D CV)(k c j m n o p q r:SV):D (H×SV):=[("unit",.v a),("records",.v<|.lst (d.map dh)),("flags",.v<|.str (tx e)),("kind",.v<|.str (tx f)),("spot",.v<|.int i),("sizes",.ol h),("k",k),("size",c),("is_open",j),("sort",m),("reason",n),("is_bare",o),("width",p),("most",q),("row",r)]
def ahs{E:cT}(hR:∀R∈F,bI r R)(C:F.length<=1000)(hv:F.drop i=vs)(hi:i<=F.length)(hk:f.kd=[]/\R0=[]\/∃c l,f.kd=[c]/\R0=c::l)(hn:n.natAbs<=20000)(hs:∀m,S=I m->m.natAbs<=20000)(o:P=S.bind iF)(hf:f.ps.fl.length<=1000)
 (h:∀v,xk (gK f.ps.fl n P R0 vs) F v->Q v hp):
 bu O (aj O<|d+3) (λx s=>E x s.hp) 98 ((ae 88).body.drop 2) (bB Q) ⟨xm (cu<|.inr f) F f.ps.fl f.kd i [.int n,fX S] k size op so re .un .un .un .un,hp,(ae 88).sc⟩:=by
 obtain⟨at',en,⟨X,wd,mo0,rs⟩,kd,cut⟩:=f;dsimp only at hk hf h⊢;rcases hk with⟨rfl,rfl⟩|⟨c,l,rfl,rfl⟩
 refine aq.q (λY=>?_) λY=>?_;exact h (.tup [.lst [.str "ArgumentError",.str "incomplete format specifier; use %% (double %) instead"],.int 0]) ⟨_,U,_,_,U,.inr U,.inr U⟩;exact h (.tup [.lst [.str "ArgumentError",.str ""],.int 0]) ⟨_,U,_,_,U,.inr U,.inl U⟩;unfold gK at h;dsimp only at h;have y:∀{e:Er},fj (mM X n) n.natAbs P c vs=.error e->∀w,rl e w->Q (.tup [w,.int 0]) hp:=λ{e}ee w T=>by rw[ee]at h;exact h _ ⟨w,U,T⟩
 refine aq.rc (λq=>?_) λq=>?_;exact y (aa q) (.lst [.str "ArgumentError",.str "invalid format character - %"]) ⟨_,_,U,.inr U,.inr U⟩;(conv=>whnf);refine Z (show ln (tx [c]) (ak "diuxXobBcsp")=decide (c∈gj)from by rw[pB,ahp]) ?_;by_cases K:c∈gj;rw[i5 K];have ui:(F.map dh).length<=100000:=by rw[b0];exact g C<|by lk
 refine Ok.tY ui ?_;rw[b0];refine aq.q (λq=>?_) λq=>?_;have ev:vs=[]:=(hv)▸List.drop_eq_nil_iff.mpr (bg (lO q).symm);exact y ((ev)▸Nt K) (.lst [.str "ArgumentError",.str "too few arguments"]) ⟨_,_,U,.inr U,.inr U⟩;have G:i<F.length:=H4 hi q;have ed:=uM G;generalize eR:F[i]=R at ed;rw[hv]at ed;have AE:bI r R:=hR R<|eR▸xZ G
 have hx:(F.map dh)[i]?=I (dh R):=by rw[rJ,kZ G,eR];rfl
 have z:∀m,P=I m->0<=m/\m<=20000:=λm e=>by
  rw[o]at e;clear y h o;induction S using bL with
  |none=>exact aD e|some p=>have:=hs p U;have e:iF p=I m:=e;unfold iF at e;split at e;exact aD e;obtain rfl:=aK e;exact⟨Int.not_lt.mp ‹_›,bR Ff<|Int.ofNat_le.mpr this⟩
 have A:bu O (aj O<|d+3) (λx s=>E x s.hp) 92 ((ae 88).body.drop 8) (bB Q) ⟨xm (cu<|.inr ⟨at',en,⟨X,wd,mo0,rs⟩,[c],cut⟩) F (mM X n) [c] i [.int n,fX S] k size op so re .un (.v<|.int n) (.v<|fX P) .un,hp,(ae 88).sc⟩:=by
  refine Ok.kM (k:=i) (v:=dh R) U hx ui<|Ok.fx (by rw[gc,gc,gc,gc,gc,show bj (fX P)=B from by cases P<;>rfl];rfl) (ahj AE K hn z λv T=>?_)
  rw[ed,AB K]at h;clear y o;generalize ht:ia R c (mM X n) n.natAbs P=zht;induction zht using ip with
  |error e=>rw[ht]at h T;have h:=h (.tup [v,.int 0]) ⟨v,U,T⟩;clear z;refine d9 T λa b cy zz=>?_;subst cy;exact h
  |ok t=>rw[ht]at h T;have tl:=ahr AE hn (λm e=>(z m e).2) ht;clear z;cases T;exact Ok.fn U<|ag5 (g tl<|by lk) hn (h _ ⟨i+1,U,U,by exact xE G⟩)
 clear h y;unfold mM at A;clear z;induction S using bL with
 |none=>
  subst o;refine aq.d (λq=>?_) λq=>?_;rw[aa q]at A;refine Ok.cD (a:=X) (b:=[45]) (by show _+1<=_;exact br hf<|by lk) ?_;have j:=A;(conv=>whnf);conv at j=>whnf
  exact j;rw[u q]at A;have j:=A;(conv=>whnf);conv at j=>whnf
  exact j
 |some p=>
  have o:P=iF p:=o;unfold iF at o;refine aq.d (λq=>?_) λq=>?_;rw[aa q]at A;refine Ok.cD (a:=X) (b:=[45]) (by show _+1<=_;exact br hf<|by lk)<|aq.d (λq=>?_) λq=>?_
  rw[aa q]at o;subst o;exact A;rw[u q]at o;subst o;exact A;rw[u q]at A;refine aq.d (λq=>?_) λq=>?_;rw[aa q]at o;subst o;exact A;rw[u q]at o;subst o;exact A
 have hb:=y<|EY K q
 rw[dx K];refine aq.i (λe=>?_) λe=>?_;exact hb (.lst [.str "ArgumentError",.str ""]) ⟨_,_,U,.inr U,.inl U⟩;exact hb (.lst [.str "ArgumentError",.str<|ak "malformed format string - %"++tx [c]]) ⟨_,_,U,.inr U,.inr U⟩
def nV.mono(h:nV o P j)(p:∀a,o=.ok a->P a->d a)(w:∀v,j v->c v):nV o d c:=by
 induction o with
 |error e=>exactλv a=>w _<|h v a
 |ok a=>exact p a U h
def Nu(h:d5 z a=.ok x):x.1.natAbs<=20000:=by
 unfold d5 at h;split at h;induction a using bk with
 |nil=>cases h
 |cons R a=>
  dsimp only at h;generalize e:lG R=c;induction c using ip with
  |error d=>rw[e]at h;cases h
  |ok n=>rw[e]at h;dsimp only at h;split at h;exact cK h;obtain rfl:=dQ h;show n.natAbs<=_;exact iM ‹_›
 split at h;exact cK h;obtain rfl:=dQ h;show(((cj 0 z:J):V)).natAbs<=_;exact iM ‹_›
def ahv(hR:∀R∈Rs,bI r R)(hlen:Rs.length<=1000)(hz:pE a.ps.wd)(xj:∀m,a.ps.mo=I m->pE m)(hk:a.kd=[]/\R0=[]\/∃c l,a.kd=[c]/\R0=c::l)(hf:a.ps.fl.length<=1000)
 (h:∀v,xk (gF {a.ps with rs:=R0} Rs) Rs v->Q v hp):Cl (aj O<|d+4) "_law_piece" [cu<|.inr a,.lst<|Rs.map dh] hp Q E:=by
 have hc:nV (d5 a.ps.wd Rs) (λx=>∀v,xk (match a.ps.mo with|none=>gK a.ps.fl x.1 W R0 x.2|some m=>cS (d5 m x.2) λy=>gK a.ps.fl x.1 (iF y.1) R0 y.2) Rs v->Q v hp) (λw=>Q w hp):=by unfold gF at h;dsimp only at h;generalize e:d5 a.ps.wd Rs=ze;induction ze using ip with|error e2=>rw[e]at h;exactλw ha=>h _ ⟨w,U,ha⟩|ok x=>rw[e]at h;exact h
 have fin:∀{i:J}{n:V}{sm:al V}{vs:D Rc}{k size op so re:SV},Rs.drop i=vs->i<=Rs.length->n.natAbs<=20000->(∀m,sm=I m->m.natAbs<=20000)->(∀v,xk (gK a.ps.fl n (sm.bind iF) R0 vs) Rs v->Q v hp)->bu O (aj O<|d+3) (λx s=>E x s.hp) 98 ((ae 88).body.drop 2) (bB Q) ⟨xm (cu<|.inr a) Rs a.ps.fl a.kd i [.int n,fX sm] k size op so re .un .un .un .un,hp,(ae 88).sc⟩:=
  λh1 h2 h3 h4 h5=>ahs hR hlen h1 h2 hk h3 h4 U hf h5
 refine ba (f:=ae 88) U U (l:=[("unit",.v<|cu (.inr a)),("records",.v<|.lst (Rs.map dh))]) U ?_;(conv=>whnf);show Ok (dD (λx=>(dm O (aj O<|d+3) 97 (kS<|bW (ae 88) 1)<|.v x).bind λY=>cb O (aj O<|d+3) 97<|gw (bW (ae 88) 1)) [.int 0,.int 1]) (λz s=>match z with|.aO=>bu O (aj O<|d+3) (λx s=>E x s.hp) 98 ((ae 88).body.drop 2) (bB Q) s|f=>bB Q f s) (λx s=>E x s.hp) ⟨xm (cu<|.inr a) Rs a.ps.fl a.kd 0 [.int 0,.none] .un .un .un .un .un .un .un .un .un,hp,(ae 88).sc⟩;obtain⟨at',en,⟨z,wd,mo,rs⟩,kd,cut⟩:=a;dsimp only at hz xj hk hf hc fin⊢;clear h;have S1:∀{n:V}{vs:D Rc}{i:J}{k size op so re:SV},Rs.drop i=vs->i<=Rs.length->n.natAbs<=20000->(∀v,xk (match mo with|none=>gK z n W R0 vs|some m=>cS (d5 m vs) λy=>gK z n (iF y.1) R0 y.2) Rs v->Q v hp)->Ok (dD (λx=>(dm O (aj O<|d+3) 97 (kS<|bW (ae 88) 1)<|.v x).bind λY=>cb O (aj O<|d+3) 97<|gw (bW (ae 88) 1)) [.int 1]) (λz s=>match z with|.aO=>bu O (aj O<|d+3) (λx s=>E x s.hp) 98 ((ae 88).body.drop 2) (bB Q) s|f=>bB Q f s) (λx s=>E x s.hp) ⟨xm (cu<|.inr ⟨at',en,⟨z,wd,mo,rs⟩,kd,cut⟩) Rs z kd i [.int n,.none] k size op so re .un .un .un .un,hp,(ae 88).sc⟩:=λ{n vs i k size op so re}hv hi hn h=>by
  refine Ok.pA ?_;induction mo with
  |none=>
   have j:=λsize op=>fin (i:=i) (n:=n) (sm:=W) (k:=.v<|.int 1) (size:=size) (op:=op) (so:=so) (re:=re) hv hi hn (λY e=>aD e) h;induction cut with
   |false=>
    have j:=j (.v .none)<|.v (.bool ag)
    (conv=>whnf);conv at j=>whnf
    exact j
   |true=>
    have j:=j (.v .none)<|.v (.bool B)
    (conv=>whnf);conv at j=>whnf
    exact j
  |some m=>
   have q:nV (d5 m vs) (λx=>∀i' so re ys,kl [.int n,.none] ((1:J):V) (.int x.1)=I ys->i'<=Rs.length->Rs.drop i'=x.2->∀o,bu O (aj O<|d+3) (λx s=>E x s.hp) 98 ((ae 88).body.drop 2) (bB Q) ⟨mR (cu<|.inr ⟨at',en,⟨z,wd,I m,rs⟩,kd,cut⟩) Rs z kd i' ys 1 (.str<|tx m) (.v<|.bool o) so re,hp,(ae 88).sc⟩) (λw=>Q w hp):=by
    dsimp only at h;generalize e:d5 m vs=ze;induction ze using ip with
    |error e2=>rw[e]at h;exactλw ha=>h _ ⟨w,U,ha⟩|ok x=>rw[e]at h;intro i' so re ys e1 e2 e3 o;obtain rfl:=aK e1;exact fin (sm:=I x.1) e3 e2 hn (λp hp=>by obtain rfl:=aK hp;exact Nu e) h
   have L:∀o,bu O (aj O<|d+3) (λY Y=>bA) 96 ((gw<|bW (ae 88) 1).drop 1) (λf s=>match f with|.brk=>(λz s=>match z with|.aO=>bu O (aj O<|d+3) (λx s=>E x s.hp) 98 ((ae 88).body.drop 2) (bB Q) s|f=>bB Q f s) bD.aO s|.ret v=>(λz s=>match z with|.aO=>bu O (aj O<|d+3) (λx s=>E x s.hp) 98 ((ae 88).body.drop 2) (bB Q) s|f=>bB Q f s) (bD.ret v) s|_=>Ok (dD (λx=>(dm O (aj O<|d+3) 97 (kS<|bW (ae 88) 1)<|.v x).bind λY=>cb O (aj O<|d+3) 97<|gw (bW (ae 88) 1)) []) (λz s=>match z with|.aO=>bu O (aj O<|d+3) (λx s=>E x s.hp) 98 ((ae 88).body.drop 2) (bB Q) s|f=>bB Q f s) (λx s=>E x s.hp) s) ⟨mR (cu<|.inr ⟨at',en,⟨z,wd,I m,rs⟩,kd,cut⟩) Rs z kd i [.int n,.none] 1 (.str<|tx m) (.v<|.bool o) so re,hp,(ae 88).sc⟩:=λo=>Nq hR hlen hv hi (xj m U) (λv=>⟨[.int n,v],U,U,(show 2<=100 from dk U)⟩)<|q.mono (λx Y t i' so re ys e1 e2 e3=>t i' so re ys e1 e2 e3 o) λw t Y Y Y Y=>t
   induction cut with|false=>exact L ag|true=>exact L B
 refine Ok.pA ?_;have q:nV (d5 wd Rs) (λx=>∀i' so re ys,kl [.int 0,.none] ((0:J):V) (.int x.1)=I ys->i'<=Rs.length->Rs.drop i'=x.2->∀o,Ok (dD (λx=>(dm O (aj O<|d+3) 97 (kS<|bW (ae 88) 1)<|.v x).bind λY=>cb O (aj O<|d+3) 97<|gw (bW (ae 88) 1)) [.int 1]) (λz s=>match z with|.aO=>bu O (aj O<|d+3) (λx s=>E x s.hp) 98 ((ae 88).body.drop 2) (bB Q) s|f=>bB Q f s) (λx s=>E x s.hp) ⟨mR (cu<|.inr ⟨at',en,⟨z,wd,mo,rs⟩,kd,cut⟩) Rs z kd i' ys 0 (.str<|tx wd) (.v<|.bool o) so re,hp,(ae 88).sc⟩) (λw=>Q w hp):=by refine hc.mono (λx e t i' so re ys e1 e2 e3 o=>?_) λw t=>t;obtain rfl:=aK e1;exact S1 e3 e2 (Nu e) t
 have L:∀o,bu O (aj O<|d+3) (λY Y=>bA) 96 ((gw<|bW (ae 88) 1).drop 1) (λf s=>match f with|.brk=>(λz s=>match z with|.aO=>bu O (aj O<|d+3) (λx s=>E x s.hp) 98 ((ae 88).body.drop 2) (bB Q) s|f=>bB Q f s) bD.aO s|.ret v=>(λz s=>match z with|.aO=>bu O (aj O<|d+3) (λx s=>E x s.hp) 98 ((ae 88).body.drop 2) (bB Q) s|f=>bB Q f s) (bD.ret v) s|_=>Ok (dD (λx=>(dm O (aj O<|d+3) 97 (kS<|bW (ae 88) 1)<|.v x).bind λY=>cb O (aj O<|d+3) 97<|gw (bW (ae 88) 1)) [.int 1]) (λz s=>match z with|.aO=>bu O (aj O<|d+3) (λx s=>E x s.hp) 98 ((ae 88).body.drop 2) (bB Q) s|f=>bB Q f s) (λx s=>E x s.hp) s) ⟨mR (cu<|.inr ⟨at',en,⟨z,wd,mo,rs⟩,kd,cut⟩) Rs z kd 0 [.int 0,.none] 0 (.str<|tx wd) (.v<|.bool o) .un .un,hp,(ae 88).sc⟩:=λo=>Nq hR hlen U (dW _) hz (λv=>⟨[v,.none],U,U,(show 2<=100 from dk U)⟩)<|q.mono (λx Y t i' so re ys e1 e2 e3=>t i' so re ys e1 e2 e3 o) λw t Y Y Y Y=>t
 induction cut with
 |false=>exact L ag|true=>induction mo with|none=>exact L B|some m=>exact L ag
def Nv:∀(n m:J)(l:L)(a:D Rc)(z:J),l.length<n->l.length<m->hZ n l a z=hZ m l a z:=by
 intro n;induction n with
 |zero=>exactλm l a z h=>aF h<|n6 _
 |succ n i=>
  intro m l a z f d;obtain⟨m,rfl⟩:∃x,m=x+1:=⟨m -1,by exact Ul d⟩;induction l using bk with
  |nil=>rfl|cons c l=>
   rw[bw]at f d;show(if c=37 then _ else _)=if c=37 then _ else _;by_cases q:c=37;refine Z (aa q)<|Z (aa q) ?_
   induction l using bk with
   |nil=>rfl|cons k o=>
    dsimp only;rw[bw]at f d;generalize e:gf k o a=p;induction p using ip with
    |error _=>rfl|ok x=>have j:=(EB e).1;show(if _ then _ else _)=(if _ then _ else _);exact Z (i m x.2.1 x.2.2 _ (br j<|OZ (ux f))<|br j (OZ<|ux d)) U
   exact Z (u q)<|Z (u q) (Z (i m l a _ (vQ f)<|vQ d) U)
def fR(l:L)(a:D Rc)(z:J):dL L:=hZ (l.length+1) l a z
def uj(l:L)(a:D Rc):dL (L×L×D Rc):=uc l λc l=>gf c l a
def EZ:fR (37::l) a z=cS (uj l a) λx=>if z+x.1.length>20000 then .error lg else cS (fR x.2.1 x.2.2<|z+x.1.length) λt=>.ok (x.1++t):=by
 unfold fR uj;refine Z bw ?_;induction l using bk with
 |nil=>rfl|cons c l=>
  show cS (gf c l a) _=cS (gf c l a) _;generalize e:gf c l a=d;induction d using ip with
  |error _=>rfl|ok x=>have f:=(EB e).1;show(if _ then _ else _)=(if _ then _ else _);exact Z (Nv _ (x.2.1.length+1) x.2.1 x.2.2 _ (by rw[bw];exact ut<|uV f) vL) U
def ahw(h:c≠37):fR (c::l) a z=if z+1>20000 then .error lg else cS (fR l a<|z+1) λt=>.ok (c::t):=by unfold fR;refine Z bw ?_;show(if c=37 then _ else _)=_;exact Z (u h) U
def cz(s:L)(us:D Rc)(t:L):Prop:=∀l vs z,z<=20000->fR (s++l) (us++vs) z=if z+t.length>20000 then .error lg else cS (fR l vs<|z+t.length) λt'=>.ok<|t++t'
def ahx:(cS a λt=>.ok<|[]++t)=a:=by cases a<;>rfl
def cz.nil:cz [] [] []:=λl a z h=>Z (u<|by show¬z+0>20000;exact Nat.not_lt.mpr h) ahx.symm
def cz.app(a:cz s f t)(b:cz i d e):cz (s++i) (f++d) (t++e):=λl j z h=>by
 rewrite[db,db];refine Z (a _ _ _ h)<|Z aN ?_
 by_cases q:z+t.length>20000;exact Z (aa q)<|Z (aa<|UI q) U
 refine Z (u q)<|Z (b _ _ _<|iM q) ?_;rw[kY]
 by_cases c:z+(t.length+e.length)>20000;exact Z (aa c)<|Z (aa<|UA c) U
 refine Z (u c)<|Z (u<|UV c) ?_;rw[EP]
 refine bq (cS _)<|funext λx=>?_
 show xr _=xr _;rw[db]
def cz.one(h:c≠37):cz [c] [] [c]:=λl a z Y=>ahw h
def cz.txt(h:37∉t):cz t [] t:=by
 induction t with
 |nil=>exact .nil|cons c t a=>exact(cz.one λz=>h<|by exact Z z<|dj ..).app<|a λz=>h<|eW _ z
def cz.pc(h:∀l a,uj (s++l) (c++a)=.ok (t,l,a)):cz (37::s) c t:=λl a z Y=>by show fR (37::(s++l)) _ _=_;refine Z EZ ?_;rw[h];rfl
def cz.uf:cz [37,37] [] [37]:=.pc λl a=>by show gf 37 l a=_;unfold gf;exact Z (aa<|by decide +kernel)<|Z (aa U) U
def cz.xh(h:c=10\/c=0):cz [37,c] [] [37,c]:=.pc λl a=>by
 show gf c l a=_;unfold gf;rcases h with rfl|rfl
 exact Z (aa<|by decide +kernel)<|Z (u<|dk U) U
 exact Z (aa<|by decide +kernel)<|Z (u<|dk U) U
def Nw(h:d5 z d=.ok x):∃f,d=f++x.2/\∀a,d5 z (f++a)=.ok (x.1,a):=by
 unfold d5 at h⊢;by_cases q:z=[42];rw[aa q]at h;induction d using bk with
 |nil=>cases h
 |cons R d=>
  dsimp only at h;generalize e:lG R=i;induction i using ip with
  |error _=>rw[e]at h;cases h
  |ok n=>rw[e]at h;dsimp only at h;by_cases c:n.natAbs>20000;rw[aa c]at h;exact cK h;rw[u c]at h;obtain rfl:=dQ h;refine⟨[R],U,λa=>Z (aa q) ?_⟩;show(match lG R with|.error e=>_|.ok n=>_)=_;exact Z e<|u c
 rw[u q]at h;by_cases c:cj 0 z>20000;rw[aa c]at h;exact cK h;rw[u c]at h;obtain rfl:=dQ h;exact⟨[],U,λa=>Z (u q)<|Z (u c) U⟩
def ahy(h:fj fl d f c k=.ok x):f6 c=ag/\∃R,k=R::x.2/\∀a,fj fl d f c (R::a)=.ok (x.1,a):=by
 obtain⟨n,o⟩:=x;refine aJ (EA h) λR e=>?_;dsimp only at e⊢;have i:f6 c=false:=by cases q:f6 c;rfl;unfold fj at h;rw[aa q]at h;exact cK h
 have j:c∈gj:=aL λz=>by rw[EY z i]at h;exact cK h
 rw[e,AB j]at h;refine⟨i,R,e,λa=>Z (AB j) ?_⟩;generalize t:ia R c fl d f=m;induction m using ip with
 |error _=>rw[t]at h;cases h
 |ok p=>rw[t]at h;cases h;rfl
def Nx(h:gK fl n f r i=.ok x):∃c d,r=c::x.2.1/\f6 c=ag/\i=d++x.2.2/\∀m a,gK fl n f (c::m) (d++a)=.ok (x.1,m,a):=by
 induction r using bk with
 |nil=>cases h
 |cons c l=>refine av (jr h) λy j o=>?_;clear h;obtain rfl:=dQ o;obtain⟨p,R,e,k⟩:=ahy j;refine⟨c,[R],U,p,e,λm a=>?_⟩;show cS (fj _ _ _ _<|[R]++a) _=_;refine Z (show[R]++a=R::a from U) ?_;rw[k];rfl
def ahz(h:gF p s=.ok x):∃c e,p.rs=c::x.2.1/\f6 c=ag/\s=e++x.2.2/\∀m a,gF {p with rs:=c::m} (e++a)=.ok (x.1,m,a):=by
 obtain⟨E,F,t,G⟩:=p;unfold gF at h⊢;dsimp only at h⊢;refine av (jr h) λy v o=>av (Nw v) λe q r=>?_;induction t with
 |none=>refine fQ (Nx o) λc d f i j k=>⟨c,e++d,f,i,by rewrite[db];exact ax j<|Z q U,λm a=>?_⟩;rw[db,r];exact k m a
 |some w=>refine av (jr o) λP z b=>av (Nw z) λn l A=>fQ (Nx b) λc d f i j k=>⟨c,e++(n++d),f,i,by rewrite[db,db];exact ax j<|ax l (Z q U),λm a=>?_⟩;rw[db,db,r];show cS (d5 w _) _=_;rw[A];exact k m a
def Ny{a:L}(h:gK a n d (c::m) f=.error e):gK a n d (c::j) f=.error e:=by unfold gK at h⊢;dsimp only at h⊢;unfold t6 at h⊢;generalize k:fj (mM a n) n.natAbs d c f=i;induction i using ip with|error o=>rw[k]at h;exact h|ok x=>rw[k]at h;exact u6 h
def Nz{p:Ps}(h:gF {p with rs:=c::m} i=.error e):gF {p with rs:=c::j} i=.error e:=by
 unfold gF at h⊢;dsimp only at h⊢;generalize k:d5 p.wd i=q;induction q using ip with
 |error r=>rw[k]at h;exact h|ok x=>
  rw[k]at h;have h:(match p.mo with
   |none=>gK p.fl x.1 W (c::m) x.2|some a=>cS (d5 a x.2) λy=>gK p.fl x.1 (iF y.1) (c::m) y.2)=.error e:=h
  show(match p.mo with
   |none=>gK p.fl x.1 W (c::j) x.2|some a=>cS (d5 a x.2) λy=>gK p.fl x.1 (iF y.1) (c::j) y.2)=.error e
  generalize n:p.mo=d;induction d using bL with
  |none=>rw[n]at h;exact Ny h|some a=>rw[n]at h;dsimp only at h⊢;generalize o:d5 a x.2=f;induction f using ip with|error r=>rw[o]at h;exact h|ok y=>rw[o]at h;exact Ny h
def Pl(l:L):Prop:=∀c m,l=c::m->f6 c=ag
def xn(h:Pl l):uj l a=gF (bJ l) a:=by
 induction l with
 |nil=>rfl|cons c m=>exact Nb<|h c m U
def ahA:f6 37=true:=by decide +kernel
def Pl.head(h:Pl p)(d:p≠[]):Pl (p++r):=λc m e=>by
 induction p with
 |nil=>exact aF U d
 |cons a p=>injection e with f i;exact h c p<|Z f U
def NA{p l:L}(h:l=[]\/∃m,l=37::m):bJ (p++l)={bJ p with rs:=(bJ p).rs++l}:=by
 have e:=xf p;have k:Lk (bJ p).rs ((bJ p).rs++l):=λc m z=>by
  generalize hr:(bJ p).rs=lB;induction lB using bk with
  |nil=>
   rw[hr]at z;rcases h with rfl|⟨m',rfl⟩
   exact cO pN z U;injection z with z1 z2;exact .inl z1.symm
  |cons a r=>rw[hr]at z;injection z with z1 z2;exact .inr ⟨r,by exact Z z1 U⟩
 have:=EO k;rw[<-db,<-e]at this;exact this
def ahB{p l:L}{vs:D Rc}{x:L×L×D Rc}(hl:l=[]\/∃m,l=37::m)(hp:Pl p)(gH:p≠[])(h:gF {bJ p with rs:=(bJ p).rs++l} vs=.ok x):
 ∃us,vs=us++x.2.2/\∃c m,(bJ p).rs=c::m/\cz (37::((bJ p).pre++[c])) us x.1:=by
 refine fQ (ahz h) λc us e1 he e2 k=>?_;dsimp only at e1 k;have hc:∃m,(bJ p).rs=c::m:=by
  clear h;generalize hr:(bJ p).rs=lB;induction lB using bk with
  |nil=>
   rw[hr]at e1;rcases hl with rfl|⟨m,rfl⟩
   exact cO pN e1 U;injection e1 with e3 e4;rw[<-e3,ahA]at he;exact tf he
  |cons a r=>rw[hr]at e1;injection e1 with e3 e4;exact⟨r,by exact Z e3 U⟩
 refine aJ hc λm hm=>⟨us,e2,c,m,hm,.pc λl' JF=>?_⟩;have ep:=xf p;rw[hm]at ep;have gg:Pl ((bJ p).pre++[c]++l'):=λa b z=>by
  clear h;generalize oy:(bJ p).pre=E0;induction E0 using bk with
  |nil=>rw[oy]at z ep;injection z with z1 z2;exact ax z1 he
  |cons y ys=>rw[oy]at z ep;injection z with z1 z2;exact hp a _<|Z ep (ax z1 U)
 refine Z (xn gg) ?_;rewrite[db];exact Z (EO λa b z=>.inr ⟨m,by rw[hm];injection z with z1 z2;rw[z1]⟩)<|k l' JF
def ahC{p l:L}{vs:D Rc}{e:Er}(hl:l=[]\/∃m,l=37::m)(hp:Pl p)(gH:p=[]->l=[])(h:gF {bJ p with rs:=(bJ p).rs++l} vs=.error e)(n:J)(b:L)(hb:(eH n l.isEmpty p).kd=[]->b=[]):
 uj ((bJ p).pre++((eH n l.isEmpty p).kd++b)) vs=.error e:=by
 have ep:=xf p;generalize hr:(bJ p).rs=lB;induction lB using bk with
 |nil=>
  rw[hr,eN]at ep;have ek:(eH n l.isEmpty p).kd=if l.isEmpty then[]else[37]:=by unfold eH;dsimp only;exact Z hr U
  rcases hl with rfl|⟨m,rfl⟩
  have ek:(eH n ([]:L).isEmpty p).kd=[]:=ek;refine Z (hb ek)<|Z ek ?_;rewrite[eN,eN];refine ax ep<|Z (xn hp) ?_
  rw[eN]at h;exact h;have ek:(eH n (37::m).isEmpty p).kd=[37]:=ek;have pn:p≠[]:=λz=>nomatch gH z;refine Z ek<|ax ep (Z (xn<|hp.head pn)<|Z (NA (l:=[37]++b) (.inr ⟨b,U⟩)) (Z hr ?_))
  rw[hr]at h;exact Nz h
 |cons c m=>
  rw[hr]at ep h;have ek:(eH n l.isEmpty p).kd=[c]:=by unfold eH;dsimp only;exact Z hr U
  have gg:Pl ((bJ p).pre++([c]++b)):=λa d z=>by
   generalize oy:(bJ p).pre=E0;induction E0 using bk with
   |nil=>rw[oy]at z ep;injection z with z1 z2;exact hp a m<|Z ep (ax z1 U)
   |cons y ys=>rw[oy]at z ep;injection z with z1 z2;exact hp a _<|Z ep (ax z1 U)
  exact Z ek<|Z (xn gg) (Z (EO λa d z=>.inr ⟨m,by rw[hr];injection z with z1 z2;rw[z1]⟩)<|Nz h)
def NB(h:l.length<=600):pE (eE l).1:=by
 rw[ER];by_cases q:l.take 1=[42];exact Z (aa q)<|⟨.inl U,by show 1<=600;lk⟩
 refine Z (u q)<|⟨.inr ⟨?_,ahl l⟩,g (alo _).length_le h⟩
 induction l with
 |nil=>exact rI _ _∘PL|cons c l=>exact M' λz=>q<|Z z U
def ahD(l:L):(eE l).2.length<=l.length:=by
 have:=bq ig<|Ax l
 rw[aN]at this;exact g (bU _ _)<|bg this.symm
def ahE(a:p.length<=600):pE (bJ p).wd/\(∀m,(bJ p).mo=I m->pE m)/\(bJ p).fl.length<=600:=by
 have c:(p.dropWhile dV).length<=600:=g (PM _).length_le a;have d:=ahD<|p.dropWhile dV
 unfold bJ;refine Z ((Ay _ _ _).1)<|Z ((Ay _ _ _).2) (⟨NB c,λm e=>?_,g (alo _).length_le a⟩)
 rw[Nc]at e;split at e;obtain rfl:=aK e;exact NB<|Z i8 (g (g' _ _)<|g d c)
 exact aD e
def NC(c:L)(d:D Rc)(v:CV):Prop:=
 (∃t k,v=.tup [.str<|tx t,.none,.int (k:J)]/\k<=d.length/\t.length<=20000/\cz c (d.take k) t)\/
 (∃k:V,v=.tup [.lst [.str "ArgumentError",.str "argument too big"],.none,.int k]/\fR c d 0=.error lg)\/
 ∃a k w e,v=.tup [w,cu<|.inr a,.int (k:J)]/\k<=d.length/\rl e w/\fR c d 0=.error e/\a.at'<=a.en/\fR ((c.drop a.at').take (a.en -a.at')++(if a.cut then[]else c)) (d.drop k) 0=.error e
abbrev pF(d:D (L⊕Un))(e:D Rc)(a:L)(c:J)(f h i:SV):D (H×SV):=[("units",.v<|.lst (d.map cu)),("records",.v<|.lst (e.map dh)),("made",.v<|.str (tx a)),("used",.v<|.int c),("unit",f),("row",h),("many",i)]
abbrev pG(d:J)(Q E:cT)(a:bD)(s:K):Prop:=match a with|.aO=>bu O (aj O d) (λx s=>E x s.hp) 98 ((ae 89).body.drop 2) (bB Q) s|f=>bB Q f s
abbrev pH(d:J)(x:CV):M bD:=(dm O (aj O d) 97 (kS<|bW (ae 89) 1)<|.v x).bind λY=>cb O (aj O d) 97<|gw (bW (ae 89) 1)
def ND{c:J}(f:a.length<=20000)(h:t.length<=1000)(m:a.length+t.length>20000->Q (.tup [.lst [.str "ArgumentError",.str "argument too big"],.none,.int c]) i)
 (o:¬a.length+t.length>20000->∀j,Ok (dD (pH d)<|p.map cu) (pG d Q E) (λx s=>E x s.hp) ⟨pF e r (a++t) c j v w,i,(ae 89).sc⟩):
 Ok (dD (pH d)<|(x5 t::p).map cu) (pG d Q E) (λx s=>E x s.hp) ⟨pF e r a c j v w,i,(ae 89).sc⟩:=by
 refine Ok.pA<|Ok.cD (g (aY f h)<|by lk) (Ok.len (by rewrite[aV];exact Z aN<|g (aY f h) (by lk)) ?_)
 rewrite[aV];refine Z aN<|aq.d (λq=>?_) λq=>?_
 exact m<|(uT (n:=20000)).mp q
 exact o (λk=>q<|Int.ofNat_lt.mpr k) _
def ahF(l:D α)(n:J):cut l (I (n:V)) W=l.drop n:=by
 unfold cut;show pW (l.length -d6 l.length n) (Bb (d6 l.length n) l)=_;unfold d6;refine Z (u qB) ?_;rcases xw n l.length with q|q
 have:(max 0<|min (n:V) l.length).toNat=n:=mq.trans<|n4 q
 exact Z this<|Z (m4<|by simp) U
 have:(max 0<|min (n:V) l.length).toNat=l.length:=mq.trans<|uw q
 refine Z this<|Z (lV<|aA _) (Z (lV q) ?_);simp
def Ok.NE{n:J}(h:a.length<=100000)(q:Q (.lst<|a.drop n) s):Ok (ir (.lst a) (.int n) .none) Q E s:=by
 have e:ir (.lst a) (.int n) .none s=if a.length<=100000 then .ok (.lst<|cut a (I (n:V)) W) s else .C:=U;unfold Ok;refine Z e<|Z (aa h) ?_;rw[ahF]
 exact q
def ahG(L:∀R∈o,bI r R)(p:o.length<=1000)(M:pE uu.ps.wd)(y:∀m,uu.ps.mo=I m->pE m)(N:uu.kd=[]/\R0=[]\/∃c l,uu.kd=[c]/\R0=c::l)(B:uu.ps.fl.length<=1000)(G:i.length<=20000)
 (z:∀e,gF {uu.ps with rs:=R0} (o.drop f)=.error e->∀w,rl e w->Q (.tup [w,cu<|.inr uu,.int f]) A)
 (O:∀x(n:J),gF {uu.ps with rs:=R0} (o.drop f)=.ok x->x.2.2=(o.drop f).drop n->n<=(o.drop f).length->x.1.length<=400000/\(i.length+x.1.length>20000->Q (.tup [.lst [.str "ArgumentError",.str "argument too big"],.none,.int (f+n:J)]) A)/\(¬i.length+x.1.length>20000->∀P T X,Ok (dD (pH<|d+4)<|k0.map cu) (pG (d+4) Q E) (λx s=>E x s.hp) ⟨pF F o (i++x.1) (f+n) P T X,A,(ae 89).sc⟩)):
 Ok (dD (pH<|d+4)<|(Sum.inr uu::k0).map cu) (pG (d+4) Q E) (λx s=>E x s.hp) ⟨pF F o i f P T X,A,(ae 89).sc⟩:=by
 refine Ok.pA<|Ok.NE (by rw[b0];exact g p<|by lk) (ax alp<|Ok.fn U (ahv (R0:=R0) (λR h=>L R (Bl h)) (by refine Z i8 ?_;exact g (g' _ _) p) M y N B λv t=>?_))
 generalize e:gF {uu.ps with rs:=R0} (o.drop f)=C;induction C using ip with
 |error H=>rw[e]at t;refine av t λw j Y=>?_;subst j;have z:=z H e w Y;clear t;refine d9 Y λa b j zz=>?_;subst j;exact z
 |ok x=>
  rw[e]at t;refine cC t λn j h3 h4=>?_;subst j;refine cB (O x n e h3 h4) λS h5 h6=>Ok.cD (g (aY G S)<|by lk)<|Ok.len (by rewrite[aV];exact Z aN<|g (aY G S) (by lk)) ?_
  rewrite[aV];refine Z aN<|aq.d (λq=>?_) λq=>?_
  exact h5<|(uT (n:=20000)).mp q
  exact h6 (λk=>q<|Int.ofNat_lt.mpr k) _ _ _
def ahH(c:J):f6 c=B->c=37\/c=10\/c=0:=λh=>by
 have e:(ak "%\n\x00").cps.toList=[37,10,0]:=by kernel_rfl
 have h:=jx h;rw[e]at h;simpa using h
def ahI(a:37∉p)(d:p.head?≠I 10)(f:p.head?≠I 0):Pl p:=λc m e=>by
 subst e;generalize q:f6 c=h;induction h using dN with
 |false=>rfl|true=>
  rcases ahH c q with rfl|rfl|rfl
  exact aF (dj ..) a;exact aF U d;exact aF U f
def NF(m:f=pre++(s++l))(n:cz pre (d.take a) c)(j:c.length<=20000)(o:cz s k t)(h:∃i,d.drop a=k++i)(p:c.length+t.length>20000):fR f d 0=.error lg:=by
 refine aJ h λi h=>?_;have e:d=d.take a++(k++i):=by refine ax h ?_;rw[xO]
 refine Z m ?_;conv=>lhs;rw[e]
 rw[n _ _ _<|dk U,u<|vM j,o _ _ _<|g (dO j _) (by lk),i4,aa p];rfl
def ahJ{e:Er}(h:d=pre++l)(i:cz pre (f.take a) c)(j:c.length<=20000)(k:fR l (f.drop a) c.length=.error e):fR d f 0=.error e:=by
 refine Z h ?_;conv=>lhs;rw[<-xO a f]
 rw[i _ _ _<|by lk,u<|vM j,i4,k];rfl
def ahK(hR:∀R∈X,bI r R)(hlen:X.length<=1000)(M:N.length<=600)(f:∀v,NC N X v->Q v hp):∀{n:J}{l:L}{C:D (L⊕Un)},UR n l C->∀(y k:L)(j:J)(F G P:SV),N=y++l->n=y.length->cz y (X.take j) k->k.length<=20000->j<=X.length->
 Ok (dD (pH<|d+4)<|C.map cu) (pG (d+4) Q E) (λx s=>E x s.hp) ⟨pF NG X k j F G P,hp,(ae 89).sc⟩:=by
 intro n l C h;have O:∀{s t l y k:L}{j:J}{C:D (L⊕Un)}{F G P:SV},t.length<=1000->N=y++(s++l)->cz y (X.take j) k->k.length<=20000->j<=X.length->cz s [] t->(∀(A o:L)(F G P:SV),N=A++l->A=y++s->cz A (X.take j) o->o.length<=20000->Ok (dD (pH<|d+4)<|C.map cu) (pG (d+4) Q E) (λx s=>E x s.hp) ⟨pF NG X o j F G P,hp,(ae 89).sc⟩)->Ok (dD (pH<|d+4)<|(x5 t::C).map cu) (pG (d+4) Q E) (λx s=>E x s.hp) ⟨pF NG X k j F G P,hp,(ae 89).sc⟩:=λ{s t l y k j C F G P}ht T I V W hs i=>by refine ND V ht (λq=>f _<|.inr (.inl ⟨j,U,NF T I V hs ⟨_,U⟩ q⟩)) λq F=>?_;have S:=I.app hs;rw[eN]at S;exact i _ _ F G P (by rw[db];exact T) U S<|Z aN (iM q)
 refine h.ind (λn y k j F G P T hn I V W=>?_) (λn q l C hq ih y k j F G P T hn I V W=>?_) (λn c q l C hc hq ih y k j F G P T hn I V W=>?_) λn p l C h1 h2 h3 h4 h5 ih y k j F G P T hn I V W=>?_
 refine Ok.ae6 ?_;rw[eN]at T;exact f _<|.inl ⟨k,j,U,W,V,T▸I⟩
 have K:=bq ig T;rw[aN,bw,bw,aN]at K;exact O (s:=37::37::q) (Z bw<|UZ M K) T I V W (cz.uf.app<|cz.txt hq) λA o F G P e1 e2 S ml=>ih A o j F G P e1 (Z e2<|Z aN (Z bw<|Z bw (Z hn (iL _ _ _)))) S ml W
 have K:=bq ig T;rw[aN,bw,bw,aN]at K;exact O (s:=37::c::q) (Z bw<|Z bw (UY M K)) T I V W ((cz.xh hc).app<|cz.txt hq) λA o F G P e1 e2 S ml=>ih A o j F G P e1 (Z e2<|Z aN (Z bw<|Z bw (Z hn (iL _ _ _)))) S ml W
 have K:=bq ig T;rw[aN,bw,aN]at K;have hp:=ahI h1 h2 h3;have pl:Pl (p++l):=by
  by_cases z:p=[];exact Z z<|Z (h4 z) (λY Y e=>cO pN e U)
  exact hp.head z
 have pk:=ahE (p:=p)<|U0 M K
 have ep:=xf p;have H:∀vs,uj (p++l) vs=gF {bJ p with rs:=(bJ p).rs++l} vs:=λvs=>Z (xn pl)<|Z (NA h5) U
 have hk:(eH n l.isEmpty p).kd=[]/\(bJ p).rs++l=[]\/∃c m,(eH n l.isEmpty p).kd=[c]/\(bJ p).rs++l=c::m:=by
  unfold eH;dsimp only;clear H pl h4 K ih T h;generalize hrs:(bJ p).rs=ahL;induction ahL using bk with
  |cons c m=>exact .inr ⟨c,m++l,U,U⟩|nil=>
   rcases h5 with rfl|⟨m,rfl⟩
   exact .inl ⟨U,U⟩;exact .inr ⟨37,m,U,U⟩
 refine ahG (uu:=eH n l.isEmpty p) (R0:=(bJ p).rs++l) hR hlen pk.1 pk.2.1 hk (g pk.2.2<|dk U) V (λe he w ha=>?_) λx n' hx e1 e2=>?_;refine f _<|.inr (.inr ⟨_,j,w,e,U,W,ha,?_,?_,?_⟩)
 refine ahJ T I V<|Z EZ ?_;rw[H]
 exact Z (show gF {bJ p with rs:=(bJ p).rs++l} (X.drop j)=_ from he) U;unfold eH;dsimp only;exact UO;have e3:(eH n l.isEmpty p).en -(eH n l.isEmpty p).at'=((bJ p).pre.length+(eH n l.isEmpty p).kd.length)+1:=by unfold eH;dsimp only;exact UD
 have e4:N.drop (eH n l.isEmpty p).at'=37::((bJ p).pre++((bJ p).rs++l)):=by refine Z (show(eH n l.isEmpty p).at'=y.length from hn)<|Z T (Z Ge ?_);rewrite[<-db];exact ax ep U
 have e5:((bJ p).rs++l).take (eH n l.isEmpty p).kd.length=(eH n l.isEmpty p).kd:=by
  rcases hk with⟨k1,k2⟩|⟨c,m,k1,k2⟩
  exact Z k1 U;exact Z k1<|Z k2 U
 rw[e3,e4,OJ,aln,m4<|cx _ _,xz,e5,m6,db,EZ,
  ahC h5 hp h4 he n _ λk1=>?_]
 rfl;have:(eH n l.isEmpty p).cut=true:=by
  rcases hk with⟨_,k2⟩|⟨c,m,k3,_⟩
  obtain⟨k4,k5⟩:=List.append_eq_nil_iff.mp k2;unfold eH;dsimp only;rw[k4,k5];rfl;rw[k1]at k3;exact cO pN k3 U
 rw[aa this];have hx:gF {bJ p with rs:=(bJ p).rs++l} (X.drop j)=.ok x:=hx;have pn:p≠[]:=λz=>by rw[z,h4 z]at hx;exact cK hx
 obtain⟨NH,e3,c,m,e4,S⟩:=ahB h5 hp pn hx;have xl:x.1.length<=300000:=by
  have uh:=(H<|X.drop j).trans hx;clear H pl h4 K ih T;generalize z:p++l=zz;induction zz using bk with
  |nil=>rw[z]at uh;cases uh
  |cons a b=>rw[z]at uh;exact MK (r0:=r) (λR h=>hR R<|Bl h) uh
 have en:n'=NH.length:=by have a:=bq ig e3;have b:=bq ig e1;rw[aN]at a;rw[i8]at b;exact ak2<|(bq (n'+·) b).trans ((alm e2).trans a)
 have et:X.take (j+n')=X.take j++NH:=Z List.take_add<|Z e3 (Z en<|Z alj U)
 have eu:j+n'<=X.length:=by rw[i8]at e2;exact UU W e2
 rw[e4]at ep;have kG:=bq ig ep;rw[aN,bw]at kG;have NI:N=y++((37::((bJ p).pre++[c]))++(m++l)):=by
  refine Z T ?_;conv=>lhs;rw[ep]
  simp only [db,m6,uP]
 have qH:37∉m:=λz=>h1<|by rw[ep];exact List.mem_append_right _<|eW _ z
 refine⟨by exact g xl<|by lk,λq=>f _<|.inr (.inl ⟨_,U,NF NI I V S ⟨_,e3⟩ q⟩),λq F G P=>?_⟩;rw[e4];have S2:=I.app S;rw[<-et]at S2;refine O (s:=m) (t:=m) (l:=l) (U4 M K kG) (by rw[db];exact NI) S2 (by rw[aN];exact iM q) eu (cz.txt qH) λA o F G P f1 f2 S3 ml=>ih A o _ F G P f1 ?_ S3 ml eu;rw[f2,hn];simp only [aN,bw,O0];exact UX kG
def ahM(t:∀R∈e,bI r R)(h:e.length<=1000)(c:i.length<=600)(n:i=p++l)(k:37∉p)(w:UR p.length l j)(a:∀v,NC i e v->Q v o):Cl (aj O<|d+5) "_law_due" [.lst<|(x5 p::j).map cu,.lst<|e.map dh] o Q E:=by
 have m:=bq ig n;rw[aN]at m;refine ba (f:=ae 89) U U (l:=[("units",.v<|.lst ((x5 p::j).map cu)),("records",.v<|.lst (e.map dh))]) U ?_;(conv=>whnf);show Ok (dD (pH<|d+4)<|(x5 p::j).map cu) (pG (d+4) Q E) (λx s=>E x s.hp) ⟨pF (x5 p::j) e [] 0 .un .un .un,o,(ae 89).sc⟩;refine ND (dW _) (g (sE c m)<|dk U) (λq=>?_) λq y=>?_;have q:0+p.length>20000:=q;exact aF (cM q<|g (bg<|i4 _) (g (g (cx _ _)<|bg m.symm) c))<|by lk
 exact ahK t h c a w p p 0 y .un .un n U (cz.txt k) (g (bU _ _)<|iM q)<|dW _
def Ok.ahN(h:bu T f (λv d=>Ok (oM T c x i j v) F E d) n b F s):Ok (c5 T f (n+1)<|.Try b [.ExceptHandler (I<|.Name c p1) (I x) [.Return (I<|.List i j) p2] p3] [] [] p4) F E s:=by
 have h:=(tJ n).ss _ _ _ _ h;have e:c5 T f (n+1) (.Try b [.ExceptHandler (I<|.Name c p1) (I x) [.Return (I<|.List i j) p2] p3] [] [] p4) s=match cb T f n b s with|.exc v d=>oM T c x i j v d|r=>r:=U
 unfold Ok at h⊢;refine Z e ?_;generalize k:cb T f n b s=m;induction m using Internal.R.casesOn with|C=>rw[k]at h;exact h|ok a d=>rw[k]at h;exact h|exc v d=>rw[k]at h;exact h
def ahO(i:O.fns q=I f)(j:f.native=W)(k:mm f.params args f.km=I l)
 (h:Ok (cb O (aj O d) 100 f.body) (bB Q) (λx s=>E x s.hp) ⟨l++f.locs.map (λx=>(x,.un)),c,f.sc⟩):Cl (aj O<|d+1) q args c Q E:=by
 unfold Cl;refine Z (sA i) ?_;unfold oV;refine Z j<|Z k ?_
 unfold Ok at h;show(match(match cb O (aj O d) 100 f.body ⟨l++f.locs.map (λx=>(x,.un)),c,f.sc⟩ with
  |.ok (.ret v) s=>RH.ok v s.hp|.ok .aO s=>.ok .none s.hp|.ok _ _=>.C|.exc e s=>.exc e s.hp
  |.C=>.C)with
  |.ok v c=>Q v c|.exc x c=>E x c|.C=>bA)
 generalize e:cb O (aj O d) 100 f.body ⟨l++f.locs.map (λx=>(x,.un)),c,f.sc⟩=m;induction m using Internal.R.casesOn with
 |C=>rw[e]at h;exact h|exc x n=>rw[e]at h;exact h
 |ok a n=>rw[e]at h;cases a<;>exact h
def Ok.chain(h:gk o=B)(q:Ok (mh T n o) (λr s=>Ok (iu T r a) Q E s) E s):Ok (mh T (n+1)<|.Attribute o a p) Q E s:=by have e:mh T (n+1) (.Attribute o a p)=if gk o=B then(mh T n o).bind λr=>iu T r a else C:=U;exact Z e<|Z (aa h) (.bind q)
def Ok.of(h:m s=.ok a c)(q:Q a c):Ok m Q E s:=by unfold Ok;exact Z h q
def Ok.uk{h:K}(n:em T c s=.ok (.cls cn) s)(o:s.sc.names.lookup x=I .local)(p:s.hp[k]?=I (.inst d w))(q:(T.exc d&&T.sub d (.cls cn)&&!T.gQ m&&bV a&&decide (a.length<=1000))=B)(t:fU x (.v<|.cell k) s=.ok () h)
 (f:Ok (nB T a) (λi j=>F (.ret<|.lst i)<|cq x .un j) (λY Y=>bA) h):Ok (oM T c x a m<|.cell k) F E s:=by
 unfold Ok at f;have e:oM T c x a m (.cell k) s=vu (nB T a h) λi j=>.ok (.ret<|.lst i) (cq x .un j):=by
  unfold oM;refine Z n ?_;show(if s.sc.names.lookup x=I .local then aS (gR s.hp[k]?) _ else _)=_;refine Z (aa o)<|Z p ?_
  show(if(T.exc d&&T.sub d (.cls cn)&&!T.gQ m&&bV a&&decide (a.length<=1000))=B then _ else _)=_;exact Z (aa q)<|Z t U
 unfold Ok;refine Z e ?_;generalize nB T a h=r at f;induction r using Internal.R.casesOn with|ok i j=>exact f|C=>exact f.elim|exc _ _=>exact f.elim
def um(a:WI w p)(y:∀R∈n,bI p R)(z:h.length<=900)(A:n.length<=1000)(F:∀t,hZ 1000 h n 0=.ok t->∀i,aT p i->Q (.str<|tx t) (b::wO w::i))(G:∀e,hZ 1000 h n 0=.error e->∀q i,WI q i->aT p i->Q (.lst [.str e.1,.str e.2]) (b::wO q::i)):
 Cl (aj O<|d+18) "_law_heard" [.cell 1,.str<|tx h,.lst<|n.map (·.v)] (b::wO w::p) Q E:=by
 refine ahO (f:=ae 90) U U (l:=[("world",.v<|.cell 1),("row",.v<|.str (tx h)),("handed",.v<|.lst (n.map (·.v)))]) U ?_;show Ok (M.bind (c5 O (aj O<|d+17) 99<|bW (ae 90) 0) _) _ _ _;refine Ok.bind<|Ok.ahN (Ok.fn U<|af4 a y z A ?_)
 generalize e:hZ 1000 h n 0=P;induction P using ip with
 |ok t=>exactλi X=>F t e i X
 |error T=>
  intro x q i Y S L;have c:=G T e q i Y S;obtain⟨j,B,t,V,o,m,g,k,rfl,r,s,⟨N,W,Z,K,u,I,D⟩,J⟩:=L;refine Ok.uk (k:=j+2) (cn:="Raised") U U r U U<|Ok.bind (m:=mh O 8 _) (Ok.chain U<|Ok.chain U (Ok.chain U (.of U (Ok.at r U ?_))))
  refine Ok.at s U<|Ok.at D U (Ok.bind (m:=nB O [_])<|Ok.bind (m:=mh O 8 _) (Ok.chain U (Ok.chain U (Ok.chain U (.of U ?_)))))
  refine Ok.at r U<|Ok.at s U ?_
  exact Ok.at J U c
def E1(e:Er):Prop:=e.1="ArgumentError"\/e.1="TypeError"
def eV{α:Type}(a:dL α):Prop:=∀e,a=.error e->E1 e
def eV.ok:eV (.ok x:dL α):=λY h=>u6 h
noncomputable def eV.arg:eV (.error ("ArgumentError",m):dL α):=λe h=>by obtain rfl:=uZ h;exact .inl U
noncomputable def eV.typ:eV (.error ("TypeError",m):dL α):=λe h=>by obtain rfl:=uZ h;exact .inr U
def eV.and(h:eV a)(k:∀x,eV<|f x):eV (cS a f):=λe c=>by
 induction a with
 |error d=>exact h e<|by obtain rfl:=uZ c;rfl
 |ok x=>exact k x e c
def NJ(z:L)(a:D Rc):eV (d5 z a):=by
 unfold d5;split;induction a with
 |nil=>exact .arg|cons R a=>
  dsimp only;unfold lG;cases R.s with
  |none=>dsimp only;split;exact .arg;exact .ok
  |some s=>exact .typ
 split;exact .arg;exact .ok
def ahP(f:L)(h:J)(i:al V)(c:J)(a:D Rc):eV (fj f h i c a):=by
 by_cases e:f6 c=B;unfold fj;exact Z (aa e)<|.arg
 by_cases d:c∈gj;induction a with
 |nil=>exact Z (Nt d)<|.arg
 |cons R a=>
  refine Z (AB d)<|eV.and ?_ λY=>.ok
  unfold ia;split;refine eV.and ?_ λY=>.ok;unfold rd;cases R.num with
  |some n=>exact .ok|none=>
   cases R.s with
   |none=>exact .ok
   |some s=>cases s<;>first|exact eV.typ|exact eV.arg
  split;unfold j5;cases R.s with
  |none=>dsimp only;split;exact .ok;exact .arg
  |some s=>cases s<;>first|exact eV.ok|exact eV.typ
  exact .ok
 exact Z (EY d<|by simpa using e)<|.arg
def NK(a:L)(n:V)(d:al V)(r:L)(e:D Rc):eV (gK a n d r e):=by induction r with|nil=>exact .arg|cons c l=>exact eV.and (ahP _ _ _ _ _) λY=>.ok
def ahQ(c:J)(l:L)(a:D Rc):eV (gf c l a):=by
 generalize h:f6 c=d;induction d using dN with
 |true=>unfold gf;exact Z (aa h)<|.ok
 |false=>
  refine Z (Nb h)<|eV.and (NJ _ _) λx=>?_
  split;exact NK _ _ _ _ _;exact eV.and (NJ _ _) λy=>NK _ _ _ _ _
def ahR:∀(n:J)(l:L)(a:D Rc)(z:J),eV (hZ n l a z):=by
 intro n;induction n with
 |zero=>exactλY Y Y=>.ok|succ n d=>
  intro l a z;induction l using bk with
  |nil=>exact .ok|cons c l=>
   show eV (if c=37 then _ else _);split;induction l using bk with
   |nil=>exact .arg|cons e f=>refine eV.and (ahQ _ _ _) λx=>?_;split;exact .arg;exact eV.and (d _ _ _) λY=>.ok
   split;exact .arg;exact eV.and (d _ _ _) λY=>.ok
def cz.run(h:cz s (vs.take k) t)(a:z<=20000):fR s vs z=if z+t.length>20000 then .error lg else .ok t:=by have e:=h [] (vs.drop k) z a;rw[eN,xO]at e;refine Z e ?_;have c:∀vs z,fR [] vs z=.ok []:=λY Y=>rfl;rw[c];show(if _ then _ else xr (t++[]))=_;rw[eN]
def ahS(h:cz a (c.take k) t)(d:t.length<=20000):fR (a++a) (c.take k++c) 0=if t.length+t.length>20000 then .error lg else .ok (t++t):=by
 refine Z (h _ _ _<|dk U)<|Z (u<|vM d) ?_;rewrite[i4];refine Z (h.run d) ?_
 split<;>rfl
noncomputable def cz.dbl:∀l:L,cz (rU 37 l) [] l
 |[]=>.nil|c::l=>by
  show cz (if c=37 then c::c::rU 37 l else c::rU 37 l) [] (c::l);by_cases h:c=37;exact Z (aa h)<|Z h (cz.uf.app<|cz.dbl l)
  exact Z (u h)<|(cz.one h).app (cz.dbl l)
def NL(h:a.length<=20000):fR (rU 37 a) c 0=.ok a:=by
 have:=cz.run (vs:=c) (k:=0) (z:=0) (cz.dbl a)<|dk U
 exact Z this<|Z (u<|vM h) U
noncomputable def NM:∀l:L,(rU 37 l).length<=2*l.length
 |[]=>aA _|c::l=>by
  have a:=NM l;show(if c=37 then c::c::rU 37 l else c::rU 37 l).length<=_;refine Z bw ?_;split;exact Z bw<|Z bw (dC a 2)
  exact Z bw<|fF (g a<|bM _)
def bI.ext{R:Rc}(h:bI r R)(x:aT r a):bI a R:=by unfold bI at*;generalize e:R.s=c;induction c using bL with|none=>rw[e]at h;exact h|some s=>rw[e]at h;exact h.ext x
def kT(h:a.length<=900):hZ 1000 a c 0=fR a c 0:=Nv _ _ _ _ _ (br h<|by lk) vL
def ahT(n:E1 e)(o:rl e v)(h:Q (.bool B) p):Cl (aj O<|d+1) "_law_agrees" [.lst [.str e.1,.str e.2],v] p Q E:=by
 refine fP o λa b j k m=>?_;subst j;obtain⟨i,q⟩:=e;dsimp only at k m⊢;refine ba (f:=ae 91) U U (l:=[("heard",.v<|.lst [.str i,.str q]),("due",.v<|.lst [.str a,.str b])]) U ?_;have c:∀x y z:H,z=x\/z=y->(x==z||(y==z||ag))=true:=λx y z h=>by
  rcases h with rfl|rfl
  rw[j9,alq];rw[j9,alq,Bool.or_true]
 (conv=>whnf);show aq (_==i||(_==i||ag)) _ _;refine Z (c _ _ i n) ?_;(conv=>whnf);show aq (_==a||(_==a||ag)) _ _;refine Z (c _ _ a k) ?_;(conv=>whnf);show Q (.bool<|_==b||(_==b||ag)) _;exact Z (c _ _ b m) h
def UR.len(h:UR n l c):c.length<=2*l.length:=by refine h.ind (λ_=>aA _) (λ_ _ _ _ _ a=>?_) (λ_ _ _ _ _ _ _ a=>?_) λ_ _ _ _ _ _ _ _ _ a=>?_<;>simp only [bw,aN]at a⊢;exact H6 a;exact H6 a;exact UL a
abbrev mT(t:V)(k:L)(o:D (L⊕Un))(f h m a n i j d e c:SV):D (H×SV):=[("world",.v<|.cell 1),("box",.v<|.cell 0),("turn",.v<|.int t),("row",.v<|.str (tx k)),("units",.v<|.lst (o.map cu)),("records",f),("want",h),("way",m),("handed",a),("due",n),("unit",i),("used",j),("heard",d),("twice",e),("behind",c)]
def ahU{E:cT}(a:bX c f b)(W:c<=700000)(e:WI w r)(j:z.length<=70)(K:z=p++l)(u:UR p.length l X)
 (h:∀A F y(n:D Rc)m,bX (c+4300) f A->WI F y->(∀R∈n,bI y R)->n.length<=430->bu O (aj O<|d+19) (λx s=>E x s.hp) 96 ((ae 92).body.drop 4) (bB Q) ⟨mT t z (.inl p::X) (.ol<|n.map dh) m .un .un .un .un .un .un .un .un,A::wO F::y,(ae 92).sc⟩):
 bu O (aj O<|d+19) (λx s=>E x s.hp) 97 ((ae 92).body.drop 3) (bB Q) ⟨mT t z (.inl p::X) (.ol []) .un .un .un .un .un .un .un .un .un,b::wO w::r,(ae 92).sc⟩:=by
 have G:=bq ig K;rw[aN]at G;have o:=u.len;refine Ok.fn U<|ag3 (us:=.inl p::X) (Z bw<|U1 j G o) λV P C=>?_
 rw[bw]at P;refine Ok.xa (I:=λk s=>∃(A:aQ)(F:iY)(y:D aQ)(n:D Rc)(m:SV),bX (c+10*k) f A/\WI F y/\(∀R∈n,bI y R)/\n.length<=k/\s=⟨mT t z (.inl p::X) (.ol<|n.map dh) m .un .un .un .un .un .un .un .un,A::wO F::y,(ae 92).sc⟩) V.length V 0 _ Cj ⟨b,w,r,[],.un,a,e,(λY h=>nomatch h),aA _,U⟩ (λx H k s S i F' h=>?_) λs i=>?_;obtain⟨A,F,y,n,m,L,M,N,q,rfl⟩:=i;have hs:=C x H;induction x using CV.casesOn with
 |str x=>
  refine Ok.Mv (xs:=n.map dh) U (by rw[b0];exact g q<|g (sH S<|vJ j G o P) (by lk)) ?_;rw[b0];refine Ok.fn U<|agN L (g (aY W<|d7 10 (sH S (vJ j G o P)))<|by lk) M λR b2 w2 r2 B B2 W2 X2=>Ok.app (xs:=n.map dh) U (by rw[b0];exact br (g q<|sH S (vJ j G o P))<|by lk) U<|h _ ⟨b2,w2,r2,n++[R],.v (.str x),B2.mono (gb _),W2,λR' T=>?_,by refine Z aN ?_;show _+1<=_;exact ut q,?_⟩
  rcases List.mem_append.mp T with T|T
  exact(N R' T).ext X2;exact Z (List.mem_singleton.mp T) B;exact Z on U
 |_=>exact hs.elim
 obtain⟨A,F,y,n,m,L,M,N,q,rfl⟩:=i;exact h A F y n m (L.mono<|U5 j G o P) M N<|g q (g (dO (vJ j G o P) 0)<|by lk)
def ahV(l:D α):cut l W (I<|-1)=l.take (l.length -1):=by
 unfold cut;show pW (d6 l.length (-1) -0) (l.drop 0)=_;rw[AV];unfold d6
 congr 1
 simp only [show((-1:V)<0)=fD from by simp,Ga];exact Tu
def Ok.ahW(h:ay s.loc x=I (.ol xs))(a:xs.length<=100000)(q:Q (.lst<|xs.take (xs.length -1)) s):Ok (ir (.bY x) .none<|.int (-1)) Q E s:=by
 have c:c4 s (.bY x)=I xs:=by unfold c4;dsimp only;exact Z h U
 have e:ir (.bY x) .none (.int<|-1) s=.ok (.lst<|xs.take (xs.length -1)) s:=by show aS (c4 s<|.bY x) _=_;refine Z c<|(aa a).trans ?_;rw[ahV]
 unfold Ok;exact Z e q
def ahX{E:cT}{j:D Rc}(a:bX c f b)(P:c<=800000)(e:WI w r)(y:∀R∈j,bI r R)(o:j.length<=430)
 (h:∀T X z(j:D Rc)k,bX (c+2) f T->WI X z->(∀R∈j,bI z R)->j.length<=431->bu O (aj O<|d+19) (λx s=>E x s.hp) 93 ((ae 92).body.drop 7) (bB Q) ⟨mT t l N (.v<|.lst (j.map dh)) p k .un .un .un .un .un .un .un,T::wO X::z,(ae 92).sc⟩):
 bu O (aj O<|d+19) (λx s=>E x s.hp) 96 ((ae 92).body.drop 4) (bB Q) ⟨mT t l N (.ol<|j.map dh) p .un .un .un .un .un .un .un .un,b::wO w::r,(ae 92).sc⟩:=by
 refine Ok.fn U<|cZ a (yX P) (dk U) (dk U) λk Y S L A=>aq.q (λq=>?_) λq=>?_
 refine Ok.fn U<|cZ A (br P<|by lk) (dk U) (dk U) λn I B V W=>Ok.fn U<|EN (HS B) (HT V) e λR K u F C H=>Ok.app (xs:=j.map dh) U (by rw[b0];exact br o (by lk)) U ?_
 clear L S;subst q;have i:=h I K u (j++[R]) (.v<|.int 1) W C (λG m=>by
  rcases List.mem_append.mp m with m|m
  exact(y G m).ext H;exact Z (List.mem_singleton.mp m) F)<|by refine Z aN ?_;show _+1<=_;exact br o<|by lk
 unfold mT at i;rw[on]at i;(conv=>whnf);conv at i=>whnf
 exact i;refine aq.q (λM=>?_) λM=>?_;clear q L S;subst M;refine Ok.ahW (xs:=j.map dh) U (by rw[b0];exact g o<|by lk) ?_;rewrite[b0];refine ax alr ?_;have i:=h Y w r (j.take<|j.length -1) (.v<|.int 0) (A.mono yN) e (λG m=>y G<|als m)<|Z lb (g (pP _ _)<|uV o)
 (conv=>whnf);conv at i=>whnf
 exact i;have i:=h Y w r j (.v<|.int k) (A.mono yN) e y<|g o (by lk)
 (conv=>whnf);conv at i=>whnf
 exact i
def Ok.ahY(a h:α->CV):∀(c:D α),(∀x∈c,bj (h x)=B)->
 (∀x∈c,∃l,jM t (a x) f=I l/\∀o:CV->K->Prop,(∀d i,o (h x) ⟨d,j,i⟩)->vE T s (λY Y=>bA) n e o ⟨l,j,v⟩)->
 P (c.map h) ⟨f,j,k⟩->Ok (cW (c7 T s n e t [] v)<|c.map a) P E ⟨f,j,k⟩:=by
 intro c;induction c generalizing P with
 |nil=>exactλ_ _ p=>p|cons x c w=>exactλq r p=>av (r x<|dj ..) λl z b=>Ok.q9 z<|b _ λd i=>⟨q x<|dj ..,(w (λy m=>q y<|eW _ m) (λy m=>r y<|eW _ m) p)⟩
def Ok.dbl(h:l.length<=1000)(q:Q (.str<|tx (rU 37 l)) s):Ok (sq (.str<|tx l) (ak "%")<|ak "%%") Q E s:=by
 have e:sq (.str<|tx l) (ak "%") (ak "%%")=λs=>if(ak "%").length=1/\(ak "%%").length=2/\(tx l).length<=1000 then .ok (.str<|N0 (tx l) (ak "%") (ak "%%")) s else .C:=U;refine Z e ?_;unfold Ok;dsimp only;refine Z (aa ⟨by decide +kernel,by decide +kernel,by rw[aV];exact h⟩)<|Z (show ak "%"=⟨#[37]⟩ from by kernel_rfl) (Z (show ak "%%"=⟨#[37,37]⟩ from by kernel_rfl)<|Z (jq (N0 _ _ _)) ?_);rw[StrLaws.replace_double]
 exact q
noncomputable abbrev sZ(a:D Rc):CV:=.lst<|a.map (·.v)
def AG{E:cT}(a:WI w r)(c:f.length<=70)(o:∀R∈k,bI r R)(p:k.length<=431)(h:∀m i,WI m i->Q (.bool B) (b::wO m::i)):
 bu O (aj O<|d+19) (λx s=>E x s.hp) 88 ((ae 92).body.drop 12) (bB Q) ⟨mT t f us rm want way (.v<|sZ k) mU unit used uk twice behind,b::wO w::r,(ae 92).sc⟩:=by
 have j:=NM f;refine Ok.dbl (g c<|by lk)<|Ok.fn U (um a o (Cq c j) (sL p) (λq e i X=>?_) λe n=>?_)
 rw[kT<|Cq c j,NL<|g c (by lk)]at e;obtain rfl:=dQ e;(conv=>whnf);rw[j9];exact h w i<|a.ext X
 rw[kT<|Cq c j,NL<|g c (by lk)]at n;exact u6 n
def Ok.ahZ{n:J}(h:a.length<=100000)(q:Q (.lst<|a.take n) s):Ok (ir (.lst a) .none<|.int n) Q E s:=by
 have e:ir (.lst a) .none (.int n) s=if a.length<=100000 then .ok (.lst<|cut a W (I (n:V))) s else .C:=U;have c:cut a W (I (n:V))=a.take n:=by unfold cut;show pW (d6 a.length n -0) (a.drop 0)=_;refine Z AV ?_;unfold d6;exact Z (u qB)<|List.take_eq_take_iff.mpr ((bq (min · _) mq).trans<|by rw[aiV,aiW])
 unfold Ok;exact Z e<|Z (aa h) (Z c q)
def Ok.ah0(h:a.length+c.length<=1000)(q:Q (.lst<|a++c) s):Ok (ej .Add (.lst a)<|.lst c) Q E s:=by have e:ej .Add (.lst a) (.lst c) s=if a.length+c.length<=1000 then .ok (.lst<|a++c) s else .C:=U;unfold Ok;exact Z e<|Z (aa h) q
noncomputable abbrev E2:CV:=.lst [.str "ArgumentError",.str "argument too big"]
abbrev E3(d:J)(Q E:cT)(f:bD)(s:K):Prop:=match f with|.aO=>bu O (aj O<|d+19) (λx s=>E x s.hp) 88 ((ae 92).body.drop 12) (bB Q) s|f=>bB Q f s
def NN{k:J}(c:WI w r)(i:n.length<=70)(hR:∀R∈F,bI r R)(G:F.length<=431)(k1:k<=F.length)(x1:x.length<=20000)(S:cz n (F.take k) x)
 (P:tw=.str (tx<|x++x)/\¬x.length+x.length>20000\/tw=E2/\x.length+x.length>20000)(h:∀w' T,WI w' T->Q (.bool B) (b::wO w'::T)):
 bu O (aj O<|d+19) (λx s=>E x s.hp) 86 ((qJ<|bW (ae 92) 11).drop 1) (E3 d Q E) ⟨mT t n us o p Y (.v<|sZ F) mU y (.v<|.int k) m (.v tw) j,b::wO w::r,(ae 92).sc⟩:=by
 refine aq.d (λq=>?_) λq=>?_;refine Ok.cD (a:=n) (b:=n) (g (aY i i)<|by lk)<|Ok.ahZ (by rw[b0];exact g G<|by lk) (ax alr<|Ok.ah0 (by simp only [b0,lb];exact H3 G) ?_)
 refine ax on ?_;have tr:=ahS S x1;have f:=λ(w':iY)(T:D aQ)(W':WI w' T)(X:aT r T)=>AG (d:=d) (t:=t) (us:=us) (rm:=o) (want:=p) (way:=Y) (mU:=mU) (unit:=y) (used:=.v<|.int k) (uk:=m) (twice:=.v tw) (behind:=j) (E:=E) W' i (λR z=>(hR R z).ext X) G h;have Av:∀R∈F.take k++F,bI r R:=λR z=>by
  rcases List.mem_append.mp z with z|z
  exact hR R<|als z
  exact hR R z
 refine Ok.fn U<|um c Av (Z aN<|Ck i) (Z aN<|Z lb (H3 G)) (λt' e r1 X=>?_) λe l w1 r1 W1 X=>?_
 rw[kT<|Z aN (Ck i),tr]at e;rcases P with⟨rfl,A⟩|⟨rfl,A⟩
 replace e:=(u A)▸e;obtain rfl:=dQ e;have f:=f w r1 (c.ext X) X;(conv=>whnf);rw[j9];(conv=>whnf);conv at f=>whnf
 exact f;replace e:=(aa A)▸e;exact cK e;rw[kT<|Z aN (Ck i),tr]at l;rcases P with⟨rfl,A⟩|⟨rfl,A⟩
 replace l:=(u A)▸l;exact u6 l;replace l:=(aa A)▸l;obtain rfl:=uZ l;have f:=f w1 r1 W1 X;(conv=>whnf);conv at f=>whnf
 exact f;have f:=AG (d:=d) (t:=t) (us:=us) (rm:=o) (want:=p) (way:=Y) (mU:=mU) (unit:=y) (used:=.v<|.int k) (uk:=m) (twice:=.v tw) (behind:=j) (E:=E) c i hR G h;(conv=>whnf);refine Z (dx q) ?_;(conv=>whnf);conv at f=>whnf
 exact f
abbrev ah1(d:J)(Q E:cT)(f:bD)(s:K):Prop:=match f with|.aO=>bu O (aj O<|d+19) (λx s=>E x s.hp) 86 [] (E3 d Q E) s|f=>E3 d Q E f s
def ah2{m:D Rc}{e:Er}(a:WI w r)(i:j.length<=70)(z:∀R∈m,bI r R)(q:m.length<=431)(Y:k<=m.length)(G:c.at'<=c.en)(o:bh.length<=70)
 (l:fR ((j.drop c.at').take (c.en -c.at')++bh) (m.drop k) 0=.error e)(h:∀A F,WI A F->Q (.bool B) (b::wO A::F)):
 bu O (aj O<|d+19) (λx s=>E x s.hp) 84 ((qJ<|(M7<|bW (ae 92) 11).getD 0 (.Pass default)).drop 1) (ah1 d Q E) ⟨mT t j us rm want way (.v<|sZ m) mU (.v<|cu (.inr c)) (.v<|.int k) (.v<|.lst [.str e.1,.str e.2]) twice<|.v (.str<|tx bh),b::wO w::r,(ae 92).sc⟩:=by
 have p:((j.drop c.at').take<|c.en -c.at').length<=70:=Z lb<|Z i8 (g (pP _ _)<|g (g' _ _) i)
 refine Ok.slice (lo:=I (c.at':J)) (hi:=I (c.en:J)) U U (by rw[aV];exact g i<|by lk)<|Z (Nd j G) (Ok.cD (g (aY p o)<|by lk)<|Ok.NE (by rw[b0];exact g q (by lk)) ?_)
 refine ax alp<|Ok.fn U (um a (λR y=>z R<|Bl y) (by exact Z aN<|Cr o p) (by exact Z i8<|g (g (g' _ _) q) (by lk)) (λS n P X=>?_) λL n M P T X=>?_)
 rw[kT<|Z aN (Cr o p),l]at n;exact cK n;rw[kT<|Z aN (Cr o p),l]at n;obtain rfl:=uZ n;have f:=AG (d:=d) (t:=t) (us:=us) (rm:=rm) (want:=want) (way:=way) (mU:=mU) (unit:=.v<|cu (.inr c)) (used:=.v<|.int k) (uk:=.v<|.lst [.str e.1,.str e.2]) (twice:=twice) (behind:=.v<|.str (tx bh)) (E:=E) T i (λR y=>(z R y).ext X) q h;(conv=>whnf);show aq (!(([e.1,e.2]:D H)==[e.1,e.2])) _ _;rw[j9];(conv=>whnf);conv at f=>whnf
 exact f
def ah3{b:aQ}{w:iY}{r:D aQ}{Q E:cT}{G:D Rc}{P:SV}(c:WI w r)(j:o.length<=70)(n:o=p++l)(hp:37∉p)(hu:UR p.length l us)(y:∀R∈G,bI r R)(z:G.length<=431)
 (h:∀w' r',WI w' r'->Q (.bool B) (b::wO w'::r')):
 bu O (aj O<|d+19) (λx s=>E x s.hp) 93 ((ae 92).body.drop 7) (bB Q) ⟨mT t o (.inl p::us) (.v<|.lst (G.map dh)) A P .un .un .un .un .un .un .un,b::wO w::r,(ae 92).sc⟩:=by
 have kG:=bq ig n;rw[aN]at kG;refine Ok.ahY dh (·.v) G (λR h=>(y R h).st) (λR h=>⟨_,U,λQ' q=>q _ _⟩)<|⟨by rw[b0];exact sL z,(Ok.fn U<|ahM (d:=d+14) y (sL z) (g j (by lk)) n hp hu λv hv=>?_)⟩
 rcases hv with⟨x,k,rfl,k1,x1,S⟩|⟨k,rfl,e⟩|⟨f,k,wv,e,rfl,k1,ha,e1,u1,Y⟩
 have eR:fR o G 0=.ok x:=Z (S.run<|dk U)<|Z (u<|vM x1) U
 (conv=>whnf);refine Ok.fn U ?_;refine um c y (nF j) (sL z) (λt' e r1 X=>?_) λe m=>?_
 rw[kT<|nF j,eR]at e;obtain rfl:=dQ e;(conv=>whnf);rw[j9];refine Ok.len (by rw[aV];exact g x1<|by lk) ?_;rw[aV];(conv=>whnf);refine aq.d (λq=>?_) λq=>?_;exact Ok.cD (have k:_<10001:=Int.ofNat_lt.mp q;g (aY (cG k)<|cG k) (dk U))<|NN (d:=d) (c.ext X) j (λR n=>(y R n).ext X) z k1 x1 S (.inl ⟨U,by exact have k:_<10001:=Int.ofNat_lt.mp q;Nat.not_lt.mpr (aY (j7 k)<|j7 k)⟩) h
 exact NN (d:=d) (c.ext X) j (λR n=>(y R n).ext X) z k1 x1 S (.inr ⟨U,by exact TO q⟩) h;rw[kT<|nF j,eR]at m;exact u6 m;(conv=>whnf);refine Ok.fn U ?_;refine um c y (nF j) (sL z) (λt' m r1 X=>?_) λY m w1 r1 W1 X=>?_
 rw[kT<|nF j,e]at m;exact cK m;rw[kT<|nF j,e]at m;obtain rfl:=uZ m;have i:=AG (d:=d) (t:=t) (us:=.inl p::us) (rm:=.v<|.lst (G.map dh)) (want:=A) (way:=P) (mU:=.v E2) (unit:=.v .none) (used:=.v<|.int k) (uk:=.v E2) (twice:=.un) (behind:=.un) (E:=E) W1 j (λR n=>(y R n).ext X) z h;(conv=>whnf);conv at i=>whnf
 exact i;have hc:E1 e:=ahR _ _ _ _ e e1;(conv=>whnf);refine Ok.fn U ?_;refine um c y (nF j) (sL z) (λt' m r1 X=>?_) λe3 m w1 r1 W1 X=>?_
 rw[kT<|nF j,e1]at m;exact cK m;rw[kT<|nF j,e1]at m;obtain rfl:=uZ m;have mD:bj wv=true:=by refine d9 ha λa b cy zz=>?_;subst cy;rfl
 refine Ok.fx (Z gc<|Z gc (Z mD U))<|ahT hc ha (d9 ha λa b cy zz=>?_);subst cy
 have T:=λbh hb Y=>ah2 (bh:=bh) (e:=e) (d:=d) (t:=t) (us:=.inl p::us) (rm:=.v<|.lst (G.map dh)) (want:=A) (way:=P) (mU:=.v<|.lst [.str a,.str b]) (twice:=.un) (E:=E) W1 j (λR n=>(y R n).ext X) z k1 u1 hb Y h;(conv=>whnf);generalize F:f.cut=ah4;induction ah4 using dN with
 |true=>
  rw[F,aa U]at Y;have T:=T [] (dW _) Y;(conv=>whnf);conv at T=>whnf
  exact T
 |false=>
  rw[F,u<|dk U]at Y;have T:=T o j Y;(conv=>whnf);conv at T=>whnf
  exact T
def ah5(a:bX c f b)(m:c<=500000)(e:WI w r)(h:∀s x y,bX (c+5000) (t==3) s->WI x y->Q (.bool B) (s::wO x::y)):Cl (aj O<|d+20) "_law_turn_right" [.cell 1,.cell 0,.int t] (b::wO w::r) Q E:=by
 refine ba (f:=ae 92) U U (l:=[("world",.v<|.cell 1),("box",.v<|.cell 0),("turn",.v<|.int t)]) U ?_;obtain⟨i,z,n,A,rfl,T,X,Y,S,L⟩:=a.h;(conv=>whnf);have M:bX c (t==3) (tK i z n A<|t==3):=⟨i,z,n,A,U,T,X,Y,S,L⟩;refine Ok.fn U<|af7 M (g m<|by lk) λN b2 o R=>Ok.fn U<|agZ (g o (by lk)) λp l us F Z G=>?_
 have j:=ahU (d:=d) (t:=t) (Q:=Q) (E:=E) R (g (dC m _)<|by lk) e o F G λb3 w3 r3 I P D V q k=>ahX D (lk 4350 m U) V q k λW w4 r4 I K u C q k=>ah3 C o F Z G q k λH r5 W5=>h W H r5 (u.mono TJ) W5
 (conv=>whnf);conv at j=>whnf
 exact j
end
section
open PySem
set_option tactic.hygienic true
def kW:D aQ:=match aj O 20 "World.__init__" [.cell 1,.dA []] [.e9 [],.inst "World" []]with|.ok _ a=>a.drop 2|_=>[]
noncomputable def kX:iY:=⟨6,[(.str "Object",.cell 2),(.str "BasicObject",.cell 3),(.str "Class",.cell 4),(.str "Module",.cell 5),(.str "Kernel",.cell 6)]⟩
noncomputable def fA(r:D aQ)(j:J):D (H×SV):=match r[j]? with|some (.inst _ a)=>a|_=>[]
def ah6(r:D aQ)(j:J):Int:=match ay (fA r j) "number" with|some (.v<|.int n)=>n|_=>0
def AH(r:D aQ)(j:J)(x:H):CV:=match ay (fA r j) x with|some (.v v)=>v|_=>.none
def ah7:aj O (d+20) "World.__init__" [.cell 1,.dA []] [b,.inst "World" []]=.ok .none (b::wO kX::kW):=by kernel_rfl
def xo(h:kW[j]?=I (.inst "ModuleThing"<|jp (ah6 kW j) (AH kW j "owner") a (AH kW j "is_class") (AH kW j "parent") ((ay (fA kW j) "mixed").getD .un) (AH kW j "native"))):dz kW j a:=⟨_,_,_,_,_,_,h⟩
def NO:WI kX kW where
 all:=λp a=>by
  have a:p∈kX.ms:=a;unfold kX at a;simp only [rL,x3,uX]at a;rcases a with rfl|rfl|rfl|rfl|rfl
  exact⟨_,0,U,xo<|by kernel_rfl⟩;exact⟨_,1,U,xo<|by kernel_rfl⟩;exact⟨_,2,U,xo<|by kernel_rfl⟩;exact⟨_,3,U,xo<|by kernel_rfl⟩;exact⟨_,4,U,xo<|by kernel_rfl⟩
 base:=λnm h=>by
  simp only [rL,x3,uX]at h;rcases h with rfl|rfl|rfl
  exact Z (show bi kX.ms (.str "Object")=I (I<|.cell 2)from by kernel_rfl) λz=>nomatch z;exact Z (show bi kX.ms (.str "Class")=I (I<|.cell 4)from by kernel_rfl) λz=>nomatch z;exact Z (show bi kX.ms (.str "Module")=I (I<|.cell 5)from by kernel_rfl) λz=>nomatch z
 len:=by
  have:kX.ms.length+jW kX.ms aw=21:=by kernel_rfl
  exact bg this
 arr:=.inr λj e=>by rw[show bi kX.ms (.str "Array")=I W from by kernel_rfl]at e;cases e
def Ok.ah8{c:D V}(h:c.length<=63)(q:Q (.lst<|c.map .int) s):Ok (ir (.arg<|c.map .int) .none<|.int 63) Q E s:=by
 have e:ir (.arg<|c.map .int) .none (.int 63) s=if(c.map CV.int).length<=100000 then .ok (.lst<|cut (c.map CV.int) W (I ((63:J):V))) s else .C:=U;have d:cut (c.map CV.int) W (I ((63:J):V))=c.map CV.int:=by unfold cut;show pW (d6 (c.map CV.int).length ((63:J):V) -0) (Bb 0 _)=_;refine Z AV ?_;unfold d6;exact Z (u Th)<|m4 (by rw[b0];exact bg (mq (a:=63).trans<|uw h).symm)
 unfold Ok;exact Z e<|Z (aa<|by rw[b0];exact g h (by lk)) (Z d q)
def ah9{o:D V}(T:o.length<=63)(z:∀x∈o,x.natAbs.log2<=2^20)(h:∀a i p,0<=a->0<=i->i<2147483648->Q (.cell 0) [tK a i 0 p ag]):Cl (aj O<|d+1) "_law_box" [.arg<|o.map .int] [] Q E:=by
 refine ba (f:=ae 71) (by kernel_rfl) (by kernel_rfl) (l:=[("script",.v<|.arg (o.map .int))]) (by kernel_rfl) ?_;(conv=>whnf);refine Ok.ah8 T ?_;show Ok (dD (λx=>(dm O (aj O d) 97 (kS<|bW (ae 71) 1)<|.v x).bind λY=>cb O (aj O d) 97<|gw (bW (ae 71) 1))<|o.map .int) _ _ _;refine Ok.xa (I:=λY s=>∃(a i:V)(p:bf)(b:SV),0<=a/\0<=i/\i<2147483648/\s=⟨[("script",.v<|.arg (o.map .int)),("great",.v<|.int a),("seed",.v<|.int i),("bare",.v<|.bool p),("cell",b)],[],(ae 71).sc⟩) o.length (o.map .int) 0 _ (by rw[b0];exact Cj) ⟨0,67,B,.un,by lk,by lk,by lk,U⟩ (λx G k s M c X h=>?_) λs c=>?_;refine yi c λa i p b t A F j=>?_;subst j;clear c;refine av (List.mem_map.mp G) λn S j=>?_;subst j;have z:=z n S;have P:∀m,bu O (aj O d) (λY Y=>bA) 96 ((gw<|bW (ae 71) 1).drop 1) X ⟨[("script",.v<|.arg (o.map .int)),("great",.v<|.int a),("seed",.v<|.int i),("bare",.v<|.bool m),("cell",.v<|.int n)],[],(ae 71).sc⟩:=λm=>by
  (conv=>whnf);refine Ok.rb (cM (mn (n:=2147483648) A F)<|dk U) Te ?_;(conv=>whnf);refine Ok.mul (by unfold qh;exact Z (show Nat.log2 (aiK 69621)=16 from by kernel_rfl)<|i5 (lk 19 z U)) ?_;have w:0<=(i*48271+n*69621+31).fmod 2147483629:=xV _<|by lk
  have y:(i*48271+n*69621+31).fmod 2147483629<2147483629:=xW _<|by lk
  (conv=>whnf);generalize(i*48271+n*69621+31).fmod 2147483629=r at w y⊢;refine aq.q (λq=>?_) λq=>?_;(conv=>whnf);refine aq.d (λL=>?_) λL=>?_;exact h _ ⟨n.natAbs,r,m,_,by exact dX _,w,by exact bR y<|by lk,U⟩;exact h _ ⟨a,r,m,_,t,w,by exact bR y<|by lk,U⟩;(conv=>whnf);exact Z (beq_eq_false_iff_ne.mpr q)<|h _ ⟨a,r,m,_,t,w,by exact bR y<|by lk,U⟩
 clear G;induction p using dN with
 |true=>
  have e:=P<|n==0
  (conv=>whnf);conv at e=>whnf
  exact e
 |false=>
  have e:=P ag;(conv=>whnf);conv at e=>whnf
  exact e
 refine yi c λa i p b t A F j=>?_;subst j;exact h a i p t A F
end
section
open PySem
noncomputable abbrev NP(a:D V):D (H×SV):=[("script",.v<|.arg (a.map .int))]
noncomputable abbrev E4(c:D V)(a:SV):D (H×SV):=[("script",.v<|.arg (c.map .int)),("box",.v<|.cell 0),("world",.v<|.cell 1),("turn",a)]
def Ok.aia{a:D V}(h:a.length<=100000)(q:Q (.int a.length) s):Ok (cH O c (.blt "len") [.arg<|a.map .int]) Q E s:=by show Ok (ny<|.arg (a.map .int)) Q E s;exact Ok.run (wJ (by show I (a.map CV.int).length=_;rw[b0])<|br h (by lk)) q
def NQ{E:cT}{k:J}(a:bX 0 ag b)(d:WI w r)(l:k<=6)
 (A:∀{Q E:cT}{c:J}{f:bf}{b:aQ}{w:iY}{r:D aQ}{t:V}(a:bX c f b)(N:c<=500000)(d:WI w r)(h:∀i m o,bX (c+5000) (t==3) i->WI m o->Q (.bool B) (i::wO m::o)),Cl q "_law_turn_right" [.cell 1,.cell 0,.int t] (b::wO w::r) Q E)
 (h:∀F,Q (.bool B) F):Ok (dD (λx=>(dm O q 97 (kS<|bW (ae 93) 1)<|.v x).bind λY=>cb O q 97<|gw (bW (ae 93) 1))<|jf k) (λf s=>match f with
  |.aO=>bu O q (λx s=>E x s.hp) 98 ((ae 93).body.drop 2) (bB Q) s|f=>bB Q f s) (λx s=>E x s.hp) ⟨E4 xs .un,b::wO w::r,(ae 93).sc⟩:=by
 refine Ok.xa (I:=λk s=>∃(f:bf)(i:aQ)(m:iY)(o:D aQ)(t:SV),bX (5000*k) f i/\WI m o/\s=⟨E4 xs t,i::wO m::o,(ae 93).sc⟩) k (jf k) 0 _ (by unfold jf;simp) ⟨ag,b,w,r,.un,a,d,U⟩ (λx G j s P e R h=>?_) λs e=>?_;refine GF e λf i m o t y z p=>?_;subst p;obtain⟨n,-,rfl⟩:=List.mem_map.mp G;exact Ok.fn U<|A y (g (d7 5000<|g (cG P) l)<|dk U) z λT X S L M=>h _ ⟨_,T,X,S,_,L.mono<|aA _,M,U⟩
 refine GF e λf i m o t y z p=>?_;subst p;exact h _
def mnI{a:J}:(if(a:V)<4 then(a:V)else 4)=((min a 4:J):V):=by
 rcases j8 a 4 with z|z
 exact(aa<|Int.ofNat_lt.mpr z).trans<|bq uz (n4<|cG z).symm
 exact(u<|Int.not_lt.mpr (Int.ofNat_le.mpr z)).trans<|bq uz (uw z).symm
@[elab_as_elim] def le4{P:J->Prop}(i:k<=4)(a:P 0)(b:P 1)(c:P 2)(d:P 3)(e:P 4):P k:=
 (Gg i).elim (λh=>(Gg<|j7 h).elim (λh=>(Gg<|j7 h).elim (λh=>(Gg<|j7 h).elim (λh=>Nat.lt_one_iff.mp h▸a) λq=>q▸b) λq=>q▸c) λq=>q▸d) λq=>q▸e
def aid{p:bP}{E:cT}(l:m.length<=63)(A:0<=a)(F:0<=n)(G:n<2147483648)
 (q:∀{Q E:cT}{c:J}{f:bf}{b:aQ}{w:iY}{r:D aQ}{t:V}(d:bX c f b)(T:c<=500000)(i:WI w r)(h:∀v y z,bX (c+5000) (t==3) v->WI y z->Q (.bool B) (v::wO y::z)),Cl p "_law_turn_right" [.cell 1,.cell 0,.int t] (b::wO w::r) Q E)
 (h:∀P,Q (.bool B) P):bu O p (λx s=>E x s.hp) 99 ((ae 93).body.drop 1) (bB Q) ⟨E4 m .un,tK a n 0 bb ag::wO kX::kW,(ae 93).sc⟩:=by
 have d:bX 0 ag (tK a n 0 bb ag):=⟨a,n,0,bb,U,A,F,G,alt _,alt _⟩;(conv=>whnf);induction bb with
 |true=>exact NQ (k:=2) d NO Td q h
 |false=>
  refine Ok.aia (g l<|by lk) ?_;(conv=>whnf);obtain⟨k,e,o⟩:∃k:J,(if(m.length:V)<4 then(m.length:V)else 4)=k/\k<=4:=⟨min m.length 4,mnI,by exact pP _ _⟩;refine Z e ?_;(conv=>whnf);have j:=λk(o:k<=6)=>NQ (k:=k) d NO o q h (xs:=m) (E:=E);refine le4 o ?_ ?_ ?_ ?_ ?_;exact j 2<|dk U
  exact j 3<|dk U
  exact j 4<|dk U
  exact j 5<|dk U
  exact j 6<|dk U
def aie{E:cT}(v:m.length<=63)(y:∀{Q E:cT},(∀a j k,0<=a->0<=j->j<2147483648->Q (.cell 0) [tK a j 0 k ag])->Cl cl "_law_box" [.arg<|m.map .int] [] Q E)
 (z:∀b,cl "World.__init__" [.cell 1,.dA []] [b,.inst "World" []]=.ok .none (b::wO kX::kW))
 (l:∀{Q E:cT}{c:J}{f:bf}{b:aQ}{w:iY}{r:D aQ}{t:V}(d:bX c f b)(T:c<=500000)(e:WI w r)(h:∀n o p,bX (c+5000) (t==3) n->WI o p->Q (.bool B) (n::wO o::p)),Cl cl "_law_turn_right" [.cell 1,.cell 0,.int t] (b::wO w::r) Q E)
 (h:∀A,Q (.bool B) A):bu O cl (λx s=>E x s.hp) 100 (ae 93).body (bB Q) ⟨NP m++(ae 93).locs.map (λx=>(x,.un)),[],(ae 93).sc⟩:=by
 refine Ok.fn U<|y λa j k F G P=>Ok.new (q:="World.__init__") U (dk U) U<|Cl.eq (z _) ⟨U,?_⟩
 have i:=aid v F G P l h (bb:=k) (E:=E);(conv=>whnf);conv at i=>whnf
 exact i
def aif{e:D V}(i:e.length<=63)(j:∀x∈e,x.natAbs.log2<=2^20)(h:∀k,Q (.bool B) k):Cl (aj O<|d+21) "law" [.arg<|e.map .int] [] Q E:=
 ba (f:=ae 93) U U (l:=NP e) U<|aie (cl:=aj O<|d+20) i (λh=>ah9 i j h) (λY=>ah7) (λa m c h=>ah5 a m c h) h
def alJ(c:D V)(i:c.length<=63)(j:∀x∈c,x.natAbs.log2<=2^20):∃f,aj O 40 "law" [.arg<|c.map .int] []=.ok (.bool B) f:=by
 have h:=aif (d:=19) (Q:=λv Y=>v=.bool B) (E:=λY Y=>bA) i j λY=>rfl;unfold Cl at h;generalize e:aj O (19+21) "law" [.arg<|c.map .int] []=a at h;induction a with
 |ok v f=>cases h;exact⟨f,U⟩
 |exc v f=>exact h.elim|C=>exact h.elim
end
section
set_option tactic.hygienic true
def al9:PySem.Challenge.rw_tn0028_01.Holds:=adW alJ
end
end Internal
theorem PySem.Challenge.cw_tn0028_01_holds : PySem.Challenge.rw_tn0028_01.Holds :=
Internal.al9
