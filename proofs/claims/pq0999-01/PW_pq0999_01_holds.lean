import PyProof.Rows.All
import Wide.All
import OpenK.AllK
import Wide.FinOn
import Lean
import PySem.Challenge.RW_pq0999_01
set_option Elab.async false
set_option linter.all false
set_option tactic.hygienic false
set_option maxRecDepth 1000000
set_option maxHeartbeats 4000000
open Array renaming eq_empty_of_size_eq_zero->mF,getElem?_toList->qa,length_toList->rj,getElem?_eq_some_iff->BI,any_eq_false'->Hu,find?_toList->IK,getElem_mem->JV,size_zip->MY
open Array.Perm renaming refl->Gb
open Array.mk renaming inj->Mv
open Bool renaming and_eq_true->bP,and_eq_true_iff->dR,noConfusion->gQ,not_eq_true'->hO,false_eq_true->iB,or_eq_false_iff->lU,false_ne_true->mZ,not_true->wN,not_eq_false'->xQ,eq_false_iff->yP,eq_iff_iff->Bp,and_assoc->Ca,and_false->Cb,false_or->D7,or_true->FP,or_eq_true_iff->IP,not_eq_false->Kg,or_eq_true->MZ
open Classical renaming byContradiction->rt,em->BE
open Eq renaming symm->kU
open Exists renaming elim->bD
open False renaming elim->fA
open ForInStep renaming yield->iN
open Int renaming le_trans->aG,natCast_nonneg->aN,lt_of_lt_of_le->aT,ofNat_le->aX,lt_of_le_of_lt->bJ,ofNat_lt->bV,le_add_of_nonneg_right->bZ,toNat->cA,add_le_add_right->cX,le_of_eq->dF,le_of_lt->dJ,toNat_natCast->dO,add_nonneg->eM,sub_nonneg_of_le->eW,lt_trans->fE,mul_le_mul_of_nonneg_left->fM,emod_lt_of_pos->fP,mul_nonneg->gG,emod_nonneg->gM,sub_left_le_of_le_add->gW,add_lt_add_left->hG,eq_ofNat_of_zero_le->iJ,not_lt->iW,add_le_add->jM,add_assoc->kP,sub_left_lt_of_lt_add->lO,not_le->l_,toNat_of_nonneg->mH,mul_le_mul_of_nonneg_right->mK,le_refl->pD,lt_add_of_pos_right->pF,ediv_eq_zero_of_lt->pO,mul_le_mul->pP,add_le_add_left->rM,add_comm->rT,add_sub_cancel->sr,add_right_comm->su,natAbs->sx,fmod_eq_emod_of_nonneg->sy,lt_irrefl->tA,toNat_le->uL,toNat_lt->uM,ediv_nonneg->vk,natCast_pos->vq,add_one_le_of_lt->vN,le_of_sub_nonneg->vV,natAbs_eq_zero->xU,ne_of_gt->zj,sub_sub->Bo,lt_ediv_add_one_mul_self->Bw,sub_le_sub->CE,fdiv_eq_ediv_of_nonneg->CI,zero_add->FT,add_mul_ediv_right->Gc,add_mul_ediv_left->Ht,natAbs_of_nonneg->ID,neg_le_of_neg_le->IE,negSucc_lt_zero->JM,sub_add_cancel->J4,self_le_toNat->Mu,ofNat->MJ,max_eq_right->MK,le_antisymm->Ur,toNat_sub'->U1,le_natAbs->ab9,ofNat_sub->ad0,le_total->ad8,emod_def->ae2,mul_comm->ae3,sub_self->ag7,add_mul->aw0,mul_one->aw6
open Lean.Omega.Int renaming ofNat_min->xN
open List renaming getElem?_eq_getElem->aF,length_map->aJ,getElem?_eq_some_iff->aR,getD_eq_getElem?_getD->aS,mem_cons->a_,size_toArray->bC,getElem?_map->bE,mem_of_getElem?->bG,replicate->bH,mem_map->bR,mem_cons_self->bS,map_append->bW,range->cF,not_mem_nil->cG,length_take->cH,getElem?_of_mem->cT,nodup_cons->cZ,getElem_mem->dB,take_of_length_le->dE,lookup_cons->eG,take_length->eU,mem_cons_of_mem->eV,length_append->fB,map_cons->fH,pairwise_iff_getElem->fN,mem_singleton->fO,getElem?_set->f_,mem_append->gH,length_replicate->hW,forIn_cons->h_,take_add_one->iT,length_range->iU,map_congr_left->iY,getElem?_set_ne->jJ,eraseDups_cons->jX,getElem?_range->jY,length_cons->kQ,filter_cons->kT,filter_append->kW,append_nil->lP,nodup_append->lW,filterMap_cons_some->lZ,getElem?_cons_zero->mI,lookup->mT,getElem?_eq_none->ny,append_assoc->nB,pairwise_append->nQ,range_succ->oK,zip_cons_cons->oN,forIn_nil->pH,getElem?_set_self->pJ,pairwise_map->pK,take_append_drop->qk,length_filter_le->ql,mem_filter->rk,nil_append->rn,toArray->rP,map_map->rQ,drop_zero->r8,mem_range->r_,getElem?_inj->sV,map_take->tx,any_eq_true->tZ,range_succ_eq_map->uE,filter_eq_nil_iff->uH,nodup_nil->vF,drop_nil->wK,all_cons->wM,map_nil->yR,any_eq_false->yS,ext_getElem?->yV,filterMap_length_eq_length->zp,cons_append->zL,length->Ab,length_set->Bu,getElem?_append_left->CH,drop_eq_getElem_cons->CJ,set_comm->D9,Pairwise->Ea,getElem?_take_of_lt->Eb,drop_of_length_le->FR,take_eq_take_iff->FY,mem_append_right->Gd,mem_of_mem_take->Hy,mem_append_left->HB,filter_sublist->IV,filterMap_nil->JU,getElem?_drop->JW,pairwise_cons->JX,all_eq_true->MA,isEmpty_iff->MD,length_drop->ME,foldl_cons->MT,zip_append->MX,take_zero->UB,take_nil->U3,all_map->ac2,map_set->ad4
open List.Pairwise renaming nil->Cd
open List.Perm renaming eq_of_pairwise->Ac
open Nat renaming le_trans->aB,lt_of_lt_of_le->aV,lt_of_le_of_lt->aZ,le_of_eq->bA,le_of_lt->bK,le_refl->bM,add_le_add_left->bU,eq_of_beq_eq_true->cM,add_le_add_right->eE,le_add_right->eI,zero_le->eR,ne_of_lt->eX,beq->fQ,min_eq_left->fX,le_of_lt_succ->gB,min_le_right->gR,not_lt_zero->i4,add_le_add->jL,le_succ_of_le->jU,lt_of_succ_lt_succ->kJ,not_lt->kZ,succ_pred_eq_of_pos->mM,le_succ->m_,add_right_comm->nj,min_le_left->nv,zero_add->nX,succ_le_succ->nY,min_eq_right->nZ,lt_or_eq_of_le->oQ,add_sub_cancel_left->pE,sub_eq_zero_of_le->qy,lt_of_not_le->qB,add_assoc->qS,lt_trans->rU,lt_succ_of_le->tp,sub_pos_of_lt->tw,le_of_not_lt->ut,lt_succ_self->uu,ne_of_gt->uP,le_add_left->vn,two_mul->vO,sub_le_sub_right->vP,le_sub_one_of_lt->vQ,mul_le_mul_left->wJ,sub_le->xT,add_comm->zk,lt_succ_of_lt->zl,log2_lt->Bq,sub_lt->CD,lt_irrefl->Ef,exists_eq_add_of_le->FK,succ_pos->FS,lt_or_ge->F6,le_div_iff_mul_le->Hs,div_lt_of_lt_mul->IF,add_lt_add_right->IG,lt_of_le_of_ne->J3,lt_of_lt_of_eq->J9,lt_trichotomy->MF,le_antisymm->Us,mul_add_div->Ut,zero_min->ad9,sub_self->ae0,le_total->ae1,beq_refl->ae4,sub_zero->ae9,min_self->ag5,le_zero->aw1,mul_two->aw2
open Ne renaming symm->eY
open Option renaming map_eq_some_iff->d_,bind_eq_some_iff->iA,bind_some->nN,isNone_iff_eq_none->nS,isSome_iff_exists->oh,bind->FO,map->Hz,isSome_none->HA,map_some->Kd
open Option.some renaming inj->aE,injEq->dK
open Prod renaming fst->UA
open Prod.mk renaming injEq->p_
open PyProof.Rows renaming firstMet->gN,seqObj->jO,IntsAre->mX,tail_any->tC,get?_update_seq->wG,slot_list_sort->wU,firstMet_succ->xS,listUpdate_at->zM,arrOf->Ga,plain_sorted->J_,exec_Assign->MW,size_push'->U_,subscriptTail->aX3
open PyProof.Rows.SortSt renaming mk'->ad2
open PySem renaming wpAny_bind->aA,Expr->aI,Shared->aO,Value->aP,model->bB,Around->bT,wpAny_specialOf->b_,Env->cD,builtinLookup_eq_fast->cU,wpAny_holding->c_,Scope->dD,wpAny_of_eq->dQ,NameKind->dW,typeLookup_type->dY,mainGlobals->fC,bm_if_false->gC,wpAny_mono->gS,wpAny_field->iP,Program->iS,wpAny_rule->i7,wpAny_point->jB,World->jH,builtinsNs->jN,typeLookup->jP,isSubtype_type->jV,Arguments->kE,wpAny_callSpecial?_slot->kG,wpAny_newObj_type->kH,wpAny_call_entry->lF,holding->lV,starEach->mE,Comprehension->mL,intKind->mW,standAt->mY,checkBuiltinCall->nk,wpAny_isInstance->nq,Model->nx,stored->nz,assignEach->nA,plainId_quiet->nO,getMethod_builtin->nW,strKind->oq,wpAny_setField->ow,evalEach->oy,Result->oO,assignInOrder->pG,sizeLine_eq->qc,entryFor->qC,wpAny_seqItems->qD,newFunctionEnv->qE,bindName->qG,wpAny_release->rm,rawInt->ru,isSubtype->rx,markedEach->ry,wpAny_standAt->rN,backTo->sC,wpAny_typeOf->sQ,argsOk->tB,compEnvC->tD,wpAny_truthy_bool->uD,wpAny_sequenceKey->uF,sliceBounds->uG,callerA->uI,signature?_of->uN,wpAny_newList->uO,swappedStores->uQ,codeAmong->vC,compareOp->vD,call_meets->vS,codeAny->vT,pyIter->vU,codeAny_call_builtin->xV,wpAny_loadPart->xX,wpAny_letGo->xY,isTrue->xZ,OsState->yQ,spliced->yT,swapsWith->yU,typeIs_int->z4,constValue->z5,IsPart->z6,wpAny_call->z8,bm_if_true->z9,valueAt->By,wpAny_mkText->Bz,table->BA,slot_list_getitem->BB,Builtin->BC,compareChain->BF,wpAny_pyIter_enum->BG,foldedSetIterable->BH,KeyKind->CF,typeOf->CG,wpAny_mkInt->DZ,Fin->D8,leftWithCleanup_false_of_bare->D_,codeAny_of_tree->Eg,codeAny_builtin->Ei,letOwnedTupleGo->El,Keyword->FL,getItem->FM,constantsAlone->FU,sysModules->FW,truthy->FX,wants->F4,callType_codes->F5,markedBehindIn->F7,wpAny_letOwnedTupleGo_enum->F8,assign->F9,wpAt_of_wpAny->Hw,foldedForSure->IH,wpAny_getItem_list_slice->II,wpAny_attempt->IM,arm_eval_Name->IR,comprehension->IT,call->IU,specialOf->JN,slicePick->JO,DictEntry->JQ,list_append->JR,testChain->JS,wpAny_pyNext_enum_itemD->JT,BoolOp->J5,operate->J6,runOwn->J7,wpAny_update->J8,wpAny_pyNext_enum_endD->Ka,functionCode->Kb,assignStores->Kc,wpAt_bind->Mz,wpAny_alloc->MM,binaryOp->MN,bindSpecial->MP,callWith->MU,keywordEach->MV,wpAny_loadName_cell->Uu,wpAny_load->U2,isInstance->U4,arm_eval_Subscript->U6,IsEnum->U7,firstAsync->U9,Const->ac0,CmpOp->ac1,slot_dict_getitem->ac4,rawPart->ac5,setItem->ac6,slot_dict_setitem->ac7,entry_list_append->ac8,object_init_meets->ac9,classAt->ad3,storeName->ae5,seqIndex?->ae6,wpAny_getItem_of->ae7,sliceIndices_raw->ae8,ClassData->af0,wpAny_lookBehind->af1,slot_list_append->af3,args_list_append->af4,arm_eval_UnaryOp->af6,getMethod->af8,firstIter->ag0,wpAny_comp_letGo->ag1,TriplesOk->ag2,setFlight->ag3,wpAny_enterFrame->ag4,wpAny_nsSet1EFk->aw3,importedModules->aw5,slice_no_index->az0,wpAny_newTuple->az6,arm_eval_Slice->az7,evalArgs->az9,keeperOf->aA0,entry_typeCall->aA1,backToKw->aA2,methodCallForm->aA3,forIn_yield_id->aA4,foldedIterable->aA5,FuncBody->aA6,wpAny_fieldsOf->aA7,FuncData->aA8,ExceptHandler->aX2,wpAny_mkBytes->aX4,checkTypeCall->aX5,attributeBase->aX6,arm_eval_Dict->aX7,methodCallPos->aX8,wpAny_handled->aX9,wpAny_onRaise->aY0,fenceModules?->aY1
open PySem.Around renaming under_of_weight->iO,under_plainId->jG
open PySem.Bind renaming checkArgs->Uz,madeBy->af9
open PySem.Builtin.Bytes renaming decodersThatHold->lD,fitsIndex->lE,buffer?->oF,subscript?->qY,sliced->sR,payload->zI,tooLong->zJ,joined->Aa
open PySem.Builtin.Int renaming intBits->jI
open PySem.Builtin.List renaming listExtendWith->wQ,listFitsIndex->xO
open PySem.Builtin.ObjectAttr renaming storeInOwnDict->az3
open PySem.Builtin.Range renaming rangeSize->rz,rangeFitsLong->wH,small->Bt
open PySem.Builtin.SmallTypes renaming nextOf->pI
open PySem.Calls renaming call_function_entry->Cc
open PySem.Challenge renaming pw_pq0999_01->vB
open PySem.Code renaming quiet_builtin->r9
open PySem.DictEntry renaming refKey->FZ
open PySem.ExcName renaming means->MC
open PySem.Expr renaming Name->sU
open PySem.F renaming bm_called->t_,args_object_init_2->wO,excBase_Exception->Br,slot_int_index->Bx,bm_plain->Eh,entry_object_init->Mx,slot_list_insert->MR,sub_bytes_bytes->Uv,plainAttrs_list->Uw,plainAttrs_dict->Ux,slot_str_split->U5,slot_int_rmul->ac3,bm_no_buffer->af5,bm_typeCall->aw4,bm_newCall->az5
open PySem.Heap renaming get?_push_of_some->aK,get?_push_size->aU,get?_none_of_le->bL,get?_update_other->bY,get?_update_self->dH,lt_size->dT,SameBut->jF,size_push->nP,get?_update_ne->wF,ExtBut->Hx,get?_push_ne->Ke,size_update->MB
open PySem.Heap.IsSliceOf renaming new->Bs
open PySem.Heap.Ns1 renaming of_empty->wI
open PySem.Heap.SameBut renaming update->iE
open PySem.IsL renaming update->sA
open PySem.Keeper renaming boundFrame->IS,machine->My,frame->Uy
open PySem.Manifest renaming signature?->Em
open PySem.NameKind renaming free->gX,cell->lK
open PySem.Obj renaming mapFields->eF,mapSeq->fF,data_mapFields->oP,isFreed_of_fields->qA,dropNameByArray->wR,cls_mapFields->zo,dropName_eq->BJ,dropName->F_,data_mapDictKeys->IJ,isFreed_of_dict->JP,data_mapDict->MO,mapBytearray->MS
open PySem.Sem renaming wp_mono->vR
open PySem.Str renaming ofString->aD,ofString->Ek
open PySem.Value renaming none->eT,ref->lN,builtin->ot,isInt->oM,str->rO,isStrOf->wD,bytes->zK,int->D6
open PySem.W renaming Looks->mS,findIn->oo,typeIs_bytes->oI,boot_heap->oJ,instObj->sP,looks_clsIn->xW,findCls->zm,looks_findIn->BD,layAllW_rest->BK,typeIs_bytes->Ej,SharedT->FQ,clsIn->FV,check_slot->F3,ownOf->Mw,subIn->ML,looks_subIn->MQ,isNs_of_in->Va,set_plain->af2,specialIn->af7,opensWell->ag6,handedIn->az2,RecFacts->aB1,chainsOk->aB2
open PySem.W.Fast renaming tw10156331382660048174->uw,tw11892475500146522536->ux,tw14364793385576792824->uy,tw6613529449190102663->uJ
open PySem.W.KBw renaming IsBytesIter->i5,pyIter_bytes->uv,iter_typeIs->vo,slot_next->xP,entry_next->U8,args_next->ad1
open PySem.W.Looks renaming ld->ou,here->rV,of_pure->sS
open PySem.W.WData renaming layableAll->Kf
open PySem.callAny renaming viaDunder->Hv
open String renaming splitOnAux->IQ
open UInt8 renaming ofNat->kF
namespace Internal
noncomputable abbrev BIG:Int:=1267650600228229401496703205376
theorem yx{a c:Int}(h0:0<=a)(h:a<=c)(hc:c<=BIG):-BIG<=a/\a<=BIG:=⟨aG (by decide) h0,aG h hc⟩
theorem Kv{a:Int}{n:Nat}(h0:0<=a)(h:a<↑n):a.natAbs<n:=bV.mp (bJ (dF (ID h0)) h)
theorem Hf{a:Int}(h:0<=a):0<=(a+7)/8/\(a+7)/8<=a+7:=⟨vk (eM h (by decide)) (by decide),Int.ediv_le_self _ (eM h (by decide))⟩
theorem aS3{a:Int}:a<=(a+7)/8*8:=Int.le_of_add_le_add_right (a:=a) (b:=8) (c:=(a+7)/8*8) (aG (aG (dF (kP a 7 1).symm) (vN (Bw (b:=8) (a+7) (by decide)))) (dF (aw0 ((a+7)/8) 1 8)))
theorem av1{b:Int}{c:Nat}(h:10+b=↑c)(i:b<8):c<18:=bV.mp (bJ (dF h.symm) (hG i 10))
theorem aR6{m:Int}(h:m.natAbs<2^60):-9223372036854775808<=m/\m<9223372036854775808:=⟨aG (by decide:(-9223372036854775808:Int)<=-((2^60:Nat):Int)) (IE (aG ab9 (aG (dF (congrArg MJ (Int.natAbs_neg m))) (aX.mpr (bK h))))),fE (bJ ab9 (bV.mpr h)) (by decide)⟩
theorem aL1{i n:Int}(e:i<n):(if i+1<n then n-(i+1)else 0)=(if i<n then n-i else 0)-1:=by
 refine(?_:_=n-i-1).trans (congrArg (·-1) (if_pos e)).symm;by_cases h:i+1<n;·exact(if_pos h).trans (Bo n i 1).symm
 ·exact(if_neg h).trans (congrArg (·-1) ((congrArg (·-i) (Ur (iW.mp h) (vN e))).trans ((congrArg (·-i) (rT i 1)).trans (sr 1 i)))).symm
theorem Zp{a c:Int}(h:0<=a)(i:a<=c)(j:c+7<=BIG):-BIG<=(a+7)/8/\(a+7)/8<=BIG:=yx (Hf h).1 (aG (Hf h).2 (cX i 7)) j
theorem o0{a:Nat}:(0:Int)<=((a:Nat):Int):=aN _
theorem o1{a:Nat}(h:a<=600):a<=100000:=aB h (by decide)
theorem o2{a:Nat}(h:1<=a/\a<=20):0<a:=h.1
theorem o3{a b:Nat}(h:a+10<b):a<b:=aZ (eI _ _) h
theorem o4{a b c:Nat}(h:a+(c+1)<b):a<b:=aZ (eI _ _) h
theorem o5{a:Nat}(h:a<=20):a<=100000:=aB h (by decide)
theorem o6{a:Nat}(h:a<=60):a<=100000:=aB h (by decide)
theorem o7{a:Nat}(h:a<=(17:Nat)):((a:Nat):Int)<=(1000000:Int):=by revert h;revert a;decide
theorem o8{a:Nat}:3+a+1<=3+(a+1):=bM _
theorem o9{a:Nat}(h:400+110*a<=80000):400+110*a+1<=90000:=aZ h (by decide)
theorem o10{a:Int}(h:a<2^60):a<2^63:=fE h (by decide)
theorem o11{a b c:Nat}(h:a=c)(i:c<=b):a<=b:=aB (bA h) i
theorem o13{a b c:Nat}(h:a+(c+1)=b):a<b:=by subst h;lia
theorem o14{a:Int}(h:0<=a/\a<3):a<2^60:=aT h.2 (by decide)
theorem o15{a:Nat}(h:((1:Nat)<=a)/\(a<=(17:Nat))):((a:Nat):Int)<=(1000000:Int):=aX.mpr (aB h.2 (by decide))
theorem o16{a b:Nat}:a+1+b=a+(b+1):=nj _ _ _
theorem o17{a b:Nat}(h:a<b)(i:b<=4):a=0\/a=1\/a=2\/a=3:=(by decide:∀x:Nat,x<4->(x=0\/x=1\/x=2\/x=3)) _ (aV h i)
theorem o18{a:Nat}:a<=a+1:=eI _ _
theorem o19{a:Int}(h:0<=a/\a<4):a<2^60:=aT h.2 (by decide)
theorem o20{a:Nat}(h:a<=90000):a+4<=100000:=aB (eE h _) (by decide)
theorem o21{a:Nat}(h:a<=90000):a<=99000:=aB h (by decide)
theorem o22{a:Nat}(h:((1:Nat)<=a)/\(a<=(9:Nat))):(1:Int)<=((a:Nat):Int):=aX.mpr h.1
theorem o25{a:Nat}:400+110*a+1+100<=400+110*(a+1):=by lia
theorem o26{a b:Nat}(h:((b:Nat):Int)<(12:Int))(i:a=b):a<=(100000:Nat):=bK (aV (aZ (bA i) (bV.mp h)) (by decide))
theorem o27{a:Nat}:0<=a:=eR _
theorem o28{a:Int}(h:0<=a):¬a<0:=iW.mpr h
theorem o29{a:Nat}(h:6<=a):0<a:=aV (by decide) h
theorem o30{a b:Nat}(h:a<b+1):a<b+1+1:=jU h
theorem o31{a b:Nat}:a+(b+1)=a+1+b:=by lia
theorem o32{a:Int}{b:Nat}(h:↑b+8<=a/\a<=↑b+15/\8<=a):0<=a:=aG (by decide) h.2.2
theorem o33{a b:Nat}(h:a+1<=b):a<b:=h
theorem o34{a b:Int}{c:Nat}(h:a+↑c<b):a<=b:=dJ (bJ (bZ (aN c)) h)
theorem o35{a:Nat}(h:1<=a/\a<=1000):a<=100000:=aB h.2 (by decide)
theorem o36{a b:Int}(h:b<=a):0<=a-b:=eW h
theorem o37{a b:Int}{c:Nat}(h:a<=b):a<=b+↑c:=aG h (bZ (aN c))
theorem o38{a b:Nat}(h:b<=60):min a b<=100000:=aB (gR _ _) (aB h (by decide))
theorem o39{a:Nat}(h:a<=90000):a+4+1+1<=100000:=aB (eE h 6) (by decide)
theorem o40{a:Nat}(h:a<=90000):a+4+1<=100000:=by lia
theorem o41{a b c:Nat}(h:b<=60)(i:a<=min c b):a<=100000:=aB i (aB (gR _ _) (aB h (by decide)))
theorem o42{a:Nat}(h:1<=a/\a<=9):1<=a:=h.1
theorem o43{a:Nat}(h:1<=a/\a<=9):1<=a/\a<=20:=⟨h.1,aB h.2 (by decide)⟩
theorem o44{a:Nat}(h:1<=a/\a<=8):1<=a:=h.1
theorem o45{a:Nat}(h:1<=a/\a<=8):a<=100000:=aB h.2 (by decide)
theorem o46{a:Nat}(h:1<=a/\a<=8):1<=a/\a<=20:=⟨h.1,aB h.2 (by decide)⟩
theorem o47{a b:Int}(h:b+8<=a/\a<=b+15/\8<=a):0<=a:=aG (by decide) h.2.2
theorem o48{a b:Nat}(h:1<=b/\b<=17)(i:a=b):a<=100000:=aB (aB (bA i) h.2) (by decide)
theorem o49{a b:Nat}(h:a+1<=b):a<=b:=bK h
theorem o50{a b:Nat}(h:a<b):a+1<=b:=h
theorem o51{a b c:Nat}(h:c=2^24)(i:a<=100000)(h2:b<=100000):a+b<=c:=h▸aB (jL i h2) (by decide)
theorem o52{a:Int}(h:0<=a):-2^63<=a:=aG (by decide) h
theorem o53{a b:Nat}(h:a+10<b):a+1+1<b:=aZ (bU (by decide:2<=10) a) h
theorem o54{a:Int}{b:Nat}(h:a.toNat<b):a<↑b:=bJ (Mu a) (bV.mpr h)
theorem o55{a:Nat}(h:a<=100000):a<=1099511627776:=aB h (by decide)
theorem o56{a b c:Nat}(h:b=2^24)(i:a=c)(h2:c<=1000):a<=b:=aB (aB (aB (bA i) h2) (by decide)) (bA h.symm)
theorem o57{a:Nat}(h:a<=(100000:Nat)):((a:Nat):Int)<(9223372036854775808:Int):=bV.mpr (aZ h (by decide))
theorem o58{a b:Nat}(h:b<64)(i:a=b):a<64:=aZ (bA i) h
theorem o59{a b:Nat}(h:a+40*b+160<=9000):a+1+40*b+130<=9000:=aB (by rw[nj a 1];exact bU (by decide:131<=160) (a+40*b)) h
theorem o60{a b:Nat}(h:a+3*b+16<=990):a+1+3*b+14<=990:=aB (by rw[nj a 1];exact bU (by decide:15<=16) (a+3*b)) h
theorem o61{a b:Nat}(h:a<=b+1):a<b+1+1:=tp h
theorem o62{a:Nat}:a<a+1+1:=eI _ _
theorem o63{a:Nat}(h:6<=a):1<a:=aV (by decide) h
theorem o64{a b:Nat}(h:a+3*(b+1)+14<=990):a<1000:=aZ (aB (aB (eI _ _) (eI _ _)) h) (by decide)
theorem o65{a b c:Nat}(h:a=c)(i:c=b):a=b:=by subst i;exact h
theorem o66{a:Nat}(h:¬a<2):2<=a:=ut h
theorem o67{a:Nat}:a<=a+3:=eI _ _
theorem o68{a b:Int}(h:0<a/\a<=b):a≠0:=zj h.1
theorem o69{a:Int}{b:Nat}{c:Int}(h:a<=c/\c<=↑b):a.toNat<=b:=uL.mpr (aG h.1 h.2)
theorem o70{a:Int}{b:Nat}{c:Int}(h:c<=a/\a<=↑b):a.toNat<=b:=uL.mpr h.2
theorem o71{a:Nat}:0+a=a:=nX _
theorem o72{a b c:Nat}(h:a+(b+1)=c):a+1+b=c:=by subst h;lia
theorem o73{a b:Nat}(h:a+0=b):a=b:=by omega
theorem o74{a:Nat}:(cA ((8:Int)*((a:Nat):Int)))=((8:Nat)*a):=rfl
theorem o75{a b:Nat}(h:a<b)(i:b<=(20:Nat)):((0:Int)<=((8:Int)*((a:Nat):Int)))/\(((8:Int)*((a:Nat):Int))<=(200:Int)):=⟨gG (by decide) (aN a),aG (fM (aX.mpr (aB (bK h) i)) (by decide)) (by decide)⟩
theorem o76{a:Int}{b:Nat}(h:0<=a/\a<↑b):a.toNat<b:=(uM h.1).mpr h.2
theorem o77{a:Nat}(h:a<=63):a<=100000:=aB h (by decide)
theorem o78{a:Int}{b:Nat}(h:0<b/\b<=1000)(i:a<↑b):a.toNat<b:=(ad8 0 a).elim (λq=>(uM q).mpr i) λq=>aZ (bA (Int.toNat_eq_zero.mpr q)) h.1
theorem o79{a b c:Int}(h:c<=b)(i:¬c<=a):a<b:=aT (l_.mp i) h
theorem o80{a b c:Int}(h:a<=c)(i:c<=b):a<=b:=aG h i
theorem o81{a:Nat}:a-0<=a:=bM _
theorem o82{a:Int}:a<=a:=pD _
theorem o83{a:Int}(h:16777216<=a/\a<1879048192)(i:a<16777216):False:=iW.mpr h.1 i
theorem o84{a b:Int}{c d:Nat}(h:a+↑c<=b+↑d):a-b+↑c<=↑d:=aG (dF (su a (-b) c)) (gW h)
theorem o85{a b:Int}{c:Nat}:a-b<=a-b+↑c:=by lia
theorem o86{a b:Int}{c d:Nat}(h:a+↑c<=b+↑d)(i:d<=100000):a-b+↑c<2^60:=bJ (aG (dF (su a (-b) c)) (gW h)) (bJ (aX.mpr i) (by decide))
theorem o87{a b:Int}{c:Nat}(h:b<=a):0<=a-b+↑c:=eM (eW h) (aN _)
theorem o88{a b:Int}{c d:Nat}(h:a+↑c<=b+↑d)(i:d<=100000):a-b<2^60:=bJ (gW (aG (bZ (aN c)) h)) (bJ (aX.mpr i) (by decide))
theorem o89{a:Nat}(h:((1:Nat)<=a)/\(a<=(1000:Nat))):(1:Int)<=((a:Nat):Int):=aX.mpr h.1
theorem o90{a:Nat}(h:1<=a/\a<=20):a<=20:=h.2
theorem o91{a b:Nat}(h:((a:Nat):Int)<((b:Nat):Int)):a<b:=bV.mp h
theorem o93{a:Int}{b:Nat}(h:0<=a/\a<↑b)(i:b<=600):a<2^60:=fE (aT h.2 (aX.mpr i)) (by decide)
theorem o94{a:Nat}(h:a<2):a=0\/a=1:=by revert h;revert a;decide
theorem o95{a:Int}{b:Nat}{c:Int}{d e:Nat}(h:a+↑e<=c+↑d)(i:b<e):a+↑b<c+↑d:=aT (hG (bV.mpr i) a) h
theorem o96{a:Nat}(h:1<=a/\a<=20):a-1<a:=CD h.1 (by decide)
theorem o97{a b:Nat}(h:1<=b/\b<=20)(i:a<b):a<=100000:=aB (bK i) (aB h.2 (by decide))
theorem o98{a b:Int}{c:Nat}(h:-8<=b/\b<=24)(i:a+↑c<=30000000):a+b<=2000000000:=aG (jM (aG (bZ (aN c)) i) h.2) (by decide)
theorem o99{a b c:Nat}(h:a<min b c):a<b:=aV h (nv _ _)
theorem aj3{a:Nat}(h:a<=59):a+1<=60:=tp h
theorem ao9{a b:Int}:524288+(a+b)%4096<16776960:=fE (hG (fP _ (by decide)) _) (by decide)
theorem an5{a b:Int}:16<=524288+(a+b)%4096:=aG (by decide:(16:Int)<=524288) (bZ (gM _ (by decide)))
theorem Wk{a b:Nat}(h:b<=60)(i:a<=b):a<=100000:=aB i (aB h (by decide))
theorem at0{a:Nat}(h:a<=90000):a<=100000:=aB h (by decide)
theorem ak2{a:Nat}(h:1<=a):0<a:=h
theorem ai6{a b:Int}{c:Nat}(h:b<=a):(a-b).toNat+c=(a+↑c-b).toNat:=by
 obtain⟨n,hn⟩:=iJ (eW h);rw[show a+(c:Int)-b=a-b+c from su a c (-b),hn];rfl
theorem ao8{a:Nat}(h:1<=a/\a<=9):1<=a/\a<=1000:=⟨h.1,aB h.2 (by decide)⟩
theorem as5{a b:Nat}(h:1<=b/\b<=9)(i:a=b):a<=100000:=aB (aB (bA i) h.2) (by decide)
theorem ak1{a b:Nat}(h:a=b):a<=b:=by subst h;exact bM _
theorem ar2{a b:Int}{c d:Nat}(h:a+↑d<=b+↑c):min (a-b).toNat c=(a-b).toNat:=fX (uL.mpr (gW (aG (bZ (aN d)) h)))
theorem as4{a:Nat}:a<a+1:=bM _
theorem am0{a:Nat}:a+4+1+1+1<=a+100:=by simp
theorem ar3{a:Int}{b:Nat}(h:a<=↑(b+4+1+1+1)):a<=↑(b+100):=by lia
theorem ah9{a:Nat}(h:1<=a/\a<=8):1<=a/\a<=1000:=⟨h.1,aB h.2 (by decide)⟩
theorem ai2{a:Int}(h:a<=1208925819614629174706176):a<=BIG:=aG h (by decide)
theorem ar0{a:Int}(h:1<=a):0<a:=h
theorem an8{a:Nat}(h:a<6):a=0\/a=1\/a=2\/a=3\/a=4\/a=5:=by revert h;revert a;decide
theorem at5{a b:Int}(h:b+8<=a/\a<=b+15/\8<=a):7<a:=h.2.2
theorem av8:(0:Int)<=(7:Int):=aN _
theorem aj1{a:Int}(h:0<=a/\a<8):0<=a/\a<=1000:=⟨h.1,dJ (aT h.2 (by decide))⟩
theorem au4{a:Nat}(h:a<(7:Nat)):((a:Nat):Int)<((2:Int)^(60:Nat)):=by revert h;revert a;decide
theorem QG{a:Int}(h:0<=a):0<=a:=by omega
theorem ao2{a:Int}(h:1<=a/\a<=3):0<=a+1:=by lia
theorem am3{a:Int}(h:1<=a/\a<=17):a<=1000000:=aG h.2 (by decide)
theorem al4{a:Int}(h:1<=a/\a<=17):0<=a:=dJ h.1
theorem ar9{a:Nat}(h:a=3):a<=3:=by subst h;exact bM _
theorem an7{a b:Nat}(h:a<3):min a b<=100000:=aB (nv _ _) (aB (bK h) (by decide))
theorem ai7{a b:Nat}(h:a<3)(i:b=3):a<b:=aV h (bA i.symm)
theorem aE0{a b c:Nat}(h:1+c+a<b+1):a<b:=kJ (aZ (aB (bA (zk a 1)) (eE (eI 1 c) a)) h)
theorem aN7{a b c:Nat}(h:1+a+c<b+1):a<b:=aZ (eI a c) (kJ (aZ (bA ((zk (a+c) 1).trans (qS 1 a c).symm)) h))
theorem aC6{a b:Nat}:min (a+1) (b+1)=min a b+1:=by simp
theorem aT0{a b c:Nat}(h:((c:Nat):Int)=((2:Int)^(27:Nat)))(i:a<=(1000:Nat))(h2:b<=(1000:Nat)):¬((((a:Nat):Int)+((b:Nat):Int))>((c:Nat):Int)):=λq=>absurd (aT (h▸q) (jM (aX.mpr i) (aX.mpr h2))) (by decide)
theorem aO7{a:Nat}(h:a<=2^24):a<=16777216:=by omega
theorem aE8{a:Int}{b c:Nat}(h:c=(↑b+a).toNat):(a+↑b).toNat=c:=by subst h;lia
theorem aW1{a:Nat}{b:Int}(h:-↑a<=b):-↑a<=b:=by omega
theorem aF0{a:Int}{b:Nat}:max 0 (min a ↑b)=↑(min a.toNat b):=by
 rcases a with a|a;·exact(MK (by rw[show min (MJ a) (b:Int)=((min a b:Nat):Int)from(xN a b).symm];exact aN _)).trans (xN a b).symm
 ·rw[Int.min_eq_left (aG (dJ (JM a)) (aN b)),Int.max_eq_left (dJ (JM a)),show cA (Int.negSucc a)=0 from rfl,ad9];rfl
theorem aO3{a b c:Nat}(h:b=2^24)(i:c<=100000)(h2:a<=c):a<=b:=aB (aB (aB h2 i) (by decide)) (bA h.symm)
theorem aN6{a:Int}{b:Nat}:min (min a.toNat b) b=min a.toNat b:=by simp
theorem aK6{a b c d:Nat}(h:c=a)(i:c=d)(h2:d<=b):a<=b:=by subst h;subst i;omega
theorem aC3{a b c:Nat}(h:b=2^24)(i:c<=100)(h2:a<=c+1):a<=b+1:=by subst h;exact aB h2 (nY (aB i (by decide)))
theorem aF5{a:Nat}(h:a<=(100000:Nat)):¬(((a:Nat):Int)≥((2:Int)^(63:Nat))):=by lia
theorem aR7{a:Nat}:¬(((a:Nat):Int)<(0:Int)):=by simp
theorem aR9{a:Int}{b:Nat}(h:b=2^24)(i:a<=4096):a<=↑b:=by subst h;exact aG i (by decide)
theorem aF7{a:Int}{b:Nat}(h:b=2^24)(i:a<=4096):¬a.toNat>b:=kZ.mpr (aB (uL.mpr i) (aB (by decide:4096<=2^24) (bA h.symm)))
theorem aQ8{a:Nat}(h:a<=100):a+1<4096:=by revert h;revert a;decide
theorem aW8{a b c d e:Nat}(h:e=((2:Nat)^(24:Nat)))(i:c=(d-a))(h2:b<=(100000:Nat))(h3:d<=b):((((min (cA ((a:Nat):Int)) b)-(0:Nat))+c)+((min b b)-(cA ((d:Nat):Int))))<=e:=by subst h i;exact aB (jL (jL (aB (xT _ _) (gR _ _)) (aB (xT _ _) h3)) (aB (xT _ _) (nv _ _))) (aB (jL (jL h2 h2) h2) (by decide))
theorem ak5{a b:Nat}(h:a<=b):(max ((a:Nat):Int) ((b:Nat):Int))=((b:Nat):Int):=MK (aX.mpr h)
theorem aF8{a b c d:Nat}(h:a=b-c)(i:d<=100000)(h2:b<=d):a<=100000:=h▸aB (xT _ _) (aB h2 i)
theorem aT3{a b:Nat}(h:a+3*b+16<=990):a+3*b+14<=990:=by lia
theorem aL0{a b:Nat}(h:a+40*b+160<=9000):a+10<9900:=aZ (eE (aB (aB (eI _ _) (eI _ _)) h) 10) (by decide)
theorem o194:(0:Int)<=(0:Int):=aN _
theorem aD6{a b c:Nat}(h:b=c)(i:c=a):a=b:=by lia
theorem aL4{a b c d:Nat}(h:b=c)(i:a=d)(h2:c=d):a=b:=by lia
theorem aK9{a b c:Nat}:a<b+(c+a+1):=by lia
theorem aV7{a b c:Nat}:a<b+(a+c+1):=by lia
theorem aV9{a b c:Nat}(h:c+1=b)(i:a=c):a+1-b=0:=by subst h i;exact ae0 _
theorem aJ0{a b c:Nat}(h:b+1=c)(i:c<=a+1)(h2:a<=c)(h3:¬a=c):a=b:=Us (gB (J3 (aB h2 (bA h.symm)) λq=>h3 (q.trans h))) (Nat.le_of_succ_le_succ (aB (bA h) i))
theorem aL2{a b c:Nat}(h:b+1=c)(i:a=c):a=b+1:=by subst h;exact i
theorem aE5{a b c:Nat}(h:b=c)(i:c<=a)(h2:a<=c):a=b:=by lia
theorem aC7{a b:Nat}(h:a+40*(b+1)+130<=9000):a+3+40*b+160<=9000:=aB (by rw[nj a 3];exact bU (by decide:163<=170) (a+40*b)) h
theorem aI4{a b:Nat}(h:a+3*(b+1)+14<=990):a+1+3*b+16<=990:=aB (by rw[nj a 1];exact bU (by decide:17<=17) (a+3*b)) h
theorem aI1{a b:Nat}(h:a<=b/\b<=a):a=b:=by lia
theorem aI3{a b c d e:Nat}(h:d<=a/\a<=d+e/\e<=1/\e<=a)(i:c=e)(h2:b=d):a<=b+c:=by subst i h2;exact h.2.1
theorem Kr{a:Nat}(h:a<64):a<=16777216:=bK (aV h (by decide))
theorem aL7{a b c:Nat}(h:c<2)(i:b<c)(h2:a<=b):a=b:=by obtain rfl:b=0:=aw1.mp (gB (aV i (gB h)));exact aw1.mp h2
theorem aC1{a b:Nat}(h:a=b):a<=0+b:=by subst h;lia
theorem aU0{a b:Nat}(h:a+40*(b+1)+160<=9000):a+40*1+160<=9000:=aB (eE (bU (wJ 40 (nY (eR b))) a) 160) h
theorem aT7{a b:Nat}(h:a+3*(b+1)+16<=990):a+3*1+16<=990:=aB (eE (bU (wJ 3 (nY (eR b))) a) 16) h
theorem aU5{a:Int}(h:-2^60<=a/\a<0):¬0<=a:=by lia
theorem aF3{a b:Int}(h:0<=b/\b<2^60):a.toNat-b.toNat=(a-b).toNat:=by obtain⟨n,rfl⟩:=iJ h.1;exact(U1 a n).symm
theorem aU1{a:Nat}{b c:Int}(h:0<=c/\c<2^60)(i:↑a=b-c):a=b.toNat-c.toNat:=by obtain⟨n,rfl⟩:=iJ h.1;exact(congrArg cA i).trans (U1 b n)
theorem aK5{a b:Nat}(h:b+1=a+1):a=b:=by lia
theorem aS1{a:Nat}:¬(((a:Nat):Int)<((a:Nat):Int)):=by simp
theorem aN1{a:Int}(h:0<=a/\a<=1000000):a+8<=(a+7)/8*8+8/\(a+7)/8*8+8<=a+15/\8<=(a+7)/8*8+8:=⟨cX aS3 8,aG (cX (Int.ediv_mul_le (a+7) (by decide)) 8) (dF (kP a 7 8)),Int.le_add_of_nonneg_left (gG (Hf h.1).1 (by decide))⟩
theorem ao0{a:Nat}(h:(0:Nat)<a):(0:Int)<((a:Nat):Int):=bV.mpr h
theorem aM1{a:Nat}(h:(0:Nat)<a):((a:Nat):Int)≠(0:Int):=by lia
theorem as3{a:Int}{b:Nat}(h:a<=↑b):a+1<=↑(b+1):=by lia
theorem aq8{a:Int}(h:0<=a):0<=a+1:=by lia
theorem aH1{a:Int}{b:Nat}(h:a<=↑b):a<=↑(b+1):=by lia
theorem aT9{a:Int}{b:Nat}(h:↑b<=a)(i:¬a=↑b):(a-↑b).toNat=(a-↑(b+1)).toNat+1:=by
 obtain⟨n,hn⟩:=iJ (eW h);rcases n with _|m;·exact absurd (Int.eq_of_sub_eq_zero hn) i
 ·rw[hn,show a-((b+1:Nat):Int)=(m:Int)from(Bo a b 1).symm.trans ((congrArg (·-(1:Int)) hn).trans (sr (m:Int) 1))];rfl
theorem aI0{a:Nat}{b:Int}(h:↑a<=b)(i:¬b=↑a):↑(a+1)<=b:=by lia
theorem aR1{a:Int}:(a-(((0:Nat):Nat):Int))=a:=by simp
theorem aG4{a:Int}(h:(0:Int)<=a):(((0:Nat):Nat):Int)<=a:=by omega
theorem aM4{a:Int}{b:Nat}(h:a.toNat<b)(i:b<=4):a<=1000000:=aG (Mu a) (aX.mpr (aB (bK (aV h i)) (by decide)))
theorem aS0{a:Int}(h:(a-16777216)/1048576=5):5=(a-16777216)/1048576:=h.symm
theorem aP0{a:Int}(h:(a-16777216)/1048576=0):0=(a-16777216)/1048576:=h.symm
theorem o276{a:Nat}:((((a+(1:Nat)):Nat):Int)-(1:Int))=((a:Nat):Int):=by simp
theorem aV2{a b c:Nat}(h:b-a<=c):(a+b)/2-a<=c-1:=by
 rcases ae1 b a with q|q;·exact aB (bA (qy (Nat.div_le_of_le_mul (aB (bU q a) (bA (vO a).symm))))) (eR _)
 · obtain⟨k,rfl⟩:=FK q;rw[pE]at h;rw[<-qS,<-vO,Ut (by decide),pE];refine aB ?_ (vP h 1);rcases k with _|k;·exact eR _
   ·exact vQ (Nat.div_lt_self (FS _) (by decide))
theorem aV4{a b:Nat}(h:((a:Nat):Int)<((b:Nat):Int)):a<=((a+b)/(2:Nat)):=(Hs (by decide)).mpr (aB (bA (aw2 a)) (bU (bK (bV.mp h)) a))
theorem aJ1{a b c:Nat}(h:a-b<=c):a-((b+a)/2+1)<=c-1:=by
 rcases ae1 a b with q|q;·exact aB (bA (qy (jU ((Hs (by decide)).mpr (aB (bA (aw2 a)) (eE q a)))))) (eR _)
 · obtain⟨k,rfl⟩:=FK q;rw[pE]at h;rw[<-qS,<-vO,Ut (by decide),qS,Nat.add_sub_add_left];exact aB (Nat.sub_le_sub_left (vn 1 _) k) (vP h 1)
theorem aS2{a b:Nat}(h:((a:Nat):Int)<((b:Nat):Int)):(((a+b)/(2:Nat))+(1:Nat))<=b:=IF (aV (IG (bV.mp h) b) (bA (vO b).symm))
theorem aM8{a b:Nat}:((((a:Nat):Int)+((b:Nat):Int))/(2:Int))=((((a+b)/(2:Nat)):Nat):Int):=rfl
theorem aD3{a b c:Nat}(h:((a:Nat):Int)<((b:Nat):Int))(i:b<=c):((a+b)/(2:Nat))<c:=IF (aV (IG (bV.mp h) b) (aB (jL i i) (bA (vO c).symm)))
theorem aE1{a:Nat}:a<=a:=by simp
theorem aD4{a b:Int}(h:0<=b/\b<=5)(i:(a-16777216)/1048576=b):a<1879048192:=fE (Int.lt_add_of_sub_right_lt (aT (Bw (a-16777216) (by decide:(0:Int)<1048576)) (mK (cX (i▸h.2) 1) (by decide)))) (by decide)
theorem aM7{a:Nat}:((0:Int)+((a:Nat):Int))=((a:Nat):Int):=by simp
theorem aF2{a b:Int}{c:Nat}{d e f:Int}(h:↑c+8<=b/\b<=↑c+15/\8<=b)(i:d<16777216+1048576*e+f+↑c)(h2:a=d-(16777216+1048576*e+f)):a<b:=h2▸aT (lO i) (aG (bZ (by decide)) h.1)
theorem aC8{a b c d:Int}(h:(a-16777216)/1048576=d)(i:b=a-(16777216+1048576*d+c)):(a-16777216)%1048576=b+c:=by rw[ae2,h,i];exact(Bo a _ _).trans ((J4 _ c).symm.trans (congrArg (λx=>x+c) (Bo a _ c)))
theorem aP8{a b c:Int}{d:Nat}(h:16777216+1048576*b+c<=a)(i:0<=c/\c<=96)(h2:1<=d/\d<=17)(h3:a<16777216+1048576*b+c+↑d):(a-16777216)/1048576=b:=by rw[show a-16777216=(a-16777216-1048576*b)+1048576*b from(J4 _ _).symm,Ht _ _ (by decide),pO (eW (Int.le_sub_left_of_add_le (aG (bZ i.1) h))) (lO (lO (aT h3 (aG (dF (kP (16777216+1048576*b) c (d:Int))) (aG (rM (aG (jM i.2 (aX.mpr h2.2)) (by decide)) _) (dF (kP 16777216 (1048576*b) 1048576))))))),FT]
theorem aK7{a b c:Int}{d:Nat}(h:1<=b)(i:c+↑d<=16776976)(h2:a+b<=c+↑d):a<16777216:=aT (aT (pF a (aT (by decide) h)) (aG h2 i)) (by decide)
theorem aH2{a b:Int}{c:Nat}{d e:Int}(h:1<=a)(i:b+↑c<d)(h2:e+a<=b+↑c)(h3:d<=e):False:=tA e (aT (fE (aT (pF e (aT (by decide) h)) h2) i) h3)
theorem aF4{a:Nat}(h:a<0):False:=by revert h;revert a;decide
theorem aH0{a b:Nat}{c d:Int}(h:c+↑a<=d+↑b)(i:d<=c):min a (b-(c-d).toNat)=a:=fX (Nat.le_sub_of_add_le (aX.mp (aG (dF (congrArg (λx=>(a:Int)+x) (mH (eW i)))) (aG (dF (Int.add_sub_assoc a c d).symm) (gW (aG (dF (rT (a:Int) c)) h))))))
theorem aG5{a b:Int}{c:Nat}:(a-b+↑c-(a-b)).toNat=c:=by rw[rT,sr];rfl
theorem aO8{a:Nat}{b c:Int}:↑a=b-c+↑a-(b-c):=by lia
theorem aH3{a b:Int}{c:Nat}(h:a<b):a<=b+↑c:=by lia
theorem Gv{a b:Nat}(h:b<a):0<a:=aZ (vn _ _) h
theorem aJ5{a b:Int}{c:Nat}{d e:Int}(h:↑c+8<=e/\e<=↑c+15/\8<=e)(i:b+e<=d):16777216+1048576*a+b+↑c<16777216+1048576*a+d:=bJ (dF (kP _ b c)) (hG (aT (hG (aT (pF _ (by decide)) h.1) b) i) _)
theorem aL5{a:Nat}(h:a<=60):a+(3+4)<=67/\7<=a+(3+4):=by revert h;revert a;decide
theorem aO6{a b:Nat}(h:a≠b):((a:Nat):Int)≠((b:Nat):Int):=by lia
theorem aW9{a:Int}{b:Nat}{c:Int}{d:Nat}(h:a+↑(b-1)<c+↑d):a+↑b<=c+↑d:=by
 rcases b with _|k;·exact dJ h
 ·exact aG (dF (kP a k 1).symm) h
theorem aQ5{a b:Int}(h:a<=(b+(((0:Nat):Nat):Int))):a<=b:=by lia
theorem aI9{a b:Int}{c:Nat}(h:-8<=b/\b<=24)(i:a+↑c<=30000000):a-8+b<=2000000000:=aG (jM (CE (aG (bZ (aN c)) i) (pD 8)) h.2) (by decide)
theorem aN5{a:Nat}(h:a<=99000):a+1+1+1<=100000:=by lia
theorem aW7{a:Nat}(h:a<=99000):a+1+1<=100000:=by lia
theorem aV8{a:Int}{b c:Nat}(h:1<=c/\c<=16)(i:a<=↑(b+8+c)):a<=↑(b+100):=aG i (aX.mpr (aB (bU h.2 _) (bU (by decide:24<=100) b)))
theorem aC4{a:Nat}(h:1<=a/\a<=16)(i:0=a):False:=by subst i;lia
theorem aG7{a:Nat}(h:a<=59):a+1<64:=by revert h;revert a;decide
theorem aE4{a b c:Nat}(h:1<=b/\b<=16)(i:c<b)(h2:a=c):a<=100000:=bK (aV (aV (aZ (bA h2) i) h.2) (by decide))
theorem aW2{a b c:Nat}(h:1<=c/\c<=16)(i:b<c)(h2:a<=90000):a+8+b<=100000:=aB (jL (eE h2 8) (bK (aV i h.2))) (by decide)
theorem aE2{a:Nat}(h:a<=90000):a+4+1+1+1<=100000:=by lia
theorem ap9{a b:Nat}:(((a:Nat):Int)<((b:Nat):Int))↔(a<b):=by simp
theorem aR5{a:Nat}(h:a<=10):a=0\/a=1\/a=2\/a=3\/a=4\/a=5\/a=6\/a=7\/a=8\/a=9\/a=10:=by revert h;revert a;decide
theorem aE3{a:Nat}{b:Int}(h:(1:Int)<=b)(i:a<((2:Nat)^(8:Nat)))(h2:b<=(1208925819614629174706176:Int)):(((-BIG)<=((a:Nat):Int))/\(((a:Nat):Int)<=BIG))/\(((-BIG)<=b)/\(b<=BIG)):=⟨⟨aN _,dJ (aT (bV.mpr i) (by decide))⟩,⟨aG (by decide) h,aG h2 (by decide)⟩⟩
theorem aW5{a:Nat}:a+4+1<=a+100:=by simp
theorem aU3{a b:Int}{c d:Nat}(h:a+↑d<=b+↑c)(i:b<=a):min (a-b).toNat c+d+(c-(a-b+↑d).toNat)=c:=by
 obtain⟨n,hn⟩:=iJ (eW i);have q:n+d<=c:=by lia
 rw[hn,show cA (n:Int)=n from rfl,fX (aB (eI _ _) q)];exact Nat.add_sub_cancel' q
theorem aL6{a b:Int}{c:Nat}(h:b<=a):(a-b+↑c).toNat+1=(a-b+↑(c+1)).toNat:=by
 obtain⟨n,hn⟩:=iJ (eW h);rw[hn];rfl
theorem aP2{a b:Int}{c d e:Nat}(h:a+↑e<=b+↑d)(i:c<e)(h2:b<=a):(a-b+↑c).toNat<d:=by
 obtain⟨n,hn⟩:=iJ (eW h2);rw[hn];exact bV.mp (aT (hG (bV.mpr i) n) (hn▸aG (dF (su a (-b) e)) (gW h)))
theorem aV0{a:Int}{b:Nat}{c:Int}{d e:Nat}(h:a+↑d<=c+↑e)(i:b<d)(h2:e<=600):a+↑b-c<2^60:=bJ (gW (aG (rM (aX.mpr (bK i)) a) h)) (bJ (aX.mpr h2) (by decide))
theorem aI5{a:Int}{b:Nat}{c:Int}(h:c<=a):0<=a+↑b-c:=by lia
theorem aQ9{a b:Nat}(h:¬a=b):a<b↔a<b+1:=⟨zl,λq=>J3 (gB q) h⟩
theorem aV1{a b:Nat}(h:a=b):a<=b+1:=by subst h;lia
theorem aW6{a b:Nat}(h:((1:Nat)<=b)/\(b<=(8:Nat)))(i:a<b):((0:Int)<=((a:Nat):Int))/\(((a:Nat):Int)<=(40:Int)):=⟨aN _,dJ (aT (aT (bV.mpr i) (aX.mpr h.2)) (by decide))⟩
theorem aS5{a:Nat}(h:a<7):a=0\/a=1\/a=2\/a=3\/a=4\/a=5\/a=6:=by revert h;revert a;decide
theorem aU2{a b:Nat}(h:¬a<=b):min (a+1-1) b=min (a-1) b:=(nZ (bK (qB h))).trans (nZ (vQ (qB h))).symm
theorem au3{a:Nat}(h:a<6):a<7:=jU h
theorem aG2{a:Nat}(h:6<=a)(i:a<7):a=6:=by revert h;revert a;decide
theorem aC2{a:Int}:0+a=a:=by simp
theorem aP7{a b:Int}(h:b+8<=a/\a<=b+15/\8<=a):a≠0:=by omega
theorem aK0{a b:Int}(h:(16777216+1048576*a+b+7-16777216)/1048576=a):(16777216+1048576*a+b+7-16777216)%1048576=7+b:=by rw[ae2,h];lia
theorem aP9{a b:Int}(h:0<=b/\b<=8*55):(16777216+1048576*a+b+7-16777216)/1048576=a:=by rw[kP (16777216+1048576*a) b 7,kP 16777216,rT 16777216,sr,rT (1048576*a),Ht _ _ (by decide),pO (eM h.1 (by decide)) (bJ (cX h.2 7) (by decide)),FT]
theorem OW{a:Int}(h:1<=a/\a<=40):a<=1000000:=aG h.2 (by decide)
theorem OS{a:Int}(h:1<=a/\a<=40):0<=a:=dJ h.1
theorem aH5{a:Nat}:(cA ((((a+(1:Nat)):Nat):Int)+(-(1:Int))))=a:=congrArg cA (Int.add_neg_cancel_right (a:Int) 1)
theorem aN0{a:Nat}:(-(((a+(1:Nat)):Nat):Int))<=(-(1:Int)):=by lia
theorem aN9{a b:Nat}(h:a<=b):min (a+1) (b+1)=a+1:=by lia
theorem aH8{a b:Nat}(h:a<=b):min a (b+1)=a:=by lia
theorem aV6{a:Int}:8*((a+7)/8)+8=(a+7)/8*8+8:=by lia
theorem aT4{a b c:Nat}(h:b=3\/b=4)(i:c<b)(h2:a=c):a<=1000:=h2▸h.elim (λq=>aB (bK (q▸i)) (by decide)) (λq=>aB (bK (q▸i)) (by decide))
theorem aE7{a b:Nat}(h:a=b):a=b-0:=by omega
theorem aM9{a b c:Nat}(h:b=c)(i:a=c):a=b:=by subst h;exact i
theorem aD1{a b:Nat}(h:a=b):((a:Nat):Int)=((b:Nat):Int):=by subst h;rfl
theorem aJ9{a:Nat}(h:a<=(20:Nat)):((131072:Int)+((a:Nat):Int))<(262144:Int):=by revert h;revert a;decide
theorem aK3{a:Nat}(h:a<=(20:Nat)):((131072:Int)+((a:Nat):Int))<=(16776976:Int):=by revert h;revert a;decide
theorem aR8{a:Int}{b c:Nat}(h:c=b):a+↑b<=a+↑c:=by subst h;lia
theorem ap3{a:Nat}:400+110*a+1+1+100<=400+110*(a+1):=by lia
theorem aM5{a:Nat}{b:Int}{c:Nat}(h:10+b=↑c)(i:b<8)(h2:a<c):400+110*a<=80000:=aB (bU (wJ 110 (bK (rU h2 (av1 h i)))) 400) (by decide)
theorem aj4{a b:Nat}(h:1<=b/\b<=17)(i:a=b):a<=17:=aB (bA i) h.2
theorem ai5{a b:Nat}(h:1<=b/\b<=17)(i:a=b):1<=a:=aB h.1 (bA i.symm)
theorem aJ4{a:Nat}(h:a<(4:Nat)):((0:Int)<=((a:Nat):Int))/\(((a:Nat):Int)<=(40:Int)):=by revert h;revert a;decide
theorem aB8{a:Nat}(h:((a:Nat):Int)<(12:Int)):(((((1:Nat)+a)+(1:Nat))+(1:Nat))+(1:Nat))<=((40:Nat)+(0:Nat)):=aB (eE (eE (eE (bU (bK (bV.mp h)) 1) 1) 1) 1) (by decide)
theorem aG6{a:Nat}(h:((a:Nat):Int)<(12:Int)):((((1:Nat)+a)+(1:Nat))+(1:Nat))<=(100000:Nat):=by lia
theorem aO1{a:Nat}{b:Int}(h:1+b=↑a)(i:0<=b)(h2:b<17):1<=a/\a<=17:=⟨aX.mp (aG (bZ i) (dF h)),aX.mp (aG (dF (h.symm.trans (rT 1 b))) (vN h2))⟩
theorem aT5{a:Nat}(h:((a:Nat):Int)<(12:Int)):(((1:Nat)+a)+(1:Nat))<=(100000:Nat):=by lia
theorem aN4{a:Nat}(h:((a:Nat):Int)<(12:Int)):((1:Nat)+a)<=(100000:Nat):=by lia
theorem aW3{a b c:Nat}(h:((b:Nat):Int)<(12:Int))(i:c<b)(h2:a=c):a<=(100000:Nat):=bK (aV (rU (aZ (bA h2) i) (bV.mp h)) (by decide))
theorem aB9{a b c:Int}(h:0<=a/\a<=1000000)(i:0<=c/\c<=1000000)(h2:c+8<=b/\b<=c+15/\8<=b):(-BIG<=a/\a<=BIG)/\-BIG<=b/\b<=BIG:=⟨yx h.1 h.2 (by decide),yx (aG (by decide) h2.2.2) (aG h2.2.1 (cX i.2 15)) (by decide)⟩
theorem aj8{a b:Nat}(h:a<b)(i:b<=(20:Nat)):(((-BIG)<=(8:Int))/\((8:Int)<=BIG))/\(((-BIG)<=((a:Nat):Int))/\(((a:Nat):Int)<=BIG)):=⟨⟨aN _,aN _⟩,⟨aN _,aG (aG (dJ (bV.mpr h)) (aX.mpr i)) (by decide)⟩⟩
theorem ab4{a:Int}(h:0<a/\a<=BIG):0<a:=h.1
theorem ar5{a:Int}(h:0<a/\a<=BIG):0<a/\a<=BIG:=by omega
theorem Z3{a:Int}{b:Nat}(h:(0:Int)<=a)(i:a<=((b:Nat):Int))(h2:b<=(100000:Nat)):(((-BIG)<=(71503:Int))/\((71503:Int)<=BIG))/\(((-BIG)<=a)/\(a<=BIG)):=⟨⟨aN _,aN _⟩,⟨aG (by decide) h,aG (aG i (aX.mpr h2)) (by decide)⟩⟩
theorem aU7{a:Int}{b:Nat}(h:(0:Int)<=a)(i:a<=((b:Nat):Int))(h2:b<=(100000:Nat)):(((-BIG)<=(2:Int))/\((2:Int)<=BIG))/\(((-BIG)<=a)/\(a<=BIG)):=⟨⟨aN _,aN _⟩,⟨aG (by decide) h,aG (aG i (aX.mpr h2)) (by decide)⟩⟩
theorem aS6{a b:Int}{c:Nat}(h:0<=b)(i:b<=↑c)(h2:c<=100000):(-BIG<=a%2147483629/\a%2147483629<=BIG)/\-BIG<=2*b+6151/\2*b+6151<=BIG:=⟨yx (gM _ (by decide)) (dJ (fP _ (by decide))) (by decide),yx (eM (gG (by decide) h) (by decide)) (cX (fM (aG i (aX.mpr h2)) (by decide)) 6151) (by decide)⟩
theorem aI6{a:Int}{b:Nat}(h:0<=a)(i:a<=↑b)(h2:b<=100000):(-BIG<=71503*a/\71503*a<=BIG)/\-BIG<=a/\a<=BIG:=⟨yx (gG (by decide) h) (fM (aG i (aX.mpr h2)) (by decide)) (by decide),yx h (aG i (aX.mpr h2)) (by decide)⟩
theorem aQ2{a:Int}{b:Nat}(h:a<=↑b)(i:b<=100000):2*a+6151<=206151:=by lia
theorem ak4{a:Int}(h:0<=a):0<=2*a+6151:=by lia
theorem aJ6{a:Int}{b:Nat}(h:a<=↑b)(i:b<=100000):71503*a<=7150300000:=by lia
theorem aj5{a:Int}(h:0<a/\a<=BIG):a≠0:=zj h.1
theorem o565{a:Int}(h:a=0):0<=a/\a<=5:=⟨dF h.symm,aG (dF h) (by decide)⟩
theorem o566{a:Int}(h:a=5):0<=a/\a<=5:=⟨aG (by decide) (dF h.symm),dF h⟩
theorem aC0{a b:Int}(h:a<b)(i:b<=a):False:=by lia
theorem o568{a:Int}{b:Nat}{c:Int}(h:a+↑b<c)(i:c<=a+↑b):False:=by lia
theorem aX0{a:Nat}{b:Int}{c d:Nat}(h:((((((c:Nat):Int)+(7:Int))/(8:Int))*(8:Int))+(8:Int))=b)(i:((1:Nat)<=c)/\(c<=(17:Nat)))(h2:a<d)(h3:d<=(4:Nat)):(((-BIG)<=((a:Nat):Int))/\(((a:Nat):Int)<=BIG))/\(((-BIG)<=b)/\(b<=BIG)):=⟨yx (aN _) (aX.mpr (bK (aV h2 h3))) (by decide),h▸yx (eM (gG (Hf (aN _)).1 (by decide)) (by decide)) (cX (mK (aG (Hf (aN _)).2 (cX (aX.mpr i.2) 7)) (by decide)) 8) (by decide)⟩
theorem o574{a:Int}(h:a<=2000000000):a<=2000000000:=by omega
theorem aX1{a:Int}{b:Nat}{c:Int}(h:a+↑b<c)(i:c<=a):False:=by lia
theorem aE6{a b:Nat}(h:a<=b):a<=b+1:=by lia
theorem aP5{a:Int}(h:(0:Int)<=a)(i:a<(64:Int)):(((-BIG)<=(1048576:Int))/\((1048576:Int)<=BIG))/\(((-BIG)<=a)/\(a<=BIG)):=⟨⟨aN _,aN _⟩,⟨aG (by decide) h,aG (dJ i) (by decide)⟩⟩
theorem aJ8{a b:Int}(h:1<=a/\a<=40)(i:0<=b)(h2:b<9):(-BIG<=8*((a+7)/8)+8/\8*((a+7)/8)+8<=BIG)/\-BIG<=b/\b<=BIG:=⟨yx (eM (gG (by decide) (Hf (aG (by decide) h.1)).1) (by decide)) (cX (fM (aG (Hf (aG (by decide) h.1)).2 (cX h.2 7)) (by decide)) 8) (by decide),yx i (dJ h2) (by decide)⟩
theorem aD7{a:Int}(h:((0:Int)<=a)/\(a<(8:Int))):(((-BIG)<=(4096:Int))/\((4096:Int)<=BIG))/\(((-BIG)<=a)/\(a<=BIG)):=⟨⟨aN _,aN _⟩,⟨aG (by decide) h.1,aG (dJ h.2) (by decide)⟩⟩
theorem aC9{a b c:Int}(h:1<=c/\c<=17)(i:1<=b/\b<=3)(h2:c+8<=a/\a<=c+15/\8<=a):(-BIG<=a/\a<=BIG)/\-BIG<=b+1/\b+1<=BIG:=⟨yx (aG (by decide) h2.2.2) (aG h2.2.1 (cX h.2 15)) (by decide),yx (eM (aG (by decide) i.1) (by decide)) (cX i.2 1) (by decide)⟩
theorem aM6{a b c:Nat}(h:1<=b/\b<=17)(i:c<b)(h2:a=c):a<=100000:=bK (aV (aV (aZ (bA h2) i) h.2) (by decide))
theorem aW4{a:Nat}(h:1<=a/\a<=17):40+a<=100000:=by lia
theorem aD8{a:Nat}(h:1<=a/\a<=17):40+a+1<=400:=by lia
theorem aB4{a:Int}(h:-BIG<=a/\a<=BIG):a.natAbs<=1267650600228229401496703205376:=(ad8 0 a).elim (λq=>aX.mp (aG (dF (ID q)) h.2)) (λq=>aX.mp (aG (dF (Int.ofNat_natAbs_of_nonpos q)) (IE h.1)))
theorem N_{a:Nat}(h:a<=(20:Nat)):(sx ((a:Nat):Int))<((2:Nat)^(60:Nat)):=aZ h (by decide)
theorem aR2{a:Nat}{b:Int}{c:Nat}{d:Int}:↑a+(256*b+256*(↑c*d))=↑a+256*b+↑c*(d*256):=(kP (a:Int) (256*b) _).symm.trans (congrArg (λx=>(a:Int)+256*b+x) ((ae3 256 (c*d)).trans (Int.mul_assoc c d 256)))
theorem aL3{a b:Int}{c:Nat}(h:0<=b)(i:b<=↑c)(h2:c<=100000):(a%2147483587+71503*b+3571).natAbs<1000000000000:=Kv (eM (eM (gM _ (by decide)) (gG (by decide) h)) (by decide)) (aT (Int.add_lt_add_right (Int.add_lt_add_of_lt_of_le (fP a (by decide)) (fM (aG i (aX.mpr h2)) (by decide))) 3571) (by decide))
theorem aK8{a b:Int}(h:0<=b)(i:0<=a)(h2:a<=2147483629*206151)(h3:b<=7150300000*100000):(a+b+41).natAbs<1000000000000000000:=Kv (eM (eM i h) (by decide)) (bJ (cX (jM h2 h3) 41) (by decide))
theorem am4{a:Nat}(h:((1:Nat)<=a)/\(a<=(20:Nat))):(sx ((a:Nat):Int))<((2:Nat)^(60:Nat)):=aZ h.2 (by decide)
theorem an0{a:Nat}(h:((1:Nat)<=a)/\(a<=(16:Nat))):(sx ((a:Nat):Int))<((2:Nat)^(60:Nat)):=aZ h.2 (by decide)
theorem ah2{a:Nat}(h:((1:Nat)<=a)/\(a<=(8:Nat))):(sx ((a:Nat):Int))<((2:Nat)^(60:Nat)):=aZ h.2 (by decide)
theorem XY{a:Int}(h:0<=a)(i:a<=2000000000):a.natAbs<2^60:=Kv h (bJ i (by decide))
theorem aD0{a:Int}(h:0<=a/\a<8):a.natAbs<2^60:=by lia
theorem au8{a:Nat}(h:(a=(3:Nat))\/(a=(4:Nat))):(sx ((a:Nat):Int))<((2:Nat)^(60:Nat)):=aZ (h.elim (λq=>aB (bA q) (by decide)) bA) (by decide:4<2^60)
theorem ag9{a:Nat}(h:((a:Nat):Int)<(12:Int)):(sx ((a:Nat):Int))<((2:Nat)^(60:Nat)):=aV (bV.mp h) (by decide)
theorem au5{a:Nat}(h:((1:Nat)<=a)/\(a<=(17:Nat))):(sx ((a:Nat):Int))<((2:Nat)^(60:Nat)):=aZ h.2 (by decide)
theorem am9{a:Int}(h:0<=a)(i:a<8):(10+a).natAbs<2^60:=Kv (eM (by decide) h) (fE (hG i 10) (by decide))
end Internal
namespace Internal
theorem bX{p q:Prop}{G:Prop}(h:p/\q)(k:p->q->G):G:=k h.1 h.2
theorem iK{A:Type}{p:A->Prop}{G:Prop}(h:∃x,p x)(k:∀x,p x->G):G:=bD h k
theorem iR{p q r:Prop}{G:Prop}(h:p/\q/\r)(k:p->q->r->G):G:=bX h.2 (k h.1)
theorem X_{A:Type}{p:Prop}{q:A->Prop}{G:Prop}(h:p/\∃x,q x)(k:p->∀x,q x->G):G:=iK h.2 (k h.1)
theorem aY{A:Type}{p q:A->Prop}{G:Prop}(h:∃x,p x/\q x)(k:∀x,p x->q x->G):G:=bD h λw h1=>bX h1 (k w)
theorem sJ{A B:Type}{p:A->B->Prop}{G:Prop}(h:∃x y,p x y)(k:∀x y,p x y->G):G:=bD h λw h1=>iK h1 (k w)
theorem s9{p q r s:Prop}{G:Prop}(h:p/\q/\r/\s)(k:p->q->r->s->G):G:=iR h.2 (k h.1)
theorem ug{A:Type}{p:Prop}{q r:A->Prop}{G:Prop}(h:p/\∃x,q x/\r x)(k:p->∀x,q x->r x->G):G:=aY h.2 (k h.1)
theorem gA{A:Type}{p q r:A->Prop}{G:Prop}(h:∃x,p x/\q x/\r x)(k:∀x,p x->q x->r x->G):G:=bD h λw h1=>iR h1 (k w)
theorem eJ{A B:Type}{p q:A->B->Prop}{G:Prop}(h:∃x y,p x y/\q x y)(k:∀x y,p x y->q x y->G):G:=bD h λw h1=>aY h1 (k w)
theorem zb{A B C:Type}{p:A->B->C->Prop}{G:Prop}(h:∃x y z,p x y z)(k:∀x y z,p x y z->G):G:=bD h λw h1=>sJ h1 (k w)
theorem qJ{p q r s t:Prop}{G:Prop}(h:p/\q/\r/\s/\t)(k:p->q->r->s->t->G):G:=s9 h.2 (k h.1)
theorem AW{A:Type}{p q:Prop}{r s:A->Prop}{G:Prop}(h:p/\q/\∃x,r x/\s x)(k:p->q->∀x,r x->s x->G):G:=ug h.2 (k h.1)
theorem CZ{A B:Type}{p:Prop}{q r:A->B->Prop}{G:Prop}(h:p/\∃x y,q x y/\r x y)(k:p->∀x y,q x y->r x y->G):G:=eJ h.2 (k h.1)
theorem wi{A:Type}{p q r s:A->Prop}{G:Prop}(h:∃x,p x/\q x/\r x/\s x)(k:∀x,p x->q x->r x->s x->G):G:=bD h λw h1=>s9 h1 (k w)
theorem G6{A B:Type}{p q:A->Prop}{r:A->B->Prop}{G:Prop}(h:∃x,p x/\q x/\∃y,r x y)(k:∀x,p x->q x->∀y,r x y->G):G:=bD h λw h1=>X_ h1.2 ((k w) h1.1)
theorem yG{A B:Type}{p:A->Prop}{q r:A->B->Prop}{G:Prop}(h:∃x,p x/\∃y,q x y/\r x y)(k:∀x,p x->∀y,q x y->r x y->G):G:=bD h λw h1=>ug h1 (k w)
theorem dZ{A B:Type}{p q r:A->B->Prop}{G:Prop}(h:∃x y,p x y/\q x y/\r x y)(k:∀x y,p x y->q x y->r x y->G):G:=bD h λw h1=>gA h1 (k w)
theorem gD{A B C:Type}{p q:A->B->C->Prop}{G:Prop}(h:∃x y z,p x y z/\q x y z)(k:∀x y z,p x y z->q x y z->G):G:=bD h λw h1=>eJ h1 (k w)
theorem yE{A B C D:Type}{p:A->B->C->D->Prop}{G:Prop}(h:∃x y z w,p x y z w)(k:∀x y z w,p x y z w->G):G:=bD h λE h1=>zb h1 (k E)
theorem zU{p q r s t m:Prop}{G:Prop}(h:p/\q/\r/\s/\t/\m)(k:p->q->r->s->t->m->G):G:=qJ h.2 (k h.1)
theorem IA{A:Type}{p q r:Prop}{s t:A->Prop}{G:Prop}(h:p/\q/\r/\∃x,s x/\t x)(k:p->q->r->∀x,s x->t x->G):G:=AW h.2 (k h.1)
theorem xE{A:Type}{p q:Prop}{r s t:A->Prop}{G:Prop}(h:p/\q/\∃x,r x/\s x/\t x)(k:p->q->∀x,r x->s x->t x->G):G:=gA h.2.2 ((k h.1) h.2.1)
theorem tG{A B:Type}{p q:Prop}{r s:A->B->Prop}{G:Prop}(h:p/\q/\∃x y,r x y/\s x y)(k:p->q->∀x y,r x y->s x y->G):G:=CZ h.2 (k h.1)
theorem T2{A B:Type}{p:Prop}{q r s:A->B->Prop}{G:Prop}(h:p/\∃x y,q x y/\r x y/\s x y)(k:p->∀x y,q x y->r x y->s x y->G):G:=dZ h.2 (k h.1)
theorem zW{A:Type}{p q r s t:A->Prop}{G:Prop}(h:∃x,p x/\q x/\r x/\s x/\t x)(k:∀x,p x->q x->r x->s x->t x->G):G:=bD h λw h1=>qJ h1 (k w)
theorem Ol{A B C:Type}{p:A->Prop}{q r:A->B->C->Prop}{G:Prop}(h:∃x,p x/\∃y z,q x y z/\r x y z)(k:∀x,p x->∀y z,q x y z->r x y z->G):G:=bD h λw h1=>CZ h1 (k w)
theorem rd{A B:Type}{p q r s:A->B->Prop}{G:Prop}(h:∃x y,p x y/\q x y/\r x y/\s x y)(k:∀x y,p x y->q x y->r x y->s x y->G):G:=bD h λw h1=>wi h1 (k w)
theorem qi{A B C:Type}{p q r:A->B->C->Prop}{G:Prop}(h:∃x y z,p x y z/\q x y z/\r x y z)(k:∀x y z,p x y z->q x y z->r x y z->G):G:=bD h λw h1=>dZ h1 (k w)
theorem lH{A B C D:Type}{p q:A->B->C->D->Prop}{G:Prop}(h:∃x y z w,p x y z w/\q x y z w)(k:∀x y z w,p x y z w->q x y z w->G):G:=bD h λE h1=>gD h1 (k E)
theorem RR{A B C D E:Type}{p:A->B->C->D->E->Prop}{G:Prop}(h:∃x y z w u,p x y z w u)(k:∀x y z w u,p x y z w u->G):G:=bD h λF h1=>yE h1 (k F)
theorem rH{p q r s t m n:Prop}{G:Prop}(h:p/\q/\r/\s/\t/\m/\n)(k:p->q->r->s->t->m->n->G):G:=zU h.2 (k h.1)
theorem Bj{A:Type}{p q r:Prop}{s t m:A->Prop}{G:Prop}(h:p/\q/\r/\∃x,s x/\t x/\m x)(k:p->q->r->∀x,s x->t x->m x->G):G:=xE h.2 (k h.1)
theorem AV{A:Type}{p q r s t m:A->Prop}{G:Prop}(h:∃x,p x/\q x/\r x/\s x/\t x/\m x)(k:∀x,p x->q x->r x->s x->t x->m x->G):G:=bD h λw h1=>zU h1 (k w)
theorem Mj{A B:Type}{p q:A->Prop}{r s t:A->B->Prop}{G:Prop}(h:∃x,p x/\q x/\∃y,r x y/\s x y/\t x y)(k:∀x,p x->q x->∀y,r x y->s x y->t x y->G):G:=bD h λw h1=>xE h1 (k w)
theorem qx{A B C:Type}{p q r s:A->B->C->Prop}{G:Prop}(h:∃x y z,p x y z/\q x y z/\r x y z/\s x y z)(k:∀x y z,p x y z->q x y z->r x y z->s x y z->G):G:=bD h λw h1=>rd h1 (k w)
theorem AF{A B C D:Type}{p q r:A->B->C->D->Prop}{G:Prop}(h:∃x y z w,p x y z w/\q x y z w/\r x y z w)(k:∀x y z w,p x y z w->q x y z w->r x y z w->G):G:=bD h λE h1=>qi h1 (k E)
theorem Ah{A B C D E:Type}{p q:A->B->C->D->E->Prop}{G:Prop}(h:∃x y z w u,p x y z w u/\q x y z w u)(k:∀x y z w u,p x y z w u->q x y z w u->G):G:=bD h λF h1=>lH h1 (k F)
theorem yn{A B:Type}{p:Prop}{q r s t m:A->B->Prop}{G:Prop}(h:p/\∃x y,q x y/\r x y/\s x y/\t x y/\m x y)(k:p->∀x y,q x y->r x y->s x y->t x y->m x y->G):G:=bD h.2 λc h2=>zW h2 ((k h.1) c)
theorem yN{A B:Type}{p q r s t m:A->B->Prop}{G:Prop}(h:∃x y,p x y/\q x y/\r x y/\s x y/\t x y/\m x y)(k:∀x y,p x y->q x y->r x y->s x y->t x y->m x y->G):G:=bD h λw h1=>AV h1 (k w)
theorem Cg{A B C:Type}{p q r s t:A->B->C->Prop}{G:Prop}(h:∃x y z,p x y z/\q x y z/\r x y z/\s x y z/\t x y z)(k:∀x y z,p x y z->q x y z->r x y z->s x y z->t x y z->G):G:=bD h λw h1=>bD h1 λc h2=>zW h2 ((k w) c)
theorem yk{A B C D:Type}{p q r s:A->B->C->D->Prop}{G:Prop}(h:∃x y z w,p x y z w/\q x y z w/\r x y z w/\s x y z w)(k:∀x y z w,p x y z w->q x y z w->r x y z w->s x y z w->G):G:=bD h λE h1=>qx h1 (k E)
theorem Co{A B C D E:Type}{p q r:A->B->C->D->E->Prop}{G:Prop}(h:∃x y z w u,p x y z w u/\q x y z w u/\r x y z w u)(k:∀x y z w u,p x y z w u->q x y z w u->r x y z w u->G):G:=bD h λF h1=>AF h1 (k F)
theorem jT{A B:Type}{p:Prop}{q r s t m n:A->B->Prop}{G:Prop}(h:p/\∃x y,q x y/\r x y/\s x y/\t x y/\m x y/\n x y)(k:p->∀x y,q x y->r x y->s x y->t x y->m x y->n x y->G):G:=yN h.2 (k h.1)
theorem Gg{A B C:Type}{p:A->Prop}{q r s t m:A->B->C->Prop}{G:Prop}(h:∃x,p x/\∃y z,q x y z/\r x y z/\s x y z/\t x y z/\m x y z)(k:∀x,p x->∀y z,q x y z->r x y z->s x y z->t x y z->m x y z->G):G:=bD h λw h1=>yn h1 (k w)
theorem vY{A B C:Type}{p q r s t m:A->B->C->Prop}{G:Prop}(h:∃x y z,p x y z/\q x y z/\r x y z/\s x y z/\t x y z/\m x y z)(k:∀x y z,p x y z->q x y z->r x y z->s x y z->t x y z->m x y z->G):G:=bD h λw h1=>yN h1 (k w)
theorem Am{A B C D:Type}{p q r s:A->B->C->Prop}{t:A->B->C->D->Prop}{G:Prop}(h:∃x y z,p x y z/\q x y z/\r x y z/\s x y z/\∃w,t x y z w)(k:∀x y z,p x y z->q x y z->r x y z->s x y z->∀w,t x y z w->G):G:=bD h λE h1=>bD h1 λc h2=>bD h2 λT h3=>X_ h3.2.2.2 ((((((k E) c) T) h3.1) h3.2.1) h3.2.2.1)
theorem Bh{A B C D:Type}{p q r s t:A->B->C->D->Prop}{G:Prop}(h:∃x y z w,p x y z w/\q x y z w/\r x y z w/\s x y z w/\t x y z w)(k:∀x y z w,p x y z w->q x y z w->r x y z w->s x y z w->t x y z w->G):G:=bD h λE h1=>Cg h1 (k E)
theorem yY{p q r s t m n l o i:Prop}{G:Prop}(h:p/\q/\r/\s/\t/\m/\n/\l/\o/\i)(k:p->q->r->s->t->m->n->l->o->i->G):G:=rH h.2.2.2 (((k h.1) h.2.1) h.2.2.1)
theorem uS{A B C:Type}{p:Prop}{q r s t m n:A->B->C->Prop}{G:Prop}(h:p/\∃x y z,q x y z/\r x y z/\s x y z/\t x y z/\m x y z/\n x y z)(k:p->∀x y z,q x y z->r x y z->s x y z->t x y z->m x y z->n x y z->G):G:=vY h.2 (k h.1)
theorem Fq{A B:Type}{p q:A->Prop}{r s t m n l:A->B->Prop}{G:Prop}(h:∃x,p x/\q x/\∃y,r x y/\s x y/\t x y/\m x y/\n x y/\l x y)(k:∀x,p x->q x->∀y,r x y->s x y->t x y->m x y->n x y->l x y->G):G:=bD h λw h1=>AV h1.2.2 (((k w) h1.1) h1.2.1)
theorem ze{A B C:Type}{p q r s t m n:A->B->C->Prop}{G:Prop}(h:∃x y z,p x y z/\q x y z/\r x y z/\s x y z/\t x y z/\m x y z/\n x y z)(k:∀x y z,p x y z->q x y z->r x y z->s x y z->t x y z->m x y z->n x y z->G):G:=bD h λw h1=>bD h1 λc h2=>bD h2 λT h3=>rH h3 (((k w) c) T)
theorem vj{A B C D:Type}{p q r s t m:A->B->C->D->Prop}{G:Prop}(h:∃x y z w,p x y z w/\q x y z w/\r x y z w/\s x y z w/\t x y z w/\m x y z w)(k:∀x y z w,p x y z w->q x y z w->r x y z w->s x y z w->t x y z w->m x y z w->G):G:=bD h λE h1=>vY h1 (k E)
theorem pB{p q r s t m n l o i j:Prop}{G:Prop}(h:p/\q/\r/\s/\t/\m/\n/\l/\o/\i/\j)(k:p->q->r->s->t->m->n->l->o->i->j->G):G:=yY h.2 (k h.1)
theorem Dd{A B C D:Type}{p q r s:A->B->C->Prop}{t m n:A->B->C->D->Prop}{G:Prop}(h:∃x y z,p x y z/\q x y z/\r x y z/\s x y z/\∃w,t x y z w/\m x y z w/\n x y z w)(k:∀x y z,p x y z->q x y z->r x y z->s x y z->∀w,t x y z w->m x y z w->n x y z w->G):G:=bD h λE h1=>bD h1 λc h2=>bD h2 λT h3=>Bj h3.2 ((((k E) c) T) h3.1)
theorem B5{A B C D E F I:Type}{p q r s t:A->B->C->D->E->F->I->Prop}{G:Prop}(h:∃x y z w u v a,p x y z w u v a/\q x y z w u v a/\r x y z w u v a/\s x y z w u v a/\t x y z w u v a)(k:∀x y z w u v a,p x y z w u v a->q x y z w u v a->r x y z w u v a->s x y z w u v a->t x y z w u v a->G):G:=bD h λH h1=>bD h1 λc h2=>bD h2 λT h3=>Bh h3 (((k H) c) T)
theorem AS{A B C D E:Type}{p:Prop}{q r s t m n l:A->B->C->D->E->Prop}{G:Prop}(h:p/\∃x y z w u,q x y z w u/\r x y z w u/\s x y z w u/\t x y z w u/\m x y z w u/\n x y z w u/\l x y z w u)(k:p->∀x y z w u,q x y z w u->r x y z w u->s x y z w u->t x y z w u->m x y z w u->n x y z w u->l x y z w u->G):G:=bD h.2 λc h2=>bD h2 λT h3=>ze h3 (((k h.1) c) T)
theorem ul{A B:Type}{p q r s t m n l o i j e:A->B->Prop}{G:Prop}(h:∃x y,p x y/\q x y/\r x y/\s x y/\t x y/\m x y/\n x y/\l x y/\o x y/\i x y/\j x y/\e x y)(k:∀x y,p x y->q x y->r x y->s x y->t x y->m x y->n x y->l x y->o x y->i x y->j x y->e x y->G):G:=bD h λw h1=>bD h1 λc h2=>pB h2.2 (((k w) c) h2.1)
theorem yB{A B C:Type}{p q r s t m n l o i:A->B->Prop}{j e:A->B->C->Prop}{G:Prop}(h:∃x y,p x y/\q x y/\r x y/\s x y/\t x y/\m x y/\n x y/\l x y/\o x y/\i x y/\∃z,j x y z/\e x y z)(k:∀x y,p x y->q x y->r x y->s x y->t x y->m x y->n x y->l x y->o x y->i x y->∀z,j x y z->e x y z->G):G:=bD h λw h1=>bD h1 λc h2=>IA h2.2.2.2.2.2.2.2 (((((((((k w) c) h2.1) h2.2.1) h2.2.2.1) h2.2.2.2.1) h2.2.2.2.2.1) h2.2.2.2.2.2.1) h2.2.2.2.2.2.2.1)
end Internal
namespace Internal
@[elab_as_elim]theorem aC{α:Type}{b:α}{motive:(x:α)->Prop}{a:α}(h:a=b)(k:motive b):motive a:=h▸k
@[elab_as_elim]theorem iZ{α:Type}{b:α}{motive:(x:α)->Prop}{a:α}(h:b=a)(k:motive b):motive a:=h▸k
@[elab_as_elim]theorem qP{b:Prop}{motive:(x:Prop)->Prop}{a:Prop}(h:a↔b)(k:motive b):motive a:=propext h▸k
@[elab_as_elim]theorem ir_{b:Prop}{motive:(x:Prop)->Prop}{a:Prop}(h:b↔a)(k:motive b):motive a:=propext h▸k
end Internal
namespace Internal
open PySem
set_option backward.match.sparseCases false
theorem iH{α:Type}{a:α}{C:Prop}(h:none=some a):C:=nomatch h
theorem rR{C:Prop}(h:false=true):C:=gQ h
theorem nt_{C:Prop}(h:true=false):C:=gQ h
theorem sn_{α:Type}{a b:α}{P:α->Prop}(h:some a=some b)(p:P a):P b:=aE h▸p
theorem eC{G:Prop}(h:¬G->False):G:=rt h
inductive CV where|none|bool(b:Bool)|int(i:Int)|str(x:Str)|bytes(b:List UInt8)|tup(l:List CV)|rng(n:Int)|dvals(a:Addr)|ref(a:Addr)|script(ns:List Int)|st(a:Nat)|ty(n:Nat)|bi(n:Nat)
set_option genSizeOf false
structure LamD where
 params:kE
 body:aI
 scope:dD
inductive CO where|list(l:List CV)|sdict(es:List (Str×CV))|idict(es:List (Int×CV))|inst(cls:Nat)(d:Addr)|flds(es:List (Str×CV))|barr(b:List UInt8)|cell(v:Option CV)|clo(l:LamD)(cells:List (Str×Addr))|exc(cls:Nat)(d:Option Addr)|iset(n:Nat)
noncomputable abbrev CS:=Addr->Option CO
noncomputable def CS.put(S:CS)(a:Addr)(o:CO):CS:=λb=>if b=a then some o else S b
noncomputable def CS.le(S S':CS):Prop:=∀a o,S a=some o->S' a=some o
noncomputable abbrev KP:=CV->CS->Prop
noncomputable abbrev EP:=aP->aO->Prop
noncomputable abbrev M(α:Type):=(α->CS->Prop)->(CV->CS->Prop)->CS->Prop
noncomputable abbrev M.pure{α:Type}(a:α):M α:=λK ι S=>K a S
noncomputable abbrev M.bind{α β:Type}(m:M α)(f:α->M β):M β:=λK E S=>m (λa S'=>f a K E S') E S
noncomputable def M.fail{α:Type}:M α:=λι ι ι=>False
noncomputable def M.br{α:Type}(t:Bool)(a b:M α):M α:=λK E S=>(t=true->a K E S)/\(t=false->b K E S)
noncomputable def M.new(o:CO):M Addr:=λK ι S=>∀a,S a=none->K a (S.put a o)
noncomputable def M.get(a:Addr):M CO:=λK ι S=>∃o,S a=some o/\K o S
noncomputable def M.set(a:Addr)(o:CO):M Unit:=λK ι S=>K () (S.put a o)
noncomputable def M.less{α:Type}(m:M α):M α:=λK E S=>m (λa S'=>∃S'',S''.le S'/\K a S'') (λe S'=>∃S'',S''.le S'/\(∃a o,e=CV.ref a/\S'' a=some o)/\E e S'') S
noncomputable abbrev cN:=List (Option CV)
noncomputable abbrev fW:=CV->List CV->M CV
set_option genInjectivity false
inductive It where|items(l:List CV)(i:Nat)|octs(b:List UInt8)(i:Nat)|list(a:Addr)(i:Nat)|rng(i n:Int)|dvals(a:Addr)(i n:Nat)|enumL(a:Addr)(i:Nat)|enumO(b:List UInt8)(i:Nat)
inductive fZ where|next(vs:cN)|ret(v:CV)
end Internal
set_option genInjectivity false
set_option genSizeOf false
namespace Internal
set_option backward.match.sparseCases false
open PySem
noncomputable def eqL:List Nat->List Nat->Bool|[],[]=>true|a::r,b::q=>fQ a b&&eqL r q|_,_=>false
noncomputable def qW(x y:Str):Bool:=eqL x.cps.toList y.cps.toList
noncomputable def dA{α:Type}(x:Str):List (Str×α)->Option α |[]=>none|(y,v)::r=>match qW x y with|true=>some v|false=>dA x r
noncomputable def i_{α:Type}(x:Nat):List (Nat×α)->Option α |[]=>none|(y,v)::r=>match fQ x y with|true=>some v|false=>i_ x r
noncomputable def pj{α:Type}(x:Int):List (Int×α)->Option α |[]=>none|(y,v)::r=>match decide (x=y)with|true=>some v|false=>pj x r
theorem zN{α:Type}{x y:Int}{v:α}{r:List (Int×α)}(h:x=y):pj x ((y,v)::r)=some v:=by
 show(match decide (x=y)with|true=>some v|false=>pj x r)=_;rw[decide_eq_true h]
theorem zY{α:Type}{x y:Int}{v:α}{r:List (Int×α)}(h:¬x=y):pj x ((y,v)::r)=pj x r:=by
 show(match decide (x=y)with|true=>some v|false=>pj x r)=_;rw[decide_eq_false h]
noncomputable def nV{α:Type}(x:Str)(v:α):List (Str×α)->List (Str×α) |[]=>[(x,v)]|(y,w)::r=>match qW x y with|true=>(y,v)::r|false=>(y,w)::nV x v r
noncomputable def xH{α:Type}(x:Int)(v:α):List (Int×α)->List (Int×α) |[]=>[(x,v)]|(y,w)::r=>match decide (x=y)with|true=>(y,v)::r|false=>(y,w)::xH x v r
noncomputable def prog:iS:=vB
noncomputable def gs(x:String)(v:CV):Str×CV:=(x,v)
noncomputable def gc(x:String)(a:Nat):Str×Nat:=(x,a)
noncomputable def gf(a:Nat)(c f:String)(d:List CV):Nat×(Str×Str×List CV):=(a,c,f,d)
noncomputable def qf:List (Str×CV):=[gs "GateError" (.st 46),gs "MapError" (.st 59),gs "Fault" (.st 71),gs "little" (.st 78),gs "from_little" (.st 85),gs "CONTEXT" (.int 65536),gs "PACKET" (.int 131072),gs "STACK" (.int 262144),gs "FRAME_STEP" (.int 4096),gs "STACK_WIDTH" (.int 512),gs "VALUES" (.int 16777216),gs "MAP_STEP" (.int 1048576),gs "BEYOND" (.int 1879048192),gs "ROOM" (.int 524288),gs "Region" (.st 123),gs "stride_of" (.st 134),gs "value_place" (.st 141),gs "value_slot" (.st 148),gs "stack_base" (.st 155),gs "stack_end" (.st 162),gs "stack_name" (.st 169),gs "room_name" (.st 176),gs "area_of" (.st 183),gs "Memory" (.st 281),gs "new_stack" (.st 292),gs "context_octets" (.st 297),gs "new_memory" (.st 304),gs "E2BIG" (.int 7),gs "EEXIST" (.int 17),gs "EINVAL" (.int 22),gs "MOST_MAPS" (.int 64),gs "MOST_KEY" (.int 512),gs "PROCESSORS" (.int 4),gs "ANY" (.int 0),gs "NO_SUCH" (.int 1),gs "ONE_THERE" (.int 2),gs "KINDS" (.str "array hash lru rows queue stack trie ring"),gs "is_power" (.st 311),gs "check_key_width" (.st 318),gs "check_widths" (.st 325),gs "Map" (.st 510),gs "ArrayMap" (.st 594),gs "RowsMap" (.st 637),gs "_law_pen" (.st 644),gs "_law_draw" (.st 651),gs "_law_pick" (.st 658),gs "_law_heard" (.st 665),gs "_law_rows" (.st 670),gs "_law_cell" (.st 677),gs "_law_run" (.st 682),gs "_law_put" (.st 689),gs "_law_place" (.st 696),gs "_law_added" (.st 701),gs "_law_dropped" (.st 706),gs "_law_read_right" (.st 711),gs "_law_written_right" (.st 716),gs "_law_said_right" (.st 721),gs "law" (.st 726)]
noncomputable def biName:Nat->String|1=>"len"|2=>"abs"|3=>"sum"|4=>"max"|5=>"sorted"|6=>"list.insert"|7=>"dict.get"|8=>"dict.values"|9=>"str.split"|10=>"bytes.join"|11=>"list.append"|12=>"Exception.__init__"|_=>""
noncomputable def tyName:Nat->String|1=>"int"|2=>"bytes"|3=>"bytearray"|4=>"range"|5=>"list"|6=>"tuple"|7=>"set"|8=>"str"|9=>"enumerate"|10=>"Exception"|_=>""
noncomputable def th:List (Str×CV):=[gs "bytes" (.ty 2),gs "range" (.ty 4),gs "len" (.bi 1),gs "str" (.ty 8),gs "tuple" (.ty 6),gs "bytearray" (.ty 3),gs "sorted" (.bi 5),gs "int" (.ty 1),gs "sum" (.bi 3),gs "abs" (.bi 2),gs "enumerate" (.ty 9),gs "set" (.ty 7),gs "max" (.bi 4),gs "list" (.ty 5),gs "Exception" (.ty 10)]
noncomputable def fY:List (Nat×(List Nat×List (Str×Nat))):=[(46,[46],[gc "__init__" 36,gc "told" 43]),(59,[59,46],[]),(71,[71,46],[]),(123,[123],[gc "__init__" 99,gc "end" 106,gc "holds" 113,gc "told" 120]),(281,[281],[gc "__init__" 198,gc "add" 205,gc "drop" 210,gc "named" 217,gc "value_region" 224,gc "region_at" 231,gc "find" 238,gc "is_there" 245,gc "octets" 252,gc "lay" 259,gc "read" 266,gc "write" 273,gc "told" 278]),(510,[510],[gc "__init__" 339,gc "check_key" 346,gc "check_value" 353,gc "slot_count" 453,gc "place_of" 460,gc "lay" 474,gc "update" 369,gc "slot_at" 467]),(594,[594,510],[gc "__init__" 528,gc "index" 535,gc "slot" 542,gc "update" 565]),(637,[637,594,510],[gc "slot_count" 610,gc "slot" 617])]
noncomputable def dU(c:Nat)(x:Str):Option Nat:=match i_ c fY with
 |some (line,_)=>line.findSome? λk=>match i_ k fY with|some (_,fs)=>dA x fs|none=>none
 |none=>none
structure FnD where
 name:Str
 params:kE
 body:List Stmt
 scope:dD
noncomputable def DW(x:Str):List Stmt->Option FnD
 |[]=>none|.FunctionDef n a b _ _ _ sc _ _ _::r=>match qW x n with|true=>some ⟨n,a,b,sc⟩|false=>DW x r
 |_::r=>DW x r
noncomputable def findCls(x:Str):List Stmt->List Stmt
 |[]=>[]|.ClassDef n _ _ b _ _ _ _ _ _ _::r=>match qW x n with|true=>b|false=>findCls x r
 |_::r=>findCls x r
noncomputable def uc:List (Nat×(Str×Str×List CV)):=[gf 36 "GateError" "__init__" [.none],gf 78 "" "little" [],gf 85 "" "from_little" [],gf 99 "Region" "__init__" [],gf 106 "Region" "end" [],gf 113 "Region" "holds" [],gf 120 "Region" "told" [],gf 134 "" "stride_of" [],gf 141 "" "value_place" [],gf 148 "" "value_slot" [],gf 155 "" "stack_base" [],gf 162 "" "stack_end" [],gf 169 "" "stack_name" [],gf 176 "" "room_name" [],gf 183 "" "area_of" [],gf 198 "Memory" "__init__" [.none],gf 205 "Memory" "add" [],gf 210 "Memory" "drop" [],gf 217 "Memory" "named" [],gf 224 "Memory" "value_region" [],gf 231 "Memory" "region_at" [],gf 238 "Memory" "find" [],gf 245 "Memory" "is_there" [],gf 252 "Memory" "octets" [],gf 259 "Memory" "lay" [],gf 266 "Memory" "read" [],gf 273 "Memory" "write" [],gf 278 "Memory" "told" [],gf 292 "" "new_stack" [],gf 297 "" "context_octets" [],gf 304 "" "new_memory" [],gf 318 "" "check_key_width" [],gf 325 "" "check_widths" [],gf 339 "Map" "__init__" [],gf 346 "Map" "check_key" [],gf 353 "Map" "check_value" [],gf 453 "Map" "slot_count" [],gf 460 "Map" "place_of" [],gf 474 "Map" "lay" [],gf 528 "ArrayMap" "__init__" [],gf 535 "ArrayMap" "index" [],gf 542 "ArrayMap" "slot" [],gf 565 "ArrayMap" "update" [.int 0],gf 610 "RowsMap" "slot_count" [],gf 644 "" "_law_pen" [],gf 651 "" "_law_draw" [],gf 658 "" "_law_pick" [],gf 665 "" "_law_heard" [],gf 670 "" "_law_rows" [],gf 677 "" "_law_cell" [],gf 682 "" "_law_run" [],gf 689 "" "_law_put" [],gf 696 "" "_law_place" [],gf 701 "" "_law_added" [],gf 706 "" "_law_dropped" [],gf 711 "" "_law_read_right" [],gf 716 "" "_law_written_right" [],gf 721 "" "_law_said_right" [],gf 726 "" "law" []]
noncomputable def wx(a:Nat):Option (FnD×List CV):=match i_ a uc with
 |some (c,f,dv)=>match DW f (match qW c ""with|true=>prog.main.body|false=>findCls c prog.main.body)with |some fd=>some (fd,dv)|none=>none
 |none=>none
noncomputable def Cn(x:Str):Nat->List (Str×dW)->Option (Nat×dW) |_,[]=>none|i,(n,k)::r=>match qW x n with|true=>some (i,k)|false=>Cn x (i+1) r
noncomputable def uB(names:List (Str×dW))(x:Str):Option (Nat×dW):=Cn x 0 names
noncomputable def Gs:ac0->M CV |.none=>.pure .none|.bool b=>.pure (.bool b)|.int i=>.pure (.int i)|.str x=>.pure (.str x)|.bytes b=>.pure (.bytes b)|_=>.fail
noncomputable def lv(i:Nat)(vs:cN):M CV:=match vs[i]? with|some (some v)=>.pure v|_=>.fail
noncomputable def lc(i:Nat)(vs:cN):M CV:=match vs[i]? with
 |some (some (.ref c))=>(M.get c).bind λo=>match o with|.cell (some v)=>.pure v|_=>.fail
 |_=>.fail
noncomputable def xn(x:Str):M CV:=match dA x qf with|some v=>.pure v|none=>match dA x th with|some v=>.pure v|none=>.fail
noncomputable def dunder(x:Str):Bool:=match x.cps.toList with|a::b::_=>fQ a 95&&fQ b 95|_=>false
noncomputable def qV(sc:dD)(vs:cN)(x:Str):M CV:=match dunder x with|true=>.fail|false=>match uB sc.names x with |some (i,.local)=>lv i vs|some (i,.cell)=>lc i vs|some (i,.free)=>lc i vs|some (_,.globalImplicit)=>xn x|_=>.fail
noncomputable def iD(sc:dD):Bool:=match uB sc.names "memory"with|some (_,.cell)=>true|_=>false
noncomputable def sv(i:Nat)(v:CV)(vs:cN):M cN:=.pure (vs.set i (some v))
noncomputable def vy(i:Nat)(v:CV)(vs:cN):M cN:=match vs[i]? with
 |some (some (.ref c))=>(M.get c).bind λo=>match o with|.cell _=>(M.set c (.cell (some v))).bind λι=>.pure vs|_=>.fail
 |_=>.fail
noncomputable def gK(sc:dD)(vs:cN)(x:Str)(v:CV):M cN:=match uB sc.names x with |some (i,.local)=>sv i v vs|some (i,.cell)=>vy i v vs|_=>.fail
noncomputable def kM:CV->M Bool|.bool b=>.pure b|.none=>.pure false|_=>.fail
noncomputable def M.raise{α:Type}(e:CV):M α:=λι E S=>(∃a c d,e=.ref a/\S a=some (.exc c d)/\dU c "__init__"=some 36)/\E e S
end Internal
namespace Internal
set_option backward.match.sparseCases false
open PySem
noncomputable def gd(p:Prop):M Unit:=λK ι S=>p/\K () S
noncomputable def rC{α:Type}(m:M α):M α:=λK ι S=>m K (λι ι=>False) S
noncomputable def many{α β:Type}(f:α->M β):List α->M (List β) |[]=>.pure []|a::r=>(f a).bind λb=>(many f r).bind λq=>.pure (b::q)
noncomputable def l1{α β:Type}(l:List α)(f:α->Option β):Option β:=match l with|[]=>none|x::r=>(match r with|[]=>f x|_::_=>none)
noncomputable def l2{α β:Type}(l:List α)(f:α->α->Option β):Option β:=match l with|[]=>none|x::r=>l1 r (f x)
noncomputable def l0{α β:Type}(l:List α)(b:Option β):Option β:=match l with|[]=>b|_::_=>none
noncomputable def n0{α β:Type}(o:Option α)(b:Option β):Option β:=match o with|none=>b|some _=>none
noncomputable def oE{α β:Type}(o:Option α)(f:α->Option β):Option β:=match o with|none=>none|some a=>f a
noncomputable def Q7{β:Type}(e:aI)(f:Str->Option β):Option β:=match e with|.Name x _=>f x|_=>none
noncomputable def clE{β:Type}(e:aI)(f:aI->List aI->List FL->Option β):Option β:=match e with|.Call g as ks _=>f g as ks|_=>none
noncomputable def enE(e:aI):Option (Str×aI):=clE e λg as ks=>Q7 g λx=>l1 as λa=>l0 ks (some (x,a))
noncomputable def cE{β:Type}(e:aI)(f:ac0->Option β):Option β:=match e with|.Constant c _ _=>f c|_=>none
noncomputable def iC{β:Type}(c:ac0)(f:Int->Option β):Option β:=match c with|.int i=>f i|_=>none
noncomputable def SA{β:Type}(s:Stmt)(f:List aI->aI->Option β):Option β:=match s with|.Assign ts e _=>f ts e|_=>none
structure TryD where
 x:Str
 e:aI
 c:Str
 n:Str
 y:Str
 z:Str
noncomputable def Q4(b:List Stmt)(hs:List aX2)(o f:List Stmt):Option TryD:=l1 b λs=>SA s λts e=>l1 ts λt=>Q7 t λx=>l1 hs λh=>match h with|.ExceptHandler c nm body _=>oE c λc=>Q7 c λc=>oE nm λn=>l1 body λs=>SA s λts v=>l1 ts λt=>Q7 t λy=>Q7 v λz=>l0 o (l0 f (some ⟨x,e,c,n,y,z⟩))
inductive PairD where|ints(i j:Int)|strs(x y:Str)
noncomputable def HX(ks:List (Option aI)):Option PairD:=l2 ks λa b=>oE a λa=>oE b λb=>cE a λa=>cE b λb=>match a with |.int i=>(match b with|.int j=>some (.ints i j)|_=>none)|.str x=>(match b with|.str y=>some (.strs x y)|_=>none)|_=>none
noncomputable def two{α:Type}(l:List aI)(f:aI->aI->M α):M α:=match l with|[]=>.fail|x::r=>(match r with|[]=>.fail|y::q=>(match q with|[]=>f x y|_::_=>.fail))
noncomputable def bN(n:Nat):Prop:=n<=100000
noncomputable def A5(i:Int)(n:Nat):Option Nat:=if 0<=i then(if i<n then some i.toNat else none)else(if-(n:Int)<=i then some (n+i).toNat else none)
noncomputable def vf(f:CV->CV->Option Bool):List CV->List CV->Option Bool |[],[]=>some true|a::r,b::q=>(f a b).bind λx=>(vf f r q).bind λy=>some (x&&y)|[],_::_=>some false|_::_,[]=>some false
noncomputable def tQ:CV->Bool|.none=>true|_=>false
noncomputable def yz:Nat->CV->CV->Option Bool|0,_,_=>none|n+1,a,b=>match a with |.none=>(match b with|.none=>some true|.tup _=>some false|_=>none)|.bool a=>(match b with|.bool b=>some (decide (a=b))|_=>none)|.int a=>(match b with|.int b=>some (decide (a=b))|_=>none)|.str a=>(match b with|.str b=>some (decide (a=b))|_=>none)|.bytes a=>(match b with|.bytes b=>some (decide (a=b))|_=>none)|.tup a=>(match b with|.tup b=>vf (yz n) a b|.none=>some false|_=>none)|_=>none
noncomputable def PB(l r:List CV):Option Bool:=if l.length=r.length then vf (yz 4) l r else some false
noncomputable def iG{α:Type}(o:Option α):M α:=match o with|some a=>.pure a|none=>.fail
noncomputable def Dv{α:Type}(a:Addr)(f:List CV->M α):M α:=(M.get a).bind λx=>match x with|.list l=>f l|_=>.fail
noncomputable def eqM(a b:CV):M Bool:=match a with |.ref a=>(match b with|.ref b=>Dv a λl=>Dv b λr=>iG (PB l r)|.str _=>Dv a λι=>.pure false|_=>.fail)|.str x=>(match b with|.ref b=>Dv b λι=>.pure false|.str y=>.pure (decide (x=y))|_=>.fail)|a=>iG (yz 4 a b)
noncomputable def vH(x:CV):List CV->Option Bool|[]=>some false|y::r=>(yz 1 y x).bind λa=>(vH x r).bind λb=>some (a||b)
noncomputable def nF:CV->Bool|.none=>true|.int _=>true|.str _=>true|_=>false
noncomputable def inM(x:CV):CV->M Bool
 |.tup l=>match nF x with|true=>iG (vH x l)|false=>.fail
 |.ref a=>(M.get a).bind λo=>match o,x with
  |.list l,_=>match nF x with|true=>iG (vH x l)|false=>.fail
  |.idict es,.int k=>.pure (pj k es).isSome|_,_=>.fail
 |_=>.fail
noncomputable def i2{α:Type}(v w:CV)(f:Int->Int->M α):M α:=match v with|.int a=>(match w with|.int b=>f a b|_=>.fail)|_=>.fail
noncomputable def Gx(b:CV)(t:Bool):M Bool:=match b with|.none=>.pure t|_=>.fail
noncomputable def cY(op:ac1)(a b:CV):M Bool:=match op with |.Eq=>eqM a b|.NotEq=>(eqM a b).bind λt=>.pure !t|.Lt=>i2 a b λa b=>.pure (decide (a<b))|.LtE=>i2 a b λa b=>.pure (decide (a<=b))|.Gt=>i2 a b λa b=>.pure (decide (b<a))|.GtE=>i2 a b λa b=>.pure (decide (b<=a))|.Is=>Gx b (tQ a)|.IsNot=>Gx b (!tQ a)|.In=>inM a b|.NotIn=>(inM a b).bind λt=>.pure !t
noncomputable def mO(v:CV):M (List CV):=match v with
 |.ref a=>(M.get a).bind λo=>match o with|.list l=>.pure l|_=>.fail
 |_=>.fail
noncomputable def mk(o:CO):M CV:=(M.new o).bind λa=>.pure (.ref a)
noncomputable def al9(v w:CV):M CV:=match v with |.int a=>(match w with|.int b=>.pure (.int (a+b))|_=>.fail)|.str a=>(match w with|.str b=>(gd (bN a.length/\bN b.length)).bind λι=>.pure (.str (a++b))|_=>.fail)|.ref a=>(match w with|.ref b=>(mO (.ref a)).bind λl=>(mO (.ref b)).bind λr=>(gd (bN l.length/\bN r.length)).bind λι=>mk (.list (l++r))|_=>.fail)|_=>.fail
noncomputable def one{α:Type}(l:List CV)(f:CV->M α):M α:=match l with|[]=>.fail|x::r=>(match r with|[]=>f x|_::_=>.fail)
noncomputable def al2(v w:CV):M CV:=match v with |.int a=>(match w with|.int b=>(gd (a.natAbs<2^1000/\b.natAbs<2^1000)).bind λι=>.pure (.int (a*b))|_=>.fail)|.ref a=>(match w with|.int n=>(mO (.ref a)).bind λl=>one l λx=>(gd (0<=n/\n<=4096)).bind λι=>mk (.list (bH n.toNat x))|_=>.fail)|_=>.fail
noncomputable def cP(op:Operator)(v w:CV):M CV:=match op with |.Add=>al9 v w|.Sub=>i2 v w λa b=>.pure (.int (a-b))|.Mult=>al2 v w|.FloorDiv=>i2 v w λa b=>(gd (b≠0/\b.natAbs<2^1000)).bind λι=>.pure (.int (a.fdiv b))|.Mod=>i2 v w λa b=>(gd (b≠0)).bind λι=>.pure (.int (a.fmod b))|.Pow=>i2 v w λa b=>(gd (a.natAbs<2^100/\0<=b/\b<=40)).bind λι=>.pure (.int (a^b.toNat))|.LShift=>i2 v w λa b=>(gd (a.natAbs<2^100/\0<=b/\b<=200)).bind λι=>.pure (.int (a*2^b.toNat))|.RShift=>i2 v w λa b=>(gd (0<=b/\b<=200)).bind λι=>.pure (.int (a.fdiv (2^b.toNat)))|.BitAnd=>i2 v w λa b=>(gd (b=255)).bind λι=>.pure (.int (a.fmod 256))|_=>.fail
noncomputable def Dp:CV->M CV |.int a=>.pure (.int (-a))|_=>.fail
noncomputable def cJ:CV->CV->M CV
 |.tup l,.int i=>(gd (0<=i/\i<2^60)).bind λι=>iG l[i.toNat]?|.bytes b,.int i=>(gd (0<=i/\bN b.length)).bind λι=>iG (b[i.toNat]?.map λx=>.int x.toNat)|.ref a,.int i=>(M.get a).bind λo=>match o with |.list l=>(gd (-(2^60)<=i/\i<2^60)).bind λι=>iG ((A5 i l.length).bind λj=>l[j]?)|.barr b=>(gd (0<=i/\i<2^60)).bind λι=>iG (b[i.toNat]?.map λx=>.int x.toNat)|.idict es=>iG (pj i es)|_=>.fail
 |.ref a,.str x=>(M.get a).bind λo=>match o with |.sdict es=>iG (dA x es)|_=>.fail
 |_,_=>.fail
noncomputable def Ed{α:Type}(l:List α)(lo hi:Nat):List α:=(l.drop lo).take (hi-lo)
noncomputable def uX(d:Nat):Option CV->M Nat |none=>.pure d|some (.int i)=>(gd (0<=i/\i<2^60)).bind λι=>.pure (min i.toNat d)|_=>.fail
noncomputable def sD(v:CV)(lo hi:Option CV):M CV:=match v with
 |.script ns=>match lo,hi with |none,some (.int i)=>(gd (0<=i/\i<2^60)).bind λι=>mk (.list ((ns.map CV.int).take i.toNat))|_,_=>.fail
 |.ref a=>(M.get a).bind λo=>match o with |.list l=>(gd (bN l.length)).bind λι=>(uX l.length (some (lo.getD (.int 0)))).bind λi=>(uX l.length hi).bind λj=>mk (.list (Ed l i j))|.barr b=>(gd (bN b.length)).bind λι=>(uX b.length (some (lo.getD (.int 0)))).bind λi=>(uX b.length hi).bind λj=>mk (.barr (Ed b i j))|_=>.fail
 |_=>.fail
noncomputable def lJ:CV->CV->CV->M Unit
 |.ref a,.int i,v=>(M.get a).bind λo=>match o with |.list l=>(gd (0<=i/\i<l.length/\i<2^60)).bind λι=>M.set a (.list (l.set i.toNat v))|.idict es=>(gd (es.length<=1000)).bind λι=>M.set a (.idict (xH i v es))|_=>.fail
 |.ref a,.str x,v=>(M.get a).bind λo=>match o with |.sdict es=>(gd (es.length<=1000)).bind λι=>M.set a (.sdict (nV x v es))|_=>.fail
 |_,_,_=>.fail
noncomputable def pY(o:CV)(lo hi:Option CV)(v:CV):M Unit:=match o,v with
 |.ref a,.bytes c=>(M.get a).bind λx=>match x with |.barr b=>(uX b.length (some (lo.getD (.int 0)))).bind λi=>(uX b.length hi).bind λj=>(gd (i<=j/\c.length=j-i/\bN b.length)).bind λι=>M.set a (.barr (b.take i++c++b.drop j))|_=>.fail
 |_,_=>.fail
noncomputable def o_:List (Str×Nat):=[("name",1),("base",1),("octets",1),("is_writable",1),("regions",1),("maps",1),("kind",1),("number",1),("key_width",1),("value_width",1),("most",1),("values",1),("what",2),("at",2)]
noncomputable def zc:CV->M CV|.bi _=>.fail|v=>.pure v
noncomputable def dI(v:CV)(x:Str):M CV:=match dA x o_ with|none=>.fail|some _=>match v with
  |.ref a=>(M.get a).bind λo=>match o with
   |.inst c d=>match dU c x with
    |none=>(M.get d).bind λf=>match f with|.flds es=>(iG (dA x es)).bind zc|_=>.fail
    |some _=>.fail
   |.exc c (some d)=>match dU c x with
    |none=>(M.get d).bind λf=>match f with|.flds es=>(iG (dA x es)).bind zc|_=>.fail
    |some _=>.fail
   |_=>.fail
  |_=>.fail
noncomputable def fR(o:CV)(x:Str)(v:CV):M Unit:=match dA x o_ with|none=>.fail|some _=>match o with
  |.ref a=>(M.get a).bind λy=>match y with
   |.inst c d=>match dU c x with
    |none=>(M.get d).bind λf=>match f with|.flds es=>(gd (es.length<=100)).bind λι=>M.set d (.flds (nV x v es))|_=>.fail
    |some _=>.fail
   |.exc c (some d)=>match dU c x with
    |none=>(M.get d).bind λf=>match f with|.flds es=>(gd (es.length<=100)).bind λι=>M.set d (.flds (nV x v es))|_=>.fail
    |some _=>.fail
   |.exc c none=>match dU c x with |none=>(M.new (.flds [])).bind λd=>(M.set a (.exc c (some d))).bind λι=>M.set d (.flds [(x,v)])|some _=>.fail
   |_=>.fail
  |_=>.fail
noncomputable def HE:CV->Option UInt8 |.int i=>if 0<=i/\i<256 then some (kF i.toNat)else none|_=>none
noncomputable def rE:List CV->Option (List UInt8) |[]=>some []|v::r=>(HE v).bind λx=>(rE r).map λq=>x::q
noncomputable def u4:List CV->Option (List Int) |[]=>some []|.int i::r=>(u4 r).map λq=>i::q|_=>none
noncomputable def vv:List CV->Option (List (List UInt8)) |[]=>some []|.bytes b::r=>(vv r).map λq=>b::q|_=>none
noncomputable def Y8(v:CV):M (List UInt8):=match v with
 |.bytes b=>.pure b|.ref a=>(M.get a).bind λo=>match o with |.barr b=>.pure b|.list l=>(gd (bN l.length)).bind λι=>iG (rE l)|_=>.fail
 |_=>.fail
noncomputable def aq5(v:CV):M CV:=match v with
 |.tup l=>(gd (bN l.length)).bind λι=>.pure (.int l.length)|.bytes b=>(gd (bN b.length)).bind λι=>.pure (.int b.length)|.ref a=>(M.get a).bind λo=>match o with |.list l=>(gd (bN l.length)).bind λι=>.pure (.int l.length)|.barr b=>(gd (bN b.length)).bind λι=>.pure (.int b.length)|.iset n=>(gd (n<=1000)).bind λι=>.pure (.int n)|_=>.fail
 |_=>.fail
noncomputable def a2{α:Type}(l:List CV)(f:CV->CV->M α):M α:=match l with|[]=>.fail|x::r=>one r (f x)
noncomputable def a3{α:Type}(l:List CV)(f:CV->CV->CV->M α):M α:=match l with|[]=>.fail|x::r=>a2 r (f x)
noncomputable def E7{α:Type}(v:CV)(f:Int->M α):M α:=match v with|.int i=>f i|_=>.fail
noncomputable def DY{α:Type}(v:CV)(f:Addr->List (Int×CV)->M α):M α:=match v with |.ref a=>(M.get a).bind λo=>(match o with|.idict es=>f a es|_=>.fail)|_=>.fail
noncomputable def Fx{α:Type}(v:CV)(f:Addr->List CV->M α):M α:=match v with |.ref a=>(mO (.ref a)).bind (f a)|_=>.fail
noncomputable def XM(v w:CV):M CV:=match v with |.str x=>(match w with |.str y=>(gd (x=("array hash lru rows queue stack trie ring":Str)/\y=(" ":Str))).bind λι=>mk (.list (["array","hash","lru","rows","queue","stack","trie","ring"].map λz=>CV.str (aD z)))|_=>.fail)|_=>.fail
noncomputable def UG(v w:CV):M CV:=match v with |.bytes z=>(match z with |[]=>(mO w).bind λl=>(iG (vv l)).bind λq=>(gd (2<=l.length/\bN q.flatten.length)).bind λι=>.pure (.bytes q.flatten)|_::_=>.fail)|_=>.fail
noncomputable def aJ3(v w:CV):M CV:=match v with |.ref a=>(match w with |.str _=>(M.get a).bind λo=>(match o with|.exc c d=>(match d with|none=>(M.set a (.exc c none)).bind λι=>.pure .none|some _=>.fail)|_=>.fail)|_=>.fail)|_=>.fail
noncomputable def qM(id:Nat)(args:List CV):M CV:=match id with |1=>one args aq5|2=>one args λv=>E7 v λi=>.pure (.int (if i<0 then-i else i))|3=>one args λv=>(mO v).bind λl=>(iG (u4 l)).bind λq=>.pure (.int q.sum)|4=>a2 args λv w=>i2 v w λa b=>.pure (.int (if b>a then b else a))|5=>one args λv=>DY v λι es=>(gd (es.length<64)).bind λι=>λK E S=>∀ns:List Int,ns.Perm (es.map (·.1))->ns.Pairwise (·<=·)->mk (.list (ns.map .int)) K E S|6=>a3 args λv w u=>Fx v λa l=>E7 w λi=>(gd (0<=i/\i<=l.length/\bN l.length)).bind λι=>(M.set a (.list (l.take i.toNat++u::l.drop i.toNat))).bind λι=>.pure .none|7=>a2 args λv w=>DY v λι es=>E7 w λk=>.pure ((pj k es).getD .none)|8=>one args λv=>DY v λa ι=>.pure (.dvals a)|9=>a2 args XM|10=>a2 args UG|11=>a2 args λv w=>Fx v λa l=>(gd (bN l.length)).bind λι=>(M.set a (.list (l++[w]))).bind λι=>.pure .none|12=>a2 args aJ3|_=>.fail
noncomputable def yt(i:Int):Str:=aD (toString i)
noncomputable def nJ(n:Nat)(args:List CV):M CV:=match n with
 |1=>match args with|[.int i]=>.pure (.int i)|_=>.fail
 |2=>match args with|[v]=>(Y8 v).bind λb=>(gd (bN b.length)).bind λι=>.pure (.bytes b)|_=>.fail
 |3=>match args with |[.int i]=>(gd (0<=i/\i<=4096)).bind λι=>mk (.barr (bH i.toNat 0))|[v]=>(Y8 v).bind λb=>(gd (bN b.length)).bind λι=>mk (.barr b)|_=>.fail
 |4=>match args with|[.int i]=>(gd (i.natAbs<2^60)).bind λι=>.pure (.rng i)|_=>.fail
 |5=>match args with|[.bytes b]=>(gd (bN b.length)).bind λι=>mk (.list (b.map λx=>.int x.toNat))|_=>.fail
 |6=>match args with|[v]=>(mO v).bind λl=>(gd (bN l.length)).bind λι=>.pure (.tup l)|_=>.fail
 |7=>match args with|[v]=>(mO v).bind λl=>(iG (u4 l)).bind λq=>(gd (q.length<=100/\∀i∈q,0<=i/\i<1000)).bind λι=>mk (.iset (gN (λi=>q.getD i 0) q.length).length)|_=>.fail
 |8=>match args with|[.int i]=>(gd (i.natAbs<2^60)).bind λι=>.pure (.str (yt i))|_=>.fail
 |_=>.fail
noncomputable def I1(cl:fW)(c:Nat)(args:List CV)(f:Nat):Bool->M CV
 |true=>match args with
  |[.str x]=>(M.new (.exc c none)).bind λa=>(rC (cl (.st 36) [.ref a,.str x])).bind λr=>match r with|.none=>.pure (.ref a)|_=>.fail
  |_=>.fail
 |false=>(M.new (.flds [])).bind λd=>(M.new (.inst c d)).bind λa=>(rC (cl (.st f) (.ref a::args))).bind λr=>match r with|.none=>.pure (.ref a)|_=>.fail
noncomputable def mG(cl:fW)(c:Nat)(args:List CV):M CV:=match dU c "__init__"with |some f=>I1 cl c args f (fQ f 36)|none=>.fail
theorem UN(e:dU c "__init__"=some f)(G:f≠36):mG cl c args=I1 cl c args f false:=by unfold mG;refine aC e (congrArg (I1 cl c args f) (yP.mpr λq=>G (cM q)))
theorem Ij(e:dU c "__init__"=some 36):mG cl c args=I1 cl c args 36 true:=by unfold mG;refine aC e rfl
noncomputable def eQ(cl:fW)(f:CV)(args:List CV):M CV:=match f with
 |.bi id=>qM id args|.ty n=>nJ n args|.st a=>match i_ a fY with|some _=>mG cl a args|none=>cl (.st a) args
 |.ref a=>cl (.ref a) args|_=>.fail
noncomputable def dX(v:CV)(x:Str):M (CV×List CV):=match v with
 |.ref a=>(M.get a).bind λo=>match o with
  |.inst c d=>(M.get d).bind λf=>match f with
   |.flds es=>match dA x es,dU c x with |none,some g=>.pure (.st g,[.ref a])|_,_=>.fail
   |_=>.fail
  |.list _=>match dA x [gs "insert" (.bi 6),gs "append" (.bi 11)]with|some f=>.pure (f,[.ref a])|none=>.fail
  |.idict _=>match dA x [gs "get" (.bi 7),gs "values" (.bi 8)]with|some f=>.pure (f,[.ref a])|none=>.fail
  |_=>.fail
 |.str _=>match qW x "split"with|true=>.pure (.bi 9,[v])|false=>.fail
 |.bytes _=>match qW x "join"with|true=>.pure (.bi 10,[v])|false=>.fail
 |.st a=>match fQ a 510 with|true=>(match qW x "__init__"with|true=>.pure (.st 339,[])|false=>.fail)|false=>.fail
 |.ty n=>match fQ n 10 with|true=>(match qW x "__init__"with|true=>.pure (.bi 12,[])|false=>.fail)|false=>.fail
 |_=>.fail
noncomputable def uf:It->M (Option (CV×It))
 |.items l i=>match l[i]? with|some v=>.pure (some (v,.items l (i+1)))|none=>.pure none
 |.octs b i=>match b[i]? with|some c=>.pure (some (.int c.toNat,.octs b (i+1)))|none=>.pure none
 |.rng i n=>match decide (i<n)with|true=>.pure (some (.int i,.rng (i+1) n))|false=>.pure none
 |.list a i=>(M.get a).bind λo=>match o with
  |.list l=>match l[i]? with|some v=>.pure (some (v,.list a (i+1)))|none=>.pure none
  |_=>.fail
 |.dvals a i n=>(M.get a).bind λo=>match o with
  |.idict es=>(gd (es.length=n)).bind λι=>match es[i]? with|some e=>.pure (some (e.2,.dvals a (i+1) n))|none=>.pure none
  |_=>.fail
 |.enumL a i=>(M.get a).bind λo=>match o with
  |.list l=>match l[i]? with|some v=>.pure (some (.tup [.int i,v],.enumL a (i+1)))|none=>.pure none
  |_=>.fail
 |.enumO b i=>match b[i]? with|some c=>.pure (some (.tup [.int i,.int c.toNat],.enumO b (i+1)))|none=>.pure none
noncomputable def gE:CV->M It
 |.ref a=>(M.get a).bind λo=>match o with|.list _=>.pure (.list a 0)|_=>.fail
 |.tup l=>.pure (.items l 0)|.bytes b=>.pure (.octs b 0)|.rng n=>(gd (n.natAbs<2^60)).bind λι=>.pure (.rng 0 n)|.dvals a=>(M.get a).bind λo=>match o with|.idict es=>.pure (.dvals a 0 es.length)|_=>.fail
 |_=>.fail
noncomputable def tJ:It->M It |.list a i=>.pure (.enumL a i)|.octs b i=>.pure (.enumO b i)|_=>.fail
noncomputable def isTup:aI->Bool|.Tuple _ _ _=>true|_=>false
noncomputable def uC(t:aI)(i:It):Bool:=match isTup t with|true=>true|false=>match i with|.enumL _ _=>false|.enumO _ _=>false|_=>true
noncomputable def Et{σ:Type}(body:CV->σ->M σ):Nat->It->σ->M σ|0,_,_=>.fail|k+1,it,s=>(uf it).bind λr=>match r with|none=>.pure s|some (v,it')=>(body v s).bind λs'=>Et body k it' s'
noncomputable def mV{σ:Type}(body:CV->σ->M σ)(it:It)(s:σ):M σ:=λK ι S=>∃k,Et body k it s K (λι ι=>False) S
noncomputable def Jl(body:CV->cN->M fZ):Nat->It->cN->M fZ |0,_,_=>.fail|k+1,it,vs=>(uf it).bind λr=>match r with |none=>.pure (.next vs)|some (v,it')=>(body v vs).bind λf=>match f with |.next vs'=>Jl body k it' vs'|.ret w=>.pure (.ret w)
noncomputable def yd(body:CV->cN->M fZ)(it:It)(vs:cN):M fZ:=λK ι S=>∃k,Jl body k it vs K (λι ι=>False) S
noncomputable def G_(test:cN->M Bool)(body:cN->M fZ):Nat->cN->M fZ |0,_=>.fail|k+1,vs=>(test vs).bind λt=>M.br t ((body vs).bind λf=>match f with |.next vs'=>G_ test body k vs'|.ret w=>.pure (.ret w)) (.pure (.next vs))
noncomputable def AN(test:cN->M Bool)(body:cN->M fZ)(vs:cN):M fZ:=λK ι S=>∃k,G_ test body k vs K (λι ι=>False) S
noncomputable def gF(f:M fZ)(g:cN->M fZ):M fZ:=f.bind λr=>match r with|.next vs=>g vs|.ret w=>.pure (.ret w)
noncomputable def nE(outer:dD)(ovs:cN)(x:Str):Option CV:=match uB outer.names x with |some (i,.cell)=>(ovs[i]?).join|some (i,.free)=>(ovs[i]?).join|_=>none
noncomputable def rh(outer:dD)(ovs:cN):List (Str×dW)->cN |[]=>[]|(x,.free)::r=>nE outer ovs x::rh outer ovs r|_::r=>none::rh outer ovs r
noncomputable def B6(outer:dD)(ovs:cN):List (Str×dW)->Option (List (Str×Addr))
 |[]=>some []|(x,.free)::r=>match nE outer ovs x with |some (.ref c)=>(B6 outer ovs r).map λq=>(x,c)::q|_=>none
 |_::r=>B6 outer ovs r
noncomputable def qr(outer:dD)(ovs:cN)(ns:List (Str×dW)):M (List (Str×Addr)):=iG (B6 outer ovs ns)
noncomputable def lB(sc:dD):List aI->List CV->cN->M cN |[],[],vs=>.pure vs|.Name x _::r,v::q,vs=>(gK sc vs x v).bind λvs'=>lB sc r q vs'|_,_,_=>.fail
noncomputable def nM(n:Nat):CV->M (List CV) |.tup l=>(gd (l.length=n)).bind λι=>.pure l|_=>.fail
noncomputable def bindM(sc:dD):aI->CV->cN->M cN |.Name x _,v,vs=>gK sc vs x v|.Tuple es _ _,v,vs=>(nM es.length v).bind λl=>lB sc es l vs|_,_,_=>.fail
noncomputable def zi(i:Nat):CV->Option Int
 |.tup l=>match l[i]? with|some (.int z)=>some z|_=>none
 |_=>none
noncomputable def oU(i:Nat):List CV->Option (List Int) |[]=>some []|v::r=>(zi i v).bind λz=>(oU i r).map λq=>z::q
noncomputable def vg(i:Nat)(l:List CV):M CV:=λK E S=>l.length<64/\(∃q,oU i l=some q)/\∀l' q',l'.Perm l->oU i l'=some q'->q'.Pairwise (·<=·)->mk (.list l') K E S
noncomputable def uU:aI->Bool |.Call (.Name _ _) [] [] _=>false|_=>true
noncomputable def oA:List (Str×dW)->Bool |[]=>true|(_,.local)::r=>oA r|(_,.free)::r=>oA r|(_,.globalImplicit)::r=>oA r|_=>false
noncomputable def tj(all:List (Str×dW)):List (Str×dW)->Bool |[]=>true|(x,.local)::r=>(match uB all x with|some (_,.local)=>true|_=>false)&&tj all r|_::r=>tj all r
noncomputable def av9:ScopeKind->Bool|.function=>true|_=>false
noncomputable def AU:kE->Bool|⟨_,_,_,_,d,_,e⟩=>d.isEmpty&&e.isEmpty
noncomputable def Fn(x:Str):List Str->Bool|[]=>true|y::r=>!qW x y&&Fn x r
noncomputable def A0:List Str->Bool|[]=>true|x::r=>Fn x r&&A0 r
noncomputable def EV(ns:List (Str×dW)):List Arg->Bool|[]=>true|a::r=>(match uB ns a.arg with|some (_,.local)=>true|some (_,.cell)=>true|_=>false)&&EV ns r
noncomputable def qp(sc:dD):kE->Bool|⟨_,as,_,_,_,_,_⟩=>EV sc.names as&&A0 (as.map (·.arg))&&A0 (sc.names.map (·.1))
noncomputable def DO(sc:dD):Bool:=av9 sc.kind&&tj sc.names sc.names
noncomputable def Fc(sc:dD):Bool:=DO sc&&!sc.isCoroutine&&!sc.isGenerator
noncomputable def yC:List (Str×dW)->Bool |[]=>true|(_,.local)::r=>yC r|(_,.globalImplicit)::r=>yC r|_=>false
noncomputable def Yb{β:Type}(b:aI)(f:aI->aI->Option β):Option β:=match b with|.Subscript e c _=>f e c|_=>none
noncomputable def aE9(p:Nat×dW)(i:Nat):Option Nat:=match p.2 with|.local=>some i|_=>none
noncomputable def zg{β:Type}(t:Bool)(b:Option β):Option β:=match t with|true=>b|false=>none
noncomputable def ys(ps:kE)(b:aI)(lsc:dD):Option Nat:=match ps with|⟨po,as,va,ko,kd,kw,df⟩=>l0 po (l1 as λa=>n0 va (l0 ko (l0 kd (n0 kw (l0 df (Yb b λe c=>Q7 e λy=>cE c λc=>iC c λi=>zg (qW a.arg y&&(!dunder y&&(!iD lsc&&(Fc lsc&&(qp lsc ps&&(yC lsc.names&&decide (0<=i/\i<1000))))))) (oE (uB lsc.names y) λp=>aE9 p i.toNat)))))))
noncomputable def yL(sc:dD)(x:Str)(vs:cN):Bool:=match uB sc.names x with
 |some (i,.local)=>match vs[i]? with|some (some _)=>false|_=>true
 |_=>false
noncomputable def GA(sc:dD)(t:aI)(vs:cN):Bool:=match t with
 |.Name x _=>yL sc x vs|.Tuple es _ _=>es.all λe=>match e with|.Name x _=>yL sc x vs|_=>false
 |_=>false
noncomputable def GI:aI->Bool|.Starred _ _=>true|_=>false
noncomputable def nh:Nat->List aI->Bool|_,[]=>true|n,e::r=>match n with|0=>false|n+1=>match GI e with|true=>false|false=>nh n r
noncomputable def wb:aI->Bool|.Call _ _ _ _=>true|_=>false
noncomputable def ak0(t v:aI):Bool:=match t with |.Tuple _ _ _=>(match v with|.Tuple vs _ _=>vs.all (IH 8)||!(vs.all (FU 8))|_=>true)|.List _ _=>(match v with|.Tuple vs _ _=>vs.all (IH 8)||!(vs.all (FU 8))|_=>true)|_=>true
noncomputable def yO(ts:List aI)(v:aI):Bool:=match ts with|[]=>true|t::r=>(match r with|[]=>ak0 t v|_::_=>true)
noncomputable def ap0(k:dW):Bool:=match k with|.globalImplicit=>true|_=>false
noncomputable def enS(t:Bool)(q:Option (Nat×dW))(a b:M It):M It:=match t with |true=>(match q with|some p=>(match ap0 p.2 with|true=>a|false=>.fail)|none=>.fail)|false=>b
mutual noncomputable def eP(cl:fW):Nat->dD->aI->cN->M CV|0,_,_,_=>.fail|k+1,sc,e,vs=>match e with
  |.Constant c _ _=>Gs c|.Name x _=>qV sc vs x|.BoolOp op es _=>Ap cl k sc op es vs|.BinOp l op r _=>(eP cl k sc l vs).bind λa=>(eP cl k sc r vs).bind λb=>cP op a b|.UnaryOp .Not x _=>(eP cl k sc x vs).bind λv=>(kM v).bind λt=>.pure (.bool !t)|.UnaryOp .USub x _=>(eP cl k sc x vs).bind λv=>Dp v|.Lambda a b lsc _=>match iD sc&&(!iD lsc&&AU a)with |true=>(qr sc vs lsc.names).bind λcs=>mk (.clo ⟨a,b,lsc⟩ cs)|false=>.fail
  |.IfExp t b o _=>(sL cl k sc t vs).bind λz=>M.br z (eP cl k sc b vs) (eP cl k sc o vs)|.Dict ks es _=>Ti cl k sc ks es vs|.List es _=>(sf cl k sc es vs).bind λl=>(gd (bN l.length)).bind λι=>mk (.list l)|.Tuple es _ _=>(sf cl k sc es vs).bind λl=>(gd (bN l.length)).bind λι=>.pure (.tup l)|.ListComp e gs lsc _=>match iD lsc||!(oA lsc.names&&(DO lsc&&!gs.isEmpty))with|true=>.fail|false=>(qr sc vs lsc.names).bind λι=>(Jr cl k sc vs lsc e gs true (rh sc vs lsc.names) []).bind λl=>mk (.list l)
  |.Compare l ops cs _=>(eP cl k sc l vs).bind λa=>(yK cl k sc a ops cs vs).bind λt=>.pure (.bool t)|.Call f as kws p=>wW cl k sc f as kws p vs|.Attribute e x _=>match uU e with |true=>(eP cl k sc e vs).bind λv=>dI v x|false=>.fail
  |.Subscript e i _=>match i with
   |.Slice lo hi st _=>match st with |.none=>(eP cl k sc e vs).bind λv=>(BR cl k sc lo vs).bind λl=>(BR cl k sc hi vs).bind λh=>sD v l h|.some _=>.fail
   |_=>(eP cl k sc e vs).bind λv=>(eP cl k sc i vs).bind λw=>cJ v w
  |_=>.fail noncomputable def BR(cl:fW):Nat->dD->Option aI->cN->M (Option CV) |0,_,_,_=>.fail|k+1,sc,e,vs=>match e with |.none=>.pure none|.some e=>(eP cl k sc e vs).bind λv=>.pure (some v)noncomputable def sf(cl:fW):Nat->dD->List aI->cN->M (List CV)|0,_,_,_=>.fail|k+1,sc,es,vs=>match es with |[]=>.pure []|e::r=>(eP cl k sc e vs).bind λv=>(sf cl k sc r vs).bind λq=>.pure (v::q)noncomputable def Ap(cl:fW):Nat->dD->J5->List aI->cN->M CV|0,_,_,_,_=>.fail|k+1,sc,op,es,vs=>match es with|[]=>.fail|e::r=>match r with|[]=>eP cl k sc e vs|_::_=>(eP cl k sc e vs).bind λv=>(kM v).bind λt=>match op with |.And=>M.br t (Ap cl k sc op r vs) (.pure v)|.Or=>M.br t (.pure v) (Ap cl k sc op r vs)noncomputable def sL(cl:fW):Nat->dD->aI->cN->M Bool|0,_,_,_=>.fail|k+1,sc,e,vs=>match e with |.UnaryOp .Not x _=>(sL cl k sc x vs).bind λt=>.pure !t|.BoolOp op es _=>ui cl k sc op es vs|.IfExp t b o _=>(sL cl k sc t vs).bind λz=>M.br z (sL cl k sc b vs) (sL cl k sc o vs)|.Compare l ops cs _=>(eP cl k sc l vs).bind λa=>yK cl k sc a ops cs vs|e=>(eP cl k sc e vs).bind λv=>kM v noncomputable def ui(cl:fW):Nat->dD->J5->List aI->cN->M Bool|0,_,_,_,_=>.fail|k+1,sc,op,es,vs=>match es with |[]=>.pure (match op with|.And=>true|.Or=>false)|e::r=>(sL cl k sc e vs).bind λt=>match op with |.And=>M.br t (ui cl k sc op r vs) (.pure false)|.Or=>M.br t (.pure true) (ui cl k sc op r vs)noncomputable def yK(cl:fW):Nat->dD->CV->List ac1->List aI->cN->M Bool|0,_,_,_,_,_=>.fail|k+1,sc,a,ops,es,vs=>match ops,es with
  |op::ops,e::es=>(eP cl k sc e vs).bind λb=>(cY op a b).bind λt=>match ops,es with |[],[]=>.pure t|_::_,_::_=>M.br t (yK cl k sc b ops es vs) (.pure false)|_,_=>.fail
  |_,_=>.fail noncomputable def Ti(cl:fW):Nat->dD->List (Option aI)->List aI->cN->M CV|0,_,_,_,_=>.fail|k+1,sc,ks,es,vs=>match ks with |[]=>(match es with|[]=>mk (.idict [])|_::_=>.fail)|_::_=>two es λa b=>match HX ks with|none=>.fail|some q=>(match q with |.ints i j=>(eP cl k sc a vs).bind λv=>(eP cl k sc b vs).bind λw=>(gd (i≠j)).bind λι=>mk (.idict [(i,v),(j,w)])|.strs x y=>(eP cl k sc a vs).bind λv=>(eP cl k sc b vs).bind λw=>(gd (x≠y)).bind λι=>mk (.sdict [(x,v),(y,w)]))noncomputable def wW(cl:fW):Nat->dD->aI->List aI->List FL->Pos->cN->M CV|0,_,_,_,_,_,_=>.fail|k+1,sc,f,as,kws,p,vs=>match kws with
  |[]=>match f with
   |.Attribute o x ap=>match uU o&&(fQ ap.endLine p.line&&nh 29 as)with |true=>(eP cl k sc o vs).bind λv=>(dX v x).bind λm=>(sf cl k sc as vs).bind λl=>eQ cl m.1 (m.2++l)|false=>.fail
   |f=>match nh 29 as with |true=>(eP cl k sc f vs).bind λg=>(sf cl k sc as vs).bind λl=>eQ cl g l|false=>.fail
  |_=>.fail noncomputable def Aw(cl:fW):Nat->dD->aI->cN->M It|0,_,_,_=>.fail|k+1,sc,e,vs=>match enE e with |some p=>enS (qW p.1 "enumerate") (uB sc.names p.1) ((eP cl k sc p.2 vs).bind λv=>(gE v).bind tJ) ((eP cl k sc e vs).bind gE)|none=>(eP cl k sc e vs).bind gE noncomputable def Jr(cl:fW):Nat->dD->cN->dD->aI->List mL->Bool->cN->List CV->M (List CV) |0,_,_,_,_,_,_,_,_=>.fail|k+1,osc,ovs,lsc,e,gs,first,vs,acc=>match gs with |[]=>(eP cl k lsc e vs).bind λv=>(gd (bN acc.length)).bind λι=>.pure (acc++[v])|⟨t,it,ifs,asy⟩::r=>(gd (asy=0)).bind λι=>(match first with|true=>Aw cl k osc it ovs|false=>Aw cl k lsc it vs).bind λi=>(gd (uC t i=true/\GA lsc t vs=true)).bind λι=>mV (λv acc=>(bindM lsc t v vs).bind λvs'=>(ui cl k lsc .And ifs vs').bind λz=>M.br z (Jr cl k osc ovs lsc e r false vs' acc) (.pure acc)) i acc end
noncomputable def JF(cl:fW)(k:Nat)(sc:dD):aI->CV->cN->M cN
 |.Name x _,v,vs=>gK sc vs x v|.Tuple es _ _,v,vs=>(nM es.length v).bind λl=>lB sc es l vs|.Attribute o x _,v,vs=>(eP cl k sc o vs).bind λw=>(fR w x v).bind λι=>.pure vs|.Subscript o i _,v,vs=>match i with
  |.Slice lo hi st _=>match st with |.none=>(eP cl k sc o vs).bind λw=>(BR cl k sc lo vs).bind λl=>(BR cl k sc hi vs).bind λh=>(pY w l h v).bind λι=>.pure vs|.some _=>.fail
  |_=>(eP cl k sc o vs).bind λw=>(eP cl k sc i vs).bind λj=>(lJ w j v).bind λι=>.pure vs
 |_,_,_=>.fail
noncomputable def alive(cl:fW):M Unit:=λK ι S=>(∃f args K' E' S',cl f args K' E' S')/\K () S
noncomputable def lmK{β:Type}(e:aI)(f:kE->aI->dD->Option β):Option β:=match e with|.Lambda ps b lsc _=>f ps b lsc|_=>none
structure SrtD where
 g:aI
 a:aI
 key:Str
 ps:kE
 b:aI
 lsc:dD
noncomputable def YX(e:aI):Option SrtD:=clE e λg as ks=>Q7 g λι=>l1 as λa=>l1 ks λkw=>oE kw.arg λkey=>lmK kw.value λps b lsc=>some ⟨g,a,key,ps,b,lsc⟩
noncomputable def ah3(g:CV):Bool:=match g with|.bi n=>fQ n 5|_=>false
noncomputable def Om(g v:CV)(i:Nat):M CV:=match ah3 g with|true=>(mO v).bind λl=>vg i l|false=>.fail
noncomputable def Fw(cl:fW)(k:Nat)(sc:dD)(e:aI)(vs:cN):M CV:=match YX e with
 |some d=>match zg (qW d.key "key") (zg (iD sc) (ys d.ps d.b d.lsc))with |some i=>(alive cl).bind λι=>(eP cl k sc d.g vs).bind λg=>(eP cl k sc d.a vs).bind λv=>Om g v i|none=>.fail
 |none=>eP cl k sc e vs
noncomputable def ak8(k:dW):Bool:=match k with|.local=>true|_=>false
noncomputable def stV(o:Option CV):Option Nat:=oE o λv=>match v with|.st c=>some c|_=>none
noncomputable def loQ(o:Option (Nat×dW)):Option Nat:=oE o λp=>zg (ak8 p.2) (some p.1)
noncomputable def Wp(o:Option (Nat×dW)):Option Nat:=oE o λp=>zg (ap0 p.2) (some p.1)
noncomputable def ak3(a i j g:Option Nat):Option (Nat×Nat×Nat):=oE a λcc=>oE i λi=>oE j λj=>oE g λι=>some (cc,i,j)
noncomputable def Jk(q:Option (Nat×Nat×Nat))(z n:Str)(vs:cN)(K:fZ->CS->Prop)(ev:CV)(S':CS):Prop:=match q with |some q=>(match ev with |.ref a=>(match S' a with |some o=>(match o with |.exc c' _=>(match i_ c' fY with|some l=>l.1.contains q.1|none=>false)=true/\dU q.1 "__init__"=some 36/\z=n/\dunder n=false/\q.2.1≠q.2.2/\K (.next ((vs.set q.2.2 (some ev)).set q.2.1 none)) S'|_=>False)|none=>False)|_=>False)|none=>False
noncomputable def Gn(cl:fW)(k:Nat)(sc:dD)(x:Str)(e:aI)(c n y z:Str)(vs:cN):M fZ:=λK E S=>wb e=true/\eP cl k sc e vs (λv S'=>gK sc vs x v (λvs' S''=>K (.next vs') S'') E S') (λev S'=>Jk (ak3 (stV (dA c qf)) (loQ (uB sc.names n)) (loQ (uB sc.names y)) (Wp (uB sc.names c))) z n vs K ev S') S
mutual noncomputable def QU(cl:fW):Nat->dD->Stmt->cN->M fZ|0,_,_,_=>.fail|k+1,sc,s,vs=>match s with
  |.Pass _=>.pure (.next vs)|.Expr e _=>match wb e with |true=>(eP cl k sc e vs).bind λι=>.pure (.next vs)|false=>.fail
  |.Assign ts e _=>match ts with
   |[t]=>match yO [t] e with |true=>(Fw cl k sc e vs).bind λv=>(JF cl k sc t v vs).bind λvs'=>.pure (.next vs')|false=>.fail
   |_=>.fail
  |.Return e _=>match e with |.some e=>(eP cl k sc e vs).bind λv=>.pure (.ret v)|.none=>.pure (.ret .none)
  |.If t b o _=>(sL cl k sc t vs).bind λz=>M.br z (pN cl k sc b vs) (pN cl k sc o vs)|.While t b o _=>match o with |[]=>AN (λvs=>sL cl k sc t vs) (λvs=>pN cl k sc b vs) vs|_=>.fail
  |.For t it b o _=>match o with |[]=>(Aw cl k sc it vs).bind λi=>(gd (uC t i=true)).bind λι=>yd (λv vs=>(bindM sc t v vs).bind λvs'=>pN cl k sc b vs') i vs|_=>.fail
  |.Raise e c _=>match e,c with |.some e,.none=>(rC (eP cl k sc e vs)).bind λv=>M.raise v|_,_=>.fail
  |.Try b hs o f _=>match Q4 b hs o f with |some d=>Gn cl k sc d.x d.e d.c d.n d.y d.z vs|none=>.fail
  |_=>.fail noncomputable def pN(cl:fW):Nat->dD->List Stmt->cN->M fZ |0,_,_,_=>.fail|k+1,sc,ss,vs=>match ss with |[]=>.pure (.next vs)|s::r=>gF (QU cl k sc s vs) λvs'=>pN cl k sc r vs' end
noncomputable def Kz:List (Str×dW)->M cN |[]=>.pure []|(_,.cell)::r=>(M.new (.cell none)).bind λc=>(Kz r).bind λq=>.pure (some (.ref c)::q)|_::r=>(Kz r).bind λq=>.pure (none::q)
noncomputable def rq(sc:dD):List (Str×CV)->cN->M cN |[],vs=>.pure vs|(x,v)::r,vs=>(gK sc vs x v).bind λvs'=>rq sc r vs'
noncomputable def Ma(sc:dD)(binds:List (Str×CV)):M cN:=(Kz sc.names).bind λvs=>rq sc binds vs
noncomputable def zZ(p:kE)(dv args:List CV):Option (List (Str×CV)):=match p with|⟨po,as,va,ko,kd,kw,_⟩=>l0 po (n0 va (l0 ko (l0 kd (n0 kw (if args.length<=as.length/\as.length<=args.length+dv.length/\dv.length<=1/\dv.length<=as.length then some ((as.map (·.arg)).zip (args++dv.drop (args.length+dv.length-as.length)))else none)))))
noncomputable def Fj(cl:fW)(fd:FnD)(dv args:List CV):M CV:=match Fc fd.scope&&qp fd.scope fd.params with |false=>.fail|true=>M.less ((iG (zZ fd.params dv args)).bind λbs=>(Ma fd.scope bs).bind λvs=>(pN cl 300 fd.scope fd.body vs).bind λf=>match f with|.next _=>.pure .none|.ret v=>.pure v)
noncomputable def xj(cells:List (Str×Addr)):List (Str×dW)->cN |[]=>[]|(x,.free)::r=>(dA x cells).map CV.ref::xj cells r|_::r=>none::xj cells r
noncomputable def oD(cl:fW)(l:LamD)(cells:List (Str×Addr))(args:List CV):M CV:=match iD l.scope||!(Fc l.scope&&(qp l.scope l.params&&oA l.scope.names))with |true=>.fail|false=>M.less ((iG (zZ l.params [] args)).bind λbs=>(rq l.scope bs (xj cells l.scope.names)).bind λvs=>eP cl 300 l.scope l.body vs)
noncomputable def aM:Nat->fW|0,_,_=>.fail|n+1,f,args=>match f with
  |.st a=>match wx a with |some (fd,dv)=>Fj (aM n) fd dv args|none=>.fail
  |.ref a=>(M.get a).bind λo=>match o with |.clo l cells=>oD (aM n) l cells args|_=>.fail
  |_=>.fail
end Internal
open Internal.CS renaming put->oz
open Internal.CV renaming ref->dG,int->eD,tup->hY,bytes->lQ,none->qH,str->Ae
open Internal.M renaming new->iF,pure->jR,raise->nC,fail->pS,br->wV,set->Ec,get->JY
namespace Internal
open PySem PySem.W PyProof.Rows
structure Wd where
 w:jH
 h₁:Heap
 K:Frag
 tabs:List (Addr×Addr×Str)ns:List Int
 sa:Addr
 os:yQ
 svs:List aP
variable(W:Wd)
mutual noncomputable def V(h:Heap):CV->aP->Prop |.none,v=>v=.none|.bool b,v=>v=.bool b|.int i,v=>∃t,v=.int i t|.str x,v=>∃t,v=.str x t|.bytes b,v=>∃t,v=.bytes b.toArray t|.tup l,v=>∃t vs n,v=.ref t/\W.h₁.objs.size<=t/\h.get? t=some {cls:=.type "tuple",data:=.seq vs.toArray n}/\Vs h l vs|.rng n,v=>∃r t u w,v=.ref r/\W.h₁.objs.size<=r/\IsRange h r 0 n 1 t u w|.dvals a,v=>∃r,v=.ref r/\W.h₁.objs.size<=r/\h.IsValuesView r a|.ref a,v=>v=.ref a|.script ns,v=>v=.ref W.sa/\ns=W.ns|.st a,v=>v=.ref a|.ty n,v=>v=.type (tyName n)|.bi n,v=>v=.builtin (biName n)noncomputable def Vs(h:Heap):List CV->List aP->Prop|[],[]=>True|a::l,v::r=>V h a v/\Vs h l r|_,_=>False end
noncomputable def Vo(h:Heap):Option CV->Option aP->Prop|none,none=>True|some a,some v=>V W h a v|_,_=>False
noncomputable def KV{κ:Type}(h:Heap):List (κ×CV)->List (κ×aP)->Prop |[],[]=>True|a::l,v::r=>(a.1=v.1/\V W h a.2 v.2)/\KV h l r|_,_=>False
noncomputable def q8(vs:List aP)(n:Nat):Obj:={cls:=.type "list",data:=.seq vs.toArray n}
noncomputable def aq3(h:Heap)(a:Addr)(c:Nat)(d:Option Addr):Prop:=((∃k,i_ c fY=some k)/\dU c "__init__"=some 36)/\∃o vs,h.get? a=some o/\o.cls=.ref c/\o.dict=d/\o.data=.fields vs/\6<=vs.size/\(vs[1]?=some .none\/∃T oT ts,vs[1]?=some (.ref T)/\T≠a/\W.h₁.objs.size<=T/\h.get? T=some oT/\oT.cls=.type "traceback"/\oT.data=.fields ts/\ts[3]?=some .none)
noncomputable def tI(h:Heap)(v:aP)(q:Str):Prop:=∃c o vs t,v=.ref c/\W.h₁.objs.size<=c/\h.get? c=some o/\o.cls=.type "code"/\o.data=.fields vs/\vs[1]?=some (.str q t)
noncomputable def wo(h:Heap)(a:Addr):CO->Prop |.list l=>∃vs n,h.get? a=some (q8 vs n)/\Vs W h l vs|.sdict es=>∃kvs,h.DictOf (strKind prog W.w) a kvs/\KV W h es kvs|.idict es=>∃kvs,h.DictAt (mW prog W.w) a kvs es.length/\KV W h es kvs|.inst c d=>h.get? a=some (sP c d)/\d≠a/\(∃k,i_ c fY=some k)/\dU c "__init__"≠some 36|.flds es=>(∃o,h.get? a=some o/\o.cls=.type "dict")/\∃m,h.Ns1 a m/\∀x,Vo W h (dA x es) (m x)|.barr b=>h.get? a=some {cls:=.type "bytearray",data:=.bytearray b.toArray 0}|.cell v=>∃v',h.get? a=some {cls:=.type "cell",data:=.cell v'}/\Vo W h v v'|.clo l cells=>∃fd o,h.get? a=some o/\o.cls=.type "function"/\o.data=.func fd/\fd.params=l.params/\fd.body=.expr l.body/\fd.scope=l.scope/\fd.globals=fC/\fd.builtins=jN/\fd.defaults=.none/\fd.kwdefaults=.none/\tI W h fd.code fd.qualname/\∀x c,dA x cells=some c->fd.closure.lookup x=some c|.exc c d=>aq3 W h a c d|.iset n=>∃S,h.SetOf (mW prog W.w) a S n
structure uz(h:Heap):Prop where
 keep:∀b o,W.h₁.get? b=some o->(∀t∈W.tabs,b≠t.2.1)->h.get? b=some o
 tabs:∀t∈W.tabs,∃ps,h.TableAt t.1 t.2.1 ps/\h.IsCode t.1 t.2.1 ps/\∀pos v,vC pos ps.toList=some v->tI W h v t.2.2
 size:W.h₁.objs.size<=h.objs.size
structure jE(S:CS)(s:aO):Prop where
 stat:uz W s.heap
 rep:∀a o,S a=some o->W.h₁.objs.size<=a/\wo W s.heap a o
 gens:s.gens=#[]os:s.os=W.os
noncomputable def B0(o:Obj)(r:Option Obj):Prop:=r=some o\/(o.cls=.type "frame"/\∃sl,r=some {o with slots:=sl})
noncomputable def J2(o o':Obj):Prop:=o'.cls=o.cls/\((∀vs,o.data≠.fields vs)->∀vs,o'.data≠.fields vs)
theorem J2.refl(o:Obj):J2 o o:=⟨rfl,λh=>h⟩
theorem J2.trans{o T I:Obj}(x:J2 o T)(y:J2 T I):J2 o I:=⟨y.1.trans x.1,λh=>y.2 (x.2 h)⟩
structure eH(P:Option Addr)(S:CS)(s:aO)(S':CS)(s':aO):Prop where
 rel:jE W S' s'
 keep:∀b o,W.h₁.objs.size<=b->s.heap.get? b=some o->S b=none->P≠some b->B0 o (s'.heap.get? b)dom:∀b o,s.heap.get? b=some o->S b=none->S' b=none
 there:∀b o,s.heap.get? b=some o->∃o',s'.heap.get? b=some o'/\(S b=none->J2 o o')
variable{W}
theorem B0.trans{o:Obj}{r g:Option Obj}(x:B0 o r)(y:∀T,r=some T->B0 T g):B0 o g:=by
 rcases x with x|⟨e,sl,x⟩;·exact y _ x
 · rcases y _ x with y|⟨_,u,y⟩;·exact .inr ⟨e,sl,y⟩
   ·exact .inr ⟨e,u,y⟩
theorem B0.eq{o:Obj}{r:Option Obj}(x:B0 o r)(h:o.cls≠.type "frame"):r=some o:=by
 refine eC λd=>?_;rcases x with x|⟨e,_⟩;refine d ?_;·exact x
 ·exact absurd e h
noncomputable def uk(o:Obj):Prop:=(o.cls=.type "tuple"\/o.cls=.type "range"\/o.cls=.type "dict_values"\/o.cls=.type "code"\/o.cls=.type "traceback")/\∀es ep,o.data≠.dict es ep
noncomputable def qn(W:Wd)(h h':Heap):Prop:=∀b o,W.h₁.objs.size<=b->h.get? b=some o->uk o->h'.get? b=some o
theorem KY{h h':Heap}(k:qn W h h'):(∀(a:CV)(v:aP),V W h a v->V W h' a v)/\(∀(l:List CV)(vs:List aP),Vs W h l vs->Vs W h' l vs):=by
 suffices H:∀n,(∀(a:CV),sizeOf a<n->∀(v:aP),V W h a v->V W h' a v)/\(∀(l:List CV),sizeOf l<n->∀(vs:List aP),Vs W h l vs->Vs W h' l vs)from⟨λa=>(H (sizeOf a+1)).1 a (uu _),λl=>(H (sizeOf l+1)).2 l (uu _)⟩;intro n;induction n with |zero=>exact⟨λb h=>absurd h (i4 _),λb h=>absurd h (i4 _)⟩|succ n j=>
   refine⟨λa ha v f=>?_,λl hl vs f=>?_⟩
   · rcases a<;>first|exact f|skip
     · skip;refine qx f λt vs n e h1 hg hs=>?_;clear f;exact⟨t,vs,n,e,h1,k _ _ h1 hg ⟨.inl rfl,nofun⟩,j.2 l (by simp at ha;exact(kJ (aZ (bA (zk _ 1)) ha))) vs hs⟩
     · refine AF f λr t u v e h1 hr=>?_;clear f;exact⟨r,t,u,v,e,h1,k _ _ h1 hr ⟨.inr (.inl rfl),nofun⟩⟩
     · refine Mj f λr e h1 o ho g q=>?_;clear f;exact⟨r,e,h1,o,k _ _ h1 ho ⟨.inr (.inr (.inl g)),λes ep e=>by cases(q.symm.trans e)⟩,g,q⟩
   · rcases l with _|⟨a,l⟩;·rcases vs<;>exact f
     · rcases vs with _|⟨v,vs⟩;·exact f
       ·exact⟨j.1 a (by simp at hl;exact aN7 hl) v f.1,j.2 l (aE0 hl) vs f.2⟩
theorem V.keep{h h':Heap}{a:CV}{v:aP}(x:V W h a v)(k:qn W h h'):V W h' a v:=(KY k).1 a v x
theorem Vs.keep{h h':Heap}{a:List CV}{v:List aP}(x:Vs W h a v)(k:qn W h h'):Vs W h' a v:=(KY k).2 a v x
theorem Vo.keep{h h':Heap}{a:Option CV}{v:Option aP}(x:Vo W h a v)(k:qn W h h'):Vo W h' a v:=by rcases a with _|_<;>rcases v with _|_<;>first|exact x|exact V.keep x k
theorem KV.keep{X:Type}{h h':Heap}{a:List (X×CV)}{v:List (X×aP)}(x:KV W h a v)(k:qn W h h'):KV W h' a v:=by induction a generalizing v with |nil=>rcases v<;>exact x|cons a l j=>
  rcases v with _|⟨v,r⟩;·exact x
  ·exact⟨⟨x.1.1,V.keep x.1.2 k⟩,j x.2⟩
theorem tI.keep{h h':Heap}{v:aP}{q:Str}(x:tI W h v q)(k:qn W h h'):tI W h' v q:=by
 refine Bh x λc o vs t e l g f r=>?_;clear x;exact⟨c,o,vs,t,e,l,k _ _ l g ⟨.inr (.inr (.inr (.inl f))),λes ep e=>by cases(r.1.symm.trans e)⟩,f,r⟩
theorem tI.rec_{h:Heap}{v:aP}{q:Str}(x:tI W h v q):h.CodeRec v q:=by
 refine vj x λc o vs t e a g a d r=>?_;clear x;exact⟨c,o,vs,t,e,g,d,r⟩
theorem wo.keep{h h':Heap}{a:Addr}{o:CO}(r:wo W h a o)(k:qn W h h')(D:∀ob,h.get? a=some ob->h'.get? a=some ob):wo W h' a o:=by
 cases o;·refine eJ r λvs n hg f=>?_;clear r;exact⟨vs,n,D _ hg,f.keep k⟩
 ·refine aY r λkvs I f=>?_;clear r;obtain⟨o,es,ep,ho,r⟩:=I;exact⟨kvs,⟨o,es,ep,D _ ho,r⟩,f.keep k⟩
 ·refine aY r λkvs C f=>?_;clear r;obtain⟨o,es,ho,r⟩:=C;exact⟨kvs,⟨o,es,D _ ho,r⟩,f.keep k⟩
 ·exact⟨D _ r.1,r.2⟩
 ·refine ug r λE m hn f=>?_;clear r;obtain⟨o,ho,g⟩:=E;exact⟨⟨o,D _ ho,g⟩,m,hn.at D,λx=>(f x).keep k⟩
 ·exact D _ r
 ·refine aY r λJ hg f=>?_;clear r;exact⟨J,D _ hg,f.keep k⟩
 · refine ul r λfd o ho g hd a1 a2 a3 a4 a5 a6 a7 a8 a9=>?_;clear r;exact⟨fd,o,D _ ho,g,hd,a1,a2,a3,a4,a5,a6,a7,a8.keep k,a9⟩
 · refine jT r λhk o vs ho g hd F hz ht=>?_;clear r;refine⟨hk,o,vs,D _ ho,g,hd,F,hz,?_⟩;rcases ht with ht|⟨T,u,y,h1,s,h2,p,X,r⟩;·exact .inl ht
   ·exact .inr ⟨T,u,y,h1,s,h2,k _ _ h2 p ⟨.inr (.inr (.inr (.inr X))),λes ep e=>by cases(r.1.symm.trans e)⟩,X,r⟩
 ·refine Ah r λS o es ep t ho hs=>?_;clear r;exact⟨S,o,es,ep,t,D _ ho,hs⟩
noncomputable def aD2(c:aP):Bool:=decide (c=.type "tuple")||(decide (c=.type "range")||(decide (c=.type "dict_values")||(decide (c=.type "code")||(decide (c=.type "traceback")||decide (c=.type "frame")))))
theorem nI{h:Heap}{a:Addr}{o ob:Obj}{c:aP}(e:h.get? a=some ob)(ho:h.get? a=some o)(f:o.cls=c)(q:aD2 c=false):¬uk ob/\ob.cls≠.type "frame":=by
 obtain rfl:=aE (ho.symm.trans e);subst f;have k:∀{P:Prop}{p:Decidable P}{b:Bool},(@decide P p||b)=false->¬P/\b=false:=λ{P p b}h=>⟨of_decide_eq_false (lU.mp h).1,(lU.mp h).2⟩;have O:=k q;have y:=k O.2;have B:=k y.2;have S:=k B.2;have r:=k S.2;exact⟨λz=>z.1.elim O.1 λz=>z.elim y.1 λz=>z.elim B.1 λz=>z.elim S.1 r.1,of_decide_eq_false r.2⟩
theorem wo.notImm{h:Heap}{a:Addr}{o:CO}{ob:Obj}(r:wo W h a o)(e:h.get? a=some ob):¬uk ob/\ob.cls≠.type "frame":=by
 rcases o;·refine eJ r λvs n hg b=>?_;clear r;exact nI e hg rfl rfl
 ·refine aY r λb L b=>?_;clear r;obtain⟨o,_,_,ho,f,_⟩:=L;exact nI e ho f.1 rfl
 ·refine aY r λb R b=>?_;clear r;obtain⟨o,_,ho,f,_⟩:=R;exact nI e ho f.1 rfl
 ·exact nI e r.1 rfl rfl
 ·refine bX r λE b=>?_;clear r;obtain⟨o,ho,f⟩:=E;exact nI e ho f rfl
 ·exact nI e r rfl rfl
 ·refine aY r λJ hg b=>?_;clear r;exact nI e hg rfl rfl
 ·refine dZ r λfd o ho f b=>?_;clear r;exact nI e ho f rfl
 ·refine T2 r λb o vs ho f b=>?_;clear r;exact nI e ho f rfl
 ·refine Co r λS o es ep t ho hs b=>?_;clear r;exact nI e ho hs.1 rfl
theorem jE.imm{S:CS}{s:aO}(R:jE W S s){b:Addr}{o:Obj}(e:s.heap.get? b=some o)(i:uk o):S b=none:=by
 rcases q:S b with _|x;·rfl
 ·exact absurd i ((R.rep b x q).2.notImm e).1
theorem jE.there{S:CS}{s:aO}(R:jE W S s){b:Addr}{o:CO}(e:S b=some o):∃ob,s.heap.get? b=some ob:=by
 have r:=(R.rep b o e).2;clear R e;cases o;·refine eJ r λvs n hg a=>?_;clear r;exact⟨_,hg⟩
 ·refine aY r λa k a=>?_;clear r;obtain⟨o,_,_,ho,_⟩:=k;exact⟨_,ho⟩
 ·refine aY r λa j a=>?_;clear r;obtain⟨o,_,ho,_⟩:=j;exact⟨_,ho⟩
 ·exact⟨_,r.1⟩
 ·refine bX r λi a=>?_;clear r;obtain⟨o,ho,f⟩:=i;exact⟨_,ho⟩
 ·exact⟨_,r⟩
 ·refine aY r λJ hg a=>?_;clear r;exact⟨_,hg⟩
 ·refine eJ r λfd o ho a=>?_;clear r;exact⟨_,ho⟩
 ·refine CZ r λa o vs ho a=>?_;clear r;exact⟨_,ho⟩
 ·refine Ah r λS o es ep t ho hs=>?_;clear r;exact⟨_,ho⟩
theorem jE.fresh{S:CS}{s:aO}(R:jE W S s){b:Addr}(h:s.heap.objs.size<=b):S b=none:=by
 rcases q:S b with _|x;·rfl
 ·exact iK (R.there q) λob e=>absurd (dT e) (kZ.mpr h)
theorem eH.immK{P:Option Addr}{S c:CS}{s s':aO}(R:jE W S s)(X:eH W P S s c s')(T:∀b o,P=some b->s.heap.get? b=some o->¬uk o):qn W s.heap s'.heap:=by
 intro b o l e i;refine(X.keep b o l e (R.imm e i) (λq=>T b o q e i)).eq ?_;rcases i.1 with i|i|i|i|i<;>rw[i]<;>simp
theorem eH.refl{P:Option Addr}{S:CS}{s:aO}(R:jE W S s):eH W P S s S s:=⟨R,λa a a e a a=>.inl e,λa a a h=>h,λa o e=>⟨o,e,λa=>.refl o⟩⟩
theorem eH.trans{P:Option Addr}{S₁ f g:CS}{s₁ v i:aO}(X:eH W P S₁ s₁ f v)(Y:eH W P f v g i):eH W P S₁ s₁ g i:=by
 refine⟨Y.rel,λb o l e F S=>?_,λb o e c=>by refine aY (X.there b o e) λT A a=>?_;exact Y.dom b T A (X.dom b o e c),λb o e=>let⟨T,A,k⟩:=X.there b o e;by refine aY (Y.there b T A) λI E G=>?_;exact⟨I,E,λh=>(k h).trans (G (X.dom b o e h))⟩⟩;exact(X.keep b o l e F S).trans λT A=>Y.keep b T l A (X.dom b o e F) S
theorem eH.weak{P:Option Addr}{S c:CS}{s s':aO}(X:eH W none S s c s'):eH W P S s c s':=⟨X.rel,λb o l e F a=>X.keep b o l e F (by simp),X.dom,X.there⟩
theorem eH.strong{b:Addr}{S d:CS}{s s':aO}(X:eH W (some b) S s d s')(h:s.heap.get? b=none):eH W none S s d s':=⟨X.rel,λc o l e F a=>X.keep c o l e F (λq=>by obtain rfl:=aE q;exact iH (h.symm.trans e)),X.dom,X.there⟩
theorem uz.step{h h':Heap}(T:uz W h)(k:∀b o,h.get? b=some o->b<W.h₁.objs.size->h'.get? b=some o)(s:qn W h h')(l:(∀t∈W.tabs,t.1<W.h₁.objs.size/\t.2.1<W.h₁.objs.size)/\∃o,W.h₁.get? (W.h₁.objs.size-1)=some o/\∀t∈W.tabs,W.h₁.objs.size-1≠t.2.1):uz W h':=by
 revert l;refineλg=>ug g λl A D Y=>?_;refine⟨λb o e f=>k b o (T.keep b o e f) (dT e),λt ht=>?_,by exact(Nat.le_of_pred_lt (dT (k _ _ (T.keep _ _ D Y) (dT D))))⟩;refine gA (T.tabs t ht) λps a b c=>bX (l t ht) λl1 l2=>⟨ps,?_,?_,λpos v e=>(c pos v e).keep s⟩
 · refine eC λd=>bX a λN y=>?_;clear a;obtain⟨o,vs,x,r⟩:=N;exact d (⟨⟨o,vs,k _ _ x l1,r⟩,k _ _ y l2⟩)
 · refine eC λd=>?_;obtain⟨o,vs,file,G,F,B,J,text,C,op,a,E,I,z,U,w,X,b,r⟩:=b;exact d ⟨o,vs,file,G,F,B,J,text,C,op,k _ _ a l1,E,I,z,U,w,X,k _ _ b l2,r⟩
noncomputable def V_:aP->Option Addr|.ref a=>some a|_=>none
noncomputable def Cu:List aP->Bool |[]=>false|v::r=>decide (v::r=[.type "Exception",.type "BaseException",.type "object"])||((V_ v).isSome&&Cu r)
noncomputable def Ic(K:Frag)(c:Nat):Bool:=match FV K c with|some cd=>Cu cd.mro|none=>false
structure dM(W:Wd):Prop where
 tabsOld:(∀t∈W.tabs,t.1<W.h₁.objs.size/\t.2.1<W.h₁.objs.size)/\∃o,W.h₁.get? (W.h₁.objs.size-1)=some o/\∀t∈W.tabs,W.h₁.objs.size-1≠t.2.1
 kIn:∀h,uz W h->W.K.In h
 noLimit:∀h,uz W h->h.NoLimit
 base:fC<W.h₁.objs.size/\jN<W.h₁.objs.size
 sysM:FW<W.h₁.objs.size
 script:∀h,uz W h->h.IsList W.sa W.svs.toArray/\mX W.svs W.ns/\W.ns.length<=63
 clsE:∀c d,i_ c fY=some d->dU c "__init__"=some 36->(∃cd,FV W.K c=some cd/\cd.hasDict=true)/\oo W.K (.ref c) "__getattribute__"=some (some (.builtin "BaseException.__getattribute__"))/\oo W.K (.ref c) "__getattr__"=some none/\ML W.K (.ref c) (.type "BaseException")=some true/\ML W.K (.ref c) (.type "Exception")=some true/\oo W.K (.ref c) "__setattr__"=some (some (.builtin "object.__setattr__"))/\Ic W.K c=true
 cls:∀c d,i_ c fY=some d->dU c "__init__"≠some 36->∃cd,FV W.K c=some cd/\cd.hasDict=true/\oo W.K (.ref c) "__getattribute__"=some (some (.builtin "object.__getattribute__"))/\oo W.K (.ref c) "__getattr__"=some none/\oo W.K (.ref c) "__setattr__"=some (some (.builtin "object.__setattr__"))/\plainOver W.K c=true
 attr:∀c d x i,i_ c fY=some d->dA x o_=some i->dU c x=none->oo W.K (.ref c) x=some none
 glob:∀h,uz W h->∃mg mb,h.Ns fC mg/\h.Ns jN mb/\(∀x v,dA x qf=some v->∃u,mg x=some u/\V W h v u)/\∀x v,dA x qf=none->dA x th=some v->mg x=none/\∃u,mb x=some u/\V W h v u
theorem eO{S:CS}{s s':aO}(O:dM W)(R:jE W S s)(k:∀b o,s.heap.get? b=some o->s'.heap.get? b=some o)(hg:s'.gens=s.gens)(ho:s'.os=s.os):eH W none S s S s':=have r:qn W s.heap s'.heap:=λb o c e c=>k b o e
 ⟨⟨R.stat.step (λb o e c=>k b o e) r O.tabsOld,λa o e=>⟨(R.rep a o e).1,(R.rep a o e).2.keep r (k a)⟩,hg.trans R.gens,ho.trans R.os⟩,λb o c e c c=>.inl (k b o e),λc c c h=>h,λb o e=>⟨o,k b o e,λc=>.refl o⟩⟩
theorem jE.put{S:CS}{s:aO}(R:jE W S s){a:Addr}{o:CO}(l:W.h₁.objs.size<=a)(r:wo W s.heap a o):jE W (S.put a o) s:=⟨R.stat,λb x e=>by
  unfold oz at e;split at e;·rename_i q;subst q;obtain rfl:=aE e;exact⟨l,r⟩
  ·exact R.rep b x e,R.gens,R.os⟩
theorem eH.put{P:Option Addr}{S c:CS}{s s':aO}(X:eH W P S s c s'){a:Addr}{o:CO}(l:W.h₁.objs.size<=a)(h:s.heap.get? a=none)(r:wo W s'.heap a o):eH W P S s (c.put a o) s':=⟨X.rel.put l r,X.keep,λb ob e d=>by
  unfold oz;refine aC (if_neg (by rintro rfl;rw[h]at e;exact iH e)) ?_;exact X.dom b ob e d,X.there⟩
theorem eH.new{S:CS}{s s':aO}(O:dM W)(R:jE W S s)(k:∀b o,s.heap.get? b=some o->s'.heap.get? b=some o)(hg:s'.gens=s.gens)(ho:s'.os=s.os){a:Addr}{o:CO}(l:W.h₁.objs.size<=a)(h:s.heap.get? a=none)(r:wo W s'.heap a o):eH W none S s (S.put a o) s':=(eO O R k hg ho).put l h r
theorem vt{S:CS}{s s':aO}(O:dM W)(R:jE W S s){a:Addr}{o₀ o:CO}(e:S a=some o₀)(k:∀b o,b≠a->s.heap.get? b=some o->s'.heap.get? b=some o)(hg:s'.gens=s.gens)(ho:s'.os=s.os)(r:wo W s'.heap a o):eH W none S s (S.put a o) s':=by
 refine bX (R.rep a o₀ e) λl r₀=>?_;have kI:qn W s.heap s'.heap:=λb ob ι eb i=>k b ob (λq=>(r₀.notImm (q▸eb)).1 i) eb;have R':jE W (S.put a o) s':=by
   refine⟨R.stat.step (λb ob eb lb=>k b ob (eX (aV lb l)) eb) kI O.tabsOld,λb x eb=>?_,hg.trans R.gens,ho.trans R.os⟩;unfold oz at eb;split at eb;·rename_i q;subst q;obtain rfl:=aE eb;exact⟨l,r⟩
   ·rename_i q;exact⟨(R.rep b x eb).1,(R.rep b x eb).2.keep kI λob=>k b ob q⟩
 refine⟨R',λb ob ι eb hS ι=>.inl (k b ob (λq=>by exact absurd (e▸q▸hS) nofun) eb),λb ι ι hb=>?_,λb ob eb=>?_⟩
 · unfold oz;rw[if_neg (by rintro rfl;rw[e]at hb;contradiction)];exact hb
 · by_cases q:b=a
   · clear O R hg ho r l r₀ kI;subst q;refine iK (R'.there (b:=b) (o:=o) (by unfold oz;simp)) λo' e'=>?_;exact⟨o',e',λh=>by exact iH (h.symm.trans e)⟩
   ·exact⟨ob,k b ob q eb,λι=>.refl ob⟩
theorem eH.less{P:Option Addr}{S c p:CS}{s s':aO}(X:eH W P S s c s')(l:p.le c):eH W P S s p s':=⟨⟨X.rel.stat,λa o e=>X.rel.rep a o (l a o e),X.rel.gens,X.rel.os⟩,X.keep,λb ob e d=>by
  rcases q:p b with _|o;·rfl
  ·exact iZ (X.dom b ob e d) (aC (l b o q) rfl),X.there⟩
theorem jE.none_{S:CS}{s:aO}(R:jE W S s){a:Addr}(h:s.heap.get? a=none):S a=none:=by
 rcases q:S a with _|x;·rfl
 ·refine iK (R.there q) λob e=>?_;exact iH (h.symm.trans e)
end Internal
namespace Internal
open PySem PySem.W PyProof.Rows
variable{W:Wd}
theorem aS4{G:Prop}(h:∀P:Prop,(G->P)->P):G:=h G id
section
variable{α β:Type}{b c:β}
theorem MG(h:l1 l f=some b):∃x,l=[x]/\f x=some b:=by rcases l with _|⟨x,_|⟨_,_⟩⟩<;>first|exact iH h|exact⟨x,rfl,h⟩
theorem l2_(h:l2 l f=some b):∃x y,l=[x,y]/\f x y=some b:=by
 rcases l with _|⟨x,r⟩;·exact iH h
 ·refine aY (MG (show l1 r (f x)=some b from h)) λy Q h=>?_;obtain rfl:=Q;exact⟨x,y,rfl,h⟩
theorem MH(h:l0 l f=some b):l=[]/\f=some b:=by rcases l with _|⟨_,_⟩<;>first|exact iH h|exact⟨rfl,h⟩
theorem n0_(h:n0 l f=some b):l=none/\f=some b:=by rcases l with _|_<;>first|exact iH h|exact⟨rfl,h⟩
theorem IZ(h:oE l f=some b):∃x,l=some x/\f x=some b:=by rcases l with _|x<;>first|exact iH h|exact⟨x,rfl,h⟩
theorem AO(h:zg t f=some b):t=true/\f=some b:=by rcases t<;>first|exact iH h|exact⟨rfl,h⟩
theorem Zu{P:aI->Prop}{f:Str->Option β}(h:Q7 e f=some b)(k:∀x p,f x=some b->P (.Name x p)):P e:=by rcases e<;>first|exact iH h|exact k _ _ h
theorem ai8{P:aI->Prop}{f:aI->List aI->List FL->Option β}(h:clE e f=some b)(k:∀g as U p,f g as U=some b->P (.Call g as U p)):P e:=by rcases e<;>first|exact iH h|exact k _ _ _ _ h
theorem aJ7{P:aI->Prop}{f:kE->aI->dD->Option β}(h:lmK e f=some b)(k:∀ps x sc p,f ps x sc=some b->P (.Lambda ps x sc p)):P e:=by rcases e<;>first|exact iH h|exact k _ _ _ _ h
theorem cE'{P:aI->Prop}{f:ac0->Option β}(h:cE e f=some b)(k:∀c x p,f c=some b->P (.Constant c x p)):P e:=by rcases e<;>first|exact iH h|exact k _ _ _ h
theorem at3{P:aI->Prop}{f:aI->aI->Option β}(h:Yb e f=some b)(k:∀o i p,f o i=some b->P (.Subscript o i p)):P e:=by rcases e<;>first|exact iH h|exact k _ _ _ h
theorem iC'{P:ac0->Prop}{f:Int->Option β}(h:iC e f=some b)(k:∀c,f c=some b->P (.int c)):P e:=by rcases e<;>first|exact iH h|exact k _ h
theorem ap7{P:Stmt->Prop}{f:List aI->aI->Option β}(h:SA e f=some b)(k:∀x v p,f x v=some b->P (.Assign x v p)):P e:=by rcases e<;>first|exact iH h|exact k _ _ _ h
theorem KN(h:Q7 e f=some b):∃x p,e=.Name x p/\f x=some b:=Zu (P:=λe=>∃x p,e=.Name x p/\f x=some b) h λa a q=>⟨_,_,rfl,q⟩
theorem cE_(h:cE e f=some b):∃c x p,e=.Constant c x p/\f c=some b:=cE' (P:=λe=>∃c x p,e=.Constant c x p/\f c=some b) h λa a a q=>⟨_,_,_,rfl,q⟩
theorem aq2{f:aI->aI->Option β}(h:Yb e f=some b):∃o i p,e=.Subscript o i p/\f o i=some b:=at3 (P:=λe=>∃o i p,e=.Subscript o i p/\f o i=some b) h λa a a q=>⟨_,_,_,rfl,q⟩
theorem iC_{f:Int->Option β}(h:iC e f=some b):∃c,e=.int c/\f c=some b:=iC' (P:=λe=>∃c,e=.int c/\f c=some b) h λa q=>⟨_,rfl,q⟩
theorem UZ{f:List aI->aI->Option β}(h:SA e f=some b):∃x v p,e=.Assign x v p/\f x v=some b:=ap7 (P:=λe=>∃x v p,e=.Assign x v p/\f x v=some b) h λa a a q=>⟨_,_,_,rfl,q⟩
end
theorem M7:∀{a b:List Nat},eqL a b=true↔a=b:=by intro a;induction a with |nil=>intro b;rcases b with _|_;exact⟨λ_=>rfl,λ_=>rfl⟩;exact⟨nofun,nofun⟩|cons x r j=>
   intro b;rcases b with _|⟨y,q⟩;·exact⟨nofun,nofun⟩
   · show(fQ x y&&eqL r q)=true↔_;exact aC (bP _ _) (qP j (aC (List.cons.injEq _ _ _ _) (and_congr_left λ_=>⟨cM,λe=>e▸ae4 x⟩)))
theorem jW:qW x y=true↔x=y:=by
 unfold qW;refine qP M7 ?_;constructor
 · intro h;obtain⟨⟨a⟩⟩:=x;obtain⟨⟨b⟩⟩:=y;simp only at h;exact aC h rfl
 ·rintro rfl;rfl
theorem oX(x:Str):qW x x=true:=jW.mpr rfl
theorem tK(h:x≠y):qW x y=false:=by
 rcases q:qW x y with _|_;·rfl
 ·exact absurd (jW.mp q) h
theorem Ku(h:Cn x n l=some (i,k)):n<=i/\l[i-n]?=some (x,k):=by induction l generalizing n with |nil=>exact iH h|cons a r j=>
   obtain⟨y,Y⟩:=a;dsimp only[Cn]at h;rcases q:qW x y with _|_
   · rw[q]at h;refine bX (j h) λh1 h2=>⟨o49 h1,?_⟩;have:i-n=(i-(n+1))+1:=((mM (tw h1)).symm);refine aC this ?_;exact h2
   · rw[q]at h;simp only[dK,p_]at h;clear j;refine bX h λL o=>?_;clear h;obtain rfl:=o;refine iZ L ⟨bM _,?_⟩;refine aC (jW.mp q) ?_;simp
theorem mP(h:uB l x=some (i,k)):l[i]?=some (x,k):=by have:=(Ku h).2;exact this
theorem zR(h:uB l x=some (i,k))(h':uB l y=some (i,k')):x=y:=by have a:=mP h;rw[mP h']at a;simp only[dK,p_]at a;exact a.1.symm
theorem CX(h:Cn x n l=some (i,k)):l.lookup x=some k:=by induction l generalizing n with|nil=>exact iH h|cons a r j=>
   obtain⟨y,Y⟩:=a;dsimp only[Cn]at h;rcases q:qW x y with _|_
   · rw[q]at h;have s:(x==y)=false:=by refine qP beq_eq_false_iff_ne ?_;intro e;rw[e,oX]at q;exact gQ q
     simp only[mT,s];exact j h
   · rw[q]at h;simp only[dK,p_]at h;clear j;refine bX h λb t=>?_;clear h;obtain rfl:=t;refine aC (jW.mp q) ?_;simp[mT]
theorem idx_lookup(h:uB l x=some (i,k)):l.lookup x=some k:=CX h
theorem Hc(h:dunder x=false)(hy:dunder y=true):(x==y)=false:=by refine qP beq_eq_false_iff_ne ?_;intro e;exact nt_ (hy▸e▸h)
structure iV(W:Wd)(env:cD)(sc:dD)(vs:cN)(h:Heap):Prop where
 kind:env.scope.kind=.function
 glob:env.globals=fC
 blt:env.builtins=jN
 n1:W.h₁.objs.size<=env.locals
 ns:∃m,h.Ns1 env.locals m/\∀x i v,uB sc.names x=some (i,.local)->vs[i]?=some (some v)->∃u,m x=some u/\V W h v u
 cell:∀x i k c,uB sc.names x=some (i,k)->(k=.cell\/k=.free)->vs[i]?=some (some (.ref c))->env.cells.lookup x=some c
 kinds:∀x i k,uB sc.names x=some (i,k)->env.kindOf x=some k\/(k=.free/\env.kindOf x=some .cell)lam:iD sc=true->∃c P,env.code=.ref c/\(c,P,env.qual++"<lambda>")∈W.tabs
theorem IB{h h':Heap}{a:Addr}{m}(n:h.Ns1 a m)(k:∀o,h.get? a=some o->B0 o (h'.get? a)):h'.Ns1 a m:=by
 refine qi n λo es ep ho hd r=>?_;clear n;rcases k o ho with e|⟨_,sl,e⟩;·exact⟨o,es,ep,e,hd,r⟩
 ·exact⟨_,es,ep,e,hd,r⟩
theorem iV.keep{env:cD}{sc:dD}{vs:cN}{h h':Heap}(x:iV W env sc vs h)(r:qn W h h')(k:∀o,h.get? env.locals=some o->B0 o (h'.get? env.locals)):iV W env sc vs h':=⟨x.kind,x.glob,x.blt,x.n1,let⟨m,a,b⟩:=x.ns;⟨m,IB a k,λy i v e f=>by refine aY (b y i v e f) λu p q=>?_;exact⟨u,p,q.keep r⟩⟩,x.cell,x.kinds,x.lam⟩
theorem iV.ext(x:iV W env sc vs s.heap)(R:jE W S s)(X:eH W P S s S' s')(F:S env.locals=none)(T:P≠some env.locals)(h:∀b o,P=some b->s.heap.get? b=some o->¬uk o):iV W env sc vs s'.heap:=x.keep (X.immK R h) λo e=>X.keep _ o x.n1 e F T
noncomputable def pe:Code->Bool|.builtin id _=>!(lD.contains id)|_=>true
noncomputable def Clear(Γ:PySem.Ctx):Prop:=pe Γ.code=true/\∀x∈Γ.below,pe x.1=true
noncomputable def iQ{α:Type}(M:nx)(A:bT)(t:Sem α)(Q:α->aO->Prop)(E:EP)(s:aO):Prop:=∀Γ p,Γ.In A->Clear Γ->Sem.wp M Γ t (λa ι s'=>Q a s') (λe ι s'=>E e s') p s
noncomputable def mU(M:nx)(A:bT)(c:Code)(R:oO->aO->Prop)(s:aO):Prop:=∀Γ p,Γ.code=c->Γ.Below A->Clear Γ->wpCode M Γ R p s
section
variable{α β:Type}{M:nx}{A:bT}{E:EP}{s:aO}
theorem zw(h:t=t')(g:iQ M A t' Q E s):iQ M A t Q E s:=h▸g
theorem oj(h:t=t')(g:wpAny M A t' Q E s):wpAny M A t Q E s:=h▸g
theorem cQ(h:wpAny M A t Q E s):iQ M A t Q E s:=λc p u _=>h c p u
theorem aW(h:Q a s):iQ M A (pure a) Q E s:=cQ (wpAny_pure h)
theorem cV(h:iQ M A t Q E s)(z:∀a s,Q a s->Q' a s)(R:∀e s,E e s->E' e s):iQ M A t Q' E' s:=λc p u F=>vR M c t (λa b s=>z a s) (λe b s=>R e s) p s (h c p u F)
theorem aL(h:iQ M A m (λa s'=>iQ M A (f a) Q E s') E s):iQ M A (m>>=f) Q E s:=λc p t F=>by exact aC (Sem.wp_bind' _ _ _ _ _ _ _ _) (vR M c m (λa X s' h'=>h' c X t F) (λb b b h'=>h') p s (h c p t F))
theorem jZ(h:iQ M A m Q (λe s'=>iQ M A (k e) (λa i=>E e i) E s') s):iQ M A (m.onRaise k) Q E s:=λc p t F=>by exact aC (Sem.wp_onRaise _ _ _ _ _ _ _ _) (vR M c m (λa a a h'=>h') (λe X s' h'=>h' c X t F) p s (h c p t F))
theorem si{m:Sem α}{Q:Except aP α->aO->Prop}(h:iQ M A m (λa=>Q (.ok a)) (λe=>Q (.error e)) s):iQ M A m.attempt Q E s:=λc p t F=>by refine aC (Sem.wp_attempt _ _ _ _ _ _ _) ?_;exact h c p t F
theorem bI(h:iQ M A m Q E s):iQ M A (lV vs m) Q E s:=λc p t F=>by refine aC (Sem.wp_holding _ _ _ _ _ _ _ _) ?_;exact h c p t F
theorem E3(h:iQ M A m Q E s):iQ M A (J6 vs m) Q E s:=λc p t F=>by refine aC (Sem.wp_operate _ _ _ _ _ _ _ _) ?_;exact h c p t F
theorem fJ(h:Q () s):iQ M A (mY pos) Q E s:=cQ (rN h)
theorem GQ(h:iQ M A (f ()) Q E s):iQ M A (mY pos>>=f) Q E s:=aL (fJ h)
theorem SV(h:iQ M A (f a) Q E s):iQ M A (pure a>>=f) Q E s:=aL (aW h)
theorem abt(h:wpAny M A (f ()) Q E s):wpAny M A (mY pos>>=f) Q E s:=aA (rN h)
theorem abp(h:wpAny M A (f a) Q E s):wpAny M A (pure a>>=f) Q E s:=aA (wpAny_pure h)
theorem JZ(ho:s.heap.get? a=some o)(h:wpAny M A (f o) Q E s):wpAny M A (load a>>=f) Q E s:=aA (U2 ho h)
theorem aba(h:wpAny M A (f s.heap.objs.size) Q E {s with heap:=s.heap.push o}):wpAny M A (alloc o>>=f) Q E s:=aA (MM h)
theorem abm(h:wpAny M A (f (.int i s.toks)) Q E {s with toks:=s.toks+1}):wpAny M A (mkInt i>>=f) Q E s:=aA (DZ h)
theorem p8(e:t=t')(h:iQ M A t' Q E s):iQ M A t Q E s:=e▸h
theorem Clear.enter{d:PySem.Ctx}(h:Clear d)(e:pe c=true)(hd:Option aP)(p:Pos):Clear (d.enter c hd p):=⟨e,λx hx=>by
  rcases a_.mp hx with rfl|hx;·exact h.1
  ·exact h.2 x hx⟩
theorem Ir(g:mU M (A.mark h) c (λr s'=>match r with|.ok f=>Q f s'|.error e=>E e s') s)(hn:pe c=true)(v:h≠some byPass):iQ M A (run c h) Q E s:=λd p t F=>by refine aC (Sem.wp_run _ _ _ _ _ _ _ _) ?_;exact g _ p rfl (t.enter c h p v) (F.enter hn h p)
theorem Dj(f:mU M A c (λr s'=>match r with|.ok (.ret v)=>Q v s'|.ok _=>False|.error e=>E e s') s)(hn:pe c=true):iQ M A (runValue c) Q E s:=λd p t F=>by refine aC (Sem.wp_runValue _ _ _ _ _ _ _) ?_;exact f _ p rfl (t.enter c none p (by intro x;exact iH x)) (F.enter hn none p)
theorem oa(g:mU M A (.call f ⟨pos,kw⟩) (λr s'=>match r with|.ok (.ret v)=>Q v s'|.ok _=>False|.error e=>E e s') s):iQ M A (call f pos kw) Q E s:=Dj g rfl
theorem i9(h:mU M A c R s)(J:∀r s,R r s->R' r s):mU M A c R' s:=λd p e t F=>wpCode_mono J (h d p e t F)
noncomputable def qI(M:nx)(A:bT)(R:oO->aO->Prop):Fin->aO->Prop:=λfin s'=>match fin with|.done f=>R (.ok f) s'|.again c'=>c'.quiet=true/\pe c'=true/\mU M A c' R s'
theorem gV(h:iQ M (A.under c) (M.den c) (qI M A R) (λe s'=>R (.error e) s') s):mU M A c R s:=λd p g t F=>by
 refine qP (wpCode_iff_wp _ _ _ _ _) (aC g (vR M d _ (λfin X s' h'=>?_) (λa a a h'=>h') p s (h d p (g▸t.in) F)));cases fin with |done f=>exact h'|again w=>exact⟨h'.1,h'.2.2 (d.goto w) X rfl (t.goto w) ⟨h'.2.1,F.2⟩⟩
noncomputable def ad6(M:nx)(A:bT)(env:cD)(E:EP):aP->aO->Prop:=cameBackBy M A env E
theorem rD(g:mU M (A.mark h) c (λr s'=>match r with|.ok f=>Q f s'|.error e=>cameBackBy M A env E e s') s)(hn:pe c=true)(v:h≠some byPass):iQ M A (J7 c env h) Q E s:=by exact jZ (cV (Ir g hn v) (λa a q=>q) λe s' q=>cQ q)
end
inductive Zf(S:CS)(c:CV)(e:aP):Prop|mk(a:Addr)(cc:Nat)(d:Option Addr)(h1:c=.ref a)(h2:e=.ref a)(h:S a=some (.exc cc d))
inductive Qk{α β:Type}(W:Wd)(R:Heap->α->β->Prop)(P:Option Addr)(S:CS)(s:aO)(K:α->CS->Prop)(b:β)(s':aO):Prop|mk(a:α)(S':CS)(x:eH W P S s S' s')(r:R s'.heap a b)(k:K a S')
inductive Qe(W:Wd)(P:Option Addr)(S:CS)(s:aO)(E:KP)(e:aP)(s':aO):Prop|mk(c:CV)(S':CS)(x:eH W P S s S' s')(r:Zf S' c e)(k:E c S')
theorem Qe.elim{C:Prop}{P:Option Addr}{S:CS}{s:aO}{e:aP}{s':aO}(h:Qe W P S s (λa a=>False) e s'):C:=by cases h;contradiction
noncomputable def pX{α β:Type}(W:Wd)(R:Heap->α->β->Prop)(P:Option Addr)(A:bT)(m:M α)(t:Sem β)(S:CS)(s:aO):Prop:=∀K E,m K E S->wpAny (bB prog W.w) A t (Qk W R P S s K) (Qe W P S s E) s
noncomputable def dC{α β:Type}(W:Wd)(R:Heap->α->β->Prop)(P:Option Addr)(A:bT)(m:M α)(t:Sem β)(S:CS)(s:aO):Prop:=∀K E,m K E S->iQ (bB prog W.w) A t (Qk W R P S s K) (Qe W P S s E) s
section
variable{α β γ δ:Type}{R R₁:Heap->α->β->Prop}{P:Option Addr}{A:bT}{S S₁:CS}{s s₁:aO}{m:M α}{t:Sem β}{K:α->CS->Prop}{E:KP}
theorem pX.up(h:pX W R P A m t S s):dC W R P A m t S s:=λK E hm=>cQ (h K E hm)
theorem Qk.trans(X:eH W P S s S₁ s₁)(h:Qk W R P S₁ s₁ K b s'):Qk W R P S s K b s':=by obtain⟨a,c,Y,r,k⟩:=h;exact⟨a,c,X.trans Y,r,k⟩
theorem Qe.trans(X:eH W P S s S₁ s₁)(h:Qe W P S₁ s₁ E e s'):Qe W P S s E e s':=by obtain⟨a,b,Y,r,k⟩:=h;exact⟨a,b,X.trans Y,r,k⟩
theorem dC.go(h:dC W R P A m t S₁ s₁)(X:eH W P S s S₁ s₁)(hm:m K E S₁):iQ (bB prog W.w) A t (Qk W R P S s K) (Qe W P S s E) s₁:=cV (h K E hm) (λa a q=>q.trans X) (λa a q=>q.trans X)
theorem dC.step(h:dC W R P A m t S₁ s₁)(X:eH W P S s S₁ s₁)(hm:m K E S₁)(next:∀a b c s',eH W P S s c s'->eH W P S₁ s₁ c s'->R s'.heap a b->K a c->Q b s'):iQ (bB prog W.w) A t Q (Qe W P S s E) s₁:=cV (h K E hm) (λb s' T=>by obtain⟨a,c,Y,r,k⟩:=T;exact next a b c s' (X.trans Y) Y r k) (λd d q=>q.trans X)
theorem dC.calm(h:dC W R P A m t S₁ s₁)(X:eH W P S s S₁ s₁)(hm:m K (λd d=>False) S₁)(next:∀a b c s',eH W P S s c s'->eH W P S₁ s₁ c s'->R s'.heap a b->K a c->Q b s'):iQ (bB prog W.w) A t Q Ee s₁:=cV (h K _ hm) (λb s' T=>by obtain⟨a,c,Y,r,k⟩:=T;exact next a b c s' (X.trans Y) Y r k) (λ_ _ T=>by obtain⟨_,_,_,_,q⟩:=T;exact q.elim)
theorem dC.fail:dC W R P A (pS:M α) t S s:=λa a h=>h.elim
theorem gY(Z:jE W S s)(r:R s.heap a b):dC W R P A (jR a) (pure b) S s:=λc c h=>aW ⟨a,S,eH.refl Z,r,h⟩
theorem dC.bind(h:dC W R P A m t S s)(h':∀a b c s',eH W P S s c s'->R s'.heap a b->dC W R₂ P A (f a) (g b) c s'):dC W R₂ P A (m.bind f) (t>>=g) S s:=λK E hm=>by exact aL (cV (h _ _ hm) (λb s'⟨a,c,X,r,k⟩=>(h' a b c s' X r).go X k) λd d q=>q)
theorem Eo(h:dC W R P A m t S s)(k:∀h a b,R h a b->R₁ h a b):dC W R₁ P A m t S s:=λK E hm=>cV (h K E hm) (λ_ _ T=>by obtain⟨a,c,X,r,q⟩:=T;exact⟨a,c,X,k _ _ _ r,q⟩) (λd d q=>q)
theorem dC.holding(h:dC W R P A m t S s):dC W R P A m (lV vs t) S s:=λK E hm=>bI (h K E hm)
theorem dC.operate{m:M α}{R:Heap->α->aP->Prop}{t:Sem aP}{vs:List aP}(h:dC W R P A m t S s):dC W R P A m (PySem.operate vs t) S s:=λK E hm=>E3 (h K E hm)
theorem gI{t:Unit->Sem β}(h:dC W R P A m (t ()) S s):dC W R P A m (PySem.standAt p>>=t) S s:=λK E hm=>GQ (h K E hm)
end
theorem eH.imm0(R:jE W S s)(X:eH W none S s S' s'):qn W s.heap s'.heap:=X.immK R (λa a q=>by exact iH q)
theorem V.ext(x:V W s.heap a v)(R:jE W S s)(X:eH W none S s S' s'):V W s'.heap a v:=x.keep (X.imm0 R)
theorem Vs.ext(x:Vs W s.heap a v)(R:jE W S s)(X:eH W none S s S' s'):Vs W s'.heap a v:=x.keep (X.imm0 R)
theorem iV.e0(x:iV W env sc vs s.heap)(R:jE W S s)(X:eH W none S s S' s')(F:S env.locals=none):iV W env sc vs s'.heap:=x.ext R X F (by simp) (λa a q=>by exact iH q)
structure EZ(A:bT)(n:Nat):Prop where
 handled:A.handled=none
 depth:A.depth+3*n+16<=990
 units:A.units+40*n+160<=9000
 guards:A.guards=some []
end Internal
namespace Internal
open PySem PySem.W PyProof.Rows PySem.SeqAt
variable{W:Wd}
section
variable{h:Heap}{v:aP}
theorem V.none_(x:V W h .none v):v=.none:=x
theorem HD(x:V W h (.bool b) v):v=.bool b:=x
theorem pR(x:V W h (.int i) v):∃t,v=.int i t:=x
theorem CK(x:V W h (.str i) v):∃t,v=.str i t:=x
theorem n4(x:V W h (.bytes i) v):∃t,v=.bytes i.toArray t:=x
theorem x8(x:V W h (.tup l) v):∃t vs n,v=.ref t/\W.h₁.objs.size<=t/\h.get? t=some {cls:=.type "tuple",data:=.seq vs.toArray n}/\Vs W h l vs:=x
theorem gT(x:V W h (.ref a) v):v=.ref a:=x
theorem ag8(x:V W h (.st a) v):v=.ref a:=x
theorem IW(x:V W h (.script ns) v):v=.ref W.sa/\ns=W.ns:=x
theorem M4(x:V W h (.ty n) v):v=.type (tyName n):=x
theorem Ge(x:V W h (.bi n) v):v=.builtin (biName n):=x
theorem V.shape{P:aP->Prop}(x:V W h a v)(h0:P .none)(c:∀b,P (.bool b))(hi:∀i t,P (.int i t))(hs:∀i t,P (.str i t))(hy:∀i t,P (.bytes i t))(hr:∀i,P (.ref i))(ht:∀i,P (.type i))(hn:∀n,a=.bi n->P (.builtin (biName n))):P v:=by
 rcases a;·obtain rfl:=V.none_ x;exact h0
 ·obtain rfl:=HD x;exact c _
 ·refine iK x λt z=>?_;clear x;obtain rfl:=z;exact hi _ _
 ·refine iK x λt w=>?_;clear x;obtain rfl:=w;exact hs _ _
 ·refine iK x λt U=>?_;clear x;obtain rfl:=U;exact hy _ _
 ·refine gD x λt vs n X R=>?_;clear x;obtain rfl:=X;exact hr _
 ·refine lH x λt vs n m Z G=>?_;clear x;obtain rfl:=Z;exact hr _
 ·refine aY x λt Y A=>?_;clear x;obtain rfl:=Y;exact hr _
 ·obtain rfl:=gT x;exact hr _
 ·refine bX x λy H=>?_;clear x;obtain rfl:=y;exact hr _
 ·obtain rfl:=ag8 x;exact hr _
 ·obtain rfl:=M4 x;exact ht _
 ·obtain rfl:=Ge x;exact hn _ rfl
theorem V.int:V W h (.int i) (.int i t):=⟨_,rfl⟩
theorem V.str:V W h (.str i) (.str i t):=⟨_,rfl⟩
theorem V.bool:V W h (.bool i) (.bool i):=rfl
theorem V.none:V W h .none .none:=rfl
theorem V.ref:V W h (.ref a) (.ref a):=rfl
theorem V.bytes:V W h (.bytes i) (.bytes i.toArray t):=⟨_,rfl⟩
end
theorem Vs.e0{P:List aP->Prop}(x:Vs W h [] vs)(k:P []):P vs:=by
 rcases vs with _|_;·exact k
 ·exact fA x
theorem GW(e:vf f (a::l) (b::r)=some t):∃p,f a b=some p/\∃q,vf f l r=some q/\(p&&q)=t:=by exact aY (iA.mp e) λp hp e=>aY (iA.mp e) λq hq e=>⟨p,hp,q,hq,aE e⟩
theorem Vs.length(x:Vs W h l vs):vs.length=l.length:=by induction l generalizing vs with |nil=>exact x.e0 (P:=λvs=>vs.length=0) rfl|cons a l j=>
  rcases vs with _|⟨v,r⟩;·exact x.elim
  ·simp[j x.2]
theorem Vs.get{h:Heap}{l:List CV}{vs:List aP}(x:Vs W h l vs){i:Nat}{a:CV}(e:l[i]?=some a):∃v,vs[i]?=some v/\V W h a v:=by induction l generalizing vs i with|nil=>exact iH e|cons b l j=>
   rcases vs with _|⟨v,r⟩;·exact x.elim
   · rcases i with _|i;·simp only[mI,dK]at e|-;subst e;exact⟨v,rfl,x.1⟩
     ·exact j x.2 e
theorem Vs.append(x:Vs W h l vs)(y:Vs W h l' vs'):Vs W h (l++l') (vs++vs'):=by induction l generalizing vs with |nil=>exact x.e0 (P:=λvs=>Vs W h l' (vs++vs')) y|cons b l j=>
  rcases vs with _|⟨u,r⟩;·exact x.elim
  ·exact⟨x.1,j x.2⟩
theorem Vs.take(x:Vs W h l vs)(n:Nat):Vs W h (l.take n) (vs.take n):=by induction l generalizing vs n with |nil=>refine aC U3 ?_;exact x.e0 (P:=λvs=>Vs W h [] (vs.take n)) (by refine aC U3 ?_;trivial)|cons b l j=>
   rcases vs with _|⟨u,r⟩;·exact x.elim
   · rcases n with _|n;·trivial
     ·exact⟨x.1,j x.2 _⟩
theorem Vs.drop(x:Vs W h l vs)(n:Nat):Vs W h (l.drop n) (vs.drop n):=by induction l generalizing vs n with |nil=>refine aC wK ?_;exact x.e0 (P:=λvs=>Vs W h [] (vs.drop n)) (by refine aC wK ?_;trivial)|cons b l j=>
   rcases vs with _|⟨u,r⟩;·exact x.elim
   · rcases n with _|n;·exact x
     ·exact j x.2 _
theorem Vs.set(x:Vs W h l vs)(n:Nat)(y:V W h a v):Vs W h (l.set n a) (vs.set n v):=by induction l generalizing vs n with |nil=>exact x.e0 (P:=λvs=>Vs W h [] (vs.set n v)) trivial|cons b l j=>
  rcases vs with _|⟨u,r⟩;·exact x.elim
  ·cases n;exact⟨y,x.2⟩;exact⟨x.1,j x.2 _⟩
theorem Vs.one(y:V W h a v):Vs W h [a] [v]:=⟨y,trivial⟩
theorem Vs.replicate(y:V W h a v)(n:Nat):Vs W h (bH n a) (bH n v):=by induction n with |zero=>trivial|succ n j=>exact⟨y,j⟩
noncomputable def Eqs(A:bT)(s:aO)(a b:aP)(r:Bool):Prop:=RcAt A s a b r/\RcNeAt A s a b (!r)/\EqAt A s a b r
theorem Eqs.bytes(a b:List UInt8)(t u:Tok):Eqs A s (.bytes a.toArray t) (.bytes b.toArray u) (decide (a=b)):=by
 have e1:RcAt A s (.bytes a.toArray t) (.bytes b.toArray u) (decide (a=b)):=λprog w E Q h=>eq_bytes (by rw[show(a.toArray.toList==b.toArray.toList)=decide (a=b)by rw[Bp];simp];exact h);refine⟨e1,λprog w E Q h=>ne_bytes (by
   have:(a.toArray.toList !=b.toArray.toList)=!decide (a=b):=by refine qP Bp ?_;simp
   refine aC this ?_;exact h),λprog w E Q h=>?_⟩;refine c_ (wpAny_ite_split (λx=>?_) (λc=>?_))
 · have:=eq_of_beq x;injection this with q;have y:a=b:=by injection q
   clear x q;subst y;exact aA (i7 (wpAny_pure (by simpa using h)))
 ·exact aA (e1 prog w E _ (uD h))
theorem Vl{n:Nat}{P:CV->CV->Bool->Prop}{a b:CV}{r:Bool}(e:yz (n+1) a b=some r)(h0:P .none .none true)(c:∀a b,P (.bool a) (.bool b) (decide (a=b)))(hi:∀a b,P (.int a) (.int b) (decide (a=b)))(hs:∀a b,P (.str a) (.str b) (decide (a=b)))(hy:∀a b,P (.bytes a) (.bytes b) (decide (a=b)))(ht:∀l d r,vf (yz n) l d=some r->P (.tup l) (.tup d) r)(h1:∀l,P .none (.tup l) false)(h2:∀l,P (.tup l) .none false):P a b r:=by rcases a<;>first|exact iH e|(rcases b<;>first|exact iH e|exact ht _ _ _ e|(obtain rfl:=aE e;first|exact h0|exact c _ _|exact hi _ _|exact hs _ _|exact hy _ _|exact h1 _|exact h2 _))
theorem LB:∀(n:Nat){a b:CV}{v:aP}{r:Bool},V W h a v->V W h b v->yz n a b=some r->r=true:=by
 intro n;induction n with |zero=>intro a b v r _ _ e;exact iH e|succ n m=>
   have L:∀(l d:List CV)(vs:List aP)(r:Bool),Vs W h l vs->Vs W h d vs->vf (yz n) l d=some r->r=true:=by
     intro l;induction l with
     |nil=>
       intro d vs r x y e;rcases vs with _|_;rotate_left;·exact x.elim
       rcases d with _|⟨_,_⟩;·exact(aE e).symm
       ·exact y.elim|cons a l B=>
       intro d vs r x y e;rcases vs with _|⟨v,vs⟩;·exact x.elim
       · rcases d with _|⟨b,d⟩;·exact y.elim
         · refine yG (GW e) λp hp q hq z=>?_;obtain rfl:=z;refine aC (m x.1 y.1 hp) (aC (B _ _ _ x.2 y.2 hq) ?_);rfl
   intro a b v r x y e;refine Vl (P:=λa b r=>V W h a v->V W h b v->r=true) e (λc c=>rfl) (λa b x y=>?_) (λa b x y=>?_) (λa b x y=>?_) (λa b x y=>?_) (λl d r e x y=>?_) (λl x y=>?_) (λl x y=>?_) x y;·obtain rfl:=aP.bool.inj (x.symm.trans y);exact decide_eq_true rfl
   ·refine iK x λt N=>?_;clear x;obtain rfl:=N;revert y;refineλi=>iK i λf y=>?_;clear i;exact decide_eq_true (D6.inj y).1
   ·refine iK x λt s=>?_;clear x;obtain rfl:=s;revert y;refineλi=>iK i λf y=>?_;clear i;exact decide_eq_true (rO.inj y).1
   ·refine iK x λt H=>?_;clear x;obtain rfl:=H;revert y;refineλi=>iK i λf y=>?_;clear i;exact decide_eq_true (Mv (zK.inj y).1)
   · refine eC λo=>gD x λt vs k G A=>?_;clear x;obtain rfl:=G;refine iR A λc g w=>?_;clear A;revert y;refineλi=>qx i λf j F y c g' O=>?_;clear i;obtain rfl:=lN.inj y;obtain rfl:=Mv (Data.seq.inj (Obj.mk.inj (aE (g.symm.trans g'))).2.2.1).1;exact o (L _ _ _ _ w O e)
   ·revert y;refineλi=>gD i λt vs k y c=>?_;clear i;exact nomatch x.symm.trans y
   ·revert x;refineλi=>gD i λt vs k x c=>?_;clear i;exact nomatch x.symm.trans y
theorem GO:∀(n:Nat){A:bT}{s:aO}{a b:CV}{v u:aP}{r:Bool},A.units+n<cLine->V W s.heap a v->V W s.heap b u->yz n a b=some r->Eqs A s v u r:=by intro n;induction n with |zero=>intro A s a b v u r _ _ _ e;exact iH e|succ n H=>
   intro A s a b v u r D x y e;refine Vl (P:=λa b r=>V W s.heap a v->V W s.heap b u->Eqs A s v u r) e ?_ ?_ ?_ ?_ ?_ ?_ ?_ ?_ x y;·rintro rfl rfl;exact⟨.none_none,.none_none,.same _⟩
   ·rintro a b rfl rfl;exact⟨.bool_bool _ _,.bool_bool _ _,.bool_bool _ _⟩
   ·rintro a b⟨t,rfl⟩⟨o,rfl⟩;exact⟨.int_int _ _ _ _,.int_int _ _ _ _,.int_int _ _ _ _⟩
   ·rintro a b⟨t,rfl⟩⟨o,rfl⟩;exact⟨.str_str _ _ _ _,.str_str _ _ _ _,.str_str _ _ _ _⟩
   ·rintro a b⟨t,rfl⟩⟨o,rfl⟩;exact Eqs.bytes _ _ _ _
   · intro l d r e q1_ q2_;refine gD q1_ λt vs k B U=>?_;clear q1_;obtain rfl:=B;refine iR U λc g w=>?_;clear U;refine gD q2_ λo i F R m=>?_;clear q2_;obtain rfl:=R;refine iR m λc g' L=>?_;clear m;have T:s.heap.IsTuple t vs.toArray:=⟨_,g,rfl,k,rfl⟩;have N:s.heap.IsTuple o i.toArray:=⟨_,g',rfl,F,rfl⟩;have z:A.units<cLine:=o4 D;obtain⟨f,hf,hr⟩:∃f:Nat->Bool,(∀j(h1:j<vs.toArray.size)(h2:j<i.toArray.size),EqAt A.in1 s vs.toArray[j] i.toArray[j] (f j))/\((cF (min vs.toArray.size i.toArray.size)).all f&&vs.toArray.size==i.toArray.size)=r:=by
       have G:∀(l d:List CV)(vs i:List aP)(r:Bool),Vs W s.heap l vs->Vs W s.heap d i->vf (yz n) l d=some r->∃f:Nat->Bool,(∀j(h1:j<vs.length)(h2:j<i.length),EqAt A.in1 s vs[j] i[j] (f j))/\((cF (min vs.length i.length)).all f&&vs.length==i.length)=r:=by intro l;induction l with
         |nil=>
           intro d vs i r x y e;rcases vs with _|_;rotate_left;·exact x.elim
           clear x;rcases d with _|⟨b,d⟩
           · rcases i with _|_;·exact⟨λc=>true,λj h=>absurd h (i4 _),aE e⟩
             ·exact y.elim
           · rcases i with _|⟨_,_⟩;·exact y.elim
             ·exact⟨λc=>true,λj h=>absurd h (i4 _),aE e⟩|cons a l C=>
           intro d vs i r x y e;rcases vs with _|⟨v,vs⟩;·exact x.elim
           · rcases d with _|⟨b,d⟩
             · rcases i with _|_;·exact⟨λc=>true,λj _ h=>absurd h (i4 _),aE e⟩
               ·exact y.elim
             · rcases i with _|⟨u,i⟩;·exact y.elim
               · refine eC λI=>yG (GW e) λp hp q hq E=>?_;obtain rfl:=E;refine aY (C _ _ _ _ x.2 y.2 hq) λf hf hr=>I ⟨λj=>match j with|0=>p|j+1=>f j,?_,?_⟩
                 · intro j h1 h2;rcases j with _|j;·exact(H ((aZ (bA (nj _ 1 _)) D)) x.1 y.1 hp).2.2
                   ·exact hf j (gB h1) (by simpa using h2)
                 · refine iZ hr ?_;simp only[kQ,aC6,uE,wM,ac2,Ca];congr 1;congr 1;simp
       exact aY (G _ _ _ _ _ w L e) λf hf hr=>⟨f,by simpa using hf,by simpa using hr⟩
     refine⟨by refine iZ hr ?_;exact .tuples T N z hf,by refine iZ hr ?_;exact .tuples T N z hf,?_⟩;by_cases q:t=o
     · clear H D x y;subst q;have:=LB (n+1) (W:=W) (h:=s.heap) (a:=.tup l) (b:=.tup d) (v:=.ref t) ⟨t,vs,k,rfl,‹_›,g,w⟩ ⟨t,i,F,rfl,‹_›,g',L⟩ e;clear e L g';subst this;exact .same _
     ·exact .of_refs q (by refine iZ hr ?_;exact .tuples T N z hf)
   · clear x y e;rintro l rfl⟨t,vs,k,rfl,_,g,w⟩;have T:s.heap.IsTuple t vs.toArray:=⟨_,g,rfl,k,rfl⟩;exact⟨.none_tuple T (o4 D),.none_tuple T (o4 D),.none_tuple T (o4 D)⟩
   · clear x y e;rintro l⟨t,vs,k,rfl,_,g,w⟩rfl;have T:s.heap.IsTuple t vs.toArray:=⟨_,g,rfl,k,rfl⟩;exact⟨.tuple_none T (o4 D),.tuple_none T (o4 D),.tuple_none T (o4 D)⟩
end Internal
namespace Internal
open PySem PySem.W PyProof.Rows PySem.SeqAt
variable{W:Wd}
section
variable{α β:Type}{Rr:Heap->α->β->Prop}{P:Option Addr}{S:CS}{s s':aO}{K:α->CS->Prop}{E:KP}
theorem sk(O:dM W)(R:jE W S s)(k:∀b o,s.heap.get? b=some o->s'.heap.get? b=some o)(hg:s'.gens=s.gens)(ho:s'.os=s.os)(r:Rr s'.heap a b)(hk:K a S):Qk W Rr P S s K b s':=⟨a,S,(eO O R k hg ho).weak,r,hk⟩
theorem eZ(O:dM W)(R:jE W S s)(r:Rr s.heap a b)(hk:K a S):Qk W Rr P S s K b {s with toks:=n}:=sk (s':={s with toks:=n}) O R (λc c e=>e) rfl rfl r hk
theorem fU(R:jE W S s)(r:Rr s.heap a b)(hk:K a S):Qk W Rr P S s K b s:=⟨a,S,eH.refl R,r,hk⟩
theorem yM(O:dM W)(R:jE W S s){o:CO}{K:KP}(h:mk o K E S)(k:∀b o,s.heap.get? b=some o->s'.heap.get? b=some o)(hg:s'.gens=s.gens)(ho:s'.os=s.os){a:Addr}(la:W.h₁.objs.size<=a)(ha:s.heap.get? a=none)(r:wo W s'.heap a o):Qk W (V W) P S s K (.ref a) s':=⟨.ref a,S.put a o,(eH.new O R k hg ho la ha r).weak,V.ref,h a (R.none_ ha)⟩
theorem se(O:dM W)(R:jE W S s){K:KP}(h:mk o K E S)(r:wo W (s.heap.push ob) s.heap.objs.size o):Qk W (V W) P S s K (.ref s.heap.objs.size) {s with heap:=s.heap.push ob,toks:=n}:=yM (s':={s with heap:=s.heap.push ob,toks:=n}) O R h (λa a e=>aK _ e) rfl rfl R.stat.size (bL (bM _)) r
theorem ym(O:dM W)(R:jE W S s)(e:S a=some o₀)(k:∀b o,b≠a->s.heap.get? b=some o->s'.heap.get? b=some o)(hg:s'.gens=s.gens)(ho:s'.os=s.os)(r:wo W s'.heap a o)(g:Rr s'.heap a' b)(hk:K a' (S.put a o)):Qk W Rr P S s K b s':=⟨a',S.put a o,(vt O R e k hg ho r).weak,g,hk⟩
end
theorem vi{K:List CV->CS->Prop}{E:KP}{S:CS}(h:mO (.ref a) K E S):∃l,S a=some (.list l)/\K l S:=by
 refine eC λd=>?_;revert h;refineλg=>aY g λo e h=>d ?_;rcases o<;>first|exact⟨_,e,h⟩|exact h.elim
theorem sW{K:List CV->CS->Prop}{E:KP}{S:CS}(h:mO v K E S):∃a l,v=.ref a/\S a=some (.list l)/\K l S:=by rcases v<;>first|exact(by obtain⟨l,p,q⟩:=vi h;exact⟨_,l,rfl,p,q⟩)|exact h.elim
theorem n5{α:Type}{o:Option α}{K:α->CS->Prop}{E:KP}{S:CS}(h:iG o K E S):∃a,o=some a/\K a S:=by rcases o<;>first|exact⟨_,rfl,h⟩|exact h.elim
theorem jE.list(R:jE W S s)(e:S a=some (.list l)):∃vs n,s.heap.get? a=some (q8 vs n)/\Vs W s.heap l vs/\s.heap.IsList a vs.toArray:=by exact eJ ((R.rep a _ e).2) λvs n g v=>⟨vs,n,g,v,_,g,rfl,n,rfl⟩
theorem zq(ha:a.natAbs<2^1000)(hb:b.natAbs<2^1000):IntMulOk a b:=by
 have L:∀{x:Int},x.natAbs<2^1000->jI x<=1000:=by
   intro x hx;unfold jI;split;·exact(eR _)
   · rename_i h;have h0:x.natAbs≠0:=by intro q;apply h;simp[xU.mp q]
     have:=(Bq h0 (k:=1000)).mpr hx;exact this
 delta IntMulOk BC.Int.intTooBig;have:¬((jI a+jI b:Int)>bitsLine):=by
   have:(bitsLine:Int)=2^27:=by decide
   exact aT0 this (L ha) (L hb)
 simp[this]
theorem intBits_le(hx:x.natAbs<2^n):jI x<=n:=by
 unfold jI;split;·exact o27
 · rename_i h;have h0:x.natAbs≠0:=by intro q;apply h;simp[xU.mp q]
   have:=(Bq h0 (k:=n)).mpr hx;exact o50 this
theorem BP(hl:s.heap.IsList l vs.toArray)(m:-(2^63:Int)<=x)(y:x<2^63)(a:vs.length*x.toNat<=2^24)(h:Q (.ref s.heap.objs.size) {s with heap:=s.heap.push (listOf (bH x.toNat vs).flatten.toArray 0)}):wpAny (bB prog w) A (MN .Mult (.ref l) (.int x u)) Q E s:=by
 refine eC λf=>G6 (id hl) λS ho e k hd=>?_;obtain⟨cls,d,data,sl⟩:=S;refine f ?_;simp only at e hd;subst e hd;have N:vs.toArray.size*x.toNat<=2^24:=a;refine wpAny_binaryOp_repeat_ref (T:="list") (U:="int") (by decide) ⟨_,ho,rfl⟩ (λs'=>z4 s' x u) noFill_list_mul F.fills_int_mul ac3 repeat_list Bx.lookup (vS ac3 (z4 s x u) F.entry_int_rmul (F.args_int_rmul_2 _ _) (lm_int_rmul_list_any x u l vs.toArray k d sl) ⟨ho,rfl,⟨_,ho,rfl⟩,vS F.slot_list_mul ⟨_,ho,rfl⟩ F.entry_list_mul (F.args_list_mul_2 _ _) (lm_list_mul_any l vs.toArray k d sl x u (by simp[xO];exact(⟨m,y⟩)) (kZ.mpr (aB N (by decide))) (by simp[BC.List.listTooLong,sizeLine];exact aO7 a)) ⟨ho,?_⟩⟩);exact aC (listMul_foldl_if _ _) h
theorem K5{α:Type}(x:α)(n:Nat):(bH n [x]).flatten=bH n x:=by induction n with|zero=>rfl|succ n j=>simp[List.replicate_succ,j]
inductive I2(v u:aP)(P:Int->Int->Prop):Prop|mk(i j:Int)(t t':Tok)(hv:v=.int i t)(hu:u=.int j t')(k:P i j)
theorem J1{α:Type}{f:Int->Int->M α}{K:α->CS->Prop}{E:KP}{S:CS}(x:V W h a v)(y:V W h b u)(hm:i2 a b f K E S):I2 v u λi j=>f i j K E S:=by rcases a<;>first|exact hm.elim|(rcases b<;>first|exact hm.elim|(obtain⟨t,x⟩:=x;obtain⟨e,y⟩:=y;exact⟨_,_,t,e,x,y,hm⟩))
theorem VE(O:dM W){S:CS}(R:jE W S s)(x:V W s.heap a v)(y:V W s.heap b u):pX W (V W) none A (al9 a b) (MN .Add v u) S s:=by
 intro K E hm;rcases a<;>first|exact hm.elim|skip
 · rcases b<;>first|exact hm.elim|skip
   refine iK x λt z=>?_;clear x;obtain rfl:=z;refine iK y λf L=>?_;clear y;obtain rfl:=L;exact P.add_int (eZ O R V.int hm)
 · rcases b<;>first|exact hm.elim|skip
   refine iK x λt B=>?_;clear x;obtain rfl:=B;refine iK y λf H=>?_;clear y;obtain rfl:=H;refine eC λd=>?_;revert hm;refineλi=>bX i λN hm=>bX N λh1 h2=>d ?_;exact SB.add (λf k=>eZ O R V.str hm) (o51 (show sizeLine=2^24 by decide) h1 h2)
 · refine eC λd=>?_;rcases b<;>first|exact hm.elim|skip
   obtain rfl:=gT x;obtain rfl:=gT y;refine aY (vi hm) λl e hm=>aY (vi hm) λr C hm=>?_;revert hm;refineλi=>bX i λT hm=>bX T λh1 h2=>dZ (R.list e) λvs n g w I=>dZ (R.list C) λh G g' Q U=>d ?_;refine P.add_list (n:=n) (n2:=G) g g' (se O R hm ?_) (by
     have:sizeLine=2^24:=by decide
     simp only[bC,w.length,Q.length];exact o51 this h1 h2);refine⟨vs++h,0,?_,(w.append Q).keep (λb o c e c=>aK _ e)⟩;refine aC (aU _ rfl) ?_;simp[q8]
theorem Zx(O:dM W){S:CS}(R:jE W S s)(x:V W s.heap a v)(y:V W s.heap b u):pX W (V W) none A (al2 a b) (MN .Mult v u) S s:=by
 intro K E hm;rcases a<;>first|exact hm.elim|skip
 · rcases b<;>first|exact hm.elim|skip
   refine iK x λt Q=>?_;clear x;obtain rfl:=Q;refine iK y λf p=>?_;clear y;obtain rfl:=p;refine eC λd=>?_;revert hm;exactλh=>bX h λj hm=>bX j λh1 h2=>d (PyProof.Rows.mul_int (eZ O R V.int hm) (zq h1 h2))
 · rcases b<;>first|exact hm.elim|skip
   obtain rfl:=gT x;refine iK y λf T=>?_;clear y;obtain rfl:=T;refine eC λd=>aY (vi hm) λl e hm=>?_;rcases l with _|⟨q,_|⟨_,_⟩⟩<;>first|exact hm.elim|skip
   refine d (eC λd=>?_);revert hm;refineλh=>bX h λN hm=>bX N λh1 h2=>dZ (R.list e) λvs n g w I=>d ?_;rcases vs with _|⟨v0,_|⟨_,_⟩⟩;·exact w.elim
   ·refine BP I (o52 h1) (bJ h2 (by decide)) (by simp;exact(aG h2 (by decide))) (se O R hm (aC (K5 _ _) ⟨_,0,aU _ rfl,Vs.keep (Vs.replicate w.1 _) (λb o c e c=>aK _ e)⟩))
   ·exact w.2.elim
theorem Yt(O:dM W){A:bT}{op:Operator}{a b:CV}{v u:aP}{S:CS}{s:aO}(R:jE W S s)(x:V W s.heap a v)(y:V W s.heap b u):pX W (V W) none A (cP op a b) (MN op v u) S s:=by
 intro K E hm;rcases op<;>first|exact hm.elim|skip
 ·exact VE O R x y K E hm
 · obtain⟨i,j,t,e,rfl,rfl,hm⟩:=J1 x y hm;exact P.sub_int (eZ O R V.int hm)
 ·exact Zx O R x y K E hm
 · obtain⟨i,j,t,e,rfl,rfl,h1,hm⟩:=J1 x y hm;exact PyProof.Rows.mod_int' h1 (eZ O R V.int hm)
 · obtain⟨i,j,t,e,rfl,rfl,⟨h1,h2,h3⟩,hm⟩:=J1 x y hm;refine PyProof.Rows.pow_int h2 ?_ (eZ O R V.int hm);have:=intBits_le h1;calc((jI _:Nat):Int)*_<=(100:Int)*40:=pP (aX.mpr this) h3 h2 (aN _)
     _<=2^27:=by decide
 · obtain⟨i,j,t,e,rfl,rfl,⟨h1,h2,h3⟩,hm⟩:=J1 x y hm;refine PyProof.Rows.lshift_int h2 ?_ (eZ O R V.int hm);have:=intBits_le h1;exact(aG (jM (aX.mpr this) h3) (by decide))
 · obtain⟨i,j,t,e,rfl,rfl,⟨h2,h3⟩,hm⟩:=J1 x y hm;exact PyProof.Rows.rshift_int h2 (eZ O R V.int hm)
 · obtain⟨i,j,t,e,rfl,L,h2,hm⟩:=J1 x y hm;refine aC L ?_;subst h2;exact PyProof.Rows.and_int (aC (bitAnd_m8 _) (iZ (sy _ (by decide)) (eZ O R V.int hm)))
 · obtain⟨i,b,t,e,rfl,rfl,⟨h1,h2⟩,hm⟩:=J1 x y hm;refine PyProof.Rows.floordiv_int h1 (eZ O R V.int hm) (.inl (PyProof.noPylong_of_log2 ?_));have h0:b.natAbs≠0:=by intro q;exact h1 (xU.mp q)
   have:=(Bq h0 (k:=1000)).mpr h2;exact(rU this (by decide))
end Internal
namespace Internal
open PySem PySem.W PyProof.Rows PySem.SeqAt
variable{W:Wd}
noncomputable def VB:Heap->Bool->aP->Prop:=λι t v=>v=.bool t
theorem sm{α:Type}{x y:Str}{v:α}{r:List (Str×α)}(h:qW x y=true):dA x ((y,v)::r)=some v:=by
 show(match qW x y with|true=>some v|false=>dA x r)=_;exact aC h rfl
theorem pA{α:Type}{x y:Str}{v:α}{r:List (Str×α)}(h:qW x y=false):dA x ((y,v)::r)=dA x r:=by
 show(match qW x y with|true=>some v|false=>dA x r)=_;exact aC h rfl
theorem ah7{X:Type}[DecidableEq X]{x y:X}{v:aP}{r:List (X×aP)}(h:y=x):By ((y,v)::r) x=some v:=by simp[By,h]
theorem ak7{X:Type}[DecidableEq X]{x y:X}{v:aP}{r:List (X×aP)}(h:¬y=x):By ((y,v)::r) x=By r x:=by simp[By,h]
theorem KV.look{h:Heap}{es:List (Int×CV)}{kvs:List (Int×aP)}(x:KV W h es kvs)(k:Int):Vo W h (pj k es) (By kvs k):=by induction es generalizing kvs with
 | nil => rcases kvs with _|_;·trivial
          ·exact x.elim|cons a r j=>
   obtain⟨y,c⟩:=a;rcases kvs with _|⟨b,q⟩;·exact x.elim
   · obtain⟨z,u⟩:=b;revert x;refineλg=>bX g λS x=>?_;clear g;refine bX S λL f=>?_;clear S;have L:y=z:=L;by_cases e:k=y;·exact aC (zN e) (aC (ah7 (L.symm.trans e.symm)) f)
     ·exact aC (zY e) (aC (ak7 λq=>e (q.symm.trans L.symm)) (j x))
theorem KV.slook{h:Heap}{es:List (Str×CV)}{kvs:List (Str×aP)}(x:KV W h es kvs)(k:Str):Vo W h (dA k es) (By kvs k):=by induction es generalizing kvs with
 | nil => rcases kvs with _|_;·trivial
          ·exact x.elim|cons a r j=>
   obtain⟨y,c⟩:=a;rcases kvs with _|⟨b,q⟩;·exact x.elim
   · obtain⟨z,u⟩:=b;revert x;refineλg=>bX g λp x=>?_;clear g;refine bX p λL f=>?_;clear p;have L:y=z:=L;by_cases e:k=y;·exact aC (sm (e▸oX _)) (aC (ah7 (L.symm.trans e.symm)) f)
     ·exact aC (pA (tK e)) (aC (ak7 λq=>e (q.symm.trans L.symm)) (j x))
theorem Vo.isSome(x:Vo W h a v):v.isSome=a.isSome:=by
 rcases a with _|_
 · rcases v with _|_;·rfl
   ·exact x.elim
 · rcases v with _|_;·exact x.elim
   ·rfl
theorem Vo.some_(x:Vo W h (some a) v):∃u,v=some u/\V W h a u:=by
 rcases v with _|u;·exact x.elim
 ·exact⟨u,rfl,x⟩
theorem Vo.none_(x:Vo W h none v):v=none:=by
 rcases v with _|_;·rfl
 ·exact x.elim
theorem jE.sysM(O:dM W)(R:jE W S s)(e:S a=some o):(a==FW)=false:=by
 refine qP beq_eq_false_iff_ne ?_;intro q;have h1:=(R.rep a o e).1;rw[q]at h1;exact absurd h1 (Nat.not_le.mpr O.sysM)
noncomputable def vM(x:CV)(v:aP):Bool:=match x,v with |.none,.none=>true|.int i,.int j _=>decide (j=i)|.str a,.str b _=>decide (b=a)|_,_=>false
theorem E5(hs:nF x=true)(f:V W h y v)(e:yz 1 y x=some r):vM x v=r:=by
 refine Vl (P:=λy x r=>nF x=true->V W h y v->vM x v=r) e ?_ ?_ ?_ ?_ ?_ ?_ ?_ ?_ hs f;·rintro _ rfl;rfl
 ·intro a b q;exact rR q
 ·rintro a b _⟨t,rfl⟩;rfl
 ·rintro a b _⟨t,rfl⟩;rfl
 ·intro a b q;exact rR q
 ·intro l d r e q;exact rR q
 ·intro l q;exact rR q
 · clear hs f e;rintro l _⟨t,vs,n,rfl,_⟩;rfl
theorem E8(D:A.units+1<cLine)(hs:nF x=true)(w:Vs W s.heap l vs)(y:V W s.heap x u)(e:vH x l=some r):(∀v,v∈vs->EqAt A s v u (vM x v))/\vs.any (vM x)=r:=by induction l generalizing vs r with
 | nil => rcases vs with _|_;·exact⟨λ_ h=>absurd h cG,aE e⟩
          ·exact w.elim|cons b l j=>
   rcases vs with _|⟨v,vs⟩;·exact w.elim
   · refine aY (iA.mp e) λp hp e=>aY (iA.mp e) λq hq e=>?_;obtain rfl:=aE e;refine bX (j w.2 hq) λz i2=>⟨λJ H=>?_,by simp[(E5 hs w.1 hp),i2]⟩;rcases a_.mp H with q|q;·clear j hq i2 H;subst q;refine aC (E5 hs w.1 hp) ?_;exact(GO 1 D w.1 y hp).2.2
     ·exact z J q
theorem UD(O:dM W){A:bT}{a b:CV}{v u:aP}{S:CS}{s:aO}(hu:A.units+10<cLine)(R:jE W S s)(x:V W s.heap a v)(y:V W s.heap b u){K:Bool->CS->Prop}{E:KP}(hm:eqM a b K E S):∃r,RcAt A s v u r/\RcNeAt A s v u (!r)/\K r S:=by
 have one:∀{p:Option Bool},p=yz 4 a b->iG p K E S->∃r,RcAt A s v u r/\RcNeAt A s v u (!r)/\K r S:=by
   intro p hp h;exact aY (n5 h) λr e h=>iR (GO 4 (A:=A) (aZ (bU (by decide:4<=10) _) hu) x y (hp▸e)) λc1 c2 ι=>⟨r,c1,c2,h⟩
 rcases a<;>first|exact one rfl hm|skip
 · rename_i x0;rcases b<;>first|exact hm.elim|exact one (p:=some (decide (x0=_))) rfl hm|skip
   obtain rfl:=gT y;refine iK x λt e10x=>?_;clear x;obtain rfl:=e10x;refine eC λk_=>?_;revert hm;refineλq_=>aY q_ λo e hm=>?_;clear q_;rcases o<;>first|exact hm.elim|skip
   exact dZ (R.list e) λvs n g w I=>k_ ⟨false,.str_list _ _ I (o3 hu),.str_list _ _ I (o3 hu),hm⟩
 · clear O one;rcases b<;>first|exact hm.elim|skip
   · obtain rfl:=gT x;refine iK y λt e9x=>?_;clear y;obtain rfl:=e9x;refine eC λk_=>?_;revert hm;refineλq_=>aY q_ λo e hm=>?_;clear q_;rcases o<;>first|exact hm.elim|skip
     exact dZ (R.list e) λvs n g w I=>k_ ⟨false,.list_str _ _ I (o3 hu),.list_str _ _ I (o3 hu),hm⟩
   · refine eC λk_=>?_;obtain rfl:=gT x;obtain rfl:=gT y;revert hm;refineλq_=>aY q_ λo e hm=>?_;clear q_;rcases o with l|_|_|_|_|_|_|_|_|_<;>first|exact hm.elim|skip
     revert hm;refineλq_=>aY q_ λo' e' hm=>?_;clear q_;rcases o' with r|_|_|_|_|_|_|_|_|_<;>first|exact hm.elim|skip
     refine aY (n5 hm) λk ek hm=>dZ (R.list e) λvs n g w I=>dZ (R.list e') λvs' n' g' w' I'=>k_ ?_;unfold PB at ek;split at ek
     · rename_i hl;have hsz:vs.toArray.size=vs'.toArray.size:=by simp[w.length,w'.length,hl]
       obtain⟨f,hf,hr⟩:∃f:Nat->Bool,(∀j(h1:j<vs.length)(h2:j<vs'.length),EqAt A.in1 s vs[j] vs'[j] (f j))/\(cF vs.length).all f=k:=by
         have G:∀(l r:List CV)(vs vs':List aP)(k:Bool),Vs W s.heap l vs->Vs W s.heap r vs'->l.length=r.length->vf (yz 4) l r=some k->∃f:Nat->Bool,(∀j(h1:j<vs.length)(h2:j<vs'.length),EqAt A.in1 s vs[j] vs'[j] (f j))/\(cF vs.length).all f=k:=by intro l;induction l with
           |nil=>
             intro r vs vs' k w w' hl e;rcases r with _|⟨_,_⟩
             · rcases vs with _|_;·exact⟨λι=>true,λj h=>absurd h (i4 _),aE e⟩
               ·exact w.elim
             ·contradiction|cons a l ih=>
             intro r vs vs' k w w' hl e;rcases r with _|⟨b,r⟩;·contradiction
             · rcases vs with _|⟨v,vs⟩;·exact w.elim
               · rcases vs' with _|⟨u,vs'⟩;·exact w'.elim
                 · refine eC λk_=>yG (GW e) λp hp q hq e8x=>?_;obtain rfl:=e8x;refine aY (ih _ _ _ _ w.2 w'.2 (by simpa using hl) hq) λf hf hr=>k_ ⟨λj=>match j with|0=>p|j+1=>f j,?_,?_⟩
                   · intro j h1 h2;rcases j with _|j;·exact(GO 4 (A:=A.in1) ((aZ (bU (by decide:5<=10) _) hu)) w.1 w'.1 hp).2.2
                     ·exact hf j (kJ h1) (kJ h2)
                   · refine iZ (hr) (aC kQ (aC uE (aC wM (aC ac2 ?_))));congr 1
         exact G _ _ _ _ _ w w' hl ek
       have hf':∀j(h1:j<vs.toArray.size)(h2:j<vs'.toArray.size),EqAt A.in1 s vs.toArray[j] vs'.toArray[j] (f j):=hf;have e1:=RcAt.lists I I' hsz (o3 hu) hf';have e2:=RcNeAt.lists I I' hsz (o3 hu) hf';have hr':(cF vs.toArray.size).all f=k:=hr;rw[hr']at e1 e2;exact⟨k,e1,e2,hm⟩
     · rename_i hl;simp only[dK]at ek;subst ek;have hsz:(vs.toArray.size !=vs'.toArray.size)=true:=by simp[w.length,w'.length,hl]
       exact⟨false,.lists_lengths I I' hsz (o3 hu),.lists_lengths I I' hsz (o3 hu),hm⟩
set_option tactic.hygienic true in theorem UF(O:dM W){A:bT}{a b:CV}{v u:aP}{S:CS}{s:aO}(hu:A.units+10<cLine)(R:jE W S s)(x:V W s.heap a v)(y:V W s.heap b u){K:Bool->CS->Prop}{E:KP}(hm:inM a b K E S){Ee:EP}{Q:EP}:∃r,K r S/\((∀n,Q (.bool r) {s with toks:=n})->wpAny (bB prog W.w) A (vD .In v u) Q Ee s)/\((∀n,Q (.bool (!r)) {s with toks:=n})->wpAny (bB prog W.w) A (vD .NotIn v u) Q Ee s):=by
 rcases b<;>first|exact hm.elim|skip
 · unfold inM at hm;rcases hs:nF a with _|_;·replace hm:=hs▸hm;exact hm.elim
   · replace hm:=hs▸hm;refine eC λk_=>aY (n5 hm) λr e hm=>gD (x8 y) λt vs n e6x r7x=>?_;obtain rfl:=e6x;refine iR r7x λι g w=>?_;clear r7x;have T:s.heap.IsTuple t vs.toArray:=⟨_,g,rfl,n,rfl⟩;refine bX (E8 (A:=A.in1) (by show A.units+1+1<cLine;exact o53 hu) hs w x e) λi1 i2=>k_ ?_;have i2':vs.toArray.any (vM a)=r:=by simpa using i2
     refine⟨r,hm,λh=>in_tupleAt (vM a) T (by simpa using i1) ?_,λh=>notIn_tupleAt (vM a) T (by simpa using i1) ?_⟩;·refine aC i2' ?_;exact h s.toks
     ·refine aC i2' ?_;exact h s.toks
 · refine aC (gT y) ?_;revert hm;refineλq_=>aY q_ λo e hm=>?_;clear q_;cases o with
   |list l=>
     rcases hs:nF a with _|_;·dsimp only at hm;rw[hs]at hm;exact hm.elim
     · dsimp only at hm;rw[hs]at hm;refine eC λk_=>aY (n5 hm) λr e' hm=>dZ (R.list e) λvs n g w I=>bX (E8 (A:=A.in1) (by show A.units+1+1<cLine;exact o53 hu) hs w x e') λi1 i2=>k_ ?_;have i2':vs.toArray.any (vM a)=r:=by simpa using i2
       refine⟨r,hm,λh=>in_listAt (vM a) I (by simpa using i1) ?_,λh=>notIn_listAt (vM a) I (by simpa using i1) ?_⟩;·refine aC i2' ?_;exact h s.toks
       ·refine aC i2' ?_;exact h s.toks|idict es=>
     rcases a<;>first|exact hm.elim|skip
     rename_i k;refine eC λk_=>iK (pR x) λt e5x=>?_;obtain rfl:=e5x;refine aY ((R.rep _ _ e).2) λkvs D kv=>k_ ⟨_,hm,λh=>wpAny_in_of (knd:=mW prog W.w) (k:=k) (by simp[mW,oM]) (R.sysM O e) D.dictOf.mapOf ?_,λh=>wpAny_notIn_of (knd:=mW prog W.w) (k:=k) (by simp[mW,oM]) (R.sysM O e) D.dictOf.mapOf ?_⟩;·refine aC ((kv.look k).isSome) ?_;exact h _
     ·refine aC ((kv.look k).isSome) ?_;exact h _|_=>exact hm.elim
theorem CC(x:V W h a v):(v==.none)=tQ a:=by
 by_cases e:a=.none;·subst e;obtain rfl:=V.none_ x;rfl
 · have A:tQ a=false:=by rcases a<;>first|rfl|exact absurd rfl e
   refine aC A ((λq=>beq_eq_false_iff_ne.mpr q) λq=>e ?_);clear e A;rcases a<;>first|rfl|(obtain⟨_,r⟩:=x;exact nomatch q.symm.trans r)|(obtain⟨_,_,_,r,_⟩:=x;exact nomatch q.symm.trans r)|(obtain⟨_,_,_,_,r,_⟩:=x;exact nomatch q.symm.trans r)|(obtain⟨_,r,_⟩:=x;exact nomatch q.symm.trans r)|(obtain⟨r,_⟩:=x;exact nomatch q.symm.trans r)|exact nomatch q.symm.trans x
theorem H0{K:Bool->CS->Prop}{E:KP}{S:CS}(y:V W h b u)(hm:Gx b t K E S):u=.none/\K t S:=by rcases b<;>first|exact hm.elim|exact⟨y,hm⟩
theorem DF(O:dM W)(D:A.units+10<cLine)(R:jE W S s)(x:V W s.heap a v)(y:V W s.heap b u):pX W VB none A (cY op a b) (vD op v u) S s:=by
 intro K E hm;rcases op;·exact gA (UD O D R x y hm) λr e1 o h=>e1 prog W.w _ _ (fU R rfl h)
 ·exact gA (UD O D R x y hm) λr e1 o h=>o prog W.w _ _ (fU R rfl h)
 · obtain⟨i,j,t,e,rfl,rfl,hm⟩:=J1 x y hm;exact P.lt_int (fU R rfl hm)
 · obtain⟨i,j,t,e,rfl,rfl,hm⟩:=J1 x y hm;exact P.le_int (fU R rfl hm)
 · obtain⟨i,j,t,e,rfl,rfl,hm⟩:=J1 x y hm;exact P.gt_int (fU R rfl hm)
 · obtain⟨i,j,t,e,rfl,rfl,hm⟩:=J1 x y hm;exact P.ge_int (fU R rfl hm)
 · refine bX (H0 y hm) λw hm=>?_;obtain rfl:=w;exact is_none (aC (CC x) (fU R rfl hm))
 · refine bX (H0 y hm) λk hm=>?_;obtain rfl:=k;exact isNot_none (aC (CC x) (fU R rfl hm))
 · obtain⟨r,h,z,i2⟩:=UF O D R x y hm;exact z λn=>eZ O R rfl h
 · obtain⟨r,h,z,i2⟩:=UF O D R x y hm;exact i2 λn=>eZ O R rfl h
theorem AY(R:jE W S s)(x:V W s.heap a v):pX W (λ_(t:Bool)u=>u=t) none A (kM a) (FX v) S s:=by
 intro K E hm;rcases a<;>first|exact hm.elim|skip
 ·refine aC (V.none_ x) ?_;exact wpAny_pure (fU R rfl hm)
 ·refine aC (HD x) ?_;exact uD (fU R rfl hm)
theorem YE(O:dM W)(R:jE W S s)(x:V W s.heap a v):pX W (V W) none A (Dp a) (unaryOp .USub v) S s:=by
 intro K E hm;rcases a<;>first|exact hm.elim|skip
 exact iK (pR x) λt L=>aC L (P.neg_int (eZ O R V.int hm))
end Internal
namespace Internal
open PySem PySem.W PyProof.Rows PySem.SeqAt
variable{W:Wd}
theorem Kt(O:dM W)(R:jE W S s):pX W (V W) none A (Gs c) (z5 env c) S s:=by
 intro K E hm;cases c with |none=>exact wpAny_pure (fU R V.none hm)|bool b=>exact wpAny_pure (fU R V.bool hm)|int i=>exact DZ (eZ O R V.int hm)|str x=>exact Bz (eZ O R V.str hm)|bytes b=>exactλa a a=>eZ (n:=s.toks+1) O R V.bytes hm|_=>exact hm.elim
theorem aH9{vs:cN}{K:KP}{E:KP}{S:CS}(h:lv i vs K E S):∃v,vs[i]?=some (some v)/\K v S:=by
 unfold lv at h;rcases e:vs[i]? with _|o;·rw[e]at h;exact h.elim
 · rw[e]at h;rcases o with _|v;·exact h.elim
   ·exact⟨v,rfl,h⟩
theorem ai4{vs:cN}{K:KP}{E:KP}{S:CS}(h:lc i vs K E S):∃c v,vs[i]?=some (some (.ref c))/\S c=some (.cell (some v))/\K v S:=by
 have f:∃c,vs[i]?=some (some (.ref c)):=by
   unfold lc at h;rcases e:vs[i]? with _|o;·rw[e]at h;exact h.elim
   · rw[e]at h;rcases o with _|v;·exact h.elim
     ·rcases v<;>first|exact⟨_,rfl⟩|exact h.elim
 refine iK f λc e=>?_;clear f;unfold lc at h;rw[e]at h
 · refine eC λd=>?_;revert h;refineλg=>aY g λo eo h=>d ?_;cases o with
   |cell v=>
     rcases v with _|v;·exact h.elim
     ·exact⟨c,v,e,eo,h⟩|_=>exact h.elim
theorem jE.cell(R:jE W S s)(e:S c=some (.cell v)):∃J,s.heap.IsCell c J/\Vo W s.heap v J:=by exact aY ((R.rep c _ e).2) λJ g h=>⟨J,⟨_,g,rfl⟩,h⟩
theorem I3:dunder "__classdict__"=true:=by decide+kernel
theorem Zy:dunder "__debug__"=true:=by decide+kernel
theorem Uc(O:dM W)(R:jE W S s)(hg:env.globals=fC)(c:env.builtins=jN):pX W (V W) none A (xn x) (loadGlobal env x) S s:=by
 intro K E hm;refine rd (O.glob _ R.stat) λC G f nb h1 h2=>?_;replace f:=hg▸f;rw[<-c]at nb;unfold xn at hm;rcases e:dA x qf with _|v
 · replace hm:=e▸hm;rcases B:dA x th with _|v;·dsimp only at hm;replace hm:=B▸hm;exact hm.elim
   · dsimp only at hm;rw[B]at hm;exact ug (h2 _ _ e B) λq u F g=>Calls.loadGlobal_builtin f q nb F (fU R g hm)
 · rw[e]at hm;exact aY (h1 _ _ e) λu B g=>Calls.loadGlobal_global f B (fU R g hm)
theorem DT(O:dM W)(R:jE W S s)(X:iV W env sc vs s.heap):pX W (V W) none A (qV sc vs x) (loadName env x) S s:=by
 intro K E hm;unfold qV at hm;rcases hd:dunder x with _|_
 · rw[hd]at hm;have hi:∃i k,uB sc.names x=some (i,k):=by
     rcases e:uB sc.names x with _|p;·rw[e]at hm;exact hm.elim
     ·exact⟨p.1,p.2,rfl⟩
   refine sJ hi λi k e=>?_;clear hi;rw[e]at hm;rcases k<;>(try(exact hm.elim))
   · refine eC λd=>aY (aH9 hm) λv ev hm=>aY X.ns λm n h=>aY (h x i v e ev) λu eu f=>d (wpAny_loadName_local X.kind ?_ n.ns eu (fU R f hm));rcases X.kinds x i _ e with q|⟨q,_⟩;·exact q
     ·contradiction
   · refine dZ (ai4 hm) λc v ev ec hm=>aY (R.cell ec) λJ g f=>aY f.some_ λu o f=>?_;obtain rfl:=o;refine Uu X.kind ?_ (X.cell x i _ c e (.inl rfl) ev) g (fU R f hm);rcases X.kinds x i _ e with q|⟨q,_⟩;·exact q
     ·contradiction
   · refine dZ (ai4 hm) λc v ev ec hm=>aY (R.cell ec) λJ g f=>aY f.some_ λu T f=>?_;obtain rfl:=T;rcases X.kinds x i _ e with q|⟨_,q⟩;·exact wpAny_loadName_free X.kind q (X.cell x i _ c e (.inr rfl) ev) g (fU R f hm) (Hc hd I3)
     ·exact Uu X.kind q (X.cell x i _ c e (.inr rfl) ev) g (fU R f hm)
   · rw[loadName_read X.kind (by
       rcases X.kinds x _ _ e with q|⟨q,_⟩;·exact q
       ·contradiction)];exact Uc O R X.glob X.blt K E hm
 ·replace hm:=hd▸hm;exact hm.elim
noncomputable def RE(W:Wd)(env:cD)(sc:dD):Heap->cN->Unit->Prop:=λh vs ι=>iV W env sc vs h
theorem iV.notImm(X:iV W env sc vs h):∀b o,some env.locals=some b->h.get? b=some o->¬uk o:=by
 rintro b o q e i;obtain rfl:=aE q;refine aY X.ns λm N a=>qx N λT es ep A d a a=>?_;obtain rfl:=aE (A.symm.trans e);exact i.2 es ep d
theorem wZ{α:Type}{l:List α}{i j:Nat}{a:α}(h:i≠j):(l.set i a)[j]?=l[j]?:=by simp[f_,h]
theorem eH.locals(O:dM W)(R:jE W S s)(X:iV W env sc vs s.heap)(F:S env.locals=none)(E:jF env.locals s.heap s'.heap)(tl:∀o,s.heap.get? env.locals=some o->∃T,s'.heap.get? env.locals=some T/\J2 o T)(hg:s'.gens=s.gens)(ho:s'.os=s.os):eH W (some env.locals) S s S s':=by
 have k:∀b o,b≠env.locals->s.heap.get? b=some o->s'.heap.get? b=some o:=λb o d e=>(E.2 b d).trans e;have t:qn W s.heap s'.heap:=λb o c e i=>k b o (λq=>X.notImm b o (q▸rfl) e i) e;refine⟨⟨R.stat.step (λb o e d=>k b o (eX (aV d X.n1)) e) t O.tabsOld,λa o e=>⟨(R.rep a o e).1,(R.rep a o e).2.keep t (λob=>k a ob (λq=>by exact iH (F▸q▸e)))⟩,hg.trans R.gens,ho.trans R.os⟩,λb o c e c U=>.inl (k b o (λq=>U (q▸rfl)) e),λc c c h=>h,λb o e=>by
   by_cases q:b=env.locals;·refine aY (tl o (q▸e)) λT A r=>?_;exact⟨T,q▸A,λc=>r⟩
   ·exact⟨o,k b o q e,λc=>.refl o⟩⟩
theorem xt(O:dM W){A:bT}{env:cD}{sc:dD}{vs:cN}{x:Str}{v:CV}{u:aP}{S:CS}{s:aO}(R:jE W S s)(X:iV W env sc vs s.heap)(F:S env.locals=none)(l:V W s.heap v u):pX W (RE W env sc) (some env.locals) A (gK sc vs x v) (ae5 env x u) S s:=by
 intro K E hm;unfold gK at hm;have hi:∃i k,uB sc.names x=some (i,k):=by
   rcases e:uB sc.names x with _|p;·rw[e]at hm;exact hm.elim
   ·exact⟨p.1,p.2,rfl⟩
 refine sJ hi λi k e=>?_;clear hi;rw[e]at hm;rcases k<;>(try(exact hm.elim))
 · refine aY X.ns λm n hl=>?_;have hk:env.kindOf x=some .local:=by
     rcases X.kinds x i _ e with q|⟨q,_⟩;·exact q
     ·contradiction
   refine oj (by rw[storeName_local hk (by rw[X.kind];rfl)]) (aw3 n (λh' G Q z=>?_));have Y:eH W (some env.locals) S s S {s with heap:=h',toks:=s.toks+1}:=eH.locals O R X F Q (λo eo=>by
     refine gA (z o eo) λT I P a=>qi G λo2 es ep C d2 a=>?_;clear G;obtain rfl:=aE (I.symm.trans C);exact⟨T,I,P,λa vs q=>by cases(d2.symm.trans q)⟩) rfl rfl;have D:=Y.immK R (λb o q=>X.notImm b o q);refine⟨_,S,Y,⟨X.kind,X.glob,X.blt,X.n1,⟨_,G,λy j w ey ew=>?_⟩,λy j k c ey hk ew=>?_,X.kinds,X.lam⟩,hm⟩
   · by_cases q:y=x
     · subst q;rw[ey]at e;simp only[dK,p_,and_true]at e;subst e;refine⟨u,by simp,?_⟩;have B:w=v:=by
         rw[f_]at ew;simp only[if_true]at ew;split at ew;·simpa using ew.symm
         ·exact iH ew
       exact aC B (l.keep D)
     · have t:i≠j:=λr=>q (zR ey (r▸e));rw[wZ t]at ew;exact aY (hl y j w ey ew) λL e1 C=>⟨L,by simp[q,e1],C.keep D⟩
   · have t:i≠j:=λr=>by
       subst r;have:=mP ey;replace this:=(mP e).symm.trans this;simp only[dK,p_]at this;rcases hk with q|q;·rw[q]at this;cases this.2
       ·rw[q]at this;cases this.2
     rw[wZ t]at ew;exact X.cell y j k c ey hk ew
 · have hk:env.kindOf x=some .cell:=by
     rcases X.kinds x i _ e with q|⟨q,_⟩;·exact q
     ·contradiction
   have f:∃c,vs[i]?=some (some (.ref c)):=by
     dsimp only at hm;unfold vy at hm;rcases e:vs[i]? with _|o;·rw[e]at hm;exact hm.elim
     · rw[e]at hm;rcases o with _|v;·exact hm.elim
       ·rcases v<;>first|exact⟨_,rfl⟩|exact hm.elim
   refine iK f λc ec=>?_;clear f;dsimp only at hm;unfold vy at hm;rw[ec]at hm
   · refine eC λU=>?_;revert hm;refineλJ=>aY J λo eo hm=>U ?_;cases o with
     |cell H=>
       refine aY ((R.rep c _ eo).2) λZ g N=>?_;unfold ae5;refine aC hk ?_;dsimp only;have d:((some lK==some dW.globalImplicit)&&env.blockKind !=ScopeKind.function)=false:=by rfl
       refine oj (aC d rfl) (oj (by simp only[iB,if_false,X.kind];rfl) (aA (wpAny_cellOf (X.cell x i _ c e (.inl rfl) ec) (JZ g (J8 g ?_)))));have Y:eH W none S s (S.put c (.cell (some v))) {s with heap:=s.heap.update c λo=>{o with data:=.cell (some u)}}:=by
         refine vt O R eo (λb o d e=>(bY _ _ (eY d)).trans e) rfl rfl ⟨some u,(dH (h:=s.heap) (λo=>{o with data:=.cell (some u)}) g rfl),?_⟩;refine V.keep l (λb o d e i=>(bY _ _ (λq=>?_)).trans e);subst q;exact((R.rep _ _ eo).2.notImm e).1 i
       exact⟨vs,_,Y.weak,X.e0 R Y F,hm⟩|_=>exact hm.elim
end Internal
section
open PySem PySem.W PyProof.Rows PySem.SeqAt
namespace Internal
theorem Ig(h0:0<=i)(hl:i.toNat<n):ae6 i n=some i.toNat:=by
 simp[ae6,h0];exact aC (if_neg (iW.mpr h0)) (⟨⟨h0,(uM h0).mp hl⟩,rfl⟩)
theorem w_:Manifest.owners.lookup (String.ofList ['y','a','r','r','a','e','t','y','b'].reverse)=some Manifest.sig_bytearray:=by kernel_rfl
theorem y9:Slot "bytearray" "__len__" "bytearray.__len__":=.of (owner:="bytearray") (n:="__len__") (by refine aC (dY _ _) (aC cU ?_);kernel_rfl) (by decide+kernel) (by decide+kernel) (by decide+kernel) (by first|exact .inl (by decide+kernel)|exact .inr (by decide+kernel)) (by refine aC (jV _ _) ?_;kernel_rfl)
theorem C5:qC BA "bytearray.__len__"=some BC.«bytearray.__len__»:=entryFor_of_tree (by kernel_rfl)
theorem FA(a:aP):tB "bytearray.__len__" ⟨[a],[]⟩:=by unfold tB;refine aC (uN (id:="bytearray.__len__") (n:=['_','_','n','e','l','_','_']) (o:=['y','a','r','r','a','e','t','y','b']) (by kernel_rfl) w_) ?_;kernel_rfl
theorem lC:Slot "bytearray" "__getitem__" "bytearray.__getitem__":=.of (owner:="bytearray") (n:="__getitem__") (by refine aC (dY _ _) (aC cU ?_);kernel_rfl) (by decide+kernel) (by decide+kernel) (by decide+kernel) (by first|exact .inl (by decide+kernel)|exact .inr (by decide+kernel)) (by refine aC (jV _ _) ?_;kernel_rfl)
theorem td:qC BA "bytearray.__getitem__"=some BC.«bytearray.__getitem__»:=entryFor_of_tree (by kernel_rfl)
theorem uh(a b:aP):tB "bytearray.__getitem__" ⟨[a,b],[]⟩:=by unfold tB;refine aC (uN (id:="bytearray.__getitem__") (n:=['_','_','m','e','t','i','t','e','g','_','_']) (o:=['y','a','r','r','a','e','t','y','b']) (by kernel_rfl) w_) ?_;kernel_rfl
theorem zD:Slot "bytearray" "__setitem__" "bytearray.__setitem__":=.of (owner:="bytearray") (n:="__setitem__") (by refine aC (dY _ _) (aC cU ?_);kernel_rfl) (by decide+kernel) (by decide+kernel) (by decide+kernel) (by first|exact .inl (by decide+kernel)|exact .inr (by decide+kernel)) (by refine aC (jV _ _) ?_;kernel_rfl)
theorem yH:qC BA "bytearray.__setitem__"=some BC.«bytearray.__setitem__»:=entryFor_of_tree (by kernel_rfl)
theorem zE(a b c:aP):tB "bytearray.__setitem__" ⟨[a,b,c],[]⟩:=by unfold tB;refine aC (uN (id:="bytearray.__setitem__") (n:=['_','_','m','e','t','i','t','e','s','_','_']) (o:=['y','a','r','r','a','e','t','y','b']) (by kernel_rfl) w_) ?_;kernel_rfl
end Internal
namespace Internal
variable{W:Wd}
section
variable{prog:iS}{w:jH}{A:bT}{E:EP}{s:aO}
noncomputable def ue(b:List UInt8):Obj:={cls:=.type "bytearray",data:=.bytearray b.toArray 0}
theorem p9{M:nx}{a:Addr}{b:List UInt8}{Q:Array UInt8->aO->Prop}(ho:s.heap.get? a=some (ue b))(h:Q b.toArray s):wpAny M A (zI (.ref a)) Q E s:=by exact aA (JZ ho (wpAny_pure (wpAny_pure h)))
theorem Du{M:nx}{i:Int}{u:Tok}{Q:Option Int->aO->Prop}(h0:0<=i)(h1:i<2^63)(h:Q (some i) s):wpAny M A (qY (.int i u)) Q E s:=by
 refine aA (b_ (z4 s i u) Bx.lookup ?_);have hr:lE i=true:=by simp only[lE,bP,decide_eq_true_eq];exact(⟨aG (by decide) h0,by omega⟩)
 show wpAny M A (if(!lE i)=true then _ else pure (some i)) _ E s;exact aC hr (wpAny_pure h)
theorem G5{Q:EP}(ho:s.heap.get? a=some (ue b))(h0:0<=i)(h1:i<2^63)(hx:b[i.toNat]?=some x)(h:Q (.int x.toNat s.toks) {s with toks:=s.toks+1}):wpAny (bB prog w) A (FM (.ref a) (.int i u)) Q E s:=by
 have n:s.TypeIs (.ref a) "bytearray":=⟨_,ho,rfl⟩;unfold FM;try with_reducible refine c_ ?_
 refine aA (uF n (by decide) (aA (kG (name:=aD "__getitem__") n lC (lF lC n td ?_ (uh _ _)))));show wpAny _ _ (qY (.int i u)>>=_) _ _ s;refine aA (Du h0 h1 (aA (p9 ho ?_)));have hl:i.toNat<b.length:=(aR.mp hx).1;have hi:ae6 i b.toArray.size=some i.toNat:=by exact Ig h0 (J9 hl bC.symm)
 refine aC hi ?_;have I:(some i.toNat).bind (b.toArray[·]?)=some x:=by simpa using hx
 exact I▸(abm (wpAny_pure ⟨_,rfl,wpAny_pure h⟩))
end
theorem Gm(h:∀a b p,slice≠.Slice a b none p)(o i:aP):subscripted slice false o i=J6 [o,i] (FM o i):=by
 rcases slice<;>first|rfl|skip
 revert lower upper step pos;intro a b c p h;rcases c with _|c;·exact absurd rfl (h _ _ _)
 ·rfl
theorem Fm(h:A5 i n=some j):(0<=i/\j=i.toNat/\i<n)\/(i<0/\-(n:Int)<=i/\j=(n+i).toNat):=by
 unfold A5 at h;split at h
 · split at h;·simp only[dK]at h;exact .inl ⟨by assumption,h.symm,by assumption⟩
   ·contradiction
 · split at h;·simp only[dK]at h;exact .inr ⟨(l_.mp (by assumption)),by assumption,h.symm⟩
   ·contradiction
theorem QZ(O:dM W)(R:jE W S s)(x:V W s.heap a v)(y:V W s.heap b u)(hs:∀a b p,slice≠.Slice a b none p):pX W (V W) none A (cJ a b) (aX3 value slice v u) S s:=by
 intro K E hm;have B:=Gm hs;rcases a with _|_|_|_|bs|tl|_|_|ad|_|_|_|_<;>first|exact fA hm|rcases b with _|_|i|xs|_|_|_|_|_|_|_|_|_<;>first|exact fA hm|skip
 · refine eC λd=>?_;refine iK (n4 x) λt N=>?_;obtain rfl:=N;refine iK (pR y) λf C=>?_;obtain rfl:=C;revert hm;refineλh=>bX h λr hm=>bX r λh0 h1=>aY (n5 hm) λc ec hm=>aY (d_.mp ec) λo eo L=>?_;obtain rfl:=L;refine d (tC (T:="bytes") (id:="bytes.__getitem__") (oI _ _ _) FB.slot_bytes_getitem.lookup (getItem_bytes (o55 h1) h0 (o54 ((aR.mp eo).1)) ?_) (B _ _));refine eZ O R ?_ hm;exact⟨_,congrArg (λz=>D6 z _) (by simp[aS,eo])⟩
 · refine eC λd=>?_;refine gD (x8 x) λt vs n Y Z=>?_;obtain rfl:=Y;refine iR Z λι g w=>?_;clear Z;refine iK (pR y) λf G=>?_;obtain rfl:=G;revert hm;refineλh=>bX h λc5 hm=>bX c5 λh0 h1=>aY (n5 hm) λc ec hm=>aY (w.get ec) λz ez hz=>d ?_;have J:=(aR.mp ez).1;exact tC (T:="tuple") (id:="tuple.__getitem__") ⟨_,g,rfl⟩ F.slot_tuple_getitem.lookup (P.getItem_tuple (n:=n) g (o52 h0) (o10 h1) (k:=i.toNat) (Ig h0 (J9 J bC.symm)) (by simpa using ez) (fU R hz hm)) (B _ _)
 · have p:=gT x;subst p;refine iK (pR y) λf Q=>?_;obtain rfl:=Q;revert hm;refineλh=>aY h λo e hm=>?_;cases o with |list l=>
     refine eC λd=>?_;revert hm;refineλh=>bX h λH hm=>bX H λh0 h1=>aY (n5 hm) λc ec hm=>aY (iA.mp ec) λj ej ec=>dZ (R.list e) λvs n g w I=>aY (w.get ec) λz ez hz=>d (tC I.typeIs BB.lookup ?_ (B _ _));rcases Fm ej with⟨a1,a2,a3⟩|⟨a1,a2,a3⟩;·exact wpAny_getItem_list I a1 (o10 h1) (by refine iZ a2 ?_;simpa using ez) (fU R hz hm)
     · refine wpAny_getItem_list_neg I a1 (by simp[w.length];exact aW1 a2) (aG (by decide) h0) ?_ (fU R hz hm);simp only[bC,w.length,List.getElem?_toArray];have q:(i+(l.length:Int)).toNat=j:=aE8 a3;refine aC q ?_;exact ez|barr b=> refine eC λd=>?_;revert hm;refineλh=>bX h λU hm=>bX U λh0 h1=>aY (n5 hm) λc ec hm=>aY (d_.mp ec) λo eo X=>?_;obtain rfl:=X;exact d (tC (T:="bytearray") (id:="bytearray.__getitem__") ⟨_,((R.rep _ _ e).2),rfl⟩ lC.lookup (G5 ((R.rep _ _ e).2) h0 (o10 h1) eo (eZ O R V.int hm)) (B _ _))|idict es=> refine aY (n5 hm) λc ec hm=>aY ((R.rep _ _ e).2) λkvs D kv=>?_;have q:=kv.look i;rw[ec]at q;exact aY q.some_ λz ez hz=>tC D.dictOf.typeIs ac4.lookup (ae7 (knd:=mW prog W.w) (by simp[mW,oM]) D.dictOf.mapOf ez (eZ O R hz hm)) (B _ _)|_=>exact hm.elim
 · have p:=gT x;subst p;refine iK (CK y) λf m=>?_;obtain rfl:=m;revert hm;refineλh=>aY h λo e hm=>?_;cases o with |sdict es=> refine aY (n5 hm) λc ec hm=>aY ((R.rep _ _ e).2) λkvs D kv=>?_;have q:=kv.slook xs;rw[ec]at q;exact aY q.some_ λz ez hz=>tC D.typeIs ac4.lookup (ae7 (knd:=oq prog W.w) (by simp[oq,wD]) D.mapOf ez (eZ O R hz hm)) (B _ _)|_=>exact hm.elim
end Internal
end
namespace Internal
open PySem PySem.W PyProof.Rows PySem.SeqAt
variable{W:Wd}
noncomputable def Vp(W:Wd)(h:Heap):Option CV->aP->Prop|none,v=>v=.none|some c,v=>V W h c v
theorem CP{d:Nat}{o:Option CV}{K:Nat->CS->Prop}{E:KP}{S:CS}(h:uX d o K E S){hp:Heap}{v:aP}(x:Vp W hp o v):∃(i:Nat)(q:Option Int),K i S/\z6 v q/\((q=none/\i=d)\/∃k:Int,q=some k/\0<=k/\i=min k.toNat d):=by
 rcases o with _|c
 · have e:v=.none:=x;exact aC e (⟨d,none,h,.none,.inl ⟨rfl,rfl⟩⟩)
 · refine eC λf=>?_;rcases c<;>first|exact h.elim|skip
   refine iK x λt G=>?_;clear x;obtain rfl:=G;revert h;exactλg=>bX g λF h=>bX F λh0 h1=>f (⟨_,some _,h,.int _ _,.inr ⟨_,rfl,h0,rfl⟩⟩)
theorem AC{d:Nat}{o:Option CV}{K:Nat->CS->Prop}{E:KP}{S:CS}(h:uX d (some (o.getD (.int 0))) K E S){hp:Heap}{v:aP}(x:Vp W hp o v):∃(i:Nat)(q:Option Int),K i S/\z6 v q/\((q=none/\i=0)\/∃k:Int,q=some k/\0<=k/\i=min k.toNat d):=by
 rcases o with _|c
 · have e:v=.none:=x;subst e;revert h;exactλg=>bX g λa h=>⟨_,none,h,.none,.inl ⟨rfl,rfl⟩⟩
 · refine eC λf=>?_;rcases c<;>first|exact h.elim|skip
   refine iK x λt p=>?_;clear x;obtain rfl:=p;revert h;exactλg=>bX g λj h=>bX j λh0 h1=>f (⟨_,some _,h,.int _ _,.inr ⟨_,rfl,h0,rfl⟩⟩)
theorem HM{k:Int}{n:Nat}(h:0<=k):max 0 (min (if k<0 then k+(n:Int)else k) (n:Int))=((min k.toNat n:Nat):Int):=by refine aC (if_neg (o28 h)) ?_;exact aF0
theorem z0{lo hi:Option Int}{n i j:Nat}(hl:(lo=none/\i=0)\/∃k:Int,lo=some k/\0<=k/\i=min k.toNat n)(hh:(hi=none/\j=n)\/∃k:Int,hi=some k/\0<=k/\j=min k.toNat n):uG lo hi none n=((i:Int),(j:Int),1):=by
 simp only[uG,Option.getD_none,show(1:Int)>0 by decide,if_true];rcases hl with⟨rfl,rfl⟩|⟨k,rfl,h0,rfl⟩<;>rcases hh with⟨rfl,rfl⟩|⟨F,rfl,O,rfl⟩;·rfl
 ·simp only[HM O];rfl
 ·simp only[HM h0]
 ·simp only[HM h0,HM O]
theorem A8{α:Type}(l:List α)(i j:Nat):((sliceRange (i:Int) (j:Int) 1).filterMap (l.toArray[·]?))=Ed l i j:=by refine aC (sliceRange_one _ _) (aC (pick_run _ _ _) ?_);rfl
theorem Vs.cut(x:Vs W h l vs)(i j:Nat):Vs W h (Ed l i j) (Ed vs i j):=(x.drop i).take (j-i)
theorem G4{α:Type}(l:List α)(i j:Nat):(Ed l i j).length<=l.length:=by unfold Ed;simp;exact(aB (gR _ _) (xT _ _))
section
variable{prog:iS}{w:jH}{A:bT}{E:EP}{s:aO}
theorem Ii{M:nx}{v:aP}{k:Option Int}{Q:EP}(f:z6 v k)(h:Q (ac5 k) s):wpAny M A (do
  if v==.none then return .none
  if(<-JN v "__index__").isNone then rule "bytes.slice.part-no-index";raiseError"TypeError""slice indices must be integers or None or have an __index__ method"
  return ru (<-asIndex v)) Q E s:=by cases f with|none=>exact wpAny_pure h|int i t=>exact oj (if_neg (show¬((D6 i t==eT)=true)from mZ)) (aA (b_ (T:="int") (z4 s i t) int_index (aA (dQ (a:=i) rfl (wpAny_pure h)))))
theorem AL{M:nx}{sl:Addr}{I N:aP}{lo hi:Option Int}{Q:aP×aP×aP->aO->Prop}(hs:s.heap.IsSliceOf sl I N .none)(i:z6 I lo)(p:z6 N hi)(h:Q (ac5 lo,ac5 hi,ac5 none) s):wpAny M A (BC.Bytes.sliceParts (.ref sl)) Q E s:=by
 refine gA hs λos y J L=>?_;clear hs;exact aA (iP y L (x:=.none) rfl (abp (aA (iP y L (x:=I) rfl (aA (Ii i (aA (iP y L (x:=N) rfl (aA (Ii p (wpAny_pure h)))))))))))
theorem EX{a sl:Addr}{b:List UInt8}{I N:aP}{lo hi:Option Int}{i j:Nat}{Q:EP}(ho:s.heap.get? a=some (ue b))(hs:s.heap.IsSliceOf sl I N .none)(k:z6 I lo)(p:z6 N hi)(c:uG lo hi none b.length=((i:Int),(j:Int),1))(hz:b.length<=100000)(h:Q (.ref s.heap.objs.size) {s with heap:=s.heap.push (ue (Ed b i j))}):wpAny (bB prog w) A (FM (.ref a) (.ref sl)) Q E s:=by
 have n:s.TypeIs (.ref a) "bytearray":=⟨_,ho,rfl⟩;refine gA (id hs) λos y J L=>?_;unfold FM;try with_reducible refine c_ ?_
 refine aA (uF n (by decide) (aA (kG (name:=aD "__getitem__") n lC (lF lC n td ?_ (uh _ _)))));show wpAny _ _ (qY (.ref sl)>>=_) _ _ s;refine aA (aA (b_ (⟨os,y,J⟩) az0 (wpAny_pure (aA (sQ (⟨os,y,J⟩) (oj (if_neg (by decide)) (aA (AL hs k p (aA (p9 ho (aA (dQ (ae8 lo hi none b.toArray.size ((by decide))) (oj (aC bC (aC c rfl)) ?_)))))))))))));have e:sR b.toArray (i:Int) (j:Int) 1=(Ed b i j).toArray:=by unfold sR;exact aC (A8 _ _ _) rfl
 show wpAny _ _ (BC.Bytes.newBytearray (sR b.toArray (i:Int) (j:Int) 1)>>=_) _ _ s;refine aC e (aA (kH (wpAny_pure ⟨_,rfl,wpAny_pure h⟩) ?_));show(Ed b i j).toArray.size<=sizeLine;have:=G4 b i j;have:sizeLine=2^24:=by decide
 simp only[bC];exact aO3 (by assumption) hz (by assumption)
end
theorem Bf(o i:aP):subscripted (.Slice le he none p) false o i=J6 [i,o] (FM o i):=rfl
theorem Lo(O:dM W){A:bT}{value:aI}{le he:Option aI}{p:Pos}{a:CV}{lo hi:Option CV}{v J N:aP}{sl:Addr}{S:CS}{s:aO}(R:jE W S s)(x:V W s.heap a v)(B:Vp W s.heap lo J)(f:Vp W s.heap hi N)(hs:s.heap.IsSliceOf sl J N .none):pX W (V W) none A (sD a lo hi) (aX3 value (.Slice le he none p) v (.ref sl)) S s:=by
 intro K E hm;rcases a with _|_|_|_|_|_|_|_|ad|_|_|_|_<;>first|exact fA hm|skip
 · have q:=gT x;subst q;refine eC λd=>?_;revert hm;refineλk=>aY k λo e hm=>d ?_;cases o with |list l=>
     refine eC λd=>?_;revert hm;refineλk=>bX k λhz hm=>dZ (AC hm B) λi P hm C b1=>dZ (CP hm f) λj y hm u b2=>dZ (R.list e) λvs n g w I=>d ?_;have c:vs.toArray.size<=sizeLine:=by
       have:sizeLine=2^24:=by decide
       refine aC bC ?_;exact(aB (aB (aB (bA w.length) hz) (by decide)) (bA this.symm))
     refine tC I.typeIs BB.lookup (II I hs C u .none (by simp) ?_ c) (Bf _ _);have z:uG P y none vs.toArray.size=((i:Int),(j:Int),1):=by refine aC bC (aC w.length ?_);exact z0 b1 b2
     have F:JO vs.toArray P y none=(Ed vs i j).toArray:=by unfold JO;refine aC z ?_;exact aC (A8 _ _ _) rfl
     refine aC F (se (n:=s.toks) O R hm ⟨_,0,aU _ rfl,(w.cut i j).keep (λb o Q e Q=>aK _ e)⟩)|barr b=> refine eC λd=>?_;revert hm;refineλk=>bX k λhz hm=>dZ (AC hm B) λi P hm C b1=>dZ (CP hm f) λj y hm u b2=>d (tC (T:="bytearray") (id:="bytearray.__getitem__") ⟨_,((R.rep _ _ e).2),rfl⟩ lC.lookup (EX ((R.rep _ _ e).2) hs C u (z0 b1 b2) hz (se (n:=s.toks) O R hm (aU _ rfl))) (Bf _ _))|_=>exact hm.elim
 · refine bX (IW x) λL U=>aC L (iR (O.script _ R.stat) λI H hz=>?_);rcases lo with _|lo
   · rcases hi with _|hi;·exact fA hm
     rcases hi with _|_|i|_|_|_|_|_|_|_|_|_|_<;>first|exact fA hm|skip
     refine eC λd=>?_;revert hm;refineλk=>bX k λD hm=>bX D λh0 h1=>?_;have e:J=.none:=B;subst e;refine iK f λt m=>?_;clear f;obtain rfl:=m;refine d ?_;subst U;have c:W.svs.toArray.size<=sizeLine:=by
       have q:=H.length;have:sizeLine=2^24:=by decide
       refine aC bC ?_;exact(aB (aB (aB (bA q) hz) (by decide)) (bA this.symm))
     refine tC I.typeIs BB.lookup (II I hs .none (.int i t) .none (by simp) ?_ c) (Bf _ _);have z:uG none (some i) none W.svs.toArray.size=(((0:Nat):Int),((min i.toNat W.svs.length:Nat):Int),1):=by refine aC bC ?_;exact z0 (.inl ⟨rfl,rfl⟩) (.inr ⟨i,rfl,h0,rfl⟩)
     have F:JO W.svs.toArray none (some i) none=(Ed W.svs 0 (min i.toNat W.svs.length)).toArray:=by unfold JO;refine aC z ?_;exact aC (A8 _ _ _) rfl
     refine aC F (se (n:=s.toks) O R hm ⟨_,0,aU _ rfl,?_⟩);have X:Ed W.svs 0 (min i.toNat W.svs.length)=W.svs.take i.toNat:=by unfold Ed;simp only[r8,ae9];refine qP FY ?_;exact aN6
     refine X▸?_;have G:∀(vs:List aP)(ns:List Int)(h:Heap),mX vs ns->Vs W h (ns.map eD) vs:=by
       intro vs ns h q;induction q with|nil=>trivial|cons i t r Y=>exact⟨V.int,Y⟩
     exact(G _ _ _ H).take _
   ·exact fA hm
end Internal
namespace Internal
open PySem PySem.W PyProof.Rows PySem.SeqAt
variable{W:Wd}
section
variable{prog:iS}{w:jH}{K:Type}[DecidableEq K]{knd:CF prog w K}{A:bT}{E:EP}{s:aO}
theorem we(kvs:List (K×aP))(k:K)(v:aP):(nz kvs k v).length=if(kvs.any λR=>R.1=k)then kvs.length else kvs.length+1:=by unfold nz;split<;>simp
theorem ww{d:Addr}{kvs:List (K×aP)}{k:K}{key v:aP}{Q:Unit->aO->Prop}(q:knd.is k key=true)(hm:s.heap.DictAt knd d kvs kvs.length)(c:kvs.length<=sizeLine)(B:∀h',h'.DictAt knd d (nz kvs k v) (nz kvs k v).length->jF d s.heap h'->Q () {s with heap:=h',toks:=s.toks+1}):wpAny (bB prog w) A (dictSet d key v) Q E s:=by
 refine yN hm λo es ho f hd hk hp hn=>?_;clear hm;have O:es.size<=sizeLine:=aK6 (show es.toList.length=es.size by rfl) hp.length c;have j:(es.findIdx? λe=>knd.is k e.key)=kvs.findIdx? λR=>decide (R.1=k):=by refine iZ (hp.findIdx k) ?_;obtain⟨l⟩:=es;simp
 refine c_ (aA (knd.pyHash q (c_ (aA (wpAny_dictFind_of (s:={s with toks:=s.toks+1}) q ho hd hk ?_)))));clear c;cases hi:es.findIdx? λe=>knd.is k e.key with
 |some i=>
   have C:=any_of_findIdx_some (j▸hi);have hl:(es.toList.findIdx? λe=>knd.is k e.key)=some i:=by refine iZ hi ?_;obtain⟨l⟩:=es;simp
   refine aA (i7 (aA (wpAny_updateDict (s:={s with toks:=s.toks+1}) ho hd (jB (B _ (aC (we _ _ _) (aC (if_pos C) ⟨_,_,dH _ ho (JP (MO hd _)),f.mapDict _,MO hd _,hk.modify _ _,?_,?_⟩)) (iE ..))))));·rw[nz,if_pos C];have:=hp.modify hn hl v;obtain⟨l⟩:=es;simpa using this
   ·rw[nz,if_pos C,keys_map_store];exact hn|none=>
   have m:=not_mem_of_findIdx_none (j▸hi);have C:¬(kvs.any λR=>decide (R.1=k))=true:=λh=>by exact aY (tZ.mp h) λR z he=>m (bR.mpr ⟨R,z,of_decide_eq_true he⟩)
   refine aA (i7 (wpAny_updateDictKeys (hz:=O) (s:={s with toks:=s.toks+1}) ho hd (B _ (aC (we _ _ _) (aC (if_neg C) ⟨_,_,dH _ ho (JP (IJ hd _)),f.mapDictKeys _,IJ hd _,hk.push q _,?_,?_⟩)) (iE ..))))
   · rw[nz,if_neg C];have:=hp.append q (knd.hash k) v;refine eC λn=>?_;obtain⟨l⟩:=es;refine n ?_;simpa using this
   · rw[nz,if_neg C,bW,lW];exact⟨hn,by simp,λa ha b g e=>by
       simp only[fH,yR,fO]at g;exact m (g▸e▸ha)⟩
theorem Da{d:Addr}{key v:aP}{Q:Unit->aO->Prop}(n:s.TypeIs (.ref d) "dict")(h:wpAny (bB prog w) A.in1 (dictSet d key v) (λa s'=>Q () s') E s):wpAny (bB prog w) A (ac6 (.ref d) key v) Q E s:=by
 refine c_ (aA (uF n (by decide) ?_));refine aA (kG (name:=aD "__setitem__") n ac7 (lF ac7 n entry_dict_setitem ?_ (args_dict_setitem _ _ _)));refine aA (wpAny_notOrdered_dict n ?_);show wpAny _ _ (dictSet d key v>>=_) _ _ s;exact aA (gS h (λa s' q=>wpAny_pure ⟨.none,rfl,wpAny_pure q⟩) λa a q=>q)
end
theorem aD9{X:Type}[DecidableEq X]{k y:X}{w u:aP}{q:List (X×aP)}(e:y=k)(hn:y∉q.map (·.1)):nz ((y,w)::q) k u=(y,u)::q:=by
 subst e;have m:(q.map λR=>if R.1=y then(R.1,u)else R)=q:=by
  conv=>rhs;rw[<-List.map_id q]
  exact iY λR A=>if_neg λz=>hn (bR.mpr ⟨R,A,z⟩)
 simp[nz,m]
theorem aK1{X:Type}[DecidableEq X]{k y:X}{w u:aP}{q:List (X×aP)}(e:¬y=k):nz ((y,w)::q) k u=(y,w)::nz q k u:=by simp only[nz,List.any_cons,e,decide_false,D7,fH,if_false];split<;>rfl
theorem KV.set'{X:Type}[DecidableEq X]{h:Heap}{k:X}{c:CV}{u:aP}{f:List (X×CV)->List (X×CV)}(h0:f []=[(k,c)])(h1:∀y w r,k=y->f ((y,w)::r)=(y,c)::r)(h2:∀y w r,¬k=y->f ((y,w)::r)=(y,w)::f r){es:List (X×CV)}{kvs:List (X×aP)}(x:KV W h es kvs)(hn:(kvs.map (·.1)).Nodup)(y:V W h c u):KV W h (f es) (nz kvs k u):=by induction es generalizing kvs with
 |nil=>
   rcases kvs with _|_;·exact h0▸⟨⟨rfl,y⟩,trivial⟩
   ·exact fA x|cons a r j=>
   obtain⟨z,d⟩:=a;rcases kvs with _|⟨⟨g,w⟩,q⟩;·exact x.elim
   · revert x;refineλn=>bX n λm x=>bX m λl i=>?_;have l:z=g:=l;have hn:=cZ.mp hn;by_cases e:k=z;·exact aC (h1 _ _ _ e) (aC (aD9 (l.symm.trans e.symm) hn.1) (⟨⟨l,y⟩,x⟩))
     ·exact aC (h2 _ _ _ e) (aC (aK1 λq=>e (q.symm.trans l.symm)) (⟨⟨l,i⟩,j x hn.2⟩))
theorem YG{α:Type}{x y:Int}{v w:α}{r:List (Int×α)}(h:x=y):xH x v ((y,w)::r)=(y,v)::r:=by
 show(match decide (x=y)with|true=>(y,v)::r|false=>(y,w)::xH x v r)=_;exact aC (decide_eq_true h) rfl
theorem XE{α:Type}{x y:Int}{v w:α}{r:List (Int×α)}(h:¬x=y):xH x v ((y,w)::r)=(y,w)::xH x v r:=by
 show(match decide (x=y)with|true=>(y,v)::r|false=>(y,w)::xH x v r)=_;exact aC (decide_eq_false h) rfl
theorem KW{α:Type}{x y:Str}{v w:α}{r:List (Str×α)}(h:qW x y=true):nV x v ((y,w)::r)=(y,v)::r:=by show(match qW x y with|true=>(y,v)::r|false=>(y,w)::nV x v r)=_;exact aC h rfl
theorem LN{α:Type}{x y:Str}{v w:α}{r:List (Str×α)}(h:qW x y=false):nV x v ((y,w)::r)=(y,w)::nV x v r:=by show(match qW x y with|true=>(y,v)::r|false=>(y,w)::nV x v r)=_;exact aC h rfl
theorem KV.set{h:Heap}{es:List (Int×CV)}{kvs:List (Int×aP)}(x:KV W h es kvs)(hn:(kvs.map (·.1)).Nodup)(k:Int){c:CV}{u:aP}(y:V W h c u):KV W h (xH k c es) (nz kvs k u):=x.set' (f:=xH k c) rfl (λ_ _ _ e=>YG e) (λ_ _ _ e=>XE e) hn y
theorem KV.sset{h:Heap}{es:List (Str×CV)}{kvs:List (Str×aP)}(x:KV W h es kvs)(hn:(kvs.map (·.1)).Nodup)(k:Str){c:CV}{u:aP}(y:V W h c u):KV W h (nV k c es) (nz kvs k u):=x.set' (f:=nV k c) rfl (λ_ _ _ e=>by subst e;exact KW (oX _)) (λ_ _ _ e=>LN (tK e)) hn y
theorem KV.length{X:Type}{h:Heap}{es:List (X×CV)}{kvs:List (X×aP)}(x:KV W h es kvs):kvs.length=es.length:=by induction es generalizing kvs with
 | nil => rcases kvs with _|_;·rfl
          ·exact fA x|cons a r j=>cases kvs with|nil=>exact x.elim|cons b q=>simp[j x.2]
theorem jE.updI{S:CS}{s:aO}{h':Heap}(R:jE W S s){a:Addr}{o:CO}(e:S a=some o)(k:∀b ob,b≠a->s.heap.get? b=some ob->h'.get? b=some ob):qn W s.heap h':=by
 intro b ob _ eb i;refine k b ob (λq=>?_) eb;clear k;subst q;exact((R.rep _ _ e).2.notImm eb).1 i
theorem Hj(O:dM W){A:bT}{a b c:CV}{v u z:aP}{S:CS}{s:aO}(R:jE W S s)(x:V W s.heap a v)(y:V W s.heap b u)(N:V W s.heap c z):pX W (λ_(_:Unit)(_:Unit)=>True) none A (lJ a b c) (ac6 v u z) S s:=by
 intro K E hm;rcases a with _|_|_|_|_|_|_|_|ad|_|_|_|_<;>first|exact fA hm|rcases b with _|_|i|xs|_|_|_|_|_|_|_|_|_<;>first|exact fA hm|skip
 · have p:=gT x;subst p;refine iK (pR y) λJ t=>?_;obtain rfl:=t;revert hm;refineλh=>aY h λo e hm=>?_;cases o with |list l=>
     refine eC λB=>?_;revert hm;refineλh=>bX h λr hm=>iR r λh0 h1 h2=>dZ (R.list e) λvs n g w I=>B (ki_setAt (n:=n) (items:=vs.toArray) g h0 (o10 h2) (by refine aC bC (aC w.length ?_);exact h1) ?_);have k:∀bb ob,bb≠ad->s.heap.get? bb=some ob->(s.heap.update ad (fF (·.setIfInBounds i.toNat z))).get? bb=some ob:=λbb ob j e=>(bY _ _ (eY j)).trans e;have q:=sA (n:=n) (items:=vs.toArray) g (·.setIfInBounds i.toNat z);have H:vs.toArray.setIfInBounds i.toNat z=(vs.set i.toNat z).toArray:=by simp
     rw[H]at q;refine ym (o:=.list (l.set i.toNat c)) (s':={s with heap:=s.heap.update ad (fF (·.setIfInBounds i.toNat z))}) O R e k rfl rfl ⟨vs.set i.toNat z,_,q,(w.set _ N).keep (R.updI e k)⟩ trivial hm|idict es=>
     refine eC λB=>?_;revert hm;refineλh=>bX h λhz hm=>aY ((R.rep _ _ e).2) λkvs D T=>B ?_;have hl:=T.length;have d:kvs.length<=sizeLine:=by
       have:sizeLine=2^24:=by decide
       exact o56 this hl hz
     refine Da D.dictOf.typeIs (ww (knd:=mW prog W.w) (k:=i) (by simp[mW,oM]) (hl▸D) d λh' G F=>?_);have k:∀bb ob,bb≠ad->s.heap.get? bb=some ob->h'.get? bb=some ob:=λbb ob j e=>(F.2 bb j).trans e;have Y:=(T.set D.nodup i N).keep (R.updI e k);exact ym (o:=.idict (xH i c es)) (s':={s with heap:=h',toks:=s.toks+1}) O R e k rfl rfl ⟨_,by refine iZ Y.length ?_;exact G,Y⟩ trivial hm|_=>exact hm.elim
 · have p:=gT x;subst p;refine iK (CK y) λJ m=>?_;obtain rfl:=m;revert hm;refineλh=>aY h λo e hm=>?_;cases o with |sdict es=>
     revert hm;refineλh=>bX h λhz hm=>aY ((R.rep _ _ e).2) λkvs D T=>?_;have hl:=T.length;have d:kvs.length<=sizeLine:=by
       have:sizeLine=2^24:=by decide
       exact o56 this hl hz
     have C:(kvs.map (·.1)).Nodup:=by refine vY D λf f f f f f f f hn=>?_;clear D;exact hn
     refine wpAny_setItem_pairs (knd:=oq prog W.w) (k:=xs) (by simp[oq,wD]) D (λh' G F=>?_) d;have k:∀bb ob,bb≠ad->s.heap.get? bb=some ob->h'.get? bb=some ob:=λbb ob j e=>(F.2 bb j).trans e;have Y:=(T.sset C xs N).keep (R.updI e k);exact ym (o:=.sdict (nV xs c es)) (s':={s with heap:=h',toks:=s.toks+1}) O R e k rfl rfl ⟨_,G,Y⟩ trivial hm|_=>exact hm.elim
end Internal
namespace Internal
set_option backward.match.sparseCases false
open PySem PySem.W PyProof.Rows PySem.SeqAt Builtin Builtin.ObjectAttr
variable{W:Wd}
theorem Ct{h:Heap}{d:Addr}{m:Str->Option aP}{o:Obj}{x:Str}(n:h.Ns d m)(e:h.get? d=some o):lookIn x o=some (m x):=by
 refine qx n λT es ep A hd hk hf=>?_;clear n;refine aC ((aE (e.symm.trans A))) ?_;unfold lookIn;refine hd▸?_;dsimp only;have:=hf x;unfold nsFind findBy at this;replace this:=(IK)▸this;have C:es.toList.any (·.refKey)=false:=by refine aC Array.any_toList (qP Hu ?_);intro e he;refine sJ (hk e he) λn t h=>?_;simp[FZ,h]
 cases q:es.toList.find? (·.key.isStr x)with |some D=> rw[(rfl:(λe:JQ=>e.key.isStr x)=λe=>(λn v=>v.isStr n) x e.key)]at q;rw[q]at this;simpa using this|none=> rw[(rfl:(λe:JQ=>e.key.isStr x)=λe=>(λn v=>v.isStr n) x e.key)]at q;replace this:=q▸this;refine aC C ?_;simp[<-this]
theorem FI{K:Frag}{C:Addr}{cd:af0}{a:Obj}{x:Str}{v:aP}(e:FV K C=some cd)(hd:cd.hasDict=true)(ha:oo K (.ref C) x=some none)(hl:lookIn x a=some (some v)):findObj K C (some a) x=some (.value v):=by
 have ho:Mw cd (some a) x=some (some v):=by
  unfold Mw;refine aC hd ?_;exact hl
 unfold findObj;exact aC e (aC (nN _ _) (aC ha (congrArg (λo=>FO o _) ho)))
theorem jE.obj{S:CS}{s:aO}(R:jE W S s){a d:Addr}{c:Nat}(e:S a=some (.inst c d)\/S a=some (.exc c (some d))){es:List (Str×CV)}(ed:S d=some (.flds es)):((∃k,i_ c fY=some k)/\((S a=some (.inst c d)/\dU c "__init__"≠some 36)\/dU c "__init__"=some 36))/\∃P b m,InstAt s.heap a P c (some b)/\P.dict=some d/\s.heap.get? d=some b/\b.cls=.type "dict"/\s.heap.Ns1 d m/\∀x,Vo W s.heap (dA x es) (m x):=by
 refine eC λh=>ug ((R.rep d _ ed).2) λC m n i=>aY C λb t p=>h ?_;rcases e with e|e;·exact iR ((R.rep a _ e).2) λg u hk=>⟨⟨hk.1,.inl ⟨e,hk.2⟩⟩,_,b,m,⟨g,rfl,rfl,t⟩,rfl,t,p,n,i⟩
 ·refine eC λh=>yn ((R.rep a _ e).2) λE o vs g f D Y j=>bX E λhk G=>h (⟨⟨hk,.inr G⟩,o,b,m,⟨g,f,by unfold notCls;exact aC Y rfl,by refine aC D ?_;exact t⟩,D,t,p,n,i⟩)
theorem B3(self:aP):MP (.builtin "BaseException.__getattribute__") self=pure (.builtin "BaseException.__getattribute__",[self]):=PySem.F.excAttr_ValueError.ga.bind self
theorem I0{w:jH}{A:bT}{E:EP}{s:aO}{K:Frag}{x C:Addr}{R:Obj}{a:Option Obj}{name:Str}{expr:Bool}{Q:EP}{v:aP}(X:K.In s.heap)(I:InstAt s.heap x R C a)(J:oo K (.ref C) "__getattribute__"=some (some (.builtin "BaseException.__getattribute__")))(P:oo K (.ref C) "__getattr__"=some none)(O:ML K (.ref C) (.type "BaseException")=some true)(hf:findObj K C a name=some (.value v))(hh:az2 v=true)(h:Q v {s with toks:=s.toks+1}):wpAny (bB prog w) A (getAttr (.ref x) name expr) Q E s:=by
 have B:=I.type (M:=bB prog w);refine aA (Bz (c_ (aA (rV (s:={s with toks:=s.toks+1}) B (aA (rV (s:={s with toks:=s.toks+1}) (BD (M:=bB prog w) X J) ?_))))));dsimp only;rw[show(onTheHeap (lN C)&&ot "BaseException.__getattribute__"==ot "object.__getattribute__")=false from by exact aC (show(ot "BaseException.__getattribute__"==ot "object.__getattribute__")=false from by decide+kernel) (aC (Cb _) rfl),if_neg (by decide)];refine aA (rV (s:={s with toks:=s.toks+1}) (looks_hook X (P)) (aA (IM (c_ ?_))));unfold callGetattribute;refine aC (show(expr&&onTheHeap (ot "BaseException.__getattribute__"))=false from Cb _) (aC (if_neg (by decide)) ?_);unfold boundAndCalled;refine aC (B3 _) (abp (z8 (xV PySem.F.excAttr_ValueError.ga.plain PySem.F.entry_bexc_ga (F3 (s:={s with toks:=s.toks+1}) (i:="BaseException.__getattribute__") (owner:="BaseException") (n:="__getattribute__") (by decide+kernel) (by decide+kernel) (B.andThen (MQ X O)) (PySem.F.args_bexc_ga (.ref x) (.str name s.toks)) (abp (abp (aA (rV (s:={s with toks:=s.toks+1}) B (aA (rV (s:={s with toks:=s.toks+1}) (looks_find (M:=bB prog w) X I hf) (wpAny_pure ?_)))))))))));show wpAny _ _ (handedOut v) _ _ _;refine aC (handedOut_of hh) ?_;exact wpAny_pure h
theorem Qt(O:dM W){A:bT}{a:CV}{x:Str}{v:aP}{S:CS}{s:aO}(R:jE W S s)(y:V W s.heap a v):pX W (V W) none A (dI a x) (getAttr v x true) S s:=by
 intro K E hm;unfold dI at hm;cases hx:dA x o_ with |none=>replace hm:=hx▸hm;exact hm.elim|some i=>
  rw[hx]at hm;dsimp only at hm;have G:∀{ad d:Addr}{c:Nat}{es:List (Str×CV)},a=.ref ad->(S ad=some (.inst c d)\/S ad=some (.exc c (some d)))->S d=some (.flds es)->dU c x=none->((iG (dA x es)).bind zc) K E S->wpAny (bB prog W.w) A (getAttr v x true) (Qk W (V W) none S s K) (Qe W none S s E) s:=by
   intro ad d c es ea e ed Q w;clear hm;subst ea;have p:=gT y;subst p;refine eC λg=>uS (R.obj e ed) λL Y B m I F t r n z=>bX L λl H=>?_;obtain⟨k,hk⟩:=l;refine g ?_;have hn:=O.attr c k x i hk hx Q;refine aY (n5 w) λcv ec hm=>?_;have q:=z x;replace q:=ec▸q;refine aY q.some_ λu eu D=>?_;have hl:=Ct (x:=x) n.ns t;replace hl:=eu▸hl;have hand:az2 u=true/\K cv S:=by
    clear hx Q w y F t r n z eu ec;rcases cv<;>first|exact hm.elim|refine⟨?_,hm⟩
    all_goals exact D.shape (P:=λu=>az2 u=true) rfl (λb=>rfl) (λb b=>rfl) (λb b=>rfl) (λb b=>rfl) (λb=>rfl) (λb=>rfl) nofun
   rcases BE (dU c "__init__"=some 36)with H|H;·exact eC λg=>qJ (O.clsE c k hk H) λX J U T b=>aY X λcd j hh=>g (I0 (O.kIn _ R.stat) I J U T (FI j hh hn hl) hand.1 (eZ O R D hand.2))
   ·exact wi (O.cls c k hk H) λcd j hh J b=>get_value (O.kIn _ R.stat) I J (FI j hh hn hl) hand.1 (eZ O R D hand.2)
  refine eC λg=>?_;clear O R hx y;rcases a<;>first|exact hm.elim|skip
  revert hm;refineλh=>aY h λo e hm=>g ?_;cases o with
  |inst c d=> have hm:(match dU c x with |none=>(JY d).bind λf=>(match f with|.flds es=>(iG (dA x es)).bind zc|_=>.fail)|some _=>pS) K E S:=hm;cases q:dU c x with |some _=>rw[q]at hm;exact hm.elim|none=> rw[q]at hm;refine eC λg=>?_;revert hm;refineλh=>aY h λf ed hm=>g ?_;rcases f<;>first|exact G rfl (.inl e) ed q hm|exact hm.elim
  |exc c d=>cases d with|none=>exact hm.elim|some d=> have hm:(match dU c x with |none=>(JY d).bind λf=>(match f with|.flds es=>(iG (dA x es)).bind zc|_=>.fail)|some _=>pS) K E S:=hm;cases q:dU c x with |some _=>rw[q]at hm;exact hm.elim|none=> rw[q]at hm;refine eC λg=>?_;revert hm;refineλh=>aY h λf ed hm=>g ?_;rcases f<;>first|exact G rfl (.inr e) ed q hm|exact hm.elim
  |_=>exact hm.elim
theorem Jv{es:List (Str×CV)}{x y:Str}{c:CV}:dA y (nV x c es)=if y=x then some c else dA y es:=by induction es with
 |nil=>
   by_cases h:y=x;·subst h;refine aC (if_pos rfl) ?_;exact sm (oX _)
   ·refine aC (if_neg h) ?_;exact pA (tK h)|cons a r j=>
   obtain⟨z,d⟩:=a;by_cases hx:x=z
   · subst hx;refine aC (KW (oX _)) ?_;by_cases h:y=x;·subst h;exact aC (if_pos rfl) (aC (sm (oX _)) rfl)
     ·exact aC (if_neg h) (aC (pA (tK h)) (aC (pA (tK h)) rfl))
   · refine aC (LN (tK hx)) ?_;by_cases hy:y=z
     · subst hy;exact aC (if_neg λq=>hx q.symm) (aC (sm (oX _)) (aC (sm (oX _)) rfl))
     ·refine aC (pA (tK hy)) (aC (pA (tK hy)) ?_);exact j
theorem La{P:List aP->Prop}(h0:P [.type "Exception",.type "BaseException",.type "object"])(h1:∀c r,P r->P (.ref c::r)):∀{l:List aP},Cu l=true->P l:=by
 intro l e;induction l with |nil=>exact rR e|cons v r j=>
   rcases IP.mp (show(decide (v::r=_)||((V_ v).isSome&&Cu r))=true from e)with h|h;·exact of_decide_eq_true h▸h0
   · have h:=dR.mp h;clear h0 e;rcases v<;>first|exact h1 _ _ (j h.2)|exact rR h.1
theorem Mq(self:aP){l:List aP}(e:Cu l=true):refuseLoop self "__setattr__" l=pure ():=La (P:=λl=>refuseLoop self "__setattr__" l=pure ()) (PySem.F.store_Exception.passes self) (λc r h=>by refine aC (refuseLoop_ref _ _ _ _) ?_;exact h) e
theorem IX{l:List aP}(e:Cu l=true):l.contains (.type "object")=true/\l.isEmpty=false:=La (P:=λl=>l.contains (.type "object")=true/\l.isEmpty=false) ⟨by decide+kernel,rfl⟩ (λc r h=>⟨aC List.contains_cons (aC h.1 (aC (FP _) rfl)),rfl⟩) e
set_option tactic.hygienic true in theorem CA{prog:iS}{w:jH}{A:bT}{R:oO->aO->Prop}{s:aO}{K:Frag}{x C:Addr}{ox:Obj}{od:Option Obj}{name:Str}{tk:Tok}{v:aP}(X:K.In s.heap)(I:InstAt s.heap x ox C od)(hp:Ic K C=true)(ht:oo K (.ref C) name=some none)(h:∀b,wpAny (bB prog w) A.in1 (az3 (.ref x) (.ref C) (.str name tk) name v b) (λfin s'=>match fin with|.done f=>R (.ok f) s'|.again c'=>c'.quiet=true/\vT (bB prog w) A c' R s') (λe s'=>R (.error e) s') s):vT (bB prog w) A (.call (.builtin "object.__setattr__") ⟨[.ref x,.str name tk,v],[]⟩) R s:=by
 have SF:=PySem.F.store_object;unfold Ic at hp;split at hp
 · rename_i cd hc;exact bX (IX hp) λho ne=>xV SF.slot.plain SF.entry (@F3 (bB prog w) _ _ s "object.__setattr__" "object" "__setattr__" (.ref x) [.str name tk,v] [] _ SF.kind SF.split (I.type.andThen (looks_mroIn X (by unfold mroIn;rw[hc,nN,if_neg (by rw[ne];decide),ho]))) (SF.args (.ref x) (.str name tk) v) (oj (aC (osa_eq _ _ _ _) (aC (refuse_eq _ _) rfl)) (aA (aA (I.type.here (aA (((xW X hc).andThen .now:mS (bB prog w) s.heap (mroOf (.ref C)) cd.mro).here (oj (Mq _ hp) (wpAny_pure (aA (I.type.here (aA ((BD X ht).here (abp (h _)))))))))))))))
 ·exact rR hp
theorem Cq(O:dM W){A:bT}{c:CV}{x:Str}{z:aP}{S:CS}{s:aO}{d:Addr}{es:List (Str×CV)}{g:Tok}{P:Fin->aO->Prop}{E:EP}(R:jE W S s)(ed:S d=some (.flds es))(N:V W s.heap c z)(I:es.length<=100)(h:∀s',eH W none S s (S.put d (.flds (nV x c es))) s'->P (.done (.ret .none)) s'):wpAny (bB prog W.w) A (storeInDict d (.str x g) x z) P E s:=by
 refine eC λJ=>ug ((R.rep d _ ed).2) λF m n f=>aY F λb u p=>J (abp (aA (aw3 n λh' G H t=>?_)));have X:Within (λy=>if y=x then some z else m y) (x::es.map (·.1)):=by
   intro y hy;by_cases q:y=x;·subst q;simp
   · simp only[if_neg q]at hy;have:=f y;cases q2:dA y es with |none=>rw[q2]at this;exact absurd this.none_ hy|some c0=>
       have:∀es:List (Str×CV),dA y es=some c0->y∈es.map (·.1):=by intro es;induction es with|nil=>exact nofun|cons a r l=>
           obtain⟨w,d⟩:=a;intro h;by_cases hw:y=w;·subst hw;simp
           · rw[pA (tK hw)]at h;exact eV _ (l h)
       exact eV _ (this es q2)
 refine qi (G.count X) λo2 j k g2 d2 v=>?_;refine aA (af1 g2 (by
   refine aC d2 ?_;refine pastItsLine_dict ?_;have:sizeLine=2^24:=by decide
   simp only[kQ,aJ]at v;exact aC3 this I v) (wpAny_pure ?_));have B:∀bb ob,bb≠d->s.heap.get? bb=some ob->h'.get? bb=some ob:=λbb ob i e=>(H.2 bb i).trans e;refine h _ (vt (s':={s with heap:=h',toks:=s.toks+1}) (o:=.flds (nV x c es)) O R ed B rfl rfl ⟨?_,_,G,λw=>?_⟩);·exact gA (t b u) λC e1 D L=>⟨C,e1,D.trans p⟩
 · refine aC Jv ?_;split;·exact V.keep N (R.updI (h':=h') ed B)
   ·exact(f w).keep (R.updI (h':=h') ed B)
theorem GL(O:dM W){A:bT}{a c:CV}{x:Str}{v z:aP}{S:CS}{s:aO}(R:jE W S s)(y:V W s.heap a v)(xz:V W s.heap c z):pX W (λ_(_:Unit)(_:Unit)=>True) none A (fR a x c) (setAttr v x z) S s:=by
 intro K E hm;unfold fR at hm;cases hx:dA x o_ with |none=>rw[hx]at hm;exact hm.elim|some i=>
  rw[hx]at hm;dsimp only at hm;rcases a<;>first|exact hm.elim|skip
  revert a;intro ad y hm;have p:=gT y;subst p;revert hm;refineλC=>aY C λo e hm=>?_;have R1:jE W S {s with toks:=s.toks+1}:=⟨R.stat,R.rep,R.gens,R.os⟩;have X1:eH W none S s S {s with toks:=s.toks+1}:=eO O R (λj j e=>e) rfl rfl;have X:=O.kIn _ R.stat;have G:∀{cn d:Addr}{es:List (Str×CV)},(S ad=some (.inst cn d)\/S ad=some (.exc cn (some d)))->S d=some (.flds es)->dU cn x=none->es.length<=100->K () (S.put d (.flds (nV x c es)))->wpAny (bB prog W.w) A (setAttr (.ref ad) x z) (Qk W (λ_(_:Unit)(_:Unit)=>True) none S s K) (Qe W none S s E) s:=by
   intro cn d es e ed J e0 f4;refine eC λh=>uS (R.obj e ed) λe7 ox od m I D e6 B n hv=>bX e7 λw H=>?_;obtain⟨k,hk⟩:=w;refine h ?_;have hn:=O.attr cn k x i hk hx J;have body:∀{A:bT}{P:Fin->aO->Prop}{E:EP}{cd:af0}{tk:Tok}{b:Bool},FV W.K cn=some cd->cd.hasDict=true->(∀s',eH W none S {s with toks:=s.toks+1} (S.put d (.flds (nV x c es))) s'->P (.done (.ret .none)) s')->wpAny (bB prog W.w) A (az3 (.ref ad) (.ref cn) (.str x tk) x z b) P E {s with toks:=s.toks+1}:=by
    intro A P E cd tk b u hh hP;refine eC λh=>?_;obtain⟨e3,g,f6,-⟩:=I;obtain⟨oc,e5,f3,t⟩:=ox;refine h ?_;clear y e6 B n hv f6;subst g D;exact abp (aA (aA (xX e3 (aA (rV (s:={s with toks:=s.toks+1}) (xW X u) (oj (aC hh rfl) (wpAny_pure (a:=some d) (Cq O R1 ed xz e0 hP))))))))
   have fin:∀s',eH W none S {s with toks:=s.toks+1} (S.put d (.flds (nV x c es))) s'->Qk W (λ_(_:Unit)(_:Unit)=>True) none S s K () s':=λs' X2=>⟨(),_,X1.trans X2,trivial,f4⟩;rcases H with⟨-,H⟩|H;·refine AV (O.cls cn k hk H) λcd u hh L j U Q=>af2 X I U (osa_open (s:={s with toks:=s.toks+1}) (r:=none) X I Q (by unfold takerIn;refine aC hn ?_;rfl) λb=>body u hh fin)
   ·exact eC λh=>rH (O.clsE cn k hk H) λe9 L e8 e4 f5 U Q=>aY e9 λcd u hh=>h (af2 X I U (CA (s:={s with toks:=s.toks+1}) X I Q hn λb=>body u hh fin))
  cases o with
  |inst cn d=> have hm:(match dU cn x with |none=>(JY d).bind λf=>(match f with|.flds es=>(gd (es.length<=100)).bind λj=>Ec d (.flds (nV x c es))|_=>.fail)|some _=>pS) K E S:=hm;cases J:dU cn x with|some _=>rw[J]at hm;exact hm.elim|none=> rw[J]at hm;refine eC λh=>?_;revert hm;refineλC=>aY C λf ed hm=>h ?_;rcases f<;>first|exact hm.elim|exact G (.inl e) ed J hm.1 hm.2
  |exc cn dd=>cases dd with
   |some d=> have hm:(match dU cn x with |none=>(JY d).bind λf=>(match f with|.flds es=>(gd (es.length<=100)).bind λj=>Ec d (.flds (nV x c es))|_=>.fail)|some _=>pS) K E S:=hm;cases J:dU cn x with |some _=>rw[J]at hm;exact hm.elim|none=> rw[J]at hm;refine eC λh=>?_;revert hm;refineλC=>aY C λf ed hm=>h ?_;rcases f<;>first|exact hm.elim|exact G (.inr e) ed J hm.1 hm.2
   |none=> have hm:(match dU cn x with |none=>(iF (.flds [])).bind λd=>(Ec ad (.exc cn (some d))).bind λj=>Ec d (.flds [(x,c)])|some _=>pS) K E S:=hm;cases J:dU cn x with |some _=>rw[J]at hm;exact hm.elim|none=>
     replace hm:=J▸hm;refine eC λh=>yn ((R.rep _ _ e).2) λw ox vs N g D Y l=>bX w λq H=>?_;obtain⟨k,hk⟩:=q;refine rH (O.clsE cn k hk H) λq L e8 e4 f5 U Q=>aY q λcd u hh=>h (af2 X (⟨N,g,by unfold notCls;exact aC Y rfl,by refine aC D ?_;trivial⟩:InstAt s.heap ad ox cn none) U (CA (s:={s with toks:=s.toks+1}) X (⟨N,g,by unfold notCls;exact aC Y rfl,by refine aC D ?_;trivial⟩:InstAt s.heap ad ox cn none) Q (O.attr cn k x i hk hx J) λb=>?_));refine eC λh=>?_;obtain⟨oc,e5,f3,t⟩:=ox;refine h ?_;dsimp only at g D Y;subst g D Y;refine abp (aA (aA (xX N (aA (rV (s:={s with toks:=s.toks+1}) (xW X u) (oj (aC hh rfl) ?_))))));have c5:ad≠s.heap.objs.size:=eX (dT N);have Z:(s.heap.push emptyDict).get? ad=some ⟨.ref cn,none,.fields vs,t⟩:=aK _ N;refine aba (aA (J8 Z (wpAny_pure ?_)));have e2:(s.heap.push emptyDict).get? s.heap.objs.size=some emptyDict:=by heap_get
     have Xa:eH W none S s (S.put s.heap.objs.size (.flds [])) {s with heap:=s.heap.push emptyDict}:=eH.new (s':={s with heap:=s.heap.push emptyDict}) (o:=.flds []) O R (λb o e=>aK _ e) rfl rfl R.stat.size (bL (bM _)) ⟨⟨_,e2,rfl⟩,λj=>none,⟨emptyDict,#[],0,e2,rfl,(λe he=>by simp at he),by simp[UniqKeys],λx=>rfl⟩,λx=>trivial⟩;have ea:(S.put s.heap.objs.size (.flds [])) ad=some (.exc cn none):=by unfold oz;refine aC (if_neg c5) ?_;exact e
     have f0:((s.heap.push emptyDict).update ad λo=>{o with dict:=some s.heap.objs.size}).get? ad=some ⟨.ref cn,some s.heap.objs.size,.fields vs,t⟩:=dH _ Z rfl;have Xb:=vt (s':={s with heap:=(s.heap.push emptyDict).update ad λo=>{o with dict:=some s.heap.objs.size}}) (o:=.exc cn (some s.heap.objs.size)) O Xa.rel ea (λb ob hb e=>(bY _ _ (eY hb)).trans e) rfl rfl ⟨⟨⟨k,hk⟩,H⟩,_,vs,f0,rfl,rfl,rfl,l.1,by
       rcases l.2 with ht|⟨T,oT,ts,h1,F,h2,hT,r⟩;·exact .inl ht
       ·exact .inr ⟨T,oT,ts,h1,F,h2,(bY _ _ (eY F)).trans (aK _ hT),r⟩⟩;have X3:eH W none S s ((S.put s.heap.objs.size (.flds [])).put ad (.exc cn (some s.heap.objs.size))) {s with heap:=(s.heap.push emptyDict).update ad λo=>{o with dict:=some s.heap.objs.size},toks:=s.toks+1}:=(Xa.trans Xb).trans (eO O (Xa.trans Xb).rel (λj j e=>e) rfl rfl);have ed:((S.put s.heap.objs.size (.flds [])).put ad (.exc cn (some s.heap.objs.size))) s.heap.objs.size=some (.flds []):=by unfold oz;exact aC (if_neg (eY c5)) (aC (if_pos rfl) rfl)
     refine Cq O X3.rel ed (xz.ext R X3) (by simp) λs' X4=>⟨(),_,X3.trans X4,trivial,(hm s.heap.objs.size (R.none_ (bL (bM _))))⟩
  |_=>exact hm.elim
end Internal
namespace Internal
open PySem PySem.W PyProof.Rows PySem.SeqAt
variable{W:Wd}
theorem kB(h:bN n):n<=sizeLine:=by
 have:sizeLine=2^24:=by decide
 unfold bN at h;exact(aB (aB h (by decide)) (bA this.symm))
theorem HG(w:Vs W h l vs)(e:u4 l=some q):mX vs q/\l=q.map eD:=by induction l generalizing vs q with |nil=> obtain rfl:=aE e;exact w.e0 (P:=λvs=>mX vs []/\[]=List.map eD []) ⟨.nil,rfl⟩|cons a l j=>
   rcases vs with _|⟨v,vs⟩;·exact w.elim
   · rcases a with _|_|i|_|_|_|_|_|_|_|_|_|_<;>first|exact iH e|skip
     refine aY (d_.mp e) λx A N=>?_;obtain rfl:=N;refine iK (pR w.1) λt L=>?_;obtain rfl:=L;refine bX (j w.2 A) λz i2=>⟨.cons i t z,by refine aC i2 ?_;rfl⟩
theorem Th(x:mX vs ns):Vs W h (ns.map eD) vs:=by induction x with|nil=>trivial|cons i t r j=>exact⟨V.int,j⟩
theorem Zo(ho:s.heap.get? a=some (ue b))(U:b.length<=100000)(h:Q (.int b.length (s.toks+1)) {s with toks:=s.toks+1+1}):wpAny (bB prog w) A (call (.builtin "len") [.ref a]) Q E s:=by
 refine Cc kind_len plain_len entry_len (args_len1 _) (aA (m:=oneArg "len" _) (wpAny_pure ?_));refine aA (m:=callSpecial? (.ref a) (aD "__len__")) (kG (name:=aD "__len__") (⟨_,ho,rfl⟩) y9 (lF y9 (⟨_,ho,rfl⟩) C5 ?_ (FA _)));show wpAny _ _ (do retInt (<-zI (.ref a)).size) _ _ s;exact aA (p9 ho (abm (wpAny_pure ⟨_,rfl,aA (c_ (wpAny_pure (aA (xY (aC bC (oj (if_neg aR7) (oj (if_neg (aF5 U)) (abm (wpAny_pure ⟨_,rfl,h⟩)))))))))⟩)))
theorem V5(O:dM W)(R:jE W S s)(x:V W s.heap a v):pX W (V W) none A (aq5 a) (call (.builtin "len") [v]) S s:=by
 intro K E hm;cases a<;>first|exact hm.elim|skip
 · revert hm;refineλh=>bX h λhz hm=>iK (n4 x) λt U=>?_;obtain rfl:=U;exact len_bytes (by unfold bN at hz;simp;exact o55 hz) (eZ O R V.int hm)
 · refine eC λd=>?_;revert hm;refineλh=>bX h λhz hm=>gD (x8 x) λt vs n T r=>?_;obtain rfl:=T;refine iR r λf g w=>d (P.len_tuple (n:=n) g (by unfold bN at hz;simp[w.length];exact o57 hz) (eZ O R (by refine aC bC (aC w.length ?_);exact V.int) hm))
 · have p:=gT x;subst p;revert hm;refineλh=>aY h λo e hm=>?_;cases o with |list l=> refine eC λd=>?_;revert hm;refineλh=>bX h λhz hm=>dZ (R.list e) λvs n g w I=>d (Calls.call_len_list I (by unfold bN at hz;simp[w.length];exact o57 hz) (eZ O R (by refine aC bC (aC w.length ?_);exact V.int) hm))|barr b=>revert hm;exactλh=>bX h λhz hm=>Zo (R.rep _ _ e).2 hz (eZ O R V.int hm)|iset n=> refine eC λd=>?_;revert hm;refineλh=>bX h λhz hm=>?_;obtain⟨c,ob,es,ep,t,g,hex,hd,_,_,_,hf,hn⟩:=(R.rep _ _ e).2;refine d (call_len_set g hex hd hf (bJ (aG (aX.mpr (bA hn)) (aX.mpr hz)) (by decide)) (eZ O R (by refine aC hn ?_;exact V.int) hm))|_=>exact hm.elim
theorem jE.above{S:CS}{s:aO}(O:dM W)(R:jE W S s){h':Heap}(k:∀b o,s.heap.get? b=some o->h'.get? b=some o):W.h₁.objs.size<=h'.objs.size:=(eO (s':={s with heap:=h'}) O R k rfl rfl).rel.stat.size
theorem GF{h h':Heap}(k:∀b o,h.get? b=some o->h'.get? b=some o):h.get? h'.objs.size=none:=by
 rcases q:h.get? h'.objs.size with _|o;·rfl
 ·exact absurd (dT (k _ _ q)) (Ef _)
theorem TL(x:Vo W h d v):V W h (d.getD .none) (v.getD .none):=by rcases d with _|d<;>rcases v with _|v<;>first|exact rfl|exact x|exact x.elim
open PySem.Builtin.Str in theorem EF:partsBetween (aD "array hash lru rows queue stack trie ring") (occurrences (aD "array hash lru rows queue stack trie ring") (aD " ") 0 (aD "array hash lru rows queue stack trie ring").length ((aD "array hash lru rows queue stack trie ring").length+1)) (aD " ").length=["array","hash","lru","rows","queue","stack","trie","ring"].map aD:=by decide+kernel
theorem R9(l:List Str)(t:Nat):Vs W h (l.map Ae) (strsFrom t l):=by induction l generalizing t with|nil=>trivial|cons a l j=>exact⟨V.str,j _⟩
theorem I5(vs:List aP)(i:Int)(h0:0<=i)(h1:i<=vs.length)(u:aP):((λxs:Array aP=>have k:=if i<0 then(i+(xs.size:Int)).toNat else min i.toNat xs.size;(xs.extract 0 k).push u++xs.extract k) vs.toArray)=(vs.take i.toNat++u::vs.drop i.toNat).toArray:=by
 have hn:¬i<0:=o28 h0;have hm:min i.toNat vs.length=i.toNat:=(fX (uL.mpr h1));simp[hn,hm,dE]
theorem Vs.insert(x:Vs W h l vs)(n:Nat)(y:V W h a v):Vs W h (l.take n++a::l.drop n) (vs.take n++v::vs.drop n):=(x.take n).append ⟨y,x.drop n⟩
theorem ET(hh:A.handled=none)(hd:(d==FW)=false)(D:s.heap.DictAt (mW prog w) d kvs ep)(X:kvs.length<64)(h:∀(h':Heap)(g:Nat)(I:Addr)(Y:List aP)(ns:List Int),(∀b o,s.heap.get? b=some o->h'.get? b=some o)->(∃hm:Heap,(∀b o,s.heap.get? b=some o->hm.get? b=some o)/\I=hm.objs.size)->(∃c,h'.get? I=some (q8 Y c))->mX Y ns->ns.Perm (kvs.map (·.1))->ns.Pairwise (·<=·)->Q (.ref I) {s with heap:=h',toks:=g}):wpAny (bB prog w) A (call (.builtin "sorted") [.ref d]) Q E s:=by
 refine Cc kind_sorted J_ entry_sorted (args_sorted1 _) (aA (m:=checkCount "sorted" 1 1 _) (wpAny_pure ?_));have a:kvs.length<=sizeLine:=by
   have:sizeLine=2^24:=by decide
   exact(bK (aV (aV X (by decide)) (bA this.symm)))
 refine aA (kdu_collect (A:=A.in1) (kdl_dict (prog:=prog) (w:=w) (knd:=mW prog w) (kvs:=kvs) (ep:=ep) hd) hh D a λh' g acc hk C=>?_);have hl:acc.toList.length=kvs.length:=by refine aC rj ?_;exact C.1
 have i:∃F,mX acc.toList F/\F=kvs.map (·.1):=by
   refine⟨kvs.map (·.1),?_,rfl⟩;have G:∀(l:List aP)(U:List Int),l.length=U.length->(∀(j:Nat)(v:aP),l[j]?=some v->∃k,U[j]?=some k/\oM k v=true)->mX l U:=by intro l;induction l with |nil=>intro U hl _;cases U<;>simp_all;exact .nil|cons v l u=>
       intro U hl hj;rcases U with _|⟨k,U⟩;·contradiction
       · refine aY (hj 0 v rfl) λJ e1 n=>?_;simp only[mI,dK]at e1;subst e1;refine iK (aP.isInt_shape n) λt f=>?_;obtain rfl:=f;exact .cons k t (u U (by simpa using hl) λj v e=>by simpa using hj (j+1) v (by simpa using e))
   refine G _ _ (by simpa using hl) λj v e=>eJ (C.2 j v (by refine iZ (qa) ?_;exact e)) λk x e1 n=>?_;exact⟨k,by simp[e1],n⟩
 refine eC λz=>?_;revert i;refineλr=>aY r λF i O=>?_;obtain rfl:=O;refine z (aA (uO ?_ (by refine aC hl ?_;exact a)));have W:(h'.push {cls:=.type "list",data:=.seq acc.toList.toArray}).get? h'.objs.size=some (jO "list" acc.toList.toArray 0):=aU _ rfl;refine aA (c_ (lF slot_list_sort ⟨_,W,rfl⟩ entry_list_sort (list_sort_tree W i (by refine aC hl ?_;exact X) λY H a1 a2 a3=>⟨_,rfl,?_⟩) (args_list_sort _)));refine wpAny_pure ⟨_,rfl,h _ g _ Y.toList H (λb o e=>?_) ⟨h',hk,rfl⟩ ?_ a1 a2 a3⟩
 · have q:b≠h'.objs.size:=eX (dT (hk b o e));unfold sortedHeap;refine aC (wF _ _ _ _ q) ?_;refine aK _ (aK _ ?_);refine aC (wF _ _ _ _ q) ?_;exact aK _ (hk b o e)
 · refine iK (⟨_,wG W λp=>#[]⟩:∃c1,((h'.push {cls:=.type "list",data:=.seq acc.toList.toArray}).update h'.objs.size (fF λp=>#[])).get? h'.objs.size=some (jO "list" #[] c1)) λc1 P=>?_;have y:=aK (jO "list" #[] 0) (aK (jO "tuple" acc.toList.toArray 0) P);exact⟨_,wG y λp=>Y⟩
theorem Jj(O:dM W)(R:jE W S s)(hk:i_ c fY=some k)(G:dU c "__init__"=some 36)(hx:s.heap.get? a=some ⟨.ref c,none,.fields vs,osl⟩)(hz:6<=vs.size)(z:Q .none {s with heap:=(s.heap.push {cls:=.type "tuple",data:=.seq [rO x tk].toArray}).update a (eF (·.setIfInBounds 0 (.ref s.heap.objs.size)))}):wpAny (bB prog W.w) A (call (.builtin "Exception.__init__") [.ref a,.str x tk]) Q Ee s:=by
 have F:=Br;refine rH (O.clsE c k hk G) λb b b b B b b=>?_;have T:mS (bB prog W.w) s.heap (CG (.ref a)) (.ref c):=(ou hx).andThen .now;refine z8 (xV F.init.plain F.initEntry ?_);dsimp only[nk,F.initKind,F.initSplit,F.initRow];refine aA ((T.andThen (MQ (O.kIn _ R.stat) B):mS (bB prog W.w) s.heap (U4 (.ref a) (.type "Exception")) true).here (oj (by simp only[wN,iB,if_false];rfl) ?_));have g:∃cd,FV W.K c=some cd:=by refine bX (O.clsE c k hk G) λj b=>?_;refine aY j λcd q b=>?_;clear j;exact⟨cd,q⟩
 refine iK g λcd D=>?_;clear g;have t:=xW (M:=bB prog W.w) (O.kIn _ R.stat) D;have X:(s.heap.push {cls:=.type "tuple",data:=.seq [rO x tk].toArray}).get? a=some ⟨.ref c,none,.fields vs,osl⟩:=aK _ hx;refine iK (⟨vs[0]'(o29 hz),Array.getElem?_eq_getElem (o29 hz)⟩:∃v0,vs[0]?=some v0) λv0 H=>?_;repeat lk
 refine aC H (wpAny_pure (aA (ow X rfl (o29 hz) ?_)));have fin:∀w:bT,wpAny (bB prog W.w) w (ret .none) (λfin s'=>match fin with|.done f=>(match(Except.ok f:oO)with|.ok (.ret v)=>Q v s'|.ok _=>False|.error e=>Ee e s')|.again y=>y.quiet=true/\vT (bB prog W.w) A y (λr s'=>match r with|.ok (.ret v)=>Q v s'|.ok _=>False|.error e=>Ee e s') s') (λe s'=>Ee e s') {s with heap:=(s.heap.push {cls:=.type "tuple",data:=.seq [rO x tk].toArray}).update a (eF (·.setIfInBounds 0 (.ref s.heap.objs.size)))}:=λw=>wpAny_pure z;split;·exact xY (fin _)
 ·exact wpAny_pure (fin _)
theorem excInit_ok(O:dM W){S:CS}{K:KP}{E:KP}(R:jE W S s)(e:S a=some (.exc c none))(hm:K .none (S.put a (.exc c none))):wpAny (bB prog W.w) A (call (.builtin "Exception.__init__") [.ref a,.str x tk]) (Qk W (V W) none S s K) (Qe W none S s E) s:=by
 refine eC λi=>jT ((R.rep _ _ e).2) λZ P vs hx f D Y hz l=>bX Z λj G=>?_;obtain⟨k,hk⟩:=j;obtain⟨oc,U,g,Q⟩:=P;dsimp only at f D Y;subst f D Y;have X:(s.heap.push {cls:=.type "tuple",data:=.seq [rO x tk].toArray}).get? a=some ⟨.ref c,none,.fields vs,Q⟩:=aK _ hx;have u:eH W none S s S {s with heap:=s.heap.push {cls:=.type "tuple",data:=.seq [rO x tk].toArray}}:=eO O R (λb o e=>aK _ e) rfl rfl;have B:((s.heap.push {cls:=.type "tuple",data:=.seq [rO x tk].toArray}).update a (eF (·.setIfInBounds 0 (.ref s.heap.objs.size)))).get? a=some ⟨.ref c,none,.fields (vs.setIfInBounds 0 (.ref s.heap.objs.size)),Q⟩:=dH _ X rfl;have h:=vt (s':={s with heap:=(s.heap.push {cls:=.type "tuple",data:=.seq [rO x tk].toArray}).update a (eF (·.setIfInBounds 0 (.ref s.heap.objs.size)))}) (o:=.exc c none) O u.rel e (λb ob d e=>(bY _ _ (eY d)).trans e) rfl rfl ⟨⟨⟨k,hk⟩,G⟩,_,vs.setIfInBounds 0 (.ref s.heap.objs.size),B,rfl,rfl,rfl,by refine aC Array.size_setIfInBounds ?_;exact hz,by
   refine aC (Array.getElem?_setIfInBounds_ne (by decide)) ?_;rcases l with ht|⟨T,v,y,h1,t,h2,n,r⟩;·exact .inl ht
   ·exact .inr ⟨T,v,y,h1,t,h2,(bY _ _ (eY t)).trans (aK _ n),r⟩⟩;exact i (Jj O R hk G hx hz ⟨.none,_,u.trans h,V.none,hm⟩)
inductive A1(W:Wd)(h:Heap)(vs:List aP)(P:CV->Prop):Prop|mk(a:CV)(v:aP)(e:vs=[v])(y:V W h a v)(k:P a)
inductive A2(W:Wd)(h:Heap)(vs:List aP)(P:CV->CV->Prop):Prop|mk(a b:CV)(v u:aP)(e:vs=[v,u])(y:V W h a v)(z:V W h b u)(k:P a b)
inductive A3(W:Wd)(h:Heap)(vs:List aP)(P:CV->CV->CV->Prop):Prop|mk(a b c:CV)(v u w:aP)(e:vs=[v,u,w])(y:V W h a v)(z:V W h b u)(x:V W h c w)(k:P a b c)
section
variable{α:Type}{h:Heap}{l:List CV}{vs:List aP}{K:α->CS->Prop}{E:KP}{S:CS}
theorem I9(x:Vs W h l vs)(hm:one l f K E S):A1 W h vs λa=>f a K E S:=by
 rcases l with _|⟨a,_|⟨_,_⟩⟩<;>first|exact hm.elim|skip
 rcases vs with _|⟨v,_|⟨_,_⟩⟩;·exact(show False from x).elim
 ·exact⟨a,v,rfl,x.1,hm⟩
 ·exact(show _/\False from x).2.elim
theorem WG(x:Vs W h l vs)(hm:a2 l f K E S):A2 W h vs λa b=>f a b K E S:=by
 rcases l with _|⟨a,l⟩<;>first|exact hm.elim|skip
 rcases vs with _|⟨v,vs⟩;·exact(show False from x).elim
 · obtain⟨b,u,rfl,z,hm⟩:=I9 (f:=f a) (show Vs W h l vs from x.2) hm;exact⟨a,b,v,u,rfl,x.1,z,hm⟩
theorem a3_(x:Vs W h l vs)(hm:a3 l f K E S):A3 W h vs λa b c=>f a b c K E S:=by
 rcases l with _|⟨a,l⟩<;>first|exact hm.elim|skip
 rcases vs with _|⟨v,vs⟩;·exact(show False from x).elim
 · obtain⟨b,c,u,w,rfl,z,q,hm⟩:=WG (f:=f a) (show Vs W h l vs from x.2) hm;exact⟨a,b,c,v,u,w,rfl,x.1,z,q,hm⟩
theorem Hr(y:V W h a v)(hm:E7 a f K E S):∃i t,v=.int i t/\f i K E S:=by rcases a<;>first|exact hm.elim|(obtain⟨t,e⟩:=y;exact⟨_,t,e,hm⟩)
theorem C8(y:V W h a v)(hm:DY a f K E S):∃p es,v=.ref p/\S p=some (.idict es)/\f p es K E S:=by
 refine eC λd=>?_;rcases a<;>first|exact hm.elim|skip
 revert hm;refineλg=>aY g λo e hm=>d ?_;rcases o<;>first|exact hm.elim|exact⟨_,_,y,e,hm⟩
theorem Ln(y:V W h a v)(hm:Fx a f K E S):∃p l,v=.ref p/\S p=some (.list l)/\f p l K E S:=by
 refine eC λd=>?_;rcases a<;>first|exact hm.elim|skip
 exact aY (vi hm) λl e hm=>d ⟨_,l,y,e,hm⟩
end
section
variable{A:bT}{a b c:CV}{u v v1 v2:aP}{S:CS}{s:aO}{K:KP}{E:KP}
theorem ab0(O:dM W)(hh:A.handled=none)(R:jE W S s)(y:V W s.heap a v)(hm:((mO a).bind λl=>(iG (u4 l)).bind λq=>.pure (.int q.sum)) K E S):wpAny (bB prog W.w) A (call (.builtin "sum") [v]) (Qk W (V W) none S s K) (Qe W none S s E) s:=by
 refine eC λd=>eJ (sW hm) λa l z t=>?_;obtain rfl:=z;refine bX t λe hm=>?_;obtain rfl:=gT y;refine aY (n5 hm) λq eq hm=>dZ (R.list e) λp n g w I=>bX (HG w eq) λhi b=>iK hi.allInts.items λxs hx=>d (sum_intListG hh (hx▸I) λh' f h hk=>?_);have e1:q=xs.toList.map (·.1):=by exact iZ (nums_intItems _) (iZ hx ((show numsOf p.toArray.toList=q from hi.numsOf).symm))
 have o:preSum (numAt xs) xs.size=q.sum:=by exact aC (preSum_eq _ _) (aC (dE (by simp)) (aC e1 rfl))
 exact aC o (sk (s':={s with heap:=h',toks:=f}) O R hk rfl rfl V.int hm)
theorem M0:∀{es:List (Int×CV)}{kvs:List (Int×aP)}{h:Heap},KV W h es kvs->kvs.map (·.1)=es.map (·.1):=by intro es;induction es with |nil=>intro kvs h q;rcases kvs with _|_;rfl;exact q.elim|cons a r j=>
  intro kvs h q;rcases kvs with _|⟨b,y⟩;·exact q.elim
  ·exact aC fH (aC fH (aC q.1.1 (aC (j q.2) rfl)))
theorem Ja(O:dM W)(R:jE W S s)(y:V W s.heap a v)(z:V W s.heap b u)(x:V W s.heap c v2)(hm:(Fx a λp l=>E7 b λi=>(gd (0<=i/\i<=l.length/\bN l.length)).bind λf=>(Ec p (.list (l.take i.toNat++c::l.drop i.toNat))).bind λf=>.pure .none) K E S):wpAny (bB prog W.w) A (call (.builtin "list.insert") [v,u,v2]) (Qk W (V W) none S s K) (Qe W none S s E) s:=by
 refine eC λh=>eJ (Ln y hm) λa l U Y=>?_;obtain rfl:=U;refine bX Y λe hm=>eJ (Hr z hm) λi t J T=>?_;obtain rfl:=J;refine bX T λZ hm=>iR Z λh0 h1 h2=>dZ (R.list e) λr n g w I=>h ?_;have hw:=w.length;refine vS MR I.typeIs F.entry_list_insert (F.args_list_insert_3 _ _ _) (AutoSeq1.list_insert_list_int_val_1 a r.toArray n i t v2 ?_ ?_) ⟨g,?_⟩
 · rw[xO,hO,Bool.and_eq_false_iff,decide_eq_false_iff_not,not_or,Decidable.not_not];exact⟨aG (by decide) h0,λq=>absurd (bJ (aG h1 (aX.mpr h2)) (by decide)) (of_decide_eq_false q)⟩
 ·refine aC bC (aC hw ?_);exact kB h2
 · have B:∀bb ob,bb≠a->s.heap.get? bb=some ob->(s.heap.update a (fF λxs=>have k:=if i<0 then(i+(xs.size:Int)).toNat else min i.toNat xs.size;(xs.extract 0 k).push v2++xs.extract k)).get? bb=some ob:=λbb ob d e=>(bY _ _ (eY d)).trans e;have q:=sA (n:=n) (items:=r.toArray) g (λxs=>have k:=if i<0 then(i+(xs.size:Int)).toNat else min i.toNat xs.size;(xs.extract 0 k).push v2++xs.extract k);have C:=I5 r i h0 (by refine aC hw ?_;exact h1) v2;dsimp only at C;rw[C]at q;exact ym (o:=.list (l.take i.toNat++c::l.drop i.toNat)) (s':={s with heap:=_,toks:=s.toks}) O R e B rfl rfl ⟨_,_,q,(w.insert _ x).keep (R.updI e B)⟩ V.none hm
theorem Jy(O:dM W)(R:jE W S s)(y:V W s.heap a v)(z:V W s.heap b v1)(hm:(Fx a λp l=>(gd (bN l.length)).bind λi=>(Ec p (.list (l++[b]))).bind λi=>.pure .none) K E S):wpAny (bB prog W.w) A (call (.builtin "list.append") [v,v1]) (Qk W (V W) none S s K) (Qe W none S s E) s:=by
 refine eC λh=>eJ (Ln y hm) λa l m d=>?_;obtain rfl:=m;refine iR d λe h2 hm=>dZ (R.list e) λr n g w I=>h (vS af3 I.typeIs ac8 (af4 _ _) (JR a r.toArray n v1 (by refine aC bC (aC w.length ?_);exact kB h2)) ⟨g,?_⟩);have q:=sA (n:=n) (items:=r.toArray) g (λf=>f.push v1);have B:r.toArray.push v1=(r++[v1]).toArray:=by simp
 rw[B]at q;exact ym (o:=.list (l++[b])) (s':={s with heap:=_,toks:=s.toks}) O R e (λbb ob c e=>(bY _ _ (eY c)).trans e) rfl rfl ⟨_,_,q,(w.append (Vs.one z)).keep (R.updI e (λbb ob c e=>(bY _ _ (eY c)).trans e))⟩ V.none hm
end
theorem am1(O:dM W){A:bT}(hh:A.handled=none){k:Nat}{args:List CV}{vs:List aP}{S:CS}{s:aO}(hk:k≠10)(R:jE W S s)(x:Vs W s.heap args vs):pX W (V W) none A (qM k args) (call (.builtin (biName k)) vs) S s:=by
 intro K E hm;rcases k with _|_|_|_|_|_|_|_|_|_|_|_|_|k<;>first|exact hm.elim|skip
 · obtain⟨a,v,rfl,y,hm⟩:=I9 x hm;exact V5 O R y K E hm
 · obtain⟨a,v,rfl,y,hm⟩:=I9 x hm;refine eC λf=>eJ (Hr y hm) λi t N hm=>?_;obtain rfl:=N;exact f (call_abs_int λu g=>eZ O R V.int hm)
 · obtain⟨a,v,rfl,y,hm⟩:=I9 x hm;exact ab0 O hh R y hm
 · obtain⟨a,b,v,u,rfl,y,z,hm⟩:=WG x hm;obtain⟨a,b,t,n,rfl,rfl,hm⟩:=J1 y z hm;refine max_two_ints hh λh' g hk=>sk (s':={s with heap:=h',toks:=g}) O R hk rfl rfl (a:=.int (if b>a then b else a)) ?_ hm;split<;>exact V.int
 · obtain⟨a,v,rfl,y,hm⟩:=I9 x hm;refine eC λf=>eJ (C8 y hm) λa es C B=>?_;obtain rfl:=C;refine iR B λe X hm=>aY ((R.rep _ _ e).2) λkvs D T=>f ?_;have hl:=T.length;refine ET hh (R.sysM O e) D (o58 X hl) λh' g D' out ns hk⟨hmid,hkm,h0⟩hD hi hp hs=>?_;subst h0;exact yM (s':={s with heap:=h',toks:=g}) O R (hm ns (by refine iZ (M0 T) ?_;exact hp) hs) hk rfl rfl (R.above O hkm) (GF hkm) (hD.elim λc P=>⟨out,c,P,Th hi⟩)
 · obtain⟨a,b,c,v,u,w,rfl,y,z,q,hm⟩:=a3_ x hm;exact Ja O R y z q hm
 · obtain⟨a,b,v,u,rfl,y,z,hm⟩:=WG x hm;refine eJ (C8 y hm) λa es H r=>?_;obtain rfl:=H;refine bX r λe hm=>eC λf=>eJ (Hr z hm) λi t p hm=>?_;obtain rfl:=p;exact aY ((R.rep _ _ e).2) λkvs D T=>f (call_meetsIn PySem.F.slot_dict_get D.dictOf.typeIs PySem.F.entry_dict_get (PySem.F.args_dict_get_2 _ _) (meets_dict_get (mW prog W.w) a (k:=i) (by simp[mW,oM]) (R.sysM O e)) ⟨_,D.dictOf.mapOf,eZ O R (TL (T.look i)) hm⟩)
 · obtain⟨a,v,rfl,y,hm⟩:=I9 x hm;refine eC λf=>eJ (C8 y hm) λa es Q J=>?_;obtain rfl:=Q;refine bX J λe hm=>aY ((R.rep _ _ e).2) λkvs D T=>f (call_meetsIn PySem.F.slot_dict_values D.dictOf.typeIs PySem.F.entry_dict_values (PySem.F.args_dict_values_1 _) (meets_dict_values (mW prog W.w) a (R.sysM O e)) ⟨⟨_,D.dictOf⟩,sk (s':={s with heap:=s.heap.push {cls:=.type "dict_values",data:=.fields #[.ref a]}}) O R (λj j e=>aK _ e) rfl rfl ?_ hm⟩);exact⟨_,rfl,R.stat.size,_,aU _ rfl,rfl,rfl⟩
 · obtain⟨a,b,v,u,rfl,y,z,hm⟩:=WG x hm;rcases a<;>first|exact hm.elim|skip
   rcases b<;>first|exact hm.elim|skip
   refine iK y λt I=>?_;clear y;obtain rfl:=I;refine iK z λn L=>?_;clear z;obtain rfl:=L;revert hm;refineλh=>bX h λm hm=>bX m λl G=>?_;obtain rfl:=l;obtain rfl:=G;refine vS U5 (typeIs_str _ _ _) F.entry_str_split (F.args_str_split_2 _ _) (meets_str_split_sep _ _ _ _ (by decide+kernel) (by decide+kernel) (by decide+kernel) (by decide+kernel) (by decide+kernel)) (aC EF (yM (s':={s with toks:=_,heap:=_}) O R hm (λj j e=>aK _ e) rfl rfl R.stat.size (bL (bM _)) ⟨_,0,aU _ rfl,?_⟩));exact R9 (W:=W) (["array","hash","lru","rows","queue","stack","trie","ring"].map aD) s.toks
 ·exact absurd rfl hk
 · obtain⟨a,b,v,u,rfl,y,z,hm⟩:=WG x hm;exact Jy O R y z hm
 · obtain⟨a,b,v,u,rfl,y,z,hm⟩:=WG x hm;clear hh hk x;rcases a<;>first|exact hm.elim|skip
   rcases b<;>first|exact hm.elim|skip
   obtain rfl:=gT y;refine iK z λt l=>?_;clear z;obtain rfl:=l;revert hm;refineλh=>aY h λo e hm=>?_;rcases o with _|_|_|_|_|_|_|_|⟨c,d⟩|_<;>first|exact hm.elim|skip
   rcases d with _|d<;>first|exact hm.elim|exact excInit_ok O R e hm
end Internal
namespace Internal
open PySem PySem.W PyProof.Rows PySem.SeqAt
variable{W:Wd}
theorem Md:jP (.type "bytes") "__bytes__"=pure (some (.builtin "bytes.__bytes__")):=by refine aC (dY _ _) (aC cU ?_);kernel_rfl
theorem Fg:jP (.type "bytearray") "__bytes__"=pure none:=by refine aC (dY _ _) (aC cU ?_);kernel_rfl
theorem y7:jP (.type "bytearray") "__index__"=pure none:=by refine aC (dY _ _) (aC cU ?_);kernel_rfl
theorem yq:jP (.type "bytearray") "__buffer__"=pure (some (.builtin "bytearray.__buffer__")):=by refine aC (dY _ _) (aC cU ?_);kernel_rfl
theorem rG:jP (.type "bytearray") "__release_buffer__"=pure (some (.builtin "bytearray.__release_buffer__")):=by refine aC (dY _ _) (aC cU ?_);kernel_rfl
theorem LW:rx (.type "bytearray") (.type "bytearray")=pure true:=by refine aC (jV _ _) ?_;kernel_rfl
theorem rr:jP (.type "bytes") "__buffer__"=pure (some (.builtin "bytes.__buffer__")):=by refine aC (dY _ _) (aC cU ?_);kernel_rfl
theorem GU:jP (.type "bytes") "__release_buffer__"=pure none:=by refine aC (dY _ _) (aC cU ?_);kernel_rfl
section
variable{prog:iS}{w:jH}{A:bT}{E:EP}{s:aO}
theorem nH{M:nx}{a:Addr}{name:String}{id:String}{Q:Bool->aO->Prop}(n:s.TypeIs (.ref a) "bytearray")(hl:jP (.type "bytearray") name=pure (some (.builtin id)))(he:id.endsWith ("."++name)=true)(hd:id.dropRight (name.length+1)="bytearray")(h:Q true s):wpAny M A (BC.Bytes.slotIsOwn (.ref a) name) Q E s:=by
 refine aA (b_ n hl ?_);dsimp only;exact aC he (aC hd (gC rfl (nq n LW h)))
theorem Cm{M:nx}{id:String}{full:Bool}{a:Addr}{b:List UInt8}{Q:Option (Array UInt8)->aO->Prop}(ho:s.heap.get? a=some (ue b))(h:Q (some b.toArray) s):wpAny M A (oF id (.ref a) full) Q E s:=by
 have n:s.TypeIs (.ref a) "bytearray":=⟨_,ho,rfl⟩;exact aA (b_ n yq (aA (nH n yq (by decide+kernel) (by decide+kernel) (gC rfl (aA (b_ n yq (aA (aA (nH n rG (by decide+kernel) (by decide+kernel) (wpAny_pure (gC rfl (aA (p9 ho (wpAny_pure h))))))))))))))
theorem zx(z:Q (.bytes b t) s):vT (bB prog w) A (.call (.builtin "bytes.__new__") ⟨[.type "bytes",.bytes b t],[]⟩) (F4 Q E) s:=by
 refine Eg ?_;show wpAny _ A.in1 (do nk "bytes.__new__" ⟨[.type "bytes",.bytes b t],[]⟩;again (.builtin "bytes.__new__" ⟨[.type "bytes",.bytes b t],[]⟩)) _ _ s;refine aA (dQ (az5 _) (wpAny_pure ⟨nO Eh _,Ei F.bm_entry ((jG Eh _)▸(aA (dQ (a:=true) rfl (gC rfl (aA (dQ F.bm_sub (gC rfl (aA (dQ (F.bm_bind _) (aA (dQ (a:=()) rfl (aA (dQ (a:=()) rfl (gC rfl (aA (b_ (oI s b t) Md (aA (i7 (aA (dQ (a:=.type "bytes") rfl (z9 (by decide) ?_)))))))))))))))))))))⟩));first |exact wpAny_pure z|exact abp (wpAny_pure z)
theorem yg(z:Q (.bytes b t) s):wpAny (bB prog w) A (call (.type "bytes") [.bytes b t]) Q E s:=by
 refine F5 (Q₁:=λobj s₁=>s₁.TypeIs obj "bytes"/\Q obj s₁) t_ (aw4 _) Mx (zx ⟨Ej _ _ _,z⟩) λobj s₁ h₁=>?_;exact⟨h₁.1,wO obj _,ac9 t_.init.lookup t_.made (by decide) prog w A.in1 _ s₁ ⟨h₁.1,rfl,h₁.2⟩⟩
theorem DH{a:Addr}{b:List UInt8}{Q:EP}(ho:s.heap.get? a=some (ue b))(hz:b.length<=100000)(z:Q (.bytes b.toArray s.toks) {s with toks:=s.toks+1}):vT (bB prog w) A (.call (.builtin "bytes.__new__") ⟨[.type "bytes",.ref a],[]⟩) (F4 Q E) s:=by
 refine Eg ?_;show wpAny _ A.in1 (do nk "bytes.__new__" ⟨[.type "bytes",.ref a],[]⟩;again (.builtin "bytes.__new__" ⟨[.type "bytes",.ref a],[]⟩)) _ _ s;refine aA (dQ (az5 _) (wpAny_pure ⟨nO Eh _,Ei F.bm_entry ((jG Eh _)▸(aA (dQ (a:=true) rfl (gC rfl (aA (dQ F.bm_sub (gC rfl (aA (dQ (F.bm_bind _) (aA (dQ (a:=()) rfl (aA (dQ (a:=()) rfl (gC rfl (aA (b_ (⟨_,ho,rfl⟩) Fg (aA (aA (JZ ho (wpAny_pure (wpAny_pure (gC rfl (aA (b_ (⟨_,ho,rfl⟩) y7 (z9 rfl ?_)))))))))))))))))))))))))⟩));first |show wpAny _ _ (oF "bytes.__new__" (.ref a) true>>=_) _ _ _|(refine aA ?_;show wpAny _ _ (oF "bytes.__new__" (.ref a) true>>=_) _ _ _)
 refine aA (Cm ho (aA (i7 (aA (aX4 (z9 (by decide) ?_) (kB hz))))));first |exact wpAny_pure z|exact abp (wpAny_pure z)
theorem B7(ho:s.heap.get? a=some (ue b))(hz:b.length<=100000)(z:Q (.bytes b.toArray s.toks) {s with toks:=s.toks+1}):wpAny (bB prog w) A (call (.type "bytes") [.ref a]) Q E s:=by
 refine F5 (Q₁:=λobj s₁=>s₁.TypeIs obj "bytes"/\Q obj s₁) t_ (aw4 _) Mx (DH ho hz ⟨Ej _ _ _,z⟩) λobj s₁ h₁=>?_;exact⟨h₁.1,wO obj _,ac9 t_.init.lookup t_.made (by decide) prog w A.in1 _ s₁ ⟨h₁.1,rfl,h₁.2⟩⟩
end
end Internal
section
open PySem PySem.W PyProof.Rows PySem.SeqAt
namespace Internal
section
variable{α:Type}{M:nx}{A:bT}{E:EP}{s:aO}
theorem bO{c:Bool}{a b:Sem α}{Q:α->aO->Prop}(e:c=false)(h:iQ M A b Q E s):iQ M A (if c=true then a else b) Q E s:=by subst e;exact h
theorem sg{c:Bool}{a b:Sem α}{Q:α->aO->Prop}(e:c=true)(h:iQ M A a Q E s):iQ M A (if c=true then a else b) Q E s:=by subst e;exact h
theorem Rx{c:Prop}[Decidable c]{a b:Sem α}{Q:α->aO->Prop}(h:if c then iQ M A a Q E s else iQ M A b Q E s):iQ M A (if c then a else b) Q E s:=by split<;>simp_all
theorem bF{β:Type}{m:Sem α}{f:α->Sem β}{Q:β->aO->Prop}(h:wpAny M A m (λa s'=>iQ M A (f a) Q E s') E s):iQ M A (m>>=f) Q E s:=aL (cQ h)
theorem mD{t:Sem α}{Q:α->aO->Prop}(a:α)(e:t=pure a)(h:Q a s):iQ M A t Q E s:=cQ (dQ e h)
end
section
variable{prog:iS}{w:jH}{A:bT}{E:EP}{s:aO}
theorem vG{id:String}{args:Args}{b:BC}{R:oO->aO->Prop}(c:qC BA id=some b)(h:iQ (bB prog w) (A.under (.builtin id args)) (b args) (qI (bB prog w) A R) (λe s'=>R (.error e) s') s):mU (bB prog w) A (.builtin id args) R s:=by
 refine gV ?_;have a:(bB prog w).den (.builtin id args)=b args:=by
  show(match qC BA id with|some b=>b args|none=>unsupported ((withoutEnding? id "#data").getD id))=_;exact aC c rfl
 refine aC a ?_;exact h
theorem gZ{id:String}{args:Args}{b:BC}{R:oO->aO->Prop}(hq:(Code.builtin id args).quiet=true)(hn:pe (.builtin id args)=true)(c:qC BA id=some b)(h:wpAny (bB prog w) A.in1 (nk id args) (λa s₁=>iQ (bB prog w) (A.under (.builtin id args)) (b args) (qI (bB prog w) A R) (λe s'=>R (.error e) s') s₁) (λe s'=>R (.error e) s') s):mU (bB prog w) A (.call (.builtin id) args) R s:=by exact gV (bF (gS h (λa s₁ h₁=>aW ⟨hq,hn,vG c h₁⟩) λa a x=>x))
theorem JK{T U L:String}{I:BC}{args:List aP}{Q Q₁:EP}(ft:TypeCalled T U L)(G:aX5 T ⟨args,[]⟩=pure ())(a:qC BA L=some I)(hn:pe (.builtin L ⟨[],[]⟩)=true)(d:vT (bB prog w) A.in1 (.call (.builtin U) ⟨.type T::args,[]⟩) (F4 Q₁ E) s)(D:∀obj s₁,Q₁ obj s₁->s₁.TypeIs obj T/\tB L ⟨obj::args,[]⟩/\iQ (bB prog w) A.in1.in1 (I ⟨obj::args,[]⟩) (qI (bB prog w) A.in1 (F4 (λr v=>r=.none/\Q obj v) E)) (λe s'=>F4 (λr v=>r=.none/\Q obj v) E (.error e) s') s₁):iQ (bB prog w) A (call (.type T) args) Q E s:=by
 refine sJ ft.mro λc tl b=>oa (gV (aW ⟨r9 _ (by decide+kernel),by rfl,vG F.entry_type_call (aC (bT.under_plain (weight_type_call_type T args []) rfl) ?_)⟩));unfold BC.«type.__call__»;dsimp only;refine aC ft.notType (bO rfl (aC ft.canCreate (bO rfl (aL (p8 G (aW (aL (p8 b (aW (bO rfl (aL (p8 ft.made (aW (SV (aL (bI (cQ (z8 (codeAny_mono d λr s₁ hr=>?_)))))))))))))))))));have f:∃obj,r=.ok (.ret obj)/\Q₁ obj s₁\/∃e,r=.error e/\E e s₁:=by cases r with |error e=>exact⟨.none,.inr ⟨e,rfl,hr⟩⟩|ok fl=>cases fl with |ret obj=>exact⟨obj,.inl ⟨rfl,hr⟩⟩|_=>exact hr.elim
 obtain⟨obj,⟨rfl,hr⟩|⟨e,rfl,hr⟩⟩:=f;rotate_left;·exact hr
 refine iR (D _ _ hr) λn B H=>bF (nq n ft.sub (bO rfl (aL (bI (bF (b_ n ft.init.lookup (bI (aL (p8 (ft.init.bind obj) (aW (aL (oa (i9 (R:=F4 (λr v=>r=.none/\Q obj v) E) (gZ (nO ft.init.plain _) hn a (ft.init.check _ _ _ _ _ _ _ _ n B ?_)) λW v J=>?_)))))))))))));·refine aC (jG ft.init.plain _) ?_;exact H
 ·cases W with |error e=>exact J|ok fl=>cases fl with |ret r=> refine bX J λk hq=>?_;clear J;obtain rfl:=k;exact aW (bO rfl (aW hq))|_=>exact J.elim
end
end Internal
namespace Internal
theorem oZ{M:nx}{A:bT}{E:EP}{s:aO}{v:aP}{Q:Bool->aO->Prop}(hg:A.guards=some [])(h:Q false s):iQ M A (BC.Bytes.exported v) Q E s:=by
 intro d p t F;have gu:guardsOf ((d.code,p)::d.below)=[]:=by refine aC (guardsOf_cons _ _ _) ?_;exact t.2.2.2.1 [] hg
 have all:∀x∈(d.code,p)::d.below,x.1.isGuard=false/\pe x.1=true:=by
   intro x hx;refine⟨?_,?_⟩;·cases q:x.1.isGuard with |false=>rfl|true=>
       have:x.1∈guardsOf ((d.code,p)::d.below):=by exact rk.mpr ⟨bR.mpr ⟨x,hx,rfl⟩,q⟩
       exact absurd (gu▸this) nofun
   · rcases a_.mp hx with rfl|hx;·exact F.1
     ·exact F.2 x hx
 have any:∀f:Code×Pos->Bool,(∀c q,c.isGuard=false->pe c=true->f (c,q)=false)->((d.code,p)::d.below).any f=false:=by
   intro f hf;refine qP yS ?_;intro x hx;refine aC (hf x.1 x.2 (all x hx).1 (all x hx).2) ?_;exact mZ
 show Q (((d.code,p)::d.below).any _) s;rw[any _ ?key];·exact h
 · intro c q h1 h2;rcases c<;>first|rfl|skip
   skip;have h3:lD.contains id=false:=by have h2:(!(lD.contains id))=true:=h2;simpa only[hO]using h2
   have ne:∀x,guardIds.contains x=true->id≠x:=by rintro x hx rfl;cases(hx.symm.trans h1)
   unfold BC.Bytes.exported.match_1;refine(dif_neg (ne "bytearray.__contains__" (by decide+kernel))).trans ((dif_neg (ne "bytearray.__mod__" (by decide+kernel))).trans ((dif_neg (ne "bytearray.__rmod__" (by decide+kernel))).trans ((dif_neg (ne "_struct.pack_into.held" (by decide+kernel))).trans ((dif_neg (ne "bytearray.find.held" (by decide+kernel))).trans ?_))));obtain⟨_|⟨a,r⟩,e⟩:=args;·rfl
   · show(BC.Bytes.sameRef a v&&lD.contains id)=false;exact aC h3 (aC (Cb _) rfl)
end Internal
end
namespace Internal
open PySem PySem.W PyProof.Rows PySem.SeqAt
theorem Mg:mroOf (.type "bytearray")=pure [.type "bytearray",.type "object"]:=by refine aC (mroOf_type _) ?_;kernel_rfl
theorem BL:jP (.type "bytearray") "__new__"=pure (some (.builtin "bytearray.__new__")):=by refine aC (dY _ _) (aC cU ?_);kernel_rfl
theorem CM:Slot "bytearray" "__init__" "bytearray.__init__":=.of (owner:="bytearray") (n:="__init__") (by refine aC (dY _ _) (aC cU ?_);kernel_rfl) (by decide+kernel) (by decide+kernel) (by decide+kernel) (by first|exact .inl (by decide+kernel)|exact .inr (by decide+kernel)) (by refine aC (jV _ _) ?_;kernel_rfl)
theorem JI:TypeCalled "bytearray" "bytearray.__new__" "bytearray.__init__":=⟨by decide+kernel,by decide+kernel,⟨_,_,Mg⟩,madeBy_type Mg BL (by decide+kernel),by decide+kernel,by refine aC (jV _ _) ?_;kernel_rfl,CM⟩
theorem Er(a:aP):aX5 "bytearray" ⟨[a],[]⟩=pure ():=by kernel_rfl
theorem GZ(a:aP):nk "bytearray.__new__" ⟨[.type "bytearray",a],[]⟩=pure ():=by kernel_rfl
theorem CU:qC BA "bytearray.__new__"=some BC.«list.__new__»:=entryFor_alias (id':="list.__new__") (by kernel_rfl) (by first|rfl|decide+kernel|(simp+decide[IQ])) (by decide+kernel) (by kernel_rfl)
theorem wX:plainId "bytearray.__new__"=true:=by decide+kernel
theorem BN:qC BA "bytearray.__init__"=some BC.«bytearray.__init__»:=by first|exact entryFor_of_tree (by kernel_rfl)|exact entryFor_of_fast (by kernel_rfl)
theorem CT(a b:aP):tB "bytearray.__init__" ⟨[a,b],[]⟩:=by unfold tB;refine aC (uN (id:="bytearray.__init__") (n:=['_','_','t','i','n','i','_','_']) (o:=['y','a','r','r','a','e','t','y','b']) (by kernel_rfl) w_) ?_;kernel_rfl
theorem zV(v:aP):BC.Bytes.bindOptional "bytearray.__init__" "bytearray" ["source","encoding","errors"] [v] []=pure [some v,none,none]:=by kernel_rfl
theorem C2:("bytearray.__new__".splitOn ".__new__").headD ""="bytearray":=by simp+decide[String.splitOn,IQ]
theorem Ao:pe (.builtin "bytearray.__init__" ⟨[],[]⟩)=true:=by decide+kernel
theorem zh:jP (.type "bytes") "__index__"=pure none:=by refine aC (dY _ _) (aC cU ?_);kernel_rfl
section
variable{prog:iS}{w:jH}{A:bT}{E:EP}{s:aO}
noncomputable def ba0:Obj:={cls:=.type "bytearray",data:=.bytearray #[]}
theorem Fl(a:aP)(h:Q₁ (.ref s.heap.objs.size) {s with heap:=s.heap.push ba0}):vT (bB prog w) A (.call (.builtin "bytearray.__new__") ⟨[.type "bytearray",a],[]⟩) (F4 Q₁ E) s:=by
 refine Eg (aA (dQ (GZ a) (wpAny_pure ⟨nO wX _,codeAny_builtin_stack CU rfl λp st=>aC (jG wX _) ?_⟩)));have hsub:=LW;obtain⟨hp,g,d,tk,os⟩:=s;refine oj (by simp only[C2];rfl) ?_;wp_walk;exact h
theorem pC{M:nx}{a:Addr}{b:Array UInt8}{n:Nat}{f:Array UInt8->Array UInt8}{Q:Unit->aO->Prop}(ho:s.heap.get? a=some {cls:=.type "bytearray",data:=.bytearray b n})(hz:(f b).size<=sizeLine)(h:∀h',jF a s.heap h'->h'.get? a=some {cls:=.type "bytearray",data:=.bytearray (f b) n}->Q () {s with heap:=h'}):wpAny M A (BC.Bytes.write (.ref a) f) Q E s:=by
 refine JZ ho (aA (J8 ho (af1 (dH (MS f) ho rfl) ?_ (h _ (iE ..) (dH (MS f) ho rfl)))));show(if(f b).size>sizeLine then some "bytearray:memory"else none)=none;exact aC (if_neg (kZ.mpr hz)) rfl
theorem Iq:("bytes.__buffer__":String).endsWith ("."++"__buffer__")=true:=by decide+kernel
theorem Iv:("bytes.__buffer__":String).dropRight (("__buffer__":String).length+1)="bytes":=by decide+kernel
theorem xI{M:nx}{id:String}{full:Bool}{b:Array UInt8}{t:Tok}{Q:Option (Array UInt8)->aO->Prop}(h:Q (some b) s):wpAny M A (oF id (.bytes b t) full) Q E s:=by
 have n:=oI s b t;refine aA (b_ n rr ?_);dsimp only;refine aA (aA (b_ n rr ?_));dsimp only;exact oj (aC Iq (aC Iv rfl)) (gC rfl (nq n Uv (gC rfl (aA (b_ n rr (aA (aA (aA (b_ n GU (wpAny_pure (wpAny_pure (gC rfl (aA (abp (wpAny_pure (wpAny_pure h))))))))))))))))
theorem vL{v:bT}{a:Addr}{b:Array UInt8}{t:Tok}{R:oO->aO->Prop}(hg:A.guards=some [])(ho:s.heap.get? a=some ba0)(hz:b.size<=sizeLine)(h:∀h',jF a s.heap h'->h'.get? a=some {cls:=.type "bytearray",data:=.bytearray b 0}->R (.ok (.ret .none)) {s with heap:=h'}):iQ (bB prog w) A (BC.«bytearray.__init__» ⟨[.ref a,.bytes b t],[]⟩) (qI (bB prog w) v R) (λe s'=>R (.error e) s') s:=by exact bF (aA (nH (⟨_,ho,rfl⟩) rG (by decide+kernel) (by decide+kernel) (wpAny_pure (bO rfl (aL (p8 (zV _) (aW (aL (mD () rfl (aL (mD () rfl (aL (aL (oZ hg (bF (JZ ho (wpAny_pure (aW (bO rfl (bF (pC ho (eR _) λh₁ Z L=>bF (dQ (a:=none) rfl (bO rfl (aL (mD () rfl (bF (b_ (oI _ b t) zh (bO rfl (bF (xI (bF (i7 (bF (pC L hz λE n m=>aW (h E (Z.trans n) m)))))))))))))))))))))))))))))))))))
theorem FD{v:bT}{a:Addr}{n:Int}{t:Tok}{R:oO->aO->Prop}(hg:A.guards=some [])(ho:s.heap.get? a=some ba0)(h0:0<=n)(hz:n<=4096)(h:∀h',jF a s.heap h'->h'.get? a=some {cls:=.type "bytearray",data:=.bytearray (Array.replicate n.toNat 0) 0}->R (.ok (.ret .none)) {s with heap:=h'}):iQ (bB prog w) A (BC.«bytearray.__init__» ⟨[.ref a,.int n t],[]⟩) (qI (bB prog w) v R) (λe s'=>R (.error e) s') s:=by
 unfold BC.«bytearray.__init__»;refine bF (aA (nH (⟨_,ho,rfl⟩) rG (by decide+kernel) (by decide+kernel) (wpAny_pure (bO rfl (aL (p8 (zV _) (aW (aL (mD () rfl (aL (mD () rfl (aL (aL (oZ hg (bF (aA (U2 ho (wpAny_pure (aW (bO rfl (bF (pC ho (eR _) λh₁ Z L=>bF (dQ (a:=none) rfl (bO rfl (aL (mD () rfl (bF (b_ (z4 _ n t) Bx.lookup (sg rfl (aL (si (mD n rfl ?_))))))))))))))))))))))))))))))));dsimp only;have hf:lE n=true:=by simp only[lE,bP,decide_eq_true_eq];exact(⟨aG (by decide) h0,bJ hz (by decide)⟩)
 refine aC hf (bO rfl (zw (if_neg (o28 h0)) (bO (by refine qP beq_eq_false_iff_ne ?_;exact(λq=>absurd hz (q▸by decide))) ?_)));have Y:sizeLine=2^24:=by decide
 refine bO (by unfold zJ;refine qP decide_eq_false_iff_not ?_;exact aF7 Y hz) ?_;refine bF (i7 ?_);by_cases hn:n>0;·exact zw (if_pos hn) (bF (pC L (by simp;exact aR9 Y hz) λE o m=>aW (h E (Z.trans o) m)))
 · refine zw (if_neg hn) ?_;replace h:=(Int.toNat_of_nonpos (iW.mp hn))▸h;exact aW (h h₁ Z L)
theorem GT{v:bT}{a c:Addr}{b:List UInt8}{R:oO->aO->Prop}(hg:A.guards=some [])(ho:s.heap.get? a=some ba0)(I:c≠a)(f:s.heap.get? c=some (ue b))(hz:b.length<=100000)(h:∀h',jF a s.heap h'->h'.get? a=some {cls:=.type "bytearray",data:=.bytearray b.toArray 0}->R (.ok (.ret .none)) {s with heap:=h'}):iQ (bB prog w) A (BC.«bytearray.__init__» ⟨[.ref a,.ref c],[]⟩) (qI (bB prog w) v R) (λe s'=>R (.error e) s') s:=by
 refine bF (aA (nH (⟨_,ho,rfl⟩) rG (by decide+kernel) (by decide+kernel) (wpAny_pure (bO rfl (aL (p8 (zV _) (aW (aL (mD () rfl (aL (mD () rfl (aL (aL (oZ hg (bF (JZ ho (wpAny_pure (aW (bO rfl (bF (pC ho (eR _) λh₁ Z L=>?_)))))))))))))))))))));have P:h₁.get? c=some (ue b):=(Z.2 c I).trans f;exact bF (JZ P (wpAny_pure (bO rfl (aL (mD () rfl (bF (b_ (T:="bytearray") ⟨_,P,rfl⟩ y7 (bO rfl (bF (Cm P (bF (i7 (bF (pC L (kB hz) λE n m=>aW (h E (Z.trans n) m)))))))))))))))
theorem LU(hi:mX vs ns)(hr:∀n∈ns,0<=n/\n<256)(p:aP->Bool)(hp:∀i t,p (.int i t)=(decide (0<=i)&&decide (i<256))):vs.takeWhile p=vs:=by induction hi with |nil=>rfl|cons i t r j=> refine aC List.takeWhile_cons (aC (hp _ _) ?_);simp only[(hr i (.head _)).1,(hr i (.head _)).2,decide_true,Bool.and_self,if_true];exact aC (j λn hn=>hr n (.tail _ hn)) rfl
theorem Pd(hi:mX vs ns)(g:aP->Option UInt8)(hg:∀i t,g (.int i t)=some i.toNat.toUInt8):vs.filterMap g=ns.map λn=>n.toNat.toUInt8:=by induction hi with|nil=>rfl|cons i t r j=>simp[hg,j]
theorem Dk{v:bT}{a l:Addr}{vs:List aP}{ns:List Int}{R:oO->aO->Prop}(hg:A.guards=some [])(ho:s.heap.get? a=some ba0)(J:l≠a)(hl:s.heap.IsList l vs.toArray)(hi:mX vs ns)(hr:∀n∈ns,0<=n/\n<256)(hz:ns.length<=100000)(h:∀h',jF a s.heap h'->h'.get? a=some {cls:=.type "bytearray",data:=.bytearray (ns.map λn=>n.toNat.toUInt8).toArray 0}->R (.ok (.ret .none)) {s with heap:=h'}):iQ (bB prog w) A (BC.«bytearray.__init__» ⟨[.ref a,.ref l],[]⟩) (qI (bB prog w) v R) (λe s'=>R (.error e) s') s:=by
 refine bF (aA (nH (⟨_,ho,rfl⟩) rG (by decide+kernel) (by decide+kernel) (wpAny_pure (bO rfl (aL (p8 (zV _) (aW (aL (mD () rfl (aL (mD () rfl (aL (aL (oZ hg (bF (JZ ho (wpAny_pure (aW (bO rfl (bF (pC ho (eR _) λh₁ Z L=>?_)))))))))))))))))))));have E:h₁.IsList l vs.toArray:=by refine aY hl λo e r=>?_;clear hl;exact⟨o,(Z.2 l J).trans e,r⟩
 refine G6 (id E) λol q d nl t=>?_;have b:aO.TypeIs {s with heap:=h₁} (.ref l) "list":=⟨_,q,d⟩;refine bF (JZ q (aC t (wpAny_pure (bO rfl (aL (mD () rfl (bF (b_ b F.bm_no_index (bO rfl (bF (aA (b_ b af5 (aA (b_ b af5 (wpAny_pure (bF (sQ b (sg (by decide) (bF (qD q t ?_))))))))))))))))))));dsimp only;refine aC (LU hi hr _ (λc c=>rfl)) ?_;have i:vs.toArray[vs.length]?=none:=by simp
 exact aC i (bF (i7 (aC (Pd hi _ (λc c=>rfl)) (bF (pC L (by simp only[bC,aJ];exact kB hz) λG p m=>aW (h G (Z.trans p) m))))))
end
end Internal
namespace Internal
open PySem PySem.W PyProof.Rows PySem.SeqAt
variable{W:Wd}
section
variable{prog:iS}{w:jH}{A:bT}{E:EP}{s:aO}
noncomputable def Kj(b:Array UInt8)(i:Nat)(v:aP):Prop:=∃c u,b[i]?=some c/\v=.int (c.toNat:Int) u
theorem Yu:rx (.type "bytes") (.type "bytes")=pure true:=by refine aC (jV _ _) ?_;kernel_rfl
theorem DE(hh:A.handled=none)(b:Array UInt8)(t:Tok)(S:Addr)(res:aP)(g:Nat)(I:s.heap.get? S=some {cls:=.type "list",data:=.seq #[] g})(hn:b.size<=sizeLine)(J:∀h' h G x,(∀bb o,bb≠S->s.heap.get? bb=some o->h'.get? bb=some o)->h'.get? S=some {cls:=.type "list",dict:=none,data:=.seq G x,slots:=#[]}->ItemsOf (Kj b) G b.size->R (.ok (.ret res)) {s with heap:=h',toks:=h}):wpAny (bB prog w) A.in1 (wQ (.ref S) (.bytes b t) res) (λfin s'=>match fin with|.done f=>R (.ok f) s'|.again x=>x.quiet=true/\vT (bB prog w) A x R s') (λe s'=>R (.error e) s') s:=by
 refine aA (sQ (T:="bytes") (v:=.bytes b t) rfl (aA (uv ?_)));have L:i5 (s.heap.push {cls:=.type "bytes_iterator",data:=.fields #[.bytes b t,.int 0 0]}) s.heap.objs.size b t 0:=⟨_,aU _ rfl,rfl,rfl⟩;refine aA (c_ (aA (b_ (T:="bytes") (v:=.bytes b t) rfl FB.slot_bytes_len.lookup ?_)));wp_delta;refine aA (nq (T:="bytes") (v:=.bytes b t) (b:=true) rfl Yu (aA (sQ (T:="bytes") (v:=.bytes b t) rfl (wpAny_pure ?_))));first|refine aC (if_neg (by decide)) ?_|skip
 refine wpAny_pure ⟨nO F.plain_extend_loop _,codeAny_extend_loopS (KBw.walks (A:=A.in1) hh _ b t).toS hn _ (λhm=>(eX (dT I)) (fO.mp hm)) _ b.size 0 _ _ _ rfl (eR _) L (aK _ I) (ItemsOf.nil _) λs' G x hm H C=>?_⟩;refine aC (Moved.eq_with hm) (J s'.heap s'.toks G x (λbb ob c e=>hm.heap bb ob (λE=>?_) (aK _ e)) H C);rcases a_.mp E with B|E;·exact c B
 ·exact absurd (dT e) ((fO.mp E)▸Ef _)
theorem zr(hh:A.handled=none)(b:Array UInt8)(t:Tok)(hn:b.size<=sizeLine)(z:∀h' g G x,(∀b o,s.heap.get? b=some o->h'.get? b=some o)->h'.get? s.heap.objs.size=some {cls:=.type "list",dict:=none,data:=.seq G x,slots:=#[]}->ItemsOf (Kj b) G b.size->Q (.ref s.heap.objs.size) {s with heap:=h',toks:=g}):wpAny (bB prog w) A (call (.type "list") [.bytes b t]) Q E s:=by
 refine F5 (Q₁:=λobj s₁=>obj=.ref s.heap.objs.size/\s₁={s with heap:=s.heap.push {cls:=.type "list",data:=.seq #[]}}) F.called_list (F.typeCall_list_1 _) F.entry_list_init (code_list_new _ ⟨rfl,rfl⟩) λobj s₁ h₁=>?_;refine bX h₁ λL f=>?_;clear h₁;obtain rfl:=L;obtain rfl:=f;have I:(s.heap.push {cls:=.type "list",data:=.seq #[]}).get? s.heap.objs.size=some {cls:=.type "list",data:=.seq #[]}:=aU _ rfl;refine⟨⟨_,I,rfl⟩,F.args_list_init_2 _ _,?_⟩;show wpAny _ _ (do let old<-BC.List.listItems (.ref s.heap.objs.size);BC.List.listUpdate (.ref s.heap.objs.size) (λa=>#[]);letGo old.toList.reverse;wQ (.ref s.heap.objs.size) (.bytes b t) .none) _ _ _;refine aA (aA (qD I rfl (wpAny_pure (aA (wpAny_updateSeq I rfl ?_)))));have H:=dH (fF (λa=>(#[]:Array aP))) I rfl;have J:∀b o,b≠s.heap.objs.size->s.heap.get? b=some o->((s.heap.push {cls:=.type "list",data:=.seq #[]}).update s.heap.objs.size (fF (λa=>(#[]:Array aP)))).get? b=some o:=λb o c e=>(bY _ _ (eY c)).trans (aK _ e);exact aA (xY (DE (A:=A.in1) hh b t _ .none _ H hn λh' g G x hk N C=>⟨rfl,z h' g G x (λb o e=>hk b o (eX (dT e)) (J b o (eX (dT e)) e)) N C⟩))
end
theorem Ih(w:Vs W h l vs)(e:rE l=some b):∃ns,mX vs ns/\(∀n∈ns,0<=n/\n<256)/\ns.map (λn=>n.toNat.toUInt8)=b:=by induction l generalizing vs b with |nil=> obtain rfl:=aE e;exact w.e0 (P:=λvs=>∃ns,mX vs ns/\(∀n∈ns,0<=n/\n<256)/\ns.map (λn=>n.toNat.toUInt8)=[]) ⟨[],.nil,(by decide),rfl⟩|cons a l ih=>
   rcases vs with _|⟨v,vs⟩;·exact w.elim
   · refine eC λk_=>aY (iA.mp e) λx ex e=>aY (d_.mp e) λq eq e9x=>?_;obtain rfl:=e9x;refine gA (ih w.2 eq) λns i1 i2 i3=>?_;clear ih eq e;rcases a<;>dsimp only[HE]at ex<;>first|(exact iH ex;done)|skip
     refine k_ ?_;skip;split at ex
     · rename_i hi;simp only[dK]at ex;subst ex;refine iK (pR w.1) λt e_=>aC e_ ⟨i::ns,.cons i t i1,λn hn=>?_,by simp[i3,Nat.toUInt8]⟩;clear i1 i3 w k_ e_;rcases a_.mp hn with rfl|hn;·exact hi
       ·exact i2 n hn
     ·contradiction
theorem Vs1(x:Vs W h [a] vs):∃v,vs=[v]/\V W h a v:=by
 rcases vs with _|⟨v,r⟩;·exact x.elim
 · rcases r with _|_;·exact⟨v,rfl,x.1⟩
   ·exact x.2.elim
theorem ab1(e:u.toList=b):V W h (.bytes b) (.bytes u t):=by subst e;exact⟨t,rfl⟩
theorem ty1{K:KP}{E:KP}{S:CS}(h:nJ k args K E S):∃a,args=[a]:=by
 rcases k with _|_|_|_|_|_|_|_|_|_;·exact fA h
 all_goals rcases args with _|⟨a,_|_⟩<;>first|exact fA h|exact⟨a,rfl⟩|(rcases a<;>exact fA h)
theorem as6(O:dM W)(hh:A.handled=none)(hk:k≠3)(R:jE W S s)(x:Vs W s.heap args vs):pX W (V W) none A (nJ k args) (call (.type (tyName k)) vs) S s:=by
 intro K E hm;refine iK (ty1 hm) λa H=>?_;obtain rfl:=H;refine aY (Vs1 x) λv J y=>?_;obtain rfl:=J;clear x;rcases k with _|_|_|_|_|_|_|_|_|_<;>first|exact fA hm|exact absurd rfl hk|skip
 · rcases a with _|_|i|_|_|_|_|_|_|_|_|_|_<;>first|exact fA hm|skip
   exact iK (pR y) λt L=>aC L (call_int_int (fU R V.int hm))
 · rcases a<;>first|exact hm.elim|skip
   · revert hm;exactλh=>bX h λhz hm=>iK (n4 y) λt L=>aC L (yg (fU R V.bytes hm))
   · have p:=gT y;subst p;refine eC λd=>?_;revert hm;refineλh=>aY h λo e hm=>d ?_;cases o with |barr b=> revert hm;exactλh=>bX h λhz hm=>B7 (R.rep _ _ e).2 hz (eZ O R V.bytes hm)|list l=> refine eC λd=>?_;revert hm;refineλh=>bX h λhz hm=>aY (n5 hm) λb eb hm=>?_;revert hm;refineλh=>bX h λQ hm=>dZ (R.list e) λz n g w I=>gA (Ih w eb) λns Y i2 X=>d (call_bytes_ints I Y i2 (by refine aC w.length ?_;exact kB hz) hh λh' t k hk=>?_);exact sk (s':={s with heap:=h',toks:=k}) O R hk rfl rfl (ab1 (by unfold byteArr;exact X)) hm|_=>exact hm.elim
 · rcases a with _|_|i|_|_|_|_|_|_|_|_|_|_<;>first|exact fA hm|skip
   refine iK (pR y) λt L=>aC L ?_;revert hm;refineλh=>bX h λhz hm=>call_range_1 (sk (s':={s with heap:=s.heap.push _,toks:=_}) O R (λf f e=>aK _ e) rfl rfl (a:=.rng i) ?_ hm);exact⟨_,_,_,_,rfl,R.stat.size,aU _ rfl⟩
 · rcases a with _|_|_|_|b|_|_|_|_|_|_|_|_<;>first|exact fA hm|skip
   refine iK (n4 y) λt L=>aC L ?_;revert hm;refineλh=>bX h λhz hm=>zr hh b.toArray t (kB hz) λh' m acc c hk hD C=>yM (s':={s with heap:=h',toks:=m}) O R hm hk rfl rfl R.stat.size (bL (bM _)) ⟨acc.toList,c,hD,?_⟩;have G:∀(b:List UInt8)(l:List aP),l.length=b.length->(∀(j:Nat)(v:aP),l[j]?=some v->∃c u,b[j]?=some c/\v=.int (c.toNat:Int) u)->Vs W h' (b.map λx=>eD x.toNat) l:=by intro b;induction b with |nil=>intro l hl _;refine aC (List.length_eq_zero_iff.mp hl) ?_;trivial|cons c b Z=>
       intro l hl hj;rcases l with _|⟨v,l⟩;·contradiction
       · refine eJ (hj 0 v rfl) λc' u e1 D=>?_;simp only[mI,dK]at e1;subst e1;subst D;exact⟨V.int,Z l (by simpa using hl) λj v e=>by exact hj (j+1) v (e)⟩
   refine G b acc.toList (by simpa using C.1) λj v e=>eJ (C.2 j v ((qa).symm.trans e)) λc u e1 D=>?_;exact⟨c,u,by simpa using e1,D⟩
 · refine eJ (sW hm) λa l B T=>?_;obtain rfl:=B;refine bX T λe hm=>?_;have p:=gT y;subst p;refine eC λd=>?_;revert hm;refineλh=>bX h λhz hm=>dZ (R.list e) λz n g w I=>d (call_tuple_list I (λh' hk=>sk (s':={s with heap:=h'.push _}) O R (λf f e=>aK _ (hk _ _ e)) rfl rfl (a:=.tup l) ?_ hm) (by simp only[bC,w.length];exact kB hz));exact⟨_,z,0,rfl,R.above O hk,aU _ rfl,w.keep (λb o f e f=>aK _ (hk _ _ e))⟩
 · refine eC λd=>eJ (sW hm) λa l U r=>?_;obtain rfl:=U;refine bX r λe hm=>?_;have p:=gT y;subst p;refine aY (n5 hm) λq eq hm=>?_;revert hm;refineλh=>bX h λN hm=>bX N λhz hr=>dZ (R.list e) λz n g w I=>bX (HG w eq) λhi f=>d (call_set_list hh I (hi) (by simp only[bC,hi.length];exact aQ8 hz) λh' m F hk=>?_);simp only[bC,hi.length]at F;exact yM (s':={s with heap:=h',toks:=m}) O R hm (λb o e=>hk b o (dT e) e) rfl rfl R.stat.size (bL (bM _)) ⟨_,F⟩
 · rcases a with _|_|i|_|_|_|_|_|_|_|_|_|_<;>first|exact fA hm|skip
   refine iK (pR y) λt L=>aC L ?_;revert hm;refineλh=>bX h λhz hm=>P.str_of_int ?_ (eZ O R V.str hm);by_cases h0:i.natAbs=0;·refine aC h0 ?_;decide
   · have:=(Bq h0 (k:=60)).mpr hz;exact(rU this (by decide))
end Internal
section
open PySem PySem.W PyProof.Rows PySem.SeqAt
namespace Internal
variable{W:Wd}
section
variable{prog:iS}{w:jH}{A:bT}{E:EP}{s:aO}
theorem xi(hg:A.guards=some [])(hi:∀(R:oO->aO->Prop)(B:bT)(s₁:aO),B.guards=some []->s₁={s with heap:=s.heap.push ba0}->(∀h',jF s.heap.objs.size s₁.heap h'->h'.get? s.heap.objs.size=some {cls:=.type "bytearray",data:=.bytearray b 0}->R (.ok (.ret .none)) {s₁ with heap:=h'})->iQ (bB prog w) B (BC.«bytearray.__init__» ⟨[.ref s.heap.objs.size,src],[]⟩) (qI (bB prog w) A.in1 R) (λe s'=>R (.error e) s') s₁)(z:∀h',(∀b o,s.heap.get? b=some o->h'.get? b=some o)->h'.get? s.heap.objs.size=some {cls:=.type "bytearray",data:=.bytearray b 0}->Q (.ref s.heap.objs.size) {s with heap:=h'}):iQ (bB prog w) A (call (.type "bytearray") [src]) Q E s:=by
 refine JK (Q₁:=λobj s₁=>obj=.ref s.heap.objs.size/\s₁={s with heap:=s.heap.push ba0}) JI (Er _) BN Ao (Fl _ ⟨rfl,rfl⟩) λobj s₁ h₁=>bX h₁ λt S=>?_;clear h₁;obtain rfl:=t;obtain rfl:=S;have G:(s.heap.push ba0).get? s.heap.objs.size=some ba0:=aU _ rfl;refine⟨⟨_,G,rfl⟩,CT _ _,hi _ _ _ hg rfl λh' F e=>⟨rfl,z h' (λb o eo=>(F.2 b (eX (dT eo))).trans (aK _ eo)) e⟩⟩
end
theorem Rq(O:dM W)(hg:A.guards=some [])(R:jE W S s)(x:Vs W s.heap args vs):dC W (V W) none A (nJ 3 args) (call (.type "bytearray") vs) S s:=by
 intro K E hm;have fin:∀{b:List UInt8}{h':Heap},mk (.barr b) K E S->(∀b o,s.heap.get? b=some o->h'.get? b=some o)->h'.get? s.heap.objs.size=some {cls:=.type "bytearray",data:=.bytearray b.toArray 0}->Qk W (V W) none S s K (.ref s.heap.objs.size) {s with heap:=h'}:=λhm hk e=>yM (s':={s with heap:=_}) O R hm hk rfl rfl R.stat.size (bL (bM _)) e;have other:∀{v:CV},args=[v]->((Y8 v).bind λb=>(gd (bN b.length)).bind λa=>mk (.barr b)) K E S->iQ (bB prog W.w) A (call (.type "bytearray") vs) (Qk W (V W) none S s K) (Qe W none S s E) s:=by
   intro v ea z;clear hm;subst ea;have hm:=z;clear z;refine aY (Vs1 x) λu L y=>aC L ?_;rcases v<;>first|exact hm.elim|skip
   · refine eC λd=>?_;revert hm;refineλj=>bX j λhz hm=>iK (n4 y) λt L=>d (L▸?_);exact xi hg (λRr B s₁ f e h=>by subst e;exact vL f (aU _ rfl) (kB hz) h) λh' hk e=>fin hm hk e
   · skip;have p:=gT y;subst p;revert hm;refineλj=>aY j λo e hm=>?_;cases o with |barr b=> refine eC λd=>?_;revert hm;refineλj=>bX j λhz hm=>d ?_;have g:=(R.rep _ _ e).2;have F:=dT g;exact xi hg (λRr B s₁ f e h=>by subst e;exact GT f (aU _ rfl) (eX F) (aK _ g) hz h) λh' hk e=>fin hm hk e|list l=> refine eC λd=>?_;revert hm;refineλj=>bX j λhz hm=>aY (n5 hm) λb eb hm=>?_;revert hm;refineλj=>bX j λQ hm=>dZ (R.list e) λq n g w I=>gA (Ih w eb) λns C i2 P=>d (xi (b:=b.toArray) hg (λRr B s₁ f e h=>?_) λh' hk e=>fin hm hk e);subst e;refine Dk f (aU _ rfl) (eX (dT g)) (I.push _) C i2 ?_ (P▸h);refine iZ C.length (aC w.length ?_);exact hz|_=>exact hm.elim
 rcases args with _|⟨v,r⟩;·exact hm.elim
 · refine eC λd=>?_;rcases r with _|⟨_,_⟩;refine d ?_;·cases v with |int i=>
       refine aY (Vs1 x) λu L y=>aC L (eC λd=>iK (pR y) λt T=>?_);obtain rfl:=T;revert hm;refineλj=>bX j λN hm=>bX N λh0 h1=>d ?_;refine xi hg (λRr B s₁ f e h=>by
         subst e;exact FD f (aU _ rfl) h0 h1 h) λh' hk e=>fin hm hk (e)|_=>exact other rfl hm
   ·clear O hg R fin d x other;rcases v<;>exact hm.elim
end Internal
namespace Internal
variable{W:Wd}
section
variable{prog:iS}{w:jH}{A:bT}{E:EP}{s:aO}
theorem Dg{T:String}{name:Str}{id:String}{b:BC}{self:aP}{rest:List aP}{Q:Option aP->aO->Prop}(sl:Slot T name id)(n:s.TypeIs self T)(c:qC BA id=some b)(hn:pe (.builtin id ⟨[],[]⟩)=true)(ha:tB id ⟨self::rest,[]⟩)(h:iQ (bB prog w) A.in1 (b ⟨self::rest,[]⟩) (qI (bB prog w) A (F4 (λv s'=>Q (some v) s') E)) (λe s'=>E e s') s):iQ (bB prog w) A (callSpecial? self name rest) Q E s:=by
 refine bF (b_ n sl.lookup (bI (aL (p8 (sl.bind self) (aW (aL (oa (i9 (R:=F4 (λv s'=>Q (some v) s') E) (gZ (nO sl.plain _) hn c (sl.check _ _ _ _ _ _ _ _ n ha ?_)) λW x J=>?_))))))));·refine aC (jG sl.plain _) ?_;exact h
 · rcases W with e|fl;·exact J
   ·cases fl with |ret r=>exact aW J|_=>exact J.elim
theorem BU:pe (.builtin "bytearray.__setitem__" ⟨[],[]⟩)=true:=by decide+kernel
theorem C4:jP (.type "bytes") "__int__"=pure none:=by refine aC (dY _ _) (aC cU ?_);kernel_rfl
theorem EE:jP (.type "bytes") "__float__"=pure none:=by refine aC (dY _ _) (aC cU ?_);kernel_rfl
theorem Jh:rx (.type "bytes") (.type "bytearray")=pure false:=by refine aC (jV _ _) ?_;kernel_rfl
theorem AJ:rx (.type "bytes") (.type "complex")=pure false:=by refine aC (jV _ _) ?_;kernel_rfl
theorem FE{a sl:Addr}{b c:List UInt8}{t:Tok}{I N:aP}{lo hi:Option Int}{i j:Nat}{Q:Unit->aO->Prop}(hg:A.guards=some [])(ho:s.heap.get? a=some (ue b))(hs:s.heap.IsSliceOf sl I N .none)(l:z6 I lo)(p:z6 N hi)(m:uG lo hi none b.length=((i:Int),(j:Int),1))(u:i<=j)(hj:j<=b.length)(f:c.length=j-i)(hz:b.length<=100000)(z:∀h',(∀bb o,bb≠a->s.heap.get? bb=some o->h'.get? bb=some o)->h'.get? a=some (ue (b.take i++c++b.drop j))->Q () {s with heap:=h'}):iQ (bB prog w) A (ac6 (.ref a) (.ref sl) (.bytes c.toArray t)) Q E s:=by
 refine gA (id hs) λos y J L=>?_;have k:s.TypeIs (.ref sl) "slice":=⟨os,y,J⟩;refine bI (bF (uF (⟨_,ho,rfl⟩) (by decide) (aL (Dg (name:=aD "__setitem__") zD (⟨_,ho,rfl⟩) yH BU (zE _ _ _) ?_))));unfold BC.«bytearray.__setitem__»;refine bO rfl (bF (aA (b_ k az0 (wpAny_pure (bF (sQ k (bO (by decide) (bF (AL hs l p ?_)))))))));have d:=oI s c.toArray t;refine bF (nq d Jh (sg rfl (bF (aA (aA (b_ d zh (wpAny_pure (aA (aA (b_ d C4 (wpAny_pure (aA (aA (b_ d EE (wpAny_pure (nq d AJ (bF (dQ (a:=none) rfl (bO rfl (bF (i7 ?_)))))))))))))))))))));refine aL (xi (A:=A.in1) hg (λRr B s₁ P e h=>by
   subst e;exact vL P (aU _ rfl) (kB (aF8 f hz hj)) h) λh' hk e=>?_);have C:h'.IsSliceOf sl I N .none:=by refine aY hs λo e1 r=>?_;clear hs;exact⟨o,hk _ _ e1,r⟩
 refine aL (bI (cQ (AL C l p (bF (p9 (b:=c) e (bF (p9 (hk _ _ ho) (bF (dQ (ae8 lo hi none b.toArray.size ((by decide))) (aC bC (aC m (sg rfl (bF (i7 (aC (ak5 u) (bO (by refine aC bC (aC f ?_);simp only[bne_eq_false_iff_eq];exact(ad0 (aX.mp (aG (Int.le_max_left _ _) (dF (ak5 u)))))) ?_))))))))))))))));refine bF (pC (b:=b.toArray) (n:=0) (hk _ _ ho) ?_ λF G g=>?_)
 · have Y:sizeLine=2^24:=by decide
   simp only[Array.size_append,Array.size_extract,bC];exact aW8 Y f hz hj
 · refine aW (aW (z F (λbb o R e=>(G.2 bb R).trans (hk _ _ e)) (aC g ?_)));have:((b.toArray.extract 0 (i:Int).toNat++c.toArray)++b.toArray.extract (j:Int).toNat b.toArray.size)=(b.take i++c++b.drop j).toArray:=by simp[dE]
   refine aC this ?_;rfl
end
end Internal
end
namespace Internal
open PySem PySem.W PyProof.Rows PySem.SeqAt
variable{W:Wd}
theorem xK:Slot "bytes" "join" "bytes.join":=.of (owner:="bytes") (n:="join") (by refine aC (dY _ _) (aC cU ?_);kernel_rfl) (by decide+kernel) (by decide+kernel) (by decide+kernel) (by first|exact .inl (by decide+kernel)|exact .inr (by decide+kernel)) (by refine aC (jV _ _) ?_;kernel_rfl)
theorem B8:qC BA "bytes.join"=some BC.«bytes.join»:=entryFor_of_tree (by kernel_rfl)
theorem CN(a b:aP):tB "bytes.join" ⟨[a,b],[]⟩:=by unfold tB;refine aC (uN (id:="bytes.join") (n:=['n','i','o','j']) (o:=['s','e','t','y','b']) (by kernel_rfl) FB.owner_bytes) ?_;kernel_rfl
section
variable{prog:iS}{w:jH}{A:bT}{E:EP}{s:aO}
theorem x_{M:nx}{id:String}{b:Array UInt8}{t:Tok}{Q:Option (Array UInt8×Option aP)->aO->Prop}(h:Q (some (b,none)) s):wpAny M A (BC.Bytes.takeBufferQuiet? id (.bytes b t) 0) Q E s:=by
 have n:=oI s b t;refine aA (IM (aA (b_ n rr ?_)));dsimp only;refine aA (aA (b_ n rr ?_));dsimp only;exact oj (aC Iq (aC Iv rfl)) (gC rfl (nq n Uv (gC rfl (aA (b_ n rr (aA (xI (wpAny_pure (wpAny_pure h)))))))))
theorem zy{M:nx}{keep:List aP}{Q:Unit->aO->Prop}:∀(taken:List (aP×Option aP)),(∀p∈taken,p.2=none)->Q () s->wpAny M A (BC.Bytes.joinLetGo taken keep) Q E s:=by intro taken;induction taken with |nil=>exactλ_ h=>wpAny_pure h|cons i r j=> obtain⟨x,w⟩:=i;intro hp h;have e:w=none:=hp (x,w) (.head _);exact aC e (oj (by rfl) (aA (xY (j (λp m=>hp p (.tail _ m)) h))))
inductive n6:List aP->List (List UInt8)->Prop|nil:n6 [] []|cons(b:List UInt8)(t:Tok){vs bs}(r:n6 vs bs):n6 (.bytes b.toArray t::vs) (b::bs)
theorem n6.get(x:n6 vs bs)(h:i<vs.length):∃b t,vs[i]?=some (.bytes b.toArray t)/\bs[i]?=some b:=by induction x generalizing i with|nil=>simp at h|cons b t r j=>
  rcases i with _|i;·exact⟨b,t,rfl,rfl⟩
  ·exact j (i:=i) (kJ h)
theorem n6.length(x:n6 vs bs):vs.length=bs.length:=by induction x with|nil=>rfl|cons b t r j=>simp[j]
theorem He(bs:List (List UInt8)):Aa #[] (bs.map rP)=bs.flatten.toArray:=by
 unfold Aa;have G:∀(bs:List (List UInt8))(n:Nat)(Y:Array UInt8),((bs.map rP).zipIdx n).foldl (λY(p:Array UInt8×Nat)=>(if p.2>0 then Y++#[]else Y)++p.1) Y=Y++bs.flatten.toArray:=by intro bs;induction bs with|nil=>intro n Y;simp|cons b r j=>intro n Y;simp only[fH,List.zipIdx_cons,MT];refine aC (j _ _) ?_;simp
 have:=G bs 0 #[];simpa using this
theorem jm1(items:Array aP)(h:items.size≠1)(f:aP->Sem D8)(g:Array aP->Sem D8):BC.Bytes.joinM.match_1 (λc=>Sem D8) items f g=g items:=by rcases items with⟨L⟩;match L,h with|[],_=>rfl|[a],h=>exact absurd rfl h|a::b::r,_=>rfl
theorem QA{l:Addr}{t:Tok}{vs:List aP}{bs:List (List UInt8)}{Q:EP}(hl:s.heap.IsList l vs.toArray)(f:n6 vs bs)(h2:2<=vs.length)(hz:bs.flatten.length<=100000)(h:∀e k,Q (.bytes bs.flatten.toArray e) {s with toks:=k}):wpAny (bB prog w) A (call (.builtin "bytes.join") [.bytes #[] t,.ref l]) Q E s:=by
 refine G6 (id hl) λol m d nl u=>lF xK (oI s #[] t) B8 (aA (dQ (a:=(zK #[] t,lN l)) rfl (aA (aA (sQ (⟨_,m,d⟩) (z9 (by decide) (wpAny_pure (aA (qD m u (z9 rfl (oj (by rw[jm1 _ (by rw[bC];exact(uP h2))]) ?_))))))))))) (CN _ _)
 · refine aA (oj (aC (Std.Legacy.Range.forIn_eq_forIn_range' _ _ _) rfl) ?_);refine wpAny_forIn_list _ (λrest b s'=>s'=s/\∃i,rest=List.range' i (vs.toArray.size-i)/\i<=vs.toArray.size/\b.1=((bs.take i).map rP).toArray/\(∀p∈b.2,p.2=none/\p.1.onHeap=false)) _ ?_ ?_ _ _ ⟨rfl,0,by simp,eR _,(by rfl),(by decide)⟩
   · clear hl h2 d;intro x rest q1_ s' q2_;obtain⟨parts,taken⟩:=q1_;refine bX q2_ λv H=>?_;clear q2_;obtain rfl:=v;refine wi H λi hr hi hp ht=>?_;clear H;have F:i<vs.length:=by
       rcases F6 i vs.length with h|h;·exact h
       ·replace hr:=(qy h)▸(bC▸hr);contradiction
     replace hr:=List.range'_succ▸((show vs.length-i=(vs.length-(i+1))+1 by exact((mM (tw F)).symm))▸(bC▸hr));cases hr;refine eJ (f.get F) λb e e1 z=>aA (qD m u ?_);dsimp only;have ex:vs.toArray.getD x eT=.bytes b.toArray e:=by have:=(aR.mp e1).2;simp[Array.getD,F,this]
     refine aC ex ?_;have any:(taken.any λx=>x.1.onHeap)=false:=by refine qP yS ?_;intro p o;refine aC ((ht p o).2) ?_;exact mZ
     refine aC any (gC rfl (aA (c_ (x_ (aA (qD m u (gC (by simp) (wpAny_pure ⟨rfl,x+1,(by rfl),F,?_,?_⟩))))))))
     ·dsimp only at hp|-;refine aC hp (aC iT (aC z ?_));simp
     · intro p o;rcases gH.mp o with q|q;·exact ht p q
       ·refine aC (fO.mp q) ?_;exact⟨rfl,rfl⟩
   · clear hl h2 m d u;intro q1_ s' q2_;obtain⟨parts,taken⟩:=q1_;refine bX q2_ λR B=>?_;clear q2_;obtain rfl:=R;refine wi B λi hr hi hp ht=>?_;clear B;have I:vs.length<=i:=by replace hr:=bC▸hr;have:=congrArg Ab hr;simp at this;exact(Nat.le_of_sub_eq_zero this.symm)
     replace hp:=(dE (f.length▸I))▸hp;refine hp▸(aA (abp (wpAny_pure ?_)));have hf:(bs.map rP).toArray.foldl (λy c=>y+c.size) ((#[]:Array UInt8).size*((bs.map rP).toArray.size-1))=bs.flatten.length:=by
       have G:∀(bs:List (List UInt8))(n:Nat),(bs.map rP).foldl (λy c=>y+c.size) n=n+bs.flatten.length:=by
         intro bs;induction bs with |nil=>intro n;simp|cons b r j=>intro n;simp only[fH,MT,j,List.flatten_cons,fB,bC];exact(qS _ _ _)
       simpa using G bs 0
     refine hf▸(gC (by unfold zJ;refine qP decide_eq_false_iff_not ?_;exact kZ.mpr (kB hz)) ?_);exact aC List.toList_toArray (aC (He _) (aA (aX4 (aA (c_ (jB (aA (zy taken (λp hp=>(ht p hp).1) (wpAny_pure ⟨_,rfl,h _ _⟩)))))) (kB hz))))
end
theorem Ki(w:Vs W h l vs)(e:vv l=some q):n6 vs q:=by induction l generalizing vs q with |nil=>obtain rfl:=aE e;exact w.e0 (P:=λvs=>n6 vs []) .nil|cons a l j=>
   rcases vs with _|⟨v,vs⟩;·exact w.elim
   · refine eC λd=>?_;rcases a<;>first|exact iH e|skip
     exact aY (d_.mp e) λx A L=>d (iZ L (iK (n4 w.1) λt L=>aC L (.cons _ t (j w.2 A))))
theorem LO(O:dM W)(R:jE W S s)(x:Vs W s.heap args vs):pX W (V W) none A (qM 10 args) (call (.builtin "bytes.join") vs) S s:=by
 intro K E hm;obtain⟨a,b,v,u,e_,y,z,hm⟩:=WG (f:=UG) x hm;refine aC e_ ?_;clear x e_;rcases a<;>first|exact hm.elim|skip
 revert b_1;intro q y hm;rcases q with _|⟨_,_⟩
 · refine eC λk_=>iK y λt e4x=>?_;clear y;obtain rfl:=e4x;refine eJ (sW hm) λa l e2x r3x=>?_;obtain rfl:=e2x;refine bX r3x λe hm=>?_;clear r3x;obtain rfl:=gT z;refine aY (n5 hm) λq eq hm=>?_;revert hm;refineλq_=>bX q_ λq1x hm=>?_;clear q_;refine bX q1x λh2 hz=>?_;clear q1x;exact dZ (R.list e) λus n g w I=>k_ (QA I (Ki w eq) (w.length▸h2) hz λt' k=>eZ O R V.bytes hm)
 ·exact hm.elim
end Internal
namespace Internal
open PySem PySem.W PyProof.Rows
variable{W:Wd}
noncomputable def wA(W:Wd)(S:CS)(h:Heap)(l:List cD):Prop:=∀env∈l,env.scope.kind≠.module/\∃L o,env.frame=some L/\W.h₁.objs.size<=L/\S L=none/\h.get? L=some o/\o.cls=.type "frame"/\∀vs,o.data≠.fields vs
theorem wA.ext(F:wA W S s.heap l)(X:eH W P S s S' s'):wA W S' s'.heap l:=λenv he=>by exact eC λd=>jT (F env he) λhk L o hf hl G hg e hd=>aY (X.there L o hg) λT A k=>d ⟨hk,L,T,hf,hl,X.dom L o hg G,A,(k G).1.trans e,(k G).2 hd⟩
noncomputable def Bv(W:Wd)(A:bT)(S:CS)(h:Heap):Prop:=∃l,A.frames=some l/\wA W S h l
theorem Bv.ext(F:Bv W A S s.heap)(X:eH W P S s S' s'):Bv W A S' s'.heap:=by refine aY F λl a b=>?_;clear F;exact⟨l,a,b.ext X⟩
structure u6(A:bT)(n:Nat):Prop where
 handled:A.handled=none
 depth:A.depth+3*n+14<=990
 units:A.units+40*n+130<=9000
 guards:A.guards=some []
theorem EZ.c(r:EZ A n):u6 A n:=⟨r.handled,by have:=r.depth;exact aT3 this,by have:=r.units;exact(aB (bU (by decide) _) this),r.guards⟩
structure fK(W:Wd)(A:bT)(n:Nat)(env:cD)(sc:dD)(vs:cN)(S:CS)(s:aO):Prop where
 rel:jE W S s
 eo:iV W env sc vs s.heap
 own:S env.locals=none
 room:EZ A n
 frs:Bv W A S s.heap
theorem fK.ext(H:fK W A n env sc vs S s)(X:eH W none S s S' s'):fK W A n env sc vs S' s':=by exact eC λd=>aY H.eo.ns λm N a=>gD N λo es ep ho r=>d ⟨X.rel,H.eo.e0 H.rel X H.own,X.dom _ o ho H.own,H.room,H.frs.ext X⟩
noncomputable def Rk(W:Wd)(S:CS)(s:aO)(K:KP)(E:KP):oO->aO->Prop:=λr s'=>match r with |.ok (.ret v)=>Qk W (V W) none S s K v s'|.ok _=>False|.error e=>Qe W none S s E e s'
noncomputable def qO(W:Wd)(cl:fW)(n:Nat):Prop:=∀{A:bT}{f:CV}{args:List CV}{fv:aP}{avs:List aP}{S:CS}{s:aO},Bv W A S s.heap->u6 A n->jE W S s->V W s.heap f fv->Vs W s.heap args avs->∀{K E},cl f args K E S->mU (bB prog W.w) A (.call fv ⟨avs,[]⟩) (Rk W S s K E) s
theorem qO.call(C:qO W cl n)(F:Bv W A S s.heap)(r:u6 A n)(R:jE W S s)(x:V W s.heap f fv)(y:Vs W s.heap args avs):dC W (V W) none A (cl f args) (call fv avs) S s:=λa a hm=>oa (i9 (C F r R x y hm) λr s' q=>by rcases r with e|(v|_|_|_)<;>exact q)
noncomputable def RB:Heap->Bool->Bool->Prop:=λι t u=>u=t
structure rS(W:Wd)(cl:fW)(n k:Nat):Prop where
 e:∀{A env sc vs S s}(e:aI),fK W A n env sc vs S s->dC W (V W) none A (eP cl k sc e vs) (eval e env) S s
 o:∀{A env sc vs S s}(e:Option aI),fK W A n env sc vs S s->dC W (Vp W) none A (BR cl k sc e vs) (valueOrNone (evalOpt e env)) S s
 es:∀{A env sc vs S s}(pos:Pos)(es:List aI),fK W A n env sc vs S s->dC W (Vs W) none A (sf cl k sc es vs) (yT (sC pos (mE es env))) S s
 bv:∀{A env sc vs S s}(pos:Pos)(op:J5)(es:List aI),fK W A n env sc vs S s->dC W (V W) none A (Ap cl k sc op es vs) (boolOp pos op (oy es env)) S s
 t:∀{A env sc vs S s}(e:aI),fK W A n env sc vs S s->dC W RB none A (sL cl k sc e vs) (isTrue e env (eval e env)) S s
 bt:∀{A env sc vs S s}(op:J5)(es:List aI),fK W A n env sc vs S s->dC W RB none A (ui cl k sc op es vs) (allTrue op es env) S s
 c:∀{A env sc vs S s}(pos:Pos)(a:CV)(v:aP)(ops:List ac1)(es:List aI),fK W A n env sc vs S s->V W s.heap a v->dC W VB none A (yK cl k sc a ops es vs) (BF pos v ops (ry ops es (oy es env))) S s
 tc:∀{A env sc vs S s}(pos:Pos)(a:CV)(v:aP)(ops:List ac1)(es:List aI),fK W A n env sc vs S s->V W s.heap a v->dC W RB none A (yK cl k sc a ops es vs) (JS pos v ops (ry ops es (oy es env))) S s
 d:∀{A env sc vs S s}(p:Pos)(ks:List (Option aI))(es:List aI),fK W A n env sc vs S s->dC W (V W) none A (Ti cl k sc ks es vs) (eval (.Dict ks es p) env) S s
 call:∀{A env sc vs S s}(f:aI)(as:List aI)(kws:List FL)(p:Pos),fK W A n env sc vs S s->dC W (V W) none A (wW cl k sc f as kws p vs) (eval (.Call f as kws p) env) S s
section
variable{α β:Type}{R:Heap->α->β->Prop}{P:Option Addr}{A:bT}{S:CS}{s:aO}
theorem dC.br(ha:t=true->dC W R P A a x S s)(c:t=false->dC W R P A b x S s):dC W R P A (wV t a b) x S s:=λK E hm=>by
 rcases t with _|_;·exact c rfl K E (hm.2 rfl)
 ·exact ha rfl K E (hm.1 rfl)
theorem dC.gd(h:p->dC W R P A m x S s):dC W R P A ((Internal.gd p).bind λa=>m) x S s:=λK E hm=>h hm.1 K E hm.2
end
section
variable{cl:fW}{n k:Nat}{A:bT}{env:cD}{sc:dD}{vs:cN}{S:CS}{s:aO}
theorem OV(O:dM W)(h:fK W A n env sc vs S s)(c x p):dC W (V W) none A (Gs c) (eval (.Constant c x p) env) S s:=by refine aC (arm_eval_Constant _ _ _ _) ?_;exact(Kt O h.rel).up
theorem Lr(O:dM W)(h:fK W A n env sc vs S s)(x p):dC W (V W) none A (qV sc vs x) (eval (.Name x p) env) S s:=by
 refine aC (IR _ _ _) (gI ?_);rcases q:x==("__debug__":Str)with _|_;·exact(DT O h.rel h.eo).up
 · intro K E hm;exfalso;have:dunder x=true:=by refine aC (eq_of_beq q) ?_;decide+kernel
   unfold qV at hm;replace hm:=this▸hm;exact hm
theorem ar4(O:dM W)(I:rS W cl n k)(h:fK W A n env sc vs S s)(l op r p):dC W (V W) none A ((eP cl k sc l vs).bind λa=>(eP cl k sc r vs).bind λb=>cP op a b) (eval (.BinOp l op r p) env) S s:=by
 refine aC (arm_eval_BinOp _ _ _ _ _) (dC.bind (I.e l h) λa v z H C x=>?_);have h1:=h.ext C;exact dC.bind (dC.holding (I.e r h1)) λb u t J B y=>gI (dC.operate (Yt O B.rel (x.ext h1.rel B) y).up)
theorem ao4(O:dM W)(I:rS W cl n k)(h:fK W A n env sc vs S s)(x p):dC W (V W) none A ((eP cl k sc x vs).bind λv=>Dp v) (eval (.UnaryOp .USub x p) env) S s:=by exact aC (af6 _ _ _ _) (dC.bind (I.e x h) λa v z H C y=>gI (dC.holding (YE O C.rel y).up))
theorem ao5(O:dM W)(I:rS W cl n k)(h:fK W A n env sc vs S s)(x p):dC W (V W) none A ((eP cl k sc x vs).bind λv=>(kM v).bind λt=>.pure (.bool !t)) (eval (.UnaryOp .Not x p) env) S s:=by
 refine aC (af6 _ _ _ _) (dC.bind (I.e x h) λa v z H C y=>gI (dC.holding ?_));have l:unaryOp .Not v=lV [v] (FX v>>=λt=>pure (.bool !t)):=rfl;refine aC l (dC.holding (dC.bind (AY C.rel y).up λt u r J B q=>?_));subst q;exact gY B.rel V.bool
theorem aI8(I:rS W cl n k)(h:fK W A n env sc vs S s)(t b o p):dC W (V W) none A ((sL cl k sc t vs).bind λz=>wV z (eP cl k sc b vs) (eP cl k sc o vs)) (eval (.IfExp t b o p) env) S s:=by
 refine aC (arm_eval_IfExp _ _ _ _ _) (dC.bind (I.t t h) λz u B H C q=>?_);subst q;refine dC.br (λq=>?_) λq=>?_;·refine aC q ?_;exact I.e b (h.ext C)
 ·refine aC q ?_;exact I.e o (h.ext C)
end
end Internal
namespace Internal
open PySem PySem.W PyProof.Rows
variable{W:Wd}
section
variable{cl:fW}{n k:Nat}{A:bT}{env:cD}{sc:dD}{vs:cN}{S:CS}{s:aO}
theorem oe(h:∀x p,e≠.Starred x p):mE (e::r) env=(false,eval e env)::mE r env:=by rcases e<;>first|rfl|exact absurd rfl (h _ _)
theorem y6(x p){K:KP}{E:KP}:¬eP cl k sc (.Starred x p) vs K E S:=by rcases k<;>exact id
theorem QF(I:rS W cl n k)(pos:Pos)(es:List aI)(h:fK W A n env sc vs S s):dC W (Vs W) none A (sf cl (k+1) sc es vs) (yT (sC pos (mE es env))) S s:=by
 rcases es with _|⟨e,r⟩;·exact gY h.rel trivial
 · by_cases hs:∃x p,e=.Starred x p
   · refine sJ hs λx p L=>?_;clear hs;refine aC L ?_;intro K E hm;exact(y6 x p hm).elim
   · refine aC (oe (λx p q=>hs ⟨x,p,q⟩)) ?_;show dC W (Vs W) none A ((eP cl k sc e vs).bind λv=>(sf cl k sc r vs).bind λq=>.pure (v::q)) (do
       let v<-eval e env let here<-pure [v]return here++(<-lV here (yT (sC pos (mE r env))))) S s;exact dC.bind (I.e e h) λa v z H C x=>aC (pure_bind _ _) (dC.bind (dC.holding (I.es pos r (h.ext C))) λb u t J B y=>gY B.rel (⟨x.ext (h.ext C).rel B,y⟩))
theorem aa5(I:rS W cl n k)(e:Option aI)(h:fK W A n env sc vs S s):dC W (Vp W) none A (BR cl (k+1) sc e vs) (valueOrNone (evalOpt e env)) S s:=by
 rcases e with _|e;·exact gY h.rel rfl
 · intro K E hm;exact cV (I.e e h _ _ hm) (λb s' T=>by obtain⟨a,c,X,r,q⟩:=T;exact⟨some a,c,X,r,q⟩) λd d q=>q
theorem Pi(I:rS W cl n k)(pos:Pos)(op:J5)(es:List aI)(h:fK W A n env sc vs S s):dC W (V W) none A (Ap cl (k+1) sc op es vs) (boolOp pos op (oy es env)) S s:=by
 rcases es with _|⟨e,r⟩;·exact dC.fail
 · rcases r with _|⟨o,r⟩;·exact I.e e h
   · show dC W (V W) none A ((eP cl k sc e vs).bind λv=>(kM v).bind λt=>match op with |.And=>wV t (Ap cl k sc op (o::r) vs) (.pure v)|.Or=>wV t (.pure v) (Ap cl k sc op (o::r) vs)) (do
         let v<-eval e env
         mY pos let t<-lV [v] (FX v)match op,t with |.And,false|.Or,true=>pure v|_,_=>boolOp pos op (oy (o::r) env)) S s;refine dC.bind (I.e e h) λa v z H C x=>?_;have h1:=h.ext C;refine gI (dC.bind (dC.holding (AY h1.rel x).up) λt u w J B q=>iZ q ?_);have h2:=h1.ext B;cases op with |And=>exact dC.br (λq=>by refine aC q ?_;exact I.bv pos _ _ h2) λq=>by refine aC q ?_;exact gY h2.rel (x.ext h1.rel B)|Or=>exact dC.br (λq=>by refine aC q ?_;exact gY h2.rel (x.ext h1.rel B)) λq=>by refine aC q ?_;exact I.bv pos _ _ h2
theorem M9(I:rS W cl n k)(op:J5)(es:List aI)(h:fK W A n env sc vs S s):dC W RB none A (ui cl (k+1) sc op es vs) (allTrue op es env) S s:=by
 rcases es with _|⟨e,r⟩;·rcases op<;>exact gY h.rel rfl
 · show dC W RB none A ((sL cl k sc e vs).bind λt=>match op with |.And=>wV t (ui cl k sc op r vs) (.pure false)|.Or=>wV t (.pure true) (ui cl k sc op r vs)) _ S s;refine dC.bind (I.t e h) λt u z H C q=>?_;subst q;have h1:=h.ext C;cases op with |And=>exact dC.br (λq=>by refine aC q ?_;exact I.bt _ _ h1) λq=>by refine aC q ?_;exact gY h1.rel rfl|Or=>exact dC.br (λq=>by refine aC q ?_;exact gY h1.rel rfl) λq=>by refine aC q ?_;exact I.bt _ _ h1
theorem Ff(h1:∀x p,e≠.UnaryOp .Not x p)(h2:∀op v p,e≠.BoolOp op v p)(h3:∀a b c p,e≠.IfExp a b c p)(h4:∀a b c p,e≠.Compare a b c p)(t:Sem aP):isTrue e env t=(do let v<-t;mY e.pos;lV [v] (FX v)):=by
 rcases e<;>first|rfl|exact absurd rfl (h2 _ _ _)|exact absurd rfl (h3 _ _ _ _)|exact absurd rfl (h4 _ _ _ _)|skip
 revert operand pos;intro x p h1 h2 h3 h4;clear h2 h3 h4;rcases op<;>first|rfl|exact absurd rfl (h1 _ _)
theorem YU(I:rS W cl n k)(e:aI)(h:fK W A n env sc vs S s):dC W RB none A (sL cl (k+1) sc e vs) (isTrue e env (eval e env)) S s:=by
 by_cases h1:∃x p,e=.UnaryOp .Not x p
 · refine sJ h1 λx p e4x=>?_;clear h1;obtain rfl:=e4x;refine aC (arm_isTrue_UnaryOp _ _ _ _) ?_;show dC W RB none A ((sL cl k sc x vs).bind λt=>.pure !t) _ S s;refine dC.bind (I.t x h) λt u S1 s1 X1 q=>?_;subst q;exact gY X1.rel rfl
 by_cases h2:∃op v p,e=.BoolOp op v p
 · refine zb h2 λop v p e3x=>?_;clear h2;obtain rfl:=e3x;exact aC (arm_isTrue_BoolOp _ _ _ _ _) (I.bt op v h)
 by_cases h3:∃a b c p,e=.IfExp a b c p
 · refine eC λk_=>yE h3 λa b c p e2x=>?_;clear h3;obtain rfl:=e2x;refine k_ (aC (arm_isTrue_IfExp _ _ _ _ _ _) ?_);show dC W RB none A ((sL cl k sc a vs).bind λz=>wV z (sL cl k sc b vs) (sL cl k sc c vs)) _ S s;refine dC.bind (I.t a h) λz u S1 s1 X1 q=>iZ q ?_;have h1:=h.ext X1;exact dC.br (λq=>by refine aC q ?_;exact I.t b h1) λq=>by refine aC q ?_;exact I.t c h1
 by_cases h4:∃a b c p,e=.Compare a b c p
 · refine yE h4 λa b c p e_=>?_;clear h4;refine aC e_ (aC (arm_isTrue_Compare _ _ _ _ _ _) ?_);show dC W RB none A ((eP cl k sc a vs).bind λz=>yK cl k sc z b c vs) _ S s;exact dC.bind (I.e a h) λz u S1 s1 X1 q=>I.tc p z u b c (h.ext X1) q
 refine aC (Ff (λx p q=>h1 ⟨x,p,q⟩) (λx p r q=>h2 ⟨x,p,r,q⟩) (λx p r t q=>h3 ⟨x,p,r,t,q⟩) (λx p r t q=>h4 ⟨x,p,r,t,q⟩) _) ?_;have e0:sL cl (k+1) sc e vs=(eP cl k sc e vs).bind λv=>kM v:=by
   rcases e<;>first|rfl|exact absurd ⟨_,_,_,rfl⟩ h2|exact absurd ⟨_,_,_,_,rfl⟩ h3|exact absurd ⟨_,_,_,_,rfl⟩ h4|skip
   revert operand pos;intro x p h1 h2 h3 h4;clear h2 h3 h4;rcases op<;>first|rfl|exact absurd ⟨_,_,rfl⟩ h1
 exact aC e0 (dC.bind (I.e e h) λz u S1 s1 X1 q=>gI (dC.holding (Eo (AY X1.rel q).up λι ι ι r=>r)))
theorem EG(op:ac1)(e:aI)(t:Sem aP)(h:∀a b c,e≠.Set a b c):F7 op e t=t:=by rcases e<;>first|rfl|exact absurd rfl (h _ _ _)
theorem Ia(a b c){K:KP}{E:KP}:¬eP cl k sc (.Set a b c) vs K E S:=by rcases k<;>exact id
theorem aB3{h:Heap}{t:Bool}{v:aP}(x:VB h t v):V W h (.bool t) v:=by refine aC (show v=.bool t from x) ?_;exact V.bool
theorem dC.release{α β:Type}{R:Heap->α->β->Prop}{P:Option Addr}{m:M α}{a b:List aP}{f:Unit->Sem β}(h:dC W R P A m (f ()) S s):dC W R P A m (PySem.release a b>>=f) S s:=λK E hm=>aL (cQ (rm (h K E hm)))
theorem Gf{α β:Type}{R:Heap->α->β->Prop}{P:Option Addr}{m:M α}{t:Bool}{l:List aP}{f:Bool->Sem β}(h:dC W R P A m (f t) S s):dC W R P A m (PySem.holding l (FX (.bool t))>>=f) S s:=λK E hm=>aL (cQ (c_ (uD (h K E hm))))
set_option backward.match.sparseCases false in theorem LX(O:dM W)(I:rS W cl n k)(pos:Pos)(a:CV)(v:aP)(P:List ac1)(es:List aI)(h:fK W A n env sc vs S s)(x:V W s.heap a v):dC W VB none A (yK cl (k+1) sc a P es vs) (BF pos v P (ry P es (oy es env))) S s/\dC W RB none A (yK cl (k+1) sc a P es vs) (JS pos v P (ry P es (oy es env))) S s:=by
 have D:A.units+10<cLine:=by have:=h.room.units;exact aL0 this
 rcases P with _|⟨op,P⟩;·rcases es<;>exact⟨dC.fail,dC.fail⟩
 · rcases es with _|⟨e,es⟩;·exact⟨dC.fail,dC.fail⟩
   · have F:yK cl (k+1) sc a (op::P) (e::es) vs=(eP cl k sc e vs).bind λb=>(cY op a b).bind λt=>match P,es with |[],[]=>.pure t|_::_,_::_=>wV t (yK cl k sc b P es vs) (.pure false)|_,_=>.fail:=rfl;refine aC F (aC (arm_evalEach_cons _ _ _) ?_);have l:∀{β:Type}{R:Heap->Bool->β->Prop}(m:CV->M Bool)(rest last:aP->Sem β),(∀b u d s',fK W A n env sc vs d s'->V W s'.heap b u->dC W R none A (m b) (rest u) d s')->(∀d s',jE W d s'->dC W R none A (jR false) (last (.bool false)) d s')->dC W R none A ((eP cl k sc e vs).bind λb=>(cY op a b).bind λt=>wV t (m b) (.pure false)) (do
             let g<-lV [v] (eval e env)mY pos let c<-lV [v,g] (vD op v g)release [v,g] [c]if<-lV [c,g] (FX c)then rest g else last c) S s:=by
       intro β R m rest last hr hl;refine dC.bind (dC.holding (I.e e h)) λb u z H C y=>gI (dC.bind (dC.holding (DF O D C.rel (x.ext h.rel C) y).up) λt c G J B q=>?_);subst q;refine dC.release (Gf (dC.br (λq=>?_) λq=>?_));·subst q;exact hr _ _ _ _ ((h.ext C).ext B) (y.ext C.rel B)
       ·subst q;exact hl _ _ ((h.ext C).ext B).rel
     have short:∀{β:Type}{R:Heap->Bool->β->Prop}(f:aP->aP->Sem β),dC W R none A ((eP cl k sc e vs).bind λb=>(cY op a b).bind λt=>.fail) (do
             let g<-lV [v] (eval e env)mY pos let c<-lV [v,g] (vD op v g)f g c) S s:=by
       intro β R f;exact dC.bind (dC.holding (I.e e h)) λb u z H C y=>gI (dC.bind (dC.holding (DF O D C.rel (x.ext h.rel C) y).up) λt c G J B q=>dC.fail)
     clear F;rcases P with _|⟨T,P⟩
     · rcases es with _|⟨o,es⟩
       · by_cases hs:∃a b c,e=.Set a b c
         · refine eC λi=>zb hs λp q r w=>?_;clear hs;obtain rfl:=w;exact i ⟨λK E hm=>(Ia _ _ _ hm).elim,λK E hm=>(Ia _ _ _ hm).elim⟩
         · have e1:BF pos v [op] (ry [op] [e] (eval e env::oy [] env))=(do
             let g<-lV [v] (F7 op e (eval e env))mY pos
             J6 [v,g] (vD op v g)):=rfl;have o:JS pos v [op] (ry [op] [e] (eval e env::oy [] env))=(do
             let g<-lV [v] (F7 op e (eval e env))mY pos let c<-J6 [v,g] (vD op v g)lV [c] (FX c)):=rfl;refine aC e1 (aC o (aC (EG op e _ (λa b c q=>hs ⟨a,b,c,q⟩)) ?_));constructor
           · refine dC.bind (dC.holding (I.e e h)) λb u z H C y=>gI (dC.operate ?_);intro K E hm;exact(DF O D C.rel (x.ext h.rel C) y).up K E hm
           · refine dC.bind (dC.holding (I.e e h)) λb u z H C y=>gI (dC.bind (dC.operate (DF O D C.rel (x.ext h.rel C) y).up) λt c G J B q=>?_);intro K E hm;exact aC (show c=.bool t from q) (bI (cQ (uD (fU B.rel rfl hm))))
       ·exact⟨short _,short _⟩
     · rcases es with _|⟨o,es⟩;·exact⟨short _,short _⟩
       · constructor
         ·exact l (λb=>yK cl k sc b (T::P) (o::es) vs) (λg=>BF pos g (T::P) (ry (T::P) (o::es) (oy (o::es) env))) (λc=>pure c) (λb u d s' h' y=>I.c pos b u _ _ h' y) (λd s' R=>gY R rfl)
         ·exact l (λb=>yK cl k sc b (T::P) (o::es) vs) (λg=>JS pos g (T::P) (ry (T::P) (o::es) (oy (o::es) env))) (λc=>pure false) (λb u d s' h' y=>I.tc pos b u _ _ h' y) (λd s' R=>gY R rfl)
end
end Internal
namespace Internal
open PySem PySem.W PyProof.Rows
variable{W:Wd}
theorem eH.at(O:dM W)(R:jE W S s)(F:S d=none)(l:W.h₁.objs.size<=d)(k:∀b o,b≠d->s.heap.get? b=some o->s'.heap.get? b=some o)(hi:∀o,s.heap.get? d=some o->¬uk o)(hk:∀o,s.heap.get? d=some o->∃T,s'.heap.get? d=some T/\J2 o T)(hg:s'.gens=s.gens)(ho:s'.os=s.os):eH W (some d) S s S s':=by
 have t:qn W s.heap s'.heap:=λb o c e i=>k b o (λq=>hi o (q▸e) i) e;refine⟨⟨R.stat.step (λb o e f=>k b o (λq=>by subst q;exact absurd f (kZ.mpr l)) e) t O.tabsOld,λa o e=>⟨(R.rep a o e).1,(R.rep a o e).2.keep t λob=>k a ob (λq=>by exact iH (F▸q▸e))⟩,hg.trans R.gens,ho.trans R.os⟩,λb o c e c U=>.inl (k b o (λq=>U (q▸rfl)) e),λc c c h=>h,λb o e=>?_⟩;by_cases q:b=d;·subst q;refine aY (hk o e) λT A r=>?_;exact⟨T,A,λc=>r⟩
 ·exact⟨o,k b o q e,λc=>.refl o⟩
section
variable{cl:fW}{n k:Nat}{A:bT}{env:cD}{sc:dD}{vs:cN}{S:CS}{s:aO}
theorem Vk(O:dM W)(I:rS W cl n k)(h:fK W A n env sc vs S s)(es p):dC W (V W) none A ((sf cl k sc es vs).bind λl=>(gd (bN l.length)).bind λa=>mk (.list l)) (eval (.List es p) env) S s:=by
 refine aC (arm_eval_List _ _ _) (gI (dC.bind (I.es p es h) λl q z H C x=>dC.gd λhz=>?_));intro K E hm;refine cQ (uO ?_ (by refine aC x.length ?_;exact aB hz (by decide)));exact se (ob:=q8 q 0) (n:=H.toks) O C.rel hm ⟨q,0,(aU H.heap (o:=q8 q 0) rfl),x.keep λb o a e a=>aK _ e⟩
theorem as8(O:dM W)(I:rS W cl n k)(h:fK W A n env sc vs S s)(es x0 p):dC W (V W) none A ((sf cl k sc es vs).bind λl=>(gd (bN l.length)).bind λa=>.pure (.tup l)) (eval (.Tuple es x0 p) env) S s:=by
 refine aC (arm_eval_Tuple _ _ _ _) (gI (dC.bind (I.es p es h) λl q z H C x=>dC.gd λhz=>?_));intro K E hm;refine cQ (az6 ?_ (by refine aC x.length ?_;exact aB hz (by decide)));have i:∀b o,H.heap.get? b=some o->(H.heap.push {cls:=.type "tuple",data:=.seq q.toArray}).get? b=some o:=λb o e=>aK _ e;refine sk (s':={H with heap:=H.heap.push {cls:=.type "tuple",data:=.seq q.toArray}}) O C.rel i rfl rfl ?_ hm;exact⟨_,q,0,rfl,C.rel.stat.size,aU H.heap rfl,x.keep λb o a e a=>i b o e⟩
theorem HP(hb:uU o=true):aX6 o x env (eval o env)=eval o env:=by
 rcases o<;>first|rfl|skip
 revert func args keywords pos;intro f as kws q hb;rcases f<;>first|rfl|skip
 rcases as with _|⟨_,_⟩<;>first|rfl|skip
 rcases kws with _|⟨_,_⟩<;>first|rfl|exact rR (hb:false=true)
theorem Xj(O:dM W)(I:rS W cl n k)(h:fK W A n env sc vs S s)(e x p)(c:uU e=true):dC W (V W) none A ((eP cl k sc e vs).bind λv=>dI v x) (eval (.Attribute e x p) env) S s:=by
 refine aC (arm_eval_Attribute _ _ _ _) ?_;have l:aX6 e x env (eval e env)=eval e env:=by exact HP c
 refine aC l (dC.bind (I.e e h) λa v z H C y=>gI ?_);intro K E hm;exact aL (bI (cV ((Qt O C.rel y).up K E hm) (λb s' q=>aL (cQ (wpAny_letTemporaryGo (aW q)))) λd d q=>q))
theorem ak9(O:dM W)(I:rS W cl n k)(h:fK W A n env sc vs S s)(e i p)(hs:∀a b c q,i≠.Slice a b c q):dC W (V W) none A ((eP cl k sc e vs).bind λv=>(eP cl k sc i vs).bind λw=>cJ v w) (eval (.Subscript e i p) env) S s:=by exact aC (U6 _ _ _ _) (dC.bind (I.e e h) λa v D H C y=>dC.bind (dC.holding (I.e i (h.ext C))) λb u r J B z=>gI ((QZ O B.rel (y.ext C.rel B) z λa b q=>hs a b none q).up))
theorem Vp.ext(x:Vp W s.heap a v)(R:jE W S s)(X:eH W none S s S' s'):Vp W s'.heap a v:=by cases a with|none=>exact x|some a=>exact V.ext x R X
theorem ah8(O:dM W)(I:rS W cl n k)(h:fK W A n env sc vs S s)(e lo hi q p):dC W (V W) none A ((eP cl k sc e vs).bind λv=>(BR cl k sc lo vs).bind λl=>(BR cl k sc hi vs).bind λh=>sD v l h) (eval (.Subscript e (.Slice lo hi none q) p) env) S s:=by
 refine aC (U6 _ _ _ _) (aC (az7 _ _ _ _ _) (dC.bind (I.e e h) λa v z H C y=>?_));have h1:=h.ext C;intro K E hm;refine aL (bI (aL ((I.o lo h1).step (eH.refl (P:=none) h1.rel) hm λl L t N d B f hm=>aL (bI ((I.o hi (h1.ext B)).step B hm λr J D F j u g hm=>aL (bI (aW (cQ (kH (GQ (cQ ?_)))))))))));have i:∀b o,F.heap.get? b=some o->(F.heap.push {cls:=.type "slice",dict:=none,data:=.fields #[L,J,.none]}).get? b=some o:=λb o e=>aK _ e;have c:=eO (s':={F with heap:=F.heap.push {cls:=.type "slice",dict:=none,data:=.fields #[L,J,.none]}}) O u.rel i rfl rfl;have:=Lo (A:=A) (value:=e) (le:=lo) (he:=hi) (p:=q) (sl:=F.heap.objs.size) O c.rel (((y.ext h1.rel B).ext B.rel u).ext u.rel c) ((f.ext B.rel u).ext u.rel c) (g.ext u.rel c) (Bs _ _ _ _) K E hm;exact gS this (λd d q=>q.trans (j.trans c)) λd d q=>q.trans (j.trans c)
end
end Internal
namespace Internal
open PySem PySem.W PyProof.Rows
variable{W:Wd}
section
variable{cl:fW}{n k:Nat}{A:bT}{env:cD}{sc:dD}{vs:cN}{S:CS}{s:aO}
theorem AQ{X:Type}[DecidableEq X]{w:jH}{knd:CF prog w X}{h:Heap}{a:Addr}(e:h.get? a=some {cls:=.type "dict",data:=.dict #[]}):h.DictAt knd a [] 0:=by exact⟨_,#[],e,⟨rfl,rfl,rfl⟩,rfl,λb he=>by simp at he,Pairs.nil,vF⟩
theorem U0{X:Type}[DecidableEq X](knd:CF prog W.w X)(O:dM W)(I:rS W cl n k)(h:fK W A n env sc vs S s){c1 c2:ac0}{x1 p1 x2 p2 a b p}{i j:X}{mkO:List (X×CV)->CO}(k1:∀{s:aO}{Q:EP}{E:EP},(∀v n,knd.is i v=true->Q v {s with toks:=n})->wpAny (bB prog W.w) A (z5 env c1) Q E s)(k2:∀{s:aO}{Q:EP}{E:EP},(∀v n,knd.is j v=true->Q v {s with toks:=n})->wpAny (bB prog W.w) A (z5 env c2) Q E s)(hr:∀{h:Heap}{d:Addr}{es:List (X×CV)}{kvs:List (X×aP)},h.DictAt knd d kvs kvs.length->KV W h es kvs->wo W h d (mkO es)):dC W (V W) none A ((eP cl k sc a vs).bind λv=>(eP cl k sc b vs).bind λw=>(gd (i≠j)).bind λc=>mk (mkO [(i,v),(j,w)])) (eval (.Dict [some (.Constant c1 x1 p1),some (.Constant c2 x2 p2)] [a,b] p) env) S s:=by
 refine aC (aX7 _ _ _ _) ?_;have e0:(evalEachOpt [some (.Constant c1 x1 p1),some (.Constant c2 x2 p2)] env).zip ((oy [a,b] env).map λv=>do let x<-v;mY p;pure x)=[(z5 env c1,do let x<-eval a env;mY p;pure x),(z5 env c2,do let x<-eval b env;mY p;pure x)].map λq=>(some q.1,q.2):=rfl;refine aC e0 (aC (dictDisplay_pairs _ (by simp) (by simp)) (gI ?_));intro K E hm;refine aL (aL (cQ (MM ?_)));have u:∀b o,s.heap.get? b=some o->(s.heap.push {cls:=.type "dict",data:=.dict #[]}).get? b=some o:=λb o e=>aK _ e;have hd:(s.heap.push {cls:=.type "dict",data:=.dict #[]}).get? s.heap.objs.size=some {cls:=.type "dict",data:=.dict #[]}:=aU s.heap rfl;have U:s.heap.get? s.heap.objs.size=none:=bL (bM _);have P:=h.rel.stat.size;generalize e2:s.heap.objs.size=d at*;refine aL (bI (zw (if_pos (by simp)) (aL (zw (by simp only[evalPairs];rfl) ?_))));refine aL (cQ (k1 λv1 n1 y1=>aL (bI (aL ((I.e a (h.ext ((eO (s':={s with heap:=s.heap.push {cls:=.type "dict",data:=.dict #[]}}) O h.rel u rfl rfl).trans (eO (s':={s with heap:=s.heap.push {cls:=.type "dict",data:=.dict #[]},toks:=n1}) O (eO (s':={s with heap:=s.heap.push {cls:=.type "dict",data:=.dict #[]}}) O h.rel u rfl rfl).rel (λc c e=>e) rfl rfl)))).step ((eO (s':={s with heap:=s.heap.push {cls:=.type "dict",data:=.dict #[]}}) O h.rel u rfl rfl).trans (eO (s':={s with heap:=s.heap.push {cls:=.type "dict",data:=.dict #[]},toks:=n1}) O (eO (s':={s with heap:=s.heap.push {cls:=.type "dict",data:=.dict #[]}}) O h.rel u rfl rfl).rel (λc c e=>e) rfl rfl)) hm λva T S2 s2 B m ya hm=>aL (fJ (aW (aL (bI (aL (cQ (k2 λv2 n2 H=>?_))))))))))));have f:=eO (s':={s2 with toks:=n2}) O B.rel (λc c e=>e) rfl rfl;have D:=B.trans f;refine aL (bI (aL ((I.e b (h.ext D)).step D hm λvb z R r y J yb hm=>?_)));revert hm;refineλG=>bX G λC hm=>?_;clear G;refine aL (fJ (aW (aL (bI (aW (aW (aW (bI ?_))))))));have d1:r.heap.get? d=some {cls:=.type "dict",data:=.dict #[]}:=by exact((m.trans (f.trans J)).keep d _ P hd (h.rel.none_ U) (by simp)).eq ((by decide))
 have d0:=AQ (knd:=knd) d1;refine aL (cQ (aC (h_ _ _ _ _) (aA (aA (ww (knd:=knd) (k:=i) y1 d0 (by simp) λh1 D1 F=>wpAny_pure ?_)))));show wpAny _ _ (forIn [(v2,z)] _ _) _ _ _;refine aC (h_ _ _ _ _) (aA (aA (ww (s:={r with heap:=h1,toks:=r.toks+1}) (knd:=knd) (k:=j) H D1 (by refine aC (we _ _ _) (aC PySem.sizeLine_eq ?_);simp) λh2 L Z=>wpAny_pure ?_)));refine oj pH (wpAny_pure (aW (aW ?_)));have l:R d=none:=(m.trans (f.trans J)).dom d _ hd (h.rel.none_ U);have Y:eH W (some d) R r R {r with heap:=h2,toks:=r.toks+1+1}:=by
   refine eH.at O y.rel l P (λb o hb e=>((F.trans Z).2 b hb).trans e) (λo e i=>?_) (λo e=>?_) rfl rfl;·replace e:=d1▸e;cases e;simp[uk]at i
   · replace e:=d1▸e;cases e;refine rd L λN c5 g hx t c=>?_;clear L;exact⟨N,g,hx.1,λc vs e=>by replace e:=t▸e;cases e⟩
 have X6:eH W none S s R {r with heap:=h2,toks:=r.toks+1+1}:=(y.weak.trans Y).strong U;have kv:KV W h2 [(i,va),(j,vb)] (nz (nz [] i T) j z):=by
   have:nz (nz ([]:List (X×aP)) i T) j z=[(i,T),(j,z)]:=by simp[nz,C]
   exact aC this (⟨⟨rfl,((ya.ext B.rel f).ext D.rel J).keep (Y.immK y.rel λb o q e i=>by cases q;replace e:=d1▸e;cases e;simp[uk]at i)⟩,⟨rfl,yb.keep (Y.immK y.rel λb o q e i=>by cases q;replace e:=d1▸e;cases e;simp[uk]at i)⟩,trivial⟩)
 exact aW ⟨.ref d,R.put d _,X6.put P U (hr L kv),V.ref,hm d l⟩
theorem aa2(O:dM W)(I:rS W cl n k)(p:Pos)(U:List (Option aI))(es:List aI)(h:fK W A n env sc vs S s):dC W (V W) none A (Ti cl (k+1) sc U es vs) (eval (.Dict U es p) env) S s:=by
 rcases U with _|⟨t,u⟩
 · rcases es with _|⟨_,_⟩
   · refine aC (aX7 _ _ _ _) ?_;have m:dictDisplay ((evalEachOpt [] env).zip ((oy [] env).map λv=>do let x<-v;mY p;pure x))=newDict:=rfl;refine aC m (gI ?_);intro K E hm;refine cQ (kH (se (n:=s.toks) O h.rel hm ⟨[],AQ (aU s.heap (o:={cls:=.type "dict",data:=.dict #[]}) rfl),trivial⟩))
   ·exact dC.fail
 · rcases es with _|⟨a,_|⟨b,_|⟨_,_⟩⟩⟩<;>first|exact dC.fail|skip
   rcases q:HX (t::u)with _|q
   · have m:Ti cl (k+1) sc (t::u) [a,b] vs=pS:=by
       show(match HX (t::u)with|none=>pS|some _=>_:M CV)=_;exact aC q rfl
     refine aC m ?_;exact dC.fail
   · refine eC λd=>eJ (l2_ q) λx y e r=>aY (IZ r) λx z F=>?_;obtain rfl:=z;clear r;refine aY (IZ F) λy Q r=>?_;obtain rfl:=Q;clear F;refine gD (cE_ r) λcx C J B F=>?_;obtain rfl:=B;clear r;refine gD (cE_ F) λcy G H l r=>?_;obtain rfl:=l;refine d ?_;clear F;intro K E hm;have hm:(match HX (t::u)with|none=>pS|some q=>(match q with |.ints i j=>(eP cl k sc a vs).bind λv=>(eP cl k sc b vs).bind λw=>(gd (i≠j)).bind λc=>mk (.idict [(i,v),(j,w)])|.strs x y=>(eP cl k sc a vs).bind λv=>(eP cl k sc b vs).bind λw=>(gd (x≠y)).bind λc=>mk (.sdict [(x,v),(y,w)])):M CV) K E S:=hm;replace hm:=q▸hm;refine aC e ?_;rcases cx<;>first|exact iH r|skip
     · rcases cy<;>first|exact iH r|skip
       obtain rfl:=aE r;exact U0 (mW prog W.w) O I h (mkO:=.idict) (λh=>DZ (h _ _ (by simp[mW,oM]))) (λh=>DZ (h _ _ (by simp[mW,oM]))) (λD R=>⟨_,R.length▸D,R⟩) K E hm
     · rcases cy<;>first|exact iH r|skip
       obtain rfl:=aE r;exact U0 (oq prog W.w) O I h (mkO:=.sdict) (λh=>Bz (h _ _ (by simp[oq,wD]))) (λh=>Bz (h _ _ (by simp[oq,wD]))) (λD R=>⟨_,D.dictOf,R⟩) K E hm
end
end Internal
namespace Internal
open PySem PySem.W PyProof.Rows
variable{W:Wd}
structure jD(W:Wd):Prop where
 keep:∀a,((wx a).isSome=true\/(i_ a fY).isSome=true)->keepIn W.K (.ref a)=true
 meth:∀c d x g,i_ c fY=some d->dU c x=some g->oo W.K (.ref c) x=some (some (.ref g))/\typeIn W.K (.ref g)=some (.type "function")sup:af7 W.K (.ref 510) "__getattribute__"=some (some (.builtin "type.__getattribute__"))/\∃mc,readsIn W.K 510 mc=true/\zm W.K (.ref 510) mc "__init__"=some (.val (.ref 339))make:∀c d f,i_ c fY=some d->dU c "__init__"=some f->f≠36->makesIn W.K c=true
 bmod:∀h,uz W h->∃mg bm ob,h.Ns fC mg/\mg "__builtins__"=some (.ref bm)/\bm≠jN/\h.get? bm=some ob/\ob.cls=.type "module"/\ob.dict=some jN/\ob.data=.plain
 tabsInj:∀t∈W.tabs,∀t'∈W.tabs,t.2.1=t'.2.1->t=t'
noncomputable def RM(W:Wd):Heap->CV×List CV->aP×List aP->Prop:=λh m fx=>V W h m.1 fx.1/\Vs W h m.2 fx.2
theorem V.st:V W h (.st a) (.ref a):=rfl
theorem V.bi(e:biName n=m):V W h (.bi n) (.builtin m):=congrArg ot e.symm
theorem Vs.n:Vs W h [] []:=trivial
theorem ES(x:V W h a v):Vs W h [a] [v]:=⟨x,trivial⟩
theorem Cv(h:dA x [(y,a),(z,b)]=some f):(x=y/\f=a)\/(x=z/\f=b):=by
 rcases q:qW x y with _|_
 · replace h:=(pA q)▸h;rcases A:qW x z with _|_;·replace h:=(pA A)▸h;exact iH h
   ·replace h:=(sm A)▸h;exact .inr ⟨jW.mp A,(aE h).symm⟩
 ·replace h:=(sm q)▸h;exact .inl ⟨jW.mp q,(aE h).symm⟩
theorem EL:jP (.type "type") "__getattribute__"=pure (some (.builtin "type.__getattribute__")):=by refine aC (dY _ _) (aC cU ?_);kernel_rfl
theorem y_:CG (.type "Exception")=pure (.type "type"):=by kernel_rfl
theorem Gk:opaqueClassAbove (.type "Exception")=pure none:=by kernel_rfl
theorem Kq{w:jH}{A:bT}{E:EP}{s:aO}{K:Frag}{i:Sem Bool}{Q:aP×List aP->aO->Prop}(X:K.In s.heap)(h:Q (.builtin "Exception.__init__",[]) {s with toks:=s.toks+1}):wpAny (bB prog w) A (af8 (.type "Exception") "__init__" i) Q E s:=by
 have e1:JN (.type "Exception") "__getattribute__"=pure (some (.builtin "type.__getattribute__")):=by unfold JN;refine aC y_ ?_;exact EL
 unfold af8;exact e1▸(aA (wpAny_pure (oj (if_pos canon_tga) (aA (cls_open (mc:=.type "type") (r:=.val (.builtin "Exception.__init__")) (hook:=none) X (sS Gk) (sS y_) (by kernel_rfl) (looks_hook X (if_neg (by decide))) (by kernel_rfl) (by kernel_rfl) (wpAny_pure (oj (handedOut_of (by kernel_rfl)) (wpAny_pure (wpAny_pure h)))))))))
theorem zH:CG (.builtin "bytes.join")=pure (.type "method_descriptor"):=by show builtinType _=_;refine aC builtinType_eq_fast ?_;kernel_rfl
theorem tf_{α:Type}{b:Bool}{m:M α}{K:α->CS->Prop}{E:KP}{S:CS}(h:(match b with|true=>m|false=>pS) K E S):b=true/\m K E S:=by
 rcases b with _|_;·exact h.elim
 ·exact⟨rfl,h⟩
theorem RA(O:dM W)(O2:jD W){A:bT}{pl:Sem Bool}{a:CV}{x:Str}{v:aP}{S:CS}{s:aO}(R:jE W S s)(y:V W s.heap a v):pX W (RM W) none A (dX a x) (af8 v x pl) S s:=by
 intro K E hm;rcases a<;>first|exact hm.elim|skip
 · revert x_1;intro z y hm;refine iK (CK y) λt e3x=>?_;obtain rfl:=e3x;unfold dX at hm;dsimp only at hm;rcases q:qW x "split"with _|_;·replace hm:=q▸hm;exact hm.elim
   · have:=jW.mp q;subst this;exact nW (typeIs_str _ _ _) F.plainAttrs_str U5 F.type_str_split (λι e=>nomatch e) (fU R ⟨V.bi rfl,ES V.str⟩ hm)
 · revert b;intro z y hm;refine iK (n4 y) λt e2x=>?_;obtain rfl:=e2x;unfold dX at hm;dsimp only at hm;rcases q:qW x "join"with _|_;·replace hm:=q▸hm;exact hm.elim
   · have:=jW.mp q;subst this;have r:RM W s.heap (.bi 10,[.bytes z]) (.builtin "bytes.join",[.bytes z.toArray t]):=⟨V.bi rfl,ES V.bytes⟩;have hq:Qk W (RM W) none S s K (.builtin "bytes.join",[.bytes z.toArray t]) s:=⟨_,S,eH.refl R,r,hm⟩;have hT:s.TypeIs (.bytes z.toArray t) "bytes":=oI _ _ _;have hd:∀a,zK z.toArray t=.ref a->∃o,s.heap.get? a=some o/\o.dict=none:=λι e=>nomatch e;with_reducible exact nW hT FB.plainAttrs_bytes xK zH hd hq
 · revert a;intro ad y hm;have p:=gT y;subst p;revert hm;refineλq_=>aY q_ λo e hm=>?_;clear q_;cases o with
   |list l=>
     refine dZ (R.list e) λus n g w I=>?_;dsimp only at hm;rcases q:dA x [gs "insert" (.bi 6),gs "append" (.bi 11)]with _|f;·replace hm:=q▸hm;exact hm.elim
     · rcases Cv q with⟨rfl,rfl⟩|⟨rfl,rfl⟩;·exact nW I.typeIs Uw MR F.type_list_insert (λa e=>by cases e;exact⟨_,g,rfl⟩) (fU R ⟨V.bi rfl,ES V.ref⟩ hm)
       ·exact nW I.typeIs Uw F.slot_list_append F.type_list_append (λa e=>by cases e;exact⟨_,g,rfl⟩) (fU R ⟨V.bi rfl,ES V.ref⟩ hm)|idict es=>
     refine aY ((R.rep _ _ e).2) λkvs D kv=>?_;have D0:=D.dictOf;dsimp only at hm;rcases q:dA x [gs "get" (.bi 7),gs "values" (.bi 8)]with _|f;·replace hm:=q▸hm;exact hm.elim
     · rcases Cv q with⟨rfl,rfl⟩|⟨rfl,rfl⟩;·exact nW D0.typeIs Ux F.slot_dict_get F.type_dict_get D0.mapOf.noDict (fU R ⟨V.bi rfl,ES V.ref⟩ hm)
       ·exact nW D0.typeIs Ux F.slot_dict_values F.type_dict_values D0.mapOf.noDict (fU R ⟨V.bi rfl,ES V.ref⟩ hm)|inst c d=> revert hm;refineλq_=>aY q_ λf ed hm=>?_;clear q_;cases f with
     |flds es=>
       dsimp only at hm;rcases q:dA x es with _|v
       · rcases q2:dU c x with _|g;·replace hm:=q2▸(q▸hm);exact hm.elim
         · replace hm:=q2▸(q▸hm);have h36:=(R.rep _ _ e).2.2.2.2;refine eC λk_=>uS (R.obj (.inl e) ed) λq1x ox od m I hdd hod hodc n hv=>?_;revert q1x;refineλq_=>bX q_ λq1x ι=>?_;clear q_;obtain⟨k,hk⟩:=q1x;refine zW (O.cls c k hk h36) λcd hc hh hga hgt ι=>bX (O2.meth c k x g hk q2) λhf ht=>k_ ?_;have hmx:=hv x;replace hmx:=q▸hmx;have hn:m x=none:=by cases hx:m x with|none=>rfl|some u=>replace hmx:=hx▸hmx;exact fA hmx
           have hl:=Ct (x:=x) n.ns hod;exact method_fn (O.kIn _ R.stat) I hga hgt hf ht (by show(lookIn x od).map (·.isSome)=_;refine aC hl (aC hn ?_);rfl) (fU R ⟨V.st,ES V.ref⟩ hm)
       ·replace hm:=q▸hm;exact hm.elim|_=>exact hm.elim
   |_=>exact hm.elim
 · obtain rfl:v=.ref _:=y;refine bX (tf_ hm) λq0 hm=>?_;obtain rfl:=cM q0;refine bX (tf_ hm) λq hm=>?_;obtain rfl:=jW.mp q;refine ug O2.sup λh1 mc h2 h3=>?_;have X:=O.kIn _ R.stat;exact method_cls X h1 (cls_value X h2 h3 rfl (eZ O R ⟨V.st,Vs.n⟩ hm))
 · refine bX (tf_ hm) λq0 hm=>?_;obtain rfl:=cM q0;obtain rfl:v=.type (tyName 10):=y;refine bX (tf_ hm) λq hm=>?_;obtain rfl:=jW.mp q;exact Kq (O.kIn _ R.stat) (eZ O R ⟨V.bi rfl,Vs.n⟩ hm)
end Internal
namespace Internal
open PySem PySem.W PyProof.Rows
variable{W:Wd}
section
variable{M:nx}{A:bT}{E:EP}{s:aO}
theorem C3(hp:args.any (·.1)=false)(h:iQ M A (yT args) (λo s'=>Q ⟨o,[]⟩ s') E s):iQ M A (az9 f true args []) Q E s:=by
 have e:az9 f true args []=(yT args>>=λo=>lV (o++(none:Option aP).toList) (evalAll []>>=λR=>pure o>>=λp=>pure ⟨p,([]:List Str).zip R⟩)):=by
   rcases args with _|⟨a,r⟩;·rfl
   · obtain⟨b,x⟩:=a;rcases b with _|_;·rfl
     ·contradiction
 exact zw e (aL (cV h (λo s' q=>bI (aL (aW (aL (aW (aW q)))))) λc c q=>q))
theorem Cz(hp:args.any (·.1)=false)(h:iQ M A (yT args) (λo s₁=>(∃k,(k=Uy\/k=My\/k=IS)/\mS M s₁.heap (aA0 f) k)/\iQ M A (call f (first++o) []) Q E s₁) E s):iQ M A (MU pos f first args []) Q E s:=by
 refine aL (bI (C3 hp (cV h (λo s₁ h₁=>aL (fJ (eC λd=>?_))) λa a x=>x)));revert h₁;refineλg=>bX g λN h₁=>aY N λk Z L=>d (aC hp (aC List.any_nil (aC (Bool.or_false _) (aL (cQ (L.here ?_))))));have tail:∀{t:Sem aP},iQ M A t Q E s₁->iQ M A (t>>=λr=>lV [r] point>>=λa=>pure r) Q E s₁:=λht=>aL (cV ht (λr v hr=>aL (cQ (c_ (jB (aW hr))))) λa a x=>x);have e(mk:aP):iQ M A (callMarked mk f (first++o) []) Q E s₁:=by unfold callMarked;exactλc p u F=>by refine aC (Sem.wp_keep _ _ _ _ _ _ _ _) ?_;exact h₁ c p u F
 rcases Z with rfl|rfl|rfl<;>dsimp only<;>first|exact tail h₁|(split<;>first|exact tail h₁|exact tail (e _))
end
theorem O0(O:dM W)(O2:jD W){K E S}(R:jE W S s)(y:V W s.heap f fv)(hm:eQ (aM n) f args K E S):∃k,(k=Uy\/k=My\/k=IS)/\mS (bB prog W.w) s.heap (aA0 fv) k:=by
 unfold eQ at hm;rcases f<;>first|exact hm.elim|skip
 · skip;have p:=gT y;subst p;dsimp only at hm;rcases n with _|n;·exact hm.elim
   · refine eC λk_=>?_;revert hm;refineλq_=>aY q_ λo e hm=>k_ ?_;cases o with |clo l cells=>exact rd ((R.rep _ _ e).2) λfd o ho hc hd ι=>⟨.frame,.inl rfl,(ou (part:=none) ho).andThen (aC (show o.data=_ from hd) .now)⟩|_=>exact hm.elim
 · skip;subst y;refine keeps_K (O2.keep a ?_) s.heap (O.kIn _ R.stat);dsimp only at hm;rcases q:i_ a fY with _|k
   · left;rw[q]at hm;rcases n with _|n;·exact hm.elim
     · rcases q2:wx a with _|k
       · have hm:(match wx a with|some (fd,dv)=>Fj (aM n) fd dv _|none=>pS) _ _ _:=hm;rw[q2]at hm;exact hm.elim
       ·rfl
   ·exact .inr rfl
 · revert n_1;intro a y hm;obtain rfl:fv=.type _:=y;exact⟨.machine,.inr (.inl rfl),sS rfl⟩
 · revert n_1;intro a y hm;obtain rfl:fv=.builtin _:=y;exact⟨.machine,.inr (.inl rfl),sS rfl⟩
end Internal
namespace Internal
set_option backward.match.sparseCases false
open PySem PySem.W PyProof.Rows PySem.Calls
variable{W:Wd}
theorem Fs{A:bT}{c:Addr}{rest:List aP}:A.under (.builtin "type.__call__" ⟨.ref c::rest,[]⟩)={A.in1 with depth:=A.depth+1}:=by obtain⟨hd,d,fr,gs,u⟩:=A;rfl
theorem G1{prog:iS}{w:jH}{A:bT}{C:Addr}{rest:List aP}{init:aP}{R:oO->aO->Prop}{s:aO}(Y:Makes (bB prog w) s.heap C)(hi:mS (bB prog w) s.heap (jP (.ref C) "__init__") (some init))(c:∀self,mS (bB prog w) s.heap (MP init self) (init,[self]))(u:(some init !=some (ot "object.__init__"))=true)(hq:mU (bB prog w) {A.in1 with depth:=A.depth+1} (.call init ⟨.ref (s.heap.objs.size+1)::rest,[]⟩) (InitBack (s.heap.objs.size+1) R) {s with heap:=(s.heap.push emptyDict).push (sP C s.heap.objs.size)}):mU (bB prog w) A (.call (.ref C) ⟨rest,[]⟩) R s:=by
 refine eC λf=>?_;obtain⟨h,g,d,t,os⟩:=s;have U:=Y;obtain⟨⟨oc,i,cd,sl,p,e1,n,I⟩,made,base,self,top,call,typ⟩:=Y;refine f ?_;dsimp only at*;refine gV (cQ (nd_load p ?_));show wpAny _ _ (Hv (.ref C) _) _ _ _;refine aA (call.at ?_);dsimp only;refine aC (tc_bind _) (abp (abp (wpAny_pure (a:=Fin.again (.call (.builtin "type.__call__") ⟨.ref C::rest,[]⟩)) ⟨rfl,rfl,gZ (r9 _ (by decide+kernel)) (by rfl) aA1 (F3 tc_kind tc_split typ (tc_args _ _ _) (aC Fs ?_))⟩)));unfold BC.«type.__call__»;refine bO rfl (bF ((((ou (part:=none) p).andThen .now).andThen .now:mS (bB prog w) h (mroOf (.ref C)) cd.mro).here (bO I (bF (made.here (SV (aL (bI (cQ (z8 (new_K U hi (.inl u) ?_)))))))))));have k:∀b o,h.get? b=some o->((h.push emptyDict).push (sP C h.objs.size)).get? b=some o:=λb o e=>aK _ (aK _ e);have hx:((h.push emptyDict).push (sP C h.objs.size)).get? (h.objs.size+1)=some (sP C h.objs.size):=by heap_get
 refine bF (aA (((ou hx).andThen .now:mS (bB prog w) ((h.push emptyDict).push (sP C h.objs.size)) (CG (.ref (h.objs.size+1))) (.ref C)).here ((self.keeps k).here (bO rfl (aL (bI ?_))))));refine bF (aA (((ou hx).andThen .now:mS (bB prog w) ((h.push emptyDict).push (sP C h.objs.size)) (CG (.ref (h.objs.size+1))) (.ref C)).here ((hi.keeps k).here (bI ?_))));refine bF (((c (.ref (h.objs.size+1))).keeps k).here (aL (oa (i9 hq λr s' z=>?_))));rcases r with e|(v|_|_|_)<;>first|exact z|exact z.elim|skip
 obtain⟨rfl,z⟩:=z;exact aW (bO rfl (aW z))
theorem Q1(O:dM W)(h:jD W){cl:fW}{n:Nat}(C:qO W cl n){A:bT}{c f:Nat}{args:List CV}{avs:List aP}{S:CS}{s:aO}{K:KP}{E:KP}{g:List Nat×List (Str×Nat)}(F:Bv W A S s.heap)(r:EZ A n)(R:jE W S s)(hk:i_ c fY=some g)(hf:dU c "__init__"=some f)(G:f≠36)(x:Vs W s.heap args avs)(hm:mG cl c args K E S):mU (bB prog W.w) A (.call (.ref c) ⟨avs,[]⟩) (Rk W S s K E) s:=by
 have hm:((iF (.flds [])).bind λd=>(iF (.inst c d)).bind λa=>(rC (cl (.st f) (.ref a::args))).bind λr=>match r with|.none=>.pure (.ref a)|_=>.fail) K E S:=(show I1 cl c args f false K E S from UN hf G▸hm);have X:=O.kIn _ R.stat;refine bX (h.meth c g _ f hk hf) λN hit=>G1 (makes_of X (h.make c g f hk hf G)) (BD X N) (λself=>bind_fn X self hit) (by rfl) ?_;have L:=eO (s':={s with heap:=(s.heap.push emptyDict).push (sP c s.heap.objs.size)}) O R (λb o e=>aK _ (aK _ e)) rfl rfl;have hd:((s.heap.push emptyDict).push (sP c s.heap.objs.size)).get? s.heap.objs.size=some emptyDict:=by heap_get
 have hx:((s.heap.push emptyDict).push (sP c s.heap.objs.size)).get? (s.heap.objs.size+1)=some (sP c s.heap.objs.size):=by heap_get
 have B:=(L.put (o:=.flds []) R.stat.size (bL (bM _)) ⟨⟨_,hd,rfl⟩,λk=>none,⟨emptyDict,#[],0,hd,rfl,(λe he=>by simp at he),by simp[UniqKeys],λx=>rfl⟩,λx=>trivial⟩).put (o:=.inst c s.heap.objs.size) (jU R.stat.size) (bL (m_ _)) ⟨hx,by simp,⟨g,hk⟩,λq=>G (aE (hf.symm.trans q))⟩;have T:=hm s.heap.objs.size (R.none_ (bL (bM _))) (s.heap.objs.size+1) (by unfold oz;refine aC (if_neg (by simp)) ?_;exact R.none_ (bL (m_ _)));have Y:u6 {A.in1 with depth:=A.depth+1} n:=⟨r.handled,by have:=r.depth;exact o60 this,by have:=r.units;exact o59 this,r.guards⟩;have Z:Bv W {A.in1 with depth:=A.depth+1} _ _:=F.ext B;refine i9 (C Z Y B.rel V.st (by exact⟨V.ref,x.ext R L⟩) T) λr s' q=>?_;rcases r with e|fl;·exact Qe.elim q
 ·cases fl with |ret v=>
   obtain⟨a,i,u,j,l⟩:=q;rcases a<;>first|exact l.elim|skip
   have:v=.none:=V.none_ j;exact⟨this,_,i,B.trans u,V.ref,l⟩|_=>exact q.elim
noncomputable def LQ(o:Option Obj):Option (af0×Array (Option aP)):=match o with
 |some o=>match o.data with |.cls cd=>some (cd,o.slots)|_=>none
 |none=>none
theorem WQ(h:LQ o=some p):∃oc a,o=some ⟨oc,a,.cls p.1,p.2⟩:=by
 rcases o with _|⟨c,d,dt,sl⟩;·exact iH h
 ·rcases dt<;>first|exact iH h|(obtain rfl:=aE h;exact⟨c,d,rfl⟩)
noncomputable def makesE(K:Frag)(C:Addr):Bool:=match LQ (K.lookup C)with |some (cd,sl)=>!cd.abstract&&(!cd.hasDel&&((sl.toList[4]?).join==some (.builtin "Exception.__new__")&&(!cd.mro.isEmpty&&(cd.mro.contains (.ref C)&&(cd.mro.contains (.type "Exception")&&(!cd.mro.contains (.type "AttributeError")&&(!cd.mro.contains (.type "NameError")&&(af7 K (.ref C) "__call__"==some (some (.builtin "type.__call__"))&&instIn K (.ref C) (.type "type")==some true))))))))|none=>false
structure Gr(M:nx)(h:Heap)(C:Addr):Prop where
 obj:∃oc od cd sl,h.get? C=some ⟨oc,od,.cls cd,sl⟩/\cd.hasDel=false/\cd.mro.isEmpty=false
 made:mS M h (af9 (.ref C)) (some "Exception.__new__")base:mS M h (Bind.staticBase (.ref C)) (.ref C)self:mS M h (rx (.ref C) (.ref C)) true
 top:mS M h (rx (.ref C) (.type "Exception")) true
 noA:mS M h (rx (.ref C) (.type "AttributeError")) false
 noN:mS M h (rx (.ref C) (.type "NameError")) false
 call:mS M h (JN (.ref C) "__call__") (some (.builtin "type.__call__"))typ:mS M h (U4 (.ref C) (.type "type")) true
theorem Jm{K:Frag}{M:nx}{h:Heap}(X:K.In h){C:Addr}(e:makesE K C=true):Gr M h C:=by
 rcases hp:LQ (K.lookup C)with _|⟨cd,sl⟩;·unfold makesE at e;rw[hp]at e;exact rR e
 · unfold makesE at e;rw[hp]at e;refine sJ (WQ hp) λoc a ho=>?_;simp only[bP,hO,beq_iff_eq]at e;refine eC λd=>yY e λe1 o U I m Z n j H O=>?_;clear e;have f:FV K C=some cd:=by unfold FV;exact aC ho rfl
   have hm:mS M h (mroOf (.ref C)) cd.mro:=(xW X f).andThen .now;obtain⟨c,l,hl⟩:∃c l,cd.mro=c::l:=by cases q:cd.mro with|nil=>cases(q▸I)|cons c l=>exact⟨c,l,rfl⟩
   refine d ?_;have made:mS M h (af9 (.ref C)) (some "Exception.__new__"):=by
     intro A Q E s k q;refine aA (hm A _ E s k (aC hl (aC (h_ _ _ _ _) (aA (aA (aA (aA (xX (k _ _ (X _ _ ho)) (wpAny_pure (oj (iZ (qa) (aC U rfl)) ?_))))))))));exact wpAny_pure (wpAny_pure (wpAny_pure q))
   have sub:∀{b:aP}{r:Bool},cd.mro.contains b=r->mS M h (rx (.ref C) b) r:=λq=>looks_mroIn X (by unfold mroIn;rw[f,nN,if_neg (by rw[I];decide),q]);refine⟨⟨oc,a,cd,sl,X _ _ ho,o,I⟩,made,?_,sub m,sub Z,sub n,sub j,looks_specialIn X H,looks_instIn X O⟩;intro A Q E s k q;exact aA (hm A _ E s k (aC hl (aC (h_ _ _ _ _) (aA (aA (aA (made A _ E s k (wpAny_pure (wpAny_pure (wpAny_pure q))))))))))
noncomputable def rI(l:List aP):Obj:={cls:=.type "tuple",data:=.seq l.toArray}
noncomputable def pZ(C t:Addr):Obj:={cls:=.ref C,data:=.fields #[.ref t,.none,.none,.none,.bool false,.none]}
theorem ap5{prog:iS}{w:jH}{A:bT}{C:Addr}{R:oO->aO->Prop}{h:Heap}{g:Array GenState}{d:Drawn}{t:Nat}{os:yQ}{v:aP}(Y:Gr (bB prog w) h C)(hq:R (.ok (.ret (.ref (h.objs.size+1)))) ⟨(h.push (rI [v])).push (pZ C h.objs.size),g,d,t,os⟩):vT (bB prog w) A (.call (.builtin "Exception.__new__") ⟨[.ref C,v],[]⟩) R ⟨h,g,d,t,os⟩:=by
 refine eC λk_=>?_;obtain⟨⟨oc,od,cd,sl,hC,e2,e4⟩,made,base,self,top,noA,noN,call,typ⟩:=Y;refine k_ ?_;have F:=Br;have hends:=F.ends;have ty:mS (bB prog w) h (isType (.ref C)) true:=(ou hC).andThen .now;refine codeAny_call_builtin_code (r9 _ F.quiet) ?_;rw[nk,F.newKind,F.newSplit,F.newRow];repeat(first|simp only[bne_self_eq_false,iB,if_false]|lk)
 refine codeAny_builtinAt F.entry (Mz (Mz (PySem.wpAt_stack λp below=>Hw ?_)));wp_walk;refine Hw (aC F.owner ?_);repeat(first|simp only[bne_self_eq_false,iB,if_false,wN]|lk)
 refine U2 (aK _ (aK _ hC)) ?_;refine wpAny_pure (oj (aC e2 rfl) (wpAny_pure (wpAny_pure ?_)));show R _ _;exact aC (nP _ _) hq
theorem I7{prog:iS}{w:jH}{A:bT}{C:Addr}{v init:aP}{R:oO->aO->Prop}{s:aO}(Y:Gr (bB prog w) s.heap C)(hi:mS (bB prog w) s.heap (jP (.ref C) "__init__") (some init))(c:∀self,mS (bB prog w) s.heap (MP init self) (init,[self]))(hq:mU (bB prog w) {A.in1 with depth:=A.depth+1} (.call init ⟨[.ref (s.heap.objs.size+1),v],[]⟩) (InitBack (s.heap.objs.size+1) R) {s with heap:=(s.heap.push (rI [v])).push (pZ C s.heap.objs.size)}):mU (bB prog w) A (.call (.ref C) ⟨[v],[]⟩) R s:=by
 refine eC λf=>?_;obtain⟨h,g,d,t,os⟩:=s;have U:=Y;obtain⟨⟨oc,i,cd,sl,p,n,I⟩,made,base,self,top,noA,noN,call,typ⟩:=Y;refine f ?_;dsimp only at*;refine gV (cQ (nd_load p ?_));show wpAny _ _ (Hv (.ref C) _) _ _ _;refine aA (call.at ?_);dsimp only;refine aC (tc_bind _) (abp (abp (wpAny_pure (a:=Fin.again (.call (.builtin "type.__call__") ⟨[.ref C,v],[]⟩)) ⟨rfl,rfl,gZ (r9 _ (by decide+kernel)) (by rfl) aA1 (F3 tc_kind tc_split typ (tc_args _ _ _) (aC Fs ?_))⟩)));unfold BC.«type.__call__»;have hm:mS (bB prog w) h (mroOf (.ref C)) cd.mro:=((ou (part:=none) p).andThen .now).andThen .now;refine bO rfl (bF (hm.here (bO I (bF (made.here (SV (aL (bI (cQ (z8 (ap5 U ?_)))))))))));have k:∀b o,h.get? b=some o->((h.push (rI [v])).push (pZ C h.objs.size)).get? b=some o:=λb o e=>aK _ (aK _ e);have hx:((h.push (rI [v])).push (pZ C h.objs.size)).get? (h.objs.size+1)=some (pZ C h.objs.size):=by
  have:=aU (o:=pZ C h.objs.size) (h.push (rI [v])) rfl;rwa[nP]at this
 refine bF (aA (((ou hx).andThen .now:mS (bB prog w) ((h.push (rI [v])).push (pZ C h.objs.size)) (CG (.ref (h.objs.size+1))) (.ref C)).here ((self.keeps k).here (bO rfl (aL (bI ?_))))));refine bF (aA (((ou hx).andThen .now:mS (bB prog w) ((h.push (rI [v])).push (pZ C h.objs.size)) (CG (.ref (h.objs.size+1))) (.ref C)).here ((hi.keeps k).here (bI ?_))));refine bF (((c (.ref (h.objs.size+1))).keeps k).here (aL (oa (i9 hq λr s' z=>?_))));rcases r with e|(v|_|_|_)<;>first|exact z|exact z.elim|skip
 obtain⟨rfl,z⟩:=z;exact aW (bO rfl (aW z))
noncomputable def n8(W:Wd):Prop:=∀c d,i_ c fY=some d->dU c "__init__"=some 36->makesE W.K c=true
theorem Yq(O:dM W)(h:jD W)(j:n8 W){cl:fW}{n:Nat}(C:qO W cl n){A:bT}{c:Nat}{args:List CV}{avs:List aP}{S:CS}{s:aO}{K:KP}{E:KP}{g:List Nat×List (Str×Nat)}(F:Bv W A S s.heap)(r:EZ A n)(R:jE W S s)(hk:i_ c fY=some g)(hf:dU c "__init__"=some 36)(x:Vs W s.heap args avs)(hm:mG cl c args K E S):mU (bB prog W.w) A (.call (.ref c) ⟨avs,[]⟩) (Rk W S s K E) s:=by
 replace hm:I1 cl c args 36 true K E S:=Ij hf▸hm;have u:∃p,args=[.str p]/\(M.bind (iF (.exc c none)) λ(a:Addr)=>M.bind (rC (cl (.st 36) [dG a,Ae p])) λ(r:CV)=>(match r with|qH=>jR (dG a)|_=>pS)) K E S:=by
  rcases args with _|⟨a,_|⟨b,l⟩⟩;·exact hm.elim
  ·rcases a<;>first|exact⟨_,rfl,hm⟩|exact hm.elim
  ·rcases a<;>exact hm.elim
 clear hm;refine aY u λp k hm=>?_;clear u;obtain rfl:=k;cases avs with|nil=>exact x.elim|cons v t=>cases t with|cons=>exact x.2.elim|nil=>
 refine iK (CK x.1) λf L=>aC L ?_;have X:=O.kIn _ R.stat;refine bX (h.meth c g _ 36 hk hf) λN hit=>I7 (Jm X (j c g hk hf)) (BD X N) (λself=>bind_fn X self hit) ?_;have hx:((s.heap.push (rI [.str p f])).push (pZ c s.heap.objs.size)).get? (s.heap.objs.size+1)=some (pZ c s.heap.objs.size):=by
  have:=aU (o:=pZ c s.heap.objs.size) (s.heap.push (rI [.str p f])) rfl;rwa[nP]at this
 have B:eH W none S s (S.put (s.heap.objs.size+1) (.exc c none)) {s with heap:=(s.heap.push (rI [.str p f])).push (pZ c s.heap.objs.size)}:=eH.new (s':={s with heap:=(s.heap.push (rI [.str p f])).push (pZ c s.heap.objs.size)}) (o:=.exc c none) O R (λb o e=>aK _ (aK _ e)) rfl rfl (jU R.stat.size) (bL (m_ _)) ⟨⟨⟨g,hk⟩,hf⟩,_,_,hx,rfl,rfl,rfl,by simp,.inl rfl⟩;have Y:u6 {A.in1 with depth:=A.depth+1} n:=⟨r.handled,by have:=r.depth;exact o60 this,by have:=r.units;exact o59 this,r.guards⟩;have Z:Bv W {A.in1 with depth:=A.depth+1} _ _:=F.ext B;refine i9 (C Z Y B.rel V.st (by exact⟨V.ref,V.str,trivial⟩) (hm (s.heap.objs.size+1) (R.none_ (bL (m_ _))))) λr s' q=>?_;rcases r with e|fl;·exact Qe.elim q
 ·cases fl with |ret v=>
   obtain⟨a,d,w,i,m⟩:=q;rcases a<;>first|exact m.elim|skip
   have:v=.none:=V.none_ i;exact⟨this,_,d,B.trans w,V.ref,m⟩|_=>exact q.elim
end Internal
namespace Internal
open PySem PySem.W PyProof.Rows PySem.Calls
variable{W:Wd}
theorem K6(O:dM W)(O2:jD W)(O3:n8 W)(C:qO W (aM n) n)(F:Bv W A S s.heap)(r:EZ A n)(R:jE W S s)(y:V W s.heap f fv)(x:Vs W s.heap args avs):dC W (V W) none A (eQ (aM n) f args) (call fv avs) S s:=by
 intro K E hm;unfold eQ at hm;rcases f<;>first|exact hm.elim|skip
 · skip;exact C.call F r.c R y x K E hm
 · skip;have p:fv=.ref a:=y;subst p;dsimp only at hm;rcases q:i_ a fY with _|dk;·replace hm:=q▸hm;exact C.call F r.c R y x K E hm
   · replace hm:=q▸hm;refine oa (i9 (R:=Rk W S s K E) ?_ λr s' q=>by rcases r with e|(v|_|_|_)<;>exact q);rcases q2:dU a "__init__"with _|f
     · exfalso;have hm:mG (aM n) a args K E S:=hm;unfold mG at hm;replace hm:=q2▸hm;exact hm
     · by_cases h36:f=36;·subst h36;exact Yq O O2 O3 C F r R q q2 x hm
       ·exact Q1 O O2 C F r R q q2 h36 x hm
 · revert n_1;intro a y hm;obtain rfl:fv=.type (tyName a):=y;by_cases h3:a=3;·subst h3;exact Rq O r.guards R x K E hm
   ·exact(as6 O r.handled h3 R x).up K E hm
 · revert n_1;intro a y hm;obtain rfl:fv=.builtin (biName a):=y;by_cases h3:a=10;·subst h3;exact(LO O R x).up K E hm
   ·exact(am1 O r.handled h3 R x).up K E hm
section
variable{n k:Nat}{A:bT}{env:cD}{sc:dD}{vs:cN}{S:CS}{s:aO}
theorem An(h:nh m as=true):(sC pos (mE as env)).any (·.1)=false/\as.length<=m/\(sC pos (mE as env)).length=as.length:=by induction as generalizing m with |nil=>exact⟨rfl,eR _,rfl⟩|cons e r ih=>
   rcases m with _|m;·exact rR h
   · have h:(match GI e with|true=>false|false=>nh m r)=true:=h;rcases q:GI e with _|_;case true=>replace h:=q▸h;exact rR h
     replace h:=q▸h;have hs:∀x p,e≠.Starred x p:=λx p z=>by subst z;exact nt_ q
     refine iR (ih h) λh1 h2 h3=>(oe hs)▸⟨?_,nY h2,?_⟩
     · show(false||(sC pos (mE r env)).any (·.1))=false;refine aC h1 ?_;rfl
     · show(sC pos (mE r env)).length+1=_;refine aC h3 ?_;rfl
theorem args_call(O:dM W)(g:jD W)(i:n8 W)(C:qO W (aM n) n)(I:rS W (aM n) n k)(h:fK W A n env sc vs S s)(y:V W s.heap f fv)(m:Vs W s.heap first fs)(hp:nh 29 as=true):dC W (V W) none A ((sf (aM n) k sc as vs).bind λl=>eQ (aM n) f (first++l)) (MU p fv fs (sC p (mE as env)) []) S s:=by
 intro K E hm;refine Cz (An hp).1 ((I.es p as h).step (eH.refl h.rel) hm λl o z H a X x hm=>?_);have h1:=h.ext X;exact⟨O0 O g h1.rel (y.ext h.rel X) hm,(K6 O g i C h1.frs h1.room h1.rel (y.ext h.rel X) ((m.ext h.rel X).append x)).go X hm⟩
theorem JL(O:dM W)(i:jD W)(j:n8 W)(C:qO W (aM n) n)(I:rS W (aM n) n k)(f:aI)(as:List aI)(c:List FL)(p:Pos)(h:fK W A n env sc vs S s):dC W (V W) none A (wW (aM n) (k+1) sc f as c p vs) (eval (.Call f as c p) env) S s:=by
 rcases c with _|⟨a,b⟩
 · by_cases ha:∃o x ap,f=.Attribute o x ap
   · refine zb ha λo x ap L=>?_;clear ha;refine L▸?_;have u:wW (aM n) (k+1) sc (.Attribute o x ap) as [] p vs=match uU o&&(fQ ap.endLine p.line&&nh 29 as)with |true=>(eP (aM n) k sc o vs).bind λv=>(dX v x).bind λm=>(sf (aM n) k sc as vs).bind λl=>eQ (aM n) m.1 (m.2++l)|false=>.fail:=rfl;refine u▸?_;rcases d:uU o&&(fQ ap.endLine p.line&&nh 29 as)with _|_;·exact dC.fail
     · simp only[bP]at d;refine eC λJ=>?_;revert d;refineλw=>iR w λd hl hp=>iR (An (env:=env) (pos:=p) hp) λB F N=>J (aC (arm_eval_Call _ _ _ _ _ _ _) (aC (HP d) ?_));have ek:aA2 p (MV [] env)=[]:=rfl;refine ek▸(dC.bind (I.e o h) λa v G H D y=>gI ?_);have t:aA3 (as.length+([]:List FL).length) (sC p (mE as env)) []=true:=by
         unfold aA3;have:(sC p (mE as env)).all (λx=>!x.1)=true:=by
           refine qP MA ?_;intro q hq;replace B:=propext yS▸B;have:=B q hq;simpa using this
         refine aC this ?_;simp;exact(tp F)
       unfold methodCall;refine t▸(dC.bind (dC.holding (Eo (RA O i (h.ext D).rel y).up λe e e r=>r)) λm fx Q P E z=>?_);have ep:aX8 true o env ap p=pure p:=by unfold aX8;refine aC (cM hl) ?_;simp
       refine ep▸?_;obtain⟨fv,R⟩:=fx;dsimp only;exact aC (pure_bind _ _) (args_call O i j C I ((h.ext D).ext E) z.1 z.2 hp)
   · have u:wW (aM n) (k+1) sc f as [] p vs=match nh 29 as with |true=>(eP (aM n) k sc f vs).bind λg=>(sf (aM n) k sc as vs).bind λl=>eQ (aM n) g l|false=>.fail:=by cases f<;>first|rfl|exact absurd ⟨_,_,_,rfl⟩ ha
     have e1:eval (.Call f as [] p) env=(do MU p (<-eval f env) [] (sC p (mE as env)) (aA2 p (MV [] env))):=by rcases f<;>first|rfl|exact absurd ⟨_,_,_,rfl⟩ ha
     refine aC u (aC e1 ?_);rcases hp:nh 29 as with _|_;·exact dC.fail
     ·exact dC.bind (I.e f h) λg v G H D y=>args_call O i j C I (h.ext D) y (first:=[]) trivial hp
 ·exact dC.fail
end
end Internal
namespace Internal
open PySem PySem.W PyProof.Rows PySem.Calls
variable{W:Wd}
structure lY(W:Wd)(Ps:List Addr)(S:CS)(s:aO)(S':CS)(s':aO):Prop where
 rel:jE W S' s'
 keep:∀b o,W.h₁.objs.size<=b->s.heap.get? b=some o->S b=none->b∉Ps->B0 o (s'.heap.get? b)dom:∀b o,s.heap.get? b=some o->S b=none->S' b=none
 there:∀b o,s.heap.get? b=some o->∃o',s'.heap.get? b=some o'/\(S b=none->J2 o o')
theorem eH.toL(X:eH W P S s S' s')(h:∀b,P=some b->b∈Ps):lY W Ps S s S' s':=⟨X.rel,λb o l e F c=>X.keep b o l e F λq=>c (h b q),X.dom,X.there⟩
theorem eH.l0(X:eH W none S s S' s'):lY W Ps S s S' s':=X.toL λa q=>iH q
theorem lY.trans(X:lY W Ps S₁ s₁ S₂ s₂)(Y:lY W Ps S₂ s₂ S₃ s₃):lY W Ps S₁ s₁ S₃ s₃:=by
 refine⟨Y.rel,λb o l e F S=>?_,λb o e c=>by refine aY (X.there b o e) λT A a=>?_;exact Y.dom b T A (X.dom b o e c),λb o e=>let⟨T,A,k⟩:=X.there b o e;by refine aY (Y.there b T A) λI E G=>?_;exact⟨I,E,λh=>(k h).trans (G (X.dom b o e h))⟩⟩;exact(X.keep b o l e F S).trans λT A=>Y.keep b T l A (X.dom b o e F) S
theorem lY.drop(X:lY W Ps S s S' s')(h:∀b∈Ps,b∈Qs\/s.heap.get? b=none):lY W Qs S s S' s':=⟨X.rel,λb o l e F c=>X.keep b o l e F λq=>(h b q).elim c (λn=>by exact iH (n.symm.trans e)),X.dom,X.there⟩
theorem lY.none_(X:lY W [] S s S' s'):eH W none S s S' s':=⟨X.rel,λb o l e F a=>X.keep b o l e F (by simp),X.dom,X.there⟩
theorem lY.one(X:lY W [d] S s S' s'):eH W (some d) S s S' s':=⟨X.rel,λb o l e F h=>X.keep b o l e F (by simp;exactλq=>h (q▸rfl)),X.dom,X.there⟩
theorem lY.own{Ps F:List Addr}{S₀ S:CS}{s₀ s s':aO}(O:dM W)(X:lY W Ps S₀ s₀ S s)(G:∀b∈F,s₀.heap.get? b=none/\S b=none/\W.h₁.objs.size<=b)(hi:∀b∈F,∀o,s.heap.get? b=some o->¬uk o)(k:∀b o,b∉F->s.heap.get? b=some o->s'.heap.get? b=some o)(hg:s'.gens=s.gens)(ho:s'.os=s.os):lY W Ps S₀ s₀ S s':=by
 have R:=X.rel;have t:qn W s.heap s'.heap:=λb o f e i=>k b o (λq=>hi b q o e i) e;refine⟨⟨R.stat.step (λb o e c=>k b o (λq=>absurd c (kZ.mpr (G b q).2.2)) e) t O.tabsOld,λa o e=>⟨(R.rep a o e).1,(R.rep a o e).2.keep t λob=>k a ob (λq=>by exact iH (((G a q).2.1).symm.trans e))⟩,hg.trans R.gens,ho.trans R.os⟩,λb o l e H d=>(X.keep b o l e H d).trans λT A=>.inl (k b T (λq=>by exact iH (((G b q).1).symm.trans e)) A),X.dom,λb o e=>?_⟩;exact aY (X.there b o e) λT A r=>⟨T,k b T (λq=>by exact iH (((G b q).1).symm.trans e)) A,r⟩
theorem lY.imm(R:jE W S s)(X:lY W Ps S s S' s')(T:∀b∈Ps,∀o,s.heap.get? b=some o->¬uk o):qn W s.heap s'.heap:=by
 intro b o l e i;refine(X.keep b o l e (R.imm e i) (λq=>T b q o e i)).eq ?_;rcases i.1 with i|i|i|i|i<;>rw[i]<;>simp
theorem wA.extL(F:wA W S s.heap l)(X:lY W Ps S s S' s'):wA W S' s'.heap l:=λenv he=>by exact jT (F env he) λhk L o hf hl G hg e hd=>aY (X.there L o hg) λT A k=>⟨hk,L,T,hf,hl,X.dom L o hg G,A,(k G).1.trans e,(k G).2 hd⟩
theorem Bv.extL(F:Bv W A S s.heap)(X:lY W Ps S s S' s'):Bv W A S' s'.heap:=by refine aY F λl a b=>?_;clear F;exact⟨l,a,b.extL X⟩
noncomputable def rL(W:Wd)(h:Heap):It->List Addr->aP->Prop |.items l i,as,v=>∃it t us n,v=.ref it/\as=[it]/\W.h₁.objs.size<=t/\h.get? t=some {cls:=.type "tuple",data:=.seq us.toArray n}/\Vs W h l us/\IsTupIter h it t i|.octs b i,as,v=>∃it t,v=.ref it/\as=[it]/\i5 h it b.toArray t i|.list a i,as,v=>∃it,v=.ref it/\as=[it]/\h.IsListIter it a i|.rng i n,as,v=>∃it,v=.ref it/\as=[it]/\IsRangeIter h it i (if i<n then n-i else 0) 1|.dvals a i n,as,v=>∃it,v=.ref it/\as=[it]/\h.IsValIter it a i n n|.enumL a i,as,v=>∃e it old,v=.ref e/\as=[e,it]/\e≠it/\U7 h e it i old/\h.IsListIter it a i|.enumO b i,as,v=>∃e it old t,v=.ref e/\as=[e,it]/\e≠it/\U7 h e it i old/\i5 h it b.toArray t i
noncomputable def HR(W:Wd)(h:Heap)(it:It)(as:List Addr)(v u:aP):Prop:=match it with|.enumL a i=>∃e it x T,v=.ref e/\u=.ref T/\as=[e,it]/\e≠it/\IsEnumOut h e it i x T/\h.IsListIter it a i|.enumO b i=>∃e it x T t,v=.ref e/\u=.ref T/\as=[e,it]/\e≠it/\IsEnumOut h e it i x T/\i5 h it b.toArray t i|it=>rL W h it as v
structure Z1(W:Wd)(s₀:aO)(S:CS)(as:List Addr):Prop where own:∀b∈as,s₀.heap.get? b=none/\S b=none/\W.h₁.objs.size<=b
theorem M3(h:s₀.heap.get? a=none/\S a=none/\W.h₁.objs.size<=a)(h':s₀.heap.get? c=none/\S c=none/\W.h₁.objs.size<=c):Z1 W s₀ S [a,c]:=⟨λb d=>by simp at d;rcases d with rfl|rfl;exact h;exact h'⟩
theorem rL.objs(x:rL W h it as v):∀b∈as,∃o,h.get? b=some o/\¬uk o/\o.cls≠.type "frame":=by
 have T:∀{o:Obj}{c:String},o.cls=.type c->c≠"tuple"->c≠"range"->c≠"dict_values"->c≠"code"->c≠"traceback"->c≠"frame"->¬uk o/\o.cls≠.type "frame":=by
   intro o c h a1 a2 a3 a4 a5 a6;unfold uk;refine aC h ?_;simp[a1,a2,a3,a4,a5,a6]
 cases it
 · refine lH x λit t I n y s=>?_;clear x;obtain rfl:=y;refine bX s λF r=>?_;clear s;obtain rfl:=F;refine Bj r λa a a o ho f a=>?_;clear r;intro b d;simp at d;subst d;exact⟨o,ho,T f (by decide) (by decide) (by decide) (by decide) (by decide) (by decide)⟩
 · refine eJ x λit t B q=>?_;clear x;obtain rfl:=B;refine bX q λD w=>?_;clear q;obtain rfl:=D;refine gA w λo ho f a=>?_;clear w;intro b d;simp at d;subst d;exact⟨o,ho,T f (by decide) (by decide) (by decide) (by decide) (by decide) (by decide)⟩
 · refine aY x λit z p=>?_;clear x;obtain rfl:=z;refine bX p λA m=>?_;clear p;obtain rfl:=A;refine gA m λo ho f a=>?_;clear m;intro b d;simp at d;subst d;exact⟨o,ho,T f (by decide) (by decide) (by decide) (by decide) (by decide) (by decide)⟩
 · refine aY x λit g l=>?_;clear x;obtain rfl:=g;refine bX l λj ho=>?_;clear l;obtain rfl:=j;intro b d;simp at d;subst d;exact⟨_,ho,T rfl (by decide) (by decide) (by decide) (by decide) (by decide) (by decide)⟩
 · refine aY x λit C Y=>?_;clear x;obtain rfl:=C;refine bX Y λi u=>?_;clear Y;obtain rfl:=i;refine gA u λo ho f a=>?_;clear u;intro b d;simp at d;subst d;exact⟨o,ho,T f (by decide) (by decide) (by decide) (by decide) (by decide) (by decide)⟩
 · refine gD x λe it old H X=>?_;clear x;obtain rfl:=H;refine bX X λG U=>?_;clear X;obtain rfl:=G;refine xE U λa he o ho f a=>?_;clear U;intro b d;simp at d;rcases d with rfl|rfl;·exact⟨_,he,T rfl (by decide) (by decide) (by decide) (by decide) (by decide) (by decide)⟩
   ·exact⟨o,ho,T f (by decide) (by decide) (by decide) (by decide) (by decide) (by decide)⟩
 · refine lH x λe it old t k S=>?_;clear x;obtain rfl:=k;refine bX S λE R=>?_;clear S;obtain rfl:=E;refine xE R λa he o ho f a=>?_;clear R;intro b d;simp at d;rcases d with rfl|rfl;·exact⟨_,he,T rfl (by decide) (by decide) (by decide) (by decide) (by decide) (by decide)⟩
   ·exact⟨o,ho,T f (by decide) (by decide) (by decide) (by decide) (by decide) (by decide)⟩
theorem HR.objs(x:HR W h it as v u):∀b∈as,∃o,h.get? b=some o/\¬uk o/\o.cls≠.type "frame":=by
 have g:∀it,rL W h it as v->∀b∈as,∃o,h.get? b=some o/\¬uk o/\o.cls≠.type "frame":=λit x=>x.objs;cases it with
 |items l i=>exact g (.items l i) x|octs l i=>exact g (.octs l i) x|list l i=>exact g (.list l i) x|rng l i=>exact g (.rng l i) x|dvals l i n=>exact g (.dvals l i n) x|enumL a i=>
  refine lH x λe it old T L w=>?_;clear x;obtain rfl:=L;refine bX w λA z=>?_;clear w;obtain rfl:=A;refine bX z λk y=>?_;clear z;obtain rfl:=k;refine xE y λd he o ho f d=>?_;clear y;intro b c;simp at c;rcases c with rfl|rfl;·exact⟨_,he,by simp[uk],by simp⟩
  ·exact⟨o,ho,by rw[uk,f];simp,by rw[f];simp⟩|enumO a i=>
  refine Co x λe it old T t d Y X=>?_;clear x;obtain rfl:=Y;refine Bj X λN d he o ho f d=>?_;clear X;refine aC N ?_;intro b c;simp at c;rcases c with rfl|rfl;·exact⟨_,he,by simp[uk],by simp⟩
  ·exact⟨o,ho,by rw[uk,f];simp,by rw[f];simp⟩
theorem rL.keep(x:rL W h it as v)(k:∀b∈as,∀o,h.get? b=some o->h'.get? b=some o)(L:qn W h h'):rL W h' it as v:=by
 cases it
 · refine eC λd=>lH x λit t P n Z u=>?_;clear x;obtain rfl:=Z;refine bX u λc f=>?_;clear u;obtain rfl:=c;refine IA f λl g w o ho r=>?_;clear f;exact d (⟨it,t,P,n,rfl,rfl,l,L _ _ l g ⟨.inl rfl,nofun⟩,w.keep L,o,k it bS o ho,r⟩)
 · refine eJ x λit t D y=>?_;clear x;obtain rfl:=D;refine bX y λj i=>?_;clear y;obtain rfl:=j;refine aY i λo ho r=>?_;clear i;exact⟨it,t,rfl,rfl,o,k it bS o ho,r⟩
 · refine aY x λit I T=>?_;clear x;obtain rfl:=I;refine bX T λO H=>?_;clear T;obtain rfl:=O;refine aY H λo ho r=>?_;clear H;exact⟨it,rfl,rfl,o,k it (by simp) o ho,r⟩
 · refine aY x λit N p=>?_;clear x;obtain rfl:=N;refine bX p λm ho=>?_;clear p;obtain rfl:=m;exact⟨it,rfl,rfl,k it bS _ ho⟩
 · refine aY x λit F q=>?_;clear x;obtain rfl:=F;refine bX q λC z=>?_;clear q;obtain rfl:=C;refine aY z λo ho r=>?_;clear z;exact⟨it,rfl,rfl,o,k it (by simp) o ho,r⟩
 · refine eC λd=>gD x λe it old Q B=>?_;clear x;obtain rfl:=Q;refine bX B λs G=>?_;clear B;obtain rfl:=s;refine AW G λne he o ho r=>?_;clear G;exact d ⟨e,it,old,rfl,rfl,ne,k e bS _ he,o,k it (by simp) o ho,r⟩
 · refine eC λd=>lH x λe it old t E A=>?_;clear x;obtain rfl:=E;refine bX A λJ S=>?_;clear A;obtain rfl:=J;refine AW S λne he o ho r=>?_;clear S;exact d ⟨e,it,old,t,rfl,rfl,ne,k e bS _ he,o,k it (by simp) o ho,r⟩
theorem rL.extL(x:rL W s.heap it as v)(R:jE W S s)(X:lY W Ps S s S' s')(T:∀b∈Ps,∀o,s.heap.get? b=some o->¬uk o)(ha:∀b∈as,S b=none/\W.h₁.objs.size<=b/\b∉Ps):rL W s'.heap it as v:=by
 refine x.keep (λb c o e=>gA (x.objs b c) λU A a n=>?_) (X.imm R T);obtain rfl:=aE (e.symm.trans A);exact(X.keep b o (ha b c).2.1 e (ha b c).1 (ha b c).2.2).eq n
end Internal
namespace Internal
open PySem PySem.W PyProof.Rows PySem.Calls Builtin
variable{W:Wd}
section
variable{prog:iS}{w:jH}{A:bT}{E:EP}{s:aO}{b:Array UInt8}{t:Tok}
theorem w0(hit:i5 s.heap it b t i)(hx:b[i]?=some c)(z:∀h',i5 h' it b t (i+1)->jF it s.heap h'->Q (.int (c.toNat:Int) s.toks) {s with heap:=h',toks:=s.toks+1}):wpAny (bB prog w) A (pI (.ref it)) Q E s:=by
 refine gA (id hit) λo ho e hd=>?_;refine aA (kG (name:=Ek "__next__") (vo hit) xP (lF xP (vo hit) U8 ?_ (ad1 _)));show wpAny _ _ (field (.ref it) 0>>=_) _ _ s;refine aA (iP ho hd (x:=.bytes b t) rfl (oj (if_neg (show¬((zK b t==eT)=true)from mZ)) (aA (iP ho hd (x:=.int i 0) rfl ?_))));refine aA (dQ (a:=b) rfl ?_);refine oj (by simp only[dO,hx];rfl) ?_;refine aA (ow ho hd (by simp) (abm (wpAny_pure ⟨_,rfl,wpAny_pure (z _ ?_ (iE ..))⟩)));exact⟨_,dH _ ho (qA (oP hd _)),(zo ..).trans e,by refine aC (oP hd _) ?_;simp[ru]⟩
theorem te(hh:A.handled=none)(hit:i5 s.heap it b t i)(hx:b[i]?=none)(R:∀h' e,Hx it s.heap h'->(∃o,h'.get? e=some o/\o.cls=.type "StopIteration")->E (.ref e) {s with heap:=h'}):wpAny (bB prog w) A (pI (.ref it)) Q E s:=by
 refine gA (id hit) λo ho f hd=>?_;refine aA (kG (name:=Ek "__next__") (vo hit) xP (lF xP (vo hit) U8 ?_ (ad1 _)));show wpAny _ _ (field (.ref it) 0>>=_) _ _ s;refine aA (iP ho hd (x:=.bytes b t) rfl (oj (if_neg (show¬((zK b t==eT)=true)from mZ)) (aA (iP ho hd (x:=.int i 0) rfl (aA (dQ (a:=b) rfl (oj (by simp only[dO,hx];rfl) ?_)))))));refine aA (i7 (aA (ow ho hd (FS _) (aA (aA (kH (aA (m:=firstArgMember _ _) (dQ (a:=eT) (by first|rfl|(rfl)) (kH ?_ (by size_fits)))) (by size_fits)))))));dsimp only;refine aA (aX9 (aC (show A.in1.handled=none from hh) (abp (wpAny_throw (R _ _ (((iE ..).extBut.push _).push _) ⟨_,aU _ rfl,rfl⟩)))))
end
theorem Draws.bytes(hh:A.handled=none)(it:Addr)(b:Array UInt8)(t:Tok):Draws prog w A it [it] b.size (λi v=>∃c u,b[i]?=some c/\v=.int (c.toNat:Int) u) (λi h=>i5 h it b t i)where
 live:=λa a st=>by refine aY st λo ho a=>?_;clear st;exact⟨o,ho⟩
 frame:=λa a a st hk=>by refine aY st λo ho r=>?_;clear st;exact⟨o,hk it bS o ho,r⟩
 item:=λi s Q E hi st z=>by exact w0 st (c:=b[i]) (by simp[hi]) λh' P B=>z _ h' (s.toks+1) ⟨_,_,by simp[hi],rfl⟩ P B
 done:=λs Q E st R=>te hh st (by simp) R
theorem yW{prog:iS}{w:jH}{A:bT}{it:Addr}{F:List Addr}{n:Nat}{St:Heap->Prop}(live:∀h,St h->∃o,h.get? it=some o)(frame:∀h h',St h->(∀b∈F,∀o,h.get? b=some o->h'.get? b=some o)->St h')(done:∀(s:aO)(Q:EP)(E:EP),St s.heap->(∀h' e,Hx it s.heap h'->(∃o,h'.get? e=some o/\o.cls=.type "StopIteration")->E (.ref e) {s with heap:=h'})->wpAny (bB prog w) A (pI (.ref it)) Q E s):Draws prog w A it F n (λa a=>True) (λj h=>j=n/\St h)where
 live:=λa h st=>live h st.2
 frame:=λa h h' st hk=>⟨st.1,frame h h' st.2 hk⟩
 item:=λi s Q E hi st z=>absurd st.1 (eX hi)
 done:=λs Q E st R=>done s Q E st.2 R
theorem KV.get{X:Type}{h:Heap}{es:List (X×CV)}{kvs:List (X×aP)}(x:KV W h es kvs){i:Nat}{a:X×CV}(e:es[i]?=some a):∃v,kvs[i]?=some v/\(a.1=v.1/\V W h a.2 v.2):=by induction es generalizing kvs i with|nil=>exact iH e|cons z l j=>
   rcases kvs with _|⟨y,r⟩;·exact x.elim
   · rcases i with _|i;·simp at e;subst e;exact⟨y,rfl,x.1⟩
     ·exact j x.2 (e)
theorem HW(O:dM W){A:bT}(hh:A.handled=none){it:It}{as:List Addr}{v:aP}{S:CS}{s:aO}(R:jE W S s)(x:rL W s.heap it as v)(ha:∀b∈as,S b=none/\W.h₁.objs.size<=b){K E}(hm:uf it K E S){Q:Option aP->aO->Prop}{Ee:EP}(hN:∀s',(∀b o,b∉as->s.heap.get? b=some o->s'.heap.get? b=some o)->s'.gens=s.gens->s'.os=s.os->K none S->Q none s')(hS:∀s' c f6 u,(∀b o,b∉as->s.heap.get? b=some o->s'.heap.get? b=some o)->s'.gens=s.gens->s'.os=s.os->V W s'.heap c u->HR W s'.heap f6 as v u->K (some (c,f6)) S->Q (some u) s'):wpAny (bB prog W.w) A (pyNext v) Q Ee s:=by
 have nI:∀{h':Heap},(∀b o,b∉as->s.heap.get? b=some o->h'.get? b=some o)->qn W s.heap h':=λk b o X e i=>k b o (λf=>by refine gA (x.objs b f) λo' e' ni X=>?_;obtain rfl:=aE (e'.symm.trans e);exact ni i) e;have one:∀{a:Addr}{h':Heap},as=[a]->jF a s.heap h'->∀b o,b∉as->s.heap.get? b=some o->h'.get? b=some o:=λq G b o f e=>(G.2 b (λz=>f (by refine aC q (aC z ?_);simp))).trans e;have d:∀{a:Addr}{h':Heap},as=[a]->Hx a s.heap h'->∀b o,b∉as->s.heap.get? b=some o->h'.get? b=some o:=λq G b o f e=>G b o (λz=>f (by refine aC q (aC z ?_);simp)) e;rcases it<;>dsimp only[rL]at x;·
   skip;refine lH x λit t p n e7 L=>?_;clear x;obtain rfl:=e7;refine bX L λe6 N=>?_;clear L;obtain rfl:=e6;refine s9 N λlt g w hit=>?_;clear N;have ht:IsTup s.heap t p.toArray:=⟨_,g,rfl,n,rfl⟩;unfold uf at hm;dsimp only at hm;rcases e:l[i]? with _|c
   · rw[e]at hm;have:p.toArray[i]?=none:=by
       have:=w.length;simp at e|-;exact o11 this e
     exact next_tuple_end hh hit ht this λh' eb=>hN {s with heap:=h'} (d rfl eb) rfl rfl hm
   · rw[e]at hm;refine aY (w.get e) λu eu U=>next_tuple_item hit ht (x:=u) (by simpa using eu) λh' P G=>?_;have k:=one rfl G;exact hS {s with heap:=h'} c (.items l (i+1)) u k rfl rfl (U.keep (nI k)) ⟨it,t,p,n,rfl,rfl,lt,nI k _ _ lt g ⟨.inl rfl,nofun⟩,w.keep (nI k),P⟩ hm
 · skip;refine eC λk_=>eJ x λit t e5 C=>?_;clear x;obtain rfl:=e5;refine bX C λf3 hit=>?_;clear C;obtain rfl:=f3;refine k_ ?_;unfold uf at hm;dsimp only at hm;rcases e:b[i]? with _|c
   · rw[e]at hm;exact KBw.next_end hh hit (by simpa using e) λh' eb=>hN {s with heap:=h'} (d rfl eb) rfl rfl hm
   · rw[e]at hm;exact KBw.next_item hit (c:=c) (by simpa using e) λh' P G=>hS {s with heap:=h',toks:=s.toks+1} _ (.octs b (i+1)) _ (one rfl G) rfl rfl V.int ⟨it,t,rfl,rfl,P⟩ hm
 · skip;refine aY x λit c5 T=>?_;clear x;obtain rfl:=c5;refine bX T λe4 hit=>?_;clear T;obtain rfl:=e4;refine eC λk_=>?_;revert hm;refineλm=>aY m λo e hm=>?_;clear m;refine k_ ?_;cases o with |list l=>
     refine dZ (R.list e) λp n g w I=>?_;dsimp only at hm;rcases F:l[i]? with _|c
     · rw[F]at hm;have:p.toArray[i]?=none:=by have:=w.length;simp at F|-;exact o11 this F
       exact wpAny_pyNext_list_end hh hit I this λh' eb=>hN {s with heap:=h'} (d rfl eb) rfl rfl hm
     · rw[F]at hm;refine aY (w.get F) λu eu U=>wpAny_pyNext_list_item hit I (x:=u) (by simpa using eu) λh' P G=>?_;have k:=one rfl G;exact hS {s with heap:=h'} c (.list a (i+1)) u k rfl rfl (U.keep (nI k)) ⟨it,rfl,rfl,P⟩ hm|_=>exact hm.elim
 · skip;refine aY x λit f5 J=>?_;clear x;obtain rfl:=f5;refine bX J λe0 hit=>?_;clear J;obtain rfl:=e0;unfold uf at hm;dsimp only at hm;rcases e:decide (i<n)with _|_
   · rw[e]at hm;have:¬i<n:=of_decide_eq_false e;exact wpAny_pyNext_range_end hh hit (by refine aC (if_neg this) ?_;exact o194) λh' eb=>hN {s with heap:=h'} (d rfl eb) rfl rfl hm
   · rw[e]at hm;refine wpAny_pyNext_range_item hit (by refine aC (if_pos (of_decide_eq_true e)) ?_;exact Int.sub_pos_of_lt (of_decide_eq_true e)) λh' P G=>?_;refine hS {s with heap:=h',toks:=s.toks+1} _ (.rng (i+1) n) _ (one rfl G) rfl rfl V.int ⟨it,rfl,rfl,?_⟩ hm;have q:(if i+1<n then n-(i+1)else 0)=(if i<n then n-i else 0)-1:=by exact aL1 (of_decide_eq_true e)
     refine aC q ?_;exact P
 · skip;refine aY x λit f4 H=>?_;clear x;obtain rfl:=f4;refine bX H λf0 hit=>?_;clear H;obtain rfl:=f0;revert hm;refineλm=>aY m λo e hm=>?_;clear m;cases o with |idict es=>
     revert hm;refineλm=>bX m λhn hm=>?_;clear m;refine aY ((R.rep _ _ e).2) λkvs D kv=>?_;have hl:=kv.length;subst hn;rw[<-hl]at hit D;rcases F:es[i]? with _|c
     · rw[F]at hm;refine wpAny_pyNext_values_end hh hit D (by simp at F|-;exact o11 hl F) λh' eb=>hN {s with heap:=h'} (d rfl eb) rfl rfl hm
     · rw[F]at hm;refine aY (kv.get F) λz eu U=>wpAny_pyNext_values_item hit D (k:=z.1) (v:=z.2) eu λh' P G=>?_;have k:=one rfl G;refine hS {s with heap:=h'} _ (.dvals a (i+1) es.length) _ k rfl rfl (U.2.keep (nI k)) ⟨it,rfl,rfl,?_⟩ hm;rw[hl]at P;exact P|_=>exact hm.elim
 · skip;refine eC λk_=>gD x λee it old g8 e8=>?_;clear x;obtain rfl:=g8;refine bX e8 λg7 e9=>?_;clear e8;obtain rfl:=g7;refine iR e9 λB he hit=>?_;clear e9;revert hm;refineλm=>aY m λo e hm=>?_;clear m;refine k_ ?_;cases o with
   |list l=>
     refine dZ (R.list e) λp n g w I=>?_;dsimp only at hm;have g4:a≠it:=λq=>by have:=(ha it (by simp)).1;rw[<-q,e]at this;contradiction
     have f8:a≠ee:=λq=>by have:=(ha ee (by simp)).1;rw[<-q,e]at this;contradiction
     rcases F:l[i]? with _|c
     · rw[F]at hm;have hx:p.toArray[i]?=none:=by have:=w.length;simp at F|-;exact o11 this F
       have D:Draws prog W.w A.in1 it [it,a] i (λX X=>True) (λj h=>j=i/\(h.IsListIter it a i/\h.IsList a p.toArray)):=yW (λh st=>by refine aY st.1 λo ho X=>?_;exact⟨o,ho⟩) (λh h' st hk=>⟨st.1.at λo e=>hk it bS o e,st.2.at λo e=>hk a (by simp) o e⟩) (λs Q E st hE=>wpAny_nextOf_list_end (A:=A.in1) hh st.1 st.2 hx hE);exact Ka D he ⟨rfl,hit,I⟩ λh' eb=>hN {s with heap:=h'} (λb o f e=>eb b o (λq=>f (by refine aC q ?_;simp)) e) rfl rfl hm
     · rw[F]at hm;refine aY (w.get F) λu eu U=>?_;have Y:i<p.toArray.size:=by
         have:=(aR.mp eu).1;simpa using this
       refine JT (Draws.list (A:=A.in1) hh it a g4 p.toArray) he ⟨hit,I⟩ Y B (by simp;exact⟨B,λq=>f8 q.symm⟩) λy h' tk hy ho Z hT hz k=>?_;have hk:∀b o,b∉[ee,it]->s.heap.get? b=some o->h'.get? b=some o:=λb o f e=>k b o (λq=>f (by refine aC q ?_;simp)) (λq=>f (by refine aC q ?_;simp)) e;have ey:y=u:=by
         have h1:p[i]?=some y:=by simpa using hy
         obtain rfl:=aE (h1.symm.trans eu);rfl
       subst ey;refine hS {s with heap:=h',toks:=tk+1} _ (.enumL a (i+1)) _ hk rfl rfl ?_ ⟨ee,it,y,_,rfl,rfl,rfl,B,ho,Z.1⟩ hm;exact⟨_,[.int i tk,y],0,rfl,R.stat.size,hT,⟨V.int,U.keep (nI hk),trivial⟩⟩|_=>exact hm.elim
 · skip;refine lH x λee it old t g6 e3=>?_;clear x;obtain rfl:=g6;refine bX e3 λg5 e2=>?_;clear e3;obtain rfl:=g5;refine iR e2 λB he hit=>?_;clear e2;unfold uf at hm;dsimp only at hm;rcases F:b[i]? with _|c
   · rw[F]at hm;have hx:b.toArray[i]?=none:=by simpa using F
     have D:Draws prog W.w A.in1 it [it] i (λX X=>True) (λj h=>j=i/\i5 h it b.toArray t i):=yW (λh st=>by refine aY st λo ho X=>?_;clear st;exact⟨o,ho⟩) (λh h' st hk=>by refine aY st λo ho r=>?_;clear st;exact⟨o,hk it bS o ho,r⟩) (λs Q E st hE=>te (A:=A.in1) hh st hx hE);exact Ka D he ⟨rfl,hit⟩ λh' eb=>hN {s with heap:=h'} (λb o f e=>eb b o (λq=>f (by refine aC q ?_;simp)) e) rfl rfl hm
   · rw[F]at hm;have Y:i<b.toArray.size:=by
       have:=(aR.mp F).1;simpa using this
     refine JT (Draws.bytes (A:=A.in1) hh it b.toArray t) he hit Y B (by simpa using B) λy h' tk hy ho Z hT hz k=>?_;have hk:∀b o,b∉[ee,it]->s.heap.get? b=some o->h'.get? b=some o:=λb o f e=>k b o (λq=>f (by refine aC q ?_;simp)) (λq=>f (by refine aC q ?_;simp)) e;refine eC λk_=>eJ hy λc' u ec f7=>?_;clear hy;obtain rfl:=f7;refine k_ ?_;have:c'=c:=by
       have h1:b[i]?=some c':=by simpa using ec
       obtain rfl:=aE (h1.symm.trans F);rfl
     subst this;refine hS {s with heap:=h',toks:=tk+1} _ (.enumO b (i+1)) _ hk rfl rfl ?_ ⟨ee,it,_,_,t,rfl,rfl,rfl,B,ho,Z⟩ hm;exact⟨_,[.int i tk,.int c'.toNat u],0,rfl,R.stat.size,hT,⟨V.int,V.int,trivial⟩⟩
end Internal
namespace Internal
open PySem PySem.W PyProof.Rows PySem.Calls Builtin
open PySem.AutoSeq1(wpAny_loadPart')
variable{W:Wd}
theorem au2{M:nx}{A:bT}{E:EP}{s:aO}{Q:Bool->aO->Prop}{b:Bool}(h:∀b,Q b s):wpAny M A (pure b) Q E s:=wpAny_pure (h b)
theorem vh(x:Array UInt8)(t:Tok):Meets (BC.«enumerate.__new__» ⟨[.type "enumerate",.bytes x t],[]⟩) (λι R s=>R (.ok (.ret (.ref (s.heap.push {cls:=.type "bytes_iterator",data:=.fields #[.bytes x t,.int 0 0]}).objs.size))) {s with heap:=(s.heap.push {cls:=.type "bytes_iterator",data:=.fields #[.bytes x t,.int 0 0]}).push {cls:=.type "enumerate",data:=.fields #[.none,.bool false,.ref s.heap.objs.size,ru 0,.none,.none]}}):=.of_wp λprog w A R s h=>by
   obtain⟨hp,g,d,tk,os⟩:=s;have hsub:=sub_enumerate;wp_walk;refine wpAny_stack_any λst=>au2 λb=>?_;rcases b with _|_<;>dsimp only;·wp_walk using uv;exact⟨_,rfl,h⟩
   ·wp_walk using uv;exact⟨_,rfl,h⟩
section
variable{prog:iS}{w:jH}{A:bT}{E:EP}{s:aO}
theorem u9(h:∀h',U7 h' (s.heap.objs.size+1) s.heap.objs.size 0 .none->i5 h' s.heap.objs.size x t 0->h'.objs.size=s.heap.objs.size+2->(∀b o,s.heap.get? b=some o->h'.get? b=some o)->Q (.ref (s.heap.objs.size+1)) {s with heap:=h'}):wpAny (bB prog w) A (call (.type "enumerate") [.bytes x t]) Q E s:=by
 refine callType_new F.called_enumerate (by decide) (F.typeCall_enumerate_1 _) (F.newCall_enumerate_1 _) (λobj=>wO obj _) F.entry_enumerate_new (vh x t) ?_;have hz:(s.heap.push {cls:=.type "bytes_iterator",data:=.fields #[.bytes x t,.int 0 0]}).objs.size=s.heap.objs.size+1:=nP ..;refine aC hz ?_;have he:U7 ((s.heap.push {cls:=.type "bytes_iterator",data:=.fields #[.bytes x t,.int 0 0]}).push {cls:=.type "enumerate",data:=.fields #[.none,.bool false,.ref s.heap.objs.size,ru 0,.none,.none]}) (s.heap.objs.size+1) s.heap.objs.size 0 .none:=by
  have:=aU (s.heap.push {cls:=.type "bytes_iterator",data:=.fields #[.bytes x t,.int 0 0]}) (o:={cls:=.type "enumerate",data:=.fields #[.none,.bool false,.ref s.heap.objs.size,ru 0,.none,.none]}) rfl;rw[hz]at this;exact this
 refine⟨⟨_,he,rfl⟩,h _ he ⟨_,aK _ (aU _ rfl),rfl,rfl⟩ (aC (nP _ _) (aC hz rfl)) λb o y=>aK _ (aK _ y)⟩
theorem qv(ho:s.heap.get? r=some o)(e:o.cls=.type n)(hn:["enumerate","zip","dict_itemiterator","dict_reverseitemiterator","odict_iterator","itertools.zip_longest","itertools.pairwise"].contains n=false)(h:Q () s):wpAny (bB prog w) A (El t (.ref r) u) Q E s:=by
 rcases t<;>first|exact wpAny_pure h|skip
 all_goals
  rcases u<;>first|exact wpAny_pure h|skip
  refine JZ ho (aC e ?_);cases hd:o.data<;>first|exact wpAny_pure h|skip
  dsimp only;exact aC hn (wpAny_pure h)
end
theorem Ld(h:(match isTup t with|true=>true|false=>false)=true):∃a b c,t=.Tuple a b c:=by rcases t<;>first|exact rR h|exact⟨_,_,_,rfl⟩
theorem Ez(x:HR W s.heap it as v u)(ht:uC t it=true)(h:∀h',(∀b o,b∉as->s.heap.get? b=some o->h'.get? b=some o)->rL W h' it as v->Q () {s with heap:=h'})(hI:∀b∈as,∀o,s.heap.get? b=some o->¬uk o):wpAny (bB prog W.w) A (El t v u) Q Ee s:=by clear hI;cases it with |items l i=> refine eC λJ=>lH (id x) λit t us n m B=>?_;obtain rfl:=m;refine qJ B λc lt g w hit=>?_;clear B;refine gA hit λo ho f c=>?_;clear hit;exact J (qv ho f (by decide) (h s.heap (λc c c e=>e) x))|octs l i=> refine dZ (id x) λit t L j hit=>?_;obtain rfl:=j;refine aC L (gA hit λo ho f c=>?_);clear hit;exact qv ho f (by decide) (h s.heap (λc c c e=>e) x)|list l i=> refine aY (id x) λit D Y=>?_;obtain rfl:=D;refine bX Y λk hit=>?_;clear Y;obtain rfl:=k;refine gA hit λo ho f c=>?_;clear hit;exact qv ho f (by decide) (h s.heap (λc c c e=>e) x)|rng l i=>exact gA (id x) λit L c hit=>aC L (qv hit rfl (by decide) (h s.heap (λc c c e=>e) x))|dvals l i n=> refine eC λJ=>aY (id x) λit H U=>?_;obtain rfl:=H;refine bX U λc hit=>?_;clear U;refine gA hit λo ho f c=>?_;clear hit;exact J (qv ho f (by decide) (h s.heap (λc c c e=>e) x))|enumL a i=> refine lH (id x) λe it y T C S=>?_;obtain rfl:=C;refine bX S λG R=>?_;clear S;obtain rfl:=G;refine bX R λE X=>?_;clear R;obtain rfl:=E;refine iR X λne he hit=>?_;clear X;refine eC λJ=>zb (Ld ht) λt1 t2 t3 I=>?_;obtain rfl:=I;refine J (F8 he λh' Z F=>h h' (λb o P e=>(F.2 b (λq=>P (by refine aC q ?_;simp))).trans e) ⟨e,it,y,rfl,rfl,ne,Z,?_⟩);refine aY hit λo ho r=>?_;clear hit;exact⟨o,(F.2 it (λq=>ne q.symm)).trans ho,r⟩|enumO b i=> refine Ah (id x) λe it y T tk O d=>?_;obtain rfl:=O;refine iR d λL p z=>?_;clear d;obtain rfl:=p;refine iR z λne he hit=>?_;clear z;refine aC L (zb (Ld ht) λt1 t2 t3 N=>?_);obtain rfl:=N;refine F8 he λh' Z F=>h h' (λb o P e=>(F.2 b (λq=>P (by refine aC q ?_;simp))).trans e) ⟨e,it,y,tk,rfl,rfl,ne,Z,?_⟩;refine aY hit λo ho r=>?_;clear hit;exact⟨o,(F.2 it (λq=>ne q.symm)).trans ho,r⟩
theorem Iy(x:rL W s.heap it as v)(h:Q v s):wpAny (bB prog W.w) A (vU v) Q Ee s:=by cases it with |items l i=>refine lH x λit t o n b f=>?_;clear x;obtain rfl:=b;refine bX f λY X=>?_;clear f;obtain rfl:=Y;refine s9 X λlt g w hit=>?_;clear X;exact wpAny_pyIter_tupleiter hit h|octs l i=>refine eJ x λit t k j=>?_;clear x;obtain rfl:=k;refine bX j λZ hit=>?_;clear j;obtain rfl:=Z;exact KBw.pyIter_self hit h|list l i=>refine aY x λit O H=>?_;clear x;obtain rfl:=O;refine bX H λD hit=>?_;clear H;obtain rfl:=D;exact wpAny_pyIter_listiter hit h|rng l i=>refine aY x λit m d=>?_;clear x;obtain rfl:=m;refine bX d λI hit=>?_;clear d;obtain rfl:=I;exact wpAny_pyIter_rangeiter hit h|dvals l i n=>refine aY x λit C z=>?_;clear x;obtain rfl:=C;refine bX z λN hit=>?_;clear z;obtain rfl:=N;exact wpAny_pyIter_valiter hit h|enumL a i=>refine gD x λe it y p G=>?_;clear x;obtain rfl:=p;refine bX G λu q=>?_;clear G;obtain rfl:=u;refine iR q λne he hit=>?_;clear q;exact BG he h|enumO a i=>refine lH x λe it y t E S=>?_;clear x;obtain rfl:=E;refine bX S λR B=>?_;clear S;obtain rfl:=R;refine iR B λne he hit=>?_;clear B;exact BG he h
theorem Nj(O:dM W)(R:jE W S s)(x:V W s.heap c v){K E}(hm:gE c K E S)(h:∀s' it as u,(∀b o,s.heap.get? b=some o->s'.heap.get? b=some o)->s'.gens=s.gens->s'.os=s.os->(∀b∈as,s.heap.get? b=none/\W.h₁.objs.size<=b)->rL W s'.heap it as u->K it S->Q u s'):wpAny (bB prog W.w) A (vU v) Q Ee s:=by
 have fr:∀b∈[s.heap.objs.size],s.heap.get? b=none/\W.h₁.objs.size<=b:=by intro b d;simp at d;subst d;exact⟨bL (bM _),R.stat.size⟩
 have N:∀{o:Obj}(b:Addr)(ob:Obj),s.heap.get? b=some ob->(s.heap.push o).get? b=some ob:=λb o e=>aK _ e;have C:∀{o:Obj},qn W s.heap (s.heap.push o):=λb o j e j=>N b o e;rcases c<;>first|exact hm.elim|skip
 ·skip;refine iK (n4 x) λt L=>aC L (uv (h {s with heap:=s.heap.push _} (.octs b 0) [s.heap.objs.size] _ N rfl rfl fr ⟨_,t,rfl,rfl,_,aU _ rfl,rfl,rfl⟩ hm))
 ·skip;refine qx (x8 x) λt q n L lt g w=>aC L (iter_tuple (items:=q.toArray) ⟨_,g,rfl,n,rfl⟩ (h {s with heap:=s.heap.push _} (.items l 0) [s.heap.objs.size] _ N rfl rfl fr ⟨_,t,q,n,rfl,rfl,lt,N _ _ g,w.keep C,_,aU _ rfl,rfl,rfl⟩ hm))
 · skip;revert hm;refineλi=>bX i λhz hm=>?_;clear i;refine lH x λj t u z k y=>?_;clear x;obtain rfl:=k;refine bX y λl hr=>?_;clear y;have hs:Bt 0 n 1=true:=by
     unfold Bt;have f:∀m:Int,m.natAbs<2^60->wH m=true:=by intro m hm;unfold wH;simp;exact aR6 hm
     simp[rz];refine⟨⟨⟨⟨f _ (by decide),f _ hz⟩,f _ (by decide)⟩,f _ ?_⟩,.inr (f _ hz)⟩;split;·exact hz
     ·decide
   refine wpAny_pyIter_range hr hs (h {s with heap:=s.heap.push _} (.rng 0 n) [s.heap.objs.size] _ N rfl rfl fr ⟨_,rfl,rfl,?_⟩ hm);have e:rz 0 n 1=(if 0<n then n-0 else 0):=by unfold rz;split<;>simp_all
   refine iZ (e) (aU _ rfl)
 · skip;revert hm;refineλi=>aY i λo e hm=>?_;clear i;refine gA x λr L P B=>?_;clear x;refine aC L ?_;cases o with |idict es=> refine aY ((R.rep _ _ e).2) λkvs D T=>?_;have hl:=T.length;refine wpAny_pyIter_values B (hl▸D) (h {s with heap:=s.heap.push _} (.dvals a 0 es.length) [s.heap.objs.size] _ N rfl rfl fr ⟨_,rfl,rfl,iZ hl ⟨_,aU _ rfl,rfl,rfl⟩⟩ hm)|_=>exact hm.elim
 · skip;have p:=gT x;subst p;refine eC λF=>?_;revert hm;refineλi=>aY i λo e hm=>?_;clear i;refine F ?_;cases o with |list l=>refine dZ (R.list e) λq n g w I=>wpAny_pyIter_list I (h {s with heap:=s.heap.push _} (.list a 0) [s.heap.objs.size] _ N rfl rfl fr ⟨_,rfl,rfl,_,aU _ rfl,rfl,rfl⟩ hm)|_=>exact hm.elim
end Internal
namespace Internal
open PySem PySem.W PyProof.Rows PySem.Calls
variable{W:Wd}
theorem fK.of(H:fK W A n env sc vs S s)(X:eH W P S s S' s')(E:iV W env sc vs' s'.heap):fK W A n env sc vs' S' s':=by exact eC λd=>aY H.eo.ns λm D a=>gD D λo es ep ho r=>d ⟨X.rel,E,X.dom _ o ho H.own,H.room,H.frs.ext X⟩
theorem fK.ofL(H:fK W A n env sc vs S s)(X:lY W Ps S s S' s')(E:iV W env sc vs' s'.heap):fK W A n env sc vs' S' s':=by exact eC λd=>aY H.eo.ns λm L a=>gD L λo es ep ho r=>d ⟨X.rel,E,X.dom _ o ho H.own,H.room,H.frs.extL X⟩
section
variable{n:Nat}{A:bT}{env:cD}{sc:dD}{vs:cN}{S:CS}{s:aO}
theorem sZ(O:dM W)(h:fK W A n env sc vs S s)(x:Str)(p:Pos)(y:V W s.heap c u):pX W (RE W env sc) (some env.locals) A (gK sc vs x c) (F9 (.Name x p) env u) S s:=by
 intro K E hm;exact oj (aC (arm_assign_Name _ _ _ _) rfl) (abt (aA (c_ (jB (aA (gS (xt O h.rel h.eo h.own y K E hm) (λa s' q=>jB q) λa a q=>q))))))
theorem qK(h:∀x p,e≠.Starred x p):nA (e::r) env=(false,F9 e env)::nA r env:=by rcases e<;>first|rfl|exact absurd rfl (h _ _)
theorem seE{vs:cN}{S:CS}{K:cN->CS->Prop}{E:KP}(h:lB sc (e::r) l vs K E S):∃x p a q,e=.Name x p/\l=a::q:=by rcases l with _|⟨a,q⟩<;>rcases e<;>first|exact h.elim|exact⟨_,_,_,_,rfl,rfl⟩
theorem R6(O:dM W):∀{es:List aI}{l:List CV}{t:List aP}{vs:cN}{S:CS}{s:aO},fK W A n env sc vs S s->Vs W s.heap l t->pX W (RE W env sc) (some env.locals) A (lB sc es l vs) (pG ((nA es env).map (·.2)) t) S s:=by intro es;induction es with
 |nil=>
   intro l t vs S s h w K E hm;rcases l with _|_
   · rcases t with _|_;·exact wpAny_pure ⟨vs,S,eH.refl h.rel,h.eo,hm⟩
     ·exact w.elim
   ·exact hm.elim|cons e r j=>
   intro l t vs S s h w K E hm;refine lH (seE hm) λx p a l Q B=>?_;obtain rfl:=Q;obtain rfl:=B;rcases t with _|⟨u,t⟩;·exact w.elim
   · refine eC λd=>?_;revert w;refineλg=>bX g λy w=>d (oj (aC (qK (by intro _ _ q;contradiction)) rfl) (aA (c_ (gS (sZ O h x p y _ _ hm) (λc s' q=>?_) λc c q=>q))));obtain⟨i,f,X,C,k⟩:=q;exact gS (j (h.of X C) (w.keep (X.immK h.rel (λb o q=>h.eo.notImm b o q))) K E k) (λc c q=>q.trans X) (λc c q=>q.trans X)
theorem EH{vs:cN}{S:CS}{K:cN->CS->Prop}{E}(hm:gK sc vs x c K E S):∃h b,K h b:=by
 unfold gK at hm;rcases e:uB sc.names x with _|q;·replace hm:=e▸hm;exact hm.elim
 · obtain⟨i,k⟩:=q;rw[e]at hm;clear e;rcases k<;>first|exact hm.elim|skip
   ·exact⟨_,_,hm⟩
   · dsimp only at hm;unfold vy at hm;rcases q:vs[i]? with _|w;·rw[q]at hm;exact hm.elim
     · rw[q]at hm;clear q;rcases w with _|w;·exact hm.elim
       · refine eC λd=>?_;rcases w<;>first|exact hm.elim|skip
         revert hm;refineλg=>aY g λo eo hm=>d ?_;clear d eo;rcases o<;>first|exact hm.elim|exact⟨_,_,hm⟩
theorem qN{K:cN->CS->Prop}{E}:∀{es:List aI}{l:List CV}{vs:cN}{S:CS},lB sc es l vs K E S->∀e∈es,∃x p,e=.Name x p:=by intro es;induction es with |nil=>exactλ_ _ h=>absurd h cG|cons e r j=>
  intro l vs S hm;refine lH (seE hm) λx p a l t T=>?_;obtain rfl:=t;obtain rfl:=T;refine sJ (EH hm) λi b hm=>?_;intro e he;rcases a_.mp he with rfl|he;·exact⟨x,p,rfl⟩
  ·exact j hm e he
theorem zB(J:∀e∈es,∃x p,e=.Name x p):(nA es env).length=es.length/\(nA es env).findIdx? (·.1)=none:=by induction es with |nil=>exact⟨rfl,rfl⟩|cons e r j=> refine sJ (J e bS) λx p L=>aC L (bX (j (λe he=>J e (.tail _ he))) λa b=>aC (qK (by intro _ _ q;contradiction)) ⟨by simp[a],aC (List.findIdx?_cons) ?_⟩);simp[b]
theorem FC(O:dM W)(h:fK W A n env sc vs S s)(es:List aI)(v:Nat)(p:Pos)(y:V W s.heap c u):pX W (RE W env sc) (some env.locals) A ((nM es.length c).bind λl=>lB sc es l vs) (F9 (.Tuple es v p) env u) S s:=by
 intro K E hm;rcases c<;>first|exact hm.elim|skip
 skip;refine eC λd=>?_;revert hm;refineλi=>bX i λhl hm=>gD (x8 y) λt r m k x=>?_;obtain rfl:=k;refine iR x λlt g w=>bX (zB (env:=env) (qN hm)) λa1 a2=>d ?_;have hz:(nA es env).length=r.toArray.size:=by have:=w.length;refine aC a1 (aC bC ?_);exact aD6 this hl
 refine assign_Tuple_tuple h.room.handled (items:=r.toArray) ⟨_,g,rfl,m,rfl⟩ hz a2 λh' eb=>?_;have X:=eO (s':={s with heap:=h'}) O h.rel (λb o e=>eb b o (eX (dT e)) e) rfl rfl;have:=R6 (s:={s with heap:=h'}) O (h.ext X) (w.ext h.rel X) K E hm;exact gS this (λa a q=>q.trans X.weak) λa a q=>q.trans X.weak
theorem HY(O:dM W)(h:fK W A n env sc vs S s)(t:aI)(y:V W s.heap c u):pX W (RE W env sc) (some env.locals) A (bindM sc t c vs) (F9 t env u) S s:=by
 rcases t<;>first|exactλK E hm=>hm.elim|skip
 ·exact sZ O h _ _ y
 ·exact FC O h _ _ _ y
end
end Internal
namespace Internal
set_option backward.match.sparseCases false
open PySem PySem.W PyProof.Rows PySem.Calls
variable{W:Wd}
noncomputable def EB(env:cD):List (Str×dW)->List (Str×Addr)->List (Str×Addr)|[],acc=>acc|(x,k)::r,acc=>EB env r (if k=.free then(x,(env.cells.lookup x).getD 0)::acc else acc)
theorem EI(hx:env.cells.lookup x=some c):∀{ns:List (Str×dW)}{acc:List (Str×Addr)},(∀y d,acc.lookup y=some d->env.cells.lookup y=some d)->(∀y,(y,gX)∈ns->∃d,env.cells.lookup y=some d)->((x,gX)∈ns\/acc.lookup x=some c)->(EB env ns acc).lookup x=some c:=by intro ns;induction ns with
 |nil=>
   intro acc _ _ h;rcases h with h|h;·exact absurd h cG
   ·exact h|cons a r j=>
   obtain⟨y,k⟩:=a;intro acc ha hn h;by_cases hk:k=.free
   · subst hk;refine iK (hn y bS) λd hd=>j (acc:=(y,_)::acc) (λz e hz=>?_) (λz hz=>hn z (.tail _ hz)) ?_
     · rw[eG]at hz;rcases q:z==y with _|_;·replace hz:=q▸hz;exact ha z e hz
       ·obtain rfl:=aE (q▸hz);refine aC (eq_of_beq q) (aC hd ?_);rfl
     · refine aC eG ?_;clear hd;rcases q:x==y with _|_
       · rcases h with h|h
         · rcases a_.mp h with h|h;·cases h;simp at q
           ·exact .inl h
         ·exact .inr h
       ·right;refine iZ (eq_of_beq q) (aC hx ?_);rfl
   · show(EB env r (if k=.free then(y,(env.cells.lookup y).getD 0)::acc else acc)).lookup x=some c;refine aC (if_neg hk) (j ha (λz hz=>hn z (.tail _ hz)) ?_);clear hx ha hn;rcases h with h|h
     · rcases a_.mp h with h|h;·cases h;exact absurd rfl hk
       ·exact .inl h
     ·exact .inr h
theorem B1(hn:∀y,(y,gX)∈scope.names->∃d,env.cells.lookup y=some d):closureFor scope env=pure (EB env scope.names []):=by
 have v:∀(ns:List (Str×dW))(acc:List (Str×Addr)),(∀y,(y,gX)∈ns->∃d,env.cells.lookup y=some d)->(forIn ns acc λx cs=>match x with|(name,kind)=>if(kind==.free)=true then(do let c<-cellOf env name;pure (iN ((name,c)::cs)))else pure (iN cs):Sem _)=pure (EB env ns acc):=by
   intro ns;induction ns with|nil=>intro acc _;rfl|cons a r j=>
     intro acc h;obtain⟨y,k⟩:=a;refine aC (h_ _ _ _ _) ?_;dsimp only;by_cases hk:k=.free
     · subst hk;refine iK (h y bS) λd hd=>?_;have e:cellOf env y=pure d:=by unfold cellOf;exact aC hd rfl
       refine aC (if_pos (by rfl)) (aC e ?_);simp only[pure_bind];refine aC (j _ (λz hz=>h z (.tail _ hz))) ?_;show _=pure (EB env r ((y,(env.cells.lookup y).getD 0)::acc));refine aC hd ?_;rfl
     · refine aC (if_neg (by simpa using hk)) ?_;simp only[pure_bind];refine aC (j _ (λz hz=>h z (.tail _ hz))) ?_;show _=pure (EB env r (if k=.free then(y,(env.cells.lookup y).getD 0)::acc else acc));exact aC (if_neg hk) rfl
 have:=v scope.names [] hn;show(forIn scope.names [] _>>=λcs=>pure cs)=_;exact aC (bind_pure _) this
theorem Il(X:iV W env sc vs h)(e:nE sc vs x=some (.ref c)):env.cells.lookup x=some c:=by
 unfold nE at e;rcases q:uB sc.names x with _|p;·exact iH (q▸e)
 · obtain⟨i,k⟩:=p;rw[q]at e;rcases k<;>first|(exact iH e;done)|skip
   all_goals
     dsimp only at e;refine X.cell x i _ c q ((by decide)) ?_;rcases r:vs[i]? with _|o;·exact iH (r▸e)
     ·rw[r]at e;exact congrArg some e
theorem ON:∀{ns:List (Str×dW)}{cells:List (Str×Addr)},B6 sc vs ns=some cells->(∀x,(x,gX)∈ns->∃c,nE sc vs x=some (.ref c))/\∀x c,dA x cells=some c->(x,gX)∈ns/\nE sc vs x=some (.ref c):=by intro ns;induction ns with|nil=>intro cells e;obtain rfl:=aE e;exact⟨λx h=>absurd h cG,λx c h=>by exact iH h⟩|cons p r j=>
   obtain⟨y,k⟩:=p;intro cells e;by_cases hk:k=.free
   · subst hk;have e:(match nE sc vs y with |some (.ref c)=>(B6 sc vs r).map λq=>(y,c)::q|_=>none)=some cells:=e;rcases f:nE sc vs y with _|o;·rw[f]at e;exact iH e
     · rw[f]at e;rcases o with _|_|_|_|_|_|_|_|c|_|_|_|_<;>first|exact iH e|skip
       rcases q:B6 sc vs r with _|w;·rw[q]at e;exact iH e
       · rw[q]at e;refine(aE e)▸(bX (j q) λa b=>⟨λx hx=>?_,λx d hx=>?_⟩)
         · rcases a_.mp hx with hx|hx;·cases hx;exact⟨c,f⟩
           ·exact a x hx
         · rcases z:qW x y with _|_;·rw[pA z]at hx;refine bX (b x d hx) λm p=>?_;exact⟨.tail _ m,p⟩
           ·rw[sm z]at hx;obtain rfl:=aE hx;refine aC (jW.mp z) ?_;exact⟨bS,f⟩
   · have e:B6 sc vs r=some cells:=by rcases k<;>first|exact e|exact absurd rfl hk
     refine bX (j e) λa b=>⟨λx hx=>?_,λx d hx=>?_⟩
     · rcases a_.mp hx with hx|hx;·cases hx;exact absurd rfl hk
       ·exact a x hx
     ·refine bX (b x d hx) λm p=>?_;exact⟨.tail _ m,p⟩
theorem Al(X:iV W env sc vs h)(e:B6 sc vs scope.names=some cells):∃cl,closureFor scope env=pure cl/\(∀x c,dA x cells=some c->cl.lookup x=some c)/\∀x c,(x,gX)∈scope.names->nE sc vs x=some (.ref c)->cl.lookup x=some c:=by
 refine bX (ON e) λa b=>?_;have hn:∀y,(y,gX)∈scope.names->∃d,env.cells.lookup y=some d:=λy hy=>by refine iK (a y hy) λc f=>?_;exact⟨c,Il X f⟩
 have look:∀x c,(x,gX)∈scope.names->nE sc vs x=some (.ref c)->(EB env scope.names []).lookup x=some c:=λx c hx f=>EI (Il X f) (λy d h=>by exact iH h) hn (.inl hx);exact⟨_,B1 hn,λx c hx=>look x c (b x c hx).1 (b x c hx).2,look⟩
theorem zd:∀{ns:List (Str×dW)}{i:Nat}{x:Str}{k:dW},ns[i]?=some (x,k)->(rh sc vs ns)[i]?=some (if k=.free then nE sc vs x else none):=by intro ns;induction ns with |nil=>intro i x k e;exact iH e|cons a r j=>
   obtain⟨y,F⟩:=a;intro i x k e;rcases i with _|i
   · refine bX (Prod.mk.inj (aE e)) λe1 n=>?_;subst e1 n;rcases F<;>rfl
   · have:=j (i:=i) (x:=x) (k:=k) e;rcases F<;>exact this
theorem UU(h:DO sc=true):sc.kind=.function/\∀x∈sc.names,x.2=.local->sc.names.lookup x.1=some .local:=by
 unfold DO at h;simp only[bP]at h;refine bX h λh1 h2=>?_;clear h;refine⟨by rcases e:sc.kind<;>first|rfl|(rw[e]at h1;exact rR h1),?_⟩;have go:∀ns:List (Str×dW),tj sc.names ns=true->∀x∈ns,x.2=.local->sc.names.lookup x.1=some .local:=by intro ns;induction ns with|nil=>simp|cons a r l=>
     obtain⟨y,k⟩:=a;intro h x hx hl;by_cases hk:k=.local
     · subst hk;have h:=dR.mp (h:((match uB sc.names y with|some (_,.local)=>true|_=>false)&&tj sc.names r)=true);rcases a_.mp hx with rfl|hx
       · have h1:=h.1;rcases q:uB sc.names y with _|⟨j,i⟩;·rw[q]at h1;exact rR h1
         · rw[q]at h1;rcases i<;>first|exact rR h1|exact idx_lookup q
       ·exact l h.2 x hx hl
     · have h':tj sc.names r=true:=by rcases k<;>first|exact h|exact absurd rfl hk
       rcases a_.mp hx with rfl|hx;·exact absurd hl hk
       ·exact l h' x hx hl
 exact go _ h2
theorem HN(h:oA ns=true):∀x∈ns,x.2≠.cell:=by induction ns with|nil=>simp|cons a r j=>
  obtain⟨y,k⟩:=a;intro x hx;have hr:oA r=true/\k≠.cell:=by rcases k<;>first|exact rR h|exact⟨h,nofun⟩
  rcases a_.mp hx with rfl|hx;·exact hr.2
  ·exact j hr.1 x hx
theorem Be(h:scope.names.lookup x=some k):(relabel scope env).names.lookup x=some k\/(k=.free/\(relabel scope env).names.lookup x=some .cell):=by
 have go:∀ns:List (Str×dW),ns.lookup x=some k->(ns.map λ(n,k)=>if(k==gX&&env.scope.kind==.function&&env.kindOf n==some .cell)then(n,lK)else(n,k)).lookup x=some k\/(k=.free/\(ns.map λ(n,k)=>if(k==gX&&env.scope.kind==.function&&env.kindOf n==some .cell)then(n,lK)else(n,k)).lookup x=some .cell):=by
   intro ns;induction ns with |nil=>simp|cons a r j=>
     obtain⟨y,F⟩:=a;intro h;replace h:=eG.symm.trans h;simp only[fH];rcases q:x==y with _|_
     · rw[q]at h;have:=j h;by_cases hc:(F==gX&&env.scope.kind==.function&&env.kindOf y==some .cell)=true;·refine aC (if_pos hc) ?_;simp only[eG,q];exact this
       ·refine aC (if_neg hc) ?_;simp only[eG,q];exact this
     · rw[q]at h;cases h;by_cases hc:(k==gX&&env.scope.kind==.function&&env.kindOf y==some .cell)=true
       · right;refine aC (if_pos hc) ?_;simp only[bP,beq_iff_eq]at hc;exact⟨hc.1.1,aC eG (aC q rfl)⟩
       ·left;exact aC (if_neg hc) (aC eG (aC q rfl))
 exact go _ h
theorem Ju(e:∀x∈scope.names,x.2≠.cell):qE scope env.globals cl [] env.qual none .none (some env)=(do let L<-alloc {cls:=.type "dict",data:=.dict #[]};pure {tD scope cl L env with scope:=scope}):=by
 dsimp only[qE,Option.isSome_some,if_true];congr 1;funext L;rw[aA4 cl (λx hx c=>by
   obtain⟨name,kind⟩:=x;have:(kind==lK)=false:=by simpa using e _ hx
   simp only[this,iB,if_false])];rfl
noncomputable def Sub(vs vs':cN):Prop:=∀(i:Nat)(v:CV),vs[i]?=some (some v)->vs'[i]?=some (some v)
theorem iV.sub(X:iV W env sc vs' h)(s:Sub vs vs'):iV W env sc vs h:=⟨X.kind,X.glob,X.blt,X.n1,by refine aY X.ns λm n r=>?_;exact⟨m,n,λx i v e f=>r x i v e (s i v f)⟩,λx i k c e hk f=>X.cell x i k c e hk (s i _ f),X.kinds,X.lam⟩
theorem TF(s:Sub vs₀ vs)(h:∀v,vs₀[i]?≠some (some v)):Sub vs₀ (vs.set i (some c)):=λj v e=>by
 have:=s j v e;by_cases q:i=j;·subst q;exact absurd e (h v)
 ·refine aC (jJ q) ?_;exact this
theorem HL(h:yL sc x vs=true):∃i,uB sc.names x=some (i,.local)/\∀v,vs[i]?≠some (some v):=by
 unfold yL at h;rcases e:uB sc.names x with _|⟨i,k⟩;·rw[e]at h;exact rR h
 · rw[e]at h;rcases k<;>first|exact rR h|skip
   refine⟨i,rfl,λv q=>?_⟩;have h:(match vs[i]? with|some (some _)=>false|_=>true)=true:=h;rw[q]at h;exact rR h
theorem Ba{o vs:cN}{K:cN->CS->Prop}{E S}(h:yL sc x o=true)(s:Sub o vs)(hm:gK sc vs x c K E S):gK sc vs x c (λj b=>K j b/\Sub o j) E S:=by
 refine aY (HL h) λi e hi=>?_;unfold gK at hm|-;rw[e]at hm|-;exact⟨hm,TF s hi⟩
theorem Ks{sc:dD}{o:cN}{K:cN->CS->Prop}{E}:∀{es:List aI}{l:List CV}{vs:cN}{S:CS},(es.all λe=>match e with|.Name x _=>yL sc x o|_=>false)=true->Sub o vs->lB sc es l vs K E S->lB sc es l vs (λj b=>K j b/\Sub o j) E S:=by
 intro es;induction es with
 |nil=>
  intro l vs S _ s hm;rcases l with _|_;·exact⟨hm,s⟩
  ·exact hm.elim|cons e r m=> intro l vs S h s hm;refine lH (seE hm) λx p a l k y=>?_;obtain rfl:=k;obtain rfl:=y;rw[wM,bP]at h;have:=Ba h.1 s hm;refine aY (HL h.1) λi e hi=>?_;show gK sc vs x a (λj b=>lB sc r l j _ E b) E S;unfold gK at this|-;rw[e]at this|-;exact m h.2 this.2 this.1
theorem Mf{vs:cN}{K:cN->CS->Prop}{E S}(h:GA sc t vs=true)(hm:bindM sc t c vs K E S):bindM sc t c vs (λvs' S'=>K vs' S'/\Sub vs vs') E S:=by
 rcases t<;>first|exact hm.elim|skip
 ·exact Ba h (λι ι e=>e) hm
 · revert elts k pos;intro es x0 p h hm;rcases c<;>first|exact hm.elim|skip
   exact⟨hm.1,Ks h (λι ι e=>e) hm.2⟩
end Internal
namespace Internal
open PySem PySem.W PyProof.Rows PySem.Calls
variable{W:Wd}
noncomputable def xg(elt:aI)(gens:List mL)(scope:dD)(pos:Pos)(d:Nat)(it acc:aP)(env:cD):Sem Fin:=match gens[d+1]? with
 |some g'=>do
  let x<-eval g'.iter env
  mY g'.iter.pos let x<-if g'.is_async !=0 then aA5 g'.iter x else BH g'.iter env x
  let _<-J7 (.compStart (.ListComp elt gens scope pos) (d+1) (<-lV [x] (if g'.is_async !=0 then asyncIter x else vU x)) acc env) env
  again (.compLoop (.ListComp elt gens scope pos) d it acc env)|none=>do (do let _<-call (.builtin "list.append") [acc,<-eval elt env];pure ())again (.compLoop (.ListComp elt gens scope pos) d it acc env)
noncomputable def rJ(ifs:List aI)(env:cD):Sem Bool:=forIn ifs true λc r=>if r=true then do let ok<-xZ c env (eval c env);pure (iN ok)else pure (iN r)
theorem JB(hg:gens[d]?=some ⟨t,iter,ifs,0⟩):compTurn (.ListComp elt gens scope pos) d it acc env=(mY iter.pos>>=λa=>pyNext it>>=λr=>match r with |none=>pure (.done .next)|some v=>El t it v>>=λa=>F9 t env v>>=λa=>rJ ifs env>>=λok=>(if ok=true then xg elt gens scope pos d it acc env else again (.compLoop (.ListComp elt gens scope pos) d it acc env))):=by delta compTurn xg rJ;dsimp only;refine aC hg ?_;rfl
noncomputable def oS(W:Wd)(a:Addr)(l:List CV)(S:CS)(h:Heap):Prop:=S a=none/\W.h₁.objs.size<=a/\∃us m,h.get? a=some (q8 us m)/\Vs W h l us
theorem oS.notImm(x:oS W a l S h):∀o,h.get? a=some o->¬uk o/\o.cls≠.type "frame":=by
 refine tG x λb b p m g b=>?_;clear x;intro o e;refine iZ ((aE (g.symm.trans e))) ?_;simp[uk,q8]
theorem oS.extL(x:oS W a l S s.heap)(R:jE W S s)(X:lY W Ps S s S' s')(ha:a∉Ps)(T:∀b∈Ps,∀o,s.heap.get? b=some o->¬uk o):oS W a l S' s'.heap:=by
 have v:=x.notImm;refine tG x λh1 h2 p m g w=>?_;clear x;exact⟨X.dom a _ g h1,h2,p,m,(X.keep a _ h2 g h1 ha).eq (v _ g).2,w.keep (X.imm R T)⟩
theorem oS.keep(x:oS W a l S h)(k:∀o,h.get? a=some o->h'.get? a=some o)(r:qn W h h'):oS W a l S h':=by refine tG x λh1 h2 p m g w=>?_;clear x;exact⟨h1,h2,p,m,k _ g,w.keep r⟩
noncomputable def GR(W:Wd)(a:Addr)(cenv:cD)(lsc:dD)(vs:cN)(S:CS)(s:aO)(K:List CV->CS->Prop)(s':aO):Prop:=∃l' S',lY W [a,cenv.locals] S s S' s'/\(iV W cenv lsc vs s'.heap/\S' cenv.locals=none)/\oS W a l' S' s'.heap/\K l' S'
section
variable{cl:fW}{n k:Nat}{A:bT}{cenv:cD}{lsc:dD}{vs:cN}{S:CS}{s:aO}{a:Addr}{l:List CV}
theorem tN(h:fK W A n cenv lsc vs S s):∀o,s.heap.get? cenv.locals=some o->¬uk o:=λo e=>h.eo.notImm _ o rfl e
theorem PR(h:fK W A n cenv lsc vs S s)(x:oS W a l S s.heap):∀b∈[a,cenv.locals],∀o,s.heap.get? b=some o->¬uk o:=by
 intro b c o e;simp at c;rcases c with rfl|rfl;·exact(x.notImm o e).1
 ·exact tN h o e
theorem yX:∀n:List aI,(forIn n false λc r=>if r=true then do let ok<-xZ c env (eval c env);pure (iN ok)else pure (iN r):Sem Bool)=pure false|[]=>rfl|e::r=>by refine aC (h_ _ _ _ _) ?_;exact yX r
theorem Lj:∀{k:Nat},(∀j,j<=k->rS W cl n j)->∀{o:List aI}{S:CS}{s:aO},fK W A n cenv lsc vs S s->dC W RB none A (ui cl k lsc .And o vs) (rJ o cenv) S s:=by intro k;induction k with |zero=>exactλ_ _ _ _ _=>dC.fail|succ k l=>
  intro I o S s h;rcases o with _|⟨e,r⟩;·exact gY h.rel rfl
  have m:rJ (e::r) cenv=(xZ e cenv (eval e cenv)>>=λok=>forIn r ok λc r=>if r=true then do let ok<-xZ c cenv (eval c cenv);pure (iN ok)else pure (iN r)):=by
   unfold rJ;refine aC (h_ _ _ _ _) ?_;simp
  refine aC m ?_;show dC W RB none A ((sL cl k lsc e vs).bind λt=>wV t (ui cl k lsc .And r vs) (.pure false)) _ S s;refine dC.bind ((I k (m_ k)).t e h) λt u z H C q=>?_;subst q;refine dC.br (λq=>?_) λq=>?_;·subst q;exact l (λj hj=>I j (jU hj)) (h.ext C)
  ·subst q;refine aC (yX _) ?_;exact gY (h.ext C).rel rfl
theorem Q2(O:dM W)(I:rS W cl n k){e:aI}(h:fK W A n cenv lsc vs S s)(x:oS W a l S s.heap){K:List CV->CS->Prop}(hm:((eP cl k lsc e vs).bind λv=>(gd (bN l.length)).bind λf=>jR (l++[v])) K (λf f=>False) S){Ee:EP}:iQ (bB prog W.w) A (do let _<-call (.builtin "list.append") [.ref a,<-eval e cenv];pure ()) (λf s'=>GR W a cenv lsc vs S s K s') Ee s:=by
 refine aL ((I.e e h).calm (eH.refl h.rel) hm λc u B H f X y hm=>eC λF=>?_);revert hm;refineλj=>bX j λhz hm=>?_;have h1:=h.ext X;refine tG ((x.extL h.rel (X.l0 (Ps:=[])) (by simp) (by simp))) λP z p m g w=>F (aL (cQ (vS af3 (T:="list") ⟨_,g,rfl⟩ ac8 (af4 _ _) (JR a p.toArray m u (by refine aC bC (aC w.length ?_);exact kB hz)) ⟨g,?_⟩)));have q:=sA (n:=m) (items:=p.toArray) g (λd=>d.push u);have D:p.toArray.push u=(p++[u]).toArray:=by simp
 rw[D]at q;have C:=oS.notImm (W:=W) ⟨P,z,p,m,g,w⟩;have Y:eH W (some a) B H B {H with heap:=H.heap.update a (fF λd=>d.push u)}:=eH.at O h1.rel P z (λbb ob i e=>(bY _ _ (eY i)).trans e:∀bb ob,bb≠a->H.heap.get? bb=some ob->(H.heap.update a (fF λd=>d.push u)).get? bb=some ob) (λo e=>(C o e).1) (λo e=>by obtain rfl:=aE (g.symm.trans e);exact⟨_,q,rfl,λf vs e=>by contradiction⟩) rfl rfl;have r:qn W H.heap (H.heap.update a (fF λd=>d.push u)):=Y.immK h1.rel λb o E e=>by obtain rfl:=aE E;exact(C o e).1
 have t:cenv.locals≠a:=by
  rintro rfl;refine aY h1.eo.ns λU N f=>qi N λo es ep ho hd f=>?_;obtain rfl:=aE (g.symm.trans ho);contradiction
 refine aW ⟨l++[c],B,(X.l0).trans (Y.toL (by simp)),⟨h1.eo.keep r λo e=>.inl ((λbb ob i e=>(bY _ _ (eY i)).trans e:∀bb ob,bb≠a->H.heap.get? bb=some ob->(H.heap.update a (fF λd=>d.push u)).get? bb=some ob) _ o t e),h1.own⟩,⟨P,z,_,_,q,(w.keep r).append (Vs.one (y.keep r))⟩,hm⟩
end
end Internal
namespace Internal
open PySem PySem.W PyProof.Rows PySem.Calls
variable{W:Wd}
theorem Bl{K:Option (CV×It)->CS->Prop}{E S}(hm:uf it K E S):uf it (λr f=>K r f/\∀c X,r=some (c,X)->uC t X=uC t it) E S:=by
 have q:∀{it X:It}{c w:CV}{W:It},(uC t X=uC t it)->some (c,X)=some (w,W)->uC t W=uC t it:=by
   intro it X c w W h e;cases e;exact h
 have H:∀{it:It}{w:CV}{W:It},(none:Option (CV×It))=some (w,W)->uC t W=uC t it:=λe=>iH e;rcases it<;>unfold uf at hm|-<;>dsimp only at hm|-
 · skip;cases e:l[i]?<;>rw[e]at hm;·exact⟨hm,λa a=>H⟩
   ·exact⟨hm,λa a=>q rfl⟩
 · revert b;intro l hm;cases e:l[i]?<;>rw[e]at hm;·exact⟨hm,λa a=>H⟩
   ·exact⟨hm,λa a=>q rfl⟩
 · revert hm;refineλg=>aY g λo e hm=>⟨o,e,?_⟩;cases o with
   |list l=>
     skip;dsimp only at hm|-;cases e:l[i]?<;>rw[e]at hm;·exact⟨hm,λa a=>H⟩
     ·exact⟨hm,λa a=>q rfl⟩|_=>exact hm.elim
 · skip;cases e:decide (i<n)<;>replace hm:=e▸hm;·exact⟨hm,λa a=>H⟩
   ·exact⟨hm,λa a=>q rfl⟩
 · refine eC λd=>?_;revert hm;refineλg=>aY g λo e hm=>d ⟨o,e,?_⟩;cases o with
   |idict es=>
     skip;revert hm;refineλg=>bX g λh1 hm=>⟨h1,?_⟩;dsimp only at hm|-;cases e:es[i]?<;>rw[e]at hm;·exact⟨hm,λa a=>H⟩
     ·exact⟨hm,λa a=>q rfl⟩|_=>exact hm.elim
 · revert hm;refineλg=>aY g λo e hm=>⟨o,e,?_⟩;cases o with
   |list l=>
     skip;dsimp only at hm|-;cases e:l[i]?<;>rw[e]at hm;·exact⟨hm,λa a=>H⟩
     ·exact⟨hm,λa a=>q rfl⟩|_=>exact hm.elim
 · revert b;intro l hm;cases e:l[i]?<;>rw[e]at hm;·exact⟨hm,λa a=>H⟩
   ·exact⟨hm,λa a=>q rfl⟩
section
variable{n:Nat}{A:bT}{env:cD}{sc:dD}{vs:cN}{S:CS}{s s':aO}{as:List Addr}
theorem fK.but(h:fK W A n env sc vs S s)(R:jE W S s')(k:∀b o,b∉as->s.heap.get? b=some o->s'.heap.get? b=some o)(hi:∀b∈as,∀o,s.heap.get? b=some o->¬uk o/\o.cls≠.type "frame")(j:env.locals∉as):fK W A n env sc vs S s':=by exact⟨R,h.eo.keep (λb o a e i=>k b o (λq=>(hi b q o e).1 i) e) λo e=>.inl (k _ o j e),h.own,h.room,aY h.frs λl hl F=>⟨l,hl,λC he=>jT (F C he) λhk L o hf h1 G hg f hd=>⟨hk,L,o,hf,h1,G,k L o (λq=>(hi L q o hg).2 f) hg,f,hd⟩⟩⟩
end
section
variable{cl:fW}{n k:Nat}{A:bT}{cenv:cD}{lsc:dD}{a:Addr}
noncomputable def Mr(W:Wd)(a:Addr)(cenv:cD)(lsc:dD)(vs:cN)(S:CS)(s:aO)(K:List CV->CS->Prop):oO->aO->Prop:=λr s'=>match r with|.ok _=>GR W a cenv lsc vs S s K s'|.error _=>False
noncomputable def ti(elt:aI)(gens:List mL)(scope:dD)(pos:Pos)(d:Nat)(acc:aP)(env:cD):Sem Unit:=match gens[d]? with
 |some g'=>do
  let x<-eval g'.iter env
  mY g'.iter.pos let x<-if g'.is_async !=0 then aA5 g'.iter x else BH g'.iter env x
  let _<-J7 (.compStart (.ListComp elt gens scope pos) d (<-lV [x] (if g'.is_async !=0 then asyncIter x else vU x)) acc env) env
  pure ()|none=>do let _<-call (.builtin "list.append") [acc,<-eval elt env];pure ()
theorem BM:xg elt gens scope pos d it acc env=(ti elt gens scope pos (d+1) acc env>>=λa=>again (.compLoop (.ListComp elt gens scope pos) d it acc env)):=by
 delta xg ti;rcases gens[d+1]? with _|g';·rfl
 · dsimp only;cases hq:(g'.is_async !=0)<;>simp[bind_assoc]
theorem Ci(O:dM W){elt:aI}{gens:List mL}{scope:dD}{pos:Pos}{d:Nat}{t iter:aI}{L:List aI}{vs:cN}{r:cN->List CV->M (List CV)}{S₀:CS}{s₀:aO}(hg:gens[d]?=some ⟨t,iter,L,0⟩)(I:∀j,j<=k->rS W cl n j)(G:∀{l:List CV}{p:cN}{S:CS}{s:aO}{K:List CV->CS->Prop}{Ee:EP},fK W A n cenv lsc p S s->oS W a l S s.heap->r p l K (λy y=>False) S->iQ (bB prog W.w) A (ti elt gens scope pos (d+1) (.ref a) cenv) (λy s'=>GR W a cenv lsc p S s K s') Ee s)(e0:GA lsc t vs=true):∀(j:Nat){it:It}{as:List Addr}{v:aP}{l:List CV}{S:CS}{s:aO}{K:List CV->CS->Prop},fK W A n cenv lsc vs S s->oS W a l S s.heap->rL W s.heap it as v->Z1 W s₀ S as->(∀b∈as,b≠a/\b≠cenv.locals)->lY W [a,cenv.locals] S₀ s₀ S s->uC t it=true->Et (λv acc=>(bindM lsc t v vs).bind λp=>(ui cl k lsc .And L p).bind λz=>wV z (r p acc) (.pure acc)) j it l K (λy y=>False) S->mU (bB prog W.w) A (.compLoop (.ListComp elt gens scope pos) d v (.ref a) cenv) (Mr W a cenv lsc vs S₀ s₀ K) s:=by
 intro j;induction j with|zero=>intro it as v l S s K _ _ _ _ _ _ _ hm;exact hm.elim|succ j ih=>
   intro it as v l S s K h x hit own B X P hm;refine gV (aC (iO rfl rfl) (jZ (zw (JB hg) ?_)));have hi:∀b∈as,∀o,s.heap.get? b=some o->¬uk o/\o.cls≠.type "frame":=λb f o e=>by refine aY (hit.objs b f) λo' e' q=>?_;obtain rfl:=aE (e'.symm.trans e);exact q
   refine aL (fJ (aL (cQ (HW O h.room.handled h.rel hit (λb f=>⟨(own.own b f).2.1,(own.own b f).2.2⟩) (Bl (t:=t) hm) ?_ ?_))))
   · intro s' J E F hK;have X':=lY.own O X own.own (λb f o e=>(hi b f o e).1) J E F;exact aW ⟨l,S,X',⟨(h.but X'.rel J hi (λq=>(B _ q).2 rfl)).eo,(h.but X'.rel J hi (λq=>(B _ q).2 rfl)).own⟩,x.keep (λo=>J a o (λq=>(B _ q).1 rfl)) (λb o y e i=>J b o (λq=>(hi b q o e).1 i) e),hK.1⟩
   · intro H c T u J E F hv D hK;refine bX hK λe4 R=>?_;clear hK;have N:∀b∈as,∀o,H.heap.get? b=some o->¬uk o:=λb f o e=>by refine aY (D.objs b f) λo' e' q=>?_;obtain rfl:=aE (e'.symm.trans e);exact q.1
     refine aL (cQ (Ez D ((R c T rfl).trans P) (λh2 Q Z=>?_) N));have C:∀b o,b∉as->s.heap.get? b=some o->h2.get? b=some o:=λb o f e=>Q b o f (J b o f e);have X2:lY W [a,cenv.locals] S₀ s₀ S {H with heap:=h2}:=lY.own O X own.own (λb f o e=>(hi b f o e).1) C E F;have w:fK W A n cenv lsc vs S {H with heap:=h2}:=h.but X2.rel C hi (λq=>(B _ q).2 rfl);have U:oS W a l S h2:=x.keep (λo=>C a o (λq=>(B _ q).1 rfl)) (λb o y e i=>C b o (λq=>(hi b q o e).1 i) e);have fin:∀{l':List CV}{p:cN}{S':CS}{s':aO},lY W [a,cenv.locals] S {H with heap:=h2} S' s'->iV W cenv lsc p s'.heap->Sub vs p->oS W a l' S' s'.heap->Et (λv acc=>(bindM lsc t v vs).bind λp=>(ui cl k lsc .And L p).bind λz=>wV z (r p acc) (.pure acc)) j T l' K (λy y=>False) S'->∀{Ee:EP},iQ (bB prog W.w) A (again (.compLoop (.ListComp elt gens scope pos) d v (.ref a) cenv)) (qI (bB prog W.w) A (Mr W a cenv lsc vs S₀ s₀ K)) Ee s':=by
       intro l' p S' s' Y e' sb x' e9 Ee;refine aW (⟨rfl,rfl,ih (w.ofL Y (e'.sub sb)) x' (rL.extL (s:={H with heap:=h2}) Z w.rel Y (PR w U) (λb f=>⟨(own.own b f).2.1,(own.own b f).2.2,by simp;exact B b f⟩)) ⟨λb f=>⟨(own.own b f).1,aY (Z.objs b f) λo eo y=>?_,(own.own b f).2.2⟩⟩ B (X2.trans Y) ((R c T rfl).trans P) e9⟩);exact Y.dom b o eo (own.own b f).2.1
     refine aL (cV (cQ (HY (s:={H with heap:=h2}) O w t (hv.keep (λb o y e i=>Q b o (λq=>N b q o e i) e)) _ _ (Mf e0 e4))) (λy s3 q=>?_) λ_ _⟨_,_,_,_,q⟩=>q.elim);obtain⟨p,S3,X3,e3,e6,sb⟩:=q;have h3:fK W A n cenv lsc p S3 s3:=w.of X3 e3;have Y3:lY W [a,cenv.locals] S {H with heap:=h2} S3 s3:=X3.toL (by simp);have e2:a≠cenv.locals:=by
       clear O hg e0 ih h x hit own B X P hm hi J E F hv D e4 R N Q Z C X2 e3;rintro rfl;refine tG U λy y us m g y=>?_;clear U;refine aY w.eo.ns λm' e7 y=>qi e7 λo es ep ho hd y=>?_;obtain rfl:=aE (g.symm.trans ho);contradiction
     refine aL ((Lj I h3).calm (eH.refl h3.rel) e6 λz z' S4 s4 y X4 q c5=>?_);subst q;have Y4:lY W [a,cenv.locals] S {H with heap:=h2} S4 s4:=Y3.trans X4.l0;rcases z' with _|_;·exact fin Y4 (h3.ext X4).eo sb ((oS.extL (s:={H with heap:=h2}) U w.rel (X3.toL (Ps:=[cenv.locals]) (by simp)) (by simpa using e2) (by intro b f;simp at f;subst f;exact tN w)).extL h3.rel (X4.l0 (Ps:=[])) (by simp) (by simp)) (c5.2 rfl)
     · refine zw BM (aL (cV (G (h3.ext X4) ((oS.extL (s:={H with heap:=h2}) U w.rel (X3.toL (Ps:=[cenv.locals]) (by simp)) (by simpa using e2) (by intro b f;simp at f;subst f;exact tN w)).extL h3.rel (X4.l0 (Ps:=[])) (by simp) (by simp)) (c5.1 rfl)) (λy s5 q=>rd q λl5 S5 Y5 e5 x5 e8=>?_) λy y q=>q));clear q;exact fin (Y4.trans Y5) e5.1 sb x5 e8
end
end Internal
namespace Internal
set_option backward.match.sparseCases false
open PySem PySem.W PyProof.Rows PySem.Calls
variable{W:Wd}
theorem yJ(h:∀a b c,e≠.Set a b c):BH e env x=pure x:=by rcases e<;>first|rfl|exact absurd rfl (h _ _ _)
theorem KR(hg:gens[d]?=some ⟨t,iter,ifs,0⟩)(self:∀{Q:EP}{E:EP},Q v s->wpAny (bB prog w) A (vU v) Q E s)(h:mU (bB prog w) A (.compLoop (.ListComp elt gens scope pos) d v acc env) R s):mU (bB prog w) A (.compStart (.ListComp elt gens scope pos) d v acc env) R s:=by
 refine gV (aC (iO rfl rfl) (jZ ?_));unfold compStart;have e:clausesOf (.ListComp elt gens scope pos)=gens:=rfl;refine zw (aC e (aC hg rfl)) ?_;have fin:∀{E:EP},iQ (bB prog w) A (again (.compLoop (.ListComp elt gens scope pos) d v acc env)) (qI (bB prog w) A R) E s:=by intro E;exact aW ⟨rfl,rfl,h⟩
 refine bF (wpAny_askSetting (Rx ?_));split;·first |exact aL (cV fin (λa a q=>aW q) λa a q=>q)|exact fin
 ·exact bF (i7 (aL (fJ (bF (self fin)))))
section
variable{n k:Nat}{A:bT}{env:cD}{sc:dD}{vs:cN}{S:CS}{s:aO}
theorem ai0{v:CV}{K:It->CS->Prop}{E:KP}(h:((gE v).bind tJ) K E S){P:CV->Prop}(h1:∀b,K (.enumO b 0) S->P (.bytes b))(h2:∀a l,S a=some (.list l)->K (.enumL a 0) S->P (.ref a)):P v:=by
 rcases v<;>first|exact h.elim|exact h1 _ h|skip
 ·revert h;refineλg=>bX g λc h=>?_;clear g;exact h.elim
 ·obtain⟨o,_,h⟩:=h;rcases o<;>exact h.elim
 ·obtain⟨o,e,h⟩:=h;rcases o<;>first|exact h.elim|exact h2 _ _ e h
theorem aI2{P:aI->Prop}{e:aI}{q:Str×aI}(h:enE e=some q)(k:∀B j,P (.Call (.Name q.1 B) [q.2] [] j)):P e:=by
 refine ai8 h λg as U p h1=>Zu (P:=λg=>P (.Call g as U p)) h1 λy F h2=>aY (MG h2) λa n h3=>bX (MH h3) λI h5=>?_;subst n I;obtain rfl:=aE h5;exact k _ _
theorem aF6{K:It->CS->Prop}{E:KP}(h:enS t q a b K E S):b K E S\/(t=true/\(∃i,q=some (i,.globalImplicit))/\a K E S):=by
 rcases t with _|_;·exact .inl h
 · rcases q with _|⟨i,k⟩;·exact h.elim
   ·rcases k<;>first|exact fA h|exact .inr ⟨rfl,⟨_,rfl⟩,h⟩
theorem HI(O:dM W)(O2:jD W)(O3:n8 W)(C:qO W (aM n) n)(I:rS W (aM n) n k)(e:aI)(h:fK W A n env sc vs S s){K E}(hm:Aw (aM n) (k+1) sc e vs K E S)(T:∀x s',Qe W none S s E x s'->Ee x s')(hQ:∀it as v f s',eH W none S s f s'->rL W s'.heap it as v->Z1 W s f as->K it f->Q v s'):iQ (bB prog W.w) A (eval e env) (λx s₁=>iQ (bB prog W.w) A (vU x) Q Ee s₁) Ee s:=by
 have fin:∀{c:CV}{v:aP}{D:CS}{J:aO}{Y:It->CS->Prop},eH W none S s D J->V W J.heap c v->gE c Y E D->(∀it S,Y it S->K it S)->iQ (bB prog W.w) A (vU v) Q Ee J:=by
   intro c v D J Y X y hm hk;refine cQ (Nj O X.rel y hm λH it as u j hg ho fr hit hK=>hQ it as u D H (X.trans (eO O X.rel j hg ho)) hit ⟨λb d=>⟨?_,X.rel.none_ (fr b d).1,(fr b d).2⟩⟩ (hk _ _ hK));rcases q:s.heap.get? b with _|o;·rfl
   ·refine aY (X.there b o q) λo' e' R=>?_;exact iH (((fr b d).1).symm.trans e')
 have plain:((eP (aM n) k sc e vs).bind gE) K E S->iQ (bB prog W.w) A (eval e env) (λx s₁=>iQ (bB prog W.w) A (vU x) Q Ee s₁) Ee s:=by
   intro hm;refine cV ((I.e e h) _ _ hm) (λv J z_=>by obtain⟨c,D,X,y,hm⟩:=z_;exact fin X y hm λR R q=>q) T
 have hm:(match enE e with |some p=>enS (qW p.1 "enumerate") (uB sc.names p.1) ((eP (aM n) k sc p.2 vs).bind λv=>(gE v).bind tJ) ((eP (aM n) k sc e vs).bind gE)|none=>(eP (aM n) k sc e vs).bind gE) K E S:=hm;rcases N:enE e with _|⟨x,a⟩;·replace hm:=N▸hm;exact plain hm
 · replace hm:=N▸hm;rcases aF6 hm with hm|⟨q,⟨i,F⟩,hm⟩;·exact plain hm
   · clear O2 O3 C fin plain;have hx:=jW.mp q;dsimp only at hx F;subst hx;refine aI2 (P:=λe=>iQ (bB prog W.w) A (eval e env) (λx s₁=>iQ (bB prog W.w) A (vU x) Q Ee s₁) Ee s) N λp1 p2=>?_;by_cases hs:∃x p,a=.Starred x p
     · refine sJ hs λx p Z=>?_;clear hs;obtain rfl:=Z;exact(y6 x p hm).elim
     refine zw rfl ?_;have hn:qV sc vs (aD "enumerate") (λc f=>c=.ty 9/\f=S) E S:=by
       unfold qV;have hd:dunder (aD "enumerate")=false:=by decide+kernel
       refine aC hd ?_;dsimp only;refine aC F ?_;have g1:dA (aD "enumerate") qf=none:=by decide+kernel
       have g2:dA (aD "enumerate") th=some (.ty 9):=by kernel_rfl
       show xn _ _ _ _;unfold xn;exact aC g1 (aC g2 ⟨rfl,rfl⟩)
     refine aL (cV ((Lr O h (aD "enumerate") p1) _ _ hn) (λfv J q=>?_) (λx s' z_=>by obtain⟨c,f,X,r,e0⟩:=z_;exact T x s' ⟨c,f,X,r,e0⟩));clear F hn;obtain⟨c,D,X,y,rfl,rfl⟩:=q;subst y;have h1:=h.ext X;refine aC ((oe (λx p q=>hs ⟨x,p,q⟩))) (Cz (by rfl) ?_);show iQ _ A (do let v<-eval a env;let here<-pure [v];return here++(<-lV here (yT []))) _ _ J;refine aL (cV ((I.e a h1) _ _ hm) (λav H q=>?_) (λx s' q=>T x s' (q.trans X)));obtain⟨ca,U,B,L,z⟩:=q;refine aL (aW (aL (bI (aW (aW (⟨⟨.machine,.inr (.inl rfl),sS rfl⟩,?_⟩))))));have fr:∀b,H.heap.objs.size<=b->s.heap.get? b=none/\U b=none/\W.h₁.objs.size<=b:=λb d=>⟨by
       rcases q:s.heap.get? b with _|o;·rfl
       ·exact aY ((X.trans B).there b o q) λo' e' R=>absurd (dT e') (kZ.mpr d),B.rel.fresh d,aB B.rel.stat.size d⟩;have done:∀{h':Heap}{it:It},(∀b o,H.heap.get? b=some o->h'.get? b=some o)->rL W h' it [H.heap.objs.size+1,H.heap.objs.size] (.ref (H.heap.objs.size+1))->U7 h' (H.heap.objs.size+1) H.heap.objs.size 0 .none->K it U->iQ (bB prog W.w) A (vU (.ref (H.heap.objs.size+1))) Q Ee {H with heap:=h'}:=by
       intro h' it j hit c5 hK;refine cQ (BG c5 (hQ it _ _ U _ ((X.trans B).trans (eO (s':={H with heap:=h'}) O B.rel j rfl rfl)) hit (M3 (fr _ (m_ _)) (fr _ (bM _))) hK))
     refine ai0 (P:=λca=>V W H.heap ca av->_) z (λb z L=>?_) (λad l e z L=>?_) L
     · refine iK (n4 L) λt G=>?_;obtain rfl:=G;exact cQ (u9 λh' he d hz j=>done j (it:=.enumO b 0) ⟨_,_,.none,t,rfl,rfl,by simp,he,d⟩ he z)
     · have p:=gT L;subst p;exact dZ (B.rel.list e) λus m g w IL=>cQ (call_enumerate_list IL λh' he d hz j=>done j (it:=.enumL ad 0) ⟨_,_,.none,rfl,rfl,by simp,he,d⟩ he z)
theorem ye{K E}(hm:Aw (aM n) k sc e vs K E S):∀a b c,e≠.Set a b c:=by
 rintro a b c rfl;rcases k with _|k;·exact hm
 · rcases k with _|k;·exact hm
   ·exact hm
end
end Internal
namespace Internal
open PySem PySem.W PyProof.Rows PySem.Calls
variable{W:Wd}
section
variable{n:Nat}{A:bT}{env cenv:cD}{sc lsc:dD}{vs:cN}{S:CS}{s:aO}{a:Addr}{l:List CV}
theorem RI(O:dM W)(F:jD W)(J:n8 W)(C:qO W (aM n) n):∀(k:Nat),(∀j,j<k->rS W (aM n) n j)->∀{d:Nat}{vs:cN}{l:List CV}{S:CS}{s:aO}{K:List CV->CS->Prop}{Ee:EP},fK W A n cenv lsc vs S s->oS W a l S s.heap->Jr (aM n) k osc ovs lsc elt (gens.drop d) false vs l K (λc c=>False) S->iQ (bB prog W.w) A (ti elt gens scope pos d (.ref a) cenv) (λc s'=>GR W a cenv lsc vs S s K s') Ee s:=by intro k;induction k with |zero=>intro _ d vs l S s K Ee _ _ hm;exact hm.elim|succ k G=>
   intro I d vs l S s K Ee h x hm;rcases hd:gens.drop d with _|⟨g,r⟩
   · have hg:gens[d]?=none:=by
       have:=List.drop_eq_nil_iff.mp hd;exact ny this
     unfold ti;refine aC hg ?_;replace hm:=hd▸hm;exact Q2 O (I k (uu k)) h x hm
   · have hg:gens[d]?=some g:=by
       have:(gens.drop d)[0]?=some g:=by refine aC hd ?_;rfl
       simpa using this
     have hr:gens.drop (d+1)=r:=by
       have:=congrArg (List.drop 1) hd;simpa using this
     rw[hd]at hm;refine eC λi=>?_;obtain⟨t,iter,D,z⟩:=g;revert hm;refineλw=>bX w λh0 hm=>?_;clear w;refine i ?_;clear hd;subst h0;rcases k with _|k;·exact hm.elim
     · have Y:=ye hm;unfold ti;refine aC hg (aL (cV (HI (Ee:=Ee) (Q:=λv s'=>iQ (bB prog W.w) A (J7 (.compStart (.ListComp elt gens scope pos) d v (.ref a) cenv) cenv>>=λc=>pure ()) (λc s'=>GR W a cenv lsc vs S s K s') Ee s') O F J C (I k o62) iter h hm (λx s' T=>by obtain⟨_,_,_,_,q⟩:=T;exact q.elim) ?_) (λZ H q=>?_) λc c q=>q))
       · intro it as v N H X hit own y;refine eC λi=>X_ y λp j hm=>?_;clear y;refine bX p λB U=>?_;clear p;refine i (aL (rD (i9 (R:=Mr W a cenv lsc vs S s K) (KR hg (λq=>Iy hit q) ?_) (λr s' q=>?_)) rfl nofun))
         · have h1:=h.ext X;refine Ci O hg (λj hj=>I j (o61 hj)) (λ{l vs' S s K Ee}h x hm=>?_) U j h1 (x.extL h.rel (X.l0 (Ps:=[])) (by simp) (by simp)) hit own ?_ X.l0 B hm;·exact G (λj hj=>I j (o30 hj)) (d:=d+1) h x (hr▸hm)
           · intro b E;have hn:=(own.own b E).1;refine eC λi=>tG x λc c L m ga c=>?_;clear x;refine aY h.eo.ns λP u c=>gD u λo es ep ho c=>?_;clear u;exact i ⟨(λq=>by rw[q,ga]at hn;contradiction),(λq=>by rw[q,ho]at hn;contradiction)⟩
         · rcases r with e|f;·exact q.elim
           ·exact aW q
       ·exact GQ (bO (by rfl) (aL (p8 (yJ Y) (aW (aL (bI (bO (by rfl) q)))))))
noncomputable def ItQ(W:Wd)(S:CS)(s:aO)(K:It->CS->Prop):aP->aO->Prop:=λv s'=>∃it as S',eH W none S s S' s'/\rL W s'.heap it as v/\Z1 W s S' as/\K it S'
theorem FG(O:dM W)(i:jD W)(g:n8 W)(C:qO W (aM n) n)(I:rS W (aM n) n k)(e:aI)(h:fK W A n env sc vs S s){K E}(hm:Aw (aM n) (k+1) sc e vs K E S)(R:∀x s',Qe W none S s E x s'->Ee x s'):iQ (bB prog W.w) A (eval e env) (λx s₁=>iQ (bB prog W.w) A (vU x) (ItQ W S s K) Ee s₁) Ee s:=HI O i g C I e h hm R λit as v d s' X a b c=>⟨it,as,d,X,a,b,c⟩
theorem Fz{α:Type}{M:nx}{A:bT}{E:EP}{s:aO}{b:Bool}{p:Pos}{t:Sem α}{Q:α->aO->Prop}(h:iQ M A t Q E s):iQ M A (if b=true then mY p>>=λa=>t else t) Q E s:=by
 rcases b with _|_;·exact h
 ·exact GQ h
theorem Ck(O:dM W)(O2:jD W)(O3:n8 W)(C:qO W (aM n) n){k:Nat}(I:∀j,j<k->rS W (aM n) n j){elt:aI}{gs:List mL}{pos p:Pos}{use:Option (aP->Sem Unit)}{K:KP}{E}{Q:EP}{Ee:EP}(h:fK W A n env sc vs S s)(hl:iD lsc=false)(hc:oA lsc.names=true)(hs:DO lsc=true)(c5:gs.isEmpty=false){cells:List (Str×Addr)}(e8:B6 sc vs lsc.names=some cells)(hm:Jr (aM n) k sc vs lsc elt gs true (rh sc vs lsc.names) [] (λl G=>mk (.list l) K E G) E S)(hE:∀x s',Qe W none S s E x s'->Ee x s')(h0:use=none->∀v c G s',eH W none S s G s'->V W s'.heap c v->K c G->Q v s')(h1:∀u,use=some u->∀v c G s' L m,eH W none S s G s'->V W s'.heap c v->K c G->s.heap.get? L=none->G L=none->W.h₁.objs.size<=L->s'.heap.Ns L m->iQ (bB prog W.w) A (u v) (λB s2=>∃m,s2.heap.Ns L m/\∀h',jF L s2.heap h'->Q .none {s2 with heap:=h'}) Ee s'):iQ (bB prog W.w) A (IT (.ListComp elt gs lsc p) lsc env pos (newList []) (U9 gs) (ag0 gs env) use) Q Ee s:=by
 rcases gs with _|⟨g,r⟩;·contradiction
 · obtain⟨t,iter,D,f4⟩:=g;rcases k with _|k;·exact hm.elim
   · revert hm;refineλq_=>bX q_ λha hm=>?_;clear q_;refine aC ha ?_;rcases k with _|k;·exact hm.elim
     · have f0:=ye hm;refine gA (Al h.eo e8) λclo ec B X=>bX (UU hs) λT J=>?_;unfold IT;refine zw (aC ec (aC (rfl:clausesOf (.ListComp elt (⟨t,iter,D,0⟩::r) lsc p)=⟨t,iter,D,0⟩::r) (aC (rfl:U9 (⟨t,iter,D,0⟩::r)=false) (aC (rfl:ag0 (⟨t,iter,D,0⟩::r) env=eval iter env) rfl)))) (aL (cV (FG O O2 O3 C (I k o62) iter h hm hE) (λxv s1 q=>aL (fJ (aL (p8 (yJ f0) (aW (aL (bI (bO (by rfl) (cV q (λiv y N=>eC λk_=>Am N λit as S2 X2 hit own e2 j hm=>?_) λB B q=>q))))))))) λB B q=>q));clear N;refine bX e2 λe9 e7=>?_;clear e2;refine k_ (Fz (bF (uO (aL (aW (aC ((Ju (HN hc))) (aL (bF (MM (aW ?_))))))))));have U:=X2.rel;have gone:∀b,y.heap.get? b=none->s.heap.get? b=none:=λb q=>by
         rcases z:s.heap.get? b with _|o;·rfl
         ·refine aY (X2.there b o z) λo' e' B=>?_;exact iH (q.symm.trans e')
       have a0:y.heap.get? y.heap.objs.size=none:=bL (bM _);have l0:y.heap.get? (y.heap.objs.size+1)=none:=bL (m_ _);have ga:((y.heap.push {cls:=.type "list",data:=.seq ([]:List aP).toArray}).push {cls:=.type "dict",data:=.dict #[]}).get? y.heap.objs.size=some (q8 [] 0):=aK _ (aU _ rfl);have gl:((y.heap.push {cls:=.type "list",data:=.seq ([]:List aP).toArray}).push {cls:=.type "dict",data:=.dict #[]}).get? (y.heap.objs.size+1)=some {cls:=.type "dict",data:=.dict #[]}:=by
         have:=aU (y.heap.push {cls:=.type "list",data:=.seq ([]:List aP).toArray}) (o:={cls:=.type "dict",data:=.dict #[]}) rfl;rwa[nP]at this
       have Z:∀b o,y.heap.get? b=some o->((y.heap.push {cls:=.type "list",data:=.seq ([]:List aP).toArray}).push {cls:=.type "dict",data:=.dict #[]}).get? b=some o:=λb o e=>aK _ (aK _ e);have hz:(y.heap.push {cls:=.type "list",data:=.seq ([]:List aP).toArray}).objs.size=y.heap.objs.size+1:=nP ..;dsimp only;refine aC hz ?_;generalize hH:(y.heap.push {cls:=.type "list",data:=.seq ([]:List aP).toArray}).push {cls:=.type "dict",data:=.dict #[]}=H at*;have e6:∀b o,y.heap.get? b=some o->b<y.heap.objs.size:=λb o e=>dT e;have la:W.h₁.objs.size<=y.heap.objs.size:=U.stat.size;generalize ha:y.heap.objs.size=a at*;have ll:W.h₁.objs.size<=a+1:=jU la;have EC:iV W (tD lsc clo (a+1) env) lsc (rh sc vs lsc.names) H:=by
         refine⟨T,h.eo.glob,h.eo.blt,ll,⟨λB=>none,wI ⟨_,#[],0,gl,rfl,(λe he=>by simp at he),λB=>rfl⟩,λx i v e f=>?_⟩,λx i k c e hk f=>?_,λx i k e=>Be (idx_lookup e),λq=>by exact absurd (hl.symm.trans q) nofun⟩;·rw[zd (mP e)]at f;simp at f
         · rw[zd (mP e)]at f;rcases hk with rfl|rfl;·simp at f
           ·exact X x c (bG (mP e)) (aE f)
       have HC:fK W A n (tD lsc clo (a+1) env) lsc (rh sc vs lsc.names) S2 {y with heap:=H}:=⟨(eO (s':={y with heap:=H}) O U Z rfl rfl).rel,EC,U.none_ l0,h.room,h.frs.ext (X2.trans (eO (s':={y with heap:=H}) O U Z rfl rfl))⟩;have P:rL W H it as iv:=hit.keep (λb B o e=>Z b o e) (λb o B e B=>Z b o e);have code:=KR (w:=W.w) (A:=A) (elt:=elt) (scope:=lsc) (pos:=p) (acc:=.ref a) (env:=tD lsc clo (a+1) env) (s:={y with heap:=H}) (rfl:(⟨t,iter,D,0⟩::r:List mL)[0]?=some ⟨t,iter,D,0⟩) (λq=>Iy P q) (Ci (S₀:=S) (s₀:=s) O (rfl:(⟨t,iter,D,0⟩::r:List mL)[0]?=some ⟨t,iter,D,0⟩) (λj hj=>I j (o61 hj)) (λ{l vs' S s K Ee}h x hm=>RI O O2 O3 C (k+1) (λj hj=>I j (o30 hj)) (d:=1) h x hm) e7 j HC (⟨U.none_ a0,la,[],0,ga,Vs.n⟩) P own (λb hb=>by
           refine aY (hit.objs b hb) λo eo B=>?_;have:=e6 b o eo;exact⟨eX this,eX (zl this)⟩) (X2.trans (eO (s':={y with heap:=H}) O U Z rfl rfl)).l0 e9 hm);refine bI (aL (si (bI (Ir (i9 code λr' s' hr=>?_) rfl nofun))));rcases r' with e|f;·exact hr.elim
       · refine eC λk_=>rd hr λl' G X5 e0 x5 hK=>?_;clear hr;refine bX e0 λe5 Y=>?_;clear e0;refine aY e5.ns λm hn B=>k_ ?_;have hv:∀x∈(lsc.names.filter λx=>(x.2==.local||x.2==.cell)&&x.1 !=(".0":Str)).reverse,x.2=.local->(tD lsc clo (a+1) env).kindOf x.1=some .local:=λx hx hl=>lookup_relabel_local (J x (rk.mp (List.mem_reverse.mp hx)).1 hl);have e4:∀x∈(lsc.names.filter λx=>(x.2==.local||x.2==.cell)&&x.1 !=(".0":Str)).reverse.drop 1++(lsc.names.filter λx=>(x.2==.local||x.2==.cell)&&x.1 !=(".0":Str)).reverse.take 1,x.2=.local->(tD lsc clo (a+1) env).kindOf x.1=some .local:=λx hx hl=>by
           rcases gH.mp hx with h1|h1;·exact hv x (List.mem_of_mem_drop h1) hl
           ·exact hv x (Hy h1) hl
         have sl:s.heap.get? (a+1)=none:=gone _ l0;have sa:s.heap.get? a=none:=gone _ a0;have c5:a≠a+1:=by simp
         refine tG (id x5) λxa B us um gu wu=>?_;have Xd:lY W [] S s G s':=X5.drop (by simp;exact⟨sa,sl⟩);have R:∀o,s'.heap.get? (a+1)=some o->¬uk o:=λo e=>e5.notImm _ o rfl e;rcases use with _|u
         · refine aL (bI (cQ (ag1 (cenv:=tD lsc clo (a+1) env) T _ s' m hv hn.ns λh' m' B sb=>aW ?_)));have k6:∀b o,b∉[a+1]->s'.heap.get? b=some o->h'.get? b=some o:=λb o hb e=>(sb.2 b (λq=>hb (by refine aC q ?_;simp[tD]))).trans e;have X6:lY W [] S s G {s' with heap:=h'}:=lY.own O Xd (F:=[a+1]) (by simp;exact⟨sl,Y,ll⟩) (by simp;exact R) k6 rfl rfl;exact h0 rfl (.ref a) (.ref a) (G.put a (.list l')) _ (X6.none_.put la sa ⟨us,um,k6 a _ (by simp) gu,wu.keep (λb o B e i=>k6 b o (by simp;rintro rfl;exact R o e i) e)⟩) V.ref (hK a xa)
         · have Xp:=Xd.none_.put (o:=.list l') la sa ⟨us,um,gu,wu⟩;refine bF (i7 (aL (bI (cV (h1 u rfl (.ref a) (.ref a) _ s' (a+1) m Xp V.ref (hK a xa) sl (by unfold oz;refine aC (if_neg (λq=>c5 q.symm)) ?_;exact Y) ll hn.ns) (λB s2 q=>?_) λB B q=>q))));refine aY q λm2 e3 f3=>?_;clear q;exact aL (cQ (ag1 (cenv:=tD lsc clo (a+1) env) T _ s2 m2 e4 e3 λh' m' B sb=>aW (f3 h' sb)))
end
end Internal
namespace Internal
open PySem PySem.W PyProof.Rows PySem.Calls
variable{W:Wd}
theorem A4{pos pos':Pos}{c v:aP}(l:List aP)(h:ag2 l)(e:vC pos (l++[ru pos'.line,ru pos'.col,c])=some v):vC pos l=some v\/v=c:=by fun_induction ag2 l with
 |case1=>
  dsimp only[rn,ru,vC]at e;split at e;·right;obtain rfl:=aE e;rfl
  ·exact iH e|case2 a t b u x rest ih=>
  dsimp only[zL,vC]at e|-;split at e;·rename_i hc;refine aC (if_pos hc) ?_;exact .inl e
  ·rename_i hc;refine aC (if_neg hc) ?_;exact ih h e|case3 l h1 h2=>exact h.elim
theorem Cf(l:W.h₁.objs.size<=c)(r:h.CodeRec (.ref c) q)(t:h.TableAt c P ps):tI W h (.ref c) q:=by
 refine eC λj=>yk r λx o vs i e g d w=>?_;clear r;cases e;refine bX t λE a=>?_;clear t;refine dZ E λo2 B g2 f a=>j ?_;obtain rfl:=aE (g.symm.trans g2);exact⟨c,o,vs,i,rfl,l,g,f,d,w⟩
theorem TableAt.cls{h:Heap}{c P:Addr}{ps:Array aP}(t:h.TableAt c P ps):(∃o,h.get? c=some o/\o.cls=.type "code")/\h.get? P=some {cls:=.none,data:=.fields ps}:=by refine bX t λk p=>?_;clear t;refine dZ k λo a g e a=>?_;clear k;exact⟨⟨o,g,e⟩,p⟩
theorem Gp(O:dM W)(O2:jD W){A:bT}{env:cD}{c P:Addr}{pos:Pos}{fl:Nat}{name:Str}{p:kE}{scope:dD}{body:aA6}{S:CS}{s:aO}(R:jE W S s){q:Str}(hc:env.code=.ref c)(ht:(c,P,q)∈W.tabs){Q:EP}{E:EP}(h:∀v s',eH W none S s S s'->tI W s'.heap v q->Q v s'):wpAny (bB prog W.w) A (Kb env pos fl name q p scope body) Q E s:=by
 refine gA (R.stat.tabs _ ht) λps m H hk=>?_;dsimp only at m H hk;rcases e:vC pos ps.toList with _|v
 · have Y:P<W.h₁.objs.size:=(O.tabsOld.1 _ ht).2;refine wpAny_functionCodeX hc H m e λc' h' tk eb lc n w B C more=>eC λZ=>gA more λP' d d tn=>?_;clear more;have u:W.h₁.objs.size<=c':=aB R.stat.size lc;have k:∀b o,W.h₁.objs.size<=b->s.heap.get? b=some o->h'.get? b=some o:=λb o l g=>eb b o (λz=>absurd Y (kZ.mpr (z▸l))) g;have L:qn W s.heap h':=λb o l g d=>k b o l g;refine bX (TableAt.cls m) λd gP=>bX (TableAt.cls C) λd y=>Z ?_;have T':uz W h':=by
     refine⟨λb o g hb=>eb b o (hb _ ht) (R.stat.keep b o g hb),λt D=>?_,?_⟩
     · refine gA (R.stat.tabs t D) λN F f U=>?_;by_cases hP:t.2.1=P
       · have:=O2.tabsInj t D _ ht hP;refine aC this ⟨_,C,w,λx v ev=>?_⟩;have tr:ag2 ps.toList:=by obtain⟨_,_,_,_,_,_,_,_,_,_,_,_,_,_,_,_,_,_,_,G,_⟩:=H;exact G
         have ev:vC x (ps.toList++[ru pos.line,ru pos.col,.ref c'])=some v:=by simpa using ev
         rcases A4 _ tr ev with ev|ev;·exact(hk x v ev).keep L
         ·refine aC ev ?_;exact(Cf u B tn)
       · have T:t.1≠P:=by
           rintro z;refine bX (TableAt.cls F) λJ d=>aY J λo g e2=>?_;obtain rfl:=aE (gP▸z▸g);contradiction
         exact⟨N,F.extBut eb T hP,f.extBut eb T hP,λx v ev=>(U x v ev).keep L⟩
     ·exact bK (aZ u n)
   have X:eH W none S s S {s with heap:=h',toks:=tk}:=by
     refine⟨⟨T',λa o g=>⟨(R.rep a o g).1,(R.rep a o g).2.keep L (λob=>k a ob (R.rep a o g).1)⟩,R.gens,R.os⟩,λb o l g d d=>.inl (k b o l g),λd d d h=>h,λb o g=>?_⟩;by_cases z:b=P
     · cases z;exact iZ ((aE (gP.symm.trans g))) (⟨_,y,λd=>⟨rfl,λhh=>absurd rfl (hh _)⟩⟩)
     ·exact⟨o,eb b o z g,λd=>.refl o⟩
   exact h _ _ X (Cf u B tn)
 · refine eC λZ=>?_;obtain⟨o,vs,file,tf,I,tg,e0,text,tt,op,ho,hd,j,h2,h7,h9,e3,i,r,G,c5⟩:=id H;refine Z ?_;delta Kb codeAt;exact aC hc (aC (if_neg (show¬((lN c==eT)=true)from mZ)) (aA (aA7 ho hd (aC j (aA (aA7 i r (aC e (wpAny_pure (h v s (eH.refl R) (hk pos v e))))))))))
section
variable{n k:Nat}{A:bT}{env:cD}{sc:dD}{vs:cN}{S:CS}{s:aO}{cl:fW}
theorem UT(O:dM W)(i:jD W)(h:fK W A n env sc vs S s)(a:kE)(b:aI)(lsc:dD)(p:Pos)(hl:iD sc=true)(hd:AU a=true):dC W (V W) none A ((qr sc vs lsc.names).bind λcs=>mk (.clo ⟨a,b,lsc⟩ cs)) (eval (.Lambda a b lsc p) env) S s:=by
 intro K E hm;refine aY (n5 hm) λcells ec hm=>gA (Al h.eo ec) λclo H look g=>eJ (h.eo.lam hl) λc P w ht=>aC (arm_eval_Lambda _ _ _ _ _) ?_;obtain⟨B,j,f,I,m,l,U⟩:=a;have h5:m=[]/\U=[]:=by rcases m<;>rcases U<;>first|exact⟨rfl,rfl⟩|exact rR hd
 clear hl ec hd;refine bX h5 λk x=>?_;clear h5;obtain rfl:=k;obtain rfl:=x;refine cQ (abp (aA (c_ (wpAny_pure ?_))));unfold makeFunction;have hz:((I.zip ([]:List (Option aP))).filterMap λ(a,d)=>d.map (a.arg,·))=[]:=by simp
 refine oj (by simp only[hz,List.isEmpty_nil,if_true,H];rfl) (abp (abp (abp (abp ?_))));have tail:∀{ct:aP}{J:aO},eH W none S s S J->wpAny (bB prog W.w) A (do
   let T<-Kb env p p.line "<lambda>" (env.qual++"<lambda>") ⟨B,j,f,I,[],l,[]⟩ lsc (.expr b)let t<-builtinsFor env.globals env.builtins let q<-nsGet env.globals "__name__"let r<-pure eT
   newObj (.type "function") (.func {name:="<lambda>",qualname:=env.qual++"<lambda>",params:=⟨B,j,f,I,[],l,[]⟩,body:=.expr b,scope:=lsc,globals:=env.globals,closure:=clo,closureTuple:=ct,code:=T,builtins:=t,defaults:=.none,kwdefaults:=.none,annotations:=none,pyModule:=q.getD .none,doc:=r})) (Qk W (V W) none S s K) (Qe W none S s E) J:=by
  intro ct J D;refine aA (Gp O i D.rel w ht λv L C ok=>ze (i.bmod _ C.rel.stat) λF bm ob nb e1 y X N u Z=>?_);rw[<-h.eo.glob]at nb;refine aA (wpAny_builtinsFor nb e1 y X N u Z (aA (wpAny_nsGet nb (abp (kH (Qk.trans (D.trans C) (se (o:=.clo ⟨⟨B,j,f,I,[],l,[]⟩,b,lsc⟩ cells) (n:=L.toks) O C.rel hm (⟨_,_,(aU L.heap (o:={cls:=.type "function",dict:=none,data:=.func {name:="<lambda>",qualname:=env.qual++"<lambda>",params:=⟨B,j,f,I,[],l,[]⟩,body:=.expr b,scope:=lsc,globals:=env.globals,closure:=clo,closureTuple:=ct,code:=v,builtins:=jN,defaults:=.none,kwdefaults:=.none,annotations:=none,pyModule:=(F "__name__").getD .none,doc:=eT}}) rfl),rfl,rfl,rfl,rfl,rfl,h.eo.glob,rfl,rfl,rfl,ok.keep (λb o g e g=>aK _ e),look⟩))) (True.intro))))))
 rcases he:clo.isEmpty with _|_;·refine aA (wpAny_newTextTuple (tail (eO O h.rel (λb o e=>aK _ e) rfl rfl)))
 ·exact abp (tail (eH.refl h.rel))
end
end Internal
namespace Internal
open PySem PySem.W PyProof.Rows PySem.Calls
variable{W:Wd}
section
variable{n:Nat}{A:bT}{env:cD}{sc:dD}{vs:cN}{S:CS}{s:aO}
theorem aP6(O:dM W)(g:jD W)(i:n8 W)(C:qO W (aM n) n)(I:∀j,j<k->rS W (aM n) n j)(h:fK W A n env sc vs S s)(e:aI)(gs:List mL)(lsc:dD)(p:Pos):dC W (V W) none A (match iD lsc||!(oA lsc.names&&(DO lsc&&!gs.isEmpty))with|true=>.fail|false=>(qr sc vs lsc.names).bind λa=>(Jr (aM n) k sc vs lsc e gs true (rh sc vs lsc.names) []).bind λl=>mk (.list l)) (eval (.ListComp e gs lsc p) env) S s:=by
 intro K E hm;rcases q:iD lsc||!(oA lsc.names&&(DO lsc&&!gs.isEmpty))with _|_
 · replace hm:=q▸hm;simp only[lU,xQ,bP,hO]at q;refine s9 q λhl f hs t=>?_;clear q;exact aY (n5 hm) λcells ec hm=>aC (arm_eval_ListComp _ _ _ _ _) (Ck (use:=none) O g i C I h hl f hs t ec hm (λa a q=>q) (λa v c b s' X y m=>⟨c,b,X,y,m⟩) (λu q=>iH q))
 ·replace hm:=q▸hm;exact hm.elim
theorem an9(I:rS W cl n k)(h:fK W A n env sc vs S s)(l ops cs p):dC W (V W) none A ((eP cl k sc l vs).bind λa=>(yK cl k sc a ops cs vs).bind λt=>.pure (.bool t)) (eval (.Compare l ops cs p) env) S s:=by
 refine aC (arm_eval_Compare _ _ _ _ _) (dC.bind (I.e l h) λa v z H C y=>?_);intro K E hm;exact cV (I.c p a v ops cs (h.ext C) y _ _ hm) (λb s'⟨t,S',X,r,q⟩=>⟨.bool t,S',X,aB3 r,q⟩) λc c q=>q
theorem Z4(O:dM W)(O2:jD W)(O3:n8 W)(C:qO W (aM n) n)(I:∀j,j<=k->rS W (aM n) n j)(e:aI)(h:fK W A n env sc vs S s):dC W (V W) none A (eP (aM n) (k+1) sc e vs) (eval e env) S s:=by
 have Ik:=I k (bM k);rcases e<;>first|exact dC.fail|skip
 · revert values pos;intro es p;refine aC (arm_eval_BoolOp _ _ _ _) ?_;exact Ik.bv p op es h
 ·exact ar4 O Ik h _ _ _ _
 · revert operand pos;intro x p;rcases op<;>first|exact dC.fail|skip
   ·exact ao5 O Ik h x p
   ·exact ao4 O Ik h x p
 · revert args body scope pos;intro a b lsc p;show dC W (V W) none A (match iD sc&&(!iD lsc&&AU a)with |true=>(qr sc vs lsc.names).bind λcs=>mk (.clo ⟨a,b,lsc⟩ cs)|false=>.fail) _ S s;rcases q:iD sc&&(!iD lsc&&AU a)with _|_;·exact dC.fail
   · simp only[bP]at q;exact UT O O2 h a b lsc p q.1 q.2.2
 ·exact aI8 Ik h _ _ _ _
 ·exact Ik.d _ _ _ h
 ·exact aP6 O O2 O3 C (λj hj=>I j (bK hj)) h _ _ _ _
 ·exact an9 Ik h _ _ _ _
 ·exact Ik.call _ _ _ _ h
 ·exact OV O h _ _ _
 · revert value attr pos;intro e x p;show dC W (V W) none A (match uU e with |true=>(eP (aM n) k sc e vs).bind λv=>dI v x|false=>.fail) _ S s;rcases q:uU e with _|_;·exact dC.fail
   ·exact Xj O Ik h e x p q
 · revert value slice pos;intro e i p;by_cases hs:∃a b c q,i=.Slice a b c q
   · refine yE hs λlo hi st q e1x=>?_;clear hs;obtain rfl:=e1x;rcases st with _|st;·exact ah8 O Ik h e lo hi q p
     ·exact dC.fail
   · have e0:eP (aM n) (k+1) sc (.Subscript e i p) vs=(eP (aM n) k sc e vs).bind λv=>(eP (aM n) k sc i vs).bind λw=>cJ v w:=by rcases i<;>first|rfl|exact absurd ⟨_,_,_,_,rfl⟩ hs
     exact aC e0 (ak9 O Ik h e i p λa b c q z=>hs ⟨a,b,c,q,z⟩)
 ·exact Lr O h _ _
 ·exact Vk O Ik h _ _
 ·exact as8 O Ik h _ _ _
theorem eok(O:dM W)(i:jD W)(l:n8 W)(C:qO W (aM n) n):∀k,rS W (aM n) n k:=by intro k;induction k using Nat.strongRecOn with|ind k m=>
   rcases k with _|k;·exact⟨λb b=>dC.fail,λb b=>dC.fail,λb b b=>dC.fail,λb b b b=>dC.fail,λb b=>dC.fail,λb b b=>dC.fail,λb b b b b b b=>dC.fail,λb b b b b b b=>dC.fail,λb b b b=>dC.fail,λb b b b b=>dC.fail⟩
   · have I:∀j,j<=k->rS W (aM n) n j:=λj hj=>m j (tp hj);have g:=I k (bM k);exact⟨λe h=>Z4 O i l C I e h,λe h=>aa5 g e h,λp es h=>QF g p es h,λp op es h=>Pi g p op es h,λe h=>YU g e h,λop es h=>M9 g op es h,λp a v P es h x=>(LX O g p a v P es h x).1,λp a v P es h x=>(LX O g p a v P es h x).2,λp U es h=>aa2 O g p U es h,λf as c p h=>JL O i l C g f as c p h⟩
end
end Internal
namespace Internal
open PySem PySem.W PyProof.Rows PySem.Calls
variable{W:Wd}
section
variable{α β:Type}{R:Heap->α->β->Prop}{P:Option Addr}{A:bT}{S S₁:CS}{s s₁:aO}{m:M α}{t:Sem β}{K:α->CS->Prop}{E:KP}
theorem Qe.weak(q:Qe W none S s E e s'):Qe W P S s E e s':=by obtain⟨c,b,X,r,h⟩:=q;exact⟨c,b,X.weak,r,h⟩
theorem dC.wk(h:dC W R none A m t S₁ s₁)(X:eH W none S s S₁ s₁)(hm:m K E S₁)(next:∀a b c s',eH W none S s c s'->eH W none S₁ s₁ c s'->R s'.heap a b->K a c->Q b s'):iQ (bB prog W.w) A t Q (Qe W P S s E) s₁:=cV (h K E hm) (λb s' T=>by obtain⟨a,c,Y,r,k⟩:=T;exact next a b c s' (X.trans Y) Y r k) (λd d q=>(q.trans X).weak)
end
section
variable{n k:Nat}{A:bT}{env:cD}{sc:dD}{vs:cN}{S:CS}{s:aO}{cl:fW}
set_option tactic.hygienic true in theorem FJ(O:dM W){a c:CV}{lo hi:Option CV}{v vl vu u:aP}{sl:Addr}(hg:A.guards=some [])(R:jE W S s)(x:V W s.heap a v)(y:V W s.heap c u)(xl:Vp W s.heap lo vl)(xu:Vp W s.heap hi vu)(hs:s.heap.IsSliceOf sl vl vu .none):dC W (λ_(_:Unit)(_:Unit)=>True) none A (pY a lo hi c) (ac6 v (.ref sl) u) S s:=by
 intro K E hm;rcases a<;>first|exact hm.elim|skip
 rename_i ad;rcases c<;>first|exact hm.elim|skip
 rename_i cc;have p:=gT x;subst p;refine eC λk_=>iK (n4 y) λt e3x=>?_;obtain rfl:=e3x;revert hm;refineλq_=>aY q_ λo e hm=>?_;clear q_;rcases o<;>first|exact hm.elim|skip
 refine k_ ?_;rename_i b;refine eC λk_=>dZ (AC hm xl) λi lo' hm pl hl=>dZ (CP hm xu) λj hi' hm pu hh=>?_;revert hm;refineλq_=>bX q_ λq2x hm=>?_;clear q_;refine iR q2x λhij hcl hz=>?_;clear q2x;refine k_ ?_;have hj:j<=b.length:=by rcases hh with⟨_,rfl⟩|⟨_,_,_,rfl⟩<;>first|exact bM _|exact gR _ _
 exact FE hg ((R.rep _ _ e).2) hs pl pu (z0 hl hh) hij hj hcl hz λh' k2 g'=>ym (o:=.barr (b.take i++cc++b.drop j)) (s':={s with heap:=h'}) O R e k2 rfl rfl g' trivial hm
theorem PK(O:dM W)(I:rS W cl n k)(h:fK W A n env sc vs S s)(t:aI)(y:V W s.heap c u):dC W (RE W env sc) (some env.locals) A (JF cl k sc t c vs) (F9 t env u) S s:=by
 intro K E hm;rcases t<;>first|exact hm.elim|skip
 · revert value attr pos;intro o x p hm;refine aC (arm_assign_Attribute _ _ _ _ _) (aL (bI ((I.e o h).wk (eH.refl h.rel) hm λw ov S1 s1 X ι yo hm=>?_)));have h1:=h.ext X;exact GQ (aL (bI ((GL (A:=A) O h1.rel yo (y.ext h.rel X)).up.wk X hm λι ι S2 s2 X2 X12 ι hm=>cQ (rm ⟨vs,S2,X2.weak,(h.ext X2).eo,hm⟩))))
 · revert value slice pos;intro o i p hm;refine aC (arm_assign_Subscript _ _ _ _ _) ?_;by_cases hs:∃a b c q,i=.Slice a b c q
   · refine yE hs λlo hi st q e1x=>?_;clear hs;obtain rfl:=e1x;rcases st with _|st
     · have hm:((eP cl k sc o vs).bind λw=>(BR cl k sc lo vs).bind λl=>(BR cl k sc hi vs).bind λh=>(pY w l h c).bind λι=>jR vs) K E S:=hm;refine aL (bI ((I.e o h).wk (eH.refl h.rel) hm λw ov S1 s1 X1 ι yo hm=>?_));have h1:=h.ext X1;refine aC (az7 _ _ _ _ _) (aL (bI (aL ((I.o lo h1).wk X1 hm λl vl S2 s2 X2 X12 yl hm=>aL (bI ((I.o hi (h1.ext X12)).wk X2 hm λr vr S3 s3 X3 X23 yr hm=>aL (bI (aW (cQ (kH ?_))))))))));have kk:∀b o,s3.heap.get? b=some o->(s3.heap.push {cls:=.type "slice",dict:=none,data:=.fields #[vl,vr,.none]}).get? b=some o:=λb o e=>aK _ e;have X34:=eO (s':={s3 with heap:=s3.heap.push {cls:=.type "slice",dict:=none,data:=.fields #[vl,vr,.none]}}) O X3.rel kk rfl rfl;have X4:=X3.trans X34;exact GQ (aL (bI ((FJ (A:=A) (sl:=s3.heap.objs.size) O h.room.guards X4.rel (((yo.ext h1.rel X12).ext X2.rel X23).ext X3.rel X34) (y.ext h.rel X4) ((yl.ext X2.rel X23).ext X3.rel X34) (yr.ext X3.rel X34) (Bs _ _ _ _)).wk X4 hm λι ι S5 s5 X5 ι ι hm=>cQ (rm ⟨vs,S5,X5.weak,(h.ext X5).eo,hm⟩))))
     ·exact hm.elim
   · have hm:((eP cl k sc o vs).bind λw=>(eP cl k sc i vs).bind λj=>(lJ w j c).bind λι=>jR vs) K E S:=by rcases i<;>first|exact hm|exact absurd ⟨_,_,_,_,rfl⟩ hs
     refine aL (bI ((I.e o h).wk (eH.refl h.rel) hm λw ov S1 s1 X1 ι yo hm=>?_));have h1:=h.ext X1;exact aL (bI ((I.e i h1).wk X1 hm λj iv S2 s2 X2 X12 yi hm=>GQ (aL (bI ((Hj (A:=A) O X2.rel (yo.ext h1.rel X12) yi (y.ext h.rel X2)).up.wk X2 hm λι ι S3 s3 X3 ι ι hm=>cQ (rm ⟨vs,S3,X3.weak,(h.ext X3).eo,hm⟩))))))
 ·exact cQ (sZ O h _ _ y K E hm)
 ·exact cQ (FC O h _ _ _ y K E hm)
end
end Internal
namespace Internal
open PySem PySem.W PyProof.Rows PySem.Calls
variable{W:Wd}
noncomputable def RF(W:Wd)(env:cD)(sc:dD):Heap->fZ->Flow->Prop:=λh f g=>match f,g with|.next vs,.next=>iV W env sc vs h|.ret v,.ret u=>V W h v u|_,_=>False
section
variable{n k:Nat}{A:bT}{env:cD}{sc:dD}{vs:cN}{S:CS}{s:aO}{cl:fW}
theorem uV(O:dM W)(h:fK W A n env sc vs S s)(x:Str)(y:V W s.heap c u):pX W (RE W env sc) (some env.locals) A (gK sc vs x c) (qG env x u) S s:=by
 intro K E hm;exact aA (c_ (jB (aA (gS (xt O h.rel h.eo h.own y K E hm) (λa s' q=>jB q) λa a q=>q))))
theorem iL{K:cN->CS->Prop}{E}(e:uB sc.names x=some (i,.local)):gK sc vs x c K E S=K (vs.set i (some c)) S:=by unfold gK;refine aC e ?_;rfl
theorem s_(X:iV W env sc vs s.heap){h:cN}{K:cN->CS->Prop}{E}(hk:env.kindOf x=some .local)(hm:gK sc h x c K E S):∃i,uB sc.names x=some (i,.local):=by
 unfold gK at hm;rcases e:uB sc.names x with _|p;·rw[e]at hm;exact hm.elim
 · obtain⟨i,C⟩:=p;rcases X.kinds x i C e with q|⟨_,q⟩;·obtain rfl:=aE (hk.symm.trans q);exact⟨i,rfl⟩
   ·exact absurd (hk.symm.trans q) nofun
theorem Ex(O:dM W)(h:fK W A n env sc vs S s)(w:a≠b)(D:env.kindOf a=some .local)(L:env.kindOf b=some .local)(p:V W s.heap c u)(x:V W s.heap d v){K:cN->CS->Prop}{E}(hm:gK sc vs a c (λk f=>gK sc k b d K E f) E S):wpAny (bB prog W.w) A (pG [qG env b,qG env a] [v,u]) (Qk W (RE W env sc) (some env.locals) S s K) (Qe W (some env.locals) S s E) s:=by
 refine iK (s_ h.eo D hm) λi ei=>?_;replace hm:=(iL ei).mp hm;refine iK (s_ h.eo L hm) λj ej=>?_;rw[iL ej]at hm;have t:i≠j:=λq=>w (zR ei (q▸ej));refine aA (c_ (gS (uV O h b x (λk f=>k=vs.set j (some d)/\f=S) E (by refine aC (iL ej) ?_;exact⟨rfl,rfl⟩)) (λe H q=>?_) λe e q=>by obtain⟨_,_,X,r,q⟩:=q;exact⟨_,_,X,r,q⟩));refine eC λg=>?_;obtain⟨J,z,C,e1,rfl,rfl⟩:=q;refine g (aA (c_ (gS (uV O (h.of C e1) a (p.keep (C.immK h.rel (λb o q=>h.eo.notImm b o q))) K E (by refine aC (iL ei) ?_;refine aC (D9 _ _ t.symm) ?_;exact hm)) (λe I q=>?_) λe e q=>q.trans C)));exact wpAny_pure (q.trans C)
theorem Kp(O:dM W)(h:fK W A n env sc vs S s)(x:a≠b)(P:a≠e)(p:b≠e)(F:env.kindOf a=some .local)(L:env.kindOf b=some .local)(y:env.kindOf e=some .local)(G:V W s.heap c u)(t:V W s.heap d v)(z:V W s.heap f w){K:cN->CS->Prop}{E}(hm:gK sc vs a c (λk m=>gK sc k b d (λk m=>gK sc k e f K E m) E m) E S):wpAny (bB prog W.w) A (pG [qG env e,qG env b,qG env a] [w,v,u]) (Qk W (RE W env sc) (some env.locals) S s K) (Qe W (some env.locals) S s E) s:=by
 refine eC λH=>iK (s_ h.eo F hm) λi ei=>?_;replace hm:=(iL ei).mp hm;refine iK (s_ h.eo L hm) λj ej=>?_;replace hm:=(iL ej).mp hm;refine iK (s_ h.eo y hm) λl D=>H ?_;rw[iL D]at hm;have Q:i≠l:=λq=>P (zR ei (q▸D));have B:j≠l:=λq=>p (zR ej (q▸D));refine aA (c_ (gS (uV O h e z (λk m=>k=vs.set l (some f)/\m=S) E (by refine aC (iL D) ?_;exact⟨rfl,rfl⟩)) (λg N q=>?_) λg g q=>by obtain⟨_,_,X,r,q⟩:=q;exact⟨_,_,X,r,q⟩));obtain⟨J,I,C,e1,rfl,rfl⟩:=q;have:=Ex O (h.of C e1) x F L (G.keep (C.immK h.rel (λb o q=>h.eo.notImm b o q))) (t.keep (C.immK h.rel (λb o q=>h.eo.notImm b o q))) (K:=K) (E:=E) (by
  refine aC (iL ei) (aC (iL ej) ?_);refine aC (D9 _ _ Q.symm) (aC (D9 _ _ B.symm) ?_);exact hm);exact gS this (λg g q=>q.trans C) λg g q=>q.trans C
end
end Internal
namespace Internal
open PySem PySem.W PyProof.Rows PySem.Calls
variable{W:Wd}
theorem Mt{β:Type}{c:Prop}[Decidable c]{a b:β}{P:β->Prop}(h1:c->P a)(h2:¬c->P b):P (if c then a else b):=by
 by_cases h:c;·exact(if_pos h).symm▸h1 h
 ·exact(if_neg h).symm▸h2 h
noncomputable def Fi(env:cD)(line:Nat):aI->Option Str|.Name id pos=>if env.kindOf id==some .local&&pos.line==line then some id else none|_=>none
theorem Ep(h:(Fi env line (.Name a pa)).isSome=true):env.kindOf a=some .local/\Fi env line (.Name a pa)=some a:=by
 by_cases q:(env.kindOf a==some dW.local&&pa.line==line)=true;·exact⟨eq_of_beq (dR.mp q).1,if_pos q⟩
 · have e:Fi env line (.Name a pa)=none:=if_neg q;rw[e]at h;exact rR h
noncomputable def SwP(ts:List aI)(env:cD)(m:Sem (Option (List Str))):Prop:=m=pure none\/∃names,∃line:Nat,m=pure (some names)/\names=ts.filterMap (Fi env line)/\names.length=ts.length/\names.eraseDups.length=names.length/\(ts.length=2\/ts.length=3)
theorem swap_cases{y es:List aI}{x z:Nat}{p X:Pos}{env:cD}(B:yO [.Tuple y x p] (.Tuple es z X)=true):SwP y env (uQ [.Tuple y x p] (.Tuple es z X) env):=by
 refine Mt (P:=SwP y env) (λa=>.inl rfl) λh1=>Mt (P:=SwP y env) (λa=>.inl rfl) λh2=>Mt (P:=SwP y env) (λa=>.inl rfl) λh3=>Mt (P:=SwP y env) (λa=>.inl rfl) λh4=>Mt (P:=SwP y env) (λh5=>?_) λh5=>?_
 · exfalso;have B:(es.all (IH 8)||!(es.all (FU 8)))=true:=B;simp at B;rcases B with B|⟨e,he,f⟩;·exact h4 (MA.mpr B)
   · have:=MA.mp h5 e he;cases(f.symm.trans this)
 · right;have h3:=lU.mp (yP.mpr h3);refine⟨_,(Hz (λx=>x.pos.line) y.head?).getD 0,rfl,rfl,bne_eq_false_iff_eq.mp h3.1,bne_eq_false_iff_eq.mp h3.2,?_⟩
   · clear h2 h3 h4 h5;simp at h1;have:=h1.1.1;by_cases q:y.length=2;·exact .inl q
     ·exact .inr (this q)
theorem aS9{a b:Str}(h:[a,b].eraseDups.length=2):a≠b:=by rintro rfl;simp[jX]at h
theorem aP3{a b c:Str}(h:[a,b,c].eraseDups.length=3):a≠b/\a≠c/\b≠c:=by
 refine⟨?_,?_,?_⟩<;>rintro rfl
 · rw[jX]at h;by_cases q:c=a;·subst q;simp at h
   ·simp[q,jX]at h
 · rw[jX]at h;by_cases q:b=a;·subst q;simp at h
   ·simp[q,jX]at h
 · rw[jX]at h;by_cases q:b=a;·subst q;simp at h
   ·simp[q,jX]at h
section
variable{n k:Nat}{A:bT}{env:cD}{sc:dD}{vs:cN}{S:CS}{s:aO}
set_option backward.match.sparseCases false in noncomputable def isLst:aI->Bool|.List _ _=>true|_=>false
set_option backward.match.sparseCases false in noncomputable def isComp:aI->Bool|.ListComp _ _ _ _=>true|.SetComp _ _ _ _=>true|.DictComp _ _ _ _ _=>true|_=>false
set_option backward.match.sparseCases false in noncomputable def isNam:aI->Bool|.Name _ _=>true|_=>false
theorem al7{P:aI->Prop}(h:isTup e=true)(k:∀a b c,P (.Tuple a b c)):P e:=by rcases e<;>first|exact rR (h:false=true)|exact k _ _ _
theorem aU9{P:aI->Prop}(h:isLst e=true)(k:∀a b,P (.List a b)):P e:=by rcases e<;>first|exact rR (h:false=true)|exact k _ _
theorem nm'{P:aI->Prop}(h:isNam e=true)(k:∀a b,P (.Name a b)):P e:=by rcases e<;>first|exact rR (h:false=true)|exact k _ _
theorem as9{P:aI->Prop}(h:isComp e=true)(o:∀a b c d,P (.ListComp a b c d))(x:∀a b c d,P (.SetComp a b c d))(g:∀a b c d f,P (.DictComp a b c d f)):P e:=by rcases e<;>first|exact rR (h:false=true)|exact o _ _ _ _|exact x _ _ _ _|exact g _ _ _ _ _
theorem Gq(h:isTup t=false)(h':isLst t=false):uQ [t] e env=pure none:=by rcases t<;>first|rfl|exact gQ (h:true=false)|exact gQ (h':true=false)
theorem Vw{ts x p}(h:isTup e=false):uQ [.Tuple ts x p] e env=pure none:=by rcases e<;>first|rfl|exact gQ (h:true=false)
theorem Mc(h:isComp e=false):yU e (some t) line env=pure false:=by rcases e<;>first|rfl|exact gQ (h:true=false)
theorem Jq{t a b c d}(h:isNam t=false):yU (.ListComp a b c d) (some t) line env=pure false:=by rcases t<;>first|rfl|exact gQ (h:true=false)
theorem aV5(O:dM W)(h1:fK W A n env sc vs S s){T t2:aI}{l:List CV}{o:List aP}{c:List Str}{line:Nat}{K:cN->CS->Prop}{E:KP}(hl:l.length=2)(J:∀t∈[T,t2],∃a p,t=.Name a p)(hm:lB sc [T,t2] l vs K E S)(w1:Vs W s.heap l o)(C:c=[T,t2].filterMap (Fi env line))(D:c.length=2)(ed:c.eraseDups.length=c.length):wpAny (bB prog W.w) A (pG (c.reverse.map λn=>qG env n) o.reverse) (Qk W (RE W env sc) (some env.locals) S s K) (Qe W (some env.locals) S s E) s:=by
 refine sJ (J T bS) λa H q=>?_;obtain rfl:=q;refine sJ (J t2 (by simp)) λb x G=>?_;obtain rfl:=G;rcases l with _|⟨c1,_|⟨c2,_|⟨_,_⟩⟩⟩<;>first|(exfalso;simp at hl;done)|skip
 rcases o with _|⟨B,_|⟨z,_|⟨_,_⟩⟩⟩;·exact(show False from w1).elim
 ·exact(show _/\False from w1).2.elim
 · have al:=zp.mp (C▸D:([sU a H,.Name b x].filterMap (Fi env line)).length=[sU a H,.Name b x].length);refine bX (Ep (al _ bS)) λP f1=>bX (Ep (al _ (.tail _ bS))) λy f2=>?_;rw[lZ f1,lZ f2,JU]at C;subst C;exact Ex O h1 (aS9 ed) P y w1.1 w1.2.1 hm
 ·exact(show _/\_/\False from w1).2.2.elim
theorem aW0(O:dM W)(h1:fK W A n env sc vs S s){T t2 o:aI}{l:List CV}{q:List aP}{c:List Str}{line:Nat}{K:cN->CS->Prop}{E:KP}(hl:l.length=3)(J:∀t∈[T,t2,o],∃a p,t=.Name a p)(hm:lB sc [T,t2,o] l vs K E S)(w1:Vs W s.heap l q)(C:c=[T,t2,o].filterMap (Fi env line))(D:c.length=3)(ed:c.eraseDups.length=c.length):wpAny (bB prog W.w) A (pG (c.reverse.map λn=>qG env n) q.reverse) (Qk W (RE W env sc) (some env.locals) S s K) (Qe W (some env.locals) S s E) s:=by
 refine eC λe=>sJ (J T bS) λa H Q=>?_;obtain rfl:=Q;refine sJ (J t2 (by simp)) λb x r=>?_;obtain rfl:=r;refine sJ (J o (by simp)) λd X u=>?_;obtain rfl:=u;rcases l with _|⟨c1,_|⟨c2,_|⟨c3,_|⟨_,_⟩⟩⟩⟩<;>first|(exfalso;simp at hl;done)|skip
 rcases q with _|⟨G,_|⟨F,_|⟨U,_|⟨_,_⟩⟩⟩⟩;refine e ?_;·exact(show False from w1).elim
 ·exact(show _/\False from w1).2.elim
 ·exact(show _/\_/\False from w1).2.2.elim
 · have al:=zp.mp (C▸D:([sU a H,.Name b x,.Name d X].filterMap (Fi env line)).length=[sU a H,.Name b x,.Name d X].length);refine bX (Ep (al _ bS)) λP f1=>bX (Ep (al _ (.tail _ bS))) λy f2=>bX (Ep (al _ (.tail _ (.tail _ bS)))) λB z=>?_;rw[lZ f1,lZ f2,lZ z,JU]at C;subst C;exact iR (aP3 ed) λd1 d2 d3=>e (Kp O h1 d1 d2 d3 P y B w1.1 w1.2.1 w1.2.2.1 hm)
 ·exact(show _/\_/\_/\False from w1).2.2.2.elim
theorem JJ(O:dM W)(I:rS W (aM n) n k)(h:fK W A n env sc vs S s){t e:aI}{c:CV}{u:aP}(C:yO [t] e=true)(y:V W s.heap c u){K:fZ->CS->Prop}{E}(hm:JF (aM n) k sc t c vs (λi f=>K (.next i) f) E S):iQ (bB prog W.w) A (do let sw<-uQ [t] e env;Kc env u sw ((nA [t] env).map (·.2))) (Qk W (RF W env sc) (some env.locals) S s K) (Qe W (some env.locals) S s E) s:=by
 have plain:(∀x p,t≠.Starred x p)->iQ (bB prog W.w) A (Kc env u none ((nA [t] env).map (·.2))) (Qk W (RF W env sc) (some env.locals) S s K) (Qe W (some env.locals) S s E) s:=by
   intro hs;refine aC (qK hs) (aL (cV (PK O I h t y _ _ hm) (λa s1 q=>?_) λa a q=>q));obtain⟨i,f,X,G,F⟩:=q;exact aW ⟨.next i,f,X,G,F⟩
 have hs:∀x p,t≠.Starred x p:=by rintro x p rfl;exact hm
 rcases htt:isTup t
 · rcases htl:isLst t;·refine aC (Gq htt htl) ?_;exact SV (plain hs)
   ·revert hm;exact aU9 (P:=λt=>JF (aM n) k sc t c vs (λi f=>K (.next i) f) E S->_) htl λa a hm=>hm.elim
 refine zb (al7 (P:=λt=>∃z x p,t=.Tuple z x p) htt λa a a=>⟨_,_,_,rfl⟩:∃z x p,t=.Tuple z x p) λz x p R=>?_;obtain rfl:=R;clear I htt;rcases hte:isTup e;·refine aC (Vw hte) ?_;exact SV (plain hs)
 · refine zb (al7 (P:=λt=>∃z x p,t=.Tuple z x p) hte λa a a=>⟨_,_,_,rfl⟩:∃z x p,e=.Tuple z x p) λes x' Z r=>?_;obtain rfl:=r;rcases swap_cases (env:=env) C with q|⟨d,line,q,J,D,ed,Y⟩;·refine aC q ?_;exact SV (plain hs)
   · refine aC q (SV ?_);show iQ _ A (do rule "assign.swapped-stores";let items<-unpackItems u d.length none;pG (d.reverse.map λn=>qG env n) items.reverse;pure Flow.next) _ _ s;refine eC λj=>?_;clear plain hs C hte;obtain⟨l,rfl⟩:∃l,c=.tup l:=by rcases c<;>first|exact hm.elim|exact⟨_,rfl⟩
     revert hm;refineλH=>bX H λhl hm=>?_;clear H;refine gD (x8 y) λT v m r B=>?_;obtain rfl:=r;refine iR B λlt g w=>?_;clear B;refine j ?_;have hz:d.length=v.toArray.size:=by have:=w.length;refine aC bC ?_;exact aL4 this D hl
     refine cQ (aA (i7 (aA (oj (aC hz rfl) (unpackItems_tuple h.room.handled (items:=v.toArray) ⟨_,g,rfl,m,rfl⟩ λh' eb=>?_)))));have X:=eO (s':={s with heap:=h'}) O h.rel (λb o e=>eb b o (eX (dT e)) e) rfl rfl;have fin:wpAny (bB prog W.w) A (pG (d.reverse.map λn=>qG env n) v.reverse) (Qk W (RE W env sc) (some env.locals) S {s with heap:=h'} λi f=>K (.next i) f) (Qe W (some env.locals) S {s with heap:=h'} E) {s with heap:=h'}:=by
       rcases z with _|⟨U,_|⟨t2,_|⟨N,_|⟨_,_⟩⟩⟩⟩;·exact absurd Y ((by decide))
       ·exact absurd Y (by simp)
       ·exact aV5 O (h.ext X) hl (qN hm) hm (w.ext h.rel X) J D ed
       ·exact aW0 O (h.ext X) hl (qN hm) hm (w.ext h.rel X) J D ed
       ·exact absurd Y (by simp)
     refine aA (gS fin (λa Q q=>eC λj=>?_) λa a q=>q.trans X.weak);obtain⟨i,f,L,G,F⟩:=q;exact j (wpAny_pure ⟨.next i,f,X.weak.trans L,G,F⟩)
end
end Internal
namespace Internal
open PySem PySem.W PyProof.Rows PySem.Calls
variable{W:Wd}
noncomputable def C6(W:Wd):Prop:=∀{n k:Nat}{A:bT}{env:cD}{sc:dD}{vs:cN}{S:CS}{s:aO}(f:Str)(fp:Pos)(a:aI)(key:Str)(ps:kE)(b:aI)(lsc:dD)(lp kp p:Pos),(∀j,rS W (aM n) n j)->fK W A n env sc vs S s->dC W (V W) none A (Fw (aM n) k sc (.Call (.Name f fp) [a] [⟨some key,.Lambda ps b lsc lp,kp⟩] p) vs) (eval (.Call (.Name f fp) [a] [⟨some key,.Lambda ps b lsc lp,kp⟩] p) env) S s
section
variable{n k:Nat}{A:bT}{env:cD}{sc:dD}{vs:cN}{S:CS}{s:aO}
theorem av2{P:aI->Prop}{e:aI}{d:SrtD}(h:YX e=some d)(k:∀f F a key ps b lsc O N p,P (.Call (.Name f F) [a] [⟨some key,.Lambda ps b lsc O,N⟩] p)):P e:=by
 refine ai8 h λg as U p h1=>Zu (P:=λg=>P (.Call g as U p)) h1 λf F h2=>aY (MG h2) λa n h3=>aY (MG (l:=U) h3) λi W h4=>?_;subst n W;rcases i with⟨arg,v,N⟩;refine aY (IZ h4) λkey e1 h5=>?_;obtain rfl:arg=_:=e1;exact aJ7 (P:=λv=>P (.Call (.Name f F) [a] [⟨some key,v,N⟩] p)) h5 λps b lsc O c=>k ..
theorem Sg(r:C6 W)(I:∀j,rS W (aM n) n j)(e:aI)(h:fK W A n env sc vs S s):dC W (V W) none A (Fw (aM n) k sc e vs) (eval e env) S s:=by
 rcases q:YX e with _|d
 · have l:Fw (aM n) k sc e vs=eP (aM n) k sc e vs:=by unfold Fw;exact aC q rfl
   exact l▸(I k).e e h
 ·exact av2 (P:=λe=>dC W (V W) none A (Fw (aM n) k sc e vs) (eval e env) S s) q λf F a key ps b lsc O N p=>r f F a key ps b lsc O N p I h
theorem NR(O:dM W)(O2:jD W)(O3:n8 W)(C:qO W (aM n) n)(I:∀j,rS W (aM n) n j)(h:fK W A n env sc vs S s){x:Str}{p:Pos}{elt:aI}{gs:List mL}{lsc:dD}{q:Pos}{K:fZ->CS->Prop}{E}(hm:eP (aM n) k sc (.ListComp elt gs lsc q) vs (λc D=>gK sc vs x c (λr t=>K (.next r) t) E D) E S):iQ (bB prog W.w) A (do evalThenUse (.ListComp elt gs lsc q) env λv=>assignAll v ((nA [.Name x p] env).map (·.2));pure Flow.next) (Qk W (RF W env sc) (some env.locals) S s K) (Qe W (some env.locals) S s E) s:=by
 rcases k with _|k;·exact hm.elim
 · have hm:(match iD lsc||!(oA lsc.names&&(DO lsc&&!gs.isEmpty))with |true=>(.fail:M CV)|false=>(qr sc vs lsc.names).bind λa=>(Jr (aM n) k sc vs lsc elt gs true (rh sc vs lsc.names) []).bind λl=>mk (.list l)) (λc D=>gK sc vs x c (λr t=>K (.next r) t) E D) E S:=hm;rcases g:iD lsc||!(oA lsc.names&&(DO lsc&&!gs.isEmpty))with _|_
   · replace hm:=g▸hm;simp only[lU,xQ,bP,hO]at g;refine eC λB=>s9 g λhl hc hs c5=>?_;clear g;refine aY (n5 hm) λcells ec hm=>B ?_;have core:iQ (bB prog W.w) A (IT (.ListComp elt gs lsc q) lsc env (firstIterPos gs q) (newList []) (U9 gs) (ag0 gs env) (some λv=>assignAll v ((nA [.Name x p] env).map (·.2)))) (λa s'=>Qk W (RF W env sc) (some env.locals) S s K .next s') (Qe W (some env.locals) S s E) s:=by
       refine Ck O O2 O3 C (λj a=>I j) h hl hc hs c5 ec hm (λa a q=>q.weak) (λq=>nomatch q) ?_;intro u hu v c D s' L m X y hK sl w ll hn;obtain rfl:=aE hu;show iQ _ A (F9 (.Name x p) env v) _ _ s';refine eC λB=>aY h.eo.ns λm0 e3 a=>gD e3 λo0 e5 e4 e0 a=>B ?_;have Q:env.locals≠L:=by rintro rfl;exact iH (sl.symm.trans e0)
       refine cV (cQ (sZ O (h.ext X) x p y _ _ hK)) (λa H z=>eC λB=>?_) (λa a z=>(z.trans X.weak));obtain⟨r,S2,J,e2,G⟩:=z;refine qx (id hn) λoL P T U Z Y R=>B ?_;have nL:H.heap.Ns L m:=by
         rcases J.keep L oL ll U w (by simpa using Q)with z|⟨_,sl,z⟩;·exact⟨_,P,T,z,Z,Y,R⟩
         ·exact⟨_,P,T,z,Z,Y,R⟩
       refine⟨m,nL,λN sb=>?_⟩;have k6:∀b o,b∉[L]->H.heap.get? b=some o->N.get? b=some o:=λb o g e=>(sb.2 b (by simpa using g)).trans e;have f:∀o,H.heap.get? L=some o->¬uk o:=λo e i=>by
         refine qi nL λo' es ep e' d a=>?_;clear nL;obtain rfl:=aE (e'.symm.trans e);exact i.2 es ep d
       have X3:lY W [env.locals] S s S2 {H with heap:=N}:=lY.own O (X.l0.trans (J.toL (by simp))) (F:=[L]) (by simp;exact⟨sl,(J.dom L oL U w),ll⟩) (by simp;exact f) k6 rfl rfl;exact⟨.next r,S2,X3.one,e2.keep (λb o a e i=>k6 b o (by simp;rintro rfl;exact f o e i) e) (λo e=>.inl (k6 _ o (by simpa using Q) e)),G⟩
     exact aC (arm_evalThenUse_ListComp _ _ _ _ _ _) (aL (aL (cV core (λa s' q=>aW (aW q)) λa a q=>q)))
   ·replace hm:=g▸hm;exact hm.elim
theorem L9(O:dM W)(m:jD W)(w:n8 W)(r:C6 W)(C:qO W (aM n) n)(I:∀j,rS W (aM n) n j)(h:fK W A n env sc vs S s)(t e:aI)(p:Pos)(B:yO [t] e=true):dC W (RF W env sc) (some env.locals) A ((Fw (aM n) k sc e vs).bind λv=>(JF (aM n) k sc t v vs).bind λi=>.pure (.next i)) (exec (.Assign [t] e p) env) S s:=by
 intro K E hm;refine aC (MW _ _ _) (aL (fJ ?_));have plain:iQ (bB prog W.w) A (do let v<-eval e env;Kc env v (<-uQ [t] e env) ((nA [t] env).map (·.2))) (Qk W (RF W env sc) (some env.locals) S s K) (Qe W (some env.locals) S s E) s:=by exact aL ((Sg r I e h).wk (eH.refl h.rel) hm λc u D H X g y hm=>cV (JJ O (I k) (h.ext X) B y hm) (λg g q=>q.trans X.weak) (λg g q=>q.trans X.weak))
 show iQ _ A (yU e (some t) p.line env>>=_) _ _ s;rcases hc:isComp e;·exact aC (Mc hc) (aL (aW (zw (if_neg (by decide)) plain)))
 have cs:(∃a b c d,e=.ListComp a b c d)\/(∃a b c d,e=.SetComp a b c d)\/∃a b c d f,e=.DictComp a b c d f:=as9 (P:=λe=>(∃a b c d,e=.ListComp a b c d)\/(∃a b c d,e=.SetComp a b c d)\/∃a b c d f,e=.DictComp a b c d f) hc (λg g g g=>.inl ⟨_,_,_,_,rfl⟩) (λg g g g=>.inr (.inl ⟨_,_,_,_,rfl⟩)) λg g g g g=>.inr (.inr ⟨_,_,_,_,_,rfl⟩);refine eC λz=>?_;rcases cs with⟨elt,gs,lsc,o,rfl⟩|⟨a,b,c,d,rfl⟩|⟨a,b,c,d,f,rfl⟩;refine z ?_
 · rcases hn:isNam t;·exact aC (Jq hn) (aL (aW (zw (if_neg (by decide)) plain)))
   refine sJ (nm' (P:=λt=>∃x p,t=.Name x p) hn λg g=>⟨_,_,rfl⟩:∃x p,t=.Name x p) λx Y l=>?_;obtain rfl:=l;refine iK (⟨_,rfl⟩:∃b,yU (.ListComp elt gs lsc o) (some (.Name x Y)) p.line env=pure b) λb q=>?_;rcases b;·exact aC q (aL (aW (zw (if_neg (by decide)) plain)))
   ·exact aC q (aL (aW (zw (if_pos rfl) (NR O m w C I h hm))))
 ·rcases k<;>exact hm.elim
 ·rcases k<;>exact hm.elim
end
end Internal
namespace Internal
open PySem PySem.W PyProof.Rows PySem.Calls
variable{W:Wd}
structure nR(W:Wd)(A:bT)(n:Nat)(env:cD)(sc:dD)(vs:cN)(S:CS)(s:aO):Prop where
 here:fK W A n env sc vs S s
 top:∃outer,A.frames=some (env::outer)
structure UJ(W:Wd)(n k:Nat):Prop where
 s:∀{A env sc vs S s}(st:Stmt),nR W A n env sc vs S s->dC W (RF W env sc) (some env.locals) A (QU (aM n) k sc st vs) (exec st env) S s
 ss:∀{A env sc vs S s}(st:List Stmt),nR W A n env sc vs S s->dC W (RF W env sc) (some env.locals) A (pN (aM n) k sc st vs) (execs st env) S s
section
variable{n k:Nat}{A:bT}{env:cD}{sc:dD}{vs:cN}{S:CS}{s:aO}
theorem nR.of{P:Option Addr}{h:cN}{b:CS}{s':aO}(H:nR W A n env sc vs S s)(X:eH W P S s b s')(E:iV W env sc h s'.heap):nR W A n env sc h b s':=⟨H.here.of X E,H.top⟩
theorem nR.ext{b:CS}{s':aO}(H:nR W A n env sc vs S s)(X:eH W none S s b s'):nR W A n env sc vs b s':=⟨H.here.ext X,H.top⟩
theorem Vq(h:nR W A n env sc vs S s)(p):dC W (RF W env sc) (some env.locals) A (.pure (.next vs)) (exec (.Pass p) env) S s:=by exact aC (exec_Pass _ _) (gI (gY h.here.rel h.here.eo))
theorem Lb {A : bT} {Q : EP} {E : EP} {s : aO} (h : Q .none s) : wpAny (bB prog W.w) A (runValue (.builtin "proto.let_go" {})) Q E s :=
  wpAny_runValue (Ei entry_let_go (show wpAny _ _ (ret .none) _ _ s from wpAny_pure h))
theorem ar7{e:aI}(h:wb e=true):∃g as U p,e=.Call g as U p:=by rcases e<;>first|exact rR h|exact⟨_,_,_,_,rfl⟩
theorem Wy(I:∀j,rS W (aM n) n j)(h:nR W A n env sc vs S s)(e:aI)(p:Pos)(f:wb e=true):dC W (RF W env sc) (some env.locals) A ((eP (aM n) k sc e vs).bind λa=>.pure (.next vs)) (exec (.Expr e p) env) S s:=by
 have hi:interactive env=false:=by unfold interactive;refine aC h.here.eo.kind ?_;rfl
 have hs:yU e none p.line env=pure false:=by rcases e<;>first|rfl|exact rR f
 refine aC (exec_Expr env e p hi hs) ?_;intro K E hm;refine GQ (aL (((I k).e e h.here).wk (eH.refl h.here.rel) hm λc u z H X a y hm=>?_));have q:Qk W (RF W env sc) (some env.locals) S s K .next H:=⟨.next vs,z,X.weak,(h.here.ext X).eo,hm⟩;clear I h hi hs hm X a y;clear hm;refine yE (ar7 f) λU B D C R=>?_;obtain rfl:=R;rcases u<;>first|exact aW q|skip
 refine GQ (aL (cQ (Lb (aW q))))
theorem LS(I:∀j,rS W (aM n) n j)(h:nR W A n env sc vs S s)(e:Option aI)(p:Pos):dC W (RF W env sc) (some env.locals) A (match e with |.some e=>(eP (aM n) k sc e vs).bind λv=>.pure (.ret v)|.none=>.pure (.ret .none)) (exec (.Return e p) env) S s:=by
 rcases e with _|e;·exact gI (gY h.here.rel (show V W s.heap .none .none from V.none))
 · intro K E hm;exact GQ (aL (((I k).e e h.here).wk (eH.refl h.here.rel) hm λc u z H X a y hm=>aW ⟨.ret c,z,X.weak,y,hm⟩))
theorem aG8(I:∀j,rS W (aM n) n j)(J:UJ W n k)(h:nR W A n env sc vs S s)(t b o p):dC W (RF W env sc) (some env.locals) A ((sL (aM n) k sc t vs).bind λz=>wV z (pN (aM n) k sc b vs) (pN (aM n) k sc o vs)) (exec (.If t b o p) env) S s:=by
 refine aC (exec_If _ _ _ _ _) ?_;intro K E hm;refine GQ (aL (((I k).t t h.here).wk (eH.refl h.here.rel) hm λz u B H X a q hm=>?_));subst q;rcases u with _|_;·exact(J.ss o (h.ext X)).go X.weak (hm.2 rfl)
 ·exact(J.ss b (h.ext X)).go X.weak (hm.1 rfl)
theorem RJ(J:UJ W n k)(h:nR W A n env sc vs S s)(ss:List Stmt):dC W (RF W env sc) (some env.locals) A (pN (aM n) (k+1) sc ss vs) (execs ss env) S s:=by
 rcases ss with _|⟨st,r⟩;·exact gY h.here.rel h.here.eo
 · show dC W (RF W env sc) (some env.locals) A ((QU (aM n) k sc st vs).bind λf=>match f with|.next vs=>pN (aM n) k sc r vs|.ret w=>.pure (.ret w)) (do match<-exec st env with |.next=>execs r env|f=>pure f) S s;refine dC.bind (J.s st h) λf g z H X q=>?_;cases f with
   |next i=>
     rcases g<;>first|exact q.elim|skip
     exact J.ss r (h.of X q)|ret w=>
     rcases g<;>first|exact q.elim|skip
     exact gY X.rel q
noncomputable def LR(W:Wd)(env:cD)(sc:dD)(S:CS)(s:aO)(K:fZ->CS->Prop):oO->aO->Prop:=λr s'=>match r with |.ok f=>Qk W (RF W env sc) (some env.locals) S s K f s'|.error _=>False
theorem Ho(I:∀j,rS W (aM n) n j)(J:UJ W n k){t:aI}{b:List Stmt}{S₀:CS}{s₀:aO}{K:fZ->CS->Prop}:∀(j:Nat){vs:cN}{S:CS}{s:aO},nR W A n env sc vs S s->eH W (some env.locals) S₀ s₀ S s->G_ (λvs=>sL (aM n) k sc t vs) (λvs=>pN (aM n) k sc b vs) j vs K (λa a=>False) S->mU (bB prog W.w) A (.whileLoop t b [] env) (LR W env sc S₀ s₀ K) s:=by
 intro j;induction j with |zero=>intro vs S s _ _ hm;exact hm.elim|succ j l=>
   intro vs S s h X hm;refine gV (aC (iO rfl rfl) (jZ (aL (((I k).t t h.here).calm (eH.refl h.here.rel) hm λz u D H a C q hm=>?_))));subst q;have h1:=h.ext C;rcases u with _|_
   · have m:K (.next vs) D:=hm.2 rfl;exact SV (aW ⟨.next vs,D,X.trans C.weak,h1.here.eo,m⟩)
   · refine aL ((J.ss b h1).calm (eH.refl h1.here.rel) (hm.1 rfl) λf g r L a B q hm=>?_);cases f with
     |next i=>
       cases g<;>first|exact q.elim|skip
       exact aW ⟨rfl,rfl,l (h1.of B q) ((X.trans C.weak).trans B) hm⟩|ret w=>
       rcases g<;>first|exact q.elim|skip
       exact aW ⟨.ret w,r,(X.trans C.weak).trans B,q,hm⟩
theorem RW(I:∀j,rS W (aM n) n j)(J:UJ W n k)(h:nR W A n env sc vs S s)(t b p):dC W (RF W env sc) (some env.locals) A (AN (λvs=>sL (aM n) k sc t vs) (λvs=>pN (aM n) k sc b vs) vs) (exec (.While t b [] p) env) S s:=by
 intro K E hm;revert hm;refineλg=>iK g λj hm=>aC (exec_While _ _ _ _ _) (GQ (rD (i9 (Ho I J j h (eH.refl h.here.rel) hm) λr s' q=>?_) rfl nofun));rcases r with e|f;·exact q.elim
 ·exact q
theorem Lk(O:dM W)(J:UJ W n k){t:aI}{b:List Stmt}{S₀:CS}{s₀:aO}{K:fZ->CS->Prop}:∀(j:Nat){it:It}{as:List Addr}{v:aP}{vs:cN}{S:CS}{s:aO},nR W A n env sc vs S s->rL W s.heap it as v->Z1 W s₀ S as->(∀b∈as,b≠env.locals)->lY W [env.locals] S₀ s₀ S s->uC t it=true->Jl (λv vs=>(bindM sc t v vs).bind λl=>pN (aM n) k sc b l) j it vs K (λa a=>False) S->mU (bB prog W.w) A (.forLoop t v b [] env) (LR W env sc S₀ s₀ K) s:=by
 intro j;induction j with |zero=>intro it as v vs S s _ _ _ _ _ _ hm;exact hm.elim|succ j ih=>
   intro it as v vs S s hs hit own z X I hm;have h:=hs.here;refine gV (aC (iO rfl rfl) (jZ ?_));have hi:∀b∈as,∀o,s.heap.get? b=some o->¬uk o/\o.cls≠.type "frame":=λb d o e=>by refine aY (hit.objs b d) λo' N q=>?_;obtain rfl:=aE (N.symm.trans e);exact q
   have T:env.locals∉as:=λq=>z _ q rfl;refine GQ (aL (jZ (cQ (HW O h.room.handled h.rel hit (λb d=>⟨(own.own b d).2.1,(own.own b d).2.2⟩) (Bl (t:=t) hm) ?_ ?_))))
   · intro s' m p y F;exact aW ⟨rfl,rfl,gV (aC (iO rfl rfl) (aL (jZ (aW (aW ⟨.next vs,S,(lY.own O X own.own (λb d o e=>(hi b d o e).1) m p y).one,(h.but (lY.own O X own.own (λb d o e=>(hi b d o e).1) m p y).rel m hi T).eo,F.1⟩)))))⟩
   · intro H c E u m p y hv x F;refine bX F λL R=>?_;clear F;have D:uC t E=true:=(R c E rfl).trans I;have C:∀b∈as,∀o,H.heap.get? b=some o->¬uk o:=λb d o e=>by refine aY (x.objs b d) λo' N q=>?_;obtain rfl:=aE (N.symm.trans e);exact q.1
     refine aL (cQ (Ez x D (λh2 Q Z=>?_) C));have G:lY W [env.locals] S₀ s₀ S {H with heap:=h2}:=lY.own O X own.own (λb d o e=>(hi b d o e).1) (λb o d e=>Q b o d (m b o d e)) p y;have r:fK W A n env sc vs S {H with heap:=h2}:=h.but G.rel (λb o d e=>Q b o d (m b o d e)) hi T;refine aL (cV (cQ (HY (s:={H with heap:=h2}) O r t (hv.keep (λb o a e i=>Q b o (λq=>C b q o e i) e)) _ _ L)) (λa s3 q=>?_) λ_ _⟨_,_,_,_,q⟩=>q.elim);obtain⟨l,S3,P,e3,U⟩:=q;have h3:nR W A n env sc l S3 s3:=⟨r.of P e3,hs.top⟩;refine aL ((J.ss b h3).calm (eH.refl h3.here.rel) U λf g S4 s4 a X4 q B=>?_);have Y:lY W [env.locals] S {H with heap:=h2} S4 s4:=(P.trans X4).toL (by simp);cases f with
     |next c5=>
       rcases g<;>first|exact q.elim|skip
       refine aW (⟨rfl,rfl,ih (h3.of X4 q) (rL.extL (s:={H with heap:=h2}) Z r.rel Y (by intro b d;simp at d;subst d;exact tN r) (λb d=>⟨(own.own b d).2.1,(own.own b d).2.2,by simpa using z b d⟩)) ⟨λb d=>⟨(own.own b d).1,aY (Z.objs b d) λo eo a=>?_,(own.own b d).2.2⟩⟩ z (G.trans Y) D B⟩);exact Y.dom b o eo (own.own b d).2.1|ret w=>
       rcases g<;>first|exact q.elim|skip
       exact aW ⟨.ret w,S4,(G.trans Y).one,q,B⟩
theorem av0(O:dM W)(g:jD W)(m:n8 W)(C:qO W (aM n) n)(I:∀j,rS W (aM n) n j)(J:UJ W n k)(h:nR W A n env sc vs S s)(t it b p):dC W (RF W env sc) (some env.locals) A ((Aw (aM n) k sc it vs).bind λi=>(gd (uC t i=true)).bind λa=>yd (λv vs=>(bindM sc t v vs).bind λl=>pN (aM n) k sc b l) i vs) (exec (.For t it b [] p) env) S s:=by
 intro K E hm;rcases k with _|k;·exact hm.elim
 · have U:=ye (K:=λi c=>uC t i=true/\∃j,Jl (λv vs=>(bindM sc t v vs).bind λl=>pN (aM n) (k+1) sc b l) j i vs K (λa a=>False) c) (E:=E) hm;refine zw (aC (exec_For _ _ _ _ _) rfl) (aL (fJ (aL (cV (FG (K:=λi c=>uC t i=true/\∃j,Jl (λv vs=>(bindM sc t v vs).bind λl=>pN (aM n) (k+1) sc b l) j i vs K (λa a=>False) c) (E:=E) (Ee:=Qe W (some env.locals) S s E) O g m C (I k) it h.here hm (λa a q=>q.weak)) (λQ L q=>aL (p8 (yJ U) (aW (aL (fJ (aL (bI (cV q (λD H y=>eC λo=>?_) λa a q=>q)))))))) λa a q=>q))));refine Am y λi as x X hit own B j hm=>aY h.here.eo.ns λz N a=>gD N λo0 w u Y a=>o (rD (i9 (Lk O J j (h.ext X) hit own (λb d q=>?_) X.l0 B hm) λr s' q=>?_) rfl nofun)
   · have:=(own.own b d).1;exact absurd (Y▸q▸this) nofun
   · rcases r with e|f;·exact q.elim
     ·exact q
end
end Internal
namespace Internal
open PySem PySem.W PyProof.Rows PySem.Calls
variable{W:Wd}
structure Ib(W:Wd):Prop where
 exc:∀c dk,i_ c fY=some dk->dU c "__init__"=some 36->ML W.K (.ref c) (.type "BaseException")=some true/\typeIn W.K (.ref c)=some (.type "type")match_:∀c line x cc,i_ c fY=some (line,x)->line.contains cc=true->dU cc "__init__"=some 36->exmOne W.K (.ref c) (.ref cc)=some true
theorem LJ{S:CS}(e:S a=some o):S.put a o=S:=by
 funext b;unfold oz;split;·rename_i q;exact aC q (aC e rfl)
 ·rfl
theorem uR(hd:o.data=.fields vs)(hv:vs[i]?=some v):eF (·.setIfInBounds i v) o=o:=by
 have:vs.setIfInBounds i v=vs:=by
   obtain⟨l⟩:=vs;apply Array.ext';simp only[List.setIfInBounds_toArray];have hv:l[i]?=some v:=by simpa using hv
   apply yV;intro j;refine aC (f_) ?_;split
   ·rename_i q;subst q;rw[if_pos (aR.mp hv).1,hv]
   ·rfl
 obtain⟨c,d,dt,sl⟩:=o;subst hd;simp only[eF,this]
theorem y0{h:Heap}{a:Addr}{o:Obj}{f:Obj->Obj}(e:h.get? a=some o)(hf:f o=o):∀b,(h.update a f).get? b=h.get? b:=by
 intro b;by_cases q:b=a
 · refine aC q ?_;rw[dH _ e (by rw[hf];exact(Heap.get?_some_iff.mp e).2),hf,e]
 ·exact bY _ _ (eY q)
theorem wA.fun_(F:wA W S h l):h.FunFrames W.h₁ l:=by induction l with|nil=>trivial|cons e r j=>refine jT (F e bS) λhk L o hf h1 G hg f hd=>⟨hk,⟨L,o,hf,bL h1,hg,hd⟩,j λe he=>F e (.tail _ he)⟩
theorem wA.mem(F:wA W S h l)(c:b∈l.filterMap (·.frame)):S b=none/\W.h₁.objs.size<=b/\∃o,h.get? b=some o/\o.cls=.type "frame":=by exact aY (List.mem_filterMap.mp c) λe he hf=>jT (F e he) λhk L o u h1 G hg f hd=>aC ((aE (hf.symm.trans u))) ⟨G,h1,o,hg,f⟩
theorem eH.frames(O:dM W)(R:jE W S s)(F:wA W S s.heap l)(U:Heap.SlotsOnly (l.filterMap (·.frame)) s.heap s'.heap)(hg:s'.gens=s.gens)(ho:s'.os=s.os):eH W none S s S s':=by
 have k:∀b o,b∉l.filterMap (·.frame)->s.heap.get? b=some o->s'.heap.get? b=some o:=λb o d e=>(U.2.1 b d).trans e;have r:qn W s.heap s'.heap:=λb o c e i=>k b o (λd=>by
   refine AW (F.mem d) λc c T A f=>?_;obtain rfl:=aE (A.symm.trans e);rcases i.1 with i|i|i|i|i<;>rw[f]at i<;>contradiction) e;refine⟨⟨R.stat.step (λb o e g=>k b o (λd=>absurd g (kZ.mpr (F.mem d).2.1)) e) r O.tabsOld,λa o e=>⟨(R.rep a o e).1,(R.rep a o e).2.keep r λob=>k a ob (λd=>by exact iH (((F.mem d).1).symm.trans e))⟩,hg.trans R.gens,ho.trans R.os⟩,λb o c e c c=>?_,λc c c h=>h,λb o e=>?_⟩
 · by_cases d:b∈l.filterMap (·.frame)
   · refine AW (F.mem d) λc c T A f=>?_;obtain rfl:=aE (e.symm.trans A);exact iK (U.2.2 b o e) λsl q=>.inr ⟨f,sl,q⟩
   ·exact .inl (k b o d e)
 ·exact iK (U.2.2 b o e) λsl q=>⟨_,q,λc=>⟨rfl,λh=>h⟩⟩
section
variable{A:bT}{env:cD}{S:CS}{s:aO}{a c:Addr}{d:Option Addr}
theorem Cs(O:dM W)(R:jE W S s)(e:S a=some (.exc c d)){Q:Unit->aO->Prop}{E:EP}(h:∀s',eH W none S s S s'->Q () s'):wpAny (bB prog W.w) A (ag3 (.ref a) none) Q E s:=by
 refine jT ((R.rep _ _ e).2) λi o vs ho g hd Y hz ht=>?_;rcases ht with ht|⟨T,u,x,ht,t,hl,n,X,Z,h3⟩;·exact aA (iP ho Y ht (oj (if_neg (by decide)) (wpAny_pure (h s (eH.refl R)))))
 · refine aA (iP ho Y ht (oj (if_pos (show(lN T !=eT)=true from(by rfl))) (ow n Z (BI.mp h3).1 ?_)));exact h _ (eO (s':={s with heap:=s.heap.update T (eF (·.setIfInBounds 3 eT))}) O R (λb o e=>((y0 (f:=eF (·.setIfInBounds 3 eT)) n (uR Z h3)) b).trans e) rfl rfl)
theorem E6(O:dM W)(R:jE W S s)(e:S a=some (.exc c d))(I:A.frames=some (env::outer))(F:wA W S s.heap (env::outer))(hf:env.frame=some L)(h:∀s',eH W none S s S s'->Q () s'):wpAny (bB prog W.w) A (do let f<-frameOf env;let m<-entryPlaceOf L hn;let b<-EntryCells.newEntry head f .none (ru L) .none m;setField (.ref a) 1 b) (λp s'=>wpAny (bB prog W.w) A (ag3 (.ref a) none) Q E s') E s:=by
 refine aA (wpAny_frameOf_fun I F.fun_ hf λh₁ U=>?_);have C:=eH.frames (s':={s with heap:=h₁}) O R F U rfl rfl;refine aA (wpAny_entryPlaceOf λm v=>aA (kH (jT ((C.rel.rep _ _ e).2) λhk o vs ho r hd Y hz p=>?_) (v.sizeOk5 _ _ _ _ _)));dsimp only at ho|-;generalize y:([head,lN L,eT,ru L,eT]++if m.isEmpty=true then bH 6 eT else m).toArray=ts;have g:3<ts.size:=by refine iZ y ?_;simp
 have l:(h₁.push {cls:=.type "traceback",dict:=none,data:=.fields ts}).get? h₁.objs.size=some {cls:=.type "traceback",dict:=none,data:=.fields ts}:=aU _ rfl;have Z:(h₁.push {cls:=.type "traceback",dict:=none,data:=.fields ts}).get? a=some o:=aK _ ho;refine ow Z Y (o63 hz) ?_;have j:h₁.objs.size≠a:=uP (dT ho);have i:=oP Y (·.setIfInBounds 1 (lN h₁.objs.size));have X:1<vs.size:=o63 hz;refine aA (iP (dH (eF (·.setIfInBounds 1 (lN h₁.objs.size))) Z (qA i)) i (x:=.ref h₁.objs.size) (by simp[X]) ?_);refine oj (if_pos (show(lN h₁.objs.size !=eT)=true from rfl)) (ow ((bY (h₁.push {cls:=.type "traceback",dict:=none,data:=.fields ts}) (eF (·.setIfInBounds 1 (lN h₁.objs.size))) (eY j)).trans l) rfl g ?_);generalize n:((h₁.push {cls:=.type "traceback",dict:=none,data:=.fields ts}).update a (eF (·.setIfInBounds 1 (lN h₁.objs.size)))).update h₁.objs.size (eF (·.setIfInBounds 3 ((none:Option Addr).elim eT λf=>ru f)))=H;have k:∀b ob,b≠a->h₁.get? b=some ob->H.get? b=some ob:=λb ob q eb=>by
   refine iZ n (aC (bY _ _ (uP (dT eb))) (aC (bY _ _ (eY q)) ?_));exact aK _ eb
 have z:H.get? h₁.objs.size=some (eF (·.setIfInBounds 3 eT) {cls:=.type "traceback",dict:=none,data:=.fields ts}):=by refine iZ n ?_;exact dH _ ((bY (h₁.push {cls:=.type "traceback",dict:=none,data:=.fields ts}) (eF (·.setIfInBounds 1 (lN h₁.objs.size))) (eY j)).trans l) (qA (oP (o:={cls:=.type "traceback",dict:=none,data:=.fields ts}) rfl (·.setIfInBounds 3 eT)))
 have w:H.get? a=some (eF (·.setIfInBounds 1 (lN h₁.objs.size)) o):=by refine iZ n (aC (bY _ _ j) ?_);exact(dH (eF (·.setIfInBounds 1 (lN h₁.objs.size))) Z (qA i))
 have rep:wo W H a (.exc c d):=by as_aux_lemma=>
   refine⟨hk,_,_,w,(zo ..).trans r,?_,i,by simpa using hz,.inr ⟨h₁.objs.size,_,_,by simp[X],j,?_,z,zo ..,(oP (o:={cls:=.type "traceback",dict:=none,data:=.fields ts}) rfl (·.setIfInBounds 3 eT)),by simp[g]⟩⟩
   · obtain⟨D,t,dt,sl⟩:=o;have:dt=.fields vs:=Y;exact aC this hd
   ·exact C.rel.stat.size
 have B:eH W none S {s with heap:=h₁} S {s with heap:=H}:=by
   have:=vt (s:={s with heap:=h₁}) (s':={s with heap:=H}) (o:=.exc c d) O C.rel e k rfl rfl rep;rwa[LJ e]at this
 exact h _ (C.trans B)
theorem HK(O:dM W)(R:jE W S s)(e:S a=some (.exc c d))(I:A.frames=some (env::outer))(F:wA W S s.heap (env::outer)){Q:Unit->aO->Prop}{E:EP}(h:∀s',eH W none S s S s'->Q () s'):wpAny (bB prog W.w) A (noteFrame (.ref a) env) (λg s'=>wpAny (bB prog W.w) A (ag3 (.ref a) none) Q E s') E s:=by
 refine CZ (F env bS) λg L g hf g=>jT ((R.rep _ _ e).2) λg o vs ho j hd Y hz ht=>?_;unfold noteFrame;refine aC hf ?_;rcases ht with ht|⟨T,u,x,ht,t,hl,n,i,Z,h3⟩;·exact aA (iP ho Y ht (oj (if_neg (by decide)) (E6 O R e I F hf h)))
 · refine aA (iP ho Y ht (oj (if_pos (show(lN T !=eT)=true from(by rfl))) (aA (iP n Z h3 (oj (if_neg (show¬((eT==ru L)=true)from by simp[ru])) (aA (ow n Z (BI.mp h3).1 ?_)))))));have X:=eO (s':={s with heap:=s.heap.update T (eF (·.setIfInBounds 3 eT))}) O R (λb o e=>((y0 (f:=eF (·.setIfInBounds 3 eT)) n (uR Z h3)) b).trans e) rfl rfl;exact E6 (s:={s with heap:=s.heap.update T (eF (·.setIfInBounds 3 eT))}) O X.rel e I (F.ext X) hf λs' U=>h s' (X.trans U)
theorem Au(O:dM W)(R:jE W S s)(e:S a=some (.exc c d))(I:A.frames=some (env::outer))(F:wA W S s.heap (env::outer))(h:∀s',eH W none S s S s'->Q () s'):wpAny (bB prog W.w) A (leaving env (.ref a)) Q E s:=by exact aA (HK O R e I F h)
end
end Internal
namespace Internal
open PySem PySem.W PyProof.Rows PySem.Calls
variable{W:Wd}
section
variable{M:nx}{A:bT}{E:EP}{s:aO}
theorem I6(hn:s.heap.Ns1 a m)(z:∀h',h'.Ns1 a (λx=>if x=name then none else m x)->jF a s.heap h'->(∀o,s.heap.get? a=some o->∃T,h'.get? a=some T/\T.cls=o.cls)->Q (m name).isSome {s with heap:=h'}):wpAny M A (nsDel a name) Q E s:=by
 refine Cg (id hn) λo es ep ho hd hk D hm=>?_;have C:es.any (·.refKey)=false:=by refine qP Hu ?_;intro e he;refine sJ (hk e he) λn t h=>?_;simp[FZ,h]
 have v:(m name).isSome=es.any (·.key.isStr name):=by
   refine iZ (hm name) ?_;simp only[nsFind,findBy,Option.isSome_map];refine qP Bp ?_;simp only[Array.find?_isSome,Array.any_eq_true];constructor;·rintro⟨x,hx,hp⟩;obtain⟨i,hi,rfl⟩:=Array.mem_iff_getElem.mp hx;exact⟨i,hi,hp⟩
   ·rintro⟨i,hi,hp⟩;exact⟨_,JV hi,hp⟩
 have Z:nsHas name o=pure (es.any (·.key.isStr name)):=by
   refine aC nsHas_eq ?_;unfold nsHasByArray;refine aC hd ?_;show(if(es.any λx=>x.key.isStr name)=true then _ else _)=_;generalize(es.any λx=>x.key.isStr name)=b;rcases b<;>simp[C]
 refine aA (xX ho (aC Z (abp ((v)▸?_))));cases hmn:(m name).isSome
 · have W:m name=none:=by cases h:m name<;>simp_all
   have u:(λx=>if x=name then none else m x)=m:=by
     funext x;by_cases hx:x=name;·subst hx;exact aC (if_pos rfl) (aC W rfl)
     ·exact aC (if_neg hx) rfl
   have:=z s.heap (u.symm▸hn) (.refl ..) (λo e=>⟨o,e,rfl⟩);rw[hmn]at this;exact wpAny_pure this
 · refine aA (wpAny_updatePart ho (wpAny_pure ?_));have key:(s.heap.update a (F_ name)).Ns1 a (λx=>if x=name then none else m x)/\∀o,s.heap.get? a=some o->∃T,(s.heap.update a (F_ name)).get? a=some T/\T.cls=o.cls:=by
     refine eC λf=>?_;obtain⟨cl,d,dt,sl⟩:=o;refine f ?_;subst hd;rcases hi:es.findIdx? (·.key.isStr name)with _|i
     · exfalso;rw[v]at hmn;obtain⟨j,hj,hp⟩:=Array.any_eq_true.mp hmn;have:=(Array.findIdx?_eq_none_iff.mp hi) es[j] (JV hj);simp[hp]at this
     · have g:=dH (h:=s.heap) (F_ name) ho (by simp only[BJ,wR,hi]<;>rfl);refine⟨⟨_,_,ep+1,g,(by simp only[BJ,wR,hi]<;>rfl),hk.erase i,D.erase i,λx=>by exact aC (nsFind_erase D hi x) (aC (hm _) rfl)⟩,λo e=>?_⟩;refine iZ ((aE (ho.symm.trans e))) ?_;exact⟨_,g,by simp only[BJ,wR,hi]<;>rfl⟩
   have:=z _ key.1 (iE ..) key.2;rw[hmn]at this;exact this
end
section
variable{n k:Nat}{A:bT}{env:cD}{sc:dD}{vs:cN}{S:CS}{s:aO}
theorem QJ(O:dM W)(z:Ib W)(I:∀j,rS W (aM n) n j)(h:nR W A n env sc vs S s)(e:aI)(p:Pos):dC W (RF W env sc) (some env.locals) A ((rC (eP (aM n) k sc e vs)).bind λv=>nC v) (exec (.Raise (some e) none p) env) S s:=by
 intro K E hm;refine aC (arm_exec_Raise _ _ _ _) (GQ (aL (aL (((I k).e e h.here).calm (eH.refl h.here.rel) hm λc u C H r X y hm=>eC λx=>bX hm λi T=>?_))));clear hm;refine gD i λa cc d R l=>?_;clear i;obtain rfl:=R;refine bX l λF b=>?_;clear l;have q:=gT y;subst q;refine jT ((X.rel.rep _ _ F).2) λN o D ho t hd Y hz ht=>?_;revert N;refineλg=>bX g λN r=>?_;clear g;obtain⟨m,hk⟩:=N;refine bX (z.exc cc m hk b) λw f=>x (GQ (aW (SV (cQ ?_))));have ty:mS (bB prog W.w) H.heap (CG (.ref a)) (.ref cc):=(ou ho).andThen (t▸.now);have it:mS (bB prog W.w) H.heap (isType (.ref a)) false:=by exact(ou ho).andThen (Y▸.now)
 refine aA (c_ (oj (by delta excFromValue isExcClass;rfl) ?_));refine aA (aA (it.here (oj (if_neg (by decide)) (wpAny_pure ?_))));refine oj (if_neg (by decide)) (aA ((ty.andThen (MQ (O.kIn _ X.rel.stat) w):mS (bB prog W.w) H.heap (U4 (.ref a) (.type "BaseException")) true).here (oj (if_pos rfl) (wpAny_pure (aA (it.here ?_))))));exact oj (if_neg (by decide)) (aA (aA (ty.here (aA ((looks_typeIn (O.kIn _ X.rel.stat) f).here (oj (if_pos (by decide)) (wpAny_pure (aA (Cs O X.rel F λJ B=>aA (aX9 (aC h.here.room.handled (abp (wpAny_throw (⟨.ref a,C,(X.trans B).weak,⟨a,cc,d,rfl,rfl,F⟩,T⟩))))))))))))))
end
end Internal
namespace Internal
open PySem PySem.W PyProof.Rows PySem.Calls
variable{W:Wd}
theorem Fe(h:dA x qf=some v):dunder x=false:=by
 have all:qf.all (λp=>!dunder p.1)=true:=by decide+kernel
 have go:∀l:List (Str×CV),l.all (λp=>!dunder p.1)=true->dA x l=some v->dunder x=false:=by intro l;induction l with |nil=>intro _ h;exact iH h|cons a r j=>
   obtain⟨y,w⟩:=a;intro hl h;simp only[wM,bP,hO]at hl;rcases q:qW x y with _|_;·rw[pA q]at h;exact j hl.2 h
   ·refine aC (jW.mp q) ?_;exact hl.1
 exact go _ all h
section
variable{n k:Nat}{A:bT}{env:cD}{sc:dD}{vs:cN}{S:CS}{s:aO}
theorem Ag{K:cN->CS->Prop}{E r:KP}(hm:gK sc vs x c K E S):gK sc vs x c K r S:=by
 unfold gK at hm|-;rcases e:uB sc.names x with _|p;·rw[e]at hm;exact hm
 · obtain⟨i,C⟩:=p;rw[e]at hm;clear e;rcases C<;>first|exact hm|skip
   dsimp only at hm|-;unfold vy at hm|-;rcases q:vs[i]? with _|w;·rw[q]at hm;exact hm
   · rw[q]at hm;clear q;rcases w with _|w;·exact hm
     · rcases w<;>first|exact hm|skip
       refine eC λd=>?_;revert hm;refineλg=>aY g λo eo hm=>?_;clear g;refine d ⟨o,eo,?_⟩;clear d eo;rcases o<;>exact hm
theorem Qw(O:dM W)(I:∀j,rS W (aM n) n j)(h:fK W A n env sc vs S s){x:Str}{Y H:Pos}{e:aI}{K:fZ->CS->Prop}{E b:KP}(f:wb e=true)(hm:eP (aM n) k sc e vs (λv d=>gK sc vs x v (λi p=>K (.next i) p) b d) E S):iQ (bB prog W.w) A (execs [.Assign [.Name x Y] e H] env) (Qk W (RF W env sc) (some env.locals) S s K) (Qe W none S s E) s:=by
 have body:iQ (bB prog W.w) A (exec (.Assign [.Name x Y] e H) env) (λg s'=>g=.next/\Qk W (RF W env sc) (some env.locals) S s K .next s') (Qe W none S s E) s:=by
  refine aC (MW _ _ _) (aL (fJ ?_));have q:swapsWithSole [.Name x Y] e H.line env=pure false:=by
   show yU e (some (.Name x Y)) H.line env=pure false;rcases e<;>first|rfl|exact rR f
  refine aC q (aL (aW (zw (if_neg (by decide)) (aL (cV ((I k).e e h _ _ hm) (λu J⟨c,S1,X,y,hm⟩=>zw (aC (Gq rfl rfl) rfl) (aL (aW (aL (cV (cQ (sZ O (h.ext X) x Y y _ (λa a=>False) (Ag hm))) (λa L q=>?_) λ_ _⟨_,_,_,_,q⟩=>q.elim))))) λa a q=>q)))));obtain⟨i,r,B,o,l⟩:=q;exact aW ⟨rfl,.next i,r,X.weak.trans B,o,l⟩
 refine aL (cV body (λg J q=>?_) λa a q=>q);obtain⟨rfl,q⟩:=q;exact aW q
theorem aQ1(h:stV o=some c):o=some (.st c):=by
 refine aY (IZ h) λv l h=>?_;obtain rfl:=l;rcases v<;>first|exact iH h|(obtain rfl:=aE h;rfl)
theorem UX(h:loQ o=some i):o=some (i,.local):=by
 refine aY (IZ h) λS N h=>?_;obtain rfl:=N;obtain⟨j,k⟩:=S;refine bX (AO h) λe h=>?_;rcases k<;>first|exact rR e|(obtain rfl:=aE h;rfl)
theorem ap4(h:Wp o=some i):o=some (i,.globalImplicit):=by
 refine aY (IZ h) λC L h=>?_;obtain rfl:=L;obtain⟨j,k⟩:=C;refine bX (AO h) λe h=>?_;rcases k<;>first|exact rR e|(obtain rfl:=aE h;rfl)
theorem av3{a:Option CV}{o1 o2 o3:Option (Nat×dW)}{q:Nat×Nat×Nat}(h:ak3 (stV a) (loQ o1) (loQ o2) (Wp o3)=some q):(∃g,o3=some (g,.globalImplicit))/\a=some (.st q.1)/\o1=some (q.2.1,.local)/\o2=some (q.2.2,.local):=by
 refine aY (IZ h) λcc e1 h=>aY (IZ h) λi n h=>aY (IZ h) λj U h=>aY (IZ h) λg I h=>?_;obtain rfl:=aE h;exact⟨⟨g,ap4 I⟩,aQ1 e1,UX n,UX U⟩
theorem ap6{q:Option (Nat×Nat×Nat)}{z n:Str}{vs:cN}{K:fZ->CS->Prop}{a:Addr}{S:CS}{c:Nat}{d:Option Addr}(e:S a=some (.exc c d))(h:Jk q z n vs K (.ref a) S):∃p,q=some p/\∃line A,i_ c fY=some (line,A)/\line.contains p.1=true/\dU p.1 "__init__"=some 36/\z=n/\dunder n=false/\p.2.1≠p.2.2/\K (.next ((vs.set p.2.2 (some (.ref a))).set p.2.1 none)) S:=by
 rcases q with _|q;·exact h.elim
 · unfold Jk at h;dsimp only at h;rw[e]at h;refine bX h λh1 h2=>?_;clear h;rcases o:i_ c fY with _|l;·rw[o]at h1;exact rR h1
   ·rw[o]at h1;exact⟨q,rfl,l.1,l.2,rfl,h1,h2⟩
theorem aj0(O:dM W)(O5:Ib W)(I:∀j,rS W (aM n) n j)(h:nR W A n env sc vs S s)(x:Str)(px:Pos)(e:aI)(pa:Pos)(c:Str)(pc:Pos)(nm y:Str)(py:Pos)(z:Str)(pz pb ph p:Pos):dC W (RF W env sc) (some env.locals) A (Gn (aM n) k sc x e c nm y z vs) (exec (.Try [.Assign [.Name x px] e pa] [.ExceptHandler (some (.Name c pc)) (some nm) [.Assign [.Name y py] (.Name z pz) pb] ph] [] [] p) env) S s:=by
 intro K E hm;revert hm;refineλq_=>bX q_ λN hm=>?_;clear q_;refine aC (arm_exec_Try _ _ _ _ _ _) (aL (fJ ?_));unfold tryStmt;refine zw (if_pos rfl) (aL (si (cV (Qw O I h.here N hm) (λg s1 q=>?_) λer s1 q=>?_)));·rcases g<;>exact aW q
 · clear I N hm;obtain⟨ev,B,X1,⟨a,c',d,rfl,rfl,hS⟩,hE⟩:=q;refine eC λF=>Gg (ap6 hS hE) λg7 eq line xx e0 G c5 g8 f4=>?_;obtain rfl:=g8;refine iR f4 λY g9 hK=>?_;clear f4;obtain⟨cc,i,j⟩:=g7;refine s9 (av3 eq) λf6 q1 q2 q3=>iK f6 λg q4=>?_;clear f6;have h1:=h.ext X1;refine iK h1.top λf8 Z=>aY h1.here.frs λl hl FF=>F ?_;clear h hE g9;obtain rfl:=aE (Z.symm.trans hl);refine bF (gS (HK O h1.here.rel hS Z FF (Q:=λw s'=>eH W none B s1 B s') λs' X=>X) (λw s2 q=>zw (if_neg (by simp)) (bF (gS q (λw s3 f3=>?_) λw w q=>q))) λw w q=>q);have h3:=h1.ext f3;refine bO (by rfl) (bO (by rfl) ?_);have H:iQ (bB prog W.w) A (J7 (.handlers (.ref a) [.ExceptHandler (some (.Name c pc)) none [] ph] env) env (some (.ref a))) (λf s'=>f=.brk/\eH W none B s3 B s') (Qe W (some env.locals) S s E) s3:=by
     refine rD (gV ?_) (by rfl) (by intro x;cases x);have hA:(A.mark (some (.ref a))).under (.handlers (.ref a) [.ExceptHandler (some (.Name c pc)) none [] ph] env)=A.mark (some (.ref a)):=iO rfl rfl;refine aC hA (aL (jZ (aL (fJ ?_))));have e9:=Fe q1;refine aC (IR _ _ _) (aL (aL (fJ ?_)));have nd:¬(c==("__debug__":Str))=true:=by
       intro q;have:dunder c=true:=by refine aC (eq_of_beq q) ?_;decide+kernel
       cases(this.symm.trans e9)
     refine zw (if_neg nd) ?_;have hn:qV sc vs c (λv S'=>v=.st cc/\S'=B) (λw w=>False) B:=by
       unfold qV;refine aC e9 (aC q4 ?_);show xn _ _ _ _;unfold xn;exact aC q1 ⟨rfl,rfl⟩
     refine cV (cQ (DT O h3.here.rel h3.here.eo _ _ hn)) (λtv s4 q=>?_) λ_ _⟨_,_,_,_,q⟩=>q.elim;clear q1 q4 h1 Z hl FF hA e9;obtain⟨cv,S4,X4,yv,rfl,rfl⟩:=q;have:tv=.ref cc:=yv;subst this;refine aL (fJ (eC λF=>jT ((X4.rel.rep _ _ hS).2) λw o ws ho hc hd h9 hz ht=>F (bF ((exm_one (O.kIn _ X4.rel.stat) ((ou ho).andThen (by refine aC hc ?_;exact .now)) (O5.match_ c' line xx cc e0 G c5)).here ?_))));exact aW (aW ⟨rfl,X4⟩)
   have T:∃T:cN,Sub T vs/\Sub vs T/\i<T.length/\j<T.length:=by
     refine⟨vs++bH (i+j+1) none,λt v e=>?_,λt v e=>?_,by simp;exact aV7,by simp;exact aK9⟩
     · by_cases q:t<vs.length;·rwa[CH q]at e
       · rw[List.getElem?_append_right (ut q),List.getElem?_replicate]at e;split at e<;>simp at e
     · have q:=(aR.mp e).1;refine aC (CH q) ?_;exact e
   refine eC λF=>?_;revert T;refineλq_=>wi q_ λT L P li lj=>?_;clear q_;refine F ?_;have r:∀{x:Str}{c:CV}{u:aP}{ii:Nat}{U:cN}{s:aO}{A:bT}{Q:Unit->aO->Prop}{Ee:EP},uB sc.names x=some (ii,.local)->jE W B s->iV W env sc U s.heap->B env.locals=none->V W s.heap c u->(∀s',eH W (some env.locals) B s B s'->iV W env sc (U.set ii (some c)) s'.heap->Q () s')->wpAny (bB prog W.w) A (qG env x u) Q Ee s:=by
     intro x c u ii U s A Q Ee hx R EO hL yv hQ;refine aA (c_ (jB (aA (gS (xt O R EO hL yv (λf0 S'=>f0=U.set ii (some c)/\S'=B) (λw w=>False) (by refine aC (iL hx) ?_;exact⟨rfl,rfl⟩)) (λw s' q=>?_) λ_ _⟨_,_,_,_,q⟩=>q.elim))));refine eC λF=>?_;clear O5 q1 q4 c5 e0 G h1 Z hl FF hx R EO hL;obtain⟨f0,S',X,e',rfl,rfl⟩:=q;exact F (jB (hQ s' X e'))
   have C:∀{s4:aO},eH W none B s3 B s4->iQ (bB prog W.w) A (J7 (.handlers (.ref a) [.ExceptHandler none (some z) [.Assign [.Name y py] (.Name z pz) pb] ph] env) env (some (.ref a))) (λf s'=>f=.next/\eH W (some env.locals) B s4 B s'/\iV W env sc ((T.set i (some (.ref a))).set j (some (.ref a))) s'.heap) (Qe W (some env.locals) S s E) s4:=by
     intro s4 X4;refine rD (gV (aC (iO rfl rfl) (cQ (aA (aY0 (aA (rN (aA (Cs O (h3.ext X4).here.rel hS λs5 X5=>?_))))))))) (by rfl) (by intro x;cases x);have h5:=(h3.ext X4).ext X5;refine aA (r q2 h5.here.rel (h5.here.eo.sub L) h5.here.own V.ref λs6 X6 D=>aA (IM (aA (aC (MW _ _ _) (aA (rN (aA (wpAny_pure (oj (if_neg (by decide)) (aA (aC (IR _ _ _) (aA (rN ?_)))))))))))));have nd:¬(z==("__debug__":Str))=true:=by
       intro q;have:dunder z=true:=by refine aC (eq_of_beq q) ?_;decide+kernel
       cases(this.symm.trans Y)
     refine oj (if_neg nd) ?_;have hn:qV sc (T.set i (some (.ref a))) z (λv S'=>v=.ref a/\S'=B) (λw w=>False) B:=by
       unfold qV;refine aC Y (aC q2 ?_);dsimp only;unfold lv;refine aC (pJ li) ?_;exact⟨rfl,rfl⟩
     refine gS (DT O X6.rel D _ _ hn) (λtv s7 q=>eC λF=>?_) λ_ _⟨_,_,_,_,q⟩=>q.elim;clear O5 hS q1 q4 c5 Y e0 G h1 Z hl FF L nd hn;obtain⟨cv,S7,X7,yv,rfl,rfl⟩:=q;refine F ?_;have e7:=D.e0 X6.rel X7 h5.here.own;refine oj (aC (Gq rfl rfl) rfl) (aA (wpAny_pure (aA (aA (rN (r q3 X7.rel e7 h5.here.own yv λs8 X8 e8=>?_))))));exact wpAny_pure (wpAny_pure (wpAny_pure (wpAny_pure ⟨rfl,((X5.weak.trans X6).trans X7.weak).trans X8,e8⟩)))
   refine aL (bI (cV H (λf s4 q=>bX q λg4 X4=>?_) λw w q=>q));clear q;obtain rfl:=g4;refine aL (aW (bO (by rfl) (aL (bI (cV (C X4) (λf s5 q=>?_) λw w q=>q)))));clear O5 hS q1 q4 c5 Y e0 G h1 Z hl FF H L C;refine bX q λg5 f5=>?_;clear q;obtain rfl:=g5;refine bX f5 λX5 e5=>?_;clear f5;refine bF (c_ (aA (r (c:=.none) (u:=.none) q2 X5.rel e5 h3.here.own V.none λs6 X6 D=>?_)));delta unbindBehindTheSuite unbindName deleteName;have e4:env.kindOf z=some .local:=by
     rcases D.kinds z i _ q2 with q|⟨q,_⟩;·exact q
     ·contradiction
   refine aY0 (aA (jB (aA (aC e4 (aC D.kind (eC λF=>aY D.ns λm n1 hv=>aY (hv z i .none q2 (aC (pJ (by simpa using li)) rfl)) λu0 e3 w=>?_))))));refine F (aA (m:=nsDel env.locals z) (I6 n1 λh' n' sb J=>oj (aC e3 rfl) (wpAny_pure (jB ?_))));have X7:eH W (some env.locals) B s6 B {s6 with heap:=h'}:=eH.locals O X6.rel D h3.here.own sb (λo eo=>by
     refine eC λF=>aY (J o eo) λo' e' c'=>qi n' λo2 es ep e2 d2 w=>?_;clear n';refine F ?_;obtain rfl:=aE (e'.symm.trans e2);exact⟨o',e',c',λw vs q=>by cases(d2.symm.trans q)⟩) rfl rfl;have e7:iV W env sc ((vs.set j (some (.ref a))).set i none) h':=by
     refine⟨D.kind,D.glob,D.blt,D.n1,⟨_,n',λx t v ex ev=>?_⟩,λx t kd g6 ex hk ev=>?_,D.kinds,D.lam⟩
     · have ht:t≠i:=by
         clear O li r e5 e4 n1 e3 n' sb J;rintro rfl;rw[f_]at ev;simp at ev
       have h8:x≠z:=λq=>ht (by rw[q,q2]at ex;simp at ex;exact ex.symm);rw[jJ (eY ht)]at ev;have f7:(((T.set i (some (.ref a))).set j (some (.ref a))).set i (some qH))[t]?=some (some v):=by
         refine aC (jJ (eY ht)) ?_;by_cases hj:t=j
         · subst hj;refine aC (pJ (by simpa using lj)) ?_;rw[f_]at ev;simp at ev;exact aC ev.2 rfl
         · rw[jJ (eY hj)]at ev|-;refine aC (jJ (eY ht)) ?_;exact P t v ev
       refine aY (hv x t v ex f7) λu hu yv=>⟨u,by refine aC (if_neg h8) ?_;exact hu,yv.keep (X7.immK X6.rel (λb o q=>D.notImm b o q))⟩
     · have ht:t≠i:=by
         clear O q2 q P li lj r e5 D e4 n1 hv e3 n' sb J;rintro rfl;rw[f_]at ev;simp at ev
       rw[jJ (eY ht)]at ev;by_cases hj:t=j
       · clear O q2 q P li lj r e5 D e4 n1 hv e3 n' sb J ht;subst hj;have:=mP ex;rw[mP q3]at this;simp at this;refine eC λF=>?_;rcases hk with rfl|rfl;refine F ?_;·cases this.2
         ·cases this.2
       · rw[jJ (eY hj)]at ev;exact h3.here.eo.cell x t kd g6 ex hk ev
   exact aW ⟨.next _,B,((((X1.trans f3).weak.trans X4.weak).trans X5).trans X6).trans X7,e7,hK⟩
end
end Internal
namespace Internal
set_option backward.match.sparseCases false
open PySem PySem.W PyProof.Rows PySem.Calls
variable{W:Wd}
structure CW(W:Wd):Prop where
 o:dM W
 o2:jD W
 o3:n8 W
 o4:C6 W
 o5:Ib W
section
variable{n k:Nat}{A:bT}{env:cD}{sc:dD}{vs:cN}{S:CS}{s:aO}
theorem ai9{P:Prop}{b:List Stmt}{hs:List aX2}{o f:List Stmt}{d:TryD}(h:Q4 b hs o f=some d)(k:∀Y H p py A x E,b=[.Assign [.Name d.x Y] d.e H]->hs=[.ExceptHandler (some (.Name d.c p)) (some d.n) [.Assign [.Name d.y py] (.Name d.z A) x] E]->o=[]->f=[]->P):P:=by
 refine aY (MG h) λa e1 h=>gD (UZ h) λa a H n h=>aY (MG h) λa U h=>eJ (KN h) λa Y L h=>aY (MG h) λN m h=>?_;obtain⟨c,nm,body,E⟩:=N;refine aY (IZ h) λa Z h=>eJ (KN h) λa p J h=>aY (IZ h) λa O h=>aY (MG h) λa G h=>gD (UZ h) λa a x g h=>aY (MG h) λa i h=>eJ (KN h) λa py z h=>eJ (KN h) λa A e h=>bX (MH h) λI h=>bX (MH h) λF h=>?_;obtain rfl:=aE h;exact k Y H p py A x E (aC e1 (aC n (aC U (aC L rfl)))) (aC m (aC Z (aC J (aC O (aC G (aC g (aC i (aC z (aC e rfl))))))))) I F
theorem Yr(G:CW W)(C:qO W (aM n) n)(J:UJ W n k)(h:nR W A n env sc vs S s)(st:Stmt):dC W (RF W env sc) (some env.locals) A (QU (aM n) (k+1) sc st vs) (exec st env) S s:=by
 have I:=eok (n:=n) G.o G.o2 G.o3 C;rcases st<;>first|exact dC.fail|skip
 · revert value pos;intro e p;exact LS I h e p
 · revert targets value pos;intro ts e p;show dC W (RF W env sc) (some env.locals) A (match ts with |[t]=>(match yO [t] e with |true=>(Fw (aM n) k sc e vs).bind λv=>(JF (aM n) k sc t v vs).bind λvs'=>.pure (.next vs')|false=>.fail)|_=>.fail) _ S s;rcases ts with _|⟨t,r⟩;·exact dC.fail
   · rcases r with _|⟨_,_⟩
     · rcases q:yO [t] e with _|_;·dsimp only;refine aC q ?_;exact dC.fail
       ·dsimp only;refine aC q ?_;exact L9 G.o G.o2 G.o3 G.o4 C I h.here t e p q
     ·exact dC.fail
 · revert target iter body orelse pos;intro t it b o p;rcases o with _|⟨_,_⟩;·exact av0 G.o G.o2 G.o3 C I J h t it b p
   ·exact dC.fail
 · revert test body orelse pos;intro t b o p;rcases o with _|⟨_,_⟩;·exact RW I J h t b p
   ·exact dC.fail
 · revert test body orelse pos;intro t b o p;exact aG8 I J h t b o p
 · revert exc cause pos;intro e c p;rcases e with _|e;·exact dC.fail
   · rcases c with _|c;·exact QJ G.o G.o5 I h e p
     ·exact dC.fail
 · revert body handlers orelse finalbody pos;intro b hs o f p;show dC W (RF W env sc) (some env.locals) A (match Q4 b hs o f with |some d=>Gn (aM n) k sc d.x d.e d.c d.n d.y d.z vs|none=>.fail) _ S s;rcases q:Q4 b hs o f with _|d;·exact dC.fail
   ·exact ai9 q λpx pa pc py pz pb ph e1 e2 e3 e4=>aC e1 (aC e2 (aC e3 (aC e4 (aj0 G.o G.o5 I h _ _ _ _ _ _ _ _ _ _ _ _ _ _))))
 · revert value pos;intro e p;show dC W (RF W env sc) (some env.locals) A (match wb e with |true=>(eP (aM n) k sc e vs).bind λι=>.pure (.next vs)|false=>.fail) _ S s;rcases q:wb e with _|_;·exact dC.fail
   ·exact Wy I h e p q
 ·exact Vq h _
theorem sok(G:CW W)(C:qO W (aM n) n):∀k,UJ W n k:=by intro k;induction k with |zero=>exact⟨λa a=>dC.fail,λa a=>dC.fail⟩|succ k j=>exact⟨λst h=>Yr G C j h st,λss h=>RJ j h ss⟩
end
end Internal
namespace Internal
open PySem PySem.W PyProof.Rows PySem.Calls
variable{W:Wd}
structure al1(W:Wd):Prop where
 fn:∀a fd dv,wx a=some (fd,dv)->∀h,uz W h->∃o f,h.get? a=some o/\o.data=.func f/\f.params=fd.params/\f.body=.stmts fd.body/\f.scope=fd.scope/\f.globals=fC/\f.builtins=jN/\f.closure=[]/\h.CodeRec f.code f.qualname/\(iD fd.scope=true->∃c P,f.code=.ref c/\(c,P,(f.qualname++".<locals>.")++"<lambda>")∈W.tabs)/\∃dvs,Vs W h dv dvs/\((f.defaults=.none/\dvs=[])\/∃t n,f.defaults=.ref t/\h.get? t=some {cls:=.type "tuple",data:=.seq dvs.toArray n})
theorem uj{ns:List Str}{vs:List aP}{x:Str}(hx:x∈ns.take vs.length):((ns.zip vs).lookup x).isSome=true:=by induction ns generalizing vs with |nil=>simp at hx|cons a r j=>
   rcases vs with _|⟨v,q⟩;·simp at hx
   · refine aC oN (aC eG ?_);rcases e:x==a with _|_
     · simp only[kQ,List.take_succ_cons,a_]at hx;rcases hx with rfl|hx;·simp at e
       ·exact j hx
     ·rfl
theorem sI{ns:List Str}{vs:List aP}(hd:ns.Nodup)(hl:vs.length=ns.length):(ns.filterMap λn=>((ns.zip vs).lookup n).map (n,·))=ns.zip vs:=by
 have go:∀(pre:List (Str×aP))(ns:List Str)(vs:List aP),ns.Nodup->vs.length=ns.length->(∀p∈pre,p.1∉ns)->(ns.filterMap λn=>((pre++ns.zip vs).lookup n).map (n,·))=ns.zip vs:=by
   intro pre ns;induction ns generalizing pre with |nil=>intro vs _ _ _;rfl|cons a r j=>
     intro vs hd hl hp;rcases vs with _|⟨v,q⟩;·contradiction
     · replace hd:=cZ.mp hd;have e:(pre++(a::r).zip (v::q)).lookup a=some v:=by
         refine aC oN ?_;have:pre.lookup a=none:=by
           rcases z:pre.lookup a with _|w;·rfl
           · exfalso;have:∃p∈pre,p.1=a:=by clear j hp;induction pre with |nil=>exact iH z|cons b pre f=>
                 rw[eG]at z;rcases t:a==b.1 with _|_;·rw[t]at z;refine aY (f z) λp hp e=>?_;exact⟨p,.tail _ hp,e⟩
                 ·exact⟨b,bS,(eq_of_beq t).symm⟩
             refine aY this λp m e=>?_;clear this;exact hp p m (by refine aC e ?_;simp)
         refine aC List.lookup_append (aC this ?_);simp
       refine aC List.filterMap_cons (aC e ?_);simp only[Kd];refine aC oN ?_;congr 1;have:=j (pre++[(a,v)]) q hd.2 (by simpa using hl) (λp m=>by
         rcases gH.mp m with h|h;·exactλhm=>hp p h (.tail _ hm)
         ·simp at h;subst h;exact hd.1);rw[nB]at this;exact this
 exact go [] ns vs hd hl (by simp)
theorem EA{M:nx}{A:bT}{E:EP}{s:aO}{f:aA8}{as:List Arg}{d:List aI}{avs dvs:List aP}(hp:f.params=⟨[],as,none,[],[],none,d⟩)(hn:(as.map (·.arg)).Nodup)(hd:(f.defaults=.none/\dvs=[])\/∃t n,f.defaults=.ref t/\s.heap.get? t=some {cls:=.type "tuple",data:=.seq dvs.toArray n})(h1:avs.length<=as.length)(h2:as.length<=avs.length+dvs.length)(h3:dvs.length<=1)(h4:dvs.length<=as.length){Q:List (Str×aP)->aO->Prop}(h:Q ((as.map (·.arg)).zip (avs++dvs.drop (avs.length+dvs.length-as.length))) s):wpAny M A (bindArgs f ⟨avs,[]⟩) Q E s:=by
 have z:∀{Q:Option (Array aP)->aO->Prop},(∀o:Option (Array aP),(o.getD #[]).toList=dvs->Q o s)->wpAny M A (seqItems? f.defaults) Q E s:=by
   intro Q D;rcases hd with⟨e,rfl⟩|⟨t,n,e,g⟩;·exact aC e (dQ (a:=none) rfl (D none rfl))
   ·exact aC e (qD g rfl (D (some dvs.toArray) (rfl)))
 generalize U:as.map (·.arg)=ns at*;have c:ns.length=as.length:=by refine iZ U ?_;simp
 unfold bindArgs;refine oj (aC hp rfl) ?_;dsimp only;refine aC U (oj (by simp only[yR,rn,lP,pH,pure_bind];rfl) ?_);refine aA (z λo eo=>eo▸?_);have m:dvs.drop (dvs.length-ns.length)=dvs:=by refine aC (show dvs.length-ns.length=0 by exact(qy (c▸h4))) ?_;rfl
 refine aC m (oj (if_neg (by simp;exact(aB h1 (bA c.symm)))) ?_);have B:((ns.take (ns.length-dvs.length)).filter λn=>(mT n (ns.zip avs)).isNone)=[]:=by
   refine qP uH ?_;intro x hx;have I:x∈ns.take avs.length:=by
     have:ns.take (ns.length-dvs.length)=(ns.take avs.length).take (ns.length-dvs.length):=by exact aC List.take_take (aC (fX (Nat.sub_le_of_le_add (c▸h2))) rfl)
     rw[this]at hx;exact Hy hx
   have:=uj I;refine qP nS ?_;intro e;rw[e]at this;contradiction
 refine aC B (oj (if_neg (by simp)) ?_);have w:∃sl:List (Str×aP),(forIn ((List.drop (ns.length-dvs.length) ns).zip dvs) (ns.zip avs) (λx j=>if(mT x.fst j).isNone=true then pure (iN (j++[(x.fst,x.snd)]))else pure (iN j)):Sem (List (Str×aP)))=pure sl/\(ns.filterMap λn=>(sl.lookup n).map (n,·))=ns.zip (avs++dvs.drop (avs.length+dvs.length-as.length)):=by
   clear hp hd z U eo m B;rcases dvs with _|⟨dv,r⟩;·exact⟨ns.zip avs,by simp,aC wK (aC (lP _) (sI hn (aE5 c h2 h1)))⟩
   · rcases r with _|⟨_,_⟩
     · dsimp only[kQ,List.length_nil,nX]at h2 h4|-;obtain⟨init,last,rfl⟩:∃init last,ns=init++[last]:=by
         rcases List.eq_nil_or_concat ns with e|⟨i,l,e⟩;·rw[e]at c;simp at c;exact absurd (c▸h4) (Nat.not_succ_le_zero 0)
         ·exact⟨i,l,by simpa using e⟩
       have O:init.length+1=as.length:=by simpa using c
       have k:(init++[last]).drop ((init++[last]).length-1)=[last]:=by simp
       refine aC k ?_;simp only[oN,List.zip_nil_left,h_,pH];by_cases hg:avs.length=as.length
       · have hs:(mT last ((init++[last]).zip avs)).isSome=true:=uj (by refine aC (dE (by simp;exact(aB (bA O) (bA hg.symm)))) ?_;simp);have C:(mT last ((init++[last]).zip avs)).isNone=false:=by
           rcases q:mT last ((init++[last]).zip avs)with _|v;·rw[q]at hs;contradiction
           ·rfl
         refine aC C ⟨(init++[last]).zip avs,(by rfl),aC (show avs.length+1-as.length=1 by exact(hg▸pE _ _)) ?_⟩;simp only[List.drop_succ_cons,r8,lP];exact sI hn (by simp;exact aL2 O hg)
       · have p:avs.length=init.length:=aJ0 O h2 h1 hg;have hz:(init++[last]).zip avs=init.zip avs:=by
           have e1:avs=avs++[]:=by simp
           conv=>lhs;rw[e1]
           refine aC (MX p.symm) ?_;simp
         have W:mT last (init.zip avs)=none:=by
           have J:last∉init:=by intro hm;have:=lW.mp hn;exact this.2.2 last hm last bS rfl
           rcases q:mT last (init.zip avs)with _|v;·rfl
           · exfalso;have:∀(a:List Str)(b:List aP),last∉a->mT last (a.zip b)=none:=by intro a;induction a with |nil=>intro b _;simp|cons x a F=>
                 intro b hx;rcases b with _|⟨y,b⟩;·rfl
                 · refine aC oN (aC eG ?_);rw[a_,not_or]at hx;have:(last==x)=false:=by simpa using hx.1
                   exact aC this (F b hx.2)
             exact iH ((this init avs J).symm.trans q)
         refine aC hz (aC W ⟨init.zip avs++[(last,dv)],(by rfl),aC (show avs.length+1-as.length=0 by exact aV9 O p) (aC r8 ?_)⟩);have u:init.zip avs++[(last,dv)]=(init++[last]).zip (avs++[dv]):=by refine aC (MX p.symm) ?_;rfl
         exact aC u (sI hn (by simp[p]))
     ·simp at h3
 refine aY w λsl e1 u=>?_;clear w;exact e1▸(abp (oj (if_neg (by simp)) (u▸(wpAny_pure h))))
end Internal
namespace Internal
open PySem PySem.W PyProof.Rows PySem.Calls
variable{W:Wd}
theorem ab3(h:Fn x l=true):x∉l:=by induction l with |nil=>simp|cons a r j=> have h:=dR.mp (h:(!qW x a&&Fn x r)=true);exact qP a_ (qP not_or ⟨(λq=>by have h:=h.1;replace h:=(oX _)▸(q▸h);cases h),j h.2⟩)
theorem DR(h:A0 l=true):l.Nodup:=by induction l with|nil=>simp|cons a r j=> have h:=dR.mp (h:(Fn a r&&A0 r)=true);exact qP cZ ⟨ab3 h.1,j h.2⟩
theorem Vd(O:dM W)(hf:∀name kind cells,f (name,kind) cells=if(kind==lK)=true then(do let c<-alloc {cls:=.type "cell",data:=.cell none};pure (.yield ((name,c)::cells)))else pure (.yield cells)):∀{ns:List (Str×dW)}{acc:List (Str×Addr)}{S:CS}{s:aO},jE W S s->(ns.map (·.1)).Nodup->∀{K:cN->CS->Prop}{E},Kz ns K E S->∀{Q:List (Str×Addr)->aO->Prop}{Ee:EP},(∀(cells:List (Str×Addr))(vs:cN)(d:CS)(s':aO),eH W none S s d s'->K vs d->(∀(i:Nat)(x:Str)(k:dW),ns[i]?=some (x,k)->(k=.cell->∃c,vs[i]?=some (some (.ref c))/\cells.lookup x=some c)/\(k≠.cell->vs[i]?=some none))->(∀x,x∉ns.map (·.1)->cells.lookup x=acc.lookup x)->Q cells s')->wpAny (bB prog W.w) A (forIn ns acc f) Q Ee s:=by intro ns;induction ns with |nil=> intro acc S s R _ K E hm Q Ee z;exact oj pH (wpAny_pure (z acc [] S s (eH.refl R) hm (λi x k e=>by exact iH e) (λx a=>rfl)))|cons G r j=>
   obtain⟨x,k⟩:=G;intro acc S s R hd K E hm Q Ee z;replace hd:=propext cZ▸(fH▸hd);refine aC (h_ _ _ _ _) (aC (hf _ _ _) ?_);by_cases hk:k=.cell
   · subst hk;refine aC ((if_pos (show(lK==lK)=true from rfl))) (aA (aba (wpAny_pure ?_)));have g0:(s.heap.push {cls:=.type "cell",data:=.cell none}).get? s.heap.objs.size=some {cls:=.type "cell",data:=.cell none}:=aU _ rfl;have X:=eH.new (s':={s with heap:=s.heap.push {cls:=.type "cell",data:=.cell none}}) (o:=.cell none) O R (λb o e=>aK _ e) rfl rfl R.stat.size (bL (bM _)) ⟨none,g0,trivial⟩;refine j X.rel hd.2 (K:=λvs d=>K (some (.ref s.heap.objs.size)::vs) d) (hm s.heap.objs.size (R.none_ (bL (bM _)))) λcells vs d s' Y l g hl=>?_;refine z cells _ d s' (X.trans Y) l (λi y F e=>?_) (λy hy=>?_)
     · rcases i with _|i
       · simp at e;refine bX e λp T=>?_;clear e;obtain rfl:=p;obtain rfl:=T;refine⟨λa=>⟨s.heap.objs.size,rfl,?_⟩,λh=>absurd rfl h⟩;have N:(x==x)=true:=by simp
         exact aC (hl x hd.1) (aC eG (aC N rfl))
       ·exact g i y F (e)
     · replace hy:=propext not_or▸(propext a_▸(fH▸hy));refine aC (hl y hy.2) (aC eG ?_);have:(y==x)=false:=by simpa using hy.1
       exact aC this rfl
   · refine aC (if_neg (by simpa using hk)) (abp ?_);have hm:((Kz r).bind λq=>jR (none::q)) K E S:=by rcases k<;>first|exact hm|exact absurd rfl hk
     refine j R hd.2 (K:=λvs d=>K (none::vs) d) hm λcells vs d s' Y l g hl=>z cells _ d s' Y l (λi y F e=>?_) (λy hy=>?_)
     · rcases i with _|i
       · simp at e;refine bX e λa t=>?_;clear e;obtain rfl:=t;exact⟨λh=>absurd h hk,λa=>rfl⟩
       ·exact g i y F (e)
     · replace hy:=propext not_or▸(propext a_▸(fH▸hy));exact hl y hy.2
theorem LF(O:dM W)(hf:∀n v u,f (n,v) u=(do ae5 env n v;pure (.yield ⟨⟩))):∀{bs:List (Str×CV)}{p:List (Str×aP)}{vs:cN}{S:CS}{s:aO},jE W S s->iV W env sc vs s.heap->S env.locals=none->KV W s.heap bs p->∀{K:cN->CS->Prop}{E},rq sc bs vs K E S->∀{Q:PUnit->aO->Prop}{Ee:EP},(∀h d s',eH W (some env.locals) S s d s'->iV W env sc h s'.heap->K h d->Q ⟨⟩ s')->wpAny (bB prog W.w) A (forIn p ⟨⟩ f) Q Ee s:=by intro bs;induction bs with
 |nil=>
  intro p vs S s R X j w K E hm Q Ee z;rcases p with _|_;·exact oj pH (wpAny_pure (z vs S s (eH.refl R) X hm))
  ·exact w.elim|cons k bs t=>
  obtain⟨x,c⟩:=k;intro p vs S s R X j w K E hm Q Ee z;rcases p with _|⟨⟨y,u⟩,p⟩;·exact w.elim
  revert w;refineλg=>bX g λi w=>?_;clear g;refine bX i λl D=>?_;clear i;obtain rfl:x=y:=l;refine aC (h_ _ _ _ _) (aC (hf _ _ _) (aA (aA (gS (xt O R X j D _ (λa a=>False) (Ag hm)) (λa H q=>eC λe=>?_) λ_ _⟨_,_,_,_,q⟩=>q.elim))));obtain⟨J,G,C,e1,T⟩:=q;refine aY X.ns λm N a=>gD N λo es ep ho a=>?_;clear N;exact e (wpAny_pure (t C.rel e1 (C.dom _ o ho j) (w.keep (C.immK R (λb o q=>X.notImm b o q))) T λh d s' B r F=>z h d s' (C.trans B) r F))
structure vw(W:Wd)(env:cD)(scope:dD)(vs:cN)(S:CS)(s:aO)(S':CS)(s':aO):Prop where
 ext:eH W none S s S' s'
 eo:iV W env scope vs s'.heap
 own:S' env.locals=none
 new:s.heap.get? env.locals=none
 fr:env.frame=some env.locals
 obj:∃o,s'.heap.get? env.locals=some o/\o.cls=.type "frame"/\∀vs,o.data≠.fields vs
theorem Lu(O:dM W){A:bT}{scope:dD}{bs:List (Str×CV)}{F:List (Str×aP)}{qual:Str}{a:Addr}{code:aP}{S:CS}{s:aO}(hk:scope.kind=.function)(n:(scope.names.map (·.1)).Nodup)(R:jE W S s)(w:KV W s.heap bs F)(j:iD scope=true->∃c P,code=.ref c/\(c,P,qual++"<lambda>")∈W.tabs){K:cN->CS->Prop}{E}(hm:Ma scope bs K E S){Q:cD->aO->Prop}{Ee:EP}(I:∀env vs H s',vw W env scope vs S s H s'->K vs H->Q env s'):wpAny (bB prog W.w) A (qE scope fC [] F qual (some a) code none jN) Q Ee s:=by
 dsimp only[qE,HA,iB,if_false];refine aba ?_;have N:∀b o,s.heap.get? b=some o->(s.heap.push {cls:=.type "frame",data:=.dict #[]}).get? b=some o:=λb o e=>aK _ e;have C:=eO (s':={s with heap:=s.heap.push {cls:=.type "frame",data:=.dict #[]}}) O R N rfl rfl;have T:(s.heap.push {cls:=.type "frame",data:=.dict #[]}).get? s.heap.objs.size=some {cls:=.type "frame",data:=.dict #[]}:=aU _ rfl;have u:s.heap.get? s.heap.objs.size=none:=bL (bM _);have G:=R.stat.size;generalize hL:s.heap.objs.size=L at*;have r:S L=none:=R.none_ u;refine aA (Vd O (λname kind cells=>by cases hkc:kind==lK<;>simp[hkc]) C.rel n hm λcells vs S2 Z B z g hl=>?_);have p:S2 L=none:=B.dom L _ T r;have e2:iV W {scope:=scope,locals:=L,globals:=fC,cells:=cells,qual:=qual,func:=some a,code:=code,frame:=some L,builtins:=jN} scope vs Z.heap:=by
   refine⟨hk,rfl,rfl,G,⟨λd=>none,?_,λx i v e f=>?_⟩,λx i k c e m f=>?_,λx i k e=>.inl (idx_lookup e),j⟩;·exact IB (wI ⟨_,#[],0,T,rfl,(λe he=>by simp at he),λd=>rfl⟩) (λo e=>by obtain rfl:=aE (T.symm.trans e);exact(B.keep L _ G T r (by simp)))
   · have:=(g i x .local (mP e)).2 ((by decide));exact absurd (this.symm.trans f) nofun
   · refine eC λY=>?_;rcases m with rfl|rfl;refine Y ?_
     · refine aY ((g i x .cell (mP e)).1 rfl) λc' h1 h2=>?_;cases(h1.symm.trans f);exact h2
     · have:=(g i x .free (mP e)).2 ((by decide));cases(this.symm.trans f)
 refine aA (LF O (λd d d=>rfl) B.rel e2 p ((w.keep (C.imm0 R)).keep (B.imm0 C.rel)) z λh J s3 y U hK=>wpAny_pure (I _ h J s3 ⟨?_,U,?_,u,rfl,?_⟩ hK));·exact((C.trans B).weak.trans y).strong u
 ·exact aY (B.there L _ T) λo ho d=>y.dom L o ho p
 ·exact aY (B.there L _ T) λo ho t=>aY (y.there L o ho) λX l D=>⟨X,l,((t r).trans (D p)).1,((t r).trans (D p)).2 (λvs q=>by contradiction)⟩
theorem Ji(O:dM W){A:bT}{scope:dD}{clo cells:List (Str×Addr)}{bs:List (Str×CV)}{t:List (Str×aP)}{qual:Str}{a:Addr}{code:aP}{S:CS}{s:aO}(hk:scope.kind=.function)(J:oA scope.names=true)(g:∀x c,dA x cells=some c->clo.lookup x=some c)(R:jE W S s)(w:KV W s.heap bs t)(j:iD scope=false){K:cN->CS->Prop}{E}(hm:rq scope bs (xj cells scope.names) K E S){Q:cD->aO->Prop}{Ee:EP}(D:∀env vs n s',vw W env scope vs S s n s'->K vs n->Q env s'):wpAny (bB prog W.w) A (qE scope fC clo t qual (some a) code none jN) Q Ee s:=by
 dsimp only[qE,HA,iB,if_false];refine aba ?_;have H:∀b o,s.heap.get? b=some o->(s.heap.push {cls:=.type "frame",data:=.dict #[]}).get? b=some o:=λb o e=>aK _ e;have C:=eO (s':={s with heap:=s.heap.push {cls:=.type "frame",data:=.dict #[]}}) O R H rfl rfl;have P:(s.heap.push {cls:=.type "frame",data:=.dict #[]}).get? s.heap.objs.size=some {cls:=.type "frame",data:=.dict #[]}:=aU _ rfl;have u:s.heap.get? s.heap.objs.size=none:=bL (bM _);have I:=R.stat.size;generalize hL:s.heap.objs.size=L at*;have p:S L=none:=R.none_ u;rw[aA4 clo (λx hx c=>by
     obtain⟨name,kind⟩:=x;have:(kind==lK)=false:=by simpa using HN J _ hx
     simp only[this,iB,if_false])];refine abp ?_;have cv:∀{ns:List (Str×dW)}{i:Nat}{x:Str}{k:dW},ns[i]?=some (x,k)->(xj cells ns)[i]?=some (if k=.free then(dA x cells).map dG else none):=by
   intro ns;induction ns with |nil=>intro i x k e;exact iH e|cons b r Y=>
     obtain⟨y,F⟩:=b;intro i x k e;rcases i with _|i;·simp at e;obtain⟨rfl,rfl⟩:=e;rcases F<;>rfl
     · have:=Y (i:=i) (x:=x) (k:=k) (e);rcases F<;>exact this
 have N:iV W {scope:=scope,locals:=L,globals:=fC,cells:=clo,qual:=qual,func:=some a,code:=code,frame:=some L,builtins:=jN} scope (xj cells scope.names) (s.heap.push {cls:=.type "frame",data:=.dict #[]}):=by
   refine⟨hk,rfl,rfl,I,⟨λd=>none,wI ⟨_,#[],0,P,rfl,(λe he=>by simp at he),λd=>rfl⟩,λx i v e f=>?_⟩,λx i k c e m f=>?_,λx i k e=>.inl (idx_lookup e),λq=>by exact nt_ (q.symm.trans j)⟩;·replace f:=(cv (mP e))▸f;simp at f
   · replace f:=(cv (mP e)).symm.trans f;rcases m with rfl|rfl;·simp at f
     ·simp at f;exact g x c f
 refine aA (LF O (λd d d=>rfl) C.rel N p (w.keep (C.imm0 R)) hm λh G X z U Z=>wpAny_pure (D _ h G X ⟨?_,U,?_,u,rfl,?_⟩ Z));·exact(C.weak.trans z).strong u
 ·exact z.dom L _ P p
 ·exact aY (z.there L _ P) λT l B=>⟨T,l,(B p).1,(B p).2 (λvs q=>by contradiction)⟩
end Internal
namespace Internal
open PySem PySem.W PyProof.Rows PySem.Calls
variable{W:Wd}
theorem KD:∀{ns:List Str}{l:List CV}{o:List aP},Vs W h l o->KV W h (ns.zip l) (ns.zip o):=by intro ns;induction ns with |nil=>intro l o w;trivial|cons n ns j=>
   intro l o w;rcases l with _|⟨a,l⟩;·exact w.e0 (P:=λo=>KV W h [] ((n::ns).zip o)) trivial
   · rcases o with _|⟨u,o⟩;·exact w.elim
     ·exact⟨⟨rfl,w.1⟩,j w.2⟩
theorem u6.deeper(r:u6 A (n+1))(env:cD):EZ (A.deeper env) n:=⟨r.handled,by have:=r.depth;exact aI4 this,by have:=r.units;exact aC7 this,r.guards⟩
theorem vw.frs(X:vw W env scope vs S s S' s')(F:Bv W A S s.heap)(hk:env.scope.kind=.function):Bv W (A.deeper env) S' s'.heap/\∃u,(A.deeper env).frames=some (env::u):=by
 revert F;refineλg=>aY g λl hl F=>?_;have e:(A.deeper env).frames=some (env::l):=by show A.frames.map (env::·)=_;refine aC hl ?_;rfl
 refine⟨⟨env::l,e,λC he=>?_⟩,l,e⟩;clear hl e;rcases a_.mp he with rfl|he;·refine gA X.obj λo ho f hd=>⟨by refine aC hk ?_;simp,C.locals,o,X.fr,X.eo.n1,X.own,ho,f,hd⟩
 ·exact F.ext X.ext C he
theorem Qo(G:CW W){n:Nat}(C:qO W (aM n) n){A:bT}{env:cD}{scope:dD}{vs:cN}{S S₁:CS}{s s₁:aO}{body:List Stmt}(X:vw W env scope vs S s S₁ s₁)(F:Bv W A S s.heap)(r:u6 A (n+1)){K:KP}{E:KP}(hm:(pN (aM n) 300 scope body vs) (λf b=>∃p,p.le b/\K (match f with|.next _=>.none|.ret v=>v) p) (λe b=>∃p,p.le b/\(∃a o,e=dG a/\p a=some o)/\E e p) S₁):mU (bB prog W.w) A (.func body env) (Rk W S s K E) s₁:=by
 refine gV (bX (X.frs F X.eo.kind) λP top=>?_);have H:nR W (A.deeper env) n env scope vs S₁ s₁:=⟨⟨X.ext.rel,X.eo,X.own,r.deeper env,P⟩,top⟩;refine bF (jB (aL (jZ (cV ((sok G C 300).ss body H _ _ hm) (λg s' q=>?_) λe s' q=>?_))))
 · obtain⟨f,b,Y,h,p,k,m⟩:=q;have Z:=((X.ext.weak.trans Y).strong X.new).less k;cases f with
   |next i=>
     rcases g<;>first|exact h.elim|skip
     exact aW ⟨.none,p,Z,V.none,m⟩|ret v=>
     rcases g<;>first|exact h.elim|skip
     exact aW ⟨v,p,Z,h,m⟩
 · refine eC λw=>?_;obtain⟨c,b,Y,⟨a,cc,d,rfl,rfl,I⟩,p,k,⟨J,o,ea,j⟩,R⟩:=q;cases ea;refine iK top λu ht=>?_;clear top;refine aY ((H.here.frs.ext Y)) λl hl x=>w ?_;obtain rfl:=aE (ht.symm.trans hl);refine cQ (Au G.o Y.rel I ht x λt Z=>?_);have:o=.exc cc d:=by have:=k a o j;obtain rfl:=aE (I.symm.trans this);rfl
   exact⟨.ref a,p,((((X.ext.weak.trans Y).strong X.new).trans Z).less k),⟨a,cc,d,rfl,rfl,aC j (aC this rfl)⟩,R⟩
theorem Y7(O:dM W)(h:jD W)(w:n8 W){n:Nat}(C:qO W (aM n) n){A:bT}{env:cD}{scope:dD}{vs:cN}{S S₁:CS}{s s₁:aO}{body:aI}(X:vw W env scope vs S s S₁ s₁)(F:Bv W A S s.heap)(r:u6 A (n+1)){K:KP}{E:KP}(hm:(eP (aM n) 300 scope body vs) (λv b=>∃p,p.le b/\K v p) (λe b=>∃p,p.le b/\(∃a o,e=dG a/\p a=some o)/\E e p) S₁):mU (bB prog W.w) A (.expr body env) (Rk W S s K E) s₁:=by
 refine gV (bX (X.frs F X.eo.kind) λP top=>?_);have H:fK W (A.deeper env) n env scope vs S₁ s₁:=⟨X.ext.rel,X.eo,X.own,r.deeper env,P⟩;refine bF (jB (aL (jZ (cV ((eok O h w C 300).e body H _ _ hm) (λg s' q=>?_) λe s' q=>?_))))
 · refine eC λf=>?_;obtain⟨v,b,Y,t,p,k,m⟩:=q;exact f (aW ⟨v,p,(X.ext.trans Y).less k,t,m⟩)
 · refine eC λf=>?_;obtain⟨c,b,Y,⟨a,cc,d,rfl,rfl,G⟩,p,k,⟨I,o,ea,j⟩,R⟩:=q;cases ea;refine iK top λu ht=>?_;clear top;refine aY ((H.frs.ext Y)) λl hl x=>f ?_;obtain rfl:=aE (ht.symm.trans hl);refine cQ (Au O Y.rel G ht x λi Z=>?_);have:o=.exc cc d:=by have:=k a o j;obtain rfl:=aE (G.symm.trans this);rfl
   exact⟨.ref a,p,(((X.ext.trans Y).trans Z).less k),⟨a,cc,d,rfl,rfl,aC j (aC this rfl)⟩,R⟩
theorem Fd(h:zZ p dv args=some bs):∃as d,p=⟨[],as,none,[],[],none,d⟩/\(args.length<=as.length/\as.length<=args.length+dv.length/\dv.length<=1/\dv.length<=as.length)/\bs=(as.map (·.arg)).zip (args++dv.drop (args.length+dv.length-as.length)):=by
 obtain⟨po,as,va,ko,kd,kw,d⟩:=p;refine bX (MH h) λe3x h1=>?_;obtain rfl:=e3x;refine bX (n0_ h1) λe_ h2=>aC e_ (bX (MH h2) λe_ h3=>iZ e_ (bX (MH h3) λe_ h4=>iZ e_ (bX (n0_ h4) λe_ h5=>iZ e_ ?_)));clear h h1 h2 h3 h4;split at h5;·rename_i hc;obtain rfl:=aE h5;exact⟨as,d,rfl,hc,rfl⟩
 ·exact iH h5
theorem UK(h:Fc sc=true):sc.kind=.function/\sc.isCoroutine=false/\sc.isGenerator=false:=by unfold Fc at h;simp only[bP,hO]at h;exact⟨(UU h.1.1).1,h.1.2,h.2⟩
theorem LD(O:dM W)(i:jD W)(u:n8 W)(C:qO W (aM n) n){S:CS}{K:KP}{E:KP}(Fr:Bv W A S s.heap)(r:u6 A (n+1))(R:jE W S s)(e:S a=some (.clo l cells))(x:Vs W s.heap args avs)(hm:oD (aM n) l cells args K E S):mU (bB prog W.w) A (.call (.ref a) ⟨avs,[]⟩) (Rk W S s K E) s:=by
 have Y:A.depth<recursionLimit:=by have:=r.depth;exact o64 this
 refine eC λf=>ul ((R.rep _ _ e).2) λfd o ho G hd h1 h2 h3 h4 h5 h6 h7 t F=>?_;unfold oD at hm;rcases q:iD l.scope||!(Fc l.scope&&(qp l.scope l.params&&oA l.scope.names))with _|_;refine f ?_
 · replace hm:=q▸hm;simp only[lU,xQ,bP]at q;refine eC λf=>s9 q λhl k hp Z=>?_;clear q;refine aY (n5 hm) λbs eb hm=>dZ (Fd eb) λas d ep I T=>?_;obtain rfl:=T;refine iR (UK k) λp y h=>?_;replace hp:=ep▸hp;simp only[qp,bP]at hp;have B:args.length=as.length:=by simp at I;exact aI1 I
   refine yk t.rec_ λc oc z H D g j hq=>f (gV ?_);show iQ _ A.in1 (callAny (.ref a) ⟨avs,[]⟩) _ _ s;refine cQ (JZ ho ?_);rw[<-h3]at p y h hl Z;refine oj (by simp only[hd,callFunction,y,h,h2,D];rfl) (aA (m:=field (.ref c) 1) (iP g j hq (abp (aA (EA (as:=as) (d:=d) (aC h1 (aC ep rfl)) (DR hp.1.2) (.inl ⟨h6,rfl⟩) (aB (bA x.length) (bA B)) ((aB (bA B.symm) (bA x.length.symm))) (by simp) (by simp) ?_)))));have w:KV W s.heap ((as.map (·.arg)).zip (args++([]:List CV).drop (args.length+([]:List CV).length-as.length))) ((as.map (·.arg)).zip (avs++([]:List aP).drop (avs.length+([]:List aP).length-as.length))):=by
     simp only[wK,lP];exact KD x
   refine oj (aC h4 (aC h5 rfl)) (aA (Ji (bs:=(as.map (·.arg)).zip (args++([]:List CV).drop (args.length+([]:List CV).length-as.length))) (cells:=cells) O p Z F R w hl (by refine aC h3 ?_;exact hm) λenv vs J L X v=>?_));replace X:=h3▸X;exact aA (ag4 (O.noLimit _ X.ext.rel.stat) Y (wpAny_pure ⟨rfl,rfl,Y7 O i u C X Fr r v⟩))
 ·replace hm:=q▸hm;exact hm.elim
theorem OO(G:CW W)(Q:al1 W):∀n,qO W (aM n) n:=by intro n;induction n with|zero=>intro A f args fv avs S s _ _ _ _ _ K E hm;exact hm.elim|succ n H=>
   intro A f args fv avs S s Fr r R y x K E hm;have Y:A.depth<recursionLimit:=by have:=r.depth;exact o64 this
   have Z:=x.length;rcases f<;>first|exact hm.elim|skip
   · skip;have p:=gT y;subst p;revert hm;refineλL=>aY L λo e hm=>?_;rcases o<;>first|exact hm.elim|skip
     exact LD G.o G.o2 G.o3 H Fr r R e x hm
   · skip;subst y;have hm:(match wx a with|some (fd,dv)=>Fj (aM n) fd dv args|none=>.fail) K E S:=hm;rcases q:wx a with _|J;·replace hm:=q▸hm;exact hm.elim
     · obtain⟨fd,dv⟩:=J;replace hm:=q▸hm;have hm:Fj (aM n) fd dv args K E S:=hm;unfold Fj at hm;rcases z:Fc fd.scope&&qp fd.scope fd.params with _|_;·replace hm:=z▸hm;exact hm.elim
       · replace hm:=z▸hm;simp only[bP]at z;refine eC λN=>bX z λl hp=>aY (n5 hm) λbs eb hm=>dZ (Fd eb) λas d ep I k=>?_;obtain rfl:=k;refine iR (UK l) λu B h=>?_;replace hp:=ep▸hp;simp only[qp,bP]at hp;have F:=DR hp.2;refine yB (Q.fn a fd dv q _ R.stat) λo f ho hd h1 h2 h3 h4 h5 h6 C i dvs wd hdef=>?_;have P:=wd.length;refine yk C λc oc ws U D g j hq=>?_;clear C;refine N (gV ?_);show iQ _ A.in1 (callAny (.ref a) ⟨avs,[]⟩) _ _ s;rw[callAny];refine cQ (JZ ho ?_);rw[<-h3]at u B h F;refine oj (by simp only[hd,callFunction,B,h,h2,D];rfl) (aA (m:=field (.ref c) 1) (iP g j hq (abp (aA (EA (as:=as) (d:=d) (dvs:=dvs) (aC h1 (aC ep rfl)) (DR hp.1.2) hdef (aB (bA Z) I.1) (aI3 I P Z) (aB (bA P) I.2.2.1) (aB (bA P) I.2.2.2) ?_)))));have w:KV W s.heap ((as.map (·.arg)).zip (args++dv.drop (args.length+dv.length-as.length))) ((as.map (·.arg)).zip (avs++dvs.drop (avs.length+dvs.length-as.length))):=by exact aC Z (aC P (KD (x.append (wd.drop _))))
         refine oj (aC h4 (aC h5 (aC h6 rfl))) (aA (Lu (bs:=(as.map (·.arg)).zip (args++dv.drop (args.length+dv.length-as.length))) G.o u F R w (by refine aC h3 (iZ D ?_);exact i) (by refine aC h3 ?_;exact hm) λenv vs S1 s1 X T=>?_));replace X:=h3▸X;refine aA (ag4 (G.o.noLimit _ X.ext.rel.stat) Y (wpAny_pure ⟨rfl,rfl,Qo G H X Fr r ?_⟩));have O:(λ(f:fZ)(b:CS)=>(match f with|.next _=>(jR qH:M CV)|.ret v=>.pure v) (λa(b:CS)=>∃t:CS,t.le b/\K a t) (λe(b:CS)=>∃t:CS,t.le b/\(∃a o,e=dG a/\t a=some o)/\E e t) b)=λf(b:CS)=>∃t:CS,t.le b/\K (match f with|.next _=>.none|.ret v=>v) t:=by funext f b;rcases f<;>rfl
         exact iZ (O) T
end Internal
namespace Internal
set_option backward.match.sparseCases false
open PySem PySem.W PyProof.Rows PySem.Calls
variable{W:Wd}
theorem eH.fresh(O:dM W)(X:eH W none S0 s0 S s)(h0:s0.heap.get? a=none)(hl:W.h₁.objs.size<=a)(F:S a=none)(k:∀b o,b≠a->s.heap.get? b=some o->s'.heap.get? b=some o)(j:∀o,s.heap.get? a=some o->¬uk o)(ht:∀o,s.heap.get? a=some o->∃T,s'.heap.get? a=some T/\J2 o T)(hg:s'.gens=s.gens)(ho:s'.os=s.os):eH W none S0 s0 S s':=by
 have r:qn W s.heap s'.heap:=λb o c e i=>k b o (λq=>by subst q;exact j o e i) e;have R':jE W S s':=⟨X.rel.stat.step (λb o e d=>k b o (eX (aV d hl)) e) r O.tabsOld,λb o e=>⟨(X.rel.rep b o e).1,(X.rel.rep b o e).2.keep r λob=>k b ob (λq=>by subst q;exact iH (F.symm.trans e))⟩,hg.trans X.rel.gens,ho.trans X.rel.os⟩;have Y:eH W (some a) S s S s':=⟨R',λb o c e c U=>.inl (k b o (λq=>U (q▸rfl)) e),λc c c h=>h,λb o e=>by
  by_cases q:b=a;·subst q;refine aY (ht o e) λT A l=>?_;exact⟨T,A,λc=>l⟩
  ·exact⟨o,k b o q e,λc=>.refl o⟩⟩;exact(X.weak.trans Y).strong h0
theorem Kh{S b:CS}{s s':aO}{l:List CV}{vs:List aP}(x:Vs W s.heap l vs)(R:jE W S s)(X:eH W none S s b s'):Vs W s'.heap l vs:=x.keep (X.immK R (λa a h=>iH h))
theorem BW:∀{l:List (Str×dW)},yC l=true->oA l=true:=by intro l;induction l with |nil=>exactλ_=>rfl|cons a r j=>obtain⟨x,k⟩:=a;intro h;rcases k<;>first|exact rR h|exact j h
theorem GP:∀{l:List (Str×dW)},yC l=true->B6 outer ovs l=some []:=by
 intro l;induction l with |nil=>exactλ_=>rfl|cons a r j=>obtain⟨x,k⟩:=a;intro h;rcases k<;>first|exact rR h|exact j h
theorem Fu:∀{l:List (Str×dW)},(xj cells l).length=l.length:=by intro l;induction l with|nil=>rfl|cons a r j=> obtain⟨x,k⟩:=a;rcases k<;>exact congrArg (·+1) j
structure Z8(ps:kE)(b:aI)(lsc:dD)(i:Nat):Prop where sh:∃a d y p1 z n p2 p3 j,ps=⟨[],[a],none,[],[],none,d⟩/\d=[]/\b=.Subscript (.Name y p1) (.Constant (.int z) n p2) p3/\a.arg=y/\dunder y=false/\uB lsc.names y=some (j,.local)/\(0<=z/\z<1000)/\i=z.toNat
theorem H_(h:ys ps b lsc=some i):Z8 ps b lsc i/\iD lsc=false/\Fc lsc=true/\qp lsc ps=true/\yC lsc.names=true/\AU ps=true:=by
 refine aS4 ?_;intro P G;obtain⟨po,as,L,w,C,x,df⟩:=ps;refine bX (MH h) λe1 h=>aY (MG h) λa u h=>bX (n0_ h) λU h=>bX (MH h) λJ h=>bX (MH h) λm h=>bX (n0_ h) λZ h=>bX (MH h) λH h=>gD (aq2 h) λe c o O h=>eJ (KN h) λy B I h=>gD (cE_ h) λc n s f h=>aY (iC_ h) λz l h=>bX (AO h) λA h=>aY (IZ h) λg d h=>?_;obtain⟨j,k⟩:=g;rcases k<;>first|exact iH h|skip
 simp only[bP,hO,decide_eq_true_eq]at A;refine rH A λf1 p r q v t f9=>?_;clear A;exact G ⟨⟨a,[],y,B,z,n,s,o,j,aC e1 (aC u (aC U (aC J (aC m (aC Z (aC H rfl)))))),rfl,aC O (aC I (aC f (aC l rfl))),jW.mp f1,p,d,f9,(aE h).symm⟩,r,q,v,t,by refine aC m (aC H ?_);rfl⟩
theorem NI(h:ys ps b lsc=some i)(g:l[i]?=some v){K:KP}{E:KP}{S:CS}(hk:K v S):oD cl ⟨ps,b,lsc⟩ cells [.tup l] K E S:=by
 refine eC λf=>zU (H_ h) λk h1 h2 h3 h4 c=>?_;obtain⟨a,d,y,B,z,n,m,p,j,rfl,_,rfl,rfl,hd,hj,hz,rfl⟩:=k;refine f ?_;unfold oD;refine aC h1 (aC h2 (aC h3 (aC (BW h4) ?_)));show M.less _ K E S;have I:j<(xj cells lsc.names).length:=by refine aC Fu ((aR.mp (mP hj)).1)
 have o:gK lsc (xj cells lsc.names) a.arg (.tup l)=.pure ((xj cells lsc.names).set j (some (.tup l))):=by unfold gK;refine aC hj ?_;rfl
 have U:qV lsc ((xj cells lsc.names).set j (some (.tup l))) a.arg=.pure (.tup l):=by
  unfold qV;refine aC hd (aC hj ?_);unfold lv;simp only[pJ I]
 dsimp only;refine iZ ((rfl:zZ ⟨[],[a],none,[],[],none,[]⟩ [] [hY l]=some [(a.arg,hY l)])) ?_;show(rq lsc [(a.arg,hY l)] (xj cells lsc.names)).bind _ _ _ S;show(gK lsc (xj cells lsc.names) a.arg (.tup l)) _ _ S;refine aC o ?_;show qV lsc ((xj cells lsc.names).set j (some (.tup l))) a.arg _ _ S;exact aC U (⟨⟨hz.1,(aT hz.2 (by decide))⟩,g▸⟨S,λc c e=>e,hk⟩⟩)
theorem Ky(h:oU i (v::r)=some q):∃z,zi i v=some z/\∃G,oU i r=some G/\z::G=q:=by exact aY (iA.mp h) λz hz h=>aY (d_.mp h) λG hs h=>⟨z,hz,G,hs,h⟩
noncomputable def Paired(W:Wd)(h:Heap)(i:Nat)(ps:List (Int×aP))(l:List CV):Prop:=oU i l=some (ps.map (·.1))/\Vs W h l (ps.map (·.2))
theorem mN:Paired W h i (p::ps) l↔∃x r,l=x::r/\zi i x=some p.1/\V W h x p.2/\Paired W h i ps r:=by
 constructor
 · intro q1_;refine bX q1_ λh1 h2=>?_;clear q1_;cases l with |nil=>exact h2.elim|cons x r=>exact yG (Ky h1) λz q G y h1=>bX (List.cons.inj h1) λe1 n=>⟨x,r,rfl,aC q (aC e1 rfl),h2.1,aC y (aC n rfl),h2.2⟩
 · intro q1_;refine eJ q1_ λx r O b=>?_;clear q1_;obtain rfl:=O;refine s9 b λh1 h2 h3 h4=>?_;clear b;refine⟨?_,?_⟩
   · show(zi i x).bind (λz=>(oU i r).map λq=>z::q)=_;refine aC h1 (aC h3 ?_);rfl
   ·exact⟨h2,h4⟩
theorem En(p:ps.Perm qs):∀{l:List CV},Paired W h i ps l->∃d,d.Perm l/\Paired W h i qs d:=by induction p with |nil=>intro l x;exact⟨l,.refl _,x⟩|cons a _ j=> intro l o;refine eC λf=>eJ (mN.mp o) λw r m H=>?_;obtain rfl:=m;refine iR H λh1 h2 h3=>?_;clear H;exact aY (j h3) λg hp hr=>f (⟨w::g,hp.cons w,mN.mpr ⟨w,g,rfl,h1,h2,hr⟩⟩)|swap a b r=> intro l o;exact rd (mN.mp o) λw E L h1 h2 h3=>aC L (rd (mN.mp h3) λn O L h4 h5 h6=>L▸(⟨n::w::O,.swap _ _ _,mN.mpr ⟨n,_,rfl,h4,h5,mN.mpr ⟨w,O,rfl,h1,h2,h6⟩⟩⟩))|trans _ _ N e=> intro l x;exact aY (N x) λl1 B w=>aY (e w) λl2 k c=>⟨l2,k.trans B,c⟩
theorem Paired.zip(hk:oU i l=some kz)(w:Vs W h l vs):Paired W h i (kz.zip vs) l/\kz.length=vs.length:=by induction l generalizing kz vs with
 |nil=>
  obtain rfl:=aE hk;rcases vs with _|_;·exact⟨⟨rfl,w⟩,rfl⟩
  ·exact w.elim|cons x r k=>cases vs with|nil=>exact w.elim|cons v vs=> refine eC λd=>yG (Ky hk) λz q G y j=>?_;obtain rfl:=j;exact bX (k y w.2) λh1 h2=>d (⟨mN.mpr ⟨x,r,rfl,q,w.1,h1⟩,congrArg (·+1) h2⟩)
theorem Jn{i:Nat}{l:List CV}{kz:List Int}(hk:oU i l=some kz){j:Nat}{x:CV}(hx:l[j]?=some x):∃t z,x=.tup t/\t[i]?=some (.int z)/\kz[j]?=some z:=by induction l generalizing kz j with|nil=>exact iH hx|cons y r k=>
   refine eC λd=>yG (Ky hk) λz q G B A=>?_;obtain rfl:=A;refine d ?_;rcases j with _|j
   · obtain rfl:=aE hx;rcases y with _|_|_|_|_|t|_|_|_|_|_|_|_<;>first|exact iH q|skip
     rcases hz:t[i]? with _|c;·exact iH (hz▸q:(match(none:Option CV)with|some (.int z)=>some z|_=>none)=some z)
     · have q:(match t[i]? with|some (.int z)=>some z|_=>none)=some z:=q;rw[hz]at q;rcases c with _|_|g|_|_|_|_|_|_|_|_|_|_<;>first|exact iH q|skip
       obtain rfl:=aE q;exact⟨t,_,rfl,hz,rfl⟩
   ·exact k B (hx)
theorem Vs.at_{h:Heap}{l:List CV}{vs:List aP}(w:Vs W h l vs){j:Nat}{v:aP}(f:vs[j]?=some v):∃x,l[j]?=some x/\V W h x v:=by induction l generalizing vs j with
 | nil => rcases vs with _|_;·exact iH f
          ·exact w.elim|cons y r k=>cases vs with|nil=>exact w.elim|cons u o=>cases j with |zero=>simp only[mI,dK]at f;subst f;exact⟨y,rfl,w.1⟩|succ j=>exact k w.2 (f)
theorem am5{M:nx}{A:bT}{E:EP}{body:aP->PUnit->Sem (ForInStep PUnit)}{Q:PUnit->aO->Prop}(I:Nat->aO->Prop):∀(vs:List aP)(i:Nat)(s:aO),I i s->(∀j x s',vs[j]?=some x->I (i+j) s'->iQ M A (body x ⟨⟩) (λr k=>r=.yield ⟨⟩/\I (i+j+1) k) E s')->(∀s',I (i+vs.length) s'->Q ⟨⟩ s')->iQ M A (forIn vs PUnit.unit body) Q E s:=by
 intro vs;induction vs with |nil=> intro i s h _ done;exact zw pH (aW (done s (h)))|cons x vs l=>
   intro i s h step done;refine aC (h_ _ _ _ _) (aL (cV (step 0 x s (rfl) h) (λr s' h'=>bX h' λU N=>?_) λa a e=>e));clear h';obtain rfl:=U;refine l (i+1) s' N (λj y k hy J=>?_) λk hd=>done k ?_
   · have e:i+(j+1)=i+1+j:=o31;have h1:=step (j+1) y k (hy) (e▸J);replace h1:=e▸h1;exact h1
   · have e:i+(x::vs).length=i+1+vs.length:=by refine aC kQ ?_;exact o31
     exact aC e hd
section
variable{A:bT}{E:EP}{S:CS}{s0 s:aO}{a kS:Addr}{vs:List aP}{xs:List CV}{kz:List Int}{i e1:Nat}{P:D8->aO->Prop}
theorem sd(h:o=jO c its n)(e:c="list"):¬uk o:=by
 subst h e;intro q1_;refine bX q1_ λh a=>?_;clear q1_;simp at h
theorem LV(h:o=jO "list" its n):J2 o (jO "list" its' n'):=by subst h;exact⟨rfl,λa a=>by simp⟩
theorem eH.turn(O:dM W)(X:eH W none S s0 S s)(h0:s0.heap.get? a=none)(hl:W.h₁.objs.size<=a)(F:S a=none)(ho:s.heap.get? a=some (jO "list" its n))(g:Array aP->Array aP):eH W none S s0 S {s with heap:=s.heap.update a (fF g)}/\∃G,(s.heap.update a (fF g)).get? a=some (jO "list" (g its) G)/\∀b,b≠a->(s.heap.update a (fF g)).get? b=s.heap.get? b:=by
 refine⟨X.fresh O h0 hl F (λb o c e=>((iE s.heap a (fF g)).2 b c).trans e) (λo e=>?_) (λo e=>⟨_,(wG ho g),?_⟩) rfl rfl,_,(wG ho g),(iE s.heap a (fF g)).2⟩;·rw[ho]at e;exact sd (aE e).symm rfl
 ·rw[ho]at e;exact LV (aE e).symm
structure wz(W:Wd)(S:CS)(s0 s:aO)(a kS:Addr)(keys:Array aP)(e e1:Nat)(xs:List CV)(vs:List aP):Prop where
 x:eH W none S s0 S s
 ha:s.heap.get? a=some (jO "list" #[] e1)hk:s.heap.get? kS=some (jO "list" keys e)w:Vs W s.heap xs vs
structure zO(W:Wd)(S:CS)(s0:aO)(a kS:Addr):Prop where
 a0:s0.heap.get? a=none
 k0:s0.heap.get? kS=none
 la:W.h₁.objs.size<=a
 lk:W.h₁.objs.size<=kS
 Sa:S a=none
 Sk:S kS=none
 ne:kS≠a
theorem Cy(O:dM W){st:SortSt}(N:zO W S s0 a kS)(H:wz W S s0 s a kS keys e e1 xs vs)(hk:mX keys.toList kz)(I:kz.length=vs.length)(X:vs.length<64)(hp:(Ga st).Perm (keys.zip vs.toArray))(hs:SortedTo (Ga st) (Ga st).size)(t:failedOf st=none)(h:∀s' Y c,eH W none S s0 S s'->s'.heap.get? a=some (jO "list" Y c)->KskOut false kz vs Y.toList->Vs W s'.heap xs vs->P (.done (.ret .none)) s'):wpAny (bB prog W.w) A (ksk_tail a false e1 (.ref kS) st) P E s:=by
 have f:keys.size=vs.length:=by have h1:=hk.length;rw[rj]at h1;exact o65 h1 I
 have i:(Ga st).size=vs.length:=aC hp.size_eq (aC MY (aC f (aC bC (aC (ag5 _) rfl))));refine ug (H.x.turn O N.k0 N.lk N.Sk H.hk λd=>#[]) λC n1 p o1=>?_;have m:(s.heap.update kS (fF λd=>(#[]:Array aP))).get? a=some (jO "list" #[] e1):=(o1 a N.ne.symm).trans H.ha;refine ug (eH.turn (s:={s with heap:=s.heap.update kS (fF λd=>(#[]:Array aP))}) O C N.a0 N.la N.Sa m λd=>(Ga st).map (·.2)) λB n2 x o2=>?_;have w2:Vs W ((s.heap.update kS (fF λd=>(#[]:Array aP))).update a (fF λd=>(Ga st).map (·.2))) xs vs:=H.w.keep λb o d e J=>by
  have g:b≠kS:=λq=>by subst q;rw[H.hk]at e;exact sd (aE e).symm rfl J
  exact(o2 b (λq=>by subst q;rw[H.ha]at e;exact sd (aE e).symm rfl J)).trans ((o1 b g).trans e)
 refine aA (zM H.hk rfl ?_ (by refine aC f (aC qc ?_);exact Kr X) (eR _));refine aA (xY (aA (seqEpoch_at m rfl (aA (zM m rfl ?_ (eR _) (by show((Ga st).map (·.2)).size<=_;refine aC Array.size_map (aC i (aC qc ?_));exact(aB (bK X) (by decide))))))));exact oj (aC t rfl) (oj (by simp only[bne_self_eq_false,iB,if_false];rfl) (wpAny_pure (h _ _ _ B x (ksk_out hk hp hs) w2)))
theorem Mh(O:dM W)(N:zO W S s0 a kS)(H:wz W S s0 s a kS keys e e1 xs vs)(hk:mX keys.toList kz)(I:kz.length=vs.length)(X:vs.length<64)(h:∀s' Z c,eH W none S s0 S s'->s'.heap.get? a=some (jO "list" Z c)->KskOut false kz vs Z.toList->Vs W s'.heap xs vs->P (.done (.ret .none)) s'):wpAny (bB prog W.w) A (ksk_end a false vs.toArray e1 (.ref kS) keys) P E s:=by
 have b:keys.size=vs.length:=by
   have h1:=hk.length;rw[rj]at h1;exact o65 h1 I
 have n:(keys.zip vs.toArray).size=vs.length:=aC MY (aC b (aC bC (aC (ag5 _) rfl)));refine oj (by unfold ksk_end;rfl) ?_;try dsimp only
 refine oj (if_neg (by decide)) ?_;by_cases h2:vs.toArray.size<2
 · refine aC (if_pos h2) (aC (if_pos h2) (abp (aC (StateT.run_pure _ _) (abp (Cy (st:=ad2 general' (keys.zip vs.toArray) #[] 7 none) O N H hk I X (Gb _) ?_ rfl h)))));intro i j t hj;replace hj:=n▸hj;rw[bC]at h2;have:i=j:=aL7 h2 hj t;exact iZ this (pD _)
 · refine aC (if_neg h2) (aC (if_neg h2) ?_);rw[bC]at h2;rw[ksk_kind hk (by rw[b];exact o66 h2)];refine abp ?_;refine aA (gS (wpS_sortRuns (a₀:=keys.zip vs.toArray) (st:=ad2 oneType' (keys.zip vs.toArray) #[] 7 none) (Q:=λd C=>(Ga C).Perm (keys.zip vs.toArray)/\failedOf C=none/\SortedTo (Ga C) (keys.zip vs.toArray).size) (ksk_intKeys hk) ⟨Gb _,rfl,rfl,rfl⟩ (by refine aC n ?_;exact o66 h2) (n▸X) λC a1 a2 a3=>⟨a1,a2,a3⟩) ?_ λd d e=>e);intro q1_ s' q2_;obtain⟨⟨⟩,C⟩:=q1_;refine bX q2_ λY R=>?_;clear q2_;obtain rfl:=Y;refine iR R λhp hf hs=>?_;clear R;exact Cy O N H hk I X hp (by refine aC hp.size_eq ?_;exact hs) hf h
theorem wz.ext(N:zO W S s0 a kS)(H:wz W S s0 s a kS keys e e1 xs vs)(X:eH W none S s S s'):wz W S s0 s' a kS keys e e1 xs vs:=⟨H.x.trans X,(X.keep a _ N.la H.ha N.Sa (by simp)).eq (by simp),(X.keep kS _ N.lk H.hk N.Sk (by simp)).eq (by simp),Kh H.w H.x.rel X⟩
theorem Jc(O:dM W)(O2:jD W)(O3:n8 W){q:Addr}{ps:kE}{b:aI}{lsc:dD}{cells:List (Str×Addr)}(N:zO W S s0 a kS)(H:wz W S s0 s a kS #[] 0 e1 xs vs)(F0:Bv W A S s0.heap)(r:u6 A 1)(eq:S q=some (.clo ⟨ps,b,lsc⟩ cells))(hl:ys ps b lsc=some i)(hkz:oU i xs=some kz)(h64:vs.length<64)(h:∀s' out c,eH W none S s0 S s'->s'.heap.get? a=some (jO "list" out c)->KskOut false kz vs out.toList->Vs W s'.heap xs vs->P (.done (.ret .none)) s'):iQ (bB prog W.w) A (ksk_rest a (.ref q) false vs.toArray e1 (.ref kS)) P E s:=by
 have hlen:kz.length=vs.length:=(Paired.zip hkz H.w).2;refine bF (i7 ?_);refine aC (List.forIn_toArray _ _ _) ?_;refine aL (am5 (λj s'=>∃kA e,wz W S s0 s' a kS kA e e1 xs vs/\mX kA.toList (kz.take j)) vs 0 s ⟨#[],0,H,by simpa using mX.nil⟩ ?step ?done);case step=>
   intro j x s' hx q1_;refine eJ q1_ λkA e H' hk=>?_;clear q1_;rw[nX]at hk|-;refine eC λk_=>aY (H'.w.at_ hx) λcx hcx vx=>?_;clear H hx;refine eJ (Jn hkz hcx) λt z e16x r17x=>?_;obtain rfl:=e16x;refine bX r17x λht hz=>?_;clear r17x;refine k_ ?_;have hzs:kA.size<=vs.length:=by
     have h1:=hk.length;rw[rj,cH]at h1;exact(aB (bA h1) (aB (gR _ _) (bA hlen)))
   refine aL (si (oa (i9 (LD O O2 O3 (λι ι ι ι ι ι ι hm=>hm.elim:qO W (aM 0) 0) (F0.ext H'.x) r H'.x.rel eq (ES vx) (NI hl ht (K:=λv S''=>v=.int z/\S''=S) (E:=λι ι=>False) ⟨rfl,rfl⟩)) λr s'' q=>?_)));clear O2 O3 F0 eq hl hkz hcx vx ht;rcases r with e|(v|_|_|_)<;>first|exact q.elim|skip
   · refine eC λk_=>?_;obtain⟨ca,S',X',y,rfl,rfl⟩:=q;refine iK (pR y) λtk e15x=>?_;obtain rfl:=e15x;have H2:=H'.ext N X';refine ug (H2.x.turn O N.k0 N.lk N.Sk H2.hk (·.push (.int z tk))) λX3 n3 k3 o3=>k_ ?_;have ek:kz.take (j+1)=kz.take j++[z]:=by refine aC iT (aC hz ?_);simp
     have ea:(kA.push (D6 z tk)).toList=kA.toList++[D6 z tk]:=by simp
     refine bF (zM H2.hk rfl ?_ (by refine aC qc ?_;exact(bK (aV (aZ hzs h64) (by decide)))) (aB (bA (Array.size_push ..)) (by refine aC qc ?_;exact(aB (Nat.succ_le_of_lt (aZ hzs h64)) (by decide)))));refine aW ⟨rfl,kA.push (.int z tk),n3,⟨X3,(o3 a N.ne.symm).trans H2.ha,k3,H2.w.keep λb o ι e im=>?_⟩,by refine aC ea (aC ek ?_);exact ksk_snoc hk⟩;exact(o3 b (λq=>by subst q;rw[H2.hk]at e;exact sd (aE e).symm rfl im)).trans e
 case done=>
   intro s' q1_;refine eJ q1_ λkA e H' hk=>?_;clear q1_;have hk':mX kA.toList kz:=by
     rw[(dE (aC1 hlen))]at hk;exact hk
   exact bF (listItems_at H'.hk rfl (cQ (Mh O N H' hk' hlen h64 h)))
end
section
variable{n k:Nat}{A:bT}{env:cD}{sc:dD}{vs:cN}{S:CS}{s:aO}{l q:Addr}{xs:List CV}{i:Nat}{K:KP}{E:KP}
theorem Je(O:dM W)(O2:jD W)(O3:n8 W)(F:Bv W A S s.heap)(r:EZ A 1)(R:jE W S s)(el:S l=some (.list xs))(eq:S q=some (.clo ⟨ps,b,lsc⟩ cells))(hl:ys ps b lsc=some i)(hm:vg i xs K E S):iQ (bB prog W.w) A (call (.builtin "sorted") [.ref l] [(aD "key",.ref q)]) (Qk W (V W) none S s K) (Qe W none S s E) s:=by
 refine eC λC=>?_;revert hm;refineλq_=>iR q_ λY J hm=>?_;clear q_;refine iK J λkz X=>?_;clear J;refine dZ (R.list el) λt n g w I=>C ?_;have p:t.length<64:=o58 Y w.length;refine oa (gZ (nO J_ _) rfl entry_sorted ?_);dsimp only[nk,kind_sorted];have z:∀{Q:Unit->aO->Prop}{E:EP},Q () s->wpAny (bB prog W.w) A.in1 (match Em "sorted"with |some v=>Uz "sorted" v ⟨[.ref l],[(aD "key",.ref q)]⟩|none=>pure ()) Q E s:=by intro Q E hq;cases hsig:Em "sorted"with |none=>exact wpAny_pure hq|some v=>
   have T:Uz "sorted" v ⟨[.ref l],[(aD "key",.ref q)]⟩=pure ():=by simpa only[tB,hsig]using(ksk_s1 (.ref l) (.ref q))
   refine oj (by simp only[T];rfl) ?_;exact wpAny_pure hq
 refine z (aC (jG J_ _) (bF (wpAny_pure (bF (collect_list I ?_ (by refine aC qc ?_;exact Kr p))))));refine bF (uO ?_ (by refine aC qc ?_;exact Kr p));have d:((s.heap.push (jO "list" #[] 0)).update s.heap.objs.size (fF (·++t.toArray))).objs.size=s.heap.objs.size+1:=by exact aC (MB _ _ _) (aC (U_ _ _) rfl)
 generalize x:((s.heap.push (jO "list" #[] 0)).update s.heap.objs.size (fF (·++t.toArray))).push (jO "list" t.toArray 0)=H1;have k:H1.objs.size=s.heap.objs.size+2:=iZ x (aC (U_ _ _) (aC d rfl));have U:H1.get? (s.heap.objs.size+1)=some (jO "list" t.toArray 0):=by refine iZ x (iZ d ?_);exact aU _ rfl
 have keep:∀b o,s.heap.get? b=some o->H1.get? b=some o:=λb o q=>by
  have H:b<s.heap.objs.size:=dT q;rw[<-x,Ke _ _ _ (by rw[d];exact eX (zl H)),wF _ _ _ _ (eX H),Ke _ _ _ (eX H)];exact q
 refine aC d ?_;have X1:eH W none S s S {s with heap:=H1}:=eO O R keep rfl rfl;have a0:s.heap.get? (s.heap.objs.size+1)=none:=bL (m_ _);have la:W.h₁.objs.size<=s.heap.objs.size+1:=jU R.stat.size;refine aL (bI (oa (gZ (nO wU.plain _) rfl PyProof.Rows.entry_list_sort (wU.check _ _ _ _ _ _ _ _ (show({s with heap:=H1}:aO).TypeIs (.ref (s.heap.objs.size+1)) "list"from⟨_,U,rfl⟩) (ksk_l1 _ _) ?_))));rw[(λa=>jG wU.plain _),ksk_t1];refine bF (listItems_at (s:={s with heap:=H1}) U rfl (ug (X1.turn O a0 la (R.none_ a0) U λι=>#[]) λB e1 f N=>bF (zM (s:={s with heap:=H1}) U rfl ?_ (by refine aC bC (aC qc ?_);exact Kr p) (eR _))));generalize e2:H1.update (s.heap.objs.size+1) (fF λι=>(#[]:Array aP))=H2 at B f N|-;have j:H2.objs.size=s.heap.objs.size+2:=iZ e2 (aC (MB _ _ _) (aC k rfl));refine bF (seqEpoch_at (s:={s with heap:=H2}) f rfl (bF (az6 (s:={s with heap:=H2}) ?_ (by show t.length<=_;refine aC qc ?_;exact Kr p))));refine bF (uO (bI ?_) (eR _));have D:∀b o,H2.get? b=some o->((H2.push (jO "tuple" t.toArray 0)).push (jO "list" #[] 0)).get? b=some o:=λb o e=>aK _ (aK _ e);have X3:eH W none S s S {s with heap:=(H2.push (jO "tuple" t.toArray 0)).push (jO "list" #[] 0)}:=B.trans (eO O B.rel D rfl rfl);have m:(H2.push (jO "tuple" t.toArray 0)).objs.size=s.heap.objs.size+3:=aC (U_ _ _) (aC j rfl);have e0:((H2.push (jO "tuple" t.toArray 0)).push (jO "list" #[] 0)).get? (s.heap.objs.size+3)=some (jO "list" #[] 0):=by refine iZ m ?_;exact aU _ rfl
 refine zw (aC m rfl) (Jc (s:={s with heap:=(H2.push (jO "tuple" t.toArray 0)).push (jO "list" #[] 0)}) O O2 O3 (⟨a0,(bL o67),la,aB R.stat.size (eI _ 3),R.none_ a0,R.none_ (bL o67),λh=>absurd (Nat.add_left_cancel h) (by decide)⟩) ⟨X3,D _ _ f,e0,Kh w R X3⟩ F ⟨r.handled,by have:=r.depth;exact(aB (bU (by decide:17<=19) _) this),by have:=r.units;exact(aB (bU (by decide:172<=200) _) this),r.guards⟩ eq hl X p λs' Z c X' hx ho w'=>?_);refine eC λC=>gA ho λP hp y G=>?_;clear ho;refine bX (Paired.zip X w') λp0 e3=>gA (En hp.symm p0) λl' u c5 L=>C ?_;rw[<-y]at L;refine aW ⟨.ref _,S.put _ (.list l'),X'.put la a0 ⟨Z.toList,c,?_,L⟩,V.ref,(hm l' (P.map (·.1)) u c5 (by refine qP pK ?_;exact G) (s.heap.objs.size+1) (R.none_ a0))⟩;refine iZ hx ?_;rfl
theorem BY:aA0 (.builtin "sorted")=pure .machine:=by kernel_rfl
theorem Fp{M:nx}{t:Sem aP}{Q:List aP->aO->Prop}{E:EP}(h:iQ M A t (λv=>Q [v]) E s):iQ M A (evalAll [t]) Q E s:=by exact aL (cV h (λv s' q=>aL (bI (aW (aW q)))) λa a e=>e)
theorem KS:¬qV sc vs x (λι ι=>False) E S:=by
 intro h;have L:∀i,¬lc i vs (λι ι=>False) E S:=by
   intro i h;unfold lc at h;rcases q3:vs[i]? with _|_|v;·rw[q3]at h;exact h
   ·rw[q3]at h;exact h
   · rw[q3]at h;rcases v<;>first|exact h|skip
     revert h;refineλq_=>aY q_ λo ι h=>?_;clear q_;rcases o<;>first|exact h|skip
     rename_i v;rcases v<;>exact h
 have L2:∀i,¬lv i vs (λι ι=>False) E S:=by
   intro i h;unfold lv at h;rcases q3:vs[i]? with _|_|v<;>(replace h:=q3▸h;exact h)
 have L3:¬xn x (λι ι=>False) E S:=by intro h;unfold xn at h;cases q:dA x qf with |some v=>rw[q]at h;exact h|none=> replace h:=q▸h;cases q2:dA x th with |some v=>rw[q2]at h;exact h|none=>rw[q2]at h;exact h
 unfold qV at h;cases q:dunder x with|true=>replace h:=q▸h;exact h|false=>replace h:=q▸h;cases q2:uB sc.names x with|none=>replace h:=q2▸h;exact h|some p=>obtain⟨i,k⟩:=p;rw[q2]at h;clear q q2;rcases k<;>first|exact L2 _ h|exact L _ h|exact L3 h|exact h
theorem ZI(h:Om g v i K E S):g=.bi 5/\mO v (λl b=>vg i l K E b) E S:=by
 rcases g with _|_|_|_|_|_|_|_|_|_|_|_|n<;>first|exact fA h|skip
 rcases q:fQ n 5 with _|_
 · have h:(match fQ n 5 with|true=>(mO v).bind λl=>vg i l|false=>(.fail:M CV)) K E S:=h;rw[q]at h;exact fA h
 · obtain rfl:=cM q;exact⟨rfl,h⟩
theorem am2{l:List CV}{f:CV->M CV}{K:KP}{E:KP}{S:CS}(h:(match l with|[v]=>f v|_=>(.fail:M CV)) K E S):∃v,l=[v]/\f v K E S:=by
 rcases l with _|⟨v,_|_⟩;·exact h.elim
 ·exact⟨v,rfl,h⟩
 ·exact h.elim
theorem oM_{α:Type}{f:Nat->M α}{K:α->CS->Prop}{E:KP}{S:CS}(h:(match o with|some i=>f i|none=>(.fail:M α)) K E S):∃i,o=some i/\f i K E S:=by
 rcases o with _|i;·exact h.elim
 ·exact⟨i,rfl,h⟩
theorem JD(h:(S.put q o) a=none):S a=none:=by
 unfold oz at h;split at h;·contradiction
 ·exact h
theorem N7(O:dM W)(O2:jD W)(O3:n8 W):C6 W:=by
 intro n k A env sc vs S s f fp a key ps b lsc lp kp p I h K E hm0;have hm:(match zg (qW key "key") (zg (iD sc) (ys ps b lsc))with |some i=>(alive (aM n)).bind λι=>(eP (aM n) k sc (.Name f fp) vs).bind λg=>(eP (aM n) k sc a vs).bind λv=>Om g v i|none=>(.fail:M CV)) K E S:=hm0;clear hm0;refine aY (oM_ hm) λi q0 hm=>bX (AO q0) λq2 q0=>bX (AO q0) λq3 q1=>?_;clear q0;have:=jW.mp q2;refine aC this (eC λk_=>?_);revert hm;refineλq_=>bX q_ λq13x hm=>?_;clear q_;refine RR q13x λf0 as0 K0 E0 S0 hal=>?_;clear q13x;refine k_ ?_;cases n with|zero=>exact hal.elim|succ n=>cases k with|zero=>exact hm.elim|succ k=>
 refine zU (H_ q1) λι h1 ι ι h4 hd=>?_;by_cases hst:∃x p,a=.Starred x p
 · exfalso;refine sJ hst λx p e12x=>?_;clear hst;obtain rfl:=e12x;exact KS hm
 refine zw rfl (aL (((I (k+1)).e (.Name f fp) h).step (eH.refl h.rel) hm λg gv S1 s1 X1 ι y1 hm=>?_));have hm':sf (aM (n+1)) (k+2) sc [a] vs (λl S'=>(match l with |[v]=>Om g v i|_=>(.fail:M CV)) K E S') E S1:=hm;unfold MU;have hany:(sC p (mE [a] env)).any (·.1)=false:=by refine aC (oe (λx p e=>hst ⟨x,p,e⟩)) ?_;rfl
 have eA:az9 gv true (sC p (mE [a] env)) (aA2 p (MV [⟨some "key",.Lambda ps b lsc lp,kp⟩] env))=(yT (sC p (mE [a] env))>>=λus=>lV (us++(none:Option aP).toList) (evalAll [(do let v<-eval (.Lambda ps b lsc lp) env;mY p;pure v)]>>=λkv=>pure us>>=λp=>pure ⟨p,([aD "key"]).zip kv⟩)):=by refine aC (oe (λx p e=>hst ⟨x,p,e⟩)) ?_;rfl
 refine aC eA (aL (bI (aL (((I (k+2)).es p [a] (h.ext X1)).step X1 hm' λl us S2 s2 XT2 X2 y2 hm=>?_))));have hh2:=(h.ext X1).ext X2;clear q2 I hal h1 hst X1 ι hm' eA X2;refine eC λk_=>aY (am2 hm) λv e10x hm=>?_;obtain rfl:=e10x;refine aY (Vs1 y2) λu e8x yu=>?_;obtain rfl:=e8x;refine bX (ZI hm) λe6x hm=>?_;obtain rfl:=e6x;refine eJ (sW hm) λl0 xs e4x r5x=>?_;obtain rfl:=e4x;refine bX r5x λel hm=>?_;clear r5x;have pu:=gT yu;subst pu;obtain rfl:gv=.builtin (biName 5):=y1;refine k_ (bI (aL (Fp (aL ?_))));have hlam:((qr sc vs lsc.names).bind λcs=>mk (.clo ⟨ps,b,lsc⟩ cs)) (λv S'=>∃q,v=.ref q/\S2 q=none/\S'=S2.put q (.clo ⟨ps,b,lsc⟩ [])) E S2:=by
   unfold qr;exact aC (GP h4) (λq hq=>⟨q,rfl,hq,rfl⟩)
 refine(UT O O2 hh2 ps b lsc lp q3 hd).step XT2 hlam λc kv S3 s3 XT3 X3 y3 hm3=>eC λk_=>aY hm3 λq e1x r2x=>?_;clear hm3;obtain rfl:=e1x;refine bX r2x λhq e3x=>?_;clear r2x;obtain rfl:=e3x;refine k_ ?_;have pq:=gT y3;subst pq;refine aL (fJ (aW (aL (aW (aW (aL (fJ (aC hany (aL (p8 BY (aW ?_)))))))))));have el3:(S2.put q (.clo ⟨ps,b,lsc⟩ [])) l0=some (.list xs):=by unfold oz;refine aC (if_neg (λe=>by rw[e,hq]at el;exact iH el)) ?_;exact el
 have eq3:(S2.put q (.clo ⟨ps,b,lsc⟩ [])) q=some (.clo ⟨ps,b,lsc⟩ []):=by unfold oz;exact aC (if_pos rfl) rfl
 have none3:∀a',(S2.put q (.clo ⟨ps,b,lsc⟩ [])) a'=none->S2 a'=none:=λa' h'=>JD h';refine aL (cV (Je (K:=λv S''=>∃a' l',v=.ref a'/\S''=(S2.put q (.clo ⟨ps,b,lsc⟩ [])).put a' (.list l')/\(S2.put q (.clo ⟨ps,b,lsc⟩ [])) a'=none/\K (.ref a') (S2.put a' (.list l'))) (E:=E) O O2 O3 (hh2.ext X3).frs ⟨h.room.handled,by have:=h.room.depth;exact aT7 this,by have:=h.room.units;exact aU0 this,h.room.guards⟩ (hh2.ext X3).rel el3 eq3 q1 ⟨hm.1,hm.2.1,λl' q' hp hk hs a' ha'=>⟨a',l',rfl,rfl,ha',hm.2.2 l' q' hp hk hs a' (none3 a' ha')⟩⟩) (λv sF qF=>?_) λe sF qF=>qF.trans XT3);refine eC λk_=>?_;obtain⟨ca,S',X',y,a',l',rfl,rfl,ha',hK⟩:=qF;refine k_ (aL (cQ (c_ (jB (aW ⟨.ref a',S2.put a' (.list l'),(XT3.trans X').less ?_,y,hK⟩)))));intro b' o' hb;unfold oz at hb|-;split at hb;·rename_i e;refine aC (if_pos e) ?_;exact hb
 ·rename_i e;exact aC (if_neg e) (aC (if_neg (λe2=>by rw[e2,hq]at hb;exact iH hb)) hb)
end
end Internal
section
open PySem PySem.W PySem.Spec PySem.Calls PyProof.Rows
namespace Internal
theorem EN : Clear ⟨.builtin "claim.caller" {}, none, none, [], none⟩ := ⟨by decide +kernel, λ a h => nomatch h⟩
theorem aK2 {M : nx} {t : Sem Fin} {R : oO -> aO -> Prop} {s : aO}
    (h : iQ M uI t (λ fin s' => ∃ f, fin = .done f /\ R (.ok f) s') (λ e s' => R (.error e) s') s) (p : Pos) :
    Sem.wp M ⟨.builtin "claim.caller" {}, none, none, [], none⟩ t (Sem.finPost M ⟨.builtin "claim.caller" {}, none, none, [], none⟩ R) (λ e a s' => R (.error e) s') p s :=
  vR M _ t (λ _ _ _ T => by refine aY T λ a e x => ?_; clear T; exact e ▸ x) (λ a a a x => x) p s (h _ p caller_in EN)
theorem ak6 {c : ClaimW} {tree : List aP -> Sem Fin} {w : jH} {s : aO} {free : Addr -> Prop} {gens : Prop} {h : Heap -> Prop} (hz : s.asleep) (q : s.gens = #[])
    (L : ∀ args, c.pre args = true -> Kf args = true -> ∀ ord : List JQ -> List JQ, (∀ l, (ord l).Perm l) ->
      ∃ vs s₁, layAllW c.records (ad3 s.heap) w.params ord args s = some (vs, s₁) /\
        iQ (bB c.prog w) uI (tree vs) (λ fin s' => ∃ f, fin = .done f /\ (c.Ends s args vs s₁ (.ok f) s' /\ s'.os = s.os /\ AllBare s'.gens /\ h s'.heap))
          (λ e s' => c.Ends s args vs s₁ (.error e) s' /\ s'.os = s.os /\ AllBare s'.gens /\ h s'.heap) s₁) :
    c.CallFrom (λ vs => ⟨tree vs, .builtin "claim.caller" {}, default, []⟩) w free gens h s := by
  intro args hp hl ord ho
  refine eC λ p => eJ (L args hp hl ord ho) λ vs s₁ m code => ?_
  have full := wp_halts_full (M := bB c.prog w) (R := λ r s' => c.Ends s args vs s₁ r s' /\ s'.os = s.os /\ h s'.heap) (aO.asleep_of_life (BK _ _ _ m).2.2.2 hz)
    (aK2 (R := λ r s' => (c.Ends s args vs s₁ r s' /\ s'.os = s.os /\ h s'.heap) /\ leftWithCleanup s'.gens = false)
      (cV code (λ _ _ T => by refine zW T λ f e a b g k => ?_; clear T; exact ⟨f, e, ⟨a, b, k⟩, D_ g⟩) λ _ _ ⟨a, b, g, k⟩ => ⟨⟨a, b, k⟩, D_ g⟩) default)
  refine vj full λ k r Z t F run A n os N => ?_
  clear full
  refine qJ (aO.forget_eq A) λ eh j j eo j => p ?_
  have N : h t.heap := by refine aC eh ?_; exact N
  rw [<- eo] at os
  refine ⟨vs, s₁, m, k, _, t, F, ?_, (λ j i x hx => by rw [q] at hx; exact iH hx), N, aC ((runN_life _ _ _ run).trans (BK _ _ _ m).2.2.2) rfl, aO.rest_eq os⟩
  clear hz q L hp hl ho p m code F run A os N eo
  rcases (n.congr eh) with ⟨v, rfl, a, b, d, e, f⟩ | ⟨x, ob, cls, rfl, a, b, d, e, f⟩
  · exact .inl ⟨v, rfl, a, b, d, λ i o hi j => e i o hi, f⟩
  · exact .inr ⟨x, ob, cls, rfl, a, b, d, e, λ i o hi j => f i o hi⟩
noncomputable abbrev WalkN(q:iS)(loose:List Str)(XP:(Str->Option aP)->Heap->Prop){α:Type}(Yf:aO->α)(Ya:jH->α)(r:RowW)(d:DefRec)(kwd:List (Str×Expr))(run:aP->List aP->Sem aP):Prop:=∀(w:jH)(s₀ s₁:aO)(mg mb:Str->Option aP),Ground q loose r.records XP w s₀ mg mb s₁.heap->Yf s₀=Ya w->∀(a:Addr)(o:Obj)(pm cd doc dV kV:aP),s₁.heap.get? a=some o->o.data=.func {docDef d.name d.params d.body d.scope pm cd doc with defaults:=dV,kwdefaults:=kV}->s₁.heap.CodeRec cd d.name->Dflts mg s₁.heap d.params kwd dV kV->mg d.name=some (.ref a)->s₁.gens=#[]->∀(args:List WData)(vals:List aP)(as:List Addr),Laid r.records w s₀ s₁ args vals as->r.claim.pre args=true->Kf args=true->ReadsAllW r.records (ad3 s₀.heap) s₁.heap vals args as->WellAll w.params s₁.heap vals args->(∀a∈as,(a==FW)=false)->iQ (bB r.prog w) uI (run (.ref a) vals) (λv s'=>GoodWG r.claim (ad3 s₀.heap) (MC s₀.heap) args s₁ (.ok (.ret v)) s') (λe s'=>GoodWG r.claim (ad3 s₀.heap) (MC s₀.heap) args s₁ (.error e) s') s₁
theorem ar8 {r : RowW} {run : aP -> List aP -> Sem aP} {tree : List aP -> Sem Fin} {q : iS} {loose O A : List Str} {B : Bool} {Xt : aO -> Bool} {XP : (Str -> Option aP) -> Heap -> Prop} {α : Type} {Yf : aO -> α} {Ya : jH -> α} {N : Nat} {d : DefRec} {j : List (Str × Expr)}
    (left : LeftO r.prog q loose Xt Yf Ya N) (hX : ∀ s, Xt s = true -> XP (s.heap.nsMap fC) s.heap) (F : ∀ C h h', XP C h -> (∀ b o, h.get? b = some o -> h'.get? b = some o) -> XP C h')
    (hdef : defOf q r.name = some (d, j))
    (J : ∀ s, Xt s = true -> aB1 r.records s.heap) (S : (!B || r.records.isEmpty) = true) (ok : (aB2 q && ag6 r.prog && (frees r && r.within.isEmpty)) = true) (hb : r.prog.bare) (hw : r.promised)
    (ht : ∀ vs (w : jH) (s : aO) C f (Q : Fin -> aO -> Prop) (E : EP), s.heap.Ns fC C -> C r.name = some f -> iQ (bB r.prog w) uI (run f vs) (λ v s' => Q (.done (.ret v)) s') E s -> iQ (bB r.prog w) uI (tree vs) Q E s)
    (T : ∀ w s, s.heap.isNs fC = true -> Ground q loose [] XP w s (s.heap.nsMap fC) (s.heap.nsMap jN) s.heap -> ∀ n ∈ O, isTheDefsW r.prog s.heap n)
    (call : WalkN q loose XP Yf Ya r d j run) : r.claim.HoldsOpenBy (λ vs => ⟨tree vs, .builtin "claim.caller" {}, default, []⟩) O A B := by
  simp only [bP] at ok
  refine eC λ Z => iR ok λ k k5 k6 => ?_
  clear ok
  refine bX k λ p o1 => qJ (frees_parts k5) λ u hu ha D hm => Z (⟨⟨hb, o1, by show r.makers.map _ = []; refine aC hm ?_; rfl⟩, hw.witness, λ w => ⟨(left.behind hX p w).1, λ s' Y => ?_⟩⟩)
  refine Fq ((left.behind (XP := λ C h => XP C h /\ aB1 r.records h) (λ s hs => ⟨hX s hs, J s hs⟩) p w).2 s' Y) λ s₀ hf X s I hz t hg i y => ?_
  have G0 : Ground q loose [] XP w s (s.heap.nsMap fC) (s.heap.nsMap jN) s.heap := ⟨i.T, i.B, i.D, i.TE, i.TD, i.W, i.X.1, i.cls, i.has, i.apart, i.once, i.K⟩
  have RF := i.X.2
  have G : Ground q loose r.records XP w s _ _ s.heap := RF.ground G0
  have t : s.gens = #[] := mF (beq_iff_eq.mp t)
  refine ⟨s₀, hf, X, s, I, T w s hg G0, RF.1, RF.2.1, ak6 hz t λ args hp hl ord ho => eC λ Z => iK (oh.mp (layAllW_isSome (P := w.params) (ord := ord) G.has args r.args s (pre_splitW hp).1)) λ m l => ?_⟩
  obtain ⟨vs, s₁⟩ := m
  have x := layAllW_keeps _ _ _ l
  refine gA (reads_layAllW ho _ _ _ l hl s₁.heap (λ ι ι e => e)) λ as W R U => ?_
  have L : Laid r.records w s s₁ args vs as := ⟨⟨ord, ho, l⟩, W, R, U, x, (BK _ _ _ l).1.trans t, (BK _ _ _ l).2.2.1⟩
  have H := G.keeps F x
  refine B5 (H.fn hdef) λ a o pm cd doc dV kV h1 h2 h3 h4 h5 => Z (⟨vs, s₁, l, ht vs w s₁ _ _ _ _ H.T.g h1 (cV (call w s s₁ _ _ H y a o pm cd doc dV kV h2 h3 h4 h5 (defOf_name hdef ▸ h1) L.gens args vs as L hp hl L.reads L.well (L.low G.low)) (λ v s' g => ⟨_, rfl, ?_⟩) λ e s' g => ?_)⟩)
  · have z := g.laid (c := r.claim) u (MD.mp k6) (ident_freeW hu ha D) L
    exact ⟨z.1, z.2.1, z.2.2, λ q => ⟨namesKept_of I hg A x g.2.1.old, noTable S q⟩⟩
  · have z := g.laid (c := r.claim) u (MD.mp k6) (ident_freeW hu ha D) L
    exact ⟨z.1, z.2.1, z.2.2, λ q => ⟨namesKept_of I hg A x g.2.1.old, noTable S q⟩⟩
theorem ap2{M:nx}{x:Str}{f:aP}{t:Sem aP}{k:Option aP->Sem Fin}{A:Str->Option aP}{s:aO}{Q:Fin->aO->Prop}{E:EP}(hg:s.heap.Ns fC A)(hf:A x=some f)(hk:k (some f)=(do ret (<-t)))(h:iQ M uI t (λv s'=>Q (.done (.ret v)) s') E s):iQ M uI (nsGet mainNs x>>=k) Q E s:=by
 refine aL (cV (cQ (wpAny_nsGet (Q:=λv s'=>v=some f/\s'=s) hg ⟨hf,rfl⟩)) ?_ λa a x=>x);clear hg hf;intro v s' q1_;refine bX q1_ λl y=>?_;obtain rfl:=l;obtain rfl:=y;exact zw hk (aL (cV h (λa a x=>aW x) λa a x=>x))
end Internal
namespace Internal.PySem.W
open Internal
theorem holds_openX{r:OpenRow}{q:iS}{loose:List Str}{Xt:aO->Bool}{XP:(Str->Option aP)->Heap->Prop}{α:Type}{Yf:aO->α}{Ya:jH->α}{d:DefRec}{c:List (Str×Expr)}{N:Nat}(left:LeftO r.prog q loose Xt Yf Ya N)(v:∀s,Xt s=true->XP (s.heap.nsMap fC) s.heap)(t:∀A h h',XP A h->(∀b o,h.get? b=some o->h'.get? b=some o)->XP A h')(hdef:defOf q r.name=some (d,c))(hp:r.prog.theDef r.name=some (d.params,d.body,d.scope))(hk:kwWritten? d.params.kwonlyargs d.params.kw_defaults=some c)(u:∀s,Xt s=true->aB1 r.records s.heap)(S:(!r.writes||r.records.isEmpty)=true)(p:r.wellSaid=true)(ok:(aB2 q&&ag6 r.prog&&(frees r.toRowW&&r.within.isEmpty))=true)(e:r.prog.bare)(hw:r.toRowW.promised)(call:WalkN q loose XP Yf Ya r.toRowW d c λf vs=>IU f vs):r.Holds:=⟨p,hw,ar8 (r:=r.toRowW) (run:=λf vs=>IU f vs) (tree:=λvs=>do match<-nsGet mainNs r.name with |some f=>do ret (<-IU f vs)|none=>unsupported "claim.caller:no-such-global") left v t hdef u S ok e hw (λvs w s A f Q E hg hf h=>ap2 hg hf rfl h) (λw s hg G n hn=>by
   obtain rfl:n=r.name:=by split at hn<;>simp_all
   exact pinned_of_view hg G hdef hp hk) call⟩
end Internal.PySem.W
end
section
open PySem PySem.W PyProof.Rows PySem.Calls
namespace Internal
theorem oH{α:Type}{x:Nat}{l:List (Nat×α)}{v:α}(h:i_ x l=some v):(x,v)∈l:=by induction l with|nil=>exact iH h|cons a r j=>
  obtain⟨y,w⟩:=a;dsimp only[i_]at h;rcases q:fQ x y with _|_;·replace h:=q▸h;exact eV _ (j h)
  ·obtain rfl:=aE (q▸h);have:=cM q;subst this;simp
theorem vz{α:Type}{x:Str}{l:List (Str×α)}{v:α}(h:dA x l=some v):(x,v)∈l:=by induction l with|nil=>exact iH h|cons a r j=>
  obtain⟨y,w⟩:=a;dsimp only[dA]at h;rcases q:qW x y with _|_;·replace h:=q▸h;exact eV _ (j h)
  ·obtain rfl:=aE (q▸h);have:=jW.mp q;subst this;simp
noncomputable def QT(x:Str):Str:=(x++".<locals>.")++"<lambda>"
noncomputable def nU:List (Addr×Addr×Str):=[(700,698,QT "_law_added"),(710,708,QT "_law_read_right"),(715,713,QT "_law_written_right"),(725,723,QT "law")]
noncomputable def Hp(a:Nat):Bool:=!(fQ a 698||(fQ a 708||(fQ a 713||fQ a 723)))
noncomputable def qq(K:Frag):Frag:=K.filter λp=>Hp p.1
theorem Hn{K:Frag}{a:Addr}{o:Obj}(h:(qq K).lookup a=some o):Hp a=true/\K.lookup a=some o:=by
 unfold qq at h;induction K with |nil=>exact iH h|cons p r ih=>
   obtain⟨b,x⟩:=p;replace h:=kT▸h;refine aC eG ?_;split at h
   · rename_i q;replace h:=eG.symm.trans h;rcases e:a==b with _|_;·replace h:=e▸h;exact ih h
     ·replace h:=e▸h;have:=beq_iff_eq.mp e;subst this;exact⟨q,h⟩
   · rename_i q;refine bX (ih h) λh1 h2=>⟨h1,?_⟩;rcases e:a==b with _|_;·exact h2
     ·have:=beq_iff_eq.mp e;subst this;exact absurd h1 q
theorem I_{a:Addr}(h:Hp a=true):∀t∈nU,a≠t.2.1:=by rintro t ht rfl;simp only[nU,a_,cG,or_false]at ht;rcases ht with rfl|rfl|rfl|rfl<;>exact rR h
noncomputable def wq(w:jH)(h₁:Heap)(K:Frag)(ns:List Int)(svs:List aP)(os:yQ):Wd:=⟨w,h₁,qq K,nU,ns,727,os,svs⟩
noncomputable def vEq(a:CV)(v:aP):Bool:=match a with |.none=>(match v with|.none=>true|_=>false)|.int i=>(match v with|.int j _=>decide (i=j)|_=>false)|.str x=>(match v with|.str y _=>qW x y|_=>false)|.st a=>(match v with|.ref b=>fQ a b|_=>false)|.ty n=>(match v with|.type m=>tyName n==m|_=>false)|.bi n=>(match v with|.builtin m=>biName n==m|_=>false)|_=>false
theorem K3{W:Wd}{h:Heap}{a:CV}{v:aP}(e:vEq a v=true):V W h a v:=by
 rcases a<;>first|exact rR (e:false=true)|skip
 all_goals rcases v<;>first|exact rR (e:false=true)|skip
 ·exact rfl
 ·obtain rfl:=of_decide_eq_true e;exact⟨_,rfl⟩
 ·obtain rfl:=jW.mp e;exact⟨_,rfl⟩
 ·obtain rfl:=cM e;exact rfl
 ·obtain rfl:=eq_of_beq e;exact rfl
 ·obtain rfl:=eq_of_beq e;exact rfl
noncomputable def oB{α:Type}(o:Option α)(f:α->Bool):Bool:=match o with|some a=>f a|none=>false
theorem uK{α:Type}{o:Option α}{f:α->Bool}(h:oB o f=true){P:Prop}(k:∀a,o=some a->f a=true->P):P:=by
 rcases o with _|a;·exact rR (h:false=true)
 ·exact k a rfl h
theorem kY{a b:Bool}(h:(a&&b)=true){P:Prop}(k:a=true->b=true->P):P:=k (dR.mp h).1 (dR.mp h).2
noncomputable def Ip:Data->Option (Array aP)|.fields v=>some v|_=>none
noncomputable def Im:Data->Option aA8|.func f=>some f|_=>none
noncomputable def at7:Data->Option (Array aP) |.seq a _=>some a|_=>none
noncomputable def LL:Data->Bool|.plain=>true|_=>false
noncomputable def vStr:aP->Option Str|.str x _=>some x|_=>none
noncomputable def Mn:aP->Bool|.int _ _=>true|_=>false
noncomputable def LM:aP->Bool|.bool _=>true|_=>false
theorem Bc{d:Data}{v:Array aP}(h:Ip d=some v):d=.fields v:=by rcases d<;>first|exact iH h|exact congrArg _ (aE h)
theorem Yn{d:Data}{v:aA8}(h:Im d=some v):d=.func v:=by rcases d<;>first|exact iH h|exact congrArg _ (aE h)
theorem al3{d:Data}{v:Array aP}(h:at7 d=some v):∃n,d=.seq v n:=by rcases d<;>first|exact iH h|exact⟨_,congrArg (Data.seq · _) (aE h)⟩
theorem N0{d:Data}(h:LL d=true):d=.plain:=by rcases d<;>first|rfl|exact rR (h:false=true)
theorem Kn{v:aP}{a:Addr}(h:V_ v=some a):v=.ref a:=by rcases v<;>first|exact iH h|exact congrArg _ (aE h)
theorem UR{v:aP}{x:Str}(h:vStr v=some x):∃t,v=.str x t:=by rcases v<;>first|exact iH h|exact⟨_,congrArg (rO · _) (aE h)⟩
theorem US{v:aP}(h:Mn v=true):∃x t,v=.int x t:=by rcases v<;>first|exact⟨_,_,rfl⟩|exact rR (h:false=true)
theorem XR{v:aP}(h:LM v=true):∃x,v=.bool x:=by rcases v<;>first|exact⟨_,rfl⟩|exact rR (h:false=true)
theorem Z6{o:Obj}{c:aP}{d:Data}(h1:o.cls=c)(h2:o.dict=none)(h3:o.data=d)(h4:fQ o.slots.size 0=true):o={cls:=c,data:=d}:=by
 rcases o with⟨c,X,dt,sl⟩;obtain rfl:c=_:=h1;obtain rfl:X=none:=h2;obtain rfl:dt=_:=h3;exact congrArg _ (mF (cM h4))
noncomputable def Fy(vs:Array aP)(i:Nat):Option aP:=vs[i]?
noncomputable def ao3(K:Frag):Bool:=qf.all (λe=>oB (nsIn K 3 e.1) λo=>oB o λv=>vEq e.2 v)&&th.all (λe=>oB (nsIn K 3 e.1) λo=>o.isNone&&oB (nsIn K 0 e.1) λp=>oB p λv=>vEq e.2 v)
noncomputable def nsC(K:Frag):Bool:=nsOkIn K 3&&(nsOkIn K 0&&(nsOkIn K cStatics&&nsIn K cStatics "sys.recursionlimit"==some none))
noncomputable def wB(c:Nat):Bool:=oB (dU c "__init__") λf=>fQ f 36
noncomputable def av6(K:Frag)(c:Nat):Bool:=oB (FV K c) λcd=>cd.hasDict
noncomputable def am6(K:Frag)(c:Nat)(x:Str):Option Nat->Bool |none=>oo K (.ref c) x==some none|some _=>true
noncomputable def aK4(K:Frag)(c:Nat):Bool->Bool |true=>oo K (.ref c) "__getattribute__"==some (some (.builtin "BaseException.__getattribute__"))&&(ML K (.ref c) (.type "BaseException")==some true&&(ML K (.ref c) (.type "Exception")==some true&&(oo K (.ref c) "__setattr__"==some (some (.builtin "object.__setattr__"))&&Ic K c)))|false=>oo K (.ref c) "__getattribute__"==some (some (.builtin "object.__getattribute__"))&&(oo K (.ref c) "__setattr__"==some (some (.builtin "object.__setattr__"))&&plainOver K c)
noncomputable def LP(K:Frag)(c:Nat):Bool:=av6 K c&&(oo K (.ref c) "__getattr__"==some none&&((o_.all λy=>am6 K c y.1 (dU c y.1))&&aK4 K c (wB c)))
noncomputable def ao7(K:Frag)(c:Nat)(line:List Nat):Bool:=line.all λk=>match i_ k fY with
 |some (_,fs)=>fs.all λf=>match dU c f.1 with|some g=>oo K (.ref c) f.1==some (some (.ref g))&&typeIn K (.ref g)==some (.type "function")|none=>false
 |none=>true
noncomputable def UY(K:Frag)(c:Nat):Bool:=match dU c "__init__"with|some f=>fQ f 36||makesIn K c|none=>true
noncomputable def ap1:Option CFound->Bool |some (.val (.ref a))=>fQ a 339|_=>false
set_option tactic.hygienic true in theorem ap8{o}(h:ap1 o=true):o=some (.val (.ref 339)):=by
 rcases o with _|o<;>first|exact rR h|skip
 rcases o<;>first|exact rR h|skip
 rename_i v;rcases v<;>first|exact rR h|skip
 exact(cM h)▸rfl
noncomputable def ah6(K:Frag):Bool:=af7 K (.ref 510) "__getattribute__"==some (some (.builtin "type.__getattribute__"))&&(readsIn K 510 (.type "type")&&ap1 (zm K (.ref 510) (.type "type") "__init__"))
noncomputable def aB5(K:Frag)(c:Nat)(line:List Nat):Bool:=(match dU c "__init__"with|some f=>!fQ f 36||(ML K (.ref c) (.type "BaseException")==some true&&typeIn K (.ref c)==some (.type "type"))|none=>true)&&line.all λcc=>match dU cc "__init__"with|some f=>!fQ f 36||exmOne K (.ref c) (.ref cc)==some true|none=>true
noncomputable def aj2(o:Option Obj):Bool:=oB o λo=>oB o.dict λd=>o.cls==.type "module"&&(fQ d 0&&LL o.data)
noncomputable def aq6(K:Frag):Bool:=(oB (nsIn K 3 "__builtins__") λo=>oB o λv=>oB (V_ v) λa=>fQ a 4)&&aj2 (K.lookup 4)
noncomputable def dfC(K:Frag)(dv:List CV)(v:aP):Bool:=match dv with|[]=>v==.none|x::r=>r.isEmpty&&oB (V_ v) λt=>oB (K.lookup t) λo=>oB (at7 o.data) λa=>o.dict.isNone&&(o.cls==.type "tuple"&&(fQ o.slots.size 0&&match a.toList with|[]=>false|v::r=>r.isEmpty&&vEq x v))
noncomputable def fnC(K:Frag)(a:Nat):Bool:=oB (K.lookup a) λo=>oB (Im o.data) λf=>oB (wx a) λe=>(oB (V_ f.code) λc=>(oB (K.lookup c) λo=>oB (Ip o.data) λvs=>oB (Fy vs 1) λv=>oB (vStr v) λq=>qW q f.qualname)&&(!iD e.1.scope||nU.any λt=>fQ t.1 c&&qW t.2.2 ((f.qualname++".<locals>.")++"<lambda>")))&&dfC K e.2 f.defaults
noncomputable def ah0(K:Frag)(c:Nat):Bool:=!wB c||makesE K c
noncomputable def ao6(K:Frag):Bool:=(uc.all λe=>keepIn K (.ref e.1))&&fY.all λe=>keepIn K (.ref e.1)
noncomputable def uZ(K:Frag):Bool:=nsC K&&(ao3 K&&((fY.all λe=>LP K e.1)&&((fY.all λe=>ao7 K e.1 e.2.1)&&((fY.all λe=>UY K e.1)&&(ah6 K&&((fY.all λe=>aB5 K e.1 e.2.1)&&(aq6 K&&((uc.all λe=>fnC K e.1)&&((fY.all λe=>ah0 K e.1)&&ao6 K)))))))))
noncomputable def Ie(o:Option Obj):Option (kE×aA6×dD×Addr×Addr×List (Str×Addr)):=o.bind λo=>(Im o.data).map λf=>(f.params,f.body,f.scope,f.globals,f.builtins,f.closure)
noncomputable def De(o:Option (FnD×List CV)):Option (kE×aA6×dD×Addr×Addr×List (Str×Addr)):=o.map λe=>(e.1.params,.stmts e.1.body,e.1.scope,3,0,[])
noncomputable def Yj(K:Frag):Bool:=nU.all λt=>(oB (K.lookup t.1) λo=>oB (Ip o.data) λvs=>o.cls==.type "code"&&((oB (Fy vs 11) λv=>oB (V_ v) λp=>fQ p t.2.1)&&((oB (Fy vs 18) λv=>(vStr v).isSome)&&(oB (Fy vs 7) Mn&&(oB (Fy vs 9) LM&&oB (Fy vs 10) Mn)))))&&(oB (K.lookup t.2.1) λo=>o.dict.isNone&&(o.cls==.none&&(fQ o.slots.size 0&&oB (Ip o.data) λvs=>fQ vs.size 0)))
end Internal
end
section
open PySem PySem.W PyProof.Rows PySem.Calls
namespace Internal
theorem tU{K:Frag}{h:Heap}{N:Addr}{A:Str->Option aP}{n:Str}{v:aP}(X:K.In h)(G:h.Ns N A)(e:nsIn K N n=some (some v)):A n=some v:=by
 refine eC λf=>qx G λR es ep ho hd a hf=>?_;clear G;obtain⟨c,d,dt,sl⟩:=R;have hd:dt=.dict es ep:=hd;refine f ?_;clear f;subst hd;unfold nsIn at e;rcases q:K.lookup N with _|x;·rw[q]at e;exact iH e
 · obtain rfl:=aE (ho.symm.trans (X _ _ q));rw[q]at e;have e:(match es.toList.find? (·.key.isStr n)with |some e=>some (some e.val)|none=>if es.toList.any (·.refKey)then none else some none)=some (some v):=e;rcases he:es.toList.find? (·.key.isStr n)with _|C
   · rw[he]at e;by_cases hr:es.toList.any (·.refKey)=true;·exact iH ((if_pos hr).symm.trans e)
     ·exact iH (aE ((if_neg hr).symm.trans e))
   · rw[he]at e;refine sn_ e (iZ (hf _) ?_);delta nsFind findBy;refine iZ (IK) (aC he ?_);rfl
set_option tactic.hygienic true in theorem Eu{r}(h:wx a=some r):∃e∈uc,e.1=a:=by
 unfold wx at h;rcases q:i_ a uc with _|cf;·rw[q]at h;exact iH h
 ·exact⟨_,oH q,rfl⟩
set_option tactic.hygienic true in theorem Hh{d}(hk:i_ c fY=some d)(h:dU c x=some g):∃k∈d.1,∃l r,i_ k fY=some (l,r)/\dA x r=some g:=by
 unfold dU at h;rw[hk]at h;obtain⟨line,r⟩:=d;refine aY (List.exists_of_findSome?_eq_some h) λk Z e=>?_;refine⟨k,Z,?_⟩;rcases q:i_ k fY with _|lf;·rw[q]at e;exact iH e
 ·rw[q]at e;exact⟨lf.1,lf.2,rfl,e⟩
theorem lI{α:Type}{l:List α}{p:α->Bool}(h:l.all p=true){a:α}(m:a∈l):p a=true:=MA.mp h a m
section
variable{w:jH}{h₁:Heap}{K:Frag}{ns:List Int}{svs:List aP}{os:yQ}
theorem Ls(X:K.In h₁):∀h,uz (wq w h₁ K ns svs os) h->(qq K).In h:=λh T a o e=>by refine bX (Hn e) λn q=>?_;exact T.keep a o (X a o q) (I_ n)
structure xd(w:jH)(h₁:Heap)(K:Frag)(ns:List Int)(svs:List aP):Prop where
 X:K.In h₁
 C:uZ (qq K)=true
 V:uc.map (λe=>Ie ((qq K).lookup e.1))=uc.map (λe=>De (wx e.1))T:Yj K=true
 sz:h₁.objs.size=728
 scr:h₁.IsList 727 svs.toArray
 its:mX svs ns
 few:ns.length<=63
theorem XT(X:K.In h)(c:nsC K=true):h.Ns 3 (h.nsMap 3)/\h.Ns 0 (h.nsMap 0)/\h.NoLimit:=by
 simp only[nsC,bP,beq_iff_eq]at c;refine eC λd=>s9 c λc1 c2 c3 c4=>?_;clear c;exact d ⟨.of_isNs (Va X c1),.of_isNs (Va X c2),_,.of_isNs (Va X c3),nsMap_none_of_in X c3 c4⟩
theorem aj6(G:xd w h₁ K ns svs):dM (wq w h₁ K ns svs os):=by
 have C:=G.C;simp only[uZ,bP]at C;refine eC λl=>pB C λcn cg cc cm A k r cb cf E ck=>?_;clear C;have J:∀h,uz (wq w h₁ K ns svs os) h->(qq K).In h:=Ls G.X;have H:∀c d,i_ c fY=some d->LP (qq K) c=true:=λc d hk=>lI cc (oH hk);refine aY G.scr λP Q y=>l ?_;have g:(wq w h₁ K ns svs os).h₁.objs.size=728:=G.sz;refine⟨⟨λt ht=>?_,P,?_,λt ht=>?_⟩,J,λh T=>(XT (J h T) cn).2.2,?_,?_,λh T=>⟨⟨P,T.keep _ _ Q λt ht=>?_,y⟩,G.its,G.few⟩,λc d hk I=>?_,λc d hk I=>?_,λc d x i hk hx hf=>?_,λh T=>?_⟩
 · refine aC g ?_;have ht:t∈nU:=ht;simp only[nU,a_,cG,or_false]at ht;rcases ht with rfl|rfl|rfl|rfl<;>exact⟨by decide,by decide⟩
 ·refine aC g ?_;exact Q
 · refine aC g ?_;have ht:t∈nU:=ht;simp only[nU,a_,cG,or_false]at ht;rcases ht with rfl|rfl|rfl|rfl<;>decide
 ·refine aC g ?_;exact⟨by decide,by decide⟩
 ·refine aC g ?_;decide
 · have ht:t∈nU:=ht;simp only[nU,a_,cG,or_false]at ht;rcases ht with rfl|rfl|rfl|rfl<;>(show(727:Nat)≠_;decide)
 · have q:=H c d hk;simp only[LP,bP,beq_iff_eq]at q;refine s9 q λO z B S=>?_;clear q;have hx:wB c=true:=by unfold wB;refine aC I ?_;rfl
   rw[hx]at S;exact kY S λa S=>kY S λb S=>kY S λc1 S=>kY S λd1 e1=>⟨uK O λcd D O=>⟨cd,D,O⟩,beq_iff_eq.mp a,z,beq_iff_eq.mp b,beq_iff_eq.mp c1,beq_iff_eq.mp d1,e1⟩
 · have q:=H c d hk;simp only[LP,bP,beq_iff_eq]at q;refine s9 q λO z B S=>?_;clear q;have hx:wB c=false:=yP.mpr λe=>uK e λf hf e=>absurd (aC hf (aC (cM e) rfl)) I;rw[hx]at S;exact kY S λa S=>kY S λb S=>uK O λcd D O=>⟨cd,D,O,beq_iff_eq.mp a,z,beq_iff_eq.mp b,S⟩
 · have q:=H c d hk;simp only[LP,bP,beq_iff_eq]at q;refine s9 q λO z B S=>?_;clear q;have:=lI B (vz hx);dsimp only at this;rw[hf]at this;exact beq_iff_eq.mp this
 · have X:=J h T;refine iR (XT X cn) λj n0 m=>⟨_,_,j,n0,λx v e=>?_,λx v n e=>?_⟩;·exact uK (lI (dR.mp cg).1 (vz e)) λo h1 q=>uK q λu h2 q=>⟨u,tU X j (h2▸h1),K3 q⟩
   ·exact uK (lI (dR.mp cg).2 (vz e)) λo h1 q=>kY q λh2 q=>uK q λp h3 q=>uK q λu h4 q=>⟨ns_none_of X j (nS.mp h2▸h1),u,tU X n0 (h4▸h3),K3 q⟩
theorem KG(G:xd w h₁ K ns svs):jD (wq w h₁ K ns svs os):=by
 have C:=G.C;simp only[uZ,bP]at C;refine eC λj=>pB C λcn cg cc cm u i p cb cf z ck=>?_;clear C;have I:∀h,uz (wq w h₁ K ns svs os) h->(qq K).In h:=Ls G.X;refine bX (dR.mp ck) λZ Y=>j ⟨λa h=>?_,λc d x g hk hg=>?_,?_,λc d f hk hf H=>?_,λh T=>?_,λt ht s y e=>?_⟩
 · rcases h with h|h;·exact eC λj=>iK (oh.mp h) λr hr=>aY (Eu hr) λe he L=>j (iZ L (lI Z he))
   ·exact iK (oh.mp h) λr hr=>lI Y (oH hr)
 · refine eC λj=>Ol (Hh hk hg) λk b l B R hs=>j ?_;have q:=lI (lI cm (oH hk)) b;replace q:=R▸q;have q:=lI q (vz hs);dsimp only at q;rw[hg]at q;simp only[bP,beq_iff_eq]at q;exact q
 · simp only[ah6,bP,beq_iff_eq]at i;refine eC λj=>iR i λc1 c2 c3=>?_;clear i;refine j ⟨c1,.type "type",c2,?_⟩;show zm (qq K) _ _ _=_;exact ap8 c3
 · have q:=lI u (oH hk);dsimp only[UY]at q;rw[hf]at q;rcases IP.mp q with q|q;·exact absurd (cM q) H
   ·exact q
 · have X:=I h T;refine eC λj=>iR (XT X cn) λm A A=>j ?_;exact kY cb λc1 c2=>uK c1 λo h1 c1=>uK c1 λv h2 c1=>uK c1 λa h3 c1=>uK c2 λob h4 c2=>uK c2 λd h5 c2=>kY c2 λh6 c2=>kY c2 λh7 n=>⟨_,4,_,m,tU X m (h1.trans (congrArg some (h2.trans (congrArg some ((Kn h3).trans (congrArg _ (cM c1))))))),by decide,X _ _ h4,eq_of_beq h6,h5.trans (congrArg some (cM h7)),N0 n⟩
 · have ht:t∈nU:=ht;have y:s∈nU:=y;simp only[nU,a_,cG,or_false]at ht y;rcases ht with rfl|rfl|rfl|rfl<;>rcases y with rfl|rfl|rfl|rfl<;>first|rfl|exact absurd e (by decide)
theorem ah5(G:xd w h₁ K ns svs):Ib (wq w h₁ K ns svs os):=by
 have C:=G.C;simp only[uZ,bP]at C;refine eC λe=>pB C λcn cg cc cm t d o cb cf u ck=>?_;clear C;refine e ⟨λc f hk H=>?_,λc line x cc hk hl H=>?_⟩
 · have q:=(dR.mp (lI o (oH hk))).1;dsimp only at q;rw[H]at q;simp only[ae4,wN,D7,bP,beq_iff_eq]at q;exact q
 · have q:=lI (dR.mp (lI o (oH hk))).2 (List.contains_iff_mem.mp hl);dsimp only at q;rw[H]at q;replace q:=eq_of_beq q;exact q
theorem UM(G:xd w h₁ K ns svs):n8 (wq w h₁ K ns svs os):=by
 have C:=G.C;simp only[uZ,bP]at C;refine eC λf=>pB C λcn cg cc cm t e o cb cf u ck=>?_;clear C;refine f ?_;intro c d hk H;have q:=lI u (oH hk);have hx:wB c=true:=by unfold wB;refine aC H ?_;rfl
 simp only[ah0,hx,wN,D7]at q;exact q
theorem aL8(X:K.In h)(q:dfC K dv v=true):∃dvs,Vs W h dv dvs/\((v=.none/\dvs=[])\/∃t n,v=.ref t/\h.get? t=some {cls:=.type "tuple",data:=.seq dvs.toArray n}):=by
 rcases dv with _|⟨x,r⟩;·exact⟨[],trivial,.inl ⟨eq_of_beq q,rfl⟩⟩
 · refine kY q λO q=>uK q λt h1 q=>uK q λo h2 q=>uK q λa h3 q=>kY q λh4 q=>kY q λh5 q=>kY q λh6 p=>?_;rcases r with _|_
   · rcases e:a.toList with _|⟨y,r⟩;·rw[e]at p;exact rR p
     · rw[e]at p;refine kY p λO z=>?_;clear q p;rcases r with _|_;·exact iK (al3 h3) λn hn=>⟨[y],⟨K3 z,trivial⟩,.inr ⟨t,n,Kn h1,(X _ _ h2).trans (congrArg some (Z6 (eq_of_beq h5) (nS.mp h4) (hn.trans (iZ e rfl)) h6))⟩⟩
       ·exact rR (O:false=true)
   ·exact rR (O:false=true)
theorem aV3(G:xd w h₁ K ns svs):al1 (wq w h₁ K ns svs os):=by
 refine⟨λa fd dv ha h T=>?_⟩;have cf:(uc.all λe=>fnC (qq K) e.1)=true:=by
   have C:=G.C;simp only[uZ,bP]at C;exact C.2.2.2.2.2.2.2.2.1
 have X:(qq K).In h:=Ls G.X h T;refine eC λd=>aY (Eu ha) λe he Q=>?_;obtain rfl:=Q;refine d ?_;have q:=lI cf he;have v:Ie ((qq K).lookup e.1)=De (wx e.1):=by
   refine iK (cT he) λi hi=>?_;have:=congrArg (·[i]?) G.V;simp only[bE,hi,Kd,dK]at this;exact this
 refine uK q λo h1 q=>uK q λf h2 q=>uK q λA h3 q=>kY q λq y=>uK q λc h4 q=>kY q λB S=>?_;clear G T cf he q;clear q;clear q;obtain rfl:=aE (ha.symm.trans h3);rw[ha,h1]at v;have v:some (f.params,f.body,f.scope,f.globals,f.builtins,f.closure)=some (fd.params,aA6.stmts fd.body,fd.scope,3,0,[]):=by
   have v:(Im o.data).map (λf=>(f.params,f.body,f.scope,f.globals,f.builtins,f.closure))=_:=v;rw[h2]at v;exact v
 have v:=aE v;refine⟨o,f,X _ _ h1,Yn h2,congrArg (·.1) v,congrArg (·.2.1) v,congrArg (·.2.2.1) v,congrArg (·.2.2.2.1) v,congrArg (·.2.2.2.2.1) v,congrArg (·.2.2.2.2.2) v,?_,λhl=>?_,aL8 X y⟩;·exact uK B λo h5 B=>uK B λvs h6 B=>uK B λu h7 B=>uK B λx k B=>iK (UR k) λt ht=>⟨c,o,vs,t,Kn h4,X _ _ h5,Bc h6,jW.mp B▸h7.trans (congrArg some ht)⟩
 · have S:=hl▸S;exact eC λd=>aY (tZ.mp S) λt ht z=>d (kY z λP r=>⟨c,t.2.1,Kn h4,jW.mp r▸cM P▸ht⟩)
theorem XI(G:xd w h₁ K ns svs):uz (wq w h₁ K ns svs os) h₁:=by
 refine⟨λb o e S=>e,λt ht=>?_,bM _⟩;refine bX (dR.mp (lI G.T ht)) λO E=>uK O λo r q=>uK q λvs s q=>kY q λn q=>kY q λy q=>kY q λJ q=>kY q λc q=>kY q λg x=>uK E λo2 z q=>kY q λhd q=>kY q λB q=>kY q λY q=>uK q λI A hz=>?_;have L:=Z6 (eq_of_beq B) (nS.mp hd) ((Bc A).trans (congrArg _ (mF (cM hz)))) Y;clear O E hd B Y A hz;subst L;refine uK y λv11 j q=>uK q λp hp q=>?_;have hp:=j.trans (congrArg some ((Kn hp).trans (congrArg _ (cM q))));have u:t.1≠t.2.1:=by have ht:t∈nU:=ht;simp only[nU,a_,cG,or_false]at ht;clear j y;rcases ht with rfl|rfl|rfl|rfl<;>decide
 have gd:∀{i:Nat}{v:aP},Fy vs i=some v->vs.getD i .none=v:=by
  intro i v e;unfold Fy at e;refine aC (Array.getD_eq_getD_getElem?) (aC e ?_);rfl
 refine uK J λQ h q=>uK c λv7 h7 c=>uK g λv9 F g=>uK x λv10 H x=>eC λP=>iK (oh.mp q) λf hx=>?_;clear ht q y J j;refine iK (UR hx) λd C=>?_;obtain rfl:=C;refine sJ (US c) λm N D=>?_;obtain rfl:=D;refine iK (XR g) λb9 R=>?_;obtain rfl:=R;refine sJ (US x) λl a k=>?_;obtain rfl:=k;exact P (⟨#[],⟨⟨_,vs,G.X _ _ r,eq_of_beq n,Bc s,hp⟩,G.X _ _ z⟩,⟨_,vs,f,d,m,N,b9,l,a,_,G.X _ _ r,Bc s,gd hp,gd h,gd h7,gd F,gd H,G.X _ _ z,rfl,trivial,u⟩,λpos v e=>iH e⟩)
end
end Internal
end
section
open PySem PySem.W PyProof.Rows PySem.Calls
namespace Internal
theorem an4(x:uz W W.h₁)(k:∀t∈W.tabs,W.h₁.get? t.2.1=some {cls:=.none,data:=.fields #[]})(T:uz W h):OldK W.h₁ h:=by
 refine⟨λb o e=>?_,λb o e=>?_⟩
 · rcases BE (∃t∈W.tabs,b=t.2.1)with⟨t,ht,rfl⟩|d
   · refine gA (T.tabs t ht) λps a c c=>gA (x.tabs t ht) λR a0 c c=>?_;have eo:o={cls:=.none,data:=.fields #[]}:=aE (e.symm.trans (k t ht));subst eo;exact .inr (.inl ⟨a0.isCodeTable,rfl,#[],ps,rfl,by rw[a.2];simp⟩)
   ·exact .inl (T.keep b o e λt ht q=>d ⟨t,ht,q⟩)
 · rcases BE (∃t∈W.tabs,b=t.2.1)with⟨t,ht,rfl⟩|d;·exact gA (T.tabs t ht) λps a c c=>⟨_,a.2⟩
   ·exact⟨o,T.keep b o e λt ht q=>d ⟨t,ht,q⟩⟩
section
variable{w:jH}{h₁:Heap}{K:Frag}{ns:List Int}{svs:List aP}{os:yQ}
theorem Xc(G:xd w h₁ K ns svs):∀t∈(wq w h₁ K ns svs os).tabs,h₁.get? t.2.1=some {cls:=.none,data:=.fields #[]}:=by
 intro t ht;exact kY (lI G.T ht) λa A=>uK A λo2 z q=>kY q λhd q=>kY q λy q=>kY q λY q=>uK q λB x hz=>(G.X _ _ z).trans (congrArg some (Z6 (eq_of_beq y) (nS.mp hd) ((Bc x).trans (congrArg _ (mF (cM hz)))) Y))
theorem finish(G:xd w s.heap K ns svs)(t:s.gens=#[])(i:aM 60 (.st 726) [.script ns] (λv b=>v=.bool true) (λb b=>False) (λb=>none)):iQ (bB prog w) uI (call (.ref 726) [.ref 727]) (λv s'=>v=.bool true/\OldK s.heap s'.heap/\s'.os=s.os/\s'.gens=#[]) (λb b=>False) s:=by
 have x:uz (wq w s.heap K ns svs s.os) s.heap:=XI G;have T:jE (wq w s.heap K ns svs s.os) (λb=>none) s:=⟨x,λa o e=>(nomatch e),t,rfl⟩;have C:qO (wq w s.heap K ns svs s.os) (aM 60) 60:=OO ⟨aj6 G,KG G,UM G,N7 (aj6 G) (KG G) (UM G),ah5 G⟩ (aV3 G) 60;have S:Bv (wq w s.heap K ns svs s.os) uI (λb=>none) s.heap:=⟨[],rfl,λenv he=>nomatch he⟩;refine cV (C.call (A:=uI) (f:=.st 726) (args:=[.script ns]) (fv:=.ref 726) (avs:=[.ref 727]) S ⟨rfl,by decide+kernel,by decide+kernel,rfl⟩ T V.st ⟨⟨rfl,rfl⟩,trivial⟩ _ _ i) (λv s' q=>?_) (λe s' q=>?_)
 · obtain⟨a,d,X,y,rfl⟩:=q;have e:v=.bool true:=y;exact⟨e,an4 x (Xc G) X.rel.stat,X.rel.os,X.rel.gens⟩
 · obtain⟨c,d,X,_,h⟩:=q;exact h
end
end Internal
end
section
open PySem PySem.W PyProof.Rows PySem.Calls
namespace Internal
noncomputable section
noncomputable def goT(p:iS)(w:jH)(n₀:Nat)(ann:Option aP)(n:Nat):FQ->Thread->Option FQ:=Nat.rec (λι ι=>none) (λι ih s t=>match through t with|true=>some s|false=>match@uJ n₀ ann t with |false=>none|true=>match@uw (@ux @uy) p w s t with |some (s',t')=>ih s' t'|none=>none) n
theorem Qa:∀(n:Nat)(s:FQ)(t:Thread)(s':FQ),goT p w n₀ ann n s t=some s'->topRun treeTable p w n₀ ann n s.abs t=some s'.abs:=by intro n;induction n with|zero=>intro s t s' h;exact iH h|succ n j=> intro s t s' h;have h:(match through t with |true=>some s|false=>match@uJ n₀ ann t with |false=>none|true=>match@uw (@ux @uy) p w s t with |some (s',t')=>goT p w n₀ ann n s' t'|none=>none)=some s':=h;replace h:=kU PySem.W.Fast.te14364793385576792824▸(kU PySem.W.Fast.te11892475500146522536▸(kU PySem.W.Fast.te10156331382660048174▸(kU PySem.W.Fast.te6613529449190102663▸h)));unfold topRun;cases ht:through t with|true=>replace h:=ht▸h;cases h;rfl|false=>replace h:=ht▸h;cases hk:stepOk n₀ ann t with |false=>replace h:=hk▸h;cases h|true=> replace h:=hk▸h;cases hs:stepT (denote treeTable) p w s t with |none=>replace h:=hs▸h;cases h|some r=> replace h:=hs▸h;exact aC (stepT_spec hs) (j _ _ _ h)
noncomputable def bt(l:List Obj):BT:=(List.foldl (λ(p:BT×Nat)o=>(p.1.ins p.2 o,p.2+1)) (BT.nil,0) l).1
noncomputable abbrev hp:iS:=vB
noncomputable def sT(w:jH)(os:yQ):FQ:=⟨bt (oJ w.params).objs.toList,(oJ w.params).objs.size,(oJ w.params).life,#[],boot_drawn,boot_toks,os⟩
noncomputable def hq:iS:={hp with main:={hp.main with body:=hp.main.body.drop (hp.main.body.length-1)}}
noncomputable def DG:List Str:=hp.main.scope.names.map (·.1)
noncomputable def Kw(p:iS)(w:jH)(s:aO):Bool:=staticsOk [] (oJ w.params) s.heap&&(namesBound p s.heap&&(gensDone s&&laidKept (oJ w.params) s.heap))
noncomputable def E4(o:Obj):Bool:=match o with|⟨_,_,.freed,_⟩=>false|_=>true
noncomputable def vI:Nat->List Obj->Frag|_,[]=>[]|i,o::r=>(match E4 o with|false=>vI (i+1) r|true=>(i,o)::vI (i+1) r)
noncomputable def fragOf(h:Heap):Frag:=vI 0 h.objs.toList
theorem Ko:∀{l:List Obj}{i:Nat},(vI i l).lookup a=some o->∃j,a=i+j/\l[j]?=some o/\E4 o=true:=by intro l;induction l with |nil=>intro i h;exact iH h|cons x r k=>
  intro i h;have up:(vI (i+1) r).lookup a=some o->∃j,a=i+j/\(x::r)[j]?=some o/\E4 o=true:=λq=>by exact gA (k q) λj e1 n U=>⟨j+1,e1.trans ((qS i 1 j).trans (congrArg (i+·) (zk 1 j))),by simpa using n,U⟩
  have h:(match E4 x with|false=>vI (i+1) r|true=>(i,x)::vI (i+1) r:Frag).lookup a=some o:=h;cases e:E4 x with|false=>replace h:=e▸h;exact up h|true=> replace h:=e▸h;rw[show(match true with|false=>vI (i+1) r|true=>(i,x)::vI (i+1) r:Frag)=(i,x)::vI (i+1) r from rfl,eG]at h;cases q:a==i with|true=>replace h:=q▸h;cases h;exact⟨0,beq_iff_eq.mp q,rfl,e⟩|false=>replace h:=q▸h;exact up h
theorem JE(h:Heap):(fragOf h).In h:=λa o e=>by
 refine gA (Ko e) λj e1 n U=>?_;replace e1:=(nX _)▸e1;subst e1;have n:h.objs[a]?=some o:=by refine iZ (qa) ?_;exact n
 unfold Heap.get?;refine aC n ?_;obtain⟨c,d,dt,sl⟩:=o;cases dt<;>first|rfl|cases U
noncomputable def Nr(s:aO):=(uZ (qq (fragOf s.heap)),uc.map (λe=>Ie ((qq (fragOf s.heap)).lookup e.1)),Yj (fragOf s.heap),nsIn (fragOf s.heap) 3 "law",s.heap.objs.size)
noncomputable def Qv(_:jH):=(true,uc.map (λe=>De (wx e.1)),true,(some (some (.ref 726)):Option (Option aP)),727)
noncomputable def aO4(w:jH)(os:yQ):Option FQ:=goT hp w (oJ w.params).objs.size ((oJ w.params).nsMap fC "__annotations__") 4720 (sT w os) (topStub hp)
theorem aM0:∀w os,(aO4 w os).map (λs=>(Kw hp w s.abs,@PySem.W.Fast.tw4187177175401517315 hq DG [] (λa=>true) true s.abs,Nr s.abs))=some (true,openGood hq DG,Qv w):=by intro w os;kernel_rfl
theorem VX(w:jH)(os:yQ):(sT w os).abs=⟨oJ w.params,Array.mk [],boot_drawn,boot_toks,os⟩:=by kernel_rfl
theorem an3:opening hp=plainProg hp.main.scope.names:=by kernel_rfl
theorem XJ(s:aO):aY1 hp s=some s:=by kernel_rfl
theorem VM:aw5 hp.main.body=[]:=by kernel_rfl
theorem Zq(w:jH):((oJ w.params).isNs fC&&(Array.mk ([]:List GenState)).size==0)=true:=by kernel_rfl
theorem SX{p q:iS}{loose:List Str}{α:Type}{Yf:aO->α}{Ya:jH->α}{M:Nat}(e:opening p=plainProg p.main.scope.names)(f:∀s,aY1 p s=some s)(J:aw5 p.main.body=[])(h:∀w os,(goT p w (oJ w.params).objs.size ((oJ w.params).nsMap fC "__annotations__") M (sT w os) (topStub p)).map (λs=>(Kw p w s.abs,openSeen q loose [] (λa=>true) true s.abs,Yf s.abs))=some (true,openGood q loose,Ya w)):LeftO p q loose (λa=>true) Yf Ya (M+600):=λw=>by
 refine aY (d_.mp (boot_open (N:=M+600) e (Nat.ble_eq.mpr (vn 600 M)) f w)) λO l A=>?_;obtain⟨g,gs,d,k,os⟩:=O;have e1:=congrArg UA A;have n:=congrArg (λx=>x.2.1) A;have U:=congrArg (λx=>x.2.2.1) A;have I:=congrArg (λx=>x.2.2.2) A;dsimp only at e1 n U I;subst e1 n U I;refine aY (d_.mp (h w os)) λs h1 h2=>?_;have l1:=congrArg UA h2;have l2:=congrArg (λx=>x.2.1) h2;have t:=congrArg (λx=>x.2.2) h2;dsimp only at l1 l2 t;have r:=topRun_mono 600 _ _ _ _ (Qa _ _ _ _ h1);replace r:=(VX _ _)▸r;unfold Kw at l1;unfold openEnds topFrom;refine aC l (aC (nN _ _) ?_);dsimp only;refine aC (Zq _) ?_;dsimp only;exact aC r (aC J (aC (nN _ _) (aC (Ca _ _ _) (aC (Ca _ _ _) (aC l1 (congrArg some (Prod.ext l2 t)))))))
theorem av7:LeftO hp hq DG (λa=>true) Nr Qv 5320:=SX an3 XJ VM (by refine aC PySem.W.Fast.te4187177175401517315 ?_;exact aM0)
end
end Internal
end
section
set_option backward.match.sparseCases false
open PySem
namespace Internal
noncomputable def iI:fZ->M CV:=λf=>match f with|.next _=>.pure .none|.ret v=>.pure v
noncomputable def lX(i:It):Bool:=uC (.Name "" ⟨0,0,0,0⟩) i
noncomputable def pg(vs:cN):List (Str×Nat)->Option (List (Str×Addr)) |[]=>some []|(x,i)::r=>match(vs[i]?).join with |some (.ref c)=>(pg vs r).map λq=>(x,c)::q|_=>none
noncomputable def pT:List (Nat×Bool)->List CV->cN->M cN |[],[],vs=>.pure vs|(i,t)::r,v::q,vs=>(match t with|true=>sv i v vs|false=>vy i v vs).bind λvs'=>pT r q vs'|_,_,_=>.fail
noncomputable def aP4(p:M CV)(i j m cc:Nat)(vs:cN):M fZ:=λK E S=>true=true/\p (λv S'=>K (.next (vs.set i (some v))) S') (λev S'=>Jk (some (cc,m,j)) (aD "error") (aD "error") vs K ev S') S
mutual noncomputable def Jg:Nat->aI->List LamD|0,_=>[]|k+1,e=>match e with|.Lambda a b sc _=>[⟨a,b,sc⟩]|.Call f as _ _=>Jg k f++Ey k as|.Tuple es _ _=>Ey k es|.List es _=>Ey k es|.Compare l _ cs _=>Jg k l++Ey k cs|_=>[]noncomputable def Ey:Nat->List aI->List LamD|0,_=>[]|k+1,es=>match es with|[]=>[]|e::r=>Jg k e++Ey k r end
mutual noncomputable def aJ2:Nat->Stmt->List LamD |0,_=>[]|k+1,s=>match s with
  |.Assign _ e _=>Jg k e|.Return e _=>match e with|.some e=>Jg k e|.none=>[]
  |.If t b o _=>Jg k t++(Iu k b++Iu k o)|_=>[]noncomputable def Iu:Nat->List Stmt->List LamD|0,_=>[]|k+1,ss=>match ss with|[]=>[]|s::r=>aJ2 k s++Iu k r end
noncomputable def lG(a i:Nat):LamD:=match wx a with |some (fd,_)=>(Iu 60 fd.body).getD i ⟨⟨[],[],none,[],[],none,[]⟩,.Name "" ⟨0,0,0,0⟩,fd.scope⟩|none=>⟨⟨[],[],none,[],[],none,[]⟩,.Name "" ⟨0,0,0,0⟩,prog.main.scope⟩
theorem UC{α:Type}{m T:M α}{K:α->CS->Prop}{E:KP}{S:CS}(h:m=T)(g:T K E S):m K E S:=h▸g
end Internal
end
section
open PySem
namespace Internal
open Internal.M renaming bind->B,pure->P,br->R,less->Z
open Internal.CV renaming int->I,str->T,bool->J,none->N
variable(cl:fW)(cells:List (Str×Addr))(bk bq bg bh av ba ar bf af ah ai bc bb aj al aq am ag be ae ac bi bo bl aw aa ap ak bj ad ab az:CV)(bn ao au bd bp ay an bs ax bm:Addr)(v1 v2 v3 v4 v5 v6 v7 v8 v9 b7 a2 a1 a9 a4 cd b8 a7 ca a6 b4 cv b9 a8 b0 cw cg cu ct bv db cx bw ew dc b1 b5 dt di dl d0 c6 d1 c7 du bx cm cn d2 ea eb c0 dd dj dm cp ec dv ci ed de ch ce dw d3 c3 ee cc dq dx c8 fq dn d4 ef d5 ex ep eg eq gj gk gl hw hx hy hd hz h0 h1 h2 h3:CV)(w2 w3 w4 w5 w6 w7 er f9 dp ga h4 h5 dr gm eh gb ey he:CV)(t2 t4 et fr c1 ds hf hg:Bool)(a0 b3 a3 b6 bz c9 cb cf a5 ei eu d6 co fi d7 df d8 c4 hh cq fj d9 fk ck ez da cj b2 cr gn gc ft ej dg c2 go fu cs cy gp ek fa fv fw fx cz:cN)(m2 m3 m8 gq hi fl gr hj hk hl hm fm hn ho hp ge:(CV×List CV))(i6 fy h6 gf h7 hq hr hs ht:It)(dy ev gs fb gt gu fc gv gg gw fz gx gy gz gh fn g0:List CV)
abbrev aq4:cN:=[some aa,some bj,some bq,none]
abbrev au1(v2:CV):M fZ:=B (fR aa "what" bj) λι=>B (fR aa "at" bq) λι=>P (.next (aq4 bq aa bj))
abbrev Mo:cN:=a0.set 1 (some ad)
abbrev UQ:cN:=[none,none,(((Mo ad a0))[0]?).join].set 1 (some w4)
abbrev aq1(a2:CV):=B (cP .RShift v9 a2) λa1=>B (cP .BitAnd a1 (I 255)) λa9=>B (gd (bN ev.length)) λι=>P (ev++[a9])
abbrev ah1(w4:CV)(ev:List CV):=R true (B (lc 2 (UQ ad w4 a0)) λv9=>B (lv 1 (UQ ad w4 a0)) λb7=>B (cP .Mult (I 8) b7) (aq1 v9 ev)) (P ev)
abbrev au7(v6:CV):=B (nJ 4 [v6]) λv7=>B (gE v7) λi8=>B (gd (lX i8=true/\true=true)) λι=>mV ((ah1 ad a0)) i8 []
abbrev al5(ι:List (Str×Addr)):M fZ:=B (B (gd ((0:Int)=0)) λι=>B (lv 1 (Mo ad a0)) (au7 ad a0)) λl2=>B (mk (.list l2)) λv3=>B (nJ 2 [v3]) λa4=>P (.ret a4)
abbrev ar1(bm:Addr):=B (vy 0 az [some (.ref bm),none,none,none]) λa0=>B (B (iG (pg (Mo ad a0) [("worth",0)])) (al5 ad a0)) iI
theorem JC(n:Nat)(az ad:CV):aM (n+1) (.st 78) [az,ad]=Z (B (iF (.cell none)) (ar1 ad az)):=by kernel_rfl
abbrev Fv:cN:=a0.set 2 (some w2)
abbrev as2:cN:=(Fv w2 a0).set 1 (some b7)
abbrev at8:cN:=[some ag,some (I 0),none,none,none]
abbrev au0(v7:CV):M fZ:=B (cP .Mult (I 8) v7) λv8=>B (cP .LShift v6 v8) λv9=>B (cP .Add v3 v9) λb7=>P (.next (as2 b7 w2 a0))
abbrev as7(v4:CV):=B (lv 2 (Fv w2 a0)) λv5=>B (cJ v4 v5) λv6=>B (lv 2 (Fv w2 a0)) (au0 v3 v6 w2 a0)
abbrev aq7(a:Unit):=yd (λw2 a0=>B (lv 1 (Fv w2 a0)) λv3=>B (lv 0 (Fv w2 a0)) (as7 v3 w2 a0)) fy (at8 ag)
theorem AA(n:Nat)(ag:CV):aM (n+1) (.st 85) [ag]=Z (B (gF (B (qM 1 [ag]) λa2=>B (nJ 4 [a2]) λa1=>B (gE a1) λfy=>B (gd (lX fy=true)) (aq7 ag fy)) λd6=>B (lv 1 d6) λcd=>P (.ret cd)) iI):=by kernel_rfl
abbrev al8:cN:=[some aa,some aq,some bg,some ag,some bf]
abbrev at4(a:Unit):M fZ:=B (fR aa "is_writable" bf) λa=>P (.next (al8 bg bf aq ag aa))
abbrev aj7(a:Unit):=B (fR aa "base" bg) λa=>B (fR aa "octets" ag) (at4 bg bf aq ag aa)
theorem Bm(n:Nat)(aa aq bg ag bf:CV):aM (n+1) (.st 99) [aa,aq,bg,ag,bf]=Z (B (B (fR aa "name" aq) (aj7 bg bf aq ag aa)) iI):=by kernel_rfl
abbrev V3(v1:CV):M fZ:=B (dI aa "octets") λv2=>B (qM 1 [v2]) λv3=>B (cP .Add v1 v3) λv4=>P (.ret v4)
theorem BQ(n:Nat)(aa:CV):aM (n+1) (.st 106) [aa]=Z (B (B (dI aa "base") (V3 aa)) iI):=by kernel_rfl
abbrev WE(t4:Bool):=R t4 (B (B (cP .Add ac ad) λv6=>B (dX aa "end") λt=>B (eQ cl t.1 (t.2++[])) λv8=>cY .LtE v6 v8) λz=>P (J z)) (P (J t2))
theorem zC(n:Nat)(aa ac ad:CV):aM (n+1) (.st 113) [aa,ac,ad]=Z (B (B (B (B (dI aa "base") λv3=>cY .LtE v3 ac) λt2=>B (kM (J t2)) (WE (aM n) ac aa ad t2)) λv1=>P (.ret v1)) iI):=by kernel_rfl
abbrev YT(v4:CV):M fZ:=B (dI aa "is_writable") λv5=>B (gd (bN 4)) λa=>P (.ret (hY [v1,v2,v4,v5]))
abbrev VV(v1:CV):=B (dI aa "base") λv2=>B (dI aa "octets") λv3=>B (nJ 2 [v3]) (YT aa v1 v2)
theorem Bn(n:Nat)(aa:CV):aM (n+1) (.st 120) [aa]=Z (B (B (dI aa "name") (VV aa)) iI):=by kernel_rfl
abbrev Ye(v1:CV):M fZ:=B (cP .FloorDiv v1 (I 8)) λv2=>B (cP .Mult v2 (I 8)) λv3=>B (cP .Add v3 (I 8)) λv4=>P (.ret v4)
theorem Dm(n:Nat)(ad:CV):aM (n+1) (.st 134) [ad]=Z (B (B (cP .Add ad (I 7)) Ye) iI):=by kernel_rfl
abbrev aa7(v2:CV):M fZ:=B (cl (.st 134) [ad]) λv3=>B (cP .Mult ap v3) λv4=>B (cP .Add v2 v4) λv5=>P (.ret v5)
theorem A_(n:Nat)(am ap ad:CV):aM (n+1) (.st 141) [am,ap,ad]=Z (B (B (cP .Mult (I 1048576) am) λv1=>B (cP .Add (I 16777216) v1) (aa7 (aM n) ap ad)) iI):=by kernel_rfl
abbrev XD(v7:CV):M fZ:=B (cl (.st 134) [ad]) λv8=>B (cP .Mod v4 v8) λv9=>B (gd (bN 3)) λa=>P (.ret (hY [v2,v7,v9]))
abbrev Wr(a:Unit):=B (gd (2=2)) λa=>B (cl (.st 134) [ad]) λv6=>B (cP .FloorDiv v4 v6) (XD cl ad v2 v4)
abbrev Xs(v2:CV):=B (cP .Sub ac (I 16777216)) λv3=>B (cP .Mod v3 (I 1048576)) λv4=>B (gd (bN 2)) (Wr cl ad v2 v4)
theorem B_(n:Nat)(ac ad:CV):aM (n+1) (.st 148) [ac,ad]=Z (B (B (cP .Sub ac (I 16777216)) λv1=>B (cP .FloorDiv v1 (I 1048576)) (Xs (aM n) ac ad)) iI):=by kernel_rfl
theorem BS(n:Nat)(ar:CV):aM (n+1) (.st 155) [ar]=Z (B (B (cP .Mult (I 4096) ar) λv1=>B (cP .Add (I 262144) v1) λv2=>P (.ret v2)) iI):=by kernel_rfl
theorem C1(n:Nat)(ar:CV):aM (n+1) (.st 162) [ar]=Z (B (B ((aM n) (.st 155) [ar]) λv1=>B (cP .Add v1 (I 512)) λv2=>P (.ret v2)) iI):=by kernel_rfl
theorem BO(n:Nat)(ar:CV):aM (n+1) (.st 169) [ar]=Z (B (B (nJ 8 [ar]) λv1=>B (cP .Add (T "stack ") v1) λv2=>P (.ret v2)) iI):=by kernel_rfl
theorem Dq(n:Nat)(ac:CV):aM (n+1) (.st 176) [ac]=Z (B (B (nJ 8 [ac]) λv1=>B (cP .Add (T "room ") v1) λv2=>P (.ret v2)) iI):=by kernel_rfl
abbrev VS:cN:=[some ac,none,none,none,none,none,none,none,none,none,none]
abbrev Wi:cN:=b3.set 1 (some v9)
abbrev Kl:cN:=(Wi v9 b3).set 2 (some (T "none"))
abbrev VO:cN:=eu.set 2 (some a7)
abbrev WR(eu:cN):M fZ:=gF (B (B (lv 0 eu) λcd=>B (lv 4 eu) λb8=>cY .GtE cd b8) λk=>R k (B (lv 3 eu) λa7=>P (.next (VO a7 eu))) (P (.next eu))) λd7=>P (.next d7)
abbrev Yh(a:Unit):=yd (λU a5=>B (nM 2 U) λs=>B (pT [(3,true),(4,true)] s a5) WR) h6 (Kl v9 b3)
abbrev Z9(v9:CV):M fZ:=gF (B (lv 1 (Kl v9 b3)) λa6=>B (gE a6) λh6=>B (gd (true=true)) (Yh v9 b3 h6)) λd8=>B (lv 2 d8) λb9=>P (.ret b9)
abbrev Zj(a:Unit):=B (mk (.list [(hY [(T "none"),(I 0)]),(hY [(T "context"),(I 65536)]),(hY [(T "packet"),(I 131072)]),(hY [(T "stack"),(I 262144)]),(hY [(T "room"),(I 524288)]),(hY [(T "values"),(I 16777216)])])) (Z9 b3)
abbrev VN(a:Unit):=B (gd (bN 2)) λa=>B (gd (bN 2)) λa=>B (gd (bN 2)) λa=>B (gd (bN 6)) (Zj b3)
theorem Hb(n:Nat)(ac:CV):aM (n+1) (.st 183) [ac]=Z (B (gF (B (cY .GtE ac (I 1879048192)) λS=>R S (P (.ret (T "beyond"))) (P (.next (VS ac)))) λb3=>B (gd (bN 2)) λa=>B (gd (bN 2)) λa=>B (gd (bN 2)) (VN b3)) iI):=by kernel_rfl
abbrev V8(a:Unit):M fZ:=B (B (cY .Is bb N) λo=>R o (B (mk (.idict [])) λv4=>P v4) (P bb)) λv2=>B (fR aa "maps" v2) λa=>P (.next [some aa,some bb])
theorem Bb(n:Nat)(aa bb:CV):aM (n+1) (.st 198) [aa,bb]=Z (B (B (gd (bN 0)) λa=>B (mk (.list [])) λv1=>B (fR aa "regions" v1) (V8 bb aa)) iI):=by kernel_rfl
abbrev Zi:cN:=a0.set 2 (some a7)
abbrev VJ:cN:=[some aa,some bo,some (I 0),none,none]
abbrev Wt(A:(CV×List CV)):M fZ:=B (lv 2 gc) λcm=>B (lv 1 gc) λfd=>B (eQ cl A.1 (A.2++[cm,fd])) λcn=>P (.next gc)
abbrev WZ(gc:cN):=B (lv 0 gc) λdu=>B (dI du "regions") λbx=>B (dX bx "insert") (Wt cl gc)
abbrev WH(X:Bool):M fZ:=R X (B (rC (B (mG cl 71 [(T "a region in the way")]) λc7=>P c7)) λv=>nC v) (P (.next ck))
abbrev VC(d0:CV):=B (lv 2 ck) λD=>B (cJ d0 D) λc6=>B (dI c6 "base") λd1=>cY .GtE di d1
abbrev YV(u:(CV×List CV)):=B (eQ cl u.1 (u.2++[])) λdi=>B (lv 0 ck) λdl=>B (dI dl "regions") (VC di ck)
abbrev YY(g1:Bool):=R g1 (B (B (lv 1 ck) λb5=>B (dX b5 "end") (YV cl ck)) λC=>R C (P true) (P false)) (P false)
abbrev WY(g:CV):=B (lv 0 ck) λdc=>B (dI dc "regions") λd=>B (qM 1 [d]) λQ=>cY .Lt g Q
abbrev RT(g2:Bool):M fZ:=R g2 (B (rC (B (mG cl 71 [(T "a region in the way")]) λdb=>P db)) λv=>nC v) (P (.next d7))
abbrev TT(f:(CV×List CV)):=B (eQ cl f.1 (f.2++[])) λw=>B (lv 1 d7) λbv=>B (dI bv "base") λp=>cY .GtE w p
abbrev Tp(cw:CV):=B (cP .Sub cw (I 1)) λcg=>B (cJ b0 cg) λcu=>B (dX cu "end") (TT cl d7)
abbrev QH(g3:Bool):=R g3 (B (B (lv 0 d7) λa8=>B (dI a8 "regions") λb0=>B (lv 2 d7) (Tp cl b0 d7)) λW=>R W (P true) (P false)) (P false)
abbrev Ts(d7:cN):=gF (B (B (B (lv 2 d7) λcv=>cY .Gt cv (I 0)) (QH cl d7)) (RT cl d7)) λck=>gF (B (B (B (lv 2 ck) (WY ck)) (YY cl ck)) (WH cl ck)) (WZ cl)
abbrev QY(a1:CV):=B (dI a1 "base") λa9=>B (lv 1 a0) λa4=>B (dI a4 "base") λcd=>cY .LtE a9 cd
abbrev NG(v9:CV):=B (dI v9 "regions") λb7=>B (lv 2 a0) λa2=>B (cJ b7 a2) (QY a0)
abbrev Rd(v4:CV):=B (lv 0 a0) λv5=>B (dI v5 "regions") λv6=>B (qM 1 [v6]) λv7=>cY .Lt v4 v7
abbrev OI(a0:cN):=B (B (B (lv 2 a0) (Rd a0)) λo=>R o (B (B (lv 0 a0) (NG a0)) λy=>R y (P true) (P false)) (P false)) λt2=>P t2
theorem B2(n:Nat)(aa bo:CV):aM (n+1) (.st 205) [aa,bo]=Z (B (gF (AN (OI) (λa0=>B (lv 2 a0) λb8=>B (cP .Add b8 (I 1)) λa7=>P (.next (Zi a7 a0))) (VJ bo aa)) (Ts (aM n))) iI):=by kernel_rfl
abbrev Xy:cN:=[some aa,some (.ref au),none,none,none]
abbrev Gy:cN:=[none,none,((a0)[1]?).join].set 1 (some w4)
abbrev Gu:cN:=a0.set 2 (some v3)
abbrev G3:cN:=(Gu v3 a0).set 3 (some (J et))
abbrev ZS(b9:CV):M fZ:=B (fR b9 "regions" cv) λa=>B (lv 3 (G3 v3 et a0)) λa8=>P (.ret a8)
abbrev VT(a7:CV):=B (lv 0 (Gu v3 a0)) λca=>B (dI ca "regions") λa6=>B (qM 1 [a6]) λb4=>cY .Lt a7 b4
abbrev WV(v3:CV):=B (B (lv 2 (Gu v3 a0)) λb8=>B (qM 1 [b8]) (VT v3 a0)) λet=>B (lv 2 (G3 v3 et a0)) λcv=>B (lv 0 (G3 v3 et a0)) (ZS v3 cv et a0)
abbrev Yw(i:Bool):=R i (B (lv 1 (Gy w4 a0)) λa4=>B (gd (bN ev.length)) λa=>P (ev++[a4])) (P ev)
abbrev Yo(w4:CV)(ev:List CV):=B (B (B (lv 1 (Gy w4 a0)) λa2=>B (dI a2 "name") λa1=>B (lc 2 (Gy w4 a0)) λa9=>cY .NotEq a1 a9) λw=>R w (P true) (P false)) (Yw w4 a0 ev)
abbrev Ox(v6:CV):=B (dI v6 "regions") λv7=>B (gE v7) λv=>B (gd (lX v=true/\true=true)) λa=>mV ((Yo a0)) v []
abbrev OP(a:List (Str×Addr)):=B (B (gd ((0:Int)=0)) λa=>B (lv 0 a0) (Ox a0)) λl2=>B (mk (.list l2)) (WV a0)
abbrev Oi(au:Addr):=B (vy 1 aq (Xy aa au)) λa0=>B (B (iG (pg a0 [("name",1)])) (OP a0)) iI
theorem Ak(n:Nat)(aa aq:CV):aM (n+1) (.st 210) [aa,aq]=Z (B (iF (.cell none)) (Oi aq aa)):=by kernel_rfl
abbrev Do:cN:=a0.set 2 (some w2)
abbrev Yi(w2:CV)(a0:cN):M fZ:=gF (B (B (lv 2 (Do w2 a0)) λv4=>B (dI v4 "name") λv5=>B (lv 1 (Do w2 a0)) λv6=>cY .Eq v5 v6) λo=>R o (B (lv 2 (Do w2 a0)) λv7=>P (.ret v7)) (P (.next (Do w2 a0)))) λY=>P (.next Y)
abbrev YO(v9:CV):=B (gE v9) λF=>B (gd (lX F=true)) λa=>yd (Yi) F [some aa,some aq,none]
theorem zt(n:Nat)(aa aq:CV):aM (n+1) (.st 217) [aa,aq]=Z (B (gF (B (dI aa "regions") (YO aq aa)) λei=>P (.ret N)) iI):=by kernel_rfl
abbrev V9:cN:=[some aa,some ac,some v5,none,none,none,none,none,none,none,none]
abbrev ZM(w:CV):M fZ:=B (cJ ct w) λbv=>B (mG cl 123 [(T "value"),cg,bv,(J true)]) λp=>P (.ret p)
abbrev YK(cg:CV):=B (lv 2 d8) λcu=>B (dI cu "values") λct=>B (lv 4 d8) (ZM cl cg ct)
abbrev YQ(a8:CV):=B (lv 2 d8) λb0=>B (dI b0 "value_width") λcw=>B (cl (.st 141) [b9,a8,cw]) (YK cl d8)
abbrev ZC(co:cN):M fZ:=gF (B (B (lv 4 co) λca=>B (lv 2 co) λa6=>B (dI a6 "values") λb4=>cY .NotIn ca b4) λx=>R x (P (.ret N)) (P (.next co))) λd8=>B (lv 3 d8) λb9=>B (lv 4 d8) (YQ cl b9 d8)
abbrev Ww(a9:CV):=B (cl (.st 148) [a2,a9]) λa4=>B (nM 3 a4) λm=>B (pT [(3,true),(4,true),(5,true)] m a5) (ZC cl)
abbrev V4(a5:cN):=B (lv 1 a5) λa2=>B (lv 2 a5) λa1=>B (dI a1 "value_width") (Ww cl a2 a5)
abbrev aa0(y:Bool):=R y (P true) (B (B (dI v5 "value_width") λv9=>cY .Eq v9 (I 0)) λA=>R A (P true) (P false))
abbrev WK(v5:CV):M fZ:=gF (B (B (cY .Is v5 N) (aa0 v5)) λz=>R z (P (.ret N)) (P (.next (V9 ac aa v5)))) (V4 cl)
abbrev PG(v3:CV):=B (cP .FloorDiv v3 (I 1048576)) λv4=>B (eQ cl m2.1 (m2.2++[v4])) (WK cl ac aa)
abbrev PM(v1:CV):=B (dX v1 "get") λm2=>B (cP .Sub ac (I 16777216)) (PG cl ac aa m2)
theorem tS(n:Nat)(aa ac:CV):aM (n+1) (.st 224) [aa,ac]=Z (B (B (dI aa "maps") (PM (aM n) ac aa)) iI):=by kernel_rfl
abbrev Zw:cN:=[some aa,some ac,none,none,none,none,none,none]
abbrev Zk:cN:=bz.set 2 (some (I 0))
abbrev Ve:cN:=(Zk bz).set 3 (some v8)
abbrev v_:cN:=a5.set 4 (some a7)
abbrev Vh:cN:=(v_ a7 a5).set 2 (some cg)
abbrev ZQ:cN:=(v_ a7 a5).set 3 (some cu)
abbrev Zz(bw:CV):=B (lv 2 fk) λew=>B (cP .Sub ew (I 1)) λf=>B (cJ bw f) λdc=>P dc
abbrev ZH(fr:Bool):=R fr (B (lv 0 fk) λcx=>B (dI cx "regions") (Zz fk)) (P N)
abbrev XQ(c:Bool):M fZ:=R c (B (lv 4 (v_ a7 a5)) λcw=>B (cP .Add cw (I 1)) λcg=>P (.next (Vh a7 cg a5))) (B (lv 4 (v_ a7 a5)) λcu=>P (.next (ZQ a7 cu a5)))
abbrev RO(cv:CV):=B (cJ b4 cv) λb9=>B (dI b9 "base") λa8=>B (lv 1 (v_ a7 a5)) λb0=>cY .LtE a8 b0
abbrev PN(a7:CV):M fZ:=gF (B (B (lv 0 (v_ a7 a5)) λa6=>B (dI a6 "regions") λb4=>B (lv 4 (v_ a7 a5)) (RO a7 b4 a5)) (XQ a7 a5)) λd9=>P (.next d9)
abbrev PY(a4:CV):=B (lv 3 a5) λcd=>B (cP .Add a4 cd) λb8=>B (cP .FloorDiv b8 (I 2)) (PN a5)
abbrev SD(a:Unit):M fZ:=gF (AN (λa5=>B (B (lv 2 a5) λa1=>B (lv 3 a5) λa9=>cY .Lt a1 a9) λf1=>P f1) (λa5=>B (lv 2 a5) (PY a5)) (Ve v8 bz)) λfk=>B (B (B (lv 2 fk) λdb=>cY .Gt db (I 0)) (ZH fk)) λbv=>P (.ret bv)
abbrev O9(v6:CV):=B (dI v6 "regions") λv7=>B (qM 1 [v7]) λv8=>B (gd (bN 2)) λa=>B (gd (2=2)) (SD v8 bz)
abbrev OT(S:Bool):M fZ:=R S (B (dX aa "value_region") λm3=>B (eQ cl m3.1 (m3.2++[ac])) λv4=>P (.ret v4)) (P (.next (Zw ac aa)))
theorem qT(n:Nat)(aa ac:CV):aM (n+1) (.st 231) [aa,ac]=Z (B (gF (B (B (cY .LtE (I 16777216) ac) λt2=>R t2 (cY .Lt ac (I 1879048192)) (P false)) (OT (aM n) ac aa)) λbz=>B (lv 0 bz) (O9 bz)) iI):=by kernel_rfl
abbrev Zn:cN:=[some aa,some ac,some ad,some v2,none]
abbrev VW(a1:CV):M fZ:=B (dI a1 "base") λa9=>B (cP .Sub a2 a9) λa4=>B (gd (bN 2)) λa=>P (.ret (hY [b7,a4]))
abbrev Xf(o:Bool):M fZ:=R o (B (rC (B (mG cl 71 [(T "no memory there")]) λv8=>P v8)) λv=>nC v) (P (.next (Zn ac aa ad v2)))
abbrev ZO(g:(CV×List CV)):=B (eQ cl g.1 (g.2++[ac,ad])) λv6=>B (kM v6) λy=>R (!y) (P true) (P false)
abbrev YN(v2:CV):=gF (B (B (cY .Is v2 N) λt4=>R t4 (P true) (B (dX v2 "holds") (ZO cl ac ad))) (Xf cl ac aa ad v2)) λcf=>B (lv 3 cf) λb7=>B (lv 1 cf) λa2=>B (lv 3 cf) (VW b7 a2)
theorem AZ(n:Nat)(aa ac ad:CV):aM (n+1) (.st 238) [aa,ac,ad]=Z (B (B (dX aa "region_at") λi=>B (eQ (aM n) i.1 (i.2++[ac])) (YN (aM n) ac aa ad)) iI):=by kernel_rfl
abbrev Ws(z:Bool):=R z (B (dX v2 "holds") λh=>B (eQ cl h.1 (h.2++[ac,ad])) λv7=>P v7) (P (J t4))
abbrev Vm(v2:CV):M fZ:=B (B (cY .IsNot v2 N) λt4=>B (kM (J t4)) (Ws cl ac ad v2 t4)) λv3=>P (.ret v3)
theorem wa(n:Nat)(aa ac ad:CV):aM (n+1) (.st 245) [aa,ac,ad]=Z (B (B (dX aa "region_at") λi=>B (eQ (aM n) i.1 (i.2++[ac])) (Vm (aM n) ac ad)) iI):=by kernel_rfl
abbrev XC:cN:=[some aa,some ac,some bh,none,none,none]
abbrev Zt(v9:CV):M fZ:=B (cP .Add v8 v9) λb7=>B (sD v6 (some v7) (some b7)) λa2=>B (nJ 2 [a2]) λa1=>P (.ret a1)
abbrev Zl(v5:CV):=B (dI v5 "octets") λv6=>B (lv 4 b6) λv7=>B (lv 4 b6) λv8=>B (lv 2 b6) (Zt v6 v7 v8)
abbrev V7(r:List CV):=B (pT [(3,true),(4,true)] r (XC bh ac aa)) λb6=>B (lv 3 b6) (Zl b6)
abbrev Xz(i:(CV×List CV)):=B (eQ cl i.1 (i.2++[ac,bh])) λv2=>B (nM 2 v2) (V7 bh ac aa)
theorem yI(n:Nat)(aa ac bh:CV):aM (n+1) (.st 252) [aa,ac,bh]=Z (B (B (dX aa "find") (Xz (aM n) bh ac aa)) iI):=by kernel_rfl
abbrev Y1:cN:=[some aa,some ac,some ag,none,none,none,none]
abbrev Wg(a7:CV):M fZ:=B (cP .Add cd a7) λca=>B (pY a9 (some a4) (some ca) a2) λa=>P (.next a5)
abbrev Xu(a9:CV):=B (lv 4 a5) λa4=>B (lv 4 a5) λcd=>B (lv 2 a5) λb8=>B (qM 1 [b8]) (Wg a2 a9 a4 cd a5)
abbrev WO(a5:cN):=B (lv 2 a5) λa2=>B (lv 3 a5) λa1=>B (dI a1 "octets") (Xu a2 a5)
abbrev YR(y:Bool):M fZ:=R (!y) (B (rC (B (mG cl 71 [(T "read only")]) λv9=>P v9)) λv=>nC v) (P (.next bz))
abbrev Zd(bz:cN):=gF (B (lv 3 bz) λv6=>B (dI v6 "is_writable") λv7=>B (kM v7) (YR cl bz)) WO
abbrev XK(v3:CV):=B (nM 2 v3) λd=>B (pT [(3,true),(4,true)] d (Y1 ag ac aa)) (Zd cl)
abbrev Wa(i:(CV×List CV)):=B (qM 1 [ag]) λv2=>B (eQ cl i.1 (i.2++[ac,v2])) (XK cl ag ac aa)
theorem BX(n:Nat)(aa ac ag:CV):aM (n+1) (.st 259) [aa,ac,ag]=Z (B (B (dX aa "find") (Wa (aM n) ag ac aa)) iI):=by kernel_rfl
theorem A6(n:Nat)(aa ac ad:CV):aM (n+1) (.st 266) [aa,ac,ad]=Z (B (B (dX aa "octets") λi=>B (eQ (aM n) i.1 (i.2++[ac,ad])) λv2=>B ((aM n) (.st 85) [v2]) λv3=>P (.ret v3)) iI):=by kernel_rfl
abbrev VL:cN:=[some aa,some ac,some ad,some az,none]
abbrev Wm(i:(CV×List CV)):M fZ:=B (cl (.st 78) [az,ad]) λv2=>B (eQ cl i.1 (i.2++[ac,v2])) λv3=>P (.next (VL ac aa ad az))
theorem zz(n:Nat)(aa ac ad az:CV):aM (n+1) (.st 273) [aa,ac,ad,az]=Z (B (B (dX aa "lay") (Wm (aM n) ac aa ad az)) iI):=by kernel_rfl
abbrev WJ(w3:CV)(dy:List CV):=R true (B (dX w3 "told") λt=>B (eQ cl t.1 (t.2++[])) λv8=>B (gd (bN dy.length)) λa=>P (dy++[v8])) (P dy)
abbrev ZW(a:Unit):=B (dI aa "regions") λv5=>B (gE v5) λi6=>B (gd (lX i6=true/\true=true)) λa=>mV ((WJ cl)) i6 []
abbrev Vf(a:List (Str×Addr)):M fZ:=B (B (gd ((0:Int)=0)) (ZW cl aa)) λl1=>B (mk (.list l1)) λv2=>B (nJ 6 [v2]) λv9=>P (.ret v9)
theorem AD(n:Nat)(aa:CV):aM (n+1) (.st 278) [aa]=Z (B (B (iG (pg [some aa,none] [])) (Vf (aM n) aa)) iI):=by kernel_rfl
abbrev XN(v3:CV):M fZ:=B (cP .Mult v3 (I 512)) λv4=>B (nJ 3 [v4]) λv5=>B (mG cl 123 [v1,v2,v5,(J true)]) λv6=>P (.ret v6)
abbrev Yy(v1:CV):=B (cl (.st 155) [ar]) λv2=>B (gd (bN 1)) λa=>B (mk (.list [av])) (XN cl v1 v2)
theorem DN(n:Nat)(ar av:CV):aM (n+1) (.st 292) [ar,av]=Z (B (B ((aM n) (.st 169) [ar]) (Yy (aM n) av ar)) iI):=by kernel_rfl
abbrev VA(w6:CV)(fb:List CV):=R true (B (cl (.st 78) [w6,(I 4)]) λv9=>B (gd (bN fb.length)) λa=>P (fb++[v9])) (P fb)
abbrev aa8(a:List (Str×Addr)):M fZ:=B (B (gd ((0:Int)=0)) λa=>B (gE v2) λv=>B (gd (lX v=true/\true=true)) λa=>mV ((VA cl)) v []) λd=>B (mk (.list d)) λv5=>B (eQ cl m3.1 (m3.2++[v5])) λb7=>P (.ret b7)
abbrev Vi(v2:CV):=B (dX (lQ []) "join") λm3=>B (iG (pg [some ad,some v2,none] [])) (aa8 cl v2 m3)
abbrev YZ(a:Unit):=B (mk (.list [(I 131072),v1,(I 131072),(I 0),(I 0),(I 0)])) (Vi cl ad)
theorem xm(n:Nat)(ad:CV):aM (n+1) (.st 297) [ad]=Z (B (B (cP .Add (I 131072) ad) λv1=>B (gd (bN 6)) (YZ (aM n) ad v1)) iI):=by kernel_rfl
abbrev Y6(i:(CV×List CV)):M fZ:=B (cl (.st 292) [(I 0),av]) λa9=>B (eQ cl i.1 (i.2++[a9])) λa4=>P (.ret v1)
abbrev Ys(v9:CV):=B (mG cl 123 [(T "packet"),(I 131072),v9,(J true)]) λb7=>B (eQ cl m8.1 (m8.2++[b7])) λa2=>B (dX v1 "add") (Y6 cl av v1)
abbrev Z5(v6:CV):=B (eQ cl m2.1 (m2.2++[v6])) λv7=>B (dX v1 "add") λm8=>B (nJ 3 [be]) (Ys cl av v1 m8)
abbrev Vg(v5:CV):=B (mG cl 123 [(T "context"),(I 65536),v5,(J false)]) (Z5 cl av be v1 m2)
abbrev YM(m2:(CV×List CV)):=B (qM 1 [be]) λv3=>B (cl (.st 297) [v3]) λv4=>B (nJ 3 [v4]) (Vg cl av be v1 m2)
theorem B4(n:Nat)(be bb av:CV):aM (n+1) (.st 304) [be,bb,av]=Z (B (B (mG (aM n) 281 [bb]) λv1=>B (dX v1 "add") (YM (aM n) av be v1)) iI):=by kernel_rfl
abbrev DV:cN:=[some ai,some ah,none,none]
abbrev VH(b:Bool):M fZ:=R (!b) (B (rC (B (mG cl 59 [(T "key width")]) λca=>P ca)) λv=>nC v) (P (.next (DV ah ai)))
abbrev Xl(j:Bool):M fZ:=R j (B (rC (B (mG cl 59 [(T "key width")]) λa4=>P a4)) λv=>nC v) (P (.next (DV ah ai)))
abbrev Vu(f1:Bool):M fZ:=R f1 (gF (B (cY .NotEq ah (I 4)) (Xl cl ah ai)) λz=>P (.next z)) (gF (B (B (cY .LtE (I 1) ah) λx=>R x (cY .LtE ah (I 512)) (P false)) (VH cl ah ai)) λdf=>P (.next df))
abbrev aa4(A:Bool):M fZ:=R (!A) (B (rC (B (mG cl 59 [(T "key width")]) λv9=>P v9)) λv=>nC v) (P (.next (DV ah ai)))
abbrev VK(y:Bool):M fZ:=R y (gF (B (B (cY .LtE (I 5) ah) λC=>R C (cY .LtE ah (I 20)) (P false)) (aa4 cl ah ai)) λa5=>P (.next a5)) (gF (B (B (gd (bN 2)) λc=>cY .In ai (hY [(T "array"),(T "rows")])) (Vu cl ah ai)) λa=>P (.next a))
abbrev WM(o:Bool):M fZ:=R o (B (rC (B (mG cl 59 [(T "key width")]) λv4=>P v4)) λv=>nC v) (P (.next (DV ah ai)))
abbrev WS(S:Bool):M fZ:=R S (gF (B (cY .NotEq ah (I 0)) (WM cl ah ai)) λbz=>P (.next bz)) (gF (B (cY .Eq ai (T "trie")) (VK cl ah ai)) λd8=>P (.next d8))
abbrev YF(c:Unit):=cY .In ai (hY [(T "queue"),(T "stack"),(T "ring")])
theorem wj(n:Nat)(ai ah:CV):aM (n+1) (.st 318) [ai,ah]=Z (B (gF (B (B (gd (bN 3)) (YF ai)) (WS (aM n) ah ai)) λj=>P (.next j)) iI):=by kernel_rfl
abbrev XS:cN:=[some ai,some ah,some ak,some al,none,none,none,none,none,none,none]
abbrev XU(g:Bool):M fZ:=R g (B (rC (B (mG cl 59 [(T "most")]) λdt=>P dt)) λv=>nC v) (P (.next d9))
abbrev Wj(dc:CV):=B (B (B (lv 0 d9) λb1=>cY .Eq b1 (T "rows")) λC=>R C (P (I 4)) (P (I 1))) λd=>B (cP .Mult dc d) λb5=>cY .Gt b5 (I 1048576)
abbrev Ym(cx:CV):=B (cl (.st 134) [cx]) λbw=>B (lv 3 d9) λew=>B (cP .Add ew (I 1)) λf=>B (cP .Mult bw f) (Wj d9)
abbrev YB(e:Bool):=R e (P true) (B (B (lv 2 d9) (Ym cl d9)) λb=>R b (P true) (P false))
abbrev Xi(d9:cN):M fZ:=gF (B (B (B (lv 3 d9) λp=>cY .Lt p (I 1)) (YB cl d9)) (XU cl d9)) λc=>P (.next c)
abbrev ZX(A:Bool):M fZ:=R A (B (rC (B (mG cl 59 [(T "value width")]) λcu=>P cu)) λv=>nC v) (P (.next hh))
abbrev YJ(et:Bool):M fZ:=R et (B (rC (B (mG cl 59 [(T "most")]) λb9=>P b9)) λv=>nC v) (P (.next d6))
abbrev YP(h:Bool):=R (!h) (P true) (B (B (lv 3 d6) λb4=>B (cY .LtE (I 8) b4) λf2=>R f2 (cY .LtE b4 (I 1048576)) (P false)) λg2=>R (!g2) (P true) (P false))
abbrev O1(d6:cN):M fZ:=gF (B (B (lv 3 d6) λb8=>B (cl (.st 311) [b8]) λa7=>B (kM a7) (YP d6)) (YJ cl d6)) λc4=>P (.ret .none)
abbrev Qc(f1:Bool):M fZ:=R f1 (B (rC (B (mG cl 59 [(T "value width")]) λa9=>P a9)) λv=>nC v) (P (.next bz))
abbrev Oh(i:Bool):M fZ:=R i (gF (B (B (lv 2 bz) λa1=>cY .NotEq a1 (I 0)) (Qc cl bz)) (O1 cl)) (P (.next bz))
abbrev OZ(v8:CV):=gF (B (B (lv 0 bz) λb7=>cY .Eq b7 (T "ring")) (Oh cl bz)) λhh=>gF (B (B (lv 2 hh) λcg=>cY .Lt cg (I 1)) (ZX cl hh)) (Xi cl)
abbrev Pm(S:Bool):M fZ:=R S (B (rC (B (mG cl 59 [(T "kind")]) λv4=>P v4)) λv=>nC v) (P (.next (XS ah ai al ak)))
theorem zu(n:Nat)(ai ah ak al:CV):aM (n+1) (.st 325) [ai,ah,ak,al]=Z (B (gF (B (B (dX (T "array hash lru rows queue stack trie ring") "split") λm2=>B (eQ (aM n) m2.1 (m2.2++[(T " ")])) λv3=>cY .NotIn ai v3) (Pm (aM n) ah ai al ak)) λbz=>B (lv 0 bz) λv6=>B (lv 1 bz) λv7=>B ((aM n) (.st 318) [v6,v7]) (OZ (aM n) bz)) iI):=by kernel_rfl
abbrev ZD:cN:=[some aa,some ai,some am,some ah,some ak,some al,none,none,none]
abbrev Z_(a:Unit):M fZ:=B (mk (.idict [])) λb8=>B (lv 0 bz) λa7=>B (fR a7 "values" b8) λa=>P (.next bz)
abbrev Z2(a:Unit):=B (lv 5 bz) λa4=>B (lv 0 bz) λcd=>B (fR cd "most" a4) (Z_ bz)
abbrev Wu(a:Unit):=B (lv 4 bz) λa1=>B (lv 0 bz) λa9=>B (fR a9 "value_width" a1) (Z2 bz)
abbrev ZG(a:Unit):=B (lv 3 bz) λb7=>B (lv 0 bz) λa2=>B (fR a2 "key_width" b7) (Wu bz)
abbrev ZV(v7:CV):=B (fR v7 "kind" v6) λa=>B (lv 2 bz) λv8=>B (lv 0 bz) λv9=>B (fR v9 "number" v8) (ZG bz)
abbrev Zs(t2:Bool):M fZ:=R (!t2) (B (rC (B (mG cl 59 [(T "number")]) λv4=>P v4)) λv=>nC v) (P (.next (ZD ah ai al am aa ak)))
abbrev Wh(v1:CV):=gF (B (B (cY .LtE (I 0) am) λo=>R o (cY .Lt am (I 64)) (P false)) (Zs cl ah ai al am aa ak)) λbz=>B (lv 1 bz) λv6=>B (lv 0 bz) (ZV v6 bz)
theorem Fb(n:Nat)(aa ai am ah ak al:CV):aM (n+1) (.st 339) [aa,ai,am,ah,ak,al]=Z (B (B ((aM n) (.st 325) [ai,ah,ak,al]) (Wh (aM n) ah ai al am aa ak)) iI):=by kernel_rfl
abbrev Wx:cN:=[some aa,some af,none,none,none]
abbrev Xr(S:Bool):M fZ:=R S (B (rC (B (mG cl 59 [(T "key width")]) λv4=>P v4)) λv=>nC v) (P (.next (Wx af aa)))
theorem yD(n:Nat)(aa af:CV):aM (n+1) (.st 346) [aa,af]=Z (B (gF (B (B (qM 1 [af]) λv2=>B (dI aa "key_width") λv3=>cY .NotEq v2 v3) (Xr (aM n) af aa)) λbz=>B (lv 1 bz) λv6=>B (nJ 2 [v6]) λv7=>P (.ret v7)) iI):=by kernel_rfl
abbrev Zv:cN:=[some aa,some ag,none,none,none]
abbrev Vb(S:Bool):M fZ:=R S (B (rC (B (mG cl 59 [(T "value width")]) λv4=>P v4)) λv=>nC v) (P (.next (Zv ag aa)))
theorem wC(n:Nat)(aa ag:CV):aM (n+1) (.st 353) [aa,ag]=Z (B (gF (B (B (qM 1 [ag]) λv2=>B (dI aa "value_width") λv3=>cY .NotEq v2 v3) (Vb (aM n) ag aa)) λbz=>B (lv 1 bz) λv6=>B (nJ 2 [v6]) λv7=>P (.ret v7)) iI):=by kernel_rfl
theorem xA(n:Nat)(aa:CV):aM (n+1) (.st 453) [aa]=Z (B (B (dI aa "most") λv1=>P (.ret v1)) iI):=by kernel_rfl
abbrev Wq(v1:CV):M fZ:=B (dI aa "value_width") λv2=>B (cl (.st 141) [v1,ap,v2]) λv3=>P (.ret v3)
theorem zF(n:Nat)(aa ap:CV):aM (n+1) (.st 460) [aa,ap]=Z (B (B (dI aa "number") (Wq (aM n) aa ap)) iI):=by kernel_rfl
abbrev L_:cN:=[some aa,some ap,some ag,none]
abbrev YA(v5:CV):M fZ:=B (dI aa "values") λv6=>B (lJ v6 ap v5) λa=>P (.next (L_ ag aa ap))
abbrev Xh(v3:CV):M fZ:=B (cJ v3 ap) λv4=>B (pY v4 none none ag) λa=>P (.next (L_ ag aa ap))
abbrev V2(S:Bool):=R S (B (dI aa "values") (Xh ag aa ap)) (B (nJ 3 [ag]) (YA ag aa ap))
theorem Gj(n:Nat)(aa ap ag:CV):aM (n+1) (.st 474) [aa,ap,ag]=Z (B (gF (B (B (dI aa "values") λv2=>cY .In ap v2) (V2 ag aa ap)) λcb=>P (.next cb)) iI):=by kernel_rfl
abbrev DS:cN:=a3.set 6 (some w4)
abbrev Ze:cN:=[some aa,some ai,some am,some ah,some ak,some al,none,none,none,none]
abbrev WC(v7:CV):M fZ:=B (dI v7 "values") λv8=>B (lv 6 (DS w4 a3)) λv9=>B (lJ v8 v9 v6) λa=>P (.next (DS w4 a3))
abbrev YI(w4:CV)(a3:cN):=B (lv 4 (DS w4 a3)) λv5=>B (nJ 3 [v5]) λv6=>B (lv 0 (DS w4 a3)) (WC v6 w4 a3)
abbrev Xv(fy:It):=B (gd (lX fy=true)) λa=>yd (YI) fy (Ze ah ai al am aa ak)
abbrev Xn(a2:CV):=B (nJ 4 [a2]) λa1=>B (gE a1) (Xv ah ai al am aa ak)
abbrev W_(v2:CV):M fZ:=gF (B (dX aa "slot_count") λj=>B (eQ cl j.1 (j.2++[])) (Xn ah ai al am aa ak)) λd6=>P (.next d6)
abbrev VZ(i:(CV×List CV)):=B (eQ cl i.1 (i.2++[aa,ai,am,ah,ak,al])) (W_ cl ah ai al am aa ak)
theorem yj(n:Nat)(aa ai am ah ak al:CV):aM (n+1) (.st 528) [aa,ai,am,ah,ak,al]=Z (B (B (dX (CV.st 510) "__init__") (VZ (aM n) ah ai al am aa ak)) iI):=by kernel_rfl
abbrev VU(v3:CV):M fZ:=B (B (B (dI aa "most") λv6=>cY .Lt v3 v6) λz=>R z (P v3) (B (Dp (I 1)) λv7=>P v7)) λv4=>P (.ret v4)
theorem xr(n:Nat)(aa af:CV):aM (n+1) (.st 535) [aa,af]=Z (B (B (dX aa "check_key") λi=>B (eQ (aM n) i.1 (i.2++[af])) λv2=>B ((aM n) (.st 85) [v2]) (VU aa)) iI):=by kernel_rfl
theorem yF(n:Nat)(aa k bi:CV):aM (n+1) (.st 542) [aa,k,bi]=Z (B (P (.ret k)) iI):=by kernel_rfl
abbrev XH:cN:=[some aa,some af,some ag,some ba,some bi,some v2,some v4,none,none,none,none,none,none]
abbrev WI(a8:CV):M fZ:=B (eQ cl hi.1 (hi.2++[b9,a8])) λb0=>B (lv 6 fi) λcw=>B (eQ cl gq.1 (gq.2++[b0,cw])) λcg=>P (.ret (I 0))
abbrev Wn(b4:CV):=B (dX b4 "slot") λhi=>B (lv 5 fi) λb9=>B (lv 4 fi) (WI cl b9 fi gq hi)
abbrev ab7(fi:cN):=B (lv 0 fi) λca=>B (dX ca "lay") λgq=>B (lv 0 fi) (Wn cl fi gq)
abbrev Zr(eu:cN):M fZ:=gF (B (B (lv 3 eu) λcd=>cY .Eq cd (I 1)) λl=>R l (B (cP .Sub (I 0) (I 17)) λb8=>P (.ret b8)) (P (.next eu))) (ab7 cl)
abbrev Zh(cf:cN):M fZ:=gF (B (B (lv 5 cf) λa2=>cY .Lt a2 (I 0)) λw=>R w (B (cP .Sub (I 0) (I 7)) λa1=>P (.ret a1)) (P (.next cf))) (Zr cl)
abbrev Y0(y:Bool):M fZ:=R y (B (cP .Sub (I 0) (I 22)) λv8=>P (.ret v8)) (P (.next (XH ba af ag bi aa v2 v4)))
abbrev ZJ(a:Unit):=gF (B (B (gd (bN 3)) λa=>cY .NotIn ba (hY [(I 0),(I 1),(I 2)])) (Y0 ba af ag bi aa v2 v4)) (Zh cl)
abbrev Vz(m3:(CV×List CV)):=B (eQ cl m3.1 (m3.2++[ag])) λv4=>B (gd (bN 2)) λa=>B (gd (2=2)) (ZJ cl ba af ag bi aa v2 v4)
abbrev PL(i:(CV×List CV)):=B (eQ cl i.1 (i.2++[af])) λv2=>B (dX aa "check_value") (Vz cl ba af ag bi aa v2)
theorem uA(n:Nat)(aa:CV):aM (n+1) (.st 610) [aa]=Z (B (B (dI aa "most") λv1=>B (cP .Mult v1 (I 4)) λv2=>P (.ret v2)) iI):=by kernel_rfl
abbrev Wc(l1:List CV):M fZ:=B (mk (.list l1)) λv2=>B (gd (bN 3)) λa=>B (mk (.list [v2,(I 0),(I 0)])) λv8=>P (.ret v8)
abbrev V0(w3:CV)(dy:List CV):=R true (B (nJ 1 [w3]) λv7=>B (gd (bN dy.length)) λa=>P (dy++[v7])) (P dy)
abbrev WP(a:Unit):=B (sD aw none (some (I 40))) λv5=>B (gE v5) λi6=>B (gd (lX i6=true/\true=true)) λa=>mV (V0) i6 []
theorem G7(n:Nat)(aw:CV):aM (n+1) (.st 644) [aw]=Z (B (B (iG (pg [some aw] [])) λa=>B (B (gd ((0:Int)=0)) (WP aw)) Wc) iI):=by kernel_rfl
abbrev ab5:cN:=[some ae,some bc,none,none,none,none,none,none,none,none,none]
abbrev AE:cN:=cf.set 3 (some a2)
abbrev yA:cN:=(AE a2 cf).set 4 (some b0)
abbrev ZZ:cN:=(yA a2 b0 cf).set 4 (some dc)
abbrev Bk:cN:=da.set 5 (some bx)
abbrev Aq:cN:=c2.set 6 (some cp)
abbrev Li:cN:=(Aq cp c2).set 6 (some ee)
abbrev YL(dq:CV):M fZ:=B (nJ 1 [dq]) λy=>B (lv 1 (Li cp ee c2)) λdx=>B (cP .Mod y dx) λc8=>P (.ret c8)
abbrev ZK(l:CV):=B (cP .Mod l (I 2147483579)) λee=>B (lv 6 (Li cp ee c2)) λcc=>B (cP .FloorDiv cc (I 32)) (YL cp ee c2)
abbrev Oj(dw:CV):=B (cP .Add dw (I 41)) λd3=>B (cP .Pow d3 (I 3)) λc3=>B (nJ 1 [c3]) (ZK cp c2)
abbrev Ub(de:CV):=B (lv 3 (Aq cp c2)) λch=>B (cP .Mult de ch) λce=>B (cP .Add ed ce) (Oj cp c2)
abbrev T9(z:CV):=B (cP .Mult ec z) λed=>B (lv 3 (Aq cp c2)) λH=>B (cP .Mult (I 71503) H) (Ub cp ed c2)
abbrev Pw(ec:CV):=B (lv 3 (Aq cp c2)) λdv=>B (cP .Mult (I 2) dv) λci=>B (cP .Add ci (I 6151)) (T9 cp ec c2)
abbrev NL(dm:CV):=B (nJ 1 [dm]) λm=>B (cP .Mod m (I 2147483629)) λcp=>B (lv 6 (Aq cp c2)) (Pw cp c2)
abbrev Qh(dd:CV):=B (cP .Add eb dd) λdj=>B (cP .Add dj (I 3571)) λJ=>B (cP .Pow J (I 5)) (NL c2)
abbrev Sj(D:CV):=B (cP .Mod D (I 2147483587)) λeb=>B (lv 3 c2) λc0=>B (cP .Mult (I 71503) c0) (Qh eb c2)
abbrev Td(G:CV):M fZ:=B (nJ 1 [G]) λd2=>B (lv 1 (Bk bx da)) λea=>B (cP .Mod d2 ea) λeo=>P (.ret eo)
abbrev PE(cn:CV):=B (lv 0 (Bk bx da)) λq=>B (lJ q (I 2) cn) λa=>B (lv 5 (Bk bx da)) (Td bx da)
abbrev PW(N:CV):=B (nJ 1 [N]) λcm=>B (lv 1 (Bk bx da)) λfd=>B (cP .FloorDiv cm fd) (PE bx da)
abbrev Uo(r:CV):=B (cP .Pow (I 10) (I 18)) λdu=>B (cP .Sub r du) λbx=>B (lv 5 (Bk bx da)) (PW bx da)
abbrev TU(F:Bool):=R F (B (B (lv 4 da) λE=>B (qM 2 [E]) λc6=>B (cP .Pow (I 10) (I 18)) λd1=>cY .GtE c6 d1) λh=>R h (P true) (P false)) (P false)
abbrev Ul(b5:CV):=B (lv 0 da) λdt=>B (cJ dt (I 0)) λdi=>B (qM 1 [di]) λdl=>cY .Lt b5 dl
abbrev Nx(da:cN):M fZ:=gF (B (B (B (lv 3 da) (Ul da)) (TU da)) λL=>R L (B (lv 4 da) λc7=>B (qM 2 [c7]) (Uo da)) (P (.next da))) λc2=>B (lv 4 c2) λC=>B (nJ 1 [C]) (Sj c2)
abbrev Rg(bw:CV):M fZ:=B (qM 1 [bw]) λew=>B (cP .Mod db ew) λf=>B (cJ bv f) λdc=>P (.next (ZZ a2 b0 dc cf))
abbrev Nt(p:CV):=B (nJ 1 [p]) λdb=>B (lv 0 (yA a2 b0 cf)) λcx=>B (cJ cx (I 0)) (Rg a2 b0 bv db cf)
abbrev SH(A:Bool):M fZ:=R A (B (lv 0 (yA a2 b0 cf)) λw=>B (cJ w (I 0)) λbv=>B (lv 3 (yA a2 b0 cf)) (Nt a2 b0 bv cf)) (P (.next (yA a2 b0 cf)))
abbrev OJ(cg:CV):=B (cJ cg (I 0)) λcu=>B (gd (bN 0)) λa=>B (mk (.list [])) λct=>cY .NotEq cu ct
abbrev Tq(a8:CV):=B (cP .Add a7 a8) λb0=>gF (B (B (lv 0 (yA a2 b0 cf)) OJ) (SH a2 b0 cf)) Nx
abbrev Qf(b4:CV):=B (qM 3 [b4]) λcv=>B (nJ 1 [cv]) λb9=>B (cP .Mod b9 (I 1000003)) (Tq a2 a7 cf)
abbrev Ug(a7:CV):=B (lv 0 (AE a2 cf)) λca=>B (cJ ca (I 0)) λa6=>B (sD a6 none (some (I 1))) (Qf a2 a7 cf)
abbrev Qg(a:Unit):=B (lv 3 (AE a2 cf)) λcd=>B (cP .Mult (I 71503) cd) λb8=>B (cP .Add b8 (I 3571)) (Ug a2 cf)
abbrev TV(a1:CV):=B (cP .Add a1 (I 1)) λa9=>B (lv 0 (AE a2 cf)) λa4=>B (lJ a4 (I 1) a9) (Qg a2 cf)
abbrev Px(cf:cN):=B (lv 0 cf) λb7=>B (cJ b7 (I 1)) λa2=>B (lv 3 (AE a2 cf)) (TV a2 cf)
abbrev NJ(v6:CV):M fZ:=B (nJ 1 [v6]) λv7=>B (cP .FloorDiv v7 bc) λv8=>B (lJ ae (I 2) v8) λa=>P (.ret v5)
abbrev PS(v3:CV):=B (nJ 1 [v3]) λv4=>B (cP .Mod v4 bc) λv5=>B (cJ ae (I 2)) (NJ bc ae v5)
theorem EQ(n:Nat)(ae bc:CV):aM (n+1) (.st 651) [ae,bc]=Z (B (gF (B (B (cJ ae (I 2)) λv2=>cY .Gt v2 (I 0)) λS=>R S (B (cJ ae (I 2)) (PS bc ae)) (P (.next (ab5 bc ae)))) Px) iI):=by kernel_rfl
theorem EU(n:Nat)(ae bt:CV):aM (n+1) (.st 658) [ae,bt]=Z (B (B (qM 1 [bt]) λv1=>B ((aM n) (.st 651) [ae,v1]) λv2=>B (cJ bt v2) λv3=>P (.ret v3)) iI):=by kernel_rfl
abbrev WB:cN:=[some bk,some N,some N,none,none]
abbrev YH(z:Bool):=R z (B (lv 2 a3) λv7=>B (gd (bN 1)) λa=>B (mk (.list [v7])) λv8=>P v8) (B (lv 1 a3) λv9=>B (dI v9 "what") λb7=>P b7)
abbrev Yc(a:Unit):M fZ:=gF (aP4 (B (eQ cl bk []) λv2=>P v2) 2 1 3 71 (WB bk)) λa3=>B (B (B (lv 1 a3) λv6=>cY .Is v6 N) (YH a3)) λv4=>P (.ret v4)
theorem DA(n:Nat)(bk:CV):aM (n+1) (.st 665) [bk]=Z (B (B (gd (bN 2)) λa=>B (gd (2=2)) (Yc (aM n) bk)) iI):=by kernel_rfl
abbrev WX:cN:=[some ab,none,none,none,none,none]
abbrev Ms:cN:=ei.set 2 (some er)
abbrev Ly:cN:=(Ms er ei).set 3 (some ca)
abbrev vW:cN:=df.set 4 (some dp)
abbrev VF:cN:=[some ab,some v2,none,none,none,none]
abbrev X9(a:Unit):M fZ:=B (eQ cl fl.1 (fl.2++[(hY [bv,bw,(J true)])])) λf=>P (.next (vW dp df))
abbrev ZF(db:CV):=B (lv 4 (vW dp df)) λcx=>B (cJ db cx) λbw=>B (gd (bN 3)) (X9 cl bv bw dp df fl)
abbrev Xq(w:CV):=B (cP .Add cg w) λbv=>B (lv 2 (vW dp df)) λp=>B (dI p "values") (ZF cl bv dp df fl)
abbrev aa9(cg:CV):=B (lv 4 (vW dp df)) λcu=>B (lv 3 (vW dp df)) λct=>B (cP .Mult cu ct) (Xq cl cg dp df fl)
abbrev Rb(b0:CV):=B (cP .Mult (I 1048576) b0) λcw=>B (cP .Add (I 16777216) cw) (aa9 cl dp df fl)
abbrev Sq(cv:CV):=B (dX cv "append") λfl=>B (lv 2 (vW dp df)) λa8=>B (dI a8 "number") (Rb cl dp df fl)
abbrev N9(D:It):=B (gd (lX D=true)) λa=>yd (λdp df=>B (lv 1 (vW dp df)) (Sq cl dp df)) D (Ly ca er ei)
abbrev Tf(dc:CV):=B (dI dc "values") λd=>B (qM 5 [d]) λQ=>B (gE Q) (N9 cl ca er ei)
abbrev Ue(a7:CV):M fZ:=B (cP .Add a7 (I 8)) λca=>gF (B (lv 2 (Ly ca er ei)) (Tf cl ca er ei)) λg=>P (.next g)
abbrev OQ(a4:CV):=B (cP .Add a4 (I 7)) λcd=>B (cP .FloorDiv cd (I 8)) λb8=>B (cP .Mult b8 (I 8)) (Ue cl er ei)
abbrev Pe(a:Unit):=yd (λer ei=>B (lv 2 (Ms er ei)) λa9=>B (dI a9 "value_width") (OQ cl er ei)) hr (VF ab v2)
abbrev NC(l:(CV×List CV)):=B (eQ cl l.1 (l.2++[])) λdl=>B (gE dl) λhr=>B (gd (lX hr=true)) (Pe cl ab v2 hr)
abbrev Ro(v2:CV):M fZ:=gF (B (cJ ab (T "maps")) λdt=>B (dX dt "values") (NC cl ab v2)) λb2=>B (lv 1 b2) λc6=>P (.ret c6)
abbrev QD(v8:CV):=B (cJ w3 (I 3)) λv9=>B (gd (bN 3)) λa=>B (gd (bN dy.length)) λa=>P (dy++[(hY [v7,v8,v9])])
abbrev PX(a:Unit):=mV (λw3 dy=>R true (B (cJ w3 (I 1)) λv7=>B (cJ w3 (I 2)) (QD v7 w3 dy)) (P dy)) i6 []
abbrev T7(a:Unit):=B (cJ ab (T "regions")) λv5=>B (gE v5) λi6=>B (gd (lX i6=true/\true=true)) (PX i6)
theorem Ft(n:Nat)(ab:CV):aM (n+1) (.st 670) [ab]=Z (B (B (iG (pg (WX ab) [])) λa=>B (B (gd ((0:Int)=0)) (T7 ab)) λl1=>B (mk (.list l1)) (Ro (aM n) ab)) iI):=by kernel_rfl
abbrev Y9:cN:=[some bl,some ac,none,none,none,none]
abbrev Z0(cv:CV):M fZ:=B (cP .Sub a6 cv) λb9=>B (cJ ca b9) λa8=>B (gd (bN 3)) λa=>P (.ret (hY [a4,b8,a8]))
abbrev ZA(a7:CV):=B (cJ a7 (I 1)) λca=>B (lv 1 b6) λa6=>B (lv 3 b6) λb4=>B (cJ b4 (I 0)) (Z0 a4 b8 ca a6)
abbrev ZN(z:Bool):M fZ:=R z (B (lv 2 b6) λa4=>B (lv 3 b6) λcd=>B (cJ cd (I 2)) λb8=>B (lv 3 b6) (ZA a4 b8 b6)) (P (.next b6))
abbrev XA(w:Bool):=R w (B (lv 3 b6) λa2=>B (cJ a2 (I 1)) λa1=>B (qM 1 [a1]) λa9=>cY .Lt v9 a9) (P false)
abbrev ab2(v7:CV):=B (cJ v7 (I 0)) λv8=>B (cP .Sub v6 v8) λv9=>B (cY .LtE (I 0) v9) (XA v9 b6)
abbrev Vx(b6:cN):M fZ:=gF (B (B (lv 1 b6) λv6=>B (lv 3 b6) (ab2 v6 b6)) (ZN b6)) λcq=>P (.next cq)
abbrev WA(a:Unit):=yd (λw2 a0=>B (nM 2 w2) λr=>B (pT [(2,true),(3,true)] r a0) Vx) gf (Y9 ac bl)
theorem EY(n:Nat)(bl ac:CV):aM (n+1) (.st 677) [bl,ac]=Z (B (gF (B (B (gE bl) tJ) λgf=>B (gd (true=true)) (WA ac bl gf)) λfj=>P (.ret N)) iI):=by kernel_rfl
abbrev XZ:cN:=[some ab,some (.ref an),none,some (.ref bs),none,none,none,none,none]
abbrev Le:cN:=a0.set 2 (some ad)
abbrev Gl:cN:=[none,none,none,((b6)[1]?).join,((b6)[3]?).join].set 1 (some w7)
abbrev Dz:cN:=b6.set 4 (some v6)
abbrev Vr(Y:List CV):=B (mk (.list Y)) λb9=>B (nJ 7 [b9]) λct=>B (qM 1 [ct]) λw=>cY .Gt w (I 1)
abbrev WL(ga:CV)(fc:List CV):=R true (B (cJ ga (I 0)) λcu=>B (gd (bN fc.length)) λa=>P (fc++[cu])) (P fc)
abbrev Xg(a:Unit):=B (lv 4 (Dz v6 b6)) λcw=>B (gE cw) λgf=>B (gd (lX gf=true/\true=true)) λa=>mV (WL) gf []
abbrev Yl(c:Bool):=R c (P true) (B (B (iG (pg (Dz v6 b6) [])) λa=>B (B (gd ((0:Int)=0)) (Xg v6 b6)) Vr) λg3=>R g3 (P true) (P false))
abbrev Zg(v6:CV):M fZ:=gF (B (B (B (lv 4 (Dz v6 b6)) λa6=>cY .In N a6) (Yl v6 b6)) λx=>R x (P (.ret N)) (P (.next (Dz v6 b6)))) λh=>B (lv 4 h) λp=>P (.ret p)
abbrev Tz(a4:CV):=B (cP .Add a9 a4) λcd=>B (cl (.st 677) [a1,cd]) λb8=>B (gd (bN gt.length)) λa=>P (gt++[b8])
abbrev Q8(w7:CV)(gt:List CV):=R true (B (lc 4 (Gl w7 b6)) λa1=>B (lc 3 (Gl w7 b6)) λa9=>B (lv 1 (Gl w7 b6)) (Tz cl a1 a9 gt)) (P gt)
abbrev PH(b7:CV):=B (gE b7) λm=>B (gd (lX m=true/\true=true)) λa=>mV ((Q8 cl b6)) m []
abbrev Ra(a:List (Str×Addr)):=B (B (gd ((0:Int)=0)) λa=>B (lv 2 b6) λv9=>B (nJ 4 [v9]) (PH cl b6)) λb=>B (mk (.list b)) (Zg b6)
abbrev RP(v3:CV):=B (vy 3 v3 (Le ad a0)) λb6=>B (iG (pg b6 [("place",1),("rows",3)])) (Ra cl b6)
abbrev Ta(bs:Addr):=B (vy 1 ac (XZ ab an bs)) λa0=>B (B (lv 0 (Le ad a0)) λv2=>B (cl (.st 670) [v2]) (RP cl ad a0)) iI
theorem GN(n:Nat)(ab ac ad:CV):aM (n+1) (.st 682) [ab,ac,ad]=Z (B (iF (.cell none)) λan=>B (iF (.cell none)) (Ta (aM n) ac ad ab an)):=by kernel_rfl
abbrev Lv:cN:=a0.set 3 (some w2)
abbrev Wb:cN:=[some ab,some ac,some ag,none,none,none,none,none]
abbrev XG(cg:CV):M fZ:=B (cJ cg (I 1)) λcu=>B (cP .Sub cw cu) λct=>B (lJ b9 ct b4) λa=>P (.next c9)
abbrev WT(b9:CV):=B (lv 1 c9) λa8=>B (lv 4 c9) λb0=>B (cP .Add a8 b0) λcw=>B (lv 3 c9) (XG b4 b9 cw c9)
abbrev Z7(y:Bool):M fZ:=R y (B (lv 5 c9) λb4=>B (lv 3 c9) λcv=>B (cJ cv (I 2)) (WT b4 c9)) (P (.next c9))
abbrev Zb(b8:CV):=B (cJ b8 (I 2)) λa7=>B (qM 1 [a7]) λca=>B (cP .Add cd ca) λa6=>cY .Lt a1 a6
abbrev ZL(j:Bool):=R j (B (lv 3 c9) λa4=>B (cJ a4 (I 1)) λcd=>B (lv 3 c9) (Zb a1 cd)) (P false)
abbrev YD(v9:CV):=B (lv 1 c9) λb7=>B (lv 4 c9) λa2=>B (cP .Add b7 a2) λa1=>B (cY .LtE v9 a1) (ZL a1 c9)
abbrev aa1(c9:cN):M fZ:=gF (B (B (lv 3 c9) λv8=>B (cJ v8 (I 1)) (YD c9)) (Z7 c9)) λfk=>P (.next fk)
abbrev Qy(a:Unit):=yd (λw4 a3=>B (nM 2 w4) λY=>B (pT [(4,true),(5,true)] Y a3) aa1) h7 (Lv w2 a0)
abbrev Pu(w2:CV)(a0:cN):M fZ:=gF (B (lv 2 (Lv w2 a0)) λbv=>B (B (gE bv) tJ) λh7=>B (gd (true=true)) (Qy w2 a0 h7)) λi=>P (.next i)
abbrev OU(cx:CV):=B (gE cx) λo=>B (gd (lX o=true)) λa=>yd (Pu) o (Wb ag ac ab)
theorem GJ(n:Nat)(ab ac ag:CV):aM (n+1) (.st 689) [ab,ac,ag]=Z (B (gF (B (cJ ab (T "regions")) (OU ag ac ab)) λC=>P (.next C)) iI):=by kernel_rfl
abbrev Vn(a:Unit):M fZ:=B (mk (.list [a2,a9,a6,b9,(I 1879048195),(I 0)])) λa8=>B (cl (.st 658) [ae,a8]) λb0=>B (qM 4 [(I 0),b0]) λcw=>P (.ret cw)
abbrev Yd(b4:CV):=B (cP .Sub b4 (I 8)) λcv=>B (cP .Add cv v9) λb9=>B (gd (bN 6)) (Vn cl ae a2 a9 a6 b9)
abbrev ab6(a7:CV):=B (cP .Sub a7 (I 1)) λca=>B (cP .Sub ca v9) λa6=>B (cJ v4 (I 0)) (Yd cl ae v9 a2 a9 a6)
abbrev Yg(a4:CV):=B (cJ v4 (I 1)) λcd=>B (qM 1 [cd]) λb8=>B (cP .Add a4 b8) (ab6 cl ae v4 v9 a2 a9)
abbrev ab8(a2:CV):=B (cJ v4 (I 0)) λa1=>B (cP .Add a1 v9) λa9=>B (cJ v4 (I 0)) (Yg cl ae v4 v9 a2 a9)
abbrev VI(v8:CV):=B (cl (.st 658) [ae,v8]) λv9=>B (cJ v4 (I 0)) λb7=>B (cP .Add b7 v9) (ab8 cl ae v4 v9)
abbrev Zm(v7:CV):=B (gd (bN 7)) λa=>B (mk (.list [(I 0),(I 0),(I 1),(I 2),v5,v6,v7])) (VI cl ae v4)
abbrev XB(v4:CV):=B (Dp (I 1)) λv5=>B (Dp (I 8)) λv6=>B (cl (.st 651) [ae,(I 24)]) (Zm cl ae v4 v5 v6)
theorem C7(n:Nat)(ae ab:CV):aM (n+1) (.st 696) [ae,ab]=Z (B (B ((aM n) (.st 670) [ab]) λv1=>B (qM 1 [v1]) λv2=>B ((aM n) (.st 651) [ae,v2]) λv3=>B (cJ v1 v3) (XB (aM n) ae)) iI):=by kernel_rfl
abbrev VY:cN:=[some (.ref ay),some (.ref ao),none,some (.ref ax),none,none,some (.ref bn),some (.ref au),some (.ref bd),some (.ref an),none,none,none,none,none,none]
abbrev AP:cN:=b3.set 2 (some ab)
abbrev Vt:cN:=[none,none,none,((ez)[0]?).join].set 1 (some h5)
abbrev wg:cN:=[none,none,none,((b2)[9]?).join,((b2)[3]?).join].set 1 (some dr)
abbrev Lm:cN:=b2.set 4 (some (J c1))
abbrev tP:cN:=(Lm c1 b2).set 5 (some ci)
abbrev V6(Q:Bool):=R Q (B (gd (bN 1)) λa=>B (mk (.list [N])) λef=>P ef) (P (T "a region in the way"))
abbrev Xk(o:cN):M fZ:=B (B (lv 5 o) λfq=>B (B (lv 4 o) λha=>B (kM ha) V6) λdn=>cY .Eq fq dn) λO=>P (.ret (J O))
abbrev Xw(dq:CV):M fZ:=B (lv 2 (tP ci c1 b2)) λy=>B (lJ y (T "regions") dq) λa=>P (.next (tP ci c1 b2))
abbrev PD(a:Unit):=B (mk (.list [(hY [ch,ce,dw,d3])])) λl=>B (cP .Add de l) λee=>B (mO ee) λk=>B (vg 1 k) (Xw ci c1 b2)
abbrev T5(dw:CV):=B (lc 6 (tP ci c1 b2)) λd3=>B (gd (bN 4)) λa=>B (gd (bN 1)) (PD ci de ch ce dw d3 c1 b2)
abbrev QX(ch:CV):=B (lc 9 (tP ci c1 b2)) λce=>B (lc 8 (tP ci c1 b2)) (T5 ci de ch ce c1 b2)
abbrev Tx(W:CV):=B (cJ W (T "regions")) λde=>B (lc 7 (tP ci c1 b2)) (QX ci de c1 b2)
abbrev PO(S:Bool):M fZ:=R S (B (alive cl) λa=>B (lv 2 (tP ci c1 b2)) (Tx ci c1 b2)) (P (.next (tP ci c1 b2)))
abbrev O7(dv:CV):=B (cl (.st 665) [dv]) λci=>gF (B (lv 4 (tP ci c1 b2)) λG=>B (kM G) (PO cl ci c1 b2)) Xk
abbrev Ot(c1:Bool):=B (iG (pg (Lm c1 b2) [("is_writable",6),("memory",1),("name",7),("octets",8),("place",9)])) λD=>B (mk (.clo (lG 701 0) D)) (O7 cl c1 b2)
abbrev Qr(s:Bool):=R s (B (lv 1 (wg dr b2)) λr=>B (gd (bN gx.length)) λa=>P (gx++[r])) (P gx)
abbrev Sr(dd:CV):=B (cP .Add c0 dd) λdj=>B (lv 1 (wg dr b2)) λL=>B (cJ L (I 1)) λdm=>cY .Lt dj dm
abbrev SM(t:Bool):=R t (P true) (B (B (lc 3 (wg dr b2)) λc0=>B (lc 4 (wg dr b2)) (Sr c0 dr b2)) λj=>R j (P true) (P false))
abbrev Uq(eo:CV):=B (qM 1 [eo]) λF=>B (cP .Add d2 F) λC=>B (lc 3 (wg dr b2)) λE=>cY .Lt C E
abbrev Pt(U:CV):=B (cJ U (I 1)) λd2=>B (lv 1 (wg dr b2)) λea=>B (cJ ea (I 2)) (Uq d2 dr b2)
abbrev P_(dr:CV)(gx:List CV):=B (B (B (B (lv 1 (wg dr b2)) (Pt dr b2)) (SM dr b2)) λH=>R (!H) (P true) (P false)) (Qr dr b2 gx)
abbrev Nl(bx:CV):=B (cJ bx (T "regions")) λY=>B (gE Y) λq=>B (gd (lX q=true/\true=true)) λa=>mV ((P_ b2)) q []
abbrev Qz(a:List (Str×Addr)):=B (B (gd ((0:Int)=0)) λa=>B (lv 2 b2) (Nl b2)) λA=>B (mk (.list A)) λc7=>B (gd (bN 0)) λa=>B (mk (.list [])) λcp=>cY .Eq c7 cp
abbrev RX(d:CV):=B (vy 8 d ez) λb2=>B (B (iG (pg b2 [("place",9),("width",3)])) (Qz b2)) (Ot cl b2)
abbrev OY(dl:CV):=B (cl (.st 651) [dl,(I 256)]) λd0=>B (gd (bN gw.length)) λa=>P (gw++[d0])
abbrev Sz(p:It):=B (gd (lX p=true/\true=true)) λa=>mV (λh5 gw=>R true (B (lc 3 (Vt h5 ez)) (OY cl gw)) (P gw)) p []
abbrev QW(a:List (Str×Addr)):=B (B (gd ((0:Int)=0)) λa=>B (lc 3 ez) λb5=>B (nJ 4 [b5]) λdt=>B (gE dt) (Sz cl ez)) λm=>B (mk (.list m)) (RX cl ez)
abbrev Q6(a:Unit):=B (vy 7 bv fj) λX=>B (vy 6 (J fr) X) λez=>B (iG (pg ez [("pen",0)])) (QW cl ez)
abbrev M_(bv:CV):=B (B (lc 0 fj) λdb=>B (cl (.st 651) [db,(I 3)]) λcx=>cY .Gt cx (I 0)) λfr=>B (gd (bN 2)) λa=>B (gd (2=2)) (Q6 cl bv fr fj)
abbrev PF(a:Unit):=B (mk (.list [(T "a"),(T "room"),(T "a"),(T "b")])) λw=>B (cl (.st 658) [ct,w]) (M_ cl fj)
abbrev PT(c:Bool):=R c (B (lc 9 co) λa8=>B (cP .Mod a8 (I 4096)) λb0=>B (cP .Add (I 524288) b0) λcw=>P cw) (B (lc 9 co) λcg=>P cg)
abbrev Sd(g2:Bool):=R g2 (P true) (B (B (lc 9 co) λb9=>cY .Lt b9 (I 16)) λf2=>R f2 (P true) (P false))
abbrev Si(co:cN):=B (B (B (B (lc 9 co) λb4=>cY .GtE b4 (I 16776960)) (Sd co)) (PT co)) λa7=>B (vy 9 a7 co) λfj=>B (lc 0 fj) λct=>B (gd (bN 4)) (PF cl ct fj)
abbrev SO(a:Unit):=B (gd (2=2)) λa=>B (vy 9 b7 (AP ab b3)) λz=>B (vy 3 a9 z) (Si cl)
abbrev NB(a:Unit):=B (mk (.list [(I 1),(I 8),(I 3),(I 16)])) λa1=>B (cl (.st 658) [a2,a1]) λa9=>B (gd (bN 2)) (SO cl ab b7 a9 b3)
abbrev Sh(v9:CV):=B (cP .Add v5 v9) λb7=>B (lc 0 (AP ab b3)) λa2=>B (gd (bN 4)) (NB cl ab b7 a2 b3)
abbrev ND(a:Unit):=B (mk (.list [(I 0),(I 1),(I 9),(I 600),v7])) λv8=>B (cl (.st 658) [v6,v8]) (Sh cl ab v5 b3)
abbrev Sv(v5:CV):=B (lc 0 (AP ab b3)) λv6=>B (Dp (I 9)) λv7=>B (gd (bN 5)) (ND cl ab v5 v6 v7 b3)
abbrev N8(b3:cN):=B (B (lc 0 (AP ab b3)) λv3=>B (lv 2 (AP ab b3)) λv4=>B (cl (.st 696) [v3,v4]) (Sv cl ab b3)) iI
abbrev RQ(an:Addr):=B (vy 0 ae (VY bn ao au bd ay an ax)) λa0=>B (vy 1 aj a0) (N8 cl ab)
abbrev Ob(bd:Addr):=B (iF (.cell none)) (RQ cl aj ae ab bn ao au bd ay ax)
abbrev TM(bn:Addr):=B (iF (.cell none)) λau=>B (iF (.cell none)) (Ob cl aj ae ab bn ao au ay ax)
abbrev TQ(ao:Addr):=B (iF (.cell none)) λax=>B (iF (.cell none)) (TM cl aj ae ab ao ay ax)
theorem Dn(n:Nat)(ae aj ab:CV):aM (n+1) (.st 701) [ae,aj,ab]=Z (B (iF (.cell none)) λay=>B (iF (.cell none)) (TQ (aM n) aj ae ab ay)):=by kernel_rfl
noncomputable abbrev xy:cN:=[(dA "is_writable" cells).map dG,(dA "memory" cells).map dG,(dA "name" cells).map dG,(dA "octets" cells).map dG,(dA "place" cells).map dG,none,none]
abbrev M6(f8:CV):=B (mG cl 123 [d5,ex,ep,f8]) λeg=>B (eQ cl fm.1 (fm.2++[eg])) λeq=>P eq
abbrev Qu(ex:CV):=B (lc 3 (xy cells)) λii=>B (nJ 3 [ii]) λep=>B (lc 0 (xy cells)) (M6 cl d5 ex ep fm)
abbrev Sp(ij:CV):=B (dX ij "add") λfm=>B (lc 2 (xy cells)) λd5=>B (lc 4 (xy cells)) (Qu cl cells d5 fm)
noncomputable def xh(cl:fW)(cells:List (Str×Addr)):M CV:=Z (B (lc 1 (xy cells)) (Sp cl cells))
theorem xB(cl:fW)(cells:List (Str×Addr)):oD cl (lG 701 0) cells []=xh cl cells:=by kernel_rfl
abbrev YW:cN:=[some ae,some aj,some ab,some (.ref au),none,none,none,none,none,none,none]
abbrev Gi:cN:=[none,none,((a3)[3]?).join].set 1 (some w6)
abbrev DM:cN:=a3.set 4 (some v5)
abbrev Gh:cN:=[none,none,(((DM v5 a3))[3]?).join].set 1 (some f9)
abbrev GE:cN:=(DM v5 a3).set 5 (some bv)
abbrev tM:cN:=(GE v5 bv a3).set 6 (some bw)
abbrev wy:cN:=dg.set 7 (some (J ds))
abbrev Zc(r:(CV×List CV)):=B (lc 3 (wy ds dg)) λce=>B (eQ cl r.1 (r.2++[ce])) λdw=>cY .Is dw N
abbrev Za(G:Bool):=R G (B (B (lv 1 (wy ds dg)) λde=>B (dX de "named") (Zc cl ds dg)) λn=>P (J n)) (P (J hf))
abbrev NN(u:(CV×List CV)):=B (lc 3 (wy ds dg)) λdv=>B (eQ cl u.1 (u.2++[dv])) λci=>B (lv 7 (wy ds dg)) λz=>cY .Eq ci z
abbrev O_(a:Unit):M fZ:=B (B (B (lv 1 (wy ds dg)) λcp=>B (dX cp "drop") (NN cl ds dg)) λhf=>B (kM (J hf)) (Za cl ds hf dg)) λdm=>P (.ret dm)
abbrev OG(dj:CV):=B (lv 2 (wy ds dg)) λO=>B (lJ O (T "regions") dj) (O_ cl ds dg)
abbrev OD(D:CV):=B (lv 2 dg) λeb=>B (cJ eb (T "regions")) λc0=>B (qM 1 [c0]) λdd=>cY .Lt D dd
abbrev QS(dg:cN):=B (B (lv 4 dg) λC=>B (qM 1 [C]) (OD dg)) λds=>B (lv 4 (wy ds dg)) (OG cl ds dg)
abbrev PC(H:CV):=B (cJ H (I 3)) λd2=>B (gd (bN 4)) λa=>cY .NotEq d1 (hY [c7,bx,cn,d2])
abbrev Pr(fd:CV):=B (nJ 2 [fd]) λcn=>B (lv 5 (tM v5 bv bw a3)) λq=>B (cJ q (I 0)) (PC d1 c7 bx cn)
abbrev T3(bx:CV):=B (lv 5 (tM v5 bv bw a3)) λU=>B (cJ U (I 0)) λcm=>B (cJ cm (I 2)) (Pr v5 bv bw d1 c7 bx a3)
abbrev QK(c7:CV):=B (lv 5 (tM v5 bv bw a3)) λy=>B (cJ y (I 0)) λdu=>B (cJ du (I 1)) (T3 v5 bv bw d1 c7 a3)
abbrev PA(s:(CV×List CV)):=B (eQ cl s.1 (s.2++[])) λd1=>B (lc 3 (tM v5 bv bw a3)) (QK v5 bv bw d1 a3)
abbrev Up(x:Bool):=R x (B (B (lv 6 (tM v5 bv bw a3)) λE=>B (dX E "told") (PA cl v5 bv bw a3)) λh=>R h (P true) (P false)) (P false)
abbrev PV(L:Bool):=R L (P true) (B (B (B (lv 6 (tM v5 bv bw a3)) λdl=>cY .IsNot dl N) (Up cl v5 bv bw a3)) λQ=>R Q (P true) (P false))
abbrev QV(m:Bool):=B (B (lv 5 (tM v5 bv bw a3)) λb1=>B (gd (bN 0)) λa=>B (mk (.list [])) λb5=>cY .Eq b1 b5) λS=>cY .NotEq (J m) (J S)
abbrev M5(bw:CV):M fZ:=gF (B (B (B (B (lv 6 (tM v5 bv bw a3)) λf=>cY .Is f N) (QV v5 bv bw a3)) (PV cl v5 bv bw a3)) λg1=>R g1 (P (.ret (J false))) (P (.next (tM v5 bv bw a3)))) (QS cl)
abbrev SP(p:CV):=B (dX p "named") λv=>B (lc 3 (GE v5 bv a3)) λcx=>B (eQ cl v.1 (v.2++[cx])) (M5 cl v5 bv a3)
abbrev Pc(e:List CV):=B (mk (.list e)) λca=>B (sD ca none (some (I 1))) λbv=>B (lv 1 (GE v5 bv a3)) (SP cl v5 bv a3)
abbrev Rm(l:Bool):=R l (B (lv 1 (Gh v5 f9 a3)) λw=>B (gd (bN gu.length)) λa=>P (gu++[w])) (P gu)
abbrev OM(f9:CV)(gu:List CV):=B (B (B (lv 1 (Gh v5 f9 a3)) λcg=>B (cJ cg (I 0)) λcu=>B (lc 2 (Gh v5 f9 a3)) λct=>cY .Eq cu ct) λA=>R A (P true) (P false)) (Rm v5 f9 a3 gu)
abbrev Tr(b9:CV):=B (gE b9) λt=>B (gd (lX t=true/\true=true)) λa=>mV ((OM v5 a3)) t []
abbrev NF(a:List (Str×Addr)):=B (B (gd ((0:Int)=0)) λa=>B (lv 2 (DM v5 a3)) λcv=>B (cJ cv (T "regions")) (Tr v5 a3)) (Pc cl v5 a3)
abbrev Tn(f1:Bool):=R f1 (B (lv 1 (Gi w6 a3)) λb8=>B (gd (bN fb.length)) λa=>P (fb++[b8])) (P fb)
abbrev OH(w6:CV)(fb:List CV):=B (B (B (lv 1 (Gi w6 a3)) λa9=>B (cJ a9 (I 0)) λa4=>B (lc 2 (Gi w6 a3)) λcd=>cY .NotEq a4 cd) λk=>R k (P true) (P false)) (Tn w6 a3 fb)
abbrev T8(v8:CV):=B (cJ v8 (T "regions")) λv9=>B (gE v9) λF=>B (gd (lX F=true/\true=true)) λa=>mV ((OH a3)) F []
abbrev Po(a:List (Str×Addr)):=B (B (gd ((0:Int)=0)) λa=>B (lv 2 a3) (T8 a3)) λd=>B (mk (.list d)) λv5=>B (iG (pg (DM v5 a3) [("name",3)])) (NF cl v5 a3)
abbrev NT(v2:CV):=B (vy 3 v2 (YW aj ae ab au)) λa3=>B (iG (pg a3 [("name",3)])) (Po cl a3)
abbrev SU(a:Unit):=B (mk (.list [(T "a"),(T "b"),(T "room"),(T "packet"),(T "none")])) λv1=>B (cl (.st 658) [ae,v1]) (NT cl aj ae ab au)
theorem AG(n:Nat)(ae aj ab:CV):aM (n+1) (.st 706) [ae,aj,ab]=Z (B (iF (.cell none)) λau=>B (B (gd (bN 5)) (SU (aM n) aj ae ab au)) iI):=by kernel_rfl
abbrev Xm:cN:=[some ae,some (.ref ao),none,none,none,none,none,none,none,some (.ref an),some (.ref ax),none,none,none,none,none,none,none,none]
abbrev DU:cN:=a0.set 2 (some ab)
abbrev Ar:cN:=a5.set 3 (some a4)
abbrev Ha:cN:=c4.set 4 (some b0)
abbrev DC:cN:=(Ha b0 c4).set 5 (some c6)
abbrev tO:cN:=cy.set 8 (some cc)
abbrev VP(c:CV):=B (cP .Sub eq c) λh=>B (gd (bN 4)) λa=>cY .Eq (hY [dx,dn,d4,ef]) (hY [d5,ep,eg,h])
abbrev Yz(eq:CV):=B (lv 8 (tO cc cy)) λg=>B (cJ g (I 0)) (VP dx dn d4 ef d5 ep eg eq)
abbrev VG(m:CV):=B (cJ m (I 2)) λeg=>B (lc 9 (tO cc cy)) (Yz cc dx dn d4 ef d5 ep eg cy)
abbrev NZ(ex:CV):=B (cJ ex (I 1)) λii=>B (nJ 2 [ii]) λep=>B (lv 8 (tO cc cy)) (VG cc dx dn d4 ef d5 ep cy)
abbrev Tg(a:Unit):=B (lv 8 (tO cc cy)) λs=>B (cJ s (I 0)) λd5=>B (lv 8 (tO cc cy)) (NZ cc dx dn d4 ef d5 cy)
abbrev Np(ha:CV):=B (dI ha "is_writable") λd4=>B (lv 7 (tO cc cy)) λef=>B (gd (bN 4)) (Tg cc dx dn d4 ef cy)
abbrev NK(c8:CV):=B (dI c8 "octets") λfq=>B (nJ 2 [fq]) λdn=>B (lv 6 (tO cc cy)) (Np cc dx dn cy)
abbrev PJ(cc:CV):M fZ:=B (B (lv 6 (tO cc cy)) λz=>B (dI z "base") λdx=>B (lv 6 (tO cc cy)) (NK cc dx cy)) λp=>P (.ret (J p))
abbrev Te(c3:CV):=B (cJ c3 (I 0)) λl=>B (cJ l (I 0)) λee=>B (cJ d3 ee) (PJ cy)
abbrev Qp(r:List CV):=B (pT [(6,true),(7,true)] r fu) λcy=>B (lv 2 cy) λdw=>B (cl (.st 670) [dw]) λd3=>B (lv 3 cy) (Te d3 cy)
abbrev RY(ed:CV):=B (lc 10 fu) λW=>B (eQ cl hl.1 (hl.2++[ed,W])) λde=>B (nM 2 de) (Qp cl fu)
abbrev TC(fu:cN):=B (lc 1 fu) λci=>B (dX ci "find") λhl=>B (lc 9 fu) (RY cl fu hl)
abbrev Nn(H:List (Str×Addr)):=B (mk (.clo (lG 711 2) H)) λcp=>B (cl (.st 665) [cp]) λec=>cY .Eq ec (T "no memory there")
abbrev S_(i:Bool):M fZ:=R i (B (B (iG (pg go [("memory",1),("place",9),("width",10)])) (Nn cl)) λb=>P (.ret (J b))) (P (.next go))
abbrev Q9(t:Bool):=R t (B (lv 4 ft) λeb=>B (gd (bN 1)) λa=>B (mk (.list [eb])) λc0=>P c0) (P (T "no memory there"))
abbrev Ny(eo:CV):=B (B (B (lv 3 ft) λC=>cY .IsNot C N) (Q9 ft)) λF=>cY .NotEq eo F
abbrev TX(ft:cN):M fZ:=gF (B (B (iG (pg ft [("memory",1),("place",9),("width",10)])) λL=>B (mk (.clo (lG 711 1) L)) λea=>B (cl (.st 665) [ea]) (Ny ft)) λX=>R X (P (.ret (J false))) (P (.next ft))) λgo=>gF (B (B (lv 3 go) λS=>cY .Is S N) (S_ cl go)) (TC cl)
abbrev TP(O:Bool):=R O (B (lv 5 (DC b0 c6 c4)) λfd=>B (gd (bN 1)) λa=>B (mk (.list [fd])) λcn=>P cn) (P (T "no memory there"))
abbrev RH(du:CV):=B (B (B (lv 3 (DC b0 c6 c4)) λcm=>cY .IsNot cm N) (TP b0 c6 c4)) λbx=>cY .NotEq du bx
abbrev RK(c6:CV):M fZ:=gF (B (B (iG (pg (DC b0 c6 c4) [("memory",1),("place",9),("width",10)])) λG=>B (mk (.clo (lG 711 0) G)) λv=>B (cl (.st 665) [v]) (RH b0 c6 c4)) λY=>R Y (P (.ret (J false))) (P (.next (DC b0 c6 c4)))) (TX cl)
abbrev Py(dl:CV):=B (cP .Pow (I 256) dl) λd0=>B (cP .Mult di d0) λE=>B (gd (bN gg.length)) λa=>P (gg++[E])
abbrev Pf(q:List CV):=B (pT [(1,true),(2,true)] q [none,none,none]) λx=>R true (B (lv 2 x) λdi=>B (lv 1 x) (Py di gg)) (P gg)
abbrev Oe(D:It):=B (gd (true=true/\true=true)) λa=>mV (λu gg=>B (nM 2 u) (Pf gg)) D []
abbrev Ui(a:List (Str×Addr)):=B (B (gd ((0:Int)=0)) λa=>B (lv 4 (Ha b0 c4)) λQ=>B (B (gE Q) tJ) Oe) λo=>B (mk (.list o)) λf=>B (qM 3 [f]) (RK cl b0 c4)
abbrev Qx(U:CV)(io:List CV):=R true (B (cJ U (I 2)) λcx=>B (gd (bN io.length)) λa=>P (io++[cx])) (P io)
abbrev Nk(a:Unit):=B (lv 3 c4) λd=>B (gE d) λw=>B (gd (lX w=true/\true=true)) λa=>mV (Qx) w []
abbrev NO(a:List (Str×Addr)):=B (B (gd ((0:Int)=0)) (Nk c4)) λe=>B (mk (.list e)) λct=>B (nJ 2 [ct]) λbw=>P bw
abbrev Nz(c4:cN):=B (B (B (lv 3 c4) λcg=>cY .IsNot cg N) λA=>R A (B (iG (pg c4 [])) (NO c4)) (P (lQ []))) λb0=>B (iG (pg (Ha b0 c4) [])) (Ui cl b0 c4)
abbrev Rt(b4:CV):=B (B (lv 3 (Ar a4 a5)) λb9=>cY .IsNot b9 N) λf2=>cY .NotEq b4 (J f2)
abbrev Uj(y:(CV×List CV)):=B (lc 9 (Ar a4 a5)) λca=>B (lc 10 (Ar a4 a5)) λa6=>B (eQ cl y.1 (y.2++[ca,a6])) (Rt a4 a5)
abbrev PZ(a4:CV):M fZ:=gF (B (B (lc 1 (Ar a4 a5)) λb8=>B (dX b8 "is_there") (Uj cl a4 a5)) λet=>R et (P (.ret (J false))) (P (.next (Ar a4 a5)))) (Nz cl)
abbrev Q5(a5:cN):=B (lv 2 a5) λa2=>B (lc 9 a5) λa1=>B (lc 10 a5) λa9=>B (cl (.st 682) [a2,a1,a9]) (PZ cl a5)
abbrev Qj(v7:CV):=B (gd (bN 2)) λa=>B (gd (2=2)) λa=>B (vy 9 v4 (DU ab a0)) λcf=>B (vy 10 v7 cf) (Q5 cl)
abbrev OR(a:Unit):=B (mk (.list [(I 1),(I 2),(I 4),(I 8),(I 3),(I 9)])) λv6=>B (cl (.st 658) [v5,v6]) (Qj cl ab v4 a0)
abbrev Sx(v3:CV):=B (cl (.st 696) [v2,v3]) λv4=>B (lv 0 (DU ab a0)) λv5=>B (gd (bN 6)) (OR cl ab v4 v5 a0)
abbrev Rp(a0:cN):=B (B (lv 0 (DU ab a0)) λv2=>B (lv 2 (DU ab a0)) (Sx cl ab v2 a0)) iI
abbrev SR(an:Addr):=B (iF (.cell none)) λax=>B (vy 1 aj (Xm ae ao an ax)) (Rp cl ab)
theorem xC(n:Nat)(ae aj ab:CV):aM (n+1) (.st 711) [ae,aj,ab]=Z (B (iF (.cell none)) λao=>B (iF (.cell none)) (SR (aM n) aj ae ab ao)):=by kernel_rfl
noncomputable abbrev rc:cN:=[(dA "memory" cells).map dG,(dA "place" cells).map dG,(dA "width" cells).map dG]
abbrev N3(ip:CV):=B (lc 2 (rc cells)) λkt=>B (eQ cl hn.1 (hn.2++[ip,kt])) λgj=>P gj
noncomputable def tW(cl:fW)(cells:List (Str×Addr)):M CV:=Z (B (lc 0 (rc cells)) λku=>B (dX ku "read") λhn=>B (lc 1 (rc cells)) (N3 cl cells hn))
theorem oW(cl:fW)(cells:List (Str×Addr)):oD cl (lG 711 0) cells []=tW cl cells:=by kernel_rfl
abbrev Os(s:CV):=B (lc 2 (rc cells)) λR=>B (eQ cl ho.1 (ho.2++[s,R])) λe=>P e
noncomputable def tR(cl:fW)(cells:List (Str×Addr)):M CV:=Z (B (lc 0 (rc cells)) λgk=>B (dX gk "octets") λho=>B (lc 1 (rc cells)) (Os cl cells ho))
theorem pv(cl:fW)(cells:List (Str×Addr)):oD cl (lG 711 1) cells []=tR cl cells:=by kernel_rfl
abbrev Un(t:CV):=B (lc 2 (rc cells)) λQ=>B (eQ cl hp.1 (hp.2++[t,Q])) λgl=>P gl
noncomputable def tF(cl:fW)(cells:List (Str×Addr)):M CV:=Z (B (lc 0 (rc cells)) λky=>B (dX ky "find") λhp=>B (lc 1 (rc cells)) (Un cl cells hp))
theorem tX(cl:fW)(cells:List (Str×Addr)):oD cl (lG 711 2) cells []=tF cl cells:=by kernel_rfl
abbrev Y2:cN:=[some ae,some (.ref ao),none,none,none,none,some (.ref bd),some (.ref an),some (.ref ax),some (.ref bm),none,none,none,none,none,none,none,none]
abbrev AK:cN:=a0.set 2 (some ab)
abbrev Dw:cN:=co.set 3 (some b4)
abbrev Kx:cN:=[none,none,(((Dw b4 co))[9]?).join].set 1 (some ga)
abbrev Dx:cN:=ck.set 4 (some bw)
abbrev GD:cN:=(Dx bw ck).set 5 (some c7)
abbrev ZE(dd:CV):=B (eQ cl hj.1 (hj.2++[c0,dd])) λdj=>B (nJ 5 [dj]) λS=>B (lc 6 ej) λdm=>cY .Eq S dm
abbrev VQ(C:CV):=B (dX C "octets") λhj=>B (lc 7 ej) λc0=>B (lc 8 ej) (ZE cl c0 ej hj)
abbrev Wl(eo:CV):M fZ:=B (cl (.st 689) [d2,ea,eo]) λE=>B (B (lc 1 ej) (VQ cl ej)) λr=>P (.ret (J r))
abbrev NM(z:cN):M fZ:=gF (B (B (lv 4 z) λcn=>B (gd (bN 1)) λa=>B (mk (.list [N])) λq=>cY .NotEq cn q) λl=>R l (P (.ret (J true))) (P (.next z))) λej=>B (lv 2 ej) λd2=>B (lc 7 ej) λea=>B (lc 6 ej) (Wl cl d2 ea ej)
abbrev Tc(c7:CV):M fZ:=gF (B (B (lv 5 (GD bw c7 ck)) λdu=>B (cl (.st 665) [du]) λbx=>B (lv 4 (GD bw c7 ck)) λD=>cY .NotEq bx D) λit=>R it (P (.ret (J false))) (P (.next (GD bw c7 ck)))) (NM cl)
abbrev NX(c6:CV):=B (gd (bN 2)) λa=>B (mk (.list [d0,c6])) λd1=>B (cl (.st 658) [di,d1]) (Tc cl bw ck)
abbrev Oz(d0:CV):=B (iG (pg (Dx bw ck) [("memory",1),("octets",6),("place",7)])) λL=>B (mk (.clo (lG 716 1) L)) (NX cl bw di d0 ck)
abbrev Na(di:CV):=B (iG (pg (Dx bw ck) [("memory",1),("place",7),("width",8),("worth",9)])) λO=>B (mk (.clo (lG 716 0) O)) (Oz cl bw di ck)
abbrev Ua(kz:Bool):=R kz (B (gd (bN 1)) λa=>B (mk (.list [N])) λdt=>P dt) (P (T "read only"))
abbrev RN(g1:Bool):=R g1 (P (T "no memory there")) (B (B (lv 3 ck) λd=>B (cJ d (I 0)) λQ=>B (cJ Q (I 1)) λb1=>B (kM b1) Ua) λdc=>P dc)
abbrev QQ(ck:cN):=B (B (B (lv 3 ck) λf=>cY .Is f N) (RN ck)) λbw=>B (lv 0 (Dx bw ck)) (Na cl bw ck)
abbrev Qn(bv:CV):=B (cP .FloorDiv ct bv) λp=>B (cP .Mod p (I 256)) λdb=>B (gd (bN fc.length)) λa=>P (fc++[db])
abbrev Uh(ga:CV)(fc:List CV):=R true (B (lc 2 (Kx b4 ga co)) λct=>B (lv 1 (Kx b4 ga co)) λw=>B (cP .Pow (I 256) w) (Qn ct fc)) (P fc)
abbrev Tv(cg:CV):=B (gE cg) λjp=>B (gd (lX jp=true/\true=true)) λa=>mV ((Uh b4 co)) jp []
abbrev TB(a:List (Str×Addr)):=B (B (gd ((0:Int)=0)) λa=>B (lc 8 (Dw b4 co)) λcw=>B (nJ 4 [cw]) (Tv b4 co)) λY=>B (mk (.list Y)) λb9=>B (vy 6 b9 (Dw b4 co)) (QQ cl)
abbrev QB(a6:CV):=B (cl (.st 682) [a7,ca,a6]) λb4=>B (iG (pg (Dw b4 co) [("worth",9)])) (TB cl b4 co)
abbrev T_(A:cN):=B (vy 9 a1 A) λco=>B (lv 2 co) λa7=>B (lc 7 co) λca=>B (lc 8 co) (QB cl a7 ca co)
abbrev Ru(a:Unit):=B (gd (3=3)) λa=>B (vy 7 v4 (AK ab a0)) λd6=>B (vy 8 v7 d6) (T_ cl a1)
abbrev Q_(b7:CV):=B (cP .LShift (I 1) (I 70)) λa2=>B (cP .Sub b7 a2) λa1=>B (gd (bN 3)) (Ru cl ab v4 v7 a1 a0)
abbrev Nv(v8:CV):=B (cP .LShift (I 1) (I 80)) λv9=>B (cl (.st 651) [v8,v9]) (Q_ cl ab v4 v7 a0)
abbrev Pl(a:Unit):=B (mk (.list [(I 1),(I 2),(I 4),(I 8),(I 5)])) λv6=>B (cl (.st 658) [v5,v6]) λv7=>B (lv 0 (AK ab a0)) (Nv cl ab v4 v7 a0)
abbrev T1(v3:CV):=B (cl (.st 696) [v2,v3]) λv4=>B (lv 0 (AK ab a0)) λv5=>B (gd (bN 5)) (Pl cl ab v4 v5 a0)
abbrev QP(a0:cN):=B (B (lv 0 (AK ab a0)) λv2=>B (lv 2 (AK ab a0)) (T1 cl ab v2 a0)) iI
abbrev Pz(ax:Addr):=B (iF (.cell none)) λbm=>B (vy 1 aj (Y2 ae ao bd an ax bm)) (QP cl ab)
abbrev Tj(bd:Addr):=B (iF (.cell none)) λan=>B (iF (.cell none)) (Pz cl aj ae ab ao bd an)
theorem ve(n:Nat)(ae aj ab:CV):aM (n+1) (.st 716) [ae,aj,ab]=Z (B (iF (.cell none)) λao=>B (iF (.cell none)) (Tj (aM n) aj ae ab ao)):=by kernel_rfl
noncomputable abbrev zX:cN:=[(dA "memory" cells).map dG,(dA "place" cells).map dG,(dA "width" cells).map dG,(dA "worth" cells).map dG]
abbrev Nh(ec:CV):=B (lc 2 (zX cells)) λdv=>B (lc 3 (zX cells)) λci=>B (eQ cl hk.1 (hk.2++[ec,dv,ci])) λff=>P ff
noncomputable def r7(cl:fW)(cells:List (Str×Addr)):M CV:=Z (B (lc 0 (zX cells)) λf5=>B (dX f5 "write") λhk=>B (lc 1 (zX cells)) (Nh cl cells hk))
theorem rY(cl:fW)(cells:List (Str×Addr)):oD cl (lG 716 0) cells []=r7 cl cells:=by kernel_rfl
noncomputable abbrev DB:cN:=[(dA "memory" cells).map dG,(dA "octets" cells).map dG,(dA "place" cells).map dG,none]
abbrev Ph(de:CV):=B (lc 1 (DB cells)) λch=>B (nJ 2 [ch]) λce=>B (eQ cl hm.1 (hm.2++[de,ce])) λdw=>P dw
noncomputable def rX(cl:fW)(cells:List (Str×Addr)):M CV:=Z (B (lc 0 (DB cells)) λed=>B (dX ed "lay") λhm=>B (lc 2 (DB cells)) (Ph cl cells hm))
theorem rZ(cl:fW)(cells:List (Str×Addr)):oD cl (lG 716 1) cells []=rX cl cells:=by kernel_rfl
abbrev XW:cN:=[some ae,some ab,some (.ref an),none,none,none,none,none,none,none,none,none,none,none,none,none,none,none,none,none,none,none,none,none,none,none,none]
abbrev XO:cN:=cb.set 3 (some v3)
abbrev ZP:cN:=(XO v3 cb).set 4 (some v4)
abbrev KL:cN:=(ZP v3 v4 cb).set 5 (some v5)
abbrev C0:cN:=(KL v3 v4 v5 cb).set 6 (some a1)
abbrev rA:cN:=(C0 v3 v4 v5 a1 cb).set 7 (some a6)
abbrev Vj:cN:=cj.set 8 (some b1)
abbrev CQ:cN:=(Vj b1 cj).set 9 (some b5)
abbrev sN:cN:=(CQ b1 b5 cj).set 10 (some cn)
abbrev OK:cN:=cs.set 11 (some ch)
abbrev zT:cN:=(OK ch cs).set 12 (some ce)
abbrev w8:cN:=(zT ch ce cs).set 13 (some (hY [c3,cc,c8,(J true)]))
abbrev TY(eg:CV):=B (lv 13 (w8 ch ce c3 cc c8 cs)) λeq=>B (cJ eq (I 1)) λe=>B (cP .Add e (I 512)) λd=>cY .Eq eg d
abbrev Su(v:Bool):=R v (B (B (lv 11 (w8 ch ce c3 cc c8 cs)) λn=>B (cl (.st 162) [n]) (TY ch ce c3 cc c8 cs)) λla=>P (J la)) (P (J hg))
abbrev SY(fm:(CV×List CV)):=B (eQ cl fm.1 (fm.2++[])) λd5=>B (lv 13 (w8 ch ce c3 cc c8 cs)) λex=>cY .Eq d5 ex
abbrev Sn(ef:CV):=B (cl (.st 292) [d4,ef]) λs=>B (dX s "told") (SY cl ch ce c3 cc c8 cs)
abbrev M8(a:Unit):M fZ:=B (B (B (lv 11 (w8 ch ce c3 cc c8 cs)) λd4=>B (lv 12 (w8 ch ce c3 cc c8 cs)) (Sn cl ch ce c3 cc c8 d4 cs)) λhg=>B (kM (J hg)) (Su cl ch ce c3 cc c8 hg cs)) λdn=>P (.ret dn)
abbrev Rn(y:CV):=B (cP .Mult y (I 512)) λdx=>B (nJ 2 [dx]) λc8=>B (gd (bN 4)) (M8 cl ch ce c3 cc c8 cs)
abbrev TN(cc:CV):=B (lv 12 (zT ch ce cs)) λdq=>B (gd (bN 1)) λa=>B (mk (.list [dq])) (Rn cl ch ce c3 cc cs)
abbrev Pj(l:CV):=B (cP .Mult (I 4096) l) λee=>B (cP .Add (I 262144) ee) (TN cl ch ce c3 cs)
abbrev Tt(a:Unit):=B (lv 11 (zT ch ce cs)) λd3=>B (cl (.st 169) [d3]) λc3=>B (lv 11 (zT ch ce cs)) (Pj cl ch ce c3 cs)
abbrev RG(de:CV):=B (cP .Mod de (I 8)) λch=>B (lv 3 cs) λce=>B (gd (bN 2)) λa=>B (gd (2=2)) (Tt cl ch ce cs)
abbrev R4(ci:CV):=B (nJ 8 [ci]) λz=>B (cP .Add (T "room ") z) λed=>cY .NotEq dv ed
abbrev Nb(c:Bool):=R c (P true) (B (B (lc 2 (sN b1 b5 cn cj)) λec=>B (cl (.st 176) [ec]) λdv=>B (lc 2 (sN b1 b5 cn cj)) (R4 dv)) λld=>R ld (P true) (P false))
abbrev Rw(dj:CV):=B (lv 9 (sN b1 b5 cn cj)) λL=>B (lv 10 (sN b1 b5 cn cj)) λdm=>B (cJ L dm) λm=>cY .NotEq dj m
abbrev N2(eb:CV):=B (lv 10 (sN b1 b5 cn cj)) λc0=>B (cJ eb c0) λdd=>B (cl (.st 183) [dd]) (Rw b1 b5 cn cj)
abbrev TJ(N:Bool):=R N (P true) (B (B (lv 8 (sN b1 b5 cn cj)) (N2 cl b1 b5 cn cj)) (Nb cl b1 b5 cn cj))
abbrev RV(ea:CV):=B (lv 9 (sN b1 b5 cn cj)) λeo=>B (lv 10 (sN b1 b5 cn cj)) λF=>B (cJ eo F) λD=>cY .NotEq ea D
abbrev R7(cn:CV):M fZ:=gF (B (B (B (lc 2 (sN b1 b5 cn cj)) λd2=>B (cl (.st 183) [d2]) (RV b1 b5 cn cj)) (TJ cl b1 b5 cn cj)) λj=>R j (P (.ret (J false))) (P (.next (sN b1 b5 cn cj)))) λcs=>B (lv 4 cs) (RG cl cs)
abbrev SE(u:List CV):=B (mk (.list u)) λdi=>B (Dp (I 1)) λfd=>B (cJ di fd) (R7 cl b1 b5 cj)
abbrev TO(it:Bool):=R it (B (lv 1 gn) λcm=>B (gd (bN fz.length)) λa=>P (fz++[cm])) (P fz)
abbrev Nq(gn:cN):=B (B (B (lc 3 gn) λbx=>B (lv 2 gn) λG=>cY .GtE bx G) λle=>R le (P true) (P false)) (TO gn fz)
abbrev To(A:List CV):=B (pT [(1,true),(2,true)] A [none,none,none,(((CQ b1 b5 cj))[2]?).join]) (Nq fz)
abbrev Ng(lf:It):=B (gd (true=true/\true=true)) λa=>mV (λr fz=>B (nM 2 r) (To b1 b5 cj fz)) lf []
abbrev Nw(a:List (Str×Addr)):=B (B (gd ((0:Int)=0)) λa=>B (lv 8 (CQ b1 b5 cj)) λE=>B (B (gE E) tJ) (Ng b1 b5 cj)) (SE cl b1 b5 cj)
abbrev Q3(a:Unit):=B (mk (.list [(T "none"),(T "context"),(T "packet"),(T "stack"),(T "room"),(T "values"),(T "beyond")])) λb5=>B (iG (pg (CQ b1 b5 cj) [("place",2)])) (Nw cl b1 b5 cj)
abbrev RS(a:Unit):=B (mk (.list [(I 0),(I 65536),(I 131072),(I 262144),(I 524288),(I 16777216),(I 1879048192)])) λb1=>B (gd (bN 7)) (Q3 cl b1 cj)
abbrev Sy(f:CV):=B (lv 5 (rA v3 v4 v5 a1 a6 cb)) λdc=>B (gd (bN 3)) λa=>cY .NotEq ew (hY [f,dc,(I 7)])
abbrev SC(bw:CV):=B (cl (.st 148) [cx,bw]) λew=>B (lv 4 (rA v3 v4 v5 a1 a6 cb)) (Sy v3 v4 v5 a1 a6 ew cb)
abbrev OB(db:CV):=B (cP .Add db (I 7)) λcx=>B (lv 3 (rA v3 v4 v5 a1 a6 cb)) (SC cl v3 v4 v5 a1 a6 cx cb)
abbrev TA(C:Bool):=R C (P true) (B (B (lv 7 (rA v3 v4 v5 a1 a6 cb)) (OB cl v3 v4 v5 a1 a6 cb)) λfr=>R fr (P true) (P false))
abbrev Pa(ct:CV):=B (cl (.st 141) [cg,cu,ct]) λw=>B (lv 7 (rA v3 v4 v5 a1 a6 cb)) λbv=>cY .NotEq w bv
abbrev Qi(cg:CV):=B (lv 5 (rA v3 v4 v5 a1 a6 cb)) λcu=>B (lv 3 (rA v3 v4 v5 a1 a6 cb)) (Pa cl v3 v4 v5 a1 a6 cg cu cb)
abbrev Ov(f2:Bool):=R f2 (P true) (B (B (lv 4 (rA v3 v4 v5 a1 a6 cb)) (Qi cl v3 v4 v5 a1 a6 cb)) (TA cl v3 v4 v5 a1 a6 cb))
abbrev N5(a6:CV):M fZ:=gF (B (B (B (lv 3 (rA v3 v4 v5 a1 a6 cb)) λb9=>B (cl (.st 134) [b9]) λa8=>B (lv 6 (rA v3 v4 v5 a1 a6 cb)) λb0=>cY .NotEq a8 b0) (Ov cl v3 v4 v5 a1 a6 cb)) λg3=>R g3 (P (.ret (J false))) (P (.next (rA v3 v4 v5 a1 a6 cb)))) λcj=>B (gd (bN 7)) (RS cl cj)
abbrev Nu(b8:CV):=B (lv 5 (C0 v3 v4 v5 a1 cb)) λa7=>B (cP .Mult b8 a7) λca=>B (cP .Add cd ca) (N5 cl v3 v4 v5 a1 cb)
abbrev Se(a4:CV):=B (cP .Add (I 16777216) a4) λcd=>B (lv 6 (C0 v3 v4 v5 a1 cb)) (Nu cl v3 v4 v5 a1 cd cb)
abbrev NV(a1:CV):=B (lv 4 (C0 v3 v4 v5 a1 cb)) λa9=>B (cP .Mult (I 1048576) a9) (Se cl v3 v4 v5 a1 cb)
abbrev Rh(v9:CV):=B (cP .FloorDiv v9 (I 8)) λb7=>B (cP .Mult (I 8) b7) λa2=>B (cP .Add a2 (I 8)) (NV cl v3 v4 v5 cb)
abbrev Ry(a:Unit):=B (vy 2 v1 (XW ae ab an)) λcb=>B (lv 3 (KL v3 v4 v5 cb)) λv8=>B (cP .Add v8 (I 7)) (Rh cl v3 v4 v5 cb)
abbrev Sm(v4:CV):=B (cl (.st 651) [ae,(I 9)]) λv5=>B (gd (bN 4)) λa=>B (gd (4=4)) (Ry cl ae ab an v1 v3 v4 v5)
abbrev Sw(v2:CV):=B (cP .Add (I 1) v2) λv3=>B (cl (.st 651) [ae,(I 64)]) (Sm cl ae ab an v1 v3)
abbrev TG(an:Addr):=B (B (cl (.st 696) [ae,ab]) λv1=>B (cl (.st 651) [ae,(I 40)]) (Sw cl ae ab an v1)) iI
theorem xb(n:Nat)(ae ab:CV):aM (n+1) (.st 721) [ae,ab]=Z (B (iF (.cell none)) (TG (aM n) ae ab)):=by kernel_rfl
abbrev Vv:cN:=[some aw,some (.ref ay),none,none,none,some (.ref bp),none,none,some (.ref ao),none,none,none,none,none,none,none,none,none,none,none,none,none,none,none,none,none,none,none,none,none,none]
abbrev VD:cN:=[none,none,none,((b3)[1]?).join].set 1 (some w5)
abbrev WD:cN:=b3.set 3 (some v4)
abbrev Hq:cN:=(WD v4 b3).set 4 (some a4)
abbrev wt:cN:=cq.set 6 (some a8)
abbrev Yv:cN:=[none,none,none,(((wt a8 cq))[1]?).join].set 1 (some h4)
abbrev DK:cN:=(wt a8 cq).set 7 (some b1)
abbrev GG:cN:=cr.set 9 (some bx)
abbrev Aj:cN:=(GG bx cr).set 10 (some cm)
abbrev DP:cN:=(Aj bx cm cr).set 11 (some c0)
abbrev HV:cN:=ek.set 2 (some eh)
abbrev qd:cN:=(HV eh ek).set 12 (some dq)
abbrev zS:cN:=[none,none,((cz)[8]?).join,((cz)[5]?).join].set 1 (some ey)
abbrev HH:cN:=[none,none,none,((cz)[5]?).join].set 1 (some he)
abbrev Uk(lh:CV):=B (cJ h3 lh) λli=>B (nJ 2 [li]) λlj=>B (gd (bN g0.length)) λa=>P (g0++[lj])
abbrev Nf(he:CV)(g0:List CV):=R true (B (lc 3 (HH he cz)) λlk=>B (dI lk "values") λh3=>B (lv 1 (HH he cz)) (Uk h3 g0)) (P g0)
abbrev Tw(ll:CV):=B (gE ll) λC=>B (gd (lX C=true/\true=true)) λa=>mV ((Nf cz)) C []
abbrev Pg(a:List (Str×Addr)):=B (B (gd ((0:Int)=0)) λa=>B (nJ 4 [(I 3)]) (Tw cz)) λN=>B (mk (.list N)) λlm=>cY .Eq h1 lm
abbrev NW(ln:CV):=B (eQ cl ge.1 (ge.2++[h2,ln])) λlo=>B (gd (bN fn.length)) λa=>P (fn++[lo])
abbrev Ou(h2:CV):=B (lc 3 (zS ey cz)) λS=>B (dI S "value_width") (NW cl h2 ge fn)
abbrev OA(A:(CV×List CV)):=B (lv 1 (zS ey cz)) λlq=>B (eQ cl A.1 (A.2++[lq])) (Ou cl ey cz ge fn)
abbrev Ss(ge:(CV×List CV)):=B (lc 3 (zS ey cz)) λX=>B (dX X "place_of") (OA cl ey cz ge fn)
abbrev So(ey:CV)(fn:List CV):=R true (B (lc 2 (zS ey cz)) λm=>B (dX m "octets") (Ss cl ey cz fn)) (P fn)
abbrev NE(lt:CV):=B (gE lt) λG=>B (gd (lX G=true/\true=true)) λa=>mV ((So cl cz)) G []
abbrev SG(a:List (Str×Addr)):=B (B (gd ((0:Int)=0)) λa=>B (nJ 4 [(I 3)]) (NE cl cz)) λO=>B (mk (.list O)) λh1=>B (iG (pg cz [("one",5)])) (Pg h1 cz)
abbrev Ud(cz:cN):M fZ:=B (B (iG (pg cz [("memory",8),("one",5)])) (SG cl cz)) λu=>P (.ret (J u))
abbrev Rz(lw:CV):=B (gd (bN 4)) λa=>B (gd (bN gh.length)) λa=>P (gh++[(hY [hd,hz,h0,lw])])
abbrev Nd(hz:CV):=B (cJ gb (I 2)) λz=>B (nJ 2 [z]) λh0=>B (cJ gb (I 3)) (Rz hd hz h0 gh)
abbrev Um(gb:CV)(gh:List CV):=R true (B (cJ gb (I 0)) λhd=>B (cJ gb (I 1)) (Nd hd gb gh)) (P gh)
abbrev Ql(ly:CV):=B (cJ ly (T "regions")) λp=>B (gE p) λH=>B (gd (lX H=true/\true=true)) λa=>mV (Um) H []
abbrev Oc(a:List (Str×Addr)):=B (B (gd ((0:Int)=0)) λa=>B (lv 11 fx) Ql) λQ=>B (mk (.list Q)) λl0=>B (nJ 6 [l0]) λr=>cY .NotEq hy r
abbrev O8(k:CV):=B (dX k "told") λE=>B (eQ cl E.1 (E.2++[])) λhy=>B (iG (pg fx [])) (Oc hy fx)
abbrev Qq(fx:cN):M fZ:=gF (B (B (lc 8 fx) (O8 cl fx)) λe=>R e (P (.ret (J false))) (P (.next fx))) (Ud cl)
abbrev O6(h:CV):=B (cl (.st 721) [hx,h]) λma=>B (kM ma) λU=>R (!U) (P true) (P false)
abbrev Pv(f:cN):M fZ:=gF (B (B (B (lv 12 f) λmc=>cY .Eq mc (I 7)) λmd=>R md (B (lc 1 f) λhx=>B (lv 11 f) (O6 cl hx)) (P false)) λme=>R me (P (.ret (J false))) (P (.next f))) λmf=>P (.next mf)
abbrev OL(W:CV):=B (cl (.st 716) [gl,hw,W]) λmh=>B (kM mh) λmi=>R (!mi) (P true) (P false)
abbrev Rv(mj:Bool):=R mj (B (lc 1 fw) λgl=>B (lc 8 fw) λhw=>B (lv 11 fw) (OL cl gl hw)) (P false)
abbrev OE(fw:cN):M fZ:=gF (B (B (B (lv 12 fw) λc=>B (gd (bN 2)) λa=>cY .In c (hY [(I 5),(I 6)])) (Rv cl fw)) λl=>R l (P (.ret (J false))) (P (.next fw))) (Pv cl)
abbrev TI(mm:CV):=B (cl (.st 711) [gj,gk,mm]) λiq=>B (kM iq) λY=>R (!Y) (P true) (P false)
abbrev Oa(mo:Bool):=R mo (B (lc 1 fv) λgj=>B (lc 8 fv) λgk=>B (lv 11 fv) (TI cl gj gk)) (P false)
abbrev SJ(fv:cN):M fZ:=gF (B (B (B (lv 12 fv) λip=>B (gd (bN 2)) λa=>cY .In ip (hY [(I 3),(I 4)])) (Oa cl fv)) λmp=>R mp (P (.ret (J false))) (P (.next fv))) (OE cl)
abbrev QL(hc:CV):=B (cl (.st 706) [eg,eq,hc]) λhb=>B (kM hb) λmq=>R (!mq) (P true) (P false)
abbrev NY(v:Bool):=R v (B (lc 1 fa) λeg=>B (lc 8 fa) λeq=>B (lv 11 fa) (QL cl eg eq)) (P false)
abbrev SW(mr:Bool):=R mr (B (B (lc 1 fa) λep=>B (cl (.st 651) [ep,(I 3)]) λf8=>cY .Eq f8 (I 0)) (NY cl fa)) (P false)
abbrev TS(fa:cN):M fZ:=gF (B (B (B (lv 12 fa) λex=>cY .Eq ex (I 2)) (SW cl fa)) λo=>R o (P (.ret (J false))) (P (.next fa))) (SJ cl)
abbrev QE(ha:CV):=B (cl (.st 701) [fq,dn,ha]) λd4=>B (kM d4) λmt=>R (!mt) (P true) (P false)
abbrev NU(j:Bool):=R j (B (lc 1 (qd dq eh ek)) λfq=>B (lc 8 (qd dq eh ek)) λdn=>B (lv 11 (qd dq eh ek)) (QE cl fq dn)) (P false)
abbrev Iw(dq:CV):M fZ:=gF (B (B (B (lv 12 (qd dq eh ek)) λc8=>cY .Lt c8 (I 2)) (NU cl dq eh ek)) λmv=>R mv (P (.ret (J false))) (P (.next (qd dq eh ek)))) (TS cl)
abbrev Oo(a:Unit):=yd (λeh ek=>B (lc 1 (HV eh ek)) λcc=>B (cl (.st 651) [cc,(I 8)]) (Iw cl eh ek)) ht gp
abbrev Pp(mw:CV):=B (nJ 4 [mw]) λt=>B (gE t) λht=>B (gd (lX ht=true)) (Oo cl gp ht)
abbrev SQ(gp:cN):=gF (B (lc 1 gp) λmy=>B (cl (.st 651) [my,(I 8)]) λmz=>B (cP .Add (I 10) mz) (Pp cl gp)) (Qq cl)
abbrev SZ(ch:CV):=B (cl (.st 297) [ch]) λce=>B (nJ 5 [ce]) λdw=>B (lv 10 (DP bx cm c0 cr)) λd3=>cY .NotEq dw d3
abbrev SN(c0:CV):M fZ:=gF (B (B (lv 3 (DP bx cm c0 cr)) λde=>B (qM 1 [de]) (SZ cl bx cm c0 cr)) λik=>R ik (P (.ret (J false))) (P (.next (DP bx cm c0 cr)))) (SQ cl)
abbrev Rj(ed:CV):=B (gd (aD "maps"≠aD "regions")) λa=>B (mk (.sdict [(aD "maps",dd),(aD "regions",ed)])) (SN cl bx cm cr)
abbrev TK(a:Unit):=B (mk (.list [(hY [(T "context"),(I 65536),dj,(J false)]),(hY [(T "packet"),(I 131072),dm,(J true)]),(hY [cp,(I 262144),ci,(J true)])])) (Rj cl bx cm dd cr)
abbrev OX(dv:CV):=B (cP .Mult dv (I 512)) λci=>B (gd (bN 4)) λa=>B (gd (bN 3)) (TK cl bx cm dd dj dm cp ci cr)
abbrev QN(cp:CV):=B (lv 4 (Aj bx cm cr)) λec=>B (gd (bN 1)) λa=>B (mk (.list [ec])) (OX cl bx cm dd dj dm cp cr)
abbrev Ri(a:Unit):=B (lv 3 (Aj bx cm cr)) λdm=>B (gd (bN 4)) λa=>B (cl (.st 169) [(I 0)]) (QN cl bx cm dd dj dm cr)
abbrev OF(cm:CV):=B (lv 7 (Aj bx cm cr)) λdd=>B (lv 10 (Aj bx cm cr)) λdj=>B (gd (bN 4)) (Ri cl bx cm dd dj cr)
abbrev Pk(L:CV):=B (cP .FloorDiv gm L) λb=>B (cP .Mod b (I 256)) λeb=>B (gd (bN gz.length)) λa=>P (gz++[eb])
abbrev R_(a:Unit):=mV (λs gz=>R true (B (cP .Pow (I 256) s) (Pk gm gz)) (P gz)) hs gy
abbrev Qb(a:Unit):=B (nJ 4 [(I 4)]) λeo=>B (gE eo) λhs=>B (gd (lX hs=true/\true=true)) (R_ gm hs gy)
abbrev TZ(D:It):=B (gd (lX D=true/\true=true)) λa=>mV (λgm gy=>R true (B (gd ((0:Int)=0)) (Qb gm gy)) (P gy)) D []
abbrev T6(a:List (Str×Addr)):=B (B (gd ((0:Int)=0)) λa=>B (lv 9 (GG bx cr)) λq=>B (gE q) TZ) λx=>B (mk (.list x)) (OF cl bx cr)
abbrev Og(a:Unit):=B (mk (.list [(I 131072),du,(I 131072),(I 0),(I 0),(I 0)])) λbx=>B (iG (pg (GG bx cr) [])) (T6 cl bx cr)
abbrev QR(c7:CV):=B (qM 1 [c7]) λf7=>B (cP .Add (I 131072) f7) λdu=>B (gd (bN 6)) (Og cl du cr)
abbrev QC(d:CV):=B (cl (.st 304) [dl,d0,d]) λc6=>B (vy 8 c6 (DK a8 b1 cq)) λcr=>B (lv 3 cr) (QR cl cr)
abbrev PQ(dl:CV):=B (lv 7 (DK a8 b1 cq)) λd0=>B (lv 4 (DK a8 b1 cq)) (QC cl a8 b1 dl d0 cq)
abbrev N6(a:Unit):=B (mk (.idict [(0,b5),(5,dt)])) λb1=>B (lv 3 (DK a8 b1 cq)) λdi=>B (nJ 2 [di]) (PQ cl a8 b1 cq)
abbrev N4(fo:CV):=B (lc 5 (wt a8 cq)) λb5=>B (lv 6 (wt a8 cq)) λdt=>B (gd ((0:Int)≠5)) (N6 cl a8 b5 dt cq)
abbrev NP(w:CV):=B (nJ 2 [w]) λi=>B (eQ cl gr.1 (gr.2++[(lQ [1,0,0,0]),i,(I 0)])) (N4 cl a8 cq)
abbrev Qd(g:CV):=B (cl (.st 651) [g,(I 256)]) λdc=>B (gd (bN gv.length)) λa=>P (gv++[dc])
abbrev SI(a:Unit):=mV (λh4 gv=>R true (B (lc 3 (Yv a8 h4 cq)) (Qd cl gv)) (P gv)) hq []
abbrev Ni(cx:CV):=B (nJ 4 [cx]) λbw=>B (gE bw) λhq=>B (gd (lX hq=true/\true=true)) (SI cl a8 cq hq)
abbrev T4(a:List (Str×Addr)):=B (B (gd ((0:Int)=0)) λa=>B (lc 5 (wt a8 cq)) λdb=>B (dI db "value_width") (Ni cl a8 cq)) λy=>B (mk (.list y)) (NP cl a8 cq gr)
abbrev Ow(cg:CV):=B (dX cg "update") λgr=>B (iG (pg (wt a8 cq) [("pen",1)])) (T4 cl a8 cq gr)
abbrev Sl(a:Unit):=B (gd (2=2)) λa=>B (vy 5 a6 (Hq v4 a4 b3)) λcq=>B (lc 5 (wt a8 cq)) (Ow cl a8 cq)
abbrev Od(b9:CV):=B (mG cl 637 [(T "rows"),(I 5),(I 4),b9,(I 1)]) λa8=>B (gd (bN 2)) (Sl cl v4 a4 a6 a8 b3)
abbrev OC(a:Unit):=B (mk (.list [(I 8),(I 4),(I 7)])) λcv=>B (cl (.st 658) [b4,cv]) (Od cl v4 a4 a6 b3)
abbrev PI(ca:CV):=B (mG cl 594 [(T "array"),(I 0),(I 4),ca,(I 3)]) λa6=>B (lc 1 (Hq v4 a4 b3)) λb4=>B (gd (bN 3)) (OC cl v4 a4 a6 b4 b3)
abbrev Q0(a:Unit):=B (lc 1 (Hq v4 a4 b3)) λb8=>B (cl (.st 651) [b8,(I 17)]) λa7=>B (cP .Add (I 1) a7) (PI cl v4 a4 b3)
abbrev P0(a9:CV):=B (cl (.st 651) [a9,(I 256)]) λa4=>B (gd (bN 2)) λa=>B (gd (2=2)) (Q0 cl v4 a4 b3)
abbrev Sb(a2:CV):=B (cl (.st 651) [a2,(I 256)]) λa1=>B (gd (bN gs.length)) λa=>P (gs++[a1])
abbrev TR(F:It):=B (gd (lX F=true/\true=true)) λa=>mV (λw5 gs=>R true (B (lc 3 (VD w5 b3)) (Sb cl gs)) (P gs)) F []
abbrev NA(a:Unit):=B (lc 1 b3) λv7=>B (cl (.st 651) [v7,(I 12)]) λv8=>B (nJ 4 [v8]) λv9=>B (gE v9) (TR cl b3)
abbrev Tu(a:List (Str×Addr)):=B (B (gd ((0:Int)=0)) (NA cl b3)) λl3=>B (mk (.list l3)) λv4=>B (lc 1 b3) (P0 cl v4 b3)
abbrev On(v1:CV):=B (vy 1 v1 (Vv aw ao bp ay)) λb3=>B (iG (pg b3 [("pen",1)])) (Tu cl b3)
abbrev NH(bp:Addr):=B (iF (.cell none)) λao=>B (B (cl (.st 644) [aw]) (On cl aw ao bp ay)) iI
theorem Wv(n:Nat)(aw:CV):aM (n+1) (.st 726) [aw]=Z (B (iF (.cell none)) λay=>B (iF (.cell none)) (NH (aM n) aw ay)):=by kernel_rfl
theorem vE(n:Nat)(aa af ag ba:CV):aM (n+1) (.st 565) [aa,af,ag,ba]=Z (B (B (dX aa "index") (PL (aM n) ba af ag (I 0) aa)) iI):=by kernel_rfl
theorem vX(n:Nat)(aa bj:CV):aM (n+1) (.st 36) [aa,bj]=Z (B (B (dX (CV.ty 10) "__init__") λi=>B (eQ (aM n) i.1 (i.2++[aa,bj])) (au1 N aa bj)) iI):=by kernel_rfl
end Internal
end
section
set_option backward.match.sparseCases false
open PySem
namespace Internal
theorem aH{S:CS}:(S.put a o) a=some o:=by unfold oz;exact aC (if_pos rfl) rfl
theorem cC{S:CS}(h:b≠a)(e:S b=r):(S.put a o) b=r:=by unfold oz;refine aC (if_neg h) ?_;exact e
theorem gU{S:CS}(ha:S a=none)(e:S b=some x):(S.put a o) b=some x:=cC (λq=>by exact iH (ha▸q▸e)) e
theorem oG{S:CS}(ha:S a=some y)(e:S b=some x)(h:x≠y):(S.put a o) b=some x:=cC (λq=>by obtain rfl:=aE (ha▸q▸e);exact h rfl) e
theorem mJ{S:CS}(h:(S.put a o) b=none):S b=none/\b≠a:=by
 unfold oz at h;split at h;·contradiction
 ·rename_i q;exact⟨h,q⟩
theorem aQ{S:CS}(ha:S a=none):S.le (S.put a o):=λb b e=>gU ha e
theorem CS.le_refl{S:CS}:S.le S:=λa a e=>e
theorem CS.le_trans{S b p:CS}(x:S.le b)(y:b.le p):S.le p:=λa o e=>y a o (x a o e)
theorem pQ{S:CS}:(S.put a o).put a o'=S.put a o':=by funext b;unfold oz;split<;>rfl
theorem Wz(h:-BIG<=a/\a<=BIG):a.natAbs<2^1000:=by
 have h2:a.natAbs<=1267650600228229401496703205376:=aB4 h;exact aZ h2 (by decide+kernel)
section
variable{α β:Type}{E:KP}{S:CS}
noncomputable def LK(K:KP)(v:CV)(S:CS):Prop:=∃S',S'.le S/\K v S'
noncomputable def LE(E:KP)(e:CV)(S:CS):Prop:=∃S',S'.le S/\(∃a o,e=dG a/\S' a=some o)/\E e S'
theorem fT{m:M fZ}{K:KP}(h:∀(u:fZ->CS->Prop)(r:KP),(∀v b,LK K v b->u (.ret v) b)->(∀vs b,LK K .none b->u (.next vs) b)->(∀e b,LE E e b->r e b)->m u r S):M.less (m.bind iI) K E S:=h _ _ (λv b q=>q) (λv b q=>q) λe b q=>q
theorem qt{K:KP}(h:∀(u r:KP),(∀v b,LK K v b->u v b)->(∀e b,LE E e b->r e b)->m u r S):M.less m K E S:=h _ _ (λv b q=>q) λe b q=>q
theorem dS{g:cN->M fZ}{K:fZ->CS->Prop}(h:f (λr b=>(match r with|.next vs=>g vs|.ret w=>.pure (.ret w)) K E b) E S):gF f g K E S:=h
theorem xD{K:KP}(h:K v S):iI (.ret v) K E S:=h
theorem Fk{K:α->CS->Prop}(h1:t=true->a K E S)(h2:t=false->b K E S):wV t a b K E S:=⟨h1,h2⟩
theorem fV{K:α->CS->Prop}(h:t=true)(h1:a K E S):wV t a b K E S:=⟨λc=>h1,λq=>(by cases(h.symm.trans q))⟩
theorem eB{K:α->CS->Prop}(h:t=false)(h1:b K E S):wV t a b K E S:=⟨λq=>(by cases(q.symm.trans h)),λc=>h1⟩
theorem dP(h:Nat.ble n 100000=true):bN n:=Nat.le_of_ble_eq_true h
theorem fD{γ:Type}{f:Unit->M γ}{Q:γ->CS->Prop}(h:p)(k:f () Q E S):(gd p).bind f Q E S:=⟨h,k⟩
theorem kC{γ:Type}{f:α->M γ}{Q:γ->CS->Prop}(h:o=some a)(k:f a Q E S):(iG o).bind f Q E S:=by refine aC h ?_;exact k
theorem JH{γ:Type}{f:Addr->M γ}{Q:γ->CS->Prop}(k:∀a,S a=none->f a Q E (S.put a o)):(iF o).bind f Q E S:=k
theorem om{γ:Type}{f:CV->M γ}{Q:γ->CS->Prop}(k:∀a,S a=none->f (.ref a) Q E (S.put a o)):(mk o).bind f Q E S:=k
theorem cK{γ:Type}{f:CV->M γ}{Q:γ->CS->Prop}{vs:cN}(h:vs[i]?=some (some v))(k:f v Q E S):(lv i vs).bind f Q E S:=by unfold lv;refine aC h ?_;exact k
theorem tT{γ:Type}{f:CV->M γ}{Q:γ->CS->Prop}{vs:cN}(h:vs[i]?=some (some (.ref c)))(e:S c=some (.cell (some v)))(k:f v Q E S):(lc i vs).bind f Q E S:=by unfold lc;refine aC h ?_;exact⟨_,e,k⟩
theorem I4{γ:Type}{f:cN->M γ}{Q:γ->CS->Prop}{vs:cN}(h:vs[i]?=some (some (.ref c)))(e:S c=some (.cell o))(k:f vs Q E (S.put c (.cell (some v)))):(vy i v vs).bind f Q E S:=by unfold vy;refine aC h ?_;exact⟨_,e,k⟩
theorem qw{γ:Type}{f:Bool->M γ}{Q:γ->CS->Prop}(k:f b Q E S):(kM (.bool b)).bind f Q E S:=k
variable{K:KP}{a b:Int}
theorem jA{γ:Type}{f:CV->M γ}{Q:γ->CS->Prop}(k:f (.int (a+b)) Q E S):(cP .Add (.int a) (.int b)).bind f Q E S:=k
theorem wc{γ:Type}{f:CV->M γ}{Q:γ->CS->Prop}(k:f (.int (a-b)) Q E S):(cP .Sub (.int a) (.int b)).bind f Q E S:=k
theorem ri{γ:Type}{f:CV->M γ}{Q:γ->CS->Prop}(h:(-BIG<=a/\a<=BIG)/\(-BIG<=b/\b<=BIG))(k:f (.int (a*b)) Q E S):(cP .Mult (.int a) (.int b)).bind f Q E S:=⟨⟨Wz h.1,Wz h.2⟩,k⟩
theorem uo{γ:Type}{f:CV->M γ}{Q:γ->CS->Prop}(h:0<b/\b<=BIG)(k:f (.int (a/b)) Q E S):(cP .FloorDiv (.int a) (.int b)).bind f Q E S:=⟨⟨o68 h,Wz ⟨(dJ (bJ (by decide) h.1)),h.2⟩⟩,by refine aC (CI _ (dJ h.1)) ?_;exact k⟩
theorem wh{γ:Type}{f:CV->M γ}{Q:γ->CS->Prop}(h:0<b)(k:f (.int (a%b)) Q E S):(cP .Mod (.int a) (.int b)).bind f Q E S:=⟨(zj h),by refine aC (sy _ (dJ h)) ?_;exact k⟩
theorem G8{γ:Type}{f:CV->M γ}{Q:γ->CS->Prop}(ha:a.natAbs<2^100)(c:0<=b/\b<=40)(k:f (.int (a^b.toNat)) Q E S):(cP .Pow (.int a) (.int b)).bind f Q E S:=⟨⟨ha,c⟩,k⟩
theorem Yx{γ:Type}{f:CV->M γ}{Q:γ->CS->Prop}(ha:a.natAbs<2^100)(c:0<=b/\b<=200)(k:f (.int (a*2^b.toNat)) Q E S):(cP .LShift (.int a) (.int b)).bind f Q E S:=⟨⟨ha,c⟩,k⟩
theorem aL9{γ:Type}{f:CV->M γ}{Q:γ->CS->Prop}(c:0<=b/\b<=200)(k:f (.int (a/2^b.toNat)) Q E S):(cP .RShift (.int a) (.int b)).bind f Q E S:=⟨c,by refine aC (CI _ (dJ (Int.pow_pos (by decide)))) ?_;exact k⟩
theorem aU4{γ:Type}{f:CV->M γ}{Q:γ->CS->Prop}(k:f (.int (a%256)) Q E S):(cP .BitAnd (.int a) (.int 255)).bind f Q E S:=⟨rfl,by refine aC (sy _ (by decide)) ?_;exact k⟩
theorem Ll{γ:Type}{f:CV->M γ}{Q:γ->CS->Prop}(h:bN x.length/\bN y.length)(k:f (.str (x++y)) Q E S):(cP .Add (.str x) (.str y)).bind f Q E S:=⟨h,k⟩
theorem al6{γ:Type}{f:CV->M γ}{Q:γ->CS->Prop}(hl:S p=some (.list l))(hr:S q=some (.list r))(h:bN l.length/\bN r.length)(k:∀c,S c=none->f (.ref c) Q E (S.put c (.list (l++r)))):(cP .Add (.ref p) (.ref q)).bind f Q E S:=⟨_,hl,_,hr,h,k⟩
theorem KO{γ:Type}{f:CV->M γ}{Q:γ->CS->Prop}(hl:S p=some (.list [x]))(h:0<=b/\b<=4096)(k:∀c,S c=none->f (.ref c) Q E (S.put c (.list (bH b.toNat x)))):(cP .Mult (.ref p) (.int b)).bind f Q E S:=⟨_,hl,h,k⟩
variable{KB:Bool->CS->Prop}
theorem Cw{γ:Type}{f:Bool->M γ}{Q:γ->CS->Prop}(k:f (decide (a<b)) Q E S):(cY .Lt (.int a) (.int b)).bind f Q E S:=k
theorem MI{γ:Type}{f:Bool->M γ}{Q:γ->CS->Prop}(k:f (decide (a<=b)) Q E S):(cY .LtE (.int a) (.int b)).bind f Q E S:=k
theorem Y_{γ:Type}{f:Bool->M γ}{Q:γ->CS->Prop}(k:f (decide (b<a)) Q E S):(cY .Gt (.int a) (.int b)).bind f Q E S:=k
theorem YC{γ:Type}{f:Bool->M γ}{Q:γ->CS->Prop}(k:f (decide (b<=a)) Q E S):(cY .GtE (.int a) (.int b)).bind f Q E S:=k
theorem IC{γ:Type}{f:Bool->M γ}{Q:γ->CS->Prop}(k:f (tQ v) Q E S):(cY .Is v .none).bind f Q E S:=by rcases v<;>exact k
theorem qL{γ:Type}{f:Bool->M γ}{Q:γ->CS->Prop}(k:f (!tQ v) Q E S):(cY .IsNot v .none).bind f Q E S:=by rcases v<;>exact k
theorem Bd{γ:Type}{f:Bool->M γ}{Q:γ->CS->Prop}(k:(cY .Eq x y).bind (λt=>f (!t)) Q E S):(cY .NotEq x y).bind f Q E S:=k
theorem K8{γ:Type}{f:Bool->M γ}{Q:γ->CS->Prop}(k:(cY .In x y).bind (λt=>f (!t)) Q E S):(cY .NotIn x y).bind f Q E S:=k
theorem Kk(h:vf (yz n) l r=some true):yz (n+1) (.tup l) (.tup r)=some true:=h
theorem rb{f:CV->CV->Option Bool}{a b:CV}{l r:List CV}(h1:f a b=some true)(h2:vf f l r=some true):vf f (a::l) (b::r)=some true:=by
 show(f a b).bind (λx=>(vf f l r).bind λy=>some (x&&y))=_;refine aC h1 (aC h2 ?_);rfl
theorem cI_(h:i=j):yz (n+1) (.int i) (.int j)=some true:=congrArg some (decide_eq_true h)
theorem cI:yz (n+1) (.int i) (.int i)=some true:=cI_ rfl
theorem cS:yz (n+1) (.str i) (.str i)=some true:=congrArg some (decide_eq_true rfl)
theorem cB:yz (n+1) (.bytes i) (.bytes i)=some true:=congrArg some (decide_eq_true rfl)
theorem cO:yz (n+1) (.bool i) (.bool i)=some true:=congrArg some (decide_eq_true rfl)
theorem ar6(e:l.length=r.length)(h:vf (yz 4) l r=some true):PB l r=some true:=(if_pos e).trans h
theorem zG{γ:Type}{f:Bool->M γ}{Q:γ->CS->Prop}(h:yz 4 x y=some t)(k:f t Q E S):(cY .Eq x y).bind f Q E S:=by
 have h2:(iG (yz 4 x y)).bind f Q E S:=kC h k;rcases x<;>first|exact h2|exact iH h|(rcases y<;>first|exact h2|exact iH h)
theorem AH{γ:Type}{f:Bool->M γ}{Q:γ->CS->Prop}(k:f (decide (a=b)) Q E S):(cY .Eq (.int a) (.int b)).bind f Q E S:=zG rfl k
theorem vZ{γ:Type}{f:Bool->M γ}{Q:γ->CS->Prop}(k:f (decide (x=y)) Q E S):(cY .Eq (.str x) (.str y)).bind f Q E S:=zG rfl k
theorem zA{γ:Type}{f:Bool->M γ}{Q:γ->CS->Prop}(hl:S p=some (.list l))(hr:S q=some (.list r))(h:PB l r=some t)(k:f t Q E S):(cY .Eq (.ref p) (.ref q)).bind f Q E S:=⟨_,hl,_,hr,kC h k⟩
theorem aj9{γ:Type}{f:Bool->M γ}{Q:γ->CS->Prop}(hl:S p=some (.list l))(k:f false Q E S):(cY .Eq (.str x) (.ref p)).bind f Q E S:=⟨_,hl,k⟩
theorem KZ{γ:Type}{f:Bool->M γ}{Q:γ->CS->Prop}(hs:nF x=true)(h:vH x l=some t)(k:f t Q E S):(cY .In x (.tup l)).bind f Q E S:=by
 show((match nF x with|true=>iG (vH x l)|false=>.fail:M Bool)).bind f Q E S;refine aC hs ?_;exact kC h k
theorem ah4{γ:Type}{f:Bool->M γ}{Q:γ->CS->Prop}(hl:S p=some (.list l))(hs:nF x=true)(h:vH x l=some t)(k:f t Q E S):(cY .In x (.ref p)).bind f Q E S:=by
 refine⟨_,hl,?_⟩;show((match nF x with|true=>iG (vH x l)|false=>.fail:M Bool)).bind f Q E S;refine aC hs ?_;exact kC h k
theorem an1{γ:Type}{f:Bool->M γ}{Q:γ->CS->Prop}(hl:S p=some (.idict es))(k:f (pj a es).isSome Q E S):(cY .In (.int a) (.ref p)).bind f Q E S:=⟨_,hl,k⟩
variable{v:CV}{p:Addr}{KU:Unit->CS->Prop}
theorem nD{γ:Type}{f:CV->M γ}{Q:γ->CS->Prop}(h:0<=a/\a<2^60)(g:l[a.toNat]?=some v)(k:f v Q E S):(cJ (.tup l) (.int a)).bind f Q E S:=⟨h,kC g k⟩
theorem oY{γ:Type}{f:CV->M γ}{Q:γ->CS->Prop}(hl:S p=some (.list l))(h:0<=a/\a<2^60)(g:l[a.toNat]?=some v)(k:f v Q E S):(cJ (.ref p) (.int a)).bind f Q E S:=by
 refine⟨_,hl,⟨(aG (by decide) h.1),h.2⟩,kC ?_ k⟩;unfold A5;refine aC (if_pos h.1) (aC (if_pos (o54 ((aR.mp g).1))) ?_);exact g
theorem SS{γ:Type}{f:CV->M γ}{Q:γ->CS->Prop}(hl:S p=some (.list l))(h:-(2^60)<=a/\a<0)(ha:-(l.length:Int)<=a)(g:l[((l.length:Int)+a).toNat]?=some v)(k:f v Q E S):(cJ (.ref p) (.int a)).bind f Q E S:=by
 refine⟨_,hl,⟨h.1,(aT h.2 (by decide))⟩,kC ?_ k⟩;unfold A5;exact aC (if_neg (aU5 h)) (aC (if_pos ha) g)
theorem XX{γ:Type}{f:CV->M γ}{Q:γ->CS->Prop}(hl:S p=some (.barr l))(h:0<=a/\a<2^60)(g:l[a.toNat]?=some x)(k:f (.int x.toNat) Q E S):(cJ (.ref p) (.int a)).bind f Q E S:=⟨_,hl,h,kC (congrArg _ g) k⟩
theorem YS{γ:Type}{f:CV->M γ}{Q:γ->CS->Prop}(h:0<=a/\bN l.length)(g:l[a.toNat]?=some x)(k:f (.int x.toNat) Q E S):(cJ (.bytes l) (.int a)).bind f Q E S:=⟨h,kC (congrArg _ g) k⟩
theorem Dt{γ:Type}{f:CV->M γ}{Q:γ->CS->Prop}(hl:S p=some (.idict es))(g:pj a es=some v)(k:f v Q E S):(cJ (.ref p) (.int a)).bind f Q E S:=⟨_,hl,kC g k⟩
theorem DJ{γ:Type}{f:CV->M γ}{Q:γ->CS->Prop}(hl:S p=some (.sdict es))(g:dA x es=some v)(k:f v Q E S):(cJ (.ref p) (.str x)).bind f Q E S:=⟨_,hl,kC g k⟩
theorem HQ{γ:Type}{f:Unit->M γ}{Q:γ->CS->Prop}(hl:S p=some (.list l))(h:0<=a/\a<l.length/\a<2^60)(k:f () Q E (S.put p (.list (l.set a.toNat v)))):(lJ (.ref p) (.int a) v).bind f Q E S:=⟨_,hl,h,k⟩
theorem an6{γ:Type}{f:Unit->M γ}{Q:γ->CS->Prop}(hl:S p=some (.idict es))(h:es.length<=1000)(k:f () Q E (S.put p (.idict (xH a v es)))):(lJ (.ref p) (.int a) v).bind f Q E S:=⟨_,hl,h,k⟩
theorem UE{γ:Type}{f:Unit->M γ}{Q:γ->CS->Prop}(hl:S p=some (.sdict es))(h:es.length<=1000)(k:f () Q E (S.put p (.sdict (nV x v es)))):(lJ (.ref p) (.str x) v).bind f Q E S:=⟨_,hl,h,k⟩
theorem PU{γ:Type}{f:CV->M γ}{Q:γ->CS->Prop}(h:0<=a/\a<2^60)(k:∀c,S c=none->f (.ref c) Q E (S.put c (.list ((ns.map eD).take a.toNat)))):(sD (.script ns) none (some (.int a))).bind f Q E S:=⟨h,k⟩
theorem HS{γ:Type}{f:CV->M γ}{Q:γ->CS->Prop}(hl:S p=some (.list l))(hf:bN l.length)(h:0<=a/\a<2^60)(k:∀c,S c=none->f (.ref c) Q E (S.put c (.list (l.take a.toNat)))):(sD (.ref p) none (some (.int a))).bind f Q E S:=by
 refine⟨_,hl,hf,⟨by decide,by decide⟩,h,?_⟩;intro c g;have e:Ed l (min (cA 0) l.length) (min a.toNat l.length)=l.take a.toNat:=by
  unfold Ed;simp only[Int.toNat_zero,ad9,r8,ae9];refine qP FY ?_;simp
 refine aC e ?_;exact k c g
theorem RU{γ:Type}{f:CV->M γ}{Q:γ->CS->Prop}(hl:S p=some (.barr l))(hf:bN l.length)(ha:0<=a/\a<2^60)(d:0<=b/\b<2^60)(w:a<=b/\b<=l.length)(k:∀c,S c=none->f (.ref c) Q E (S.put c (.barr ((l.drop a.toNat).take (b-a).toNat)))):(sD (.ref p) (some (.int a)) (some (.int b))).bind f Q E S:=by
 refine⟨_,hl,hf,ha,d,?_⟩;intro c g;have e:Ed l (min a.toNat l.length) (min b.toNat l.length)=(l.drop a.toNat).take (b-a).toNat:=by
  unfold Ed;refine aC (fX (o70 w)) (aC (fX (o69 w)) ?_);congr 1;exact aF3 ha
 refine aC e ?_;exact k c g
theorem ZR(hl:S p=some (.barr l))(hf:bN l.length)(ha:0<=a/\a<2^60)(d:0<=b/\b<2^60)(w:a<=b/\b<=l.length)(e:(c.length:Int)=b-a)(k:KU () (S.put p (.barr (l.take a.toNat++c++l.drop b.toNat)))):pY (.ref p) (some (.int a)) (some (.int b)) (.bytes c) KU E S:=by exact⟨_,hl,ha,d,aC (fX (o69 w):min a.toNat l.length=a.toNat) (aC (fX (o70 w)) (⟨⟨(Int.toNat_le_toNat (vV (e▸aN _))),aU1 ha e,hf⟩,k⟩))⟩
noncomputable def GY:CV->Bool|.bi _=>false|_=>true
theorem UI(h:GY v=true)(k:K v S):zc v K E S:=by rcases v<;>first|exact k|contradiction
theorem uq(h1:S p=some (.inst c d))(h2:S d=some (.flds es))(hx:dA x o_=some i)(e:dU c x=none)(g:dA x es=some v)(hp:GY v=true)(k:K v S):dI (.ref p) x K E S:=by
 unfold dI;refine aC hx ⟨_,h1,?_⟩;show(match dU c x with|none=>(JY d).bind λf=>(match f with|.flds es=>(iG (dA x es)).bind zc|_=>.fail)|some _=>pS) K E S;exact aC e ⟨_,h2,kC g (UI hp k)⟩
theorem Xo(h1:S p=some (.exc c (some d)))(h2:S d=some (.flds es))(hx:dA x o_=some i)(e:dU c x=none)(g:dA x es=some v)(hp:GY v=true)(k:K v S):dI (.ref p) x K E S:=by
 unfold dI;refine aC hx ⟨_,h1,?_⟩;show(match dU c x with|none=>(JY d).bind λf=>(match f with|.flds es=>(iG (dA x es)).bind zc|_=>.fail)|some _=>pS) K E S;exact aC e ⟨_,h2,kC g (UI hp k)⟩
theorem sX(h1:S p=some (.inst c d))(h2:S d=some (.flds es))(hx:dA x o_=some i)(e:dU c x=none)(hl:es.length<=100)(k:KU () (S.put d (.flds (nV x v es)))):fR (.ref p) x v KU E S:=by
 unfold fR;refine aC hx ⟨_,h1,?_⟩;show(match dU c x with|none=>(JY d).bind λf=>(match f with|.flds es=>(gd (es.length<=100)).bind λa=>Ec d (.flds (nV x v es))|_=>.fail)|some _=>pS) KU E S;exact aC e ⟨_,h2,hl,k⟩
theorem Xx(h1:S p=some (.exc c (some d)))(h2:S d=some (.flds es))(hx:dA x o_=some i)(e:dU c x=none)(hl:es.length<=100)(k:KU () (S.put d (.flds (nV x v es)))):fR (.ref p) x v KU E S:=by
 unfold fR;refine aC hx ⟨_,h1,?_⟩;show(match dU c x with|none=>(JY d).bind λf=>(match f with|.flds es=>(gd (es.length<=100)).bind λa=>Ec d (.flds (nV x v es))|_=>.fail)|some _=>pS) KU E S;exact aC e ⟨_,h2,hl,k⟩
theorem WN(h1:S p=some (.exc c none))(hx:dA x o_=some i)(e:dU c x=none)(k:∀d,S d=none->KU () (((S.put d (.flds [])).put p (.exc c (some d))).put d (.flds [(x,v)]))):fR (.ref p) x v KU E S:=by
 unfold fR;refine aC hx ⟨_,h1,?_⟩;show(match dU c x with|none=>(iF (.flds [])).bind λd=>(Ec p (.exc c (some d))).bind λa=>Ec d (.flds [(x,v)])|some _=>pS) KU E S;exact aC e k
variable{KM:CV×List CV->CS->Prop}{cl:fW}{args:List CV}
theorem pM(h1:S p=some (.inst c d))(h2:S d=some (.flds es))(hn:dA x es=none)(e:dU c x=some g)(k:KM (.st g,[.ref p]) S):dX (.ref p) x KM E S:=by
 refine⟨_,h1,_,h2,?_⟩;show(match dA x es,dU c x with|none,some g=>jR ((CV.st g,[dG p]):CV×List CV)|_,_=>.fail) KM E S;refine aC hn (aC e ?_);exact k
theorem Pq(h1:S p=some (.list l))(k:KM (.bi 11,[.ref p]) S):dX (.ref p) "append" KM E S:=by exact⟨_,h1,aC (show dA "append" [gs "insert" (.bi 6),gs "append" (.bi 11)]=some (.bi 11)from by kernel_rfl) k⟩
theorem QI(h1:S p=some (.list l))(k:KM (.bi 6,[.ref p]) S):dX (.ref p) "insert" KM E S:=by exact⟨_,h1,aC (show dA "insert" [gs "insert" (.bi 6),gs "append" (.bi 11)]=some (.bi 6)from by kernel_rfl) k⟩
theorem Km(h1:S p=some (.idict es))(k:KM (.bi 7,[.ref p]) S):dX (.ref p) "get" KM E S:=by exact⟨_,h1,aC (show dA "get" [gs "get" (.bi 7),gs "values" (.bi 8)]=some (.bi 7)from by kernel_rfl) k⟩
theorem Jp(h1:S p=some (.idict es))(k:KM (.bi 8,[.ref p]) S):dX (.ref p) "values" KM E S:=by exact⟨_,h1,aC (show dA "values" [gs "get" (.bi 7),gs "values" (.bi 8)]=some (.bi 8)from by kernel_rfl) k⟩
theorem eS(h:i_ g fY=none)(k:cl (.st g) args K E S):eQ cl (.st g) args K E S:=by
 show(match i_ g fY with|some _=>mG cl g args|none=>cl (.st g) args) K E S;refine aC h ?_;exact k
theorem yh(k:qM g args K E S):eQ cl (.bi g) args K E S:=k
theorem qX{γ:Type}{f:CV->M γ}{Q:γ->CS->Prop}(hl:S p=some (.list l))(h:bN l.length)(k:f (.int l.length) Q E S):(qM 1 [.ref p]).bind f Q E S:=⟨_,hl,h,k⟩
theorem UP{γ:Type}{f:CV->M γ}{Q:γ->CS->Prop}(hl:S p=some (.barr l))(h:bN l.length)(k:f (.int l.length) Q E S):(qM 1 [.ref p]).bind f Q E S:=⟨_,hl,h,k⟩
theorem Ce{γ:Type}{f:CV->M γ}{Q:γ->CS->Prop}(h:bN l.length)(k:f (.int l.length) Q E S):(qM 1 [.bytes l]).bind f Q E S:=⟨h,k⟩
theorem at6{γ:Type}{f:CV->M γ}{Q:γ->CS->Prop}(hl:S p=some (.iset n))(h:n<=1000)(k:f (.int n) Q E S):(qM 1 [.ref p]).bind f Q E S:=⟨_,hl,h,k⟩
theorem aq0{γ:Type}{f:CV->M γ}{Q:γ->CS->Prop}(k:f (.int (if a<0 then-a else a)) Q E S):(qM 2 [.int a]).bind f Q E S:=k
theorem ZY{γ:Type}{f:CV->M γ}{Q:γ->CS->Prop}(hl:S p=some (.list l))(h:u4 l=some q)(k:f (.int q.sum) Q E S):(qM 3 [.ref p]).bind f Q E S:=⟨_,hl,kC h k⟩
theorem aM3{γ:Type}{f:CV->M γ}{Q:γ->CS->Prop}(k:f (.int (if b>a then b else a)) Q E S):(qM 4 [.int a,.int b]).bind f Q E S:=k
theorem Vy{γ:Type}{f:CV->M γ}{Q:γ->CS->Prop}(hl:S p=some (.idict es))(h:es.length<64)(k:∀ns:List Int,ns.Perm (es.map (·.1))->ns.Pairwise (·<=·)->∀c,S c=none->f (.ref c) Q E (S.put c (.list (ns.map .int)))):(qM 5 [.ref p]).bind f Q E S:=⟨_,hl,h,k⟩
theorem R5{γ:Type}{f:CV->M γ}{Q:γ->CS->Prop}(hl:S p=some (.list l))(h:0<=a/\a<=l.length/\bN l.length)(k:f .none Q E (S.put p (.list (l.take a.toNat++v::l.drop a.toNat)))):(qM 6 [.ref p,.int a,v]).bind f Q E S:=⟨_,hl,h,k⟩
theorem aN3{γ:Type}{f:CV->M γ}{Q:γ->CS->Prop}(hl:S p=some (.idict es))(k:f ((pj a es).getD .none) Q E S):(qM 7 [.ref p,.int a]).bind f Q E S:=⟨_,hl,k⟩
theorem au6{γ:Type}{f:CV->M γ}{Q:γ->CS->Prop}(hl:S p=some (.idict es))(k:f (.dvals p) Q E S):(qM 8 [.ref p]).bind f Q E S:=⟨_,hl,k⟩
theorem an2{γ:Type}{f:CV->M γ}{Q:γ->CS->Prop}(hl:S p=some (.list l))(h:vv l=some q)(h2:2<=l.length/\bN q.flatten.length)(k:f (.bytes q.flatten) Q E S):(qM 10 [.bytes [],.ref p]).bind f Q E S:=⟨_,hl,kC h ⟨h2,k⟩⟩
theorem Oq{γ:Type}{f:CV->M γ}{Q:γ->CS->Prop}(hl:S p=some (.list l))(h:bN l.length)(k:f .none Q E (S.put p (.list (l++[v])))):(qM 11 [.ref p,v]).bind f Q E S:=⟨_,hl,h,k⟩
theorem AR{γ:Type}{f:CV->M γ}{Q:γ->CS->Prop}(k:f (.int a) Q E S):(nJ 1 [.int a]).bind f Q E S:=k
theorem HU{γ:Type}{f:CV->M γ}{Q:γ->CS->Prop}(h:bN l.length)(k:f (.bytes l) Q E S):(nJ 2 [.bytes l]).bind f Q E S:=⟨h,k⟩
theorem xG{γ:Type}{f:CV->M γ}{Q:γ->CS->Prop}(hl:S p=some (.barr l))(h:bN l.length)(k:f (.bytes l) Q E S):(nJ 2 [.ref p]).bind f Q E S:=⟨_,hl,h,k⟩
theorem qZ{γ:Type}{f:CV->M γ}{Q:γ->CS->Prop}(hl:S p=some (.list l))(hf:bN l.length)(hq:rE l=some q)(h:bN q.length)(k:f (.bytes q) Q E S):(nJ 2 [.ref p]).bind f Q E S:=⟨_,hl,hf,kC hq ⟨h,k⟩⟩
theorem Yp{γ:Type}{f:CV->M γ}{Q:γ->CS->Prop}(h:0<=a/\a<=4096)(k:∀c,S c=none->f (.ref c) Q E (S.put c (.barr (bH a.toNat 0)))):(nJ 3 [.int a]).bind f Q E S:=⟨h,k⟩
theorem K7{γ:Type}{f:CV->M γ}{Q:γ->CS->Prop}(h:bN l.length)(k:∀c,S c=none->f (.ref c) Q E (S.put c (.barr l))):(nJ 3 [.bytes l]).bind f Q E S:=⟨h,k⟩
theorem Mi{γ:Type}{f:CV->M γ}{Q:γ->CS->Prop}(hl:S p=some (.list l))(hf:bN l.length)(hq:rE l=some q)(h:bN q.length)(k:∀c,S c=none->f (.ref c) Q E (S.put c (.barr q))):(nJ 3 [.ref p]).bind f Q E S:=⟨_,hl,hf,kC hq ⟨h,k⟩⟩
theorem qQ{γ:Type}{f:CV->M γ}{Q:γ->CS->Prop}(h:a.natAbs<2^60)(k:f (.rng a) Q E S):(nJ 4 [.int a]).bind f Q E S:=⟨h,k⟩
theorem Lh{γ:Type}{f:CV->M γ}{Q:γ->CS->Prop}(h:bN l.length)(k:∀c,S c=none->f (.ref c) Q E (S.put c (.list (l.map λx=>.int x.toNat)))):(nJ 5 [.bytes l]).bind f Q E S:=⟨h,k⟩
theorem LA{γ:Type}{f:CV->M γ}{Q:γ->CS->Prop}(hl:S p=some (.list l))(h:bN l.length)(k:f (.tup l) Q E S):(nJ 6 [.ref p]).bind f Q E S:=⟨_,hl,h,k⟩
theorem aa3{γ:Type}{f:CV->M γ}{Q:γ->CS->Prop}(h:a.natAbs<2^60)(k:f (.str (yt a)) Q E S):(nJ 8 [.int a]).bind f Q E S:=⟨h,k⟩
theorem unpack_{γ:Type}{f:List CV->M γ}{Q:γ->CS->Prop}(h:l.length=n)(k:f l Q E S):(nM n (.tup l)).bind f Q E S:=⟨h,k⟩
variable{KI:It->CS->Prop}
theorem mQ{γ:Type}{f:It->M γ}{Q:γ->CS->Prop}(h:S p=some (.list l))(k:f (.list p 0) Q E S):(gE (.ref p)).bind f Q E S:=⟨_,h,k⟩
theorem Lz{γ:Type}{f:It->M γ}{Q:γ->CS->Prop}(k:f (.octs l 0) Q E S):(gE (.bytes l)).bind f Q E S:=k
theorem qR{γ:Type}{f:It->M γ}{Q:γ->CS->Prop}(h:a.natAbs<2^60)(k:f (.rng 0 a) Q E S):(gE (.rng a)).bind f Q E S:=⟨h,k⟩
theorem XF{γ:Type}{f:It->M γ}{Q:γ->CS->Prop}(hl:S p=some (.idict es))(k:f (.dvals p 0 es.length) Q E S):(gE (.dvals p)).bind f Q E S:=⟨_,hl,k⟩
theorem Hm{γ:Type}{f:It->M γ}{Q:γ->CS->Prop}(k:f (.enumL p 0) Q E S):(tJ (.list p 0)).bind f Q E S:=k
theorem LI{γ:Type}{f:It->M γ}{Q:γ->CS->Prop}(k:f (.enumO l 0) Q E S):(tJ (.octs l 0)).bind f Q E S:=k
end
structure Ax(it:Nat->It)(n:Nat)(f:Nat->CV)(I:CS->Prop):Prop where
 go:∀{i S}{K:Option (CV×It)->CS->Prop}{E},i<n->I S->K (some (f i,it (i+1))) S->uf (it i) K E S
 stop:∀{S}{K:Option (CV×It)->CS->Prop}{E},I S->K none S->uf (it n) K E S
theorem nr{D:Type}{body:CV->D->M D}{it:Nat->It}{n:Nat}{f:Nat->CV}{I:CS->Prop}(T:Ax it n f I)(P:Nat->D->CS->Prop)(j:∀i s S,P i s S->I S){s:D}{S:CS}{K:D->CS->Prop}{E:KP}(h0:P 0 s S)(step:∀i s S(K:D->CS->Prop),i<n->P i s S->(∀s' b,P (i+1) s' b->K s' b)->body (f i) s K (λa a=>False) S)(done:∀s S,P n s S->K s S):mV body (it 0) s K E S:=by
 refine⟨n+1,?_⟩;have go:∀k i s S,i+k=n->P i s S->Et body (k+1) (it i) s K (λa a=>False) S:=by
  intro k;induction k with |zero=> intro i s S e h;have:i=n:=o73 e;cases this;exact T.stop (j _ _ _ h) (done s S h)|succ k l=> intro i s S e h;exact T.go (o13 e) (j _ _ _ h) (step i s S _ (o13 e) h λs' b h'=>l (i+1) s' b (o72 e) h')
 exact go n 0 s S o71 h0
theorem A9{body:CV->cN->M fZ}{it:Nat->It}{f:Nat->CV}{I:CS->Prop}(T:Ax it n f I)(P:Nat->cN->CS->Prop)(l:∀i s S,P i s S->I S){vs:cN}{S:CS}{K:fZ->CS->Prop}{E:KP}(h0:P 0 vs S)(step:∀i vs S(u:fZ->CS->Prop),i<n->P i vs S->(∀j b,P (i+1) j b->u (.next j) b)->(∀w b,K (.ret w) b->u (.ret w) b)->body (f i) vs u (λa a=>False) S)(done:∀vs S,P n vs S->K (.next vs) S):yd body (it 0) vs K E S:=by
 refine⟨n+1,?_⟩;have go:∀k i vs S,i+k=n->P i vs S->Jl body (k+1) (it i) vs K (λa a=>False) S:=by
  intro k;induction k with |zero=> intro i s S e h;have:i=n:=o73 e;cases this;exact T.stop (l _ _ _ h) (done s S h)|succ k m=> intro i s S e h;exact T.go (o13 e) (l _ _ _ h) (step i s S _ (o13 e) h (λs' b h'=>m (i+1) s' b (o72 e) h') λw b h'=>h')
 exact go n 0 vs S o71 h0
theorem Ml{T:cN->M Bool}{body:cN->M fZ}(n:Nat)(P:Nat->cN->CS->Prop){vs:cN}{S:CS}{K:fZ->CS->Prop}{E:KP}(h0:P n vs S)(step:∀k vs S(u:Bool->CS->Prop),P k vs S->(∀t b,(t=true->∃j,k=j+1/\∀B:fZ->CS->Prop,(∀i p,P j i p->B (.next i) p)->body vs B (λa a=>False) b)->(t=false->K (.next vs) b)->u t b)->T vs u (λa a=>False) S):AN T body vs K E S:=by refine⟨n+1,?_⟩;induction n generalizing vs S with |zero=> refine step 0 vs S _ h0 λt b h1 h2=>⟨λht=>?_,λht=>h2 ht⟩;exact aY (h1 ht) λj e a=>absurd e.symm (Nat.succ_ne_zero j)|succ n l=> refine step (n+1) vs S _ h0 λt b h1 h2=>⟨λht=>?_,λht=>h2 ht⟩;refine aY (h1 ht) λj e c=>?_;have:j=n:=aK5 e;clear step h0 h1 h2 ht e;subst this;exact c _ λi p h=>l h
theorem qU:Ax (.list p) l.length (λi=>l.getD i .none) (λS=>S p=some (.list l)):=⟨λ{i S K E}hi hS k=>⟨_,hS,by
  show(match l[i]? with|some v=>jR (some (v,It.list p (i+1)))|none=>.pure none) K E S;refine aC (aF hi) ?_;have:l.getD i .none=l[i]:=by refine aC (aS) (aC (aF hi) ?_);rfl
  rw[this]at k;exact k⟩,λ{S K E}hS k=>⟨_,hS,by
  show(match l[l.length]? with|some v=>jR (some (v,It.list p (l.length+1)))|none=>.pure none) K E S;refine aC (ny (bM _)) ?_;exact k⟩⟩
theorem HF:Ax (.enumL p) l.length (λi=>.tup [.int i,l.getD i .none]) (λS=>S p=some (.list l)):=⟨λ{i S K E}hi hS k=>⟨_,hS,by
  show(match l[i]? with|some v=>jR (some (hY [.int i,v],It.enumL p (i+1)))|none=>.pure none) K E S;refine aC (aF hi) ?_;have:l.getD i .none=l[i]:=by refine aC (aS) (aC (aF hi) ?_);rfl
  rw[this]at k;exact k⟩,λ{S K E}hS k=>⟨_,hS,by
  show(match l[l.length]? with|some v=>jR (some (hY [.int l.length,v],It.enumL p (l.length+1)))|none=>.pure none) K E S;refine aC (ny (bM _)) ?_;exact k⟩⟩
theorem UV:Ax (.enumO l) l.length (λi=>.tup [.int i,.int (l.getD i 0).toNat]) (λa=>True):=⟨λ{i S K E}hi _ k=>by
  show(match l[i]? with|some c=>jR (some (hY [.int i,.int c.toNat],It.enumO l (i+1)))|none=>.pure none) K E S;refine aC (aF hi) ?_;have:l.getD i 0=l[i]:=by refine aC (aS) (aC (aF hi) ?_);rfl
  rw[this]at k;exact k,λ{S K E}_ k=>by
  show(match l[l.length]? with|some c=>jR (some (hY [.int l.length,.int c.toNat],It.enumO l (l.length+1)))|none=>.pure none) K E S;refine aC (ny (bM _)) ?_;exact k⟩
theorem ur{n:Nat}:Ax (λi=>.rng i n) n (λi=>.int i) (λa=>True):=⟨λ{i S K E}hi _ k=>by
  show(match decide ((i:Int)<n)with|true=>jR (some (eD i,It.rng ((i:Int)+1) n))|false=>.pure none) K E S;refine aC (decide_eq_true (bV.mpr hi)) ?_;exact k,λ{S K E}_ k=>by
  show(match decide ((n:Int)<n)with|true=>jR (some (eD n,It.rng ((n:Int)+1) n))|false=>.pure none) K E S;refine aC (decide_eq_false aS1) ?_;exact k⟩
theorem ao1:Ax (λi=>.dvals p i es.length) es.length (λi=>(es.getD i (0,.none)).2) (λS=>S p=some (.idict es)):=⟨λ{i S K E}hi hS k=>⟨_,hS,rfl,by
  show(match es[i]? with|some e=>jR (some (e.2,It.dvals p (i+1) es.length))|none=>.pure none) K E S;refine aC (aF hi) ?_;have:es.getD i (0,.none)=es[i]:=by refine aC (aS) (aC (aF hi) ?_);rfl
  rw[this]at k;exact k⟩,λ{S K E}hS k=>⟨_,hS,rfl,by
  show(match es[es.length]? with|some e=>jR (some (e.2,It.dvals p (es.length+1) es.length))|none=>.pure none) K E S;refine aC (ny (bM _)) ?_;exact k⟩⟩
theorem sE{vs:cN}{K:cN->CS->Prop}{E:KP}{S:CS}(h:pT r q (vs.set i (some v)) K E S):pT ((i,true)::r) (v::q) vs K E S:=h
theorem BV{vs:cN}{K:cN->CS->Prop}{E:KP}{S:CS}(h:K vs S):pT [] [] vs K E S:=h
end Internal
end
section
open PySem
namespace Internal
section
variable{n:Nat}{K:KP}{E:KP}{S:CS}
noncomputable def gJ(w:Int):Int:=(w+7)/8*8+8
theorem u5(hw:0<=w/\w<=1000000)(k:K (.int (gJ w)) S):aM (n+1) (.st 134) [.int w] K E S:=by
 refine aC (Dm _ _) ?_;refine fT (λl m q x P=>jA (uo (by decide) (ri (⟨Zp hw.1 hw.2 (by decide),by decide⟩) (jA (q _ _ ?_)))));exact⟨S,CS.le_refl,k⟩
theorem n7(hw:0<=w/\w<=1000000):w+8<=gJ w/\gJ w<=w+15/\8<=gJ w:=aN1 hw
noncomputable def hZ(number slot w:Int):Int:=16777216+1048576*number+slot*gJ w
theorem sM(hw:0<=w/\w<=1000000)(hn:0<=number/\number<=1000000)(hs:0<=slot/\slot<=1000000)(k:K (.int (hZ number slot w)) S):aM (n+2) (.st 141) [.int number,.int slot,.int w] K E S:=by
 have c:=n7 hw;refine aC (A_ _ _ _ _) ?_;refine fT (λl m q x P=>ri (⟨⟨aN _,aN _⟩,⟨aG (by decide) hn.1,aG hn.2 (by decide)⟩⟩) (jA ?_));exact u5 hw (ri (aB9 hs hw c) (jA (q _ _ ⟨S,CS.le_refl,k⟩)))
theorem xq(hw:0<=w/\w<=1000000)(k:K (.tup [.int ((place-16777216)/1048576),.int ((place-16777216)%1048576/gJ w),.int ((place-16777216)%1048576%gJ w)]) S):aM (n+2) (.st 148) [.int place,.int w] K E S:=by
 have c:=n7 hw;refine aC (B_ _ _ _) ?_;refine fT (λl m q x P=>wc (uo (by decide) (wc (wh (by decide) (fD (dP rfl) (fD (by decide) ?_))))));refine u5 hw ?_;exact uo (⟨aT (by decide) c.2.2,by lia⟩) (u5 hw (wh (aT (by decide) c.2.2) (fD (dP rfl) (q _ _ ⟨S,CS.le_refl,k⟩))))
theorem tV(hf:0<=f/\f<=1000)(k:K (.int (262144+4096*f)) S):aM (n+1) (.st 155) [.int f] K E S:=by
 refine aC (BS _ _) ?_;refine fT (λl m q w P=>ri (⟨⟨aN _,aN _⟩,⟨aG (by decide) hf.1,aG hf.2 (by decide)⟩⟩) (jA (q _ _ ?_)));exact⟨S,CS.le_refl,k⟩
theorem ER(hf:0<=f/\f<=1000)(k:K (.int (262144+4096*f+512)) S):aM (n+2) (.st 162) [.int f] K E S:=by
 refine aC (C1 _ _) ?_;refine fT (λl m q w P=>?_);exact tV hf (jA (q _ _ ⟨S,CS.le_refl,k⟩))
theorem yc(h:a.natAbs<2^60):bN (yt a).length:=by delta yt bN;refine aC (ofString_length _) ?_;exact(aB (int_text_length_le10 (a:=a) (k:=20) (by decide) (aV h (by decide))) (by decide))
noncomputable def vA(f:Int):Str:=aD "stack "++yt f
noncomputable def ED(f:Int):Str:=aD "room "++yt f
theorem tY(hf:f.natAbs<2^60)(k:K (.str (vA f)) S):aM (n+1) (.st 169) [.int f] K E S:=by
 refine aC (BO _ _) ?_;refine fT (λl m q w P=>?_);exact aa3 hf (Ll ⟨by unfold bN;decide+kernel,yc hf⟩ (q _ _ ⟨S,CS.le_refl,k⟩))
theorem FH(hf:f.natAbs<2^60)(k:K (.str (ED f)) S):aM (n+1) (.st 176) [.int f] K E S:=by
 refine aC (Dq _ _) ?_;refine fT (λl m q w P=>?_);exact aa3 hf (Ll ⟨by unfold bN;decide+kernel,yc hf⟩ (q _ _ ⟨S,CS.le_refl,k⟩))
noncomputable def mC(b:List UInt8):List CV:=b.map λx=>.int x.toNat
theorem kO:∀b:List UInt8,rE (mC b)=some b:=by intro b;induction b with |nil=>rfl|cons x r j=>
  have h:HE (.int x.toNat)=some x:=by
   have:=x.toNat_lt;show(if 0<=(x.toNat:Int)/\(x.toNat:Int)<256 then some (kF (x.toNat:Int).toNat)else none)=_;refine aC (if_pos (⟨aN _,bV.mpr (aV this (by decide))⟩)) ?_;simp
  show(HE (.int x.toNat)).bind _=_;refine aC h ?_;show(rE (mC r)).map _=_;refine aC j ?_;rfl
theorem C_(h:0<=x/\x<256):((kF x.toNat).toNat:Int)=x:=by exact aC UInt8.toNat_ofNat' ((congrArg MJ (Nat.mod_eq_of_lt ((uM h.1).mpr h.2))).trans (mH h.1))
noncomputable def AX(worth:Int)(i:Nat):UInt8:=kF (worth/2^(8*i)%256).toNat
noncomputable def ud(worth:Int)(w:Nat):List UInt8:=(cF w).map (AX worth)
theorem A7:ud worth (w+1)=ud worth w++[AX worth w]:=by simp[ud,oK]
theorem lT:(ud worth w).length=w:=by simp[ud]
theorem rF:mC (a++b)=mC a++mC b:=by simp[mC]
theorem cW:(mC a).length=a.length:=by simp[mC]
theorem yy(o:Int)(i:Nat):((AX o i).toNat:Int)=o/2^(8*i)%256:=C_ (⟨gM _ (by decide),fP _ (by decide)⟩)
theorem Ew(hw:w<=20)(k:K (.bytes (ud worth w)) S):aM (n+1) (.st 78) [.int worth,.int w] K E S:=by
 refine aC (JC _ _ _) ?_;refine qt (λo r q P=>JH λc e=>I4 (by rfl) aH ?_);refine aC pQ (kC rfl (fD (by decide) (cK rfl (qQ (N_ hw) (qR (N_ hw) (fD ⟨rfl,rfl⟩ (nr (ur (n:=w)) (λi acc b=>acc=mC (ud worth i)/\b=S.put c (.cell (some (.int worth)))) (λa a a a=>trivial) ⟨rfl,rfl⟩ ?_ ?_)))))))
 · intro i acc b u hi q1_ m;refine bX q1_ λp G=>?_;clear q1_;obtain rfl:=p;obtain rfl:=G;refine fV rfl (tT rfl aH (cK rfl (ri (aj8 hi hw) (aL9 (o75 hi hw) (aU4 (fD (by refine aC cW (aC lT ?_);exact(aB (bK hi) (aB hw (by decide)))) ?_))))));refine m _ _ ⟨aC A7 (aC rF ?_),rfl⟩;show _=_++[eD (AX worth i).toNat];refine aC (yy _ _) ?_;have:(8*(i:Int)).toNat=8*i:=o74;exact aC this rfl
 · intro acc b q1_;refine bX q1_ λQ A=>?_;clear q1_;obtain rfl:=Q;obtain rfl:=A;refine om λl hl=>qZ aH (by refine aC cW (aC lT ?_);unfold bN;exact o5 hw) (kO _) (by refine aC lT ?_;unfold bN;exact o5 hw) ?_;exact xD (q _ _ ⟨S,CS.le_trans (aQ e) (aQ hl),k⟩)
noncomputable def BZ:List UInt8->Int|[]=>0|b::r=>b.toNat+256*BZ r
theorem Mb:∀(l:List UInt8)(b:UInt8),BZ (l++[b])=BZ l+b.toNat*2^(8*l.length):=by intro l b;induction l with |nil=>show(b.toNat:Int)+256*0=0+b.toNat*1;exact aC (Int.mul_zero _) (aC (aw6 _) (aC (Int.add_zero _) (aC (FT _) rfl)))|cons a r j=>
  have e:(2:Int)^(8*(r.length+1))=2^(8*r.length)*256:=by refine aC (Nat.mul_add _ _ _) (aC (Int.pow_add _ _ _) ?_);rfl
  show(a.toNat:Int)+256*BZ (r++[b])=(a.toNat+256*BZ r)+b.toNat*2^(8*(r.length+1));exact aC j (aC e (aC (Int.mul_add _ _ _) aR2))
theorem Fh{l:List UInt8}{i:Nat}(h:i<l.length):BZ (l.take (i+1))=BZ (l.take i)+(l.getD i 0).toNat*2^(8*i):=by
 refine aC iT (aC (aF h) ?_);have e:l.getD i 0=l[i]:=by refine aC (aS) (aC (aF h) ?_);rfl
 refine aC e ?_;show BZ (l.take i++[l[i]])=_;exact aC (Mb _ _) (aC cH (aC (fX (bK h)) rfl))
theorem vK(c:b.length<=20)(k:K (.int (BZ b)) S):aM (n+1) (.st 85) [.bytes b] K E S:=by
 refine aC (AA _ _) ?_;refine fT (λo p q w P=>dS (Ce (by unfold bN;exact o5 c) ?_));refine qQ (N_ c) (qR (N_ c) (fD rfl (A9 (ur (n:=b.length)) (λi vs d=>∃x,vs=[some (.bytes b),some (.int (BZ (b.take i))),x,none,none]/\d=S) (λa a a a=>trivial) ⟨_,rfl,rfl⟩ ?_ ?_)))
 · intro i vs d u hi q1_ m a;refine aY q1_ λx t T=>?_;clear q1_;obtain rfl:=t;obtain rfl:=T;refine cK rfl (cK rfl (cK rfl ?_));refine YS (x:=b.getD i 0) ⟨o0,by unfold bN;exact o5 c⟩ (by refine aC (dO _) (aC (aS) (aC (aF hi) ?_));rfl) ?_;refine cK rfl (ri (aj8 hi c) ?_);have hx:=(b.getD i 0).toNat_lt;refine Yx ?_ ?_ ?_;·exact aV (show((b.getD i 0).toNat:Int).natAbs<256 by exact hx) (by decide)
   ·exact o75 hi c
   refine jA (m _ _ ⟨some (.int i),?_,rfl⟩);have:(8*(i:Int)).toNat=8*i:=o74;refine aC this (iZ (Fh hi) ?_);rfl
 · intro vs d q1_;refine aY q1_ λx l y=>?_;clear q1_;obtain rfl:=l;obtain rfl:=y;refine cK (by rfl) (q _ _ ⟨_,CS.le_refl,?_⟩);refine aC (dE (bM _)) ?_;exact k
end
noncomputable def yp:CO->Bool |.list [.ref _,.int _,.int _]=>false|_=>true
noncomputable def Pn(S S':CS):Prop:=∀a o,yp o=true->S a=some o->S' a=some o
theorem Pn.refl:Pn S S:=λa a a e=>e
theorem Pn.trans(x:Pn S S')(y:Pn S' S''):Pn S S'':=λa o h e=>y a o h (x a o h e)
theorem cR(x:S.le S'):Pn S S':=λa o b e=>x a o e
structure j_(S:CS)(p c:Addr)(ns:List Int)(b:Nat):Prop where
 ex:∃spot great:Int,S p=some (.list [.ref c,.int spot,.int great])/\0<=spot/\spot<=b
 cells:S c=some (.list (ns.map .int))few:ns.length<=63
theorem j_.le(P:j_ S p c ns b)(h:S.le S'):j_ S' p c ns b:=⟨by refine eJ P.ex λs g e r=>?_;exact⟨s,g,h _ _ e,r⟩,h _ _ P.cells,P.few⟩
theorem j_.up(P:j_ S p c ns b)(h:b<=b'):j_ S p c ns b':=⟨by refine dZ P.ex λs g e E I=>?_;exact⟨s,g,e,E,(aG I (aX.mpr h))⟩,P.cells,P.few⟩
theorem DL{S:CS}{p c:Addr}{ns:List Int}{b:Nat}{s g s' g':Int}(e:S p=some (.list [.ref c,.int s,.int g]))(f:S c=some (.list (ns.map .int)))(hf:ns.length<=63)(h:0<=s'/\s'<=b):j_ (S.put p (.list [.ref c,.int s',.int g'])) p c ns b/\Pn S (S.put p (.list [.ref c,.int s',.int g'])):=by
 refine⟨⟨⟨s',g',aH,h⟩,oG e f ?_,hf⟩,λa o ho ea=>oG e ea ?_⟩;·clear e h f hf;rcases ns<;>simp
 · clear e f hf h ea;rintro rfl;exact gQ ho
section
variable{n:Nat}{K:KP}{E:KP}{S:CS}
theorem tH:∀l:List Int,u4 (l.map eD)=some l|[]=>rfl|a::r=>by show(u4 (r.map eD)).map _=_;refine aC (tH r) ?_;rfl
theorem zQ(l:List CV):PB l []=some (decide (l=[])):=by
 rcases l with _|⟨a,r⟩;·rfl
 ·rfl
theorem UO(G:KB false S)(h:KB false S->t=true->X KB E S):wV t X (jR false) KB E S:=⟨λq=>h G q,λa=>G⟩
theorem nT{p c:Addr}{ns:List Int}{b:Nat}{many:Int}(P:j_ S p c ns b)(j:b<=100000)(hm:0<many/\many<=BIG)(k:∀d h,0<=d->d<many->j_ h p c ns (b+1)->Pn S h->K (.int d) h):aM (n+1) (.st 651) [.ref p,.int many] K E S:=by
 refine eC λB=>?_;obtain⟨⟨Z,q,e,h1,h2⟩,l,hf⟩:=P;refine B ?_;refine aC (EQ _ _ _) ?_;have it:∀{h:CS}{i:Int}{v:CV}{u:KP}{w:KP}{s g:Int},h p=some (.list [.ref c,.int s,.int g])->0<=i/\i<3->[dG c,.int s,.int g][i.toNat]?=some v->u v h->cJ (.ref p) (.int i) u w h:=λhp hi J k=>oY (f:=.pure) hp ⟨hi.1,o14 hi⟩ J k;refine fT (λK_ N z nK W=>dS (it e (by decide) rfl (Y_ (Fk (λhg=>?_) (λhg=>?_)))));·exact it e (by decide) rfl (AR (wh (ab4 hm) (it e (by decide) rfl (AR (uo (ar5 hm) (HQ e ⟨by decide,by simp,by decide⟩ (z _ _ (bX (DL (b:=b+1) (s':=Z) (g':=q/many) e l hf ⟨h1,aH1 h2⟩) λO y=>⟨_,CS.le_refl,k _ _ (gM _ (o68 hm)) (fP _ hm.1) O y⟩))))))))
 · refine cK rfl (it e (by decide) rfl (cK rfl (jA (cK rfl (HQ e ⟨by decide,by simp,by decide⟩ (bX (DL (b:=b+1) (s':=Z+1) (g':=q) e l hf ⟨aq8 h1,as3 h2⟩) λO y=>?_))))));show(lv 3 _|>.bind _) _ _ (S.put p (.list [.ref c,.int (Z+1),.int q]));generalize R:S.put p (.list [.ref c,.int (Z+1),.int q])=S1 at O y|-;have e1:S1 p=some (.list [.ref c,.int (Z+1),.int q]):=by refine iZ R ?_;exact aH
   refine cK rfl (ri (Z3 h1 h2 j) (jA (cK rfl (it e1 (by decide) rfl (HS O.cells (by refine aC (aJ _) ?_;unfold bN;exact o77 hf) (by decide) λf1 x=>?_)))));refine ZY aH (by refine iZ tx ?_;exact tH _) ?_;refine AR (wh (by decide) (jA (dS (cK rfl (it (gU (o:=.list ((ns.map eD).take (cA 1))) x e1) (by decide) rfl (fD (dP rfl) (om λf2 t=>?_)))))));have U:=gU (o:=.list []) t (gU (o:=.list ((ns.map eD).take (cA 1))) x e1);have c3:=gU (o:=.list []) t (gU (o:=.list ((ns.map eD).take (cA 1))) x O.cells);have D:=CS.le_trans (aQ (o:=.list ((ns.map eD).take (cA 1))) x) (aQ (o:=.list []) t);generalize Q:(S1.put f1 (.list ((ns.map eD).take (cA 1)))).put f2 (.list [])=S3 at U c3 D|-;have A:S3 f2=some (.list []):=by refine iZ Q ?_;exact aH
   refine Bd (zA c3 A (zQ _) ?_);have T:bN (ns.map eD).length:=by refine aC (aJ _) ?_;unfold bN;exact o77 hf
   refine Fk ?b1 ?b2;case' b1=>
     intro hn;refine cK rfl (it U (by decide) rfl (cK rfl (AR (cK rfl (it U (by decide) rfl (qX c3 T ?_))))));have I:0<ns.length:=by
       clear j B l e h2 hg R e1 x t Q A;rcases ns with _|⟨a,r⟩;·contradiction
       ·simp
     refine aC (aJ _) (wh (ao0 I) ?_);have hr:0<=Z%(ns.length:Int)/\Z%(ns.length:Int)<ns.length:=⟨gM _ (aM1 I),fP _ (ao0 I)⟩;refine oY (v:=.int (ns.getD (Z%(ns.length:Int)).toNat 0)) c3 ⟨hr.1,(fE (aT hr.2 (aX.mpr hf)) (by decide))⟩ (by refine aC (bE) (aC (aS) (aC (aF (o76 hr)) ?_));rfl) ?_;generalize ns.getD (Z%(ns.length:Int)).toNat 0=cell
   case' b2=> intro hn;refine dS (cK rfl (cK rfl ?_));generalize 71503*Z+3571+((ns.take (cA 1)).sum)%1000003=cell
   all_goals
     first|(refine dS (cK rfl (cK rfl ?_));dsimp only)|(skip)
     refine it U (by decide) rfl (qX c3 T (UC (aC (aJ _) rfl) (Cw (UO ?_ (λH ht=>?_)))))
     · refine eB rfl (cK rfl (AR (wh (by decide) (cK rfl (ri (Z3 h1 h2 j) (jA (jA (G8 (aV (show(cell%2147483587+71503*Z+3571).natAbs<1000000000000 by exact aL3 h1 h2 j) (by decide)) (by decide) ?_))))))));generalize(cell%2147483587+71503*Z+3571)^(cA 5)=pw;refine AR (wh (by decide) (cK rfl (cK rfl (ri (aU7 h1 h2 j) (jA (ri (aS6 h1 h2 j) (cK rfl (ri (Z3 h1 h2 j) (cK rfl (ri (aI6 h1 h2 j) (jA (jA ?_))))))))))));have C:0<=pw%2147483629/\pw%2147483629<2147483629:=⟨gM _ (by decide),fP _ (by decide)⟩;generalize pw%2147483629=mx at C|-;have m:=pP (a:=mx) (c:=2147483629) (b:=2*Z+6151) (d:=206151) (dJ C.2) (aQ2 h2 j) (ak4 h1) (aN _);have m2:=gG (a:=mx) (b:=2*Z+6151) (C.1) (ak4 h1);have m3:=pP (a:=71503*Z) (c:=7150300000) (b:=Z) (d:=100000) (aJ6 h2 j) (aG h2 (aX.mpr j)) (QG h1) (aN _);have G:=gG (a:=71503*Z) (b:=Z) (fM h1 (by decide)) (QG h1);generalize mx*(2*Z+6151)=y1 at m m2|-;generalize 71503*Z*Z=y2 at m3 G|-;refine G8 (aV (show(y1+y2+41).natAbs<1000000000000000000 by exact aK8 G m2 m m3) (by decide)) (by decide) ?_;generalize(y1+y2+41)^(cA 3)=pz;exact AR (wh (by decide) (cK rfl (uo (by decide) (AR (cK rfl (wh (ab4 hm) (z _ _ ⟨_,D,k _ _ (gM _ (aj5 hm)) (fP _ hm.1) O y⟩)))))))
     ·exact cK rfl (aq0 ((λk=>G8 (f:=.pure) (by decide) (by decide) k:∀{u:KP}{w:KP}{h:CS},u (.int 1000000000000000000) h->cP .Pow (.int 10) (.int 18) u w h) (YC (Fk (λX=>fV rfl (cK rfl (aq0 ((λk=>G8 (f:=.pure) (by decide) (by decide) k:∀{u:KP}{w:KP}{h:CS},u (.int 1000000000000000000) h->cP .Pow (.int 10) (.int 18) u w h) (wc (cK rfl (AR (cK rfl (uo (ar5 hm) (cK rfl (HQ U ⟨by decide,by simp,by decide⟩ (cK rfl (AR (cK rfl (wh (ab4 hm) (z _ _ (bX (DL (b:=b+1) (s':=Z+1) (g':=((if cell<0 then-cell else cell)-1000000000000000000)/many) U c3 hf ⟨aq8 h1,as3 h2⟩) λF L=>⟨_,CS.le_refl,k _ _ (gM _ (aj5 hm)) (fP _ hm.1) F (y.trans ((cR D).trans L))⟩))))))))))))))))) (λY=>H)))))
theorem sO{p c q:Addr}{ns:List Int}{b:Nat}{l:List CV}(P:j_ S p c ns b)(f:b<=100000)(hq:S q=some (.list l))(hl:0<l.length/\l.length<=1000)(hn:yp (.list l)=true)(k:∀v e,v∈l->j_ e p c ns (b+1)->Pn S e->K v e):aM (n+2) (.st 658) [.ref p,.ref q] K E S:=by
 refine aC (EU _ _ _) ?_;refine fT (λm o r w Q=>qX hq ((aB hl.2 (by decide))) (nT P f ⟨(bV.mpr hl.1),(aX.mpr (aB hl.2 (by decide)))⟩ λd e h1 h2 J D=>?_));refine oY (v:=l.getD d.toNat .none) (D _ _ hn hq) ⟨h1,(fE (aT h2 (aX.mpr hl.2)) (by decide))⟩ ?_ ?_;·refine aC (aS) (aC (aF (o78 hl h2)) ?_);rfl
 · refine r _ _ ⟨_,CS.le_refl,k _ _ (aC (aS) (aC (aF (o78 hl h2)) ?_)) J D⟩;exact dB _
end
set_option backward.match.sparseCases false
structure Reg where
 nm:Str
 base:Int
 oc:List UInt8
 wr:Bool
noncomputable def Mk(g:Reg)(o:Addr):List (Str×CV):=[(aD "name",.str g.nm),(aD "base",.int g.base),(aD "octets",.ref o),(aD "is_writable",.bool g.wr)]
structure kX(S:CS)(r d o:Addr)(g:Reg):Prop where
 i:S r=some (.inst 123 d)f:S d=some (.flds (Mk g o))o:S o=some (.barr g.oc)
theorem kX.le{S b:CS}{r d o:Addr}{g:Reg}(x:kX S r d o g)(h:S.le b):kX b r d o g:=⟨h _ _ x.i,h _ _ x.f,h _ _ x.o⟩
theorem kX.pn{S b:CS}{r d o:Addr}{g:Reg}(x:kX S r d o g)(h:Pn S b):kX b r d o g:=⟨h _ _ rfl x.i,h _ _ rfl x.f,h _ _ rfl x.o⟩
section
variable{n:Nat}{K:KP}{E:KP}{S:CS}{r d o:Addr}{g:Reg}
theorem C9(h:kX S r d o g)(k:K (.str g.nm) S):dI (.ref r) "name" K E S:=uq (i:=1) h.i h.f (by kernel_rfl) (by kernel_rfl) (by kernel_rfl) rfl k
theorem qj(h:kX S r d o g)(k:K (.int g.base) S):dI (.ref r) "base" K E S:=uq (i:=1) h.i h.f (by kernel_rfl) (by kernel_rfl) (by kernel_rfl) rfl k
theorem tb(h:kX S r d o g)(k:K (.ref o) S):dI (.ref r) "octets" K E S:=uq (i:=1) h.i h.f (by kernel_rfl) (by kernel_rfl) (by kernel_rfl) rfl k
theorem LZ(h:kX S r d o g)(k:K (.bool g.wr) S):dI (.ref r) "is_writable" K E S:=uq (i:=1) h.i h.f (by kernel_rfl) (by kernel_rfl) (by kernel_rfl) rfl k
theorem Lx(h:kX S r d o g)(hz:bN g.oc.length)(k:K (.int (g.base+g.oc.length)) S):aM (n+1) (.st 106) [.ref r] K E S:=by
 refine aC (BQ _ _) ?_;refine fT (λl m q w P=>qj h (tb h (UP h.o hz ?_)));exact jA (q _ _ ⟨S,CS.le_refl,k⟩)
theorem HJ(h:kX S r d o g)(hz:bN g.oc.length)(k:K (.bool (decide (g.base<=pl/\pl+w<=g.base+g.oc.length))) S):aM (n+2) (.st 113) [.ref r,.int pl,.int w] K E S:=by
 refine aC (zC _ _ _ _) ?_;refine fT (λl m q x P=>qj h ?_);refine MI (qw (Fk (λht=>?_) (λht=>?_)))
 · refine jA (pM (g:=106) h.i h.f (by kernel_rfl) (by kernel_rfl) (eS (by kernel_rfl) (Lx h hz (MI (q _ _ ⟨S,CS.le_refl,?_⟩)))));have ht:=of_decide_eq_true ht;rwa[show decide (g.base<=pl/\pl+w<=g.base+g.oc.length)=decide (pl+w<=g.base+g.oc.length)from by simp[ht]]at k
 · refine q _ _ ⟨S,CS.le_refl,aC ht ?_⟩;have ht:=of_decide_eq_false ht;rwa[show decide (g.base<=pl/\pl+w<=g.base+g.oc.length)=false from by simp[ht]]at k
noncomputable def rB(g:Reg):CV:=.tup [.str g.nm,.int g.base,.bytes g.oc,.bool g.wr]
theorem aa6:yz (n+2) (rB g) (rB g)=some true:=Kk (rb cS (rb cI (rb cB (rb cO rfl))))
theorem Dl(h:kX S r d o g)(hz:bN g.oc.length)(k:K (rB g) S):aM (n+1) (.st 120) [.ref r] K E S:=by
 refine aC (Bn _ _) ?_;refine fT (λl m q w P=>C9 h (qj h (tb h (xG h.o hz (LZ h ?_)))));exact fD (dP rfl) (q _ _ ⟨S,CS.le_refl,k⟩)
theorem ZU(e:dU c "__init__"=some f)(G:f≠36)(k:∀d,S d=none->∀r,(S.put d (.flds [])) r=none->cl (.st f) (.ref r::args) (λv b=>(match v with|.none=>.pure (.ref r)|_=>.fail:M CV) K E b) (λa a=>False) ((S.put d (.flds [])).put r (.inst c d))):mG cl c args K E S:=by exact UC (UN e G) k
theorem uT(ho:S o=some (.barr g.oc))(k:∀r d b,S.le b->S r=none->S d=none->kX b r d o g->K (.ref r) b):mG (aM (n+1)) 123 [.str g.nm,.int g.base,.ref o,.bool g.wr] K E S:=by
 refine ZU (f:=99) (by kernel_rfl) (by decide) λd hd r hr=>bX (mJ hr) λT D=>?_;refine aC (Bm _ _ _ _ _ _) ?_;refine fT (λl m s w P=>?_);have N:∀x y,(((S.put d (.flds [])).put r (.inst 123 d)).put d x).put d y=((S.put d (.flds [])).put r (.inst 123 d)).put d y:=λc c=>pQ;have L:∀x,(((S.put d (.flds [])).put r (.inst 123 d)).put d x) r=some (.inst 123 d):=λx=>cC D aH;refine sX (i:=1) aH (cC (eY D) aH) (by kernel_rfl) (by kernel_rfl) (by decide) (sX (i:=1) (L _) aH (by kernel_rfl) (by kernel_rfl) (by show 1<=100;decide) (aC (N _ _) (sX (i:=1) (L _) aH (by kernel_rfl) (by kernel_rfl) (by show 2<=100;decide) (aC (N _ _) (sX (i:=1) (L _) aH (by kernel_rfl) (by kernel_rfl) (by show 3<=100;decide) (aC (N _ _) (w _ _ ⟨_,CS.le_refl,?_⟩)))))));have ef:nV "is_writable" (.bool g.wr) (nV "octets" (.ref o) (nV "base" (.int g.base) (nV "name" (.str g.nm) [])))=Mk g o:=by kernel_rfl
 refine aC ef ?_;have le:S.le (((S.put d (.flds [])).put r (.inst 123 d)).put d (.flds (Mk g o))):=λa x e=>cC (λq=>by replace e:=hd▸(q▸e);cases e) (cC (λq=>by exact iH (T▸q▸e)) (cC (λq=>by replace e:=hd▸(q▸e);cases e) e));exact k r d _ le T hd ⟨L _,aH,le _ _ ho⟩
theorem Nm(k:∀a d f,S.le f->S a=none->f a=some (.exc 71 (some d))->f d=some (.flds [(aD "what",.str x),(aD "at",.none)])->K (.ref a) f):mG (aM (n+1)) 71 [.str x] K E S:=by
 refine UC (Ij (show dU 71 "__init__"=some 36 from by kernel_rfl)) ?_;intro a ha;show aM (n+1) (.st 36) [.ref a,.str x] (λv f=>(match v with|.none=>.pure (.ref a)|_=>.fail:M CV) K E f) (λg g=>False) (S.put a (.exc 71 none));refine aC (vX _ _ _) ?_;refine fT (λl m r w P=>?_);have e1:dX (.ty 10) "__init__"=.pure (.bi 12,[]):=by
  show(match qW "__init__" "__init__"with|true=>jR ((CV.bi 12,[]):CV×List CV)|false=>.fail)=_;exact aC (show qW "__init__" "__init__"=true from by kernel_rfl) rfl
 refine e1▸⟨_,aH,?_⟩;show(fR (.ref a) "what" (.str x)|>.bind _) _ _ ((S.put a (.exc 71 none)).put a (.exc 71 none));refine aC pQ (WN (i:=2) aH (by kernel_rfl) (by kernel_rfl) λd hd=>eC λh=>bX (mJ hd) λD N=>h (Xx (i:=2) (c:=71) (d:=d) (es:=[(aD "what",.str x)]) (cC (eY N) aH) aH (by kernel_rfl) (by kernel_rfl) (by show 1<=100;decide) (w _ _ ⟨_,CS.le_refl,?_⟩)));have ef:nV "at" qH [(aD "what",.str x)]=[(aD "what",.str x),(aD "at",.none)]:=by kernel_rfl
 refine aC ef (k a d _ (λb y e=>?_) ha (cC (eY N) (cC (eY N) aH)) aH);have h1:b≠a:=λq=>by replace e:=ha▸(q▸e);cases e
 have h2:b≠d:=λq=>by exact iH (D▸q▸e)
 exact cC h2 (cC h2 (cC h1 (cC h2 (cC h1 e))))
end
set_option backward.match.sparseCases true
structure n_ where
 r:Addr
 d:Addr
 o:Addr
 l:Addr
 g:Reg
structure kD where
 a:Addr
 d:Addr
 V:Addr
 cls:Nat
 kind:Str
 num:Int
 w:Nat
 most:Int
 vals:List (Addr×List UInt8)
noncomputable def lA:Nat->List (Addr×List UInt8)->List (Int×CV) |_,[]=>[]|i,v::r=>((i:Int),.ref v.1)::lA (i+1) r
noncomputable def Lg(M:kD):List (Str×CV):=[(aD "kind",.str M.kind),(aD "number",.int M.num),(aD "key_width",.int 4),(aD "value_width",.int M.w),(aD "most",.int M.most),(aD "values",.ref M.V)]
structure gO(S:CS)(M:kD):Prop where
 i:S M.a=some (.inst M.cls M.d)f:S M.d=some (.flds (Lg M))V:S M.V=some (.idict (lA 0 M.vals))b:∀v∈M.vals,S v.1=some (.barr v.2)/\v.2.length=M.w
structure Ad where
 m:Addr
 dm:Addr
 R:Addr
 Mp:Addr
 w:Addr
 L:Addr
noncomputable def sY(A:Ad):List (Str×CV):=[(aD "regions",.ref A.R),(aD "maps",.ref A.Mp)]
noncomputable def dN(e:n_):CV:=.tup [.str e.g.nm,.int e.g.base,.ref e.l,.bool e.g.wr]
noncomputable def lS(A:Ad):List (Str×CV):=[(aD "maps",.ref A.Mp),(aD "regions",.ref A.L)]
structure uY(es:List n_):Prop where
 apart:Ea (λ(a b:n_)=>a.g.base+(a.g.oc.length:Int)<b.g.base) es
 each:∀e∈es,16<=e.g.base/\e.g.base+(e.g.oc.length:Int)<=16776976/\e.g.oc.length<=600
structure Wo(S:CS)(A:Ad)(es:List n_)(M1 M2:kD):Prop where
 mi:S A.m=some (.inst 281 A.dm)mf:S A.dm=some (.flds (sY A))mR:S A.R=some (.list (es.map λe=>.ref e.r))ents:∀e∈es,kX S e.r e.d e.o e.g/\S e.l=some (.list (mC e.g.oc))mp:S A.Mp=some (.idict [(0,.ref M1.a),(5,.ref M2.a)])o1:gO S M1
 o2:gO S M2
 wd:S A.w=some (.sdict (lS A))wL:S A.L=some (.list (es.map dN))nb:(es.map (·.o)++(M1.vals.map (·.1)++M2.vals.map (·.1))).Nodup
 nl:(A.R::A.L::es.map (·.l)).Nodup
 c1:M1.cls=594/\M1.num=0/\1<=M1.w/\M1.w<=17/\M1.vals.length=3
 c2:M2.cls=637/\M2.num=5/\1<=M2.w/\M2.w<=17/\M2.vals.length=4
 ok:uY es
 few:es.length<=60
 ctx:∃e∈es,e.g.nm=aD "context"
theorem Fo{α:Type}{f:α->Addr}{l:List α}:yp (.list (l.map λe=>.ref (f e)))=true:=by rcases l with _|⟨a,_|⟨b,r⟩⟩<;>rfl
theorem Es{l:List n_}:yp (.list (l.map dN))=true:=by rcases l with _|⟨a,r⟩<;>rfl
theorem pU:yp (.list (mC l))=true:=by rcases l with _|⟨a,r⟩<;>rfl
theorem gO.pn{S b:CS}{M:kD}(x:gO S M)(h:Pn S b):gO b M:=⟨h _ _ rfl x.i,h _ _ rfl x.f,h _ _ rfl x.V,λv f=>⟨h _ _ rfl (x.b v f).1,(x.b v f).2⟩⟩
theorem Wo.pn(x:Wo S A es M1 M2)(h:Pn S S'):Wo S' A es M1 M2:=⟨h _ _ rfl x.mi,h _ _ rfl x.mf,h _ _ Fo x.mR,λe he=>⟨(x.ents e he).1.pn h,h _ _ pU (x.ents e he).2⟩,h _ _ rfl x.mp,x.o1.pn h,x.o2.pn h,h _ _ rfl x.wd,h _ _ Es x.wL,x.nb,x.nl,x.c1,x.c2,x.ok,x.few,x.ctx⟩
theorem Wo.le(x:Wo S A es M1 M2)(h:S.le S'):Wo S' A es M1 M2:=x.pn (cR h)
section
variable{n:Nat}{K:KP}{E:KP}{S:CS}{A:Ad}{es:List n_}{M M1 M2:kD}
theorem LG(h:gO S M)(e:M.cls=594\/M.cls=637)(k:K (.int M.num) S):dI (.ref M.a) "number" K E S:=uq (i:=1) h.i h.f (by kernel_rfl) (by rcases e with e|e<;>rw[e]<;>kernel_rfl) (by kernel_rfl) rfl k
theorem ai1(h:gO S M)(e:M.cls=594\/M.cls=637)(k:K (.int 4) S):dI (.ref M.a) "key_width" K E S:=uq (i:=1) h.i h.f (by kernel_rfl) (by rcases e with e|e<;>rw[e]<;>kernel_rfl) (by kernel_rfl) rfl k
theorem y8(h:gO S M)(e:M.cls=594\/M.cls=637)(k:K (.int M.w) S):dI (.ref M.a) "value_width" K E S:=uq (i:=1) h.i h.f (by kernel_rfl) (by rcases e with e|e<;>rw[e]<;>kernel_rfl) (by kernel_rfl) rfl k
theorem DI(h:gO S M)(e:M.cls=594\/M.cls=637)(k:K (.int M.most) S):dI (.ref M.a) "most" K E S:=uq (i:=1) h.i h.f (by kernel_rfl) (by rcases e with e|e<;>rw[e]<;>kernel_rfl) (by kernel_rfl) rfl k
theorem sj(h:gO S M)(e:M.cls=594\/M.cls=637)(k:K (.ref M.V) S):dI (.ref M.a) "values" K E S:=uq (i:=1) h.i h.f (by kernel_rfl) (by rcases e with e|e<;>rw[e]<;>kernel_rfl) (by kernel_rfl) rfl k
theorem CR(W:Wo S A es M1 M2)(k:K (.ref A.R) S):dI (.ref A.m) "regions" K E S:=uq (i:=1) W.mi W.mf (by kernel_rfl) (by kernel_rfl) (by kernel_rfl) rfl k
theorem Re(W:Wo S A es M1 M2)(k:K (.ref A.Mp) S):dI (.ref A.m) "maps" K E S:=uq (i:=1) W.mi W.mf (by kernel_rfl) (by kernel_rfl) (by kernel_rfl) rfl k
theorem iM(W:Wo S A es M1 M2)(hn:dA x (sY A)=none)(e:dU 281 x=some g)(k:KM (.st g,[.ref A.m]) S):dX (.ref A.m) x KM E S:=pM W.mi W.mf hn e k
theorem WU(W:Wo S A es M1 M2)(k:K (.ref A.Mp) S):cJ (.ref A.w) (.str "maps") K E S:=DJ (f:=.pure) W.wd (by kernel_rfl) k
theorem x9(W:Wo S A es M1 M2)(k:K (.ref A.L) S):cJ (.ref A.w) (.str "regions") K E S:=DJ (f:=.pure) W.wd (by kernel_rfl) k
theorem Jt:∀{l:List (Addr×List UInt8)}{i:Nat}{z:Int},pj z (lA i l)=if(i:Int)<=z then(l[(z-i).toNat]?).map (λv=>dG v.1)else none:=by intro l;induction l with |nil=>intro i z;show none=_;refine aC (List.getElem?_nil) ?_;exact(ite_self _).symm|cons v r j=>
   intro i z;by_cases h:z=i;·subst h;refine aC (if_pos (pD _)) (aC (ag7 _) ?_);exact zN rfl
   · refine aC (show pj z (lA i (v::r))=pj z (lA (i+1) r)from zY h) (aC j ?_);by_cases h2:(i:Int)<=z
     · refine aC (if_pos h2) (aC (if_pos (aI0 h2 h)) ?_);have:(z-i).toNat=(z-(i+1:Nat)).toNat+1:=aT9 h2 h;exact aC this (aC (List.getElem?_cons_succ) rfl)
     ·exact aC (if_neg h2) (aC (if_neg (λq=>h2 (aG (aX.mpr (m_ _)) q))) rfl)
theorem AM(h:0<=z):pj z (lA 0 l)=(l[z.toNat]?).map λv=>dG v.1:=by
 refine aC Jt (aC (if_pos (aG4 h)) ?_);have:z-(0:Nat)=z:=aR1;exact aC this rfl
noncomputable def mapOf(M1 M2:kD)(z:Int):Option kD:=if z=0 then some M1 else if z=5 then some M2 else none
noncomputable def J0(M1 M2:kD)(pl:Int):Option (Int×Addr×List UInt8):=(mapOf M1 M2 ((pl-16777216)/1048576)).bind λM=>(M.vals[((pl-16777216)%1048576/gJ M.w).toNat]?).map λv=>(hZ M.num ((pl-16777216)%1048576/gJ M.w) M.w,v.1,v.2)
theorem TH(W:Wo S A es M1 M2)(he:e∈es):bN e.g.oc.length:=by have:=(W.ok.each e he).2.2;exact o1 this
theorem As(W:Wo S A es M1 M2)(hp:16777216<=pl/\pl<1879048192)(x:J0 M1 M2 pl=none->K .none S)(kS:∀b o oc,J0 M1 M2 pl=some (b,o,oc)->∀r d c,S.le c->kX c r d o ⟨aD "value",b,oc,true⟩->K (.ref r) c):aM (n+3) (.st 224) [.ref A.m,.int pl] K E S:=by
 refine aC (tS _ _ _) ?_;refine fT (λl m q y P=>Re W (Km W.mp ?_));refine wc (uo (by decide) (yh (aN3 W.mp ?_)));have look:pj ((pl-16777216)/1048576) [((0:Int),dG M1.a),(5,dG M2.a)]=(mapOf M1 M2 ((pl-16777216)/1048576)).map λM=>dG M.a:=by
   unfold mapOf;by_cases h:(pl-16777216)/1048576=0;·refine aC (zN h) (aC (if_pos h) ?_);rfl
   · refine aC (zY h) (aC (if_neg h) ?_);by_cases h5:(pl-16777216)/1048576=5;·refine aC (zN h5) (aC (if_pos h5) ?_);rfl
     ·refine aC (zY h5) (aC (if_neg h5) ?_);rfl
 refine aC look ?_;clear look;rcases T:mapOf M1 M2 ((pl-16777216)/1048576)with _|M
 · refine dS (IC (fV rfl (fV rfl (q _ _ ⟨S,CS.le_refl,x ?_⟩))));unfold J0;refine aC T ?_;rfl
 · have s:(M=M1\/M=M2)/\M.num=(pl-16777216)/1048576:=by
     unfold mapOf at T;split at T;·obtain rfl:=aE T;exact⟨.inl rfl,by refine aC W.c1.2.1 ?_;exact aP0 (by assumption)⟩
     · split at T;·obtain rfl:=aE T;exact⟨.inr rfl,by refine aC W.c2.2.1 ?_;exact aS0 (by assumption)⟩
       ·exact iH T
   have C:gO S M:=by rcases s.1 with rfl|rfl;exact W.o1;exact W.o2
   have e:M.cls=594\/M.cls=637:=by rcases s.1 with rfl|rfl;exact .inl W.c1.1;exact .inr W.c2.1
   have hw:1<=M.w/\M.w<=17:=by rcases s.1 with rfl|rfl;exact⟨W.c1.2.2.1,W.c1.2.2.2.1⟩;exact⟨W.c2.2.2.1,W.c2.2.2.2.1⟩
   have Y:0<=(pl-16777216)%1048576/gJ M.w:=vk (⟨gM _ (by decide),fP _ (by decide)⟩:0<=(pl-16777216)%1048576/\(pl-16777216)%1048576<1048576).1 (o32 (n7 (w:=(M.w:Int)) ⟨o0,o15 hw⟩));refine iZ ((rfl:((some M).map (λM=>dG M.a)).getD qH=dG M.a)) (dS (IC (eB rfl (y8 C e (AH (eB (by simp;exact(uP hw.1)) (eB rfl (cK rfl (cK rfl (y8 C e (xq ⟨o0,o15 hw⟩ (unpack_ rfl (sE (sE (sE (BV (dS (cK rfl (cK rfl (sj C e (K8 (an1 C.V (aC (AM Y) ?_)))))))))))))))))))))));rcases f:M.vals[((pl-16777216)%1048576/gJ M.w).toNat]? with _|v
   · refine fV rfl (q _ _ ⟨S,CS.le_refl,x ?_⟩);unfold J0;refine aC T ?_;show(M.vals[((pl-16777216)%1048576/gJ M.w).toNat]?).map _=none;refine aC f ?_;rfl
   · refine eB rfl (cK rfl (cK rfl (cK rfl (y8 C e ?_))));have B:M.vals.length<=4:=by rcases s.1 with rfl|rfl;refine aC W.c1.2.2.2.2 ?_;exact(vn _ _);refine aC W.c2.2.2.2.2 ?_;exact(bM _)
     refine sM ⟨o0,o15 hw⟩ ⟨(vk (eW hp.1) (by decide)),(Int.ediv_le_of_le_mul (by decide) (by lia))⟩ ⟨Y,aM4 ((aR.mp f).1) B⟩ ?_;refine cK rfl (sj C e (cK rfl (Dt C.V (v:=.ref v.1) ?_ ?_)));·refine aC (AM Y) (aC f ?_);rfl
     refine bX (C.b v (bG f)) λi t=>?_;have z:=kS (hZ M.num ((pl-16777216)%1048576/gJ M.w) M.w) v.1 v.2 (by
       unfold J0;refine aC T ?_;show(M.vals[((pl-16777216)%1048576/gJ M.w).toNat]?).map _=_;refine aC f ?_;rfl);exact iZ (s.2) (uT (g:=⟨aD "value",hZ M.num ((pl-16777216)%1048576/gJ M.w) M.w,v.2,true⟩) i λr d c le a a X=>q _ _ ⟨c,CS.le_refl,z r d c le X⟩)
theorem EJ(W:Wo S A es M1 M2)(hp:¬(16777216<=pl/\pl<1879048192))(k:∀lo:Nat,lo<=es.length->(∀i e,i<lo->es[i]?=some e->e.g.base<=pl)->(∀i e,lo<=i->es[i]?=some e->pl<e.g.base)->K (match lo with|0=>.none|j+1=>(match es[j]? with|some e=>.ref e.r|none=>.none)) S):aM (n+4) (.st 231) [.ref A.m,.int pl] K E S:=by
 refine aC (qT _ _ _) ?_;have base:∀{i j:Nat}{a b:n_},es[i]?=some a->es[j]?=some b->i<=j->a.g.base<=b.g.base:=by
   intro i j a b ha c t;obtain⟨hi,L⟩:=aR.mp ha;refine iZ L ?_;obtain⟨hj,rfl⟩:=aR.mp c;rcases oQ t with h|rfl
   · have:=fN.mp W.ok.apart i j hi hj h;exact o34 this
   ·exact o82
 have hf:=W.few;refine fT (λC w r D P=>dS (MI (UO ?_ (λH ht=>?_))))
 · refine eB rfl (cK rfl (CR W (qX W.mR (by refine aC (aJ _) ?_;exact o6 hf) ?_)));refine aC (aJ _) (fD (dP rfl) (fD (by decide) (dS ?_)));refine Ml es.length (λm vs f=>∃(lo hi:Nat)(x:Option CV),vs=[some (.ref A.m),some (.int pl),some (.int lo),some (.int hi),x,none,none,none]/\f=S/\lo<=hi/\hi<=es.length/\hi-lo<=m/\(∀i e,i<lo->es[i]?=some e->e.g.base<=pl)/\(∀i e,hi<=i->es[i]?=some e->pl<e.g.base)) ⟨0,es.length,none,rfl,rfl,o27,aE1,o81,λi e h=>absurd h (i4 i),λi e h h2=>by have:=(aR.mp h2).1;exact(absurd this (kZ.mpr h))⟩ ?_;intro m vs f z q1_ s;refine gD q1_ λlo hi x l y=>?_;clear q1_;obtain rfl:=l;refine bX y λu T=>?_;clear y;obtain rfl:=u;refine qJ T λh1 h2 h5 h3 h4=>?_;clear T;refine cK rfl (cK rfl (Cw (s _ _ (λht=>?_) (λht=>?_))))
   · have ht:=of_decide_eq_true ht;refine⟨m-1,((mM (aV (tw (bV.mp ht)) h5)).symm),λB d=>cK rfl (cK rfl (jA (uo (by decide) (dS (cK rfl ?_)))))⟩;have hm:(lo+hi)/2<es.length:=aD3 ht h2;refine aC aM8 (CR W (cK rfl ?_));refine oY (v:=.ref (es[(lo+hi)/2]).r) W.mR ⟨(aN _),(aT (bV.mpr (aV hm hf)) (by decide))⟩ (by refine aC (dO _) (aC (bE) (aC (aF hm) ?_));rfl) ?_;refine qj (W.ents _ (dB hm)).1 (cK rfl (MI (Fk (λc=>?_) (λc=>?_))))
     · have c:=of_decide_eq_true c;refine cK rfl (jA (d _ _ ⟨(lo+hi)/2+1,hi,some (.int ((lo+hi)/2:Nat)),?_,rfl,aS2 ht,h2,aJ1 h5,λi e G he=>?_,h4⟩))
       · have:(((lo+hi)/2:Nat):Int)+1=((lo+hi)/2+1:Nat):=rfl;refine aC this ?_;rfl
       · have:=base he (aF hm) (gB G);exact o80 this c
     · have c:=of_decide_eq_false c;refine cK rfl (d _ _ ⟨lo,(lo+hi)/2,some (.int ((lo+hi)/2:Nat)),rfl,rfl,aV4 ht,(bK hm),aV2 h5,h3,λi e G he=>?_⟩);have:=base (aF hm) he G;exact o79 this c
   · have ht:=of_decide_eq_false ht;have o:lo=hi:=(Us h1 (ut λq=>ht (bV.mpr q)));clear base h1 h5 s;subst o;have p:=k lo h2 h3 h4;refine cK rfl (Y_ (Fk (λhg=>?_) (λhg=>?_)))
     · have hg:=of_decide_eq_true hg;refine iK (⟨lo-1,((mM (vq.mp hg)).symm)⟩:∃j,lo=j+1) λj l=>?_;obtain rfl:=l;have hj:j<es.length:=o33 h2;refine cK rfl (CR W (cK rfl (wc (aC ((o276:((j+1:Nat):Int)-1=(j:Nat))) ?_))));refine oY (v:=.ref (es[j]).r) W.mR ⟨o0,(aT (bV.mpr (aV h2 hf)) (by decide))⟩ (by refine aC (dO _) (aC (bE) (aC (aF hj) ?_));rfl) ?_;refine r _ _ ⟨_,CS.le_refl,?_⟩;have p:K (match es[j]? with|some e=>.ref e.r|none=>.none) f:=p;rw[aF hj]at p;exact p
     · have hg:=of_decide_eq_false hg;have o:lo=0:=(Nat.eq_zero_of_not_pos λq=>hg (vq.mpr q));cases o;exact r _ _ ⟨_,CS.le_refl,p⟩
 · have ht:=of_decide_eq_true ht;refine(Cw ?_);have:decide (pl<1879048192)=false:=decide_eq_false (λh=>hp ⟨ht,h⟩);exact aC this H
end
structure Row where
 base:Int
 o:Addr
 l:Addr
 wr:Bool
 oc:List UInt8
noncomputable def jC(e:n_):Row:=⟨e.g.base,e.o,e.l,e.g.wr,e.g.oc⟩
noncomputable def qg(M:kD)(i:Nat)(v:Addr×List UInt8):Row:=⟨hZ M.num i M.w,v.1,v.1,true,v.2⟩
noncomputable def fI(M:kD):Nat->List (Addr×List UInt8)->List Row |_,[]=>[]|i,v::r=>qg M i v::fI M (i+1) r
noncomputable def bQ(es:List n_)(M1 M2:kD):List Row:=es.map jC++(fI M1 0 M1.vals++fI M2 0 M2.vals)
noncomputable def fS(r:Row)(pl w:Int):Prop:=r.base<=pl/\pl+w<=r.base+(r.oc.length:Int)
theorem xo{M:kD}{r:Row}:∀{l:List (Addr×List UInt8)}{i:Nat},r∈fI M i l↔∃j v,l[j]?=some v/\r=qg M (i+j) v:=by
 intro l;induction l with |nil=>intro i;exact⟨nofun,λ⟨_,_,h,_⟩=>nomatch h⟩|cons v l k=>
   intro i;refine aC (show fI M i (v::l)=qg M i v::fI M (i+1) l from rfl) (qP a_ (qP k ?_));constructor
   · rintro(rfl|⟨j,u,h,rfl⟩);·exact⟨0,v,rfl,rfl⟩
     ·exact⟨j+1,u,h,aC (show i+1+j=i+(j+1)by exact o16) rfl⟩
   · intro q1_;refine eJ q1_ λj u h H=>?_;clear q1_;obtain rfl:=H;rcases j with _|j;·simp only[mI,dK]at h;subst h;exact .inl rfl
     ·exact .inr ⟨j,u,h,aC (show i+1+j=i+(j+1)by exact o16) rfl⟩
theorem mB{es:List n_}{M1 M2:kD}{r:Row}:r∈bQ es M1 M2↔(∃e∈es,r=jC e)\/(∃M,(M=M1\/M=M2)/\∃j v,M.vals[j]?=some v/\r=qg M j v):=by
 unfold bQ;simp only[gH,bR,xo,nX];constructor
 · rintro(⟨e,he,rfl⟩|⟨j,v,h,rfl⟩|⟨j,v,h,rfl⟩);·exact .inl ⟨e,he,rfl⟩
   ·exact .inr ⟨M1,.inl rfl,j,v,h,rfl⟩
   ·exact .inr ⟨M2,.inr rfl,j,v,h,rfl⟩
 · rintro(⟨e,he,rfl⟩|⟨M,rfl|rfl,j,v,h,rfl⟩);·exact .inl ⟨e,he,rfl⟩
   ·exact .inr (.inl ⟨j,v,h,rfl⟩)
   ·exact .inr (.inr ⟨j,v,h,rfl⟩)
section
variable{n:Nat}{K:KP}{E:KP}{S:CS}{A:Ad}{es:List n_}{M M1 M2:kD}
structure EW(M:kD):Prop where
 w:1<=M.w/\M.w<=17
 num:M.num=0\/M.num=5
 len:M.vals.length<=4
 cls:M.cls=594\/M.cls=637
theorem Wo.map(W:Wo S A es M1 M2)(h:M=M1\/M=M2):gO S M/\EW M/\mapOf M1 M2 M.num=some M:=by
 rcases h with rfl|rfl;·exact⟨W.o1,⟨⟨W.c1.2.2.1,W.c1.2.2.2.1⟩,.inl W.c1.2.1,by refine aC W.c1.2.2.2.2 ?_;decide,.inl W.c1.1⟩,by refine aC W.c1.2.1 ?_;rfl⟩
 ·exact⟨W.o2,⟨⟨W.c2.2.2.1,W.c2.2.2.2.1⟩,.inr W.c2.2.1,by refine aC W.c2.2.2.2.2 ?_;decide,.inr W.c2.1⟩,by refine aC W.c2.2.1 ?_;rfl⟩
theorem jst{j l w:Nat}{s:Int}(hj:j<l)(hl:l<=4)(hw:1<=w/\w<=17)(c:(w:Int)+8<=s/\s<=w+15/\8<=s):0<=(j:Int)*s/\(j:Int)*s<=96:=have h0:0<=s:=aG (by decide) c.2.2
 have h1:s<=32:=aG c.2.1 (cX (aX.mpr hw.2) 15)
 ⟨gG (aN _) h0,aG (pP (aX.mpr (gB (aV hj hl))) h1 h0 (by decide)) (by decide)⟩
theorem PP(W:Wo S A es M1 M2)(h:M=M1\/M=M2){j:Nat}{v:Addr×List UInt8}(f:M.vals[j]?=some v){i:Int}(h1:hZ M.num j M.w<=i)(h2:i<hZ M.num j M.w+M.w):J0 M1 M2 i=some (hZ M.num j M.w,v.1,v.2)/\16777216<=i/\i<1879048192:=by
 refine iR (W.map h) λC F T=>?_;have c:=n7 (w:=(M.w:Int)) ⟨o0,by have:=F.w.2;exact o7 this⟩;have hw:=F.w;have hy:=jst ((aR.mp f).1) F.len hw c;have hn:0<=M.num/\M.num<=5:=by rcases F.num with h|h<;>(first|exact o565 h|exact o566 h)
 refine iK (⟨_,rfl⟩:∃off:Int,off=i-(16777216+1048576*M.num+j*gJ M.w)) λoff O=>?_;have e1:(i-16777216)/1048576=M.num:=aP8 h1 hy hw h2;have U:(off+j*gJ M.w)/gJ M.w=j:=by exact aC (Gc _ _ (zj (aT (by decide) c.2.2))) (aC (pO (O▸eW h1) (aF2 c h2 O)) aM7)
 refine⟨?_,(vV ((Int.ediv_nonneg_iff_of_pos (by decide)).mp (e1▸hn.1))),aD4 hn e1⟩;unfold J0;refine aC e1 (aC T ?_);show(M.vals[((i-16777216)%1048576/gJ M.w).toNat]?).map (λv=>(hZ M.num ((i-16777216)%1048576/gJ M.w) M.w,v.1,v.2))=_;refine aC (aC8 e1 O) (aC U (aC (dO _) (aC f ?_)));rfl
theorem RD(W:Wo S A es M1 M2)(h:J0 M1 M2 pl=some (b,o,oc))(hp:16777216<=pl):∃r∈bQ es M1 M2,r.base=b/\r.o=o/\r.oc=oc/\r.wr=true/\oc.length<=17:=by
 unfold J0 at h;rcases T:mapOf M1 M2 ((pl-16777216)/1048576)with _|M;·exact iH (T▸h)
 · rw[T]at h;refine aY (d_.mp h) λv f e=>?_;clear hp h;cases e;have s:M=M1\/M=M2:=by
     unfold mapOf at T;split at T;·obtain rfl:=aE T;exact .inl rfl
     · split at T;·obtain rfl:=aE T;exact .inr rfl
       ·exact iH T
   refine iR (W.map s) λC F a=>⟨_,mB.mpr (.inr ⟨M,s,_,v,f,rfl⟩),?_,rfl,rfl,rfl,?_⟩
   · show hZ M.num _ M.w=_;exact aC (mH (vk (gM _ (by decide)) (o32 (n7 (w:=(M.w:Int)) ⟨o0,by have:=F.w.2;exact o7 this⟩)))) rfl
   ·refine aC ((C.b v (bG f)).2) ?_;exact F.w.2
theorem Df(W:Wo S A es M1 M2)(hw:1<=w)(hr:r∈bQ es M1 M2)(hi:fS r pl w):(∃e∈es,r=jC e/\pl<16777216)\/(16777216<=pl/\pl<1879048192/\J0 M1 M2 pl=some (r.base,r.o,r.oc)/\r.wr=true):=by
 rcases mB.mp hr with⟨e,he,rfl⟩|⟨M,T,j,v,f,rfl⟩
 · have h3:=(W.ok.each e he).2.1;have h2:pl+w<=e.g.base+(e.g.oc.length:Int):=hi.2;exact .inl ⟨e,he,rfl,aK7 hw h3 h2⟩
 · have hl:=((W.map T).1.b v (bG f)).2;have h2:pl+w<=hZ M.num j M.w+(v.2.length:Int):=hi.2;exact iR (PP W T f hi.1 (by rw[hl]at h2;exact(aT (pF _ (aT (by decide) hw)) h2))) λa b c=>.inr ⟨b,c,a,rfl⟩
theorem DQ(W:Wo S A es M1 M2)(hp:16777216<=pl/\pl<1879048192)(v:J0 M1 M2 pl=none->K .none S)(kS:∀b o oc,J0 M1 M2 pl=some (b,o,oc)->∀r d c,S.le c->kX c r d o ⟨aD "value",b,oc,true⟩->K (.ref r) c):aM (n+4) (.st 231) [.ref A.m,.int pl] K E S:=by
 refine aC (qT _ _ _) ?_;refine fT (λl m q w P=>dS (MI ?_));refine fV (decide_eq_true hp.1) ?_;exact Cw (fV (decide_eq_true hp.2) (iM W (g:=224) (by kernel_rfl) (by kernel_rfl) (eS (by kernel_rfl) (As W hp (λh=>q _ _ ⟨_,CS.le_refl,v h⟩) (λb o oc h r d c le X=>q _ _ ⟨_,CS.le_refl,kS b o oc h r d c le X⟩)))))
theorem HO(W:Wo S A es M1 M2)(hw:1<=w)(v:(∀r∈bQ es M1 M2,¬fS r pl w)->K .none S)(kS:∀I d o g c,S.le c->kX c I d o g->bN g.oc.length->((∃r∈bQ es M1 M2,fS r pl w/\r.base=g.base/\r.o=o/\r.oc=g.oc/\r.wr=g.wr)\/(¬(g.base<=pl/\pl+w<=g.base+(g.oc.length:Int))/\∀r∈bQ es M1 M2,¬fS r pl w))->K (.ref I) c):aM (n+4) (.st 231) [.ref A.m,.int pl] K E S:=by
 by_cases hp:16777216<=pl/\pl<1879048192
 · refine DQ W hp (λh=>v λr hr hi=>?_) (λb o oc h r d c le Z=>?_)
   · rcases Df W hw hr hi with⟨_,_,_,h2⟩|⟨_,_,h2,_⟩;·exact o83 hp h2
     ·exact iH (h.symm.trans h2)
   · refine eC λf=>gA (RD W h hp.1) λrow X R k=>?_;obtain rfl:=R;refine bX k λp U=>?_;clear k;obtain rfl:=p;refine bX U λH B=>?_;clear U;obtain rfl:=H;refine bX B λJ hl=>?_;clear B;refine f (kS _ _ _ _ c le Z ((aB hl (by decide))) ?_);by_cases hin:fS row pl w;·exact .inl ⟨row,X,hin,rfl,rfl,rfl,J⟩
     · refine .inr ⟨hin,λL hr hi=>?_⟩;rcases Df W hw hr hi with⟨_,_,_,h2⟩|⟨_,_,h2,_⟩;·exact o83 hp h2
       · rw[h]at h2;simp only[dK,p_]at h2;refine iR h2 λe1 s Y=>?_;clear h2;exact hin ⟨by refine aC e1 ?_;exact hi.1,by refine aC e1 (aC Y ?_);exact hi.2⟩
 · refine EJ W hp λlo h1 h2 h3=>?_;have q:∀r∈bQ es M1 M2,fS r pl w->∃i e,es[i]?=some e/\i<lo/\r=jC e:=by
     intro r hr hi;refine eC λf=>?_;rcases Df W hw hr hi with⟨e,he,rfl,_⟩|⟨a,b,_⟩;refine f ?_
     · refine iK (cT he) λi T=>?_;refine⟨i,e,T,eC λf=>?_,rfl⟩;rcases F6 i lo with h|h;refine f ?_;·exact h
       · have:=h3 i e h T;have h4:e.g.base<=pl:=hi.1;exact aC0 this h4
     ·exact absurd ⟨a,b⟩ hp
   clear hp h3;rcases lo with _|j;·exact v λr hr hi=>by refine dZ (q r hr hi) λi e m h m=>?_;exact aF4 h
   · have hj:j<es.length:=o33 h1;show K (match es[j]? with|some e=>.ref e.r|none=>.none) S;refine aC (aF hj) ?_;have F:=dB hj;refine kS _ _ _ _ S CS.le_refl (W.ents _ F).1 (TH W F) ?_;by_cases hin:fS (jC es[j]) pl w;·exact .inl ⟨_,mB.mpr (.inl ⟨_,F,rfl⟩),hin,rfl,rfl,rfl,rfl⟩
     · refine .inr ⟨hin,λr hr hi=>?_⟩;clear v kS h1 F;refine dZ (q r hr hi) λi e he G l=>?_;obtain rfl:=l;clear q hr;obtain⟨O,rfl⟩:=aR.mp he;rcases oQ (gB G)with h|h;·have a1:=fN.mp W.ok.apart i j O hj h;exact aH2 hw a1 hi.2 (h2 j _ (uu j) (aF hj))
       · clear W hw h2;subst h;exact hin hi
noncomputable def oV(S':CS)(a:Addr)(x:Str):Prop:=∃d,S' a=some (.exc 71 (some d))/\S' d=some (.flds [(aD "what",.str x),(aD "at",.none)])
theorem Av(k:∀a b,S.le b->oV b a x->E (.ref a) b):((rC ((mG (aM (n+1)) 71 [.str x]).bind λv=>Internal.M.pure v)).bind λv=>(Internal.M.raise v:Internal.M fZ)) KF E S:=Nm λa d b le c h1 h2=>⟨⟨a,71,some d,rfl,h1,by kernel_rfl⟩,k a b le ⟨d,h1,h2⟩⟩
theorem DD(W:Wo S A es M1 M2)(hw:1<=w)(x:(∀r∈bQ es M1 M2,¬fS r pl w)->∀a b,S.le b->oV b a "no memory there"->E (.ref a) b)(kS:∀row∈bQ es M1 M2,fS row pl w->∀I d nm b,S.le b->kX b I d row.o ⟨nm,row.base,row.oc,row.wr⟩->bN row.oc.length->K (.tup [.ref I,.int (pl-row.base)]) b):aM (n+5) (.st 238) [.ref A.m,.int pl,.int w] K E S:=by
 refine aC (AZ _ _ _ _) ?_;refine fT (λl s q y P=>iM W (g:=231) (by kernel_rfl) (by kernel_rfl) (eS (by kernel_rfl) ?_));refine HO W hw (λh=>?_) (λI d o g b le X hf h=>?_);·exact dS (IC (fV rfl (fV rfl (Av λa b le f=>P _ _ ⟨b,CS.le_refl,⟨a,_,rfl,f.choose_spec.1⟩,x h a b le f⟩))))
 · refine dS (IC (eB rfl (pM (g:=113) X.i X.f (by kernel_rfl) (by kernel_rfl) (eS (by kernel_rfl) (HJ X hf (qw ?_))))));rcases h with⟨row,hr,m,e1,rfl,U,J⟩|⟨hn,v⟩
   · have hd:decide (g.base<=pl/\pl+w<=g.base+(g.oc.length:Int))=true:=by
       refine decide_eq_true ?_;refine iZ e1 (iZ U ?_);exact m
     refine UC (aC hd rfl) ?_;refine eB rfl (eB rfl ?_);refine cK rfl (cK rfl (cK rfl (qj X ?_)));refine wc (fD (dP rfl) (q _ _ ⟨b,CS.le_refl,iZ (e1) (eC λe=>?_)⟩));obtain⟨nm,gb,Y,gw⟩:=g;refine e ?_;dsimp only at e1 U J;clear W hw e hd;subst e1 U J;exact kS row hr m I d nm b le X hf
   ·exact aC (decide_eq_false hn) (fV rfl (fV rfl (Av λa p B f=>P _ _ ⟨p,CS.le_refl,⟨a,_,rfl,f.choose_spec.1⟩,x v a p (CS.le_trans le B) f⟩)))
theorem Ai(W:Wo S A es M1 M2)(hw:1<=w)(x:(∀r∈bQ es M1 M2,¬fS r pl w)->K (.bool false) S)(kS:∀row∈bQ es M1 M2,fS row pl w->K (.bool true) S):aM (n+5) (.st 245) [.ref A.m,.int pl,.int w] K E S:=by
 refine aC (wa _ _ _ _) ?_;refine fT (λl p q y P=>iM W (g:=231) (by kernel_rfl) (by kernel_rfl) (eS (by kernel_rfl) ?_));refine HO W hw (λh=>?_) (λI d o g b le X hf h=>?_);·refine qL (qw (eB rfl (q _ _ ⟨S,CS.le_refl,x h⟩)))
 · refine qL (qw (fV rfl (pM (g:=113) X.i X.f (by kernel_rfl) (by kernel_rfl) (eS (by kernel_rfl) (HJ X hf (q _ _ ⟨S,le,?_⟩))))));rcases h with⟨row,hr,m,e1,rfl,U,J⟩|⟨hn,v⟩
   · have hd:decide (g.base<=pl/\pl+w<=g.base+(g.oc.length:Int))=true:=by refine decide_eq_true ?_;refine iZ e1 (iZ U ?_);exact m
     refine aC hd ?_;exact kS row hr m
   ·refine aC (decide_eq_false hn) ?_;exact x v
noncomputable def fG(r:Row)(pl:Int)(w:Nat):List UInt8:=(r.oc.drop (pl-r.base).toNat).take w
theorem sH{r:Row}{i:Int}{w:Nat}(h:fS r i w):(fG r i w).length=w:=by unfold fG;refine aC cH (aC ME ?_);exact aH0 h.2 h.1
theorem uW{i:Int}{w:Nat}(W:Wo S A es M1 M2)(hw:1<=w/\w<=1000)(v:(∀r∈bQ es M1 M2,¬fS r i w)->∀a b,S.le b->oV b a "no memory there"->E (.ref a) b)(kS:∀row∈bQ es M1 M2,fS row i w->K (.bytes (fG row i w)) S):aM (n+6) (.st 252) [.ref A.m,.int i,.int w] K E S:=by
 refine aC (yI _ _ _ _) ?_;refine fT (λl o q x P=>iM W (g:=238) (by kernel_rfl) (by kernel_rfl) (eS (by kernel_rfl) ?_));refine DD W (o89 hw) (λh a b le f=>P _ _ ⟨b,CS.le_refl,⟨a,_,rfl,f.choose_spec.1⟩,v h a b le f⟩) (λrow hr m I d nm b le X hf=>?_);have h2:=m.2;refine unpack_ rfl (sE (sE (BV (cK rfl (tb X (cK rfl (cK rfl (cK rfl (jA (RU X.o hf ⟨o36 m.1,o88 h2 hf⟩ ⟨o87 m.1,o86 h2 hf⟩ ⟨o85,o84 h2⟩ λc e=>aC aG5 (xG aH (by show(fG row i w).length<=100000;refine aC (sH m) ?_;exact o35 hw) (q _ _ ⟨S,CS.le_trans le (aQ e),kS row hr m⟩))))))))))))
theorem K9{i:Int}{w:Nat}(W:Wo S A es M1 M2)(hw:1<=w/\w<=20)(v:(∀r∈bQ es M1 M2,¬fS r i w)->∀a b,S.le b->oV b a "no memory there"->E (.ref a) b)(kS:∀row∈bQ es M1 M2,fS row i w->K (.int (BZ (fG row i w))) S):aM (n+7) (.st 266) [.ref A.m,.int i,.int w] K E S:=by
 refine aC (A6 _ _ _ _) ?_;refine fT (λl o q x P=>iM W (g:=252) (by kernel_rfl) (by kernel_rfl) (eS (by kernel_rfl) ?_));exact uW W ⟨hw.1,(aB hw.2 (by decide))⟩ (λh a b le f=>P _ _ ⟨b,CS.le_refl,⟨a,_,rfl,f.choose_spec.1⟩,v h a b le f⟩) (λrow hr m=>vK ((sH m).symm▸o90 hw) (q _ _ ⟨S,CS.le_refl,kS row hr m⟩))
noncomputable def jS(r:Row)(pl:Int)(b:List UInt8):List UInt8:=r.oc.take (pl-r.base).toNat++b++r.oc.drop (pl-r.base+b.length).toNat
theorem UH(W:Wo S A es M1 M2)(hb:1<=b.length/\b.length<=1000)(kN:(∀r∈bQ es M1 M2,¬fS r pl b.length)->∀a S',S.le S'->oV S' a "no memory there"->E (.ref a) S')(kR:∀row∈bQ es M1 M2,fS row pl b.length->row.wr=false->∀a S',S.le S'->oV S' a "read only"->E (.ref a) S')(kS:∀row∈bQ es M1 M2,fS row pl b.length->row.wr=true->K .none (S.put row.o (.barr (jS row pl b)))):aM (n+6) (.st 259) [.ref A.m,.int pl,.bytes b] K E S:=by
 refine aC (BX _ _ _ _) ?_;refine fT (λK_ E_ rK nK eK=>iM W (g:=238) (by kernel_rfl) (by kernel_rfl) (Ce (by unfold bN;exact o35 hb) (eS (by kernel_rfl) ?_)));refine DD W (o89 hb) (λh a S' le f=>eK _ _ ⟨S',CS.le_refl,⟨a,_,rfl,f.choose_spec.1⟩,kN h a S' le f⟩) (λrow hr hin reg d nm S' le rg hf=>?_);have h2:=hin.2;have hz:row.oc.length<=100000:=hf;refine unpack_ rfl (sE (sE (BV (dS (cK rfl (LZ rg (qw ?_)))))));rcases hwr:row.wr with _|_;·exact fV rfl (Av λa S'' le2 f=>eK _ _ ⟨S'',CS.le_refl,⟨a,_,rfl,f.choose_spec.1⟩,kR row hr hin hwr a S'' (CS.le_trans le le2) f⟩)
 · refine eB rfl (cK rfl (cK rfl (tb rg (cK rfl (cK rfl (cK rfl (Ce (by unfold bN;exact o35 hb) (jA (ZR rg.o hf ⟨o36 hin.1,o88 h2 hz⟩ ⟨o87 hin.1,o86 h2 hz⟩ ⟨o85,o84 h2⟩ aO8 (nK _ _ ⟨_,?_,kS row hr hin hwr⟩))))))))));intro x y e;unfold oz at e|-;split at e;·rename_i q;refine aC (if_pos q) ?_;exact e
   ·rename_i q;refine aC (if_neg q) ?_;exact le _ _ e
theorem SK{i o:Int}{w:Nat}(W:Wo S A es M1 M2)(c:1<=w/\w<=20)(v:(∀r∈bQ es M1 M2,¬fS r i w)->∀a b,S.le b->oV b a "no memory there"->E (.ref a) b)(X:∀row∈bQ es M1 M2,fS row i w->row.wr=false->∀a b,S.le b->oV b a "read only"->E (.ref a) b)(kS:∀row∈bQ es M1 M2,fS row i w->row.wr=true->K .none (S.put row.o (.barr (jS row i (ud o w))))):aM (n+7) (.st 273) [.ref A.m,.int i,.int w,.int o] K E S:=by
 refine aC (zz _ _ _ _ _) ?_;refine fT (λl p q x P=>iM W (g:=259) (by kernel_rfl) (by kernel_rfl) (Ew (o90 c) (eS (by kernel_rfl) ?_)));refine UH W (lT▸(⟨c.1,aB c.2 (by decide)⟩)) (λh a b le f=>P _ _ ⟨b,CS.le_refl,⟨a,_,rfl,f.choose_spec.1⟩,v (by rw[lT]at h;exact h) a b le f⟩) (λrow hr m T a b le f=>P _ _ ⟨b,CS.le_refl,⟨a,_,rfl,f.choose_spec.1⟩,X row hr (by rw[lT]at m;exact m) T a b le f⟩) (λrow hr m T=>x _ _ ⟨_,CS.le_refl,kS row hr (by rw[lT]at m;exact m) T⟩)
end
structure Me(S:CS)(A:Ad)(es:List n_):Prop where
 mi:S A.m=some (.inst 281 A.dm)mf:S A.dm=some (.flds (sY A))mR:S A.R=some (.list (es.map λe=>.ref e.r))ents:∀e∈es,kX S e.r e.d e.o e.g
 ok:uY es
 few:es.length<=60
theorem Wo.me(W:Wo S A es M1 M2):Me S A es:=⟨W.mi,W.mf,W.mR,λe he=>(W.ents e he).1,W.ok,W.few⟩
theorem Me.le(W:Me S A es)(h:S.le S'):Me S' A es:=⟨h _ _ W.mi,h _ _ W.mf,h _ _ W.mR,λe he=>(W.ents e he).le h,W.ok,W.few⟩
noncomputable def free(es:List n_)(b e:Int):Prop:=∀x∈es,x.g.base+(x.g.oc.length:Int)<b\/e<x.g.base
theorem Dh{es:List n_}(ok:uY es){i j:Nat}{a b:n_}(ha:es[i]?=some a)(c:es[j]?=some b)(t:i<=j):a.g.base<=b.g.base:=by
 obtain⟨hi,L⟩:=aR.mp ha;refine iZ L ?_;obtain⟨hj,L⟩:=aR.mp c;refine iZ L ?_;clear ha c L;rcases oQ t with h|rfl
 · have:=fN.mp ok.apart i j hi hj h;exact o34 this
 ·exact o82
section
variable{n:Nat}{K:KP}{E:KP}{S:CS}{A:Ad}{es:List n_}{M1 M2:kD}
theorem qh(W:Me S A es)(k:K (.ref A.R) S):dI (.ref A.m) "regions" K E S:=uq (i:=1) W.mi W.mf (by kernel_rfl) (by kernel_rfl) (by kernel_rfl) rfl k
theorem Dr(W:Me S A es)(hi:i<es.length)(k:K (.ref (es[i]).r) S):cJ (.ref A.R) (.int i) K E S:=by have:=W.few;exact oY (f:=.pure) W.mR ⟨o0,(fE (aT (bV.mpr hi) (aX.mpr this)) (by decide))⟩ (by refine aC (dO _) (aC (bE) (aC (aF hi) ?_));rfl) k
theorem LH(P:Prop)(G:P->KB false S)(h0:t=false->P)(h:(P->KB false S)->t=true->X KB E S):wV t X (jR false) KB E S:=⟨λq=>h G q,λq=>G (h0 q)⟩
theorem UW{r d o:Addr}{g:Reg}(W:Me S A es)(X:kX S r d o g)(hz:bN g.oc.length)(w:¬free es g.base (g.base+g.oc.length)->∀a b,S.le b->oV b a "a region in the way"->E (.ref a) b)(kS:free es g.base (g.base+g.oc.length)->∀l:Nat,l<=es.length->(∀i e,i<l->es[i]?=some e->e.g.base<=g.base)->(∀i e,l<=i->es[i]?=some e->g.base<e.g.base)->K .none (S.put A.R (.list ((es.map λe=>dG e.r).take l++.ref r::(es.map λe=>dG e.r).drop l)))):aM (n+2) (.st 205) [.ref A.m,.ref r] K E S:=by
 refine aC (B2 _ _ _) ?_;have hf:=W.few;have U:∀{K:KP}{E:KP},K (.int es.length) S->qM 1 [.ref A.R] K E S:=λk=>qX (f:=.pure) W.mR (by refine aC (aJ _) ?_;unfold bN;exact o6 hf) (by refine aC (aJ _) ?_;exact k);refine fT (λL H J C Q=>dS (Ml es.length (λm vs b=>∃j:Nat,vs=[some (.ref A.m),some (.ref r),some (.int j),none,none]/\b=S/\j<=es.length/\es.length-j<=m/\(∀i e,i<j->es[i]?=some e->e.g.base<=g.base)) ⟨0,rfl,rfl,o27,o81,λi e h=>absurd h (i4 i)⟩ ?_));intro m vs b F q1_ B;refine aY q1_ λj q z=>?_;clear q1_;obtain rfl:=q;refine bX z λv T=>?_;clear z;obtain rfl:=v;refine iR T λh1 h2 h3=>?_;clear T;have fin:(∀i e,j<=i->es[i]?=some e->g.base<e.g.base)->F false b:=by
   intro h4;refine B _ _ (λh=>by contradiction) (λs=>?_);have Y:(0<j->¬g.base<=(es.getD (j-1) ⟨0,0,0,0,g⟩).g.base+((es.getD (j-1) ⟨0,0,0,0,g⟩).g.oc.length:Int))->(j<es.length->¬(es.getD j ⟨0,0,0,0,g⟩).g.base<=g.base+(g.oc.length:Int))->free es g.base (g.base+g.oc.length):=by
     intro O y x hx;refine iK (cT hx) λi hi=>?_;obtain⟨P,rfl⟩:=aR.mp hi;rcases F6 i j with t|t
     · left;have hj:j-1<es.length:=(aV (CD (aZ (eR _) t) (by decide)) h1);have O:=O (Gv t);rw[aS,aF hj]at O;have O:¬g.base<=(es[j-1]).g.base+((es[j-1]).g.oc.length:Int):=O;rcases oQ (show i<=j-1 by exact(vQ t))with h|h
       · have:=fN.mp W.ok.apart i (j-1) P hj h;exact(fE this (bJ (bZ (aN _)) (l_.mp O)))
       ·subst h;exact(l_.mp O)
     · right;have hj:j<es.length:=(aZ t P);have y:=y hj;rw[aS,aF hj]at y;have y:¬(es[j]).g.base<=g.base+(g.oc.length:Int):=y;have:=Dh W.ok (aF hj) hi t;exact(aT (l_.mp y) this)
   have bad:∀{x:n_},x∈es->g.base<=x.g.base+(x.g.oc.length:Int)->x.g.base<=g.base+(g.oc.length:Int)->¬free es g.base (g.base+g.oc.length):=by
     intro x hx h1 h2 hf;rcases hf x hx with h|h<;>(first|exact o568 h h1|exact o568 h h2)
   refine dS (cK rfl (Y_ (LH (0<j->¬g.base<=(es.getD (j-1) ⟨0,0,0,0,g⟩).g.base+((es.getD (j-1) ⟨0,0,0,0,g⟩).g.oc.length:Int)) (λO=>?_) (λh0=>?_) (λG ht=>?_))))
   · refine eB rfl (dS (cK rfl (cK rfl (qh W (U (Cw (LH (j<es.length->¬(es.getD j ⟨0,0,0,0,g⟩).g.base<=g.base+(g.oc.length:Int)) (λy=>?_) (λh0=>?_) (λG ht=>?_))))))))
     · refine eB rfl (cK rfl (qh W (QI W.mR (cK rfl (cK rfl (yh (R5 W.mR ⟨o0,by refine aC (aJ _) ?_;exact(aX.mpr h1),by refine aC (aJ _) ?_;unfold bN;exact o6 hf⟩ (C _ _ ⟨_,CS.le_refl,?_⟩))))))));exact aC (dO _) (kS (Y O y) j h1 h3 h4)
     · have:=of_decide_eq_false h0;intro h;exact(absurd (bV.mpr h) this)
     · have hj:j<es.length:=by have:=of_decide_eq_true ht;exact o91 this
       refine cK rfl (pM (g:=106) X.i X.f (by kernel_rfl) (by kernel_rfl) (eS (by kernel_rfl) (Lx X hz (cK rfl (qh W (cK rfl (Dr W hj (qj (W.ents _ (dB hj)) (YC (Fk (λD=>?_) (λD=>G λs=>?_)))))))))))
       · refine fV rfl ?_;have h5:=h4 j _ (bM _) (aF hj);exact Av λa p le f=>Q _ _ ⟨p,CS.le_refl,⟨a,_,rfl,f.choose_spec.1⟩,w (bad (dB hj) (aH3 h5) (of_decide_eq_true D)) a p le f⟩
       · have D:=of_decide_eq_false D;refine aC (aS) (aC (aF hj) ?_);exact D
   · have:=of_decide_eq_false h0;intro h;exact(absurd (vq.mpr h) this)
   · have hj:j-1<es.length:=by have:=of_decide_eq_true ht;exact(aV (CD (vq.mp this) (by decide)) h1)
     refine cK rfl (qh W (cK rfl (wc (aC (ad0 (bV.mp (of_decide_eq_true ht))).symm (Dr W hj ?_)))));have u:=W.ents _ (dB hj);refine pM (g:=106) u.i u.f (by kernel_rfl) (by kernel_rfl) (eS (by kernel_rfl) (Lx u ((λhi=>by have:=(W.ok.each _ (dB hi)).2.2;exact o1 this:∀{i:Nat}(hi:i<es.length),bN (es[i]).g.oc.length) hj) (cK rfl (qj X (YC (Fk (λD=>?_) (λD=>G λs=>?_)))))))
     · refine fV rfl ?_;have h5:=h3 (j-1) _ (CD (bV.mp (of_decide_eq_true ht)) Nat.one_pos) (aF hj);exact Av λa p le f=>Q _ _ ⟨p,CS.le_refl,⟨a,_,rfl,f.choose_spec.1⟩,w (bad (dB hj) (of_decide_eq_true D) (o37 h5)) a p le f⟩
     · have D:=of_decide_eq_false D;refine aC (aS) (aC (aF hj) ?_);exact D
 refine cK rfl (cK rfl (qh W (U (Cw (Fk (λht=>?_) (λht=>fin λi e hi he=>?_))))))
 · have hj:j<es.length:=by have:=of_decide_eq_true ht;exact o91 this
   refine cK rfl (qh W (cK rfl (Dr W hj (qj (W.ents _ (dB hj)) (cK rfl (qj X (MI (Fk (λD=>?_) (λD=>fin λi e hi he=>?_)))))))))
   · have D:=of_decide_eq_true D;refine B _ _ (λs=>⟨m-1,((mM (aV (tw hj) h2)).symm),λI c=>cK rfl (jA (c _ _ ⟨j+1,?_,rfl,o50 hj,(vP h2 1),λi e hi he=>?_⟩))⟩) (λh=>by contradiction);·refine aC (show((j+1:Nat):Int)=(j:Int)+1 by exact rfl) ?_;rfl
     · have:=Dh W.ok he (aF hj) (gB hi);exact o80 this D
   · have D:=of_decide_eq_false D;have:=Dh W.ok (aF hj) he hi;exact o79 this D
 ·exact absurd (bV.mpr (aZ hi (aR.mp he).1)) (of_decide_eq_false ht)
end
theorem hU{S c:CS}(h:S.le c)(ha:S a=none):S.le (c.put a o):=λb x e=>cC (λq=>by exact iH (ha▸q▸e)) (h b x e)
noncomputable def nu(r:Row):CV:=.tup [.int r.base,.ref r.l,.bool r.wr]
theorem xF{M:kD}:∀{l:List (Addr×List UInt8)}{i j:Nat},(fI M i l)[j]?=(l[j]?).map (qg M (i+j)):=by
 intro l;induction l with |nil=>intro i j;rfl|cons v l k=>
  intro i j;rcases j with _|j;·rfl
  ·exact(k (i:=i+1) (j:=j)).trans (by refine aC (show i+1+j=i+(j+1)by exact o16) ?_;rfl)
theorem oi{M:kD}:∀{l:List (Addr×List UInt8)}{i:Nat},(fI M i l).length=l.length:=by intro l;induction l with|nil=>exact rfl|cons v l j=>intro i;exact congrArg (·+1) j
theorem GC:∀{l:List (Addr×List UInt8)}{i:Nat},(lA i l).map (·.1)=(cF l.length).map λj=>((i+j:Nat):Int):=by intro l;induction l with|nil=>intro i;rfl|cons v l k=> intro i;refine aC (show lA i (v::l)=((i:Int),.ref v.1)::lA (i+1) l from rfl) (aC fH (aC k (aC kQ (aC uE (aC fH (aC rQ ?_))))));congr 1;refine iY λj a=>?_;show((i+1+j:Nat):Int)=((i+(j+1):Nat):Int);congr 1;exact o16
theorem wY:∀{l:List (Addr×List UInt8)}{i:Nat},(lA i l).length=l.length:=by intro l;induction l with|nil=>exact rfl|cons v l j=>intro i;exact congrArg (·+1) j
theorem E9(hp:ns.Perm ((lA 0 l).map (·.1)))(hs:ns.Pairwise (·<=·)):ns=(cF l.length).map λ(j:Nat)=>(j:Int):=by
 replace hp:=GC▸hp;replace hp:=(iY λj c=>by simp:((cF l.length).map λj=>((0+j:Nat):Int))=(cF l.length).map λ(j:Nat)=>(j:Int))▸hp;refine Ac (le:=(·<=·)) (λa b c c h1 h2=>Ur h1 h2) hs ?_ hp;exact qP pK ((List.pairwise_lt_range (n:=l.length)).imp λh=>(aX.mpr (bK h)))
section
variable{n:Nat}{K:KP}{E:KP}{S:CS}{A:Ad}{es:List n_}{M1 M2:kD}
theorem E2(W:Wo S A es M1 M2)(hr:r∈bQ es M1 M2):(S r.l=some (.list (mC r.oc))\/S r.l=some (.barr r.oc))/\r.oc.length<=600:=by
 rcases mB.mp hr with⟨e,he,rfl⟩|⟨M,T,j,v,f,rfl⟩;·exact⟨.inl (W.ents e he).2,(W.ok.each e he).2.2⟩
 · have:=(W.map T).1.b v (bG f);refine⟨.inr this.1,?_⟩;show v.2.length<=600;refine aC this.2 ?_;have:=(W.map T).2.1.w.2;exact(aB this (by decide))
theorem Iz(W:Wo S A es M1 M2)(hr:r∈bQ es M1 M2)(k:K (.int r.oc.length) S):qM 1 [.ref r.l] K E S:=by
 obtain⟨h|h,hl⟩:=E2 W hr;·exact qX (f:=.pure) h (by refine aC cW ?_;unfold bN;exact o1 hl) (cW▸k)
 ·exact UP (f:=.pure) h (by unfold bN;exact o1 hl) k
theorem KH(W:Wo S A es M1 M2){r:Row}(hr:r∈bQ es M1 M2){a:Int}(ha:0<=a/\a<r.oc.length)(k:K (.int (r.oc.getD a.toNat 0).toNat) S):cJ (.ref r.l) (.int a) K E S:=by
 refine bX (E2 W hr) λh hl=>?_;have F:a.toNat<r.oc.length:=o76 ha;have e:r.oc.getD a.toNat 0=r.oc[a.toNat]:=by refine aC (aS) (aC (aF F) ?_);rfl
 replace k:=e▸k;rcases h with h|h
 · refine oY (f:=.pure) (v:=.int (r.oc[a.toNat]).toNat) h ⟨ha.1,o93 ha hl⟩ ?_ k;unfold mC;refine aC (bE) (aC (aF F) ?_);rfl
 ·exact XX (f:=.pure) h ⟨ha.1,o93 ha hl⟩ (aF F) k
theorem Bg(W:Wo S A es M1 M2):Ea (λ(a b:Row)=>a.base+(a.oc.length:Int)<b.base) (bQ es M1 M2):=by
 have slots:∀M,(M=M1\/M=M2)->Ea (λ(a b:Row)=>a.base+(a.oc.length:Int)<b.base) (fI M 0 M.vals):=by
   intro M T;refine iR (W.map T) λC F g=>?_;have c:=n7 (w:=(M.w:Int)) ⟨o0,by have:=F.w.2;exact o7 this⟩;refine qP fN ?_;intro i j hi hj t;have e1:=aF hi;have n:=aF hj;rw[xF]at e1 n;refine aY (d_.mp e1) λv f e1=>aY (d_.mp n) λu D n=>iZ e1 (iZ n ?_);show hZ M.num (0+i:Nat) M.w+(v.2.length:Int)<hZ M.num (0+j:Nat) M.w;refine aC ((C.b v (bG f)).2) ?_;unfold hZ;have h1:((0+i:Nat):Int)+1<=((0+j:Nat):Int):=(bV.mpr (Nat.add_lt_add_left t 0));have h2:=mK h1 (show 0<=gJ M.w by exact o32 c);replace h2:=(Int.one_mul _)▸((aw0 _ _ _)▸h2);exact aJ5 c h2
 have E:∀M,(M=M1\/M=M2)->∀r∈fI M 0 M.vals,16777216+1048576*M.num<=r.base/\r.base+(r.oc.length:Int)<16777216+1048576*M.num+1000:=by
   intro M T r hr;refine iR (W.map T) λC F g=>?_;have c:=n7 (w:=(M.w:Int)) ⟨o0,by have:=F.w.2;exact o7 this⟩;refine eJ (xo.mp hr) λj v f z=>?_;obtain rfl:=z;have hw:=F.w;show 16777216+1048576*M.num<=hZ M.num (0+j:Nat) M.w/\hZ M.num (0+j:Nat) M.w+(v.2.length:Int)<_;refine aC ((C.b v (bG f)).2) ?_;unfold hZ;refine aC (nX _) ?_;have hy:=jst ((aR.mp f).1) F.len hw c;exact⟨bZ hy.1,bJ (dF (kP _ _ _)) (hG (bJ (jM hy.2 (aX.mpr hw.2)) (by decide)) _)⟩
 unfold bQ;refine qP nQ (qP nQ (⟨?_,⟨slots M1 (.inl rfl),slots M2 (.inr rfl),λa ha b c=>?_⟩,λa ha b c=>?_⟩));·refine qP pK ?_;exact W.ok.apart
 · have h1:=(E M1 (.inl rfl) a ha).2;have h2:=(E M2 (.inr rfl) b c).1;replace h1:=W.c1.2.1▸h1;replace h2:=W.c2.2.1▸h2;exact(aT h1 (aG (by decide) h2))
 · refine aY (bR.mp ha) λe he x=>?_;obtain rfl:=x;have h0:=(W.ok.each e he).2.1;show e.g.base+(e.g.oc.length:Int)<b.base;refine eC λd=>?_;rcases gH.mp c with c|c;refine d ?_
   · have h1:=(E M1 (.inl rfl) b c).1;replace h1:=W.c1.2.1▸h1;exact(bJ h0 (aT (by decide) h1))
   · have h1:=(E M2 (.inr rfl) b c).1;replace h1:=W.c2.2.1▸h1;exact(d (bJ h0 (aT (by decide) h1)))
theorem Az(W:Wo S A es M1 M2):(bQ es M1 M2).length<=67/\7<=(bQ es M1 M2).length:=by unfold bQ;simp only[fB,aJ,oi,W.c1.2.2.2.2,W.c2.2.2.2.2];have:=W.few;exact aL5 this
theorem Hg(W:Wo S A es M1 M2)(hr:r∈bQ es M1 M2):0<=r.base/\r.base+(r.oc.length:Int)<=30000000:=by
 rcases mB.mp hr with⟨e,he,rfl⟩|⟨M,T,j,v,f,rfl⟩
 · have:=W.ok.each e he;exact⟨(aG (by decide) this.1),(aG this.2.1 (by decide))⟩
 · refine iR (W.map T) λC F a=>?_;have c:=n7 (w:=(M.w:Int)) ⟨o0,by have:=F.w.2;exact o7 this⟩;have hw:=F.w;show 0<=hZ M.num j M.w/\hZ M.num j M.w+(v.2.length:Int)<=_;refine aC ((C.b v (bG f)).2) ?_;unfold hZ;have hn:0<=M.num/\M.num<=5:=by rcases F.num with h|h<;>(first|exact o565 h|exact o566 h)
   have hy:=jst ((aR.mp f).1) F.len hw c;have h1:(1048576:Int)*M.num<=1048576*5:=fM hn.2 (by decide);exact⟨eM (eM (by decide) (gG (by decide) hn.1)) hy.1,aG (jM (jM (rM h1 _) hy.2) (aX.mpr hw.2)) (by decide)⟩
theorem Gz(W:Wo S A es M1 M2)(k:∀a b,S.le b->S a=none->b a=some (.list ((bQ es M1 M2).map nu))->K (.ref a) b):aM (n+1) (.st 670) [.ref A.w] K E S:=by
 refine aC (Ft _ _) ?_;refine fT (λK_ E_ rK nK eK=>kC rfl (fD (by decide) ?_));refine x9 W ?_;refine mQ W.wL (fD ⟨rfl,rfl⟩ (nr (qU (p:=A.L) (l:=es.map dN)) (λi acc b=>acc=(es.take i).map (λe=>nu (jC e))/\b=S) (λi acc b h=>by refine aC h.2 ?_;exact W.wL) ⟨rfl,rfl⟩ ?_ ?_))
 · intro i acc b K' hi q1_ hK;refine bX q1_ λX I=>?_;clear q1_;obtain rfl:=X;obtain rfl:=I;replace hi:=(aJ _)▸hi;have e0:(es.map dN).getD i .none=dN es[i]:=by refine aC (aS) (aC (bE) (aC (aF hi) ?_));rfl
   refine aC e0 (fV rfl (nD ⟨by decide,by decide⟩ rfl (nD ⟨by decide,by decide⟩ rfl (nD ⟨by decide,by decide⟩ rfl (fD (dP rfl) (fD (by refine aC (aJ _) (aC cH ?_);exact o38 W.few) ?_))))));refine hK _ _ ⟨aC iT (aC (aF hi) (aC bW ?_)),rfl⟩;rfl
 · intro acc b q1_;refine bX q1_ λJ U=>?_;clear q1_;obtain rfl:=J;obtain rfl:=U;refine aC (aJ _) (aC eU (om λa ha=>?_));have O:Wo (b.put a (.list (es.map λe=>nu (jC e)))) A es M1 M2:=W.le (aQ ha);have l1:b.le (b.put a (.list (es.map λe=>nu (jC e)))):=aQ ha;have a1:(b.put a (.list (es.map λe=>nu (jC e)))) a=some (.list (es.map λe=>nu (jC e))):=aH;generalize b.put a (.list (es.map λe=>nu (jC e)))=S1 at O l1 a1|-;refine dS (WU O (Jp O.mp (yh (au6 O.mp (XF O.mp (fD rfl ?_))))));refine A9 (ao1 (p:=A.Mp) (es:=[((0:Int),dG M1.a),(5,dG M2.a)])) (λi vs r=>∃D x3 m,vs=[some (.ref A.w),some (.ref a),D,x3,m,none]/\b.le r/\r a=some (.list ((es.map jC++([fI M1 0 M1.vals,fI M2 0 M2.vals].take i).flatten).map nu))) (λi vs r h=>by revert h;refineλg=>qi g λd d d d h d=>?_;clear g;exact h _ _ W.mp) ⟨none,none,none,rfl,l1,by refine aC a1 ?_;simp⟩ ?_ ?_
   · intro i vs r K' hi q1_ hK d;refine gD q1_ λD x3 m u f=>?_;clear q1_;obtain rfl:=u;refine bX f λl2 a2=>?_;clear f;obtain⟨M,hM,Y,H⟩:∃M,(M=M1\/M=M2)/\([((0:Int),dG M1.a),(5,dG M2.a)].getD i (0,.none)).2=.ref M.a/\([fI M1 0 M1.vals,fI M2 0 M2.vals].take (i+1)).flatten=([fI M1 0 M1.vals,fI M2 0 M2.vals].take i).flatten++fI M 0 M.vals:=by
       have:i=0\/i=1:=by simp at hi;exact o94 hi
       rcases this with rfl|rfl;·exact⟨M1,.inl rfl,rfl,by simp⟩
       ·exact⟨M2,.inr rfl,rfl,by simp⟩
     refine aC Y (eC λw=>iR ((W.le l2).map hM) λC F d=>w ?_);have hw:=F.w;have hl:=F.len;have hn:0<=M.num/\M.num<=5:=by rcases F.num with h|h<;>(first|exact o565 h|exact o566 h)
     refine cK rfl (y8 C F.cls (jA (uo (by decide) (ri (⟨Zp (aN _) (aX.mpr hw.2) (by decide),by decide⟩) (jA (dS (cK rfl ?_)))))));have P:((M.w:Int)+7)/8*8+8=gJ M.w:=rfl;refine iZ P (sj C F.cls (Vy C.V (wY▸(aZ hl (by decide))) λns hp hs c Z=>aC (E9 hp hs) (mQ aH (fD rfl ?_))));have l3:b.le (r.put c (.list (((cF M.vals.length).map λ(j:Nat)=>(j:Int)).map .int))):=CS.le_trans l2 (aQ Z);have a3:=gU (o:=.list (((cF M.vals.length).map λ(j:Nat)=>(j:Int)).map .int)) Z a2;have c3:(r.put c (.list (((cF M.vals.length).map λ(j:Nat)=>(j:Int)).map .int))) c=some (.list (((cF M.vals.length).map λ(j:Nat)=>(j:Int)).map .int)):=aH;generalize r.put c (.list (((cF M.vals.length).map λ(j:Nat)=>(j:Int)).map .int))=S3 at l3 a3 c3|-;generalize y:(((cF M.vals.length).map λ(j:Nat)=>(j:Int)).map eD)=cells at c3|-;have R:cells.length=M.vals.length:=by refine iZ y ?_;simp
     have Q:∀j,j<M.vals.length->cells.getD j .none=.int j:=by
       intro j hj;refine iZ y (aC (aS) (aC (bE) (aC (bE) (aC (jY hj) ?_))));rfl
     refine A9 (qU (p:=c) (l:=cells)) (λj vs T=>∃m,vs=[some (.ref A.w),some (.ref a),some (.ref M.a),some (.int (gJ M.w)),m,none]/\b.le T/\T c=some (.list cells)/\T a=some (.list ((es.map jC++([fI M1 0 M1.vals,fI M2 0 M2.vals].take i).flatten++(fI M 0 M.vals).take j).map nu))) (λj vs T h=>by revert h;refineλg=>wi g λd d d h d=>?_;clear g;exact h) ⟨m,rfl,l3,c3,by refine aC a3 ?_;simp⟩ ?_ ?_
     · intro j vs T K4 hj q1_ c5 d;refine aY q1_ λm N s=>?_;clear q1_;obtain rfl:=N;refine iR s λB c4 a4=>?_;clear s;replace hj:=R▸hj;refine aC (Q j hj) (eC λw=>iR ((W.le B).map hM) λG d d=>w (cK rfl (Pq a4 (cK rfl (LG G F.cls (ri (⟨⟨aN _,aN _⟩,⟨aG (by decide) hn.1,aG hn.2 (by decide)⟩⟩) (jA (cK rfl (cK rfl (ri (aX0 P hw hj hl) (jA (cK rfl (sj G F.cls (cK rfl (Dt (v:=.ref (M.vals[j]).1) G.V (by refine aC (AM o0) (aC (dO _) (aC (aF hj) ?_));rfl) ?_)))))))))))))));refine fD (dP rfl) (yh (Oq a4 ?_ ?_))
       · have h1:=W.few;simp only[aJ,fB,cH,oi];have h3:([fI M1 0 M1.vals,fI M2 0 M2.vals].take i).flatten.length<=7:=by
           clear O l1 a1 hM Y w C F hw hn P hp hs l3 a3 y c3 Q G h1;rcases(show i=0\/i=1 by simp at hi;exact o94 hi)with rfl|rfl;·simp
           ·simp[oi,W.c1.2.2.2.2]
         exact(aB (jL (jL W.few h3) (aB (gR _ _) hl)) (by decide))
       refine c5 _ _ ⟨some (.int j),rfl,hU B ha,cC (λq=>by cases(a2▸q▸Z)) c4,aC aH ?_⟩;have e5:(fI M 0 M.vals).take (j+1)=(fI M 0 M.vals).take j++[qg M j M.vals[j]]:=by refine aC iT (aC xF (aC (aF hj) (aC (nX _) ?_)));rfl
       refine aC e5 (iZ (nB _ _ _) ?_);simp only[bW,fH,yR];rfl
     · intro vs T q1_;refine aY q1_ λm x z=>?_;clear q1_;obtain rfl:=x;refine iR z λB c4 a4=>?_;clear z;refine hK _ _ ⟨some (.ref M.a),some (.int (gJ M.w)),m,rfl,B,?_⟩;rw[a4,H,(dE (by rw[oi,R];exact bM _):(fI M 0 M.vals).take cells.length=fI M 0 M.vals),<-nB]
   · intro vs r q1_;refine gD q1_ λD x3 m L t=>?_;clear q1_;obtain rfl:=L;refine bX t λl2 a2=>?_;clear t;refine cK (by rfl) (rK _ _ ⟨r,CS.le_refl,k a r l2 ha (aC a2 ?_)⟩);unfold bQ;simp
noncomputable def kL(r:Row)(pl:Int):Prop:=r.base<=pl/\pl<r.base+(r.oc.length:Int)
noncomputable def oR(r:Row)(pl:Int):UInt8:=r.oc.getD (pl-r.base).toNat 0
theorem Vc(W:Wo S A es M1 M2)(hp:S p=some (.list ((bQ es M1 M2).map nu)))(C:(∀r∈bQ es M1 M2,¬kL r pl)->K .none S)(kS:∀(i:Nat)r,(bQ es M1 M2)[i]?=some r->kL r pl->K (.tup [.int i,.bool r.wr,.int (oR r pl).toNat]) S):aM (n+1) (.st 677) [.ref p,.int pl] K E S:=by
 refine aC (EY _ _ _) ?_;refine fT (λO N z R P=>dS (mQ (by assumption) ?_));refine Hm (fD (by decide) ?_);refine A9 (HF (p:=p) (l:=(bQ es M1 M2).map nu)) (λi vs b=>∃c T,vs=[some (.ref p),some (.int pl),c,T,none,none]/\b=S/\∀r∈(bQ es M1 M2).take i,¬kL r pl) (λi vs b h=>by revert h;refineλs=>dZ s λa a a h a=>?_;clear s;refine aC h ?_;exact hp) ⟨none,none,rfl,rfl,λr h=>by simp at h⟩ ?_ ?_
 · clear hp;intro i vs b u hi q1_ L J;refine eJ q1_ λc T Q B=>?_;clear q1_;obtain rfl:=Q;refine bX B λq w=>?_;clear B;obtain rfl:=q;replace hi:=(aJ _)▸hi;have I:((bQ es M1 M2).map nu).getD i .none=nu (bQ es M1 M2)[i]:=by refine aC (aS) (aC (bE) (aC (aF hi) ?_));rfl
   refine aC I ?_;have F:=dB hi;have g:=aF hi;generalize(bQ es M1 M2)[i]=r at F g|-;have next:¬kL r pl->∀x∈(bQ es M1 M2).take (i+1),¬kL x pl:=by
     intro hn x hx;replace hx:=g▸(iT▸hx);rcases gH.mp hx with hx|hx;·exact w x hx
     ·simp at hx;subst hx;exact hn
   have m:∀{j:Int}{v:CV}{u:KP}{D:KP},0<=j/\j<3->[eD r.base,.ref r.l,.bool r.wr][j.toNat]?=some v->u v b->cJ (nu r) (.int j) u D b:=λhj H k=>nD (f:=.pure) ⟨hj.1,o14 hj⟩ H k;refine unpack_ rfl (sE (sE (BV (dS (cK rfl (cK rfl (m (by decide) rfl (wc (MI (LH (¬kL r pl) (λhn=>?_) (λh0=>?_) (λG ht=>?_)))))))))));·exact eB rfl (L _ _ ⟨some (.int i),some (nu r),rfl,rfl,next hn⟩)
   · have h0:=of_decide_eq_false h0;intro h;exact h0 (by have:=h.1;exact o36 this)
   · refine cK rfl (m (by decide) rfl (Iz W F (Cw ?_)));by_cases hc:pl-r.base<(r.oc.length:Int);·exact aC (decide_eq_true hc) (fV rfl (cK rfl (cK rfl (m (by decide) rfl (cK rfl (m (by decide) rfl (cK rfl (cK rfl (m (by decide) rfl (wc (KH W F ⟨(of_decide_eq_true ht),hc⟩ (fD (dP rfl) (J _ _<|z _ _ ⟨_,CS.le_refl,kS i r g ⟨vV (of_decide_eq_true ht),(Int.lt_add_of_sub_left_lt hc)⟩⟩)))))))))))))
     ·exact aC (decide_eq_false hc) (G λh=>hc (by have:=h.2;exact(lO this)))
 · clear W hp kS;intro vs b q1_;refine eJ q1_ λc T o y=>?_;clear q1_;obtain rfl:=o;refine bX y λt w=>?_;clear y;obtain rfl:=t;replace w:=eU▸((aJ _)▸w);exact z _ _ ⟨_,CS.le_refl,C w⟩
noncomputable def vc(i:Nat)(r:Row)(pl:Int)(w:Nat):List CV:=(cF w).map λ(t:Nat)=>.tup [.int i,.bool r.wr,.int (oR r (pl+t)).toNat]
theorem pW{r:Row}{i:Int}{w:Nat}(h:fS r i w){t:Nat}(ht:t<w):kL r (i+t):=by exact⟨o37 h.1,o95 h.2 ht⟩
theorem tm(W:Wo S A es M1 M2){i j:Nat}{r g:Row}{k:Int}(hi:(bQ es M1 M2)[i]?=some r)(hj:(bQ es M1 M2)[j]?=some g)(h1:kL r k)(h2:kL g k):i=j/\r=g:=by
 obtain⟨O,e1⟩:=aR.mp hi;obtain⟨B,n⟩:=aR.mp hj;rcases MF i j with h|h|h
 · have:=(fN.mp (Bg W)) i j O B h;replace this:=n▸(e1▸this);exact absurd (fE h1.2 this) (iW.mpr h2.1)
 ·subst h;obtain rfl:=aE (hj.symm.trans hi);exact⟨rfl,rfl⟩
 · have:=(fN.mp (Bg W)) j i B O h;replace this:=n▸(e1▸this);exact absurd (fE h2.2 this) (iW.mpr h1.1)
end
theorem B9:∀{i:Nat},(∀j,j<i+1->val j=c)->gN val (i+1)=[c]:=by
 intro i;induction i with |zero=>intro h;refine aC (xS _ _) (aC (PyProof.Rows.firstMet_zero _) (aC (h 0 (bM _)) ?_));rfl|succ i k=> intro h;refine aC (xS _ _) (aC (k λj hj=>h j (o30 hj)) (aC (h (i+1) (bM _)) ?_));unfold PyProof.Rows.step_dedup;simp
theorem Dc(hi:i<n)(hj:j<n)(h:val i≠val j):1<(gN val n).length:=by
 have Y:∀k,k<n->val k∈gN val n:=by
  intro k hk;have h1:=PyProof.Rows.firstMet_any val n (val k);rw[(tZ.mpr ⟨val k,bR.mpr ⟨k,r_.mpr hk,rfl⟩,by simp⟩)]at h1;refine aY (tZ.mp h1) λx hx e=>?_;refine iZ (beq_iff_eq.mp e) ?_;exact hx
 have a:=Y i hi;have b:=Y j hj;generalize gN val n=l at a b;match l,a,b with |[x],a,b=> rw[fO]at a b;exact absurd (a.trans b.symm) h|x::y::r,_,_=>simp
section
variable{n:Nat}{K:KP}{E:KP}{S:CS}{A:Ad}{es:List n_}{M1 M2:kD}
open Classical in noncomputable def mA(rs:List Row)(pl:Int):CV:=if h:∃(i:Nat)(r:Row),rs[i]?=some r/\kL r pl then .tup [.int (h.choose:Nat),.bool h.choose_spec.choose.wr,.int (oR h.choose_spec.choose pl).toNat]else .none
theorem Cj(W:Wo S A es M1 M2){j:Int}{i:Nat}{r:Row}(hi:(bQ es M1 M2)[i]?=some r)(e:kL r j):mA (bQ es M1 M2) j=.tup [.int i,.bool r.wr,.int (oR r j).toNat]:=by
 have h:∃(i:Nat)(r:Row),(bQ es M1 M2)[i]?=some r/\kL r j:=⟨i,r,hi,e⟩;unfold mA;refine aC (dif_pos h) (bX (tm W h.choose_spec.choose_spec.1 hi h.choose_spec.choose_spec.2 e) λe1 n=>?_);rw[n,e1]
theorem Cp(h:∀r∈rs,¬kL r pl):mA rs pl=.none:=by
 unfold mA;rw[dif_neg];intro q1_;refine eJ q1_ λi r hi e=>?_;clear q1_;exact h r (bG hi) e
theorem Qm(W:Wo S A es M1 M2)(hp:S p=some (.list ((bQ es M1 M2).map nu)))(k:K (mA (bQ es M1 M2) pl) S):aM (n+1) (.st 677) [.ref p,.int pl] K E S:=Vc W hp (λh=>by refine iZ (Cp h) ?_;exact k) (λi r hi e=>by refine iZ (Cj W hi e) ?_;exact k)
theorem wn(W:Wo S A es M1 M2)(j:Int):(mA (bQ es M1 M2) j=.none/\∀r∈bQ es M1 M2,¬kL r j)\/∃(i:Nat)(r:Row),(bQ es M1 M2)[i]?=some r/\kL r j/\mA (bQ es M1 M2) j=.tup [.int i,.bool r.wr,.int (oR r j).toNat]:=by
 by_cases h:∃(i:Nat)(r:Row),(bQ es M1 M2)[i]?=some r/\kL r j
 · refine eJ h λi r hi e=>?_;clear h;exact .inr ⟨i,r,hi,e,Cj W hi e⟩
 · have h2:∀r∈bQ es M1 M2,¬kL r j:=λr hr e=>by
     refine iK (cT hr) λi hi=>?_;exact h ⟨i,r,hi,e⟩
   exact .inl ⟨Cp h2,h2⟩
theorem aQ4{p:Addr}{q:List Int}(hl:S p=some (.list (q.map .int)))(h:q.length<=100/\∀i∈q,0<=i/\i<1000)(k:∀c,S c=none->K (.ref c) (S.put c (.iset (gN (λi=>q.getD i 0) q.length).length))):nJ 7 [.ref p] K E S:=⟨_,hl,kC (tH q) ⟨h,k⟩⟩
theorem GB(h:∀y∈l,y=.none\/∃t,y=.tup t):vH .none l=some (l.any tQ):=by induction l with|nil=>rfl|cons y r j=>
   rcases h y (.head _)with rfl|⟨t,rfl⟩
   · show(some true).bind _=_;refine aC (j λz hz=>h z (eV _ hz)) ?_;rfl
   · show(some false).bind _=_;refine aC (j λz hz=>h z (eV _ hz)) ?_;rfl
theorem UL{k:Int}{w:Nat}(W:Wo S A es M1 M2)(hw:1<=w/\w<=20)(kN:(∀r∈bQ es M1 M2,¬fS r k w)->K .none S)(kS:∀(i:Nat)r,(bQ es M1 M2)[i]?=some r->fS r k w->∀a m,S.le m->S a=none->m a=some (.list (vc i r k w))->K (.ref a) m):aM (n+2) (.st 682) [.ref A.w,.int k,.int w] K E S:=by
 refine aC (GN _ _ _ _) ?_;refine qt (λK_ E_ rK eK=>JH λcp G=>JH λcr B=>I4 (by rfl) (gU B aH) ?_);refine bX (mJ B) λY X=>?_;have l3:S.le (((S.put cp (.cell none)).put cr (.cell none)).put cp (.cell (some (.int k)))):=hU (hU (aQ G) Y) G;have p3:(((S.put cp (.cell none)).put cr (.cell none)).put cp (.cell (some (.int k)))) cp=some (.cell (some (.int k))):=aH;have N:(((S.put cp (.cell none)).put cr (.cell none)).put cp (.cell (some (.int k)))) cr=some (.cell none):=cC X aH;generalize((S.put cp (.cell none)).put cr (.cell none)).put cp (.cell (some (.int k)))=S3 at l3 p3 N|-;refine cK rfl (Gz (W.le l3) λa R F ha a4=>I4 (by rfl) (F _ _ N) ?_);have f0:a≠cr:=λq=>by exact absurd (N▸q▸ha) nofun
 have H:S.le (R.put cr (.cell (some (.ref a)))):=hU (CS.le_trans l3 F) Y;have p5:(R.put cr (.cell (some (.ref a)))) cp=some (.cell (some (.int k))):=cC (eY X) (F _ _ p3);have r5:(R.put cr (.cell (some (.ref a)))) cr=some (.cell (some (.ref a))):=aH;have a5:(R.put cr (.cell (some (.ref a)))) a=some (.list ((bQ es M1 M2).map nu)):=cC f0 a4;generalize R.put cr (.cell (some (.ref a)))=S5 at H p5 r5 a5|-;refine kC rfl (fD (by decide) (cK rfl (qQ (am4 hw) (qR (am4 hw) (fD ⟨rfl,rfl⟩ (nr (ur (n:=w)) (λi acc m=>acc=(cF i).map (λ(t:Nat)=>mA (bQ es M1 M2) (k+t))/\m=S5) (λv v v v=>trivial) ⟨rfl,rfl⟩ ?_ ?_))))))
 · intro i acc m K' hi q1_ hK;refine bX q1_ λe7 e5=>?_;clear q1_;obtain rfl:=e7;obtain rfl:=e5;refine fV rfl (tT rfl (by assumption) (tT rfl (by assumption) (cK rfl (jA (Qm (W.le H) a5 (fD (by refine aC (aJ _) (aC iU ?_);unfold bN;exact o97 hw hi) ?_))))));refine hK _ _ ⟨?_,rfl⟩;refine aC oK (aC bW ?_);rfl
 · intro acc m q1_;refine bX q1_ λe9 e4=>?_;clear q1_;obtain rfl:=e9;obtain rfl:=e4;refine om λb hb=>?_;have L:=hU (o:=.list ((cF w).map λ(t:Nat)=>mA (bQ es M1 M2) (k+t))) H (a:=b) (by
     rcases q:S b with _|x;·rfl
     ·exact iH (hb.symm.trans (H _ _ q)));have b6:(m.put b (.list ((cF w).map λ(t:Nat)=>mA (bQ es M1 M2) (k+t)))) b=some (.list ((cF w).map λ(t:Nat)=>mA (bQ es M1 M2) (k+t))):=aH;have c5:S b=none:=by
     rcases q:S b with _|x;·rfl
     ·exact iH (hb.symm.trans (H _ _ q))
   generalize m.put b (.list ((cF w).map λ(t:Nat)=>mA (bQ es M1 M2) (k+t)))=S6 at L b6|-;have e8:vH .none ((cF w).map λ(t:Nat)=>mA (bQ es M1 M2) (k+t))=some (((cF w).map λ(t:Nat)=>mA (bQ es M1 M2) (k+t)).any tQ):=GB λy hy=>by
     refine aY (bR.mp hy) λt ht O=>iZ O ?_;rcases wn W (k+t)with⟨e,_⟩|⟨i,r,_,_,e⟩;·exact .inl e
     ·exact .inr ⟨_,e⟩
   refine dS (cK (by rfl) (ah4 b6 rfl e8 ?_));rcases C:((cF w).map λ(t:Nat)=>mA (bQ es M1 M2) (k+t)).any tQ with _|_
   · have J:∀t:Nat,∃(i:Nat)(r:Row),t<w->(bQ es M1 M2)[i]?=some r/\kL r (k+t)/\mA (bQ es M1 M2) (k+t)=.tup [.int i,.bool r.wr,.int (oR r (k+t)).toNat]:=by
       intro t;rcases wn W (k+t)with⟨e,_⟩|⟨i,r,h⟩
       · refine⟨0,⟨0,0,0,false,[]⟩,λht=>?_⟩;replace C:=yS.mp C;exact absurd (congrArg _ e) (C _ (bR.mpr ⟨t,r_.mpr ht,rfl⟩))
       ·exact⟨i,r,λv=>h⟩
     obtain⟨f,J⟩:∃f:Nat->Nat,∀t,∃(r:Row),t<w->(bQ es M1 M2)[f t]?=some r/\kL r (k+t)/\mA (bQ es M1 M2) (k+t)=.tup [.int (f t),.bool r.wr,.int (oR r (k+t)).toNat]:=⟨λt=>(J t).choose,λt=>(J t).choose_spec⟩;obtain⟨g,J⟩:∃g:Nat->Row,∀t,t<w->(bQ es M1 M2)[f t]?=some (g t)/\kL (g t) (k+t)/\mA (bQ es M1 M2) (k+t)=.tup [.int (f t),.bool (g t).wr,.int (oR (g t) (k+t)).toNat]:=⟨λt=>(J t).choose,λt=>(J t).choose_spec⟩;refine eB rfl (kC rfl (fD (by decide) (cK rfl (mQ (by assumption) (fD ⟨rfl,rfl⟩ (nr (qU (p:=b) (l:=(cF w).map λ(t:Nat)=>mA (bQ es M1 M2) (k+t))) (λi acc m=>acc=((cF i).map λ(t:Nat)=>((f t:Nat):Int)).map eD/\m=S6) (λv v v h=>by refine aC h.2 ?_;exact b6) ⟨rfl,rfl⟩ ?_ ?_))))))
     · intro i acc m K' hi q1_ hK;refine bX q1_ λe3 T=>?_;clear q1_;obtain rfl:=e3;obtain rfl:=T;replace hi:=iU▸((aJ _)▸hi);have e0:((cF w).map λ(t:Nat)=>mA (bQ es M1 M2) (k+t)).getD i .none=.tup [.int (f i),.bool (g i).wr,.int (oR (g i) (k+i)).toNat]:=by
         refine aC (aS) (aC (bE) (aC (jY hi) ?_));exact(J i hi).2.2
       refine aC e0 (fV rfl (nD ⟨by decide,by decide⟩ rfl (fD (by refine aC (aJ _) (aC (aJ _) (aC iU ?_));unfold bN;exact o97 hw hi) ?_)));refine hK _ _ ⟨?_,rfl⟩;refine aC oK (aC bW (aC bW ?_));rfl
     · intro acc m q1_;refine bX q1_ λe6 Q=>?_;clear q1_;obtain rfl:=e6;obtain rfl:=Q;refine aC (aJ _) (aC iU (om λc hc=>?_));have P:∀t,t<w->f t<1000:=λt ht=>by
         have h1:=(aR.mp (J t ht).1).1;have h2:=(Az W).1;exact(aB h1 (aB h2 (by decide)))
       refine aQ4 aH ⟨by refine aC (aJ _) (aC iU ?_);exact(aB hw.2 (by decide)),λi hi=>?_⟩ λd hd=>?_
       · refine aY (bR.mp hi) λt ht O=>iZ O ?_;have:=P t (r_.mp ht);exact(⟨aN _,bV.mpr this⟩)
       have I:((cF w).map λ(t:Nat)=>((f t:Nat):Int)).length=w:=by simp
       have s:∀t,t<w->((cF w).map λ(t:Nat)=>((f t:Nat):Int)).getD t 0=(f t:Int):=λt ht=>by refine aC (aS) (aC (bE) (aC (jY ht) ?_));rfl
       have U:(gN (λi=>((cF w).map λ(t:Nat)=>((f t:Nat):Int)).getD i 0) ((cF w).map λ(t:Nat)=>((f t:Nat):Int)).length).length<=1000:=by
         have:=PyProof.Rows.firstMet_length_le (λi=>((cF w).map λ(t:Nat)=>((f t:Nat):Int)).getD i 0) ((cF w).map λ(t:Nat)=>((f t:Nat):Int)).length;rw[I]at this|-;exact(aB this (aB hw.2 (by decide)))
       refine at6 aH U (aC I (Y_ ?_));by_cases same:∀t,t<w->f t=f 0
       · have e1:gN (λi=>((cF w).map λ(t:Nat)=>((f t:Nat):Int)).getD i 0) w=[(f 0:Int)]:=by
           refine iK (⟨w-1,((Nat.sub_add_cancel hw.1).symm)⟩:∃w',w=w'+1) λw' u=>?_;obtain rfl:=u;exact B9 λj hj=>by exact aC (s j hj) (aC (same j hj) rfl)
         refine aC e1 (eB rfl (eB rfl (cK rfl (xD (rK _ _ ?_)))));have Z:∀t,t<w->g t=g 0:=λt ht=>by
           have h1:=(J t ht).1;replace h1:=((J 0 (Gv ht)).1)▸((same t ht)▸h1);exact(aE h1).symm
         refine⟨_,(λx=>CS.le_trans (aQ hc) (aQ hd)) _,kS (f 0) (g 0) (J 0 (o2 hw)).1 ?_ b m L c5 ?_⟩
         · have c1:=(J 0 (o2 hw)).2.1;have c2:=(J (w-1) (o96 hw)).2.1;replace c2:=(Z (w-1) (o96 hw))▸c2;exact⟨by have:=c1.1;exact aQ5 this,by have:=c2.2;exact aW9 this⟩
         · refine aC b6 (congrArg some (congrArg CO.list (iY λt ht=>?_)));have ht:=r_.mp ht;exact aC ((J t ht).2.2) (aC (Z t ht) (aC (same t ht) rfl))
       · have:∃t,t<w/\f t≠f 0:=rt λh=>same λt ht=>rt λh2=>h ⟨t,ht,h2⟩;refine aY this λt ht D=>?_;clear this;have e1:=Dc (val:=λi=>((cF w).map λ(t:Nat)=>((f t:Nat):Int)).getD i 0) ht (show 0<w by exact Gv ht) (by refine aC (s t ht) (aC (s 0 (Gv ht)) ?_);exact aO6 D);refine UC (aC (decide_eq_true (bV.mpr e1)) rfl) ?_;refine fV rfl (fV rfl (xD (rK _ _ ⟨S,CS.le_trans L ((λx=>CS.le_trans (aQ hc) (aQ hd)) _),kN λr hr hi=>?_⟩)));refine iK (cT hr) λi z=>?_;exact D ((tm W (J t ht).1 z (J t ht).2.1 (pW hi ht)).1.trans (tm W (J 0 (Gv ht)).1 z (J 0 (Gv ht)).2.1 (pW hi (Gv ht))).1.symm)
   · refine fV rfl (fV rfl (xD (rK _ _ ⟨S,L,kN λr hr hi=>aY (tZ.mp C) λy hy e=>aY (bR.mp hy) λt ht u=>?_⟩)));obtain rfl:=u;rcases wn W (k+t)with⟨_,e2⟩|⟨i,r,_,_,e2⟩;·exact e2 r hr (pW hi (r_.mp ht))
     ·replace e:=e2▸e;exact gQ e
end
set_option backward.match.sparseCases false
section
variable{n:Nat}{K:KP}{E:KP}{S:CS}{A:Ad}{es:List n_}{M1 M2:kD}{p c:Addr}{ns:List Int}{b:Nat}
theorem am8(hl:ns.length<=63)(k:∀p c b,S.le b->j_ b p c (ns.take 40) 0->K (.ref p) b):aM (n+1) (.st 644) [.script ns] K E S:=by
 refine aC (G7 _ _) ?_;refine fT (λv w r y P=>kC rfl (fD (by decide) ?_));refine PU (by decide) λa ha=>?_;have a1:(S.put a (.list ((ns.map eD).take (cA 40)))) a=some (.list ((ns.map eD).take (cA 40))):=aH;have l1:S.le (S.put a (.list ((ns.map eD).take (cA 40)))):=aQ ha;generalize S.put a (.list ((ns.map eD).take (cA 40)))=S1 at a1 l1|-;refine mQ (by assumption) (fD ⟨rfl,rfl⟩ (nr (qU (p:=a) (l:=(ns.map eD).take (cA 40))) (λi acc b=>acc=((ns.take 40).take i).map eD/\b=S1) (λe e e h=>by refine aC h.2 ?_;exact a1) ⟨rfl,rfl⟩ ?_ ?_))
 · clear hl ha a1;intro i acc b u hi q1_ o;refine bX q1_ λt T=>?_;clear q1_;obtain rfl:=t;obtain rfl:=T;have g:i<(ns.take 40).length:=by rw[<-tx,aJ]at hi;exact hi
   have s:((ns.map eD).take (cA 40)).getD i .none=.int (ns.take 40)[i]:=by
     refine iZ tx (aC (aS) (aC (bE) ?_));show(((ns.take 40)[i]?).map eD).getD .none=_;refine aC (aF g) ?_;rfl
   refine aC s (fV rfl (AR (fD (by refine aC (aJ _) (aC cH (aC cH ?_));exact(aB (gR _ _) (aB (nv _ _) (by decide)))) (o _ _ ⟨?_,rfl⟩))));generalize hq:ns.take 40=q at g|-;refine aC iT (aC (aF g) (aC bW ?_));rfl
 · clear hl ha a1;intro acc b q1_;refine bX q1_ λm x=>?_;clear q1_;obtain rfl:=m;obtain rfl:=x;refine om λd hd=>fD (dP rfl) (om λq hq=>r _ _ ⟨_,CS.le_refl,k q d _ (CS.le_trans l1 (CS.le_trans (aQ hd) (aQ hq))) ⟨⟨0,0,aH,by decide,by decide⟩,?_,by refine aC cH ?_;exact(aB (nv _ _) (by decide))⟩⟩);refine(gU hq aH).trans ?_;have e1:((ns.map eD).take (cA 40)).length=(ns.take 40).length:=by refine iZ tx (aC (aJ _) ?_);rfl
   exact aC e1 (aC eU rfl)
theorem RZ(k:K (.int (-a)) S):Dp (.int a) K E S:=k
theorem zP(W:Wo S A es M1 M2)(P:j_ S p c ns b)(l:b<=99000)(k:∀m e,0<=m->m<=2000000000->j_ e p c ns (b+4)->Pn S e->K (.int m) e):aM (n+3) (.st 696) [.ref p,.ref A.w] K E S:=by
 refine aC (C7 _ _ _) ?_;refine bX (Az W) λT i=>?_;refine fT (λK_ E_ O nK eK=>Gz W λa S1 l1 ha a1=>?_);refine qX a1 (((aJ _:((bQ es M1 M2).map nu).length=(bQ es M1 M2).length))▸(aB T (by decide))) (aC ((aJ _:((bQ es M1 M2).map nu).length=(bQ es M1 M2).length)) (nT (P.le l1) (aB l (by decide)) ⟨(aT (by decide) (aX.mpr i)),(aX.mpr (aB T (by decide)))⟩ λd G h1 h2 C J=>?_));have hd:d.toNat<(bQ es M1 M2).length:=((uM h1).mpr h2);have o:yp (.list ((bQ es M1 M2).map nu))=true:=by
  rcases bQ es M1 M2 with _|⟨x,y⟩;·rfl
  ·rfl
 refine oY (v:=nu (bQ es M1 M2)[d.toNat]) (J _ _ o a1) ⟨h1,(fE (aT h2 (aX.mpr T)) (by decide))⟩ (by refine aC (bE) (aC (aF hd) ?_);rfl) ?_;have F:=dB hd;generalize(bQ es M1 M2)[d.toNat]=r at F|-;have X:Wo G A es M1 M2:=(W.le l1).pn J;refine bX (Hg W F) λZ H=>RZ (RZ (nT C (aZ l (by decide)) ⟨by decide,by decide⟩ λz S3 h3 h4 R N=>fD (dP rfl) (om λq hq=>sO (R.le (aQ hq)) (aW7 l) aH (by simp) rfl λv S4 g Q L=>?_)));obtain⟨I,rfl,D⟩:∃I:Int,v=.int I/\-8<=I/\I<=24:=by
  simp only[a_,cG,or_false]at g;rcases g with rfl|rfl|rfl|rfl|rfl|rfl|rfl;·exact⟨_,rfl,by decide⟩
  ·exact⟨_,rfl,by decide⟩
  ·exact⟨_,rfl,by decide⟩
  ·exact⟨_,rfl,by decide⟩
  ·exact⟨_,rfl,by decide⟩
  ·exact⟨_,rfl,by decide⟩
  ·exact⟨_,rfl,(⟨aG (by decide) h3,dJ h4⟩)⟩
 have h:∀{j:Int}{v:CV}{u:KP}{t:KP}{e:CS},0<=j/\j<3->[eD r.base,.ref r.l,.bool r.wr][j.toNat]?=some v->u v e->cJ (nu r) (.int j) u t e:=λhj g k=>nD (f:=.pure) ⟨hj.1,o14 hj⟩ g k;refine h (by decide) rfl (jA (h (by decide) rfl (jA (h (by decide) rfl (h (by decide) rfl (Iz (X.pn (N.trans ((cR (aQ hq)).trans L))) F (jA (wc (wc (h (by decide) rfl (wc (jA (fD (dP rfl) (om λU s=>sO (Q.le (aQ s)) (aN5 l) aH (by simp) rfl λv w g B Y=>?_))))))))))))));obtain⟨y,rfl,hy⟩:∃y:Int,v=.int y/\y<=2000000000:=by
  simp only[a_,cG,or_false]at g;rcases g with rfl|rfl|rfl|rfl|rfl|rfl;·exact⟨_,rfl,o98 D H⟩
  ·exact⟨_,rfl,o98 D H⟩
  ·exact⟨_,rfl,(aG (CE (CE H (pD 1)) D.1) (by decide))⟩
  ·exact⟨_,rfl,aI9 D H⟩
  ·exact⟨_,rfl,by decide⟩
  ·exact⟨_,rfl,by decide⟩
 refine aM3 (O _ _ ⟨w,CS.le_refl,k _ _ ?_ ?_ (B.up (bM _)) ?_⟩);·split<;>(first|exact(dJ (by assumption))|exact o194)
 ·split<;>(first|exact o574 hy|exact(aN _))
 ·exact(cR l1).trans (J.trans ((N.trans ((cR (aQ hq)).trans L)).trans ((cR (aQ s)).trans Y)))
theorem au9{q:Nat×Nat×Nat}{z n:Str}{vs:cN}{K:fZ->CS->Prop}{a:Addr}{S:CS}{c:Nat}{d:Option Addr}(e:S a=some (.exc c d))(h:(match i_ c fY with|some l=>l.1.contains q.1|none=>false)=true/\dU q.1 "__init__"=some 36/\z=n/\dunder n=false/\q.2.1≠q.2.2/\K (.next ((vs.set q.2.2 (some (.ref a))).set q.2.1 none)) S):Jk (some q) z n vs K (.ref a) S:=by
 unfold Jk;dsimp only;exact aC e h
theorem CY{f:Addr}(good:KP)(bad:Str->CS->Prop)(h:∀(z:KP)(u:KP),(∀v b,good v b->z v b)->(∀a x b,oV b a x->bad x b->u (.ref a) b)->aM n (.ref f) [] z u S)(F:∀v b a,good v b->b a=none->K (.ref a) (b.put a (.list [v])))(L:∀x b,bad x b->K (.str x) b):aM (n+1) (.st 665) [.ref f] K E S:=by
 refine aC (DA _ _) ?_;refine fT (λl m q w P=>fD (dP rfl) (fD (by decide) (dS ?_)));refine⟨rfl,h _ _ (λv b hg=>?_) λa x b hf c=>?_⟩;·exact cK rfl (IC (fV rfl (cK rfl (fD (dP rfl) (om λa ha=>q _ _ ⟨_,CS.le_refl,F v b a hg ha⟩)))))
 · refine aY hf λd h1 h2=>?_;clear hf;exact au9 h1 ⟨by kernel_rfl,by kernel_rfl,rfl,by kernel_rfl,by decide,cK rfl (IC (eB rfl (cK rfl (Xo (i:=2) h1 h2 (by kernel_rfl) (by kernel_rfl) (by kernel_rfl) rfl (q _ _ ⟨_,CS.le_refl,L x b c⟩)))))⟩
end
set_option backward.match.sparseCases true
structure jK(S Sc:CS)(l:List (Addr×Option CV)):Prop where
 get:∀x∈l,Sc x.1=some (.cell x.2)/\S x.1=none
 nod:(l.map (·.1)).Nodup
 pn:Pn S Sc
theorem jK.nil:jK S S []:=⟨λa h=>(nomatch h),vF,Pn.refl⟩
theorem jQ{S b:CS}{a:Addr}(h:S.le b)(e:b a=none):S a=none:=by
 rcases q:S a with _|x;·rfl
 ·exact iH (e.symm.trans (h _ _ q))
theorem Pn.put_new(h:Pn S S')(ha:S a=none):Pn S (S'.put a o):=λb x hx e=>cC (λq=>by exact iH (ha▸q▸e)) (h b x hx e)
theorem jK.new{S b:CS}{l:List (Addr×Option CV)}{c:Addr}(h:jK S b l)(le:S.le b)(f:b c=none):jK S (b.put c (.cell none)) ((c,none)::l)/\S.le (b.put c (.cell none)):=by
 have F:=jQ le f;refine⟨⟨λx hx=>?_,?_,h.pn.put_new F⟩,hU le F⟩
 · rcases a_.mp hx with rfl|hx;·exact⟨aH,F⟩
   ·exact⟨gU f (h.get x hx).1,(h.get x hx).2⟩
 · refine aC fH (qP cZ ⟨λhm=>?_,h.nod⟩);refine aY (bR.mp hm) λx hx e=>?_;have:=(h.get x hx).1;rw[e]at this;exact iH (f.symm.trans this)
theorem jK.at_(i:Nat)(h:jK S Sc l)(hi:l[i]?=some (c,o)):Sc c=some (.cell o):=(h.get _ (bG hi)).1
theorem jK.set(i:Nat)(h:jK S Sc l)(hi:l[i]?=some (c,o)):jK S (Sc.put c (.cell v)) (l.set i (c,v)):=by
 have hm:=bG hi;obtain⟨hlt,hget⟩:=aR.mp hi;have em:(l.set i (c,v)).map (·.1)=l.map (·.1):=by
   apply yV;intro j;refine aC (bE) (aC (bE) (aC (f_) ?_));split;·rename_i q;subst q;refine aC hi ?_;rfl
   ·rfl
 refine⟨λx hx=>?_,by refine aC em ?_;exact h.nod,h.pn.put_new (h.get _ hm).2⟩;refine iK (cT hx) λj hj=>?_;rw[f_]at hj;split at hj
 · rename_i q;subst q;exact iZ (aE hj) ⟨aH,(h.get _ hm).2⟩
 · rename_i q;refine⟨cC (λe=>q ?_) (h.get x (bG hj)).1,(h.get x (bG hj)).2⟩;have n1:(l.map (·.1))[i]?=some c:=by refine aC (bE) (aC hi ?_);rfl
   have n2:(l.map (·.1))[j]?=some c:=by refine aC (bE) (aC hj (iZ e ?_));rfl
   exact(sV (by refine aC (aJ _) ?_;exact hlt) h.nod).mp (n1.trans n2.symm)
theorem jK.to(h:jK S Sc l)(D:Pn Sc Sc'):jK S Sc' l:=⟨λx hx=>⟨D _ _ rfl (h.get x hx).1,(h.get x hx).2⟩,h.nod,h.pn.trans D⟩
noncomputable def Cl(S S':CS):Prop:=∀a v,S a=some (.cell v)->S' a=some (.cell v)
theorem qm(h:Pn S S'):Cl S S':=λa v e=>h _ _ rfl e
theorem Cl.trans(x:Cl S S')(y:Cl S' S''):Cl S S'':=λa v e=>y a v (x a v e)
structure Af(S:CS)(A:Ad)(es:List n_)(M1 M2:kD)(p c:Addr)(ns:List Int)(b:Nat)(S':CS):Prop where
 ex:∃A' es' M1' M2',Wo S' A' es' M1' M2'/\A'.m=A.m/\A'.w=A.w/\M1'.a=M1.a/\M1'.w=M1.w/\es'.length<=es.length+1
 pen:∃ns',j_ S' p c ns' (b+100)cl:Cl S S'
theorem Wo.lists(W:Wo S A es M1 M2):∀a∈A.R::A.L::es.map (·.l),∃o,S a=some o:=by
 intro a ha;rcases a_.mp ha with rfl|ha;·exact⟨_,W.mR⟩
 · rcases a_.mp ha with rfl|ha;·exact⟨_,W.wL⟩
   ·exact aY (bR.mp ha) λe he L=>iZ L ⟨_,(W.ents e he).2⟩
theorem Wo.barrs(W:Wo S A es M1 M2):∀a∈es.map (·.o)++(M1.vals.map (·.1)++M2.vals.map (·.1)),∃o,S a=some (.barr o):=by
 intro a ha;rcases gH.mp ha with ha|ha
 · refine eC λd=>aY (bR.mp ha) λe he t=>?_;obtain rfl:=t;exact d ⟨_,(W.ents e he).1.o⟩
 · rcases gH.mp ha with ha|ha
   · refine aY (bR.mp ha) λv f R=>?_;obtain rfl:=R;exact⟨_,(W.o1.b v f).1⟩
   · refine aY (bR.mp ha) λv f k=>?_;obtain rfl:=k;exact⟨_,(W.o2.b v f).1⟩
noncomputable def EM(es:List n_)(i:Nat)(x:n_):List n_:=es.take i++x::es.drop i
theorem qu:(EM es i x).Perm (x::es):=by
 have h:=List.perm_middle (a:=x) (l₁:=es.take i) (l₂:=es.drop i);rwa[qk]at h
theorem Xe(ok:uY es)(hi:i<=es.length)(h1:∀j e,j<i->es[j]?=some e->e.g.base<=x.g.base)(h2:∀j e,i<=j->es[j]?=some e->x.g.base<e.g.base)(hf:free es x.g.base (x.g.base+x.g.oc.length))(hx:16<=x.g.base/\x.g.base+(x.g.oc.length:Int)<=16776976/\x.g.oc.length<=600):uY (EM es i x):=by
 have t:∀e∈es.take i,e.g.base+(e.g.oc.length:Int)<x.g.base:=λe he=>by
   refine eC λf=>iK (cT he) λj hj=>?_;have B:=(aR.mp hj).1;replace B:=cH▸B;replace hj:=(Eb (o99 B)).symm.trans hj;have a:=h1 j e (o99 B) hj;rcases hf e (bG hj)with h|h;refine f ?_;·exact h
   ·exact aX1 h a
 have d:∀e∈es.drop i,x.g.base+(x.g.oc.length:Int)<e.g.base:=λe he=>by
   refine iK (cT he) λj hj=>?_;replace hj:=(JW).symm.trans hj;have a:=h2 (i+j) e (eI _ _) hj;rcases hf e (bG hj)with h|h;·exact(absurd (fE h a) (iW.mpr (bZ (aN _))))
   ·exact h
 have ap:=ok.apart;rw[<-qk i es,nQ]at ap;refine⟨?_,λe he=>?_⟩
 · unfold EM;refine qP nQ (qP JX (⟨ap.1,⟨d,ap.2.1⟩,λa ha b c=>?_⟩));clear hi h1 h2 hf d;rcases a_.mp c with rfl|c;·exact t a ha
   ·exact ap.2.2 a ha b c
 · clear hi h1 h2 hf t d ap;rcases a_.mp (qu.mem_iff.mp he)with rfl|he;·exact hx
   ·exact ok.each e he
theorem Wo.added(W:Wo S A es M1 M2)(hi:i<=es.length)(hk:∀a o,a≠A.R->a≠A.w->S a=some o->Sf a=some o)(J:Sf A.R=some (.list ((EM es i x).map λe=>.ref e.r)))(hw:Sf A.w=some (.sdict (lS {A with L:=L'})))(j:Sf L'=some (.list ((EM es i x).map dN)))(hx:kX Sf x.r x.d x.o x.g/\Sf x.l=some (.list (mC x.g.oc)))(ok:uY (EM es i x))(few:es.length<=59)(n1:x.o∉es.map (·.o)++(M1.vals.map (·.1)++M2.vals.map (·.1)))(n2:x.l∉A.R::A.L::es.map (·.l))(b:L'∉x.l::A.R::A.L::es.map (·.l)):Wo Sf {A with L:=L'} (EM es i x) M1 M2:=by
 have ne:∀{a:Addr}{o:CO},S a=some o->(∀l,o≠.list l)->(∀l,o≠.sdict l)->Sf a=some o:=λ{a o}e h1 h2=>hk a o (λq=>by obtain rfl:=aE (W.mR▸q▸e);exact h1 _ rfl) (λq=>by obtain rfl:=aE (W.wd▸q▸e);exact h2 _ rfl) e;have nl:=W.nl;rw[cZ,cZ]at nl;refine⟨ne W.mi (by simp) (by simp),ne W.mf (by simp) (by simp),J,λe he=>?_,ne W.mp (by simp) (by simp),(λh=>⟨ne h.i (by simp) (by simp),ne h.f (by simp) (by simp),ne h.V (by simp) (by simp),λv f=>⟨ne (h.b v f).1 (by simp) (by simp),(h.b v f).2⟩⟩:∀{M:kD},gO S M->gO Sf M) W.o1,(λh=>⟨ne h.i (by simp) (by simp),ne h.f (by simp) (by simp),ne h.V (by simp) (by simp),λv f=>⟨ne (h.b v f).1 (by simp) (by simp),(h.b v f).2⟩⟩:∀{M:kD},gO S M->gO Sf M) W.o2,hw,j,?_,?_,W.c1,W.c2,ok,?_,?_⟩
 · clear hi J hw j ok;rcases a_.mp (qu.mem_iff.mp he)with rfl|he;·exact hx
   · refine⟨(λh=>⟨ne h.i (by simp) (by simp),ne h.f (by simp) (by simp),ne h.o (by simp) (by simp)⟩) (W.ents e he).1,hk _ _ (λq=>nl.1 ?_) (λq=>?_) (W.ents e he).2⟩;·refine iZ q ?_;exact eV _ (bR.mpr ⟨e,he,rfl⟩)
     · have:=(W.ents e he).2;exact absurd (W.wd▸q▸this) nofun
 · have hp:((EM es i x).map (·.o)).Perm (x.o::es.map (·.o)):=qu.map _;exact((hp.append_right _).nodup_iff).mpr (aC zL (qP cZ ⟨n1,W.nb⟩))
 · have hp:((EM es i x).map (·.l)).Perm (x.l::es.map (·.l)):=qu.map _;refine(((hp.cons L').cons A.R).nodup_iff).mpr ?_;simp only[a_,not_or]at n2 b;refine qP cZ (qP cZ (qP cZ ?_));simp only[a_,not_or];exact⟨⟨eY b.2.1,eY n2.1,λh=>nl.1 (eV _ h)⟩,⟨b.1,b.2.2.2⟩,n2.2.2,nl.2.2⟩
 ·refine aC qu.length_eq (aC kQ ?_);exact aj3 few
 ·exact aY W.ctx λe he q=>⟨e,qu.mem_iff.mpr (eV _ he),q⟩
noncomputable def NS:CO->Bool|.cell _=>false|_=>true
noncomputable def Nc(S S':CS):Prop:=∀a o,NS o=true->S a=some o->S' a=some o
theorem kX.nc{S b:CS}{r d o:Addr}{g:Reg}(x:kX S r d o g)(h:Nc S b):kX b r d o g:=⟨h _ _ rfl x.i,h _ _ rfl x.f,h _ _ rfl x.o⟩
theorem gO.nc{S b:CS}{M:kD}(x:gO S M)(h:Nc S b):gO b M:=⟨h _ _ rfl x.i,h _ _ rfl x.f,h _ _ rfl x.V,λv f=>⟨h _ _ rfl (x.b v f).1,(x.b v f).2⟩⟩
theorem Wo.nc(x:Wo S A es M1 M2)(h:Nc S S'):Wo S' A es M1 M2:=⟨h _ _ rfl x.mi,h _ _ rfl x.mf,h _ _ rfl x.mR,λe he=>⟨(x.ents e he).1.nc h,h _ _ rfl (x.ents e he).2⟩,h _ _ rfl x.mp,x.o1.nc h,x.o2.nc h,h _ _ rfl x.wd,h _ _ rfl x.wL,x.nb,x.nl,x.c1,x.c2,x.ok,x.few,x.ctx⟩
theorem j_.nc(P:j_ S p c ns b)(h:Nc S S'):j_ S' p c ns b:=⟨by refine eJ P.ex λs g e r=>?_;exact⟨s,g,h _ _ rfl e,r⟩,h _ _ rfl P.cells,P.few⟩
section
variable{α:Type}{E:KP}{S:CS}
theorem aG1{K:α->CS->Prop}{f:Addr->Addr->Addr->Addr->Addr->Addr->Addr->M α}(k:∀a b c d e g h C,jK S C [(h,none),(g,none),(e,none),(d,none),(c,none),(b,none),(a,none)]->S.le C->f a b c d e g h K E C):((iF (.cell none)).bind λa=>(iF (.cell none)).bind λb=>(iF (.cell none)).bind λc=>(iF (.cell none)).bind λd=>(iF (.cell none)).bind λe=>(iF (.cell none)).bind λg=>(iF (.cell none)).bind λh=>f a b c d e g h) K E S:=by
 intro a ha b j c l d hd e he g hg h hh;exact eC λi=>bX (jK.nil.new CS.le_refl ha) λF t=>bX (F.new t j) λN o=>bX (N.new o l) λn Z=>bX (n.new Z hd) λG L=>bX (G.new L he) λI H=>bX (I.new H hg) λm q=>bX (m.new q hh) λQ J=>i (k a b c d e g h _ Q J)
theorem at9{K:α->CS->Prop}{f:Addr->Addr->Addr->M α}(k:∀a b c C,jK S C [(c,none),(b,none),(a,none)]->S.le C->f a b c K E C):((iF (.cell none)).bind λa=>(iF (.cell none)).bind λb=>(iF (.cell none)).bind λc=>f a b c) K E S:=by
 intro a ha b d c e;exact bX (jK.nil.new CS.le_refl ha) λF t=>bX (F.new t d) λL h=>bX (L.new h e) λg Z=>k a b c _ g Z
theorem CB{G:CS}{l:List (Addr×Option CV)}{i j:Nat}{vs:cN}{c:Addr}{o:Option CV}{v:CV}{γ:Type}{f:cN->M γ}{Q:γ->CS->Prop}(h:vs[j]?=some (some (.ref c)))(H:jK G S l)(hi:l[i]?=some (c,o))(k:∀b,jK G b (l.set i (c,some v))->Nc S b->f vs Q E b):(vy j v vs).bind f Q E S:=I4 h (H.at_ i hi) (k _ (H.set i hi) λa x hx e=>oG (H.at_ i hi) e (by rintro rfl;exact gQ hx))
theorem nG{G:CS}{l:List (Addr×Option CV)}{i j:Nat}{vs:cN}{c:Addr}{v:CV}{γ:Type}{f:CV->M γ}{Q:γ->CS->Prop}(h:vs[j]?=some (some (.ref c)))(H:jK G S l)(hi:l[i]?=some (c,some v))(k:f v Q E S):(lc j vs).bind f Q E S:=tT h (H.at_ i hi) k
end
section
variable{n:Nat}{K:KP}{E:KP}{S:CS}{A:Ad}{es:List n_}{M1 M2:kD}{p c:Addr}{ns:List Int}{b:Nat}
theorem ZT(k:KU () S):alive (aM (n+1)) KU E S:=⟨⟨.st 155,[.int 0],λa a=>True,λa a=>True,S,tV (by decide) trivial⟩,k⟩
theorem QO{α β:Type}{m:M α}{f:α->M β}{K:β->CS->Prop}(Q:α->CS->Prop)(h:∀u:α->CS->Prop,(∀v b,Q v b->u v b)->m u E S)(k:∀v b,Q v b->f v K E b):(m.bind f) K E S:=h _ k
theorem AB(h:0<=d/\d<256):mC oc++[.int d]=mC (oc++[kF d.toNat]):=by
 refine aC rF ?_;show _=mC oc++[eD (kF d.toNat).toNat];exact aC (C_ h) rfl
noncomputable def leK(x y:CV):Prop:=∃kx ky,zi 1 x=some kx/\zi 1 y=some ky/\kx<=ky
theorem Jo:∀{l:List CV}{q:List Int},oU 1 l=some q->q.Pairwise (·<=·)->l.Pairwise leK/\(∀x∈l,∃z∈q,zi 1 x=some z):=by intro l;induction l with |nil=>exactλ_ _=>⟨.nil,λa h=>(nomatch h)⟩|cons x l j=>
   intro q h hs;rcases O:zi 1 x with _|z;·exact iH ((congrArg (λo=>FO o _) O).symm.trans h)
   · have h:=(congrArg (λo=>FO o _) O).symm.trans h;rcases A:oU 1 l with _|G;·exact iH ((congrArg (λo=>Hz _ o) A).symm.trans h)
     · have h:=(congrArg (λo=>Hz _ o) A).symm.trans h;obtain rfl:=aE h;refine bX (JX.mp hs) λh1 h2=>bX (j A h2) λB i2=>⟨JX.mpr ⟨λy hy=>?_,B⟩,λy hy=>?_⟩;·exact aY (i2 y hy) λu D e=>⟨z,u,O,e,h1 u D⟩
       · rcases a_.mp hy with rfl|hy;·exact⟨z,.head _,O⟩
         ·exact aY (i2 y hy) λu D e=>⟨u,.tail _ D,e⟩
theorem EK(ok:uY es)(hp:l.Perm (es.map dN))(hk:oU 1 l=some q)(hs:q.Pairwise (·<=·)):l=es.map dN:=by
 refine Ac (le:=leK) (λa b ha c h1 h2=>?_) (Jo hk hs).1 ?_ hp
 · refine eC λd=>aY (bR.mp (hp.mem_iff.mp ha)) λea f O=>?_;obtain rfl:=O;refine aY (bR.mp c) λeb e W=>?_;obtain rfl:=W;refine dZ h1 λo x e1 n U=>?_;clear h1;refine dZ h2 λg Q I m Z=>?_;clear h2;obtain rfl:=aE e1;obtain rfl:=aE n;obtain rfl:=aE I;obtain rfl:=aE m;refine iK (cT f) λi hi=>?_;refine iK (cT e) λj hj=>?_;obtain⟨P,N⟩:=aR.mp hi;refine d (iZ N ?_);obtain⟨B,L⟩:=aR.mp hj;refine iZ L ?_;rcases MF i j with h|h|h;·have:=(fN.mp ok.apart) i j P B h;exact absurd (bJ (bZ (aN _)) this) (iW.mpr (L▸N▸Z))
   · clear hp hk hs f ha e c d e1 n U I m Z hi hj L N;subst h;rfl
   ·have:=(fN.mp ok.apart) j i B P h;exact absurd (bJ (bZ (aN _)) this) (iW.mpr (L▸N▸U))
 ·exact qP pK (ok.apart.imp λ{a b}h=>⟨a.g.base,b.g.base,rfl,rfl,o34 h⟩)
theorem NQ(W:Wo S A es M1 M2)(P:j_ S p c ns b)(hb:b<=90000)(few:es.length<=59)(k:∀F,Af S A es M1 M2 p c ns b F->K (.bool true) F):aM (n+8) (.st 701) [.ref p,.ref A.m,.ref A.w] K E S:=by
 refine aC (Dn _ _ _ _) ?_;refine qt (λK_ E_ rK eK=>aG1 λc0 c1 c3 c6 c7 c8 c9 S7 H L7=>?_);have W7:=W.le L7;have P7:=P.le L7;refine CB (i:=6) rfl H rfl λS8 H q=>?_;have W8:=W7.nc q;have P8:=P7.nc q;refine CB (i:=5) rfl H rfl λS9 H q=>?_;have W9:=W8.nc q;have P9:=P8.nc q;clear W7 P7 W8 P8 L7;refine nG (i:=6) rfl H rfl (cK rfl (zP W9 P9 (o21 hb) λpl x2 s8 w9 q7 D=>?_));have p7:=W9.pn D;have H:=H.to D;clear W9 P9 D;refine nG (i:=6) rfl H rfl (RZ (fD (dP rfl) (om λq1 g6=>sO (q7.le (aQ g6)) (o20 hb) aH (by simp) rfl λv y3 hv s6 D=>?_)));clear W P s8 w9;obtain⟨z,rfl,hz⟩:∃z:Int,v=.int z/\-9<=z/\z<=600:=by simp only[a_,cG,or_false]at hv;rcases hv with rfl|rfl|rfl|rfl|rfl<;>exact⟨_,rfl,by decide⟩
 have D:=(cR (aQ (o:=.list [.int 0,.int 1,.int 9,.int 600,.int (-9)]) g6)).trans D;have p4:=p7.pn D;have H:=H.to D;clear p7 q7 D hv;refine jA (nG (i:=6) rfl H rfl (fD (dP rfl) (om λq2 f7=>sO (s6.le (aQ f7)) (o40 hb) aH (by simp) rfl λv x3 hv l8 D=>?_)));obtain⟨w,rfl,hw⟩:∃w:Nat,v=.int w/\1<=w/\w<=16:=by
   simp only[a_,cG,or_false]at hv;rcases hv with rfl|rfl|rfl|rfl;·exact⟨1,rfl,by decide⟩
   ·exact⟨8,rfl,by decide⟩
   ·exact⟨3,rfl,by decide⟩
   ·exact⟨16,rfl,by decide⟩
 have D:=(cR (aQ (o:=.list [.int 1,.int 8,.int 3,.int 16]) f7)).trans D;have p5:=p4.pn D;have H:=H.to D;clear p4 s6 D hv;refine fD (dP rfl) (fD (by decide) (CB (i:=0) rfl H rfl λy5 H q=>?_));have m1:=p5.nc q;have k5:=l8.nc q;refine CB (i:=4) rfl H rfl λu0 H q=>?_;have r0:=m1.nc q;have s4:=k5.nc q;clear p5 l8 m1 k5;refine QO (λv F=>F=u0/\∃m:Int,v=.int m/\16<=m/\m<16776960) (λK' f5=>?_) ?_
 · refine nG (i:=0) rfl H rfl (YC (Fk (λht=>?_) (λht=>?_)));·exact fV rfl (nG (i:=0) rfl H rfl (wh (by decide) (jA (f5 _ _ ⟨rfl,_,rfl,an5,ao9⟩))))
   · have ht:=of_decide_eq_false ht;refine nG (i:=0) rfl H rfl (Cw (Fk (λhu=>?_) (λhu=>?_)));·exact fV rfl (nG (i:=0) rfl H rfl (wh (by decide) (jA (f5 _ _ ⟨rfl,_,rfl,an5,ao9⟩))))
     · have hu:=of_decide_eq_false hu;exact eB rfl (nG (i:=0) rfl H rfl (f5 _ _ ⟨rfl,_,rfl,(iW.mp hu),(l_.mp ht)⟩))
 intro _ _ q1_;refine bX q1_ λs5 i0=>?_;clear q1_;obtain rfl:=s5;refine aY i0 λm k1 i8=>?_;clear i0;obtain rfl:=k1;refine bX i8 λe3 e6=>?_;clear i8;refine CB (i:=0) rfl H rfl λy1 H q=>?_;have m5:=r0.nc q;have k9:=s4.nc q;clear r0 s4;refine nG (i:=6) rfl H rfl (fD (dP rfl) (om λq3 f6=>sO (k9.le (aQ f6)) (o39 hb) aH (by simp) rfl λv x4 hv p3 D=>?_));obtain⟨nm,rfl⟩:∃nm:Str,v=.str nm:=by
   simp only[a_,cG,or_false]at hv;rcases hv with rfl|rfl|rfl|rfl<;>exact⟨_,rfl⟩
 have D:=(cR (aQ (o:=.list [.str "a",.str "room",.str "a",.str "b"]) f6)).trans D;have p1:=m5.pn D;have H:=H.to D;clear m5 k9 D hv;refine nG (i:=6) rfl H rfl (nT p3 (aE2 hb) ⟨by decide,by decide⟩ λdw y4 e8 e5 r2 D=>?_);have q9:=p1.pn D;have H:=H.to D;clear p1 p3 D;refine Y_ (fD (dP rfl) (fD (by decide) ?_));generalize decide (0<dw)=wr;refine CB (i:=2) rfl H rfl λy2 H q=>?_;have m7:=q9.nc q;have m9:=r2.nc q;refine CB (i:=3) rfl H rfl λt5 H q=>?_;have p0:=m7.nc q;have q0:=m9.nc q;clear q9 r2 m7 m9;refine kC rfl (fD (by decide) (nG (i:=4) rfl H rfl (qQ (an0 hw) (qR (an0 hw) (fD ⟨rfl,rfl⟩ ?_)))));have Pb:j_ t5 p c ns (b+8):=q0.up (bM _);refine nr (ur (n:=w)) (λi acc F=>∃oc:List UInt8,oc.length=i/\acc=mC oc/\j_ F p c ns (b+8+i)/\Wo F A es M1 M2/\jK S F ((((([(c9,none),(c8,none),(c7,none),(c6,none),(c3,none),(c1,none),(c0,none)].set 6 (c0,some (dG p))).set 5 (c1,some (dG A.m))).set 0 (c9,some (eD (pl+z)))).set 4 (c3,some (eD w))).set 0 (c9,some (eD m))|>.set 2 (c7,some (Ae nm))|>.set 3 (c6,some (CV.bool wr)))) (λJ J J J=>trivial) ⟨[],rfl,rfl,Pb,p0,H⟩ ?_ ?_
 · intro i acc F K' hi q1_ hK;refine gA q1_ λoc B s1 i1=>?_;clear q1_;obtain rfl:=s1;refine iR i1 λP' W' H'=>?_;clear i1;refine fV rfl (nG (i:=6) rfl H' rfl (nT P' (aW2 hw hi hb) ⟨by decide,by decide⟩ λd k7 e8 e5 x1 D=>fD (by refine aC cW ?_;exact aE4 hw hi B) ?_));refine hK _ _ ⟨oc++[kF d.toNat],by refine aC fB (aC B ?_);rfl,AB ⟨e8,e5⟩,x1,W'.pn D,H'.to D⟩
 intro acc m6 q1_;refine gA q1_ λoc B s3 i3=>?_;clear q1_;obtain rfl:=s3;refine iR i3 λl9 j2 H=>?_;clear i3;clear p0 q0 Pb;refine om λlo f3=>?_;have lo1:(m6.put lo (.list (mC oc))) lo=some (.list (mC oc)):=aH;have X:lo∉A.R::A.L::es.map (·.l):=λh=>by refine iK (j2.lists lo h) λo e=>?_;replace e:=f3▸e;cases e
 have j0:=j2.le (aQ (o:=.list (mC oc)) f3);have j7:=l9.le (aQ (o:=.list (mC oc)) f3);have H:=H.to (cR (aQ (o:=.list (mC oc)) f3));generalize m6.put lo (.list (mC oc))=S21 at lo1 j0 j7 H|-;clear j2 l9;refine CB (i:=1) rfl H rfl λj5 H q=>?_;have U:=j0.nc q;have k2:=j7.nc q;have n9:=q _ _ rfl lo1;clear j0 j7 lo1 q f3;have H:jK S j5 [(c9,some (.int m)),(c8,some (.ref lo)),(c7,some (.str nm)),(c6,some (.bool wr)),(c3,some (.int w)),(c1,some (.ref A.m)),(c0,some (.ref p))]:=H;refine QO (λv F=>j5.le F/\(v=true↔free es m (m+w))) (λK' f5=>?_) ?_
 · refine kC rfl (fD (by decide) (cK rfl (x9 U ?_)));have wl:=U.wL;refine mQ (by assumption) (fD ⟨rfl,rfl⟩ (nr (qU (p:=A.L) (l:=es.map dN)) (λi acc F=>acc=((es.take i).filter (λe=>!(decide (e.g.base+(e.g.oc.length:Int)<m)||decide (m+(w:Int)<e.g.base)))).map dN/\F=j5) (λJ J J h=>by refine aC h.2 ?_;exact wl) ⟨rfl,rfl⟩ ?_ ?_))
   · intro i acc F K1 hi q1_ hK;refine bX q1_ λu3 u2=>?_;clear q1_;obtain rfl:=u3;obtain rfl:=u2;replace hi:=(aJ _)▸hi;have e0:(es.map dN).getD i .none=dN es[i]:=by refine aC (aS) (aC (bE) (aC (aF hi) ?_));rfl
     refine aC e0 ?_;have e4:=dB hi;have t0:es.take (i+1)=es.take i++[es[i]]:=by refine aC iT (aC (aF hi) ?_);rfl
     replace hK:=t0▸hK;generalize es[i]=e at e4 hK|-;refine bX (U.ents e e4) λre le=>?_;have ib:∀{j:Int}{v:CV}{K':KP}{E':KP},0<=j/\j<4->[Ae e.g.nm,.int e.g.base,.ref e.l,.bool e.g.wr][j.toNat]?=some v->K' v F->cJ (dN e) (.int j) K' E' F:=λhj hv k=>nD (f:=.pure) ⟨hj.1,o19 hj⟩ hv k;refine cK rfl (ib (by decide) rfl (cK rfl (ib (by decide) rfl (qX le (by refine aC cW ?_;exact o1 ((U.ok.each e e4).2.2)) ?_))));refine aC cW (jA (nG (i:=0) rfl H rfl (Cw ?_)));have fin:∀t:Bool,t=(decide (e.g.base+(e.g.oc.length:Int)<m)||decide (m+(w:Int)<e.g.base))->wV (!t) (jR true) (jR false) (λt8 k7=>wV t8 ((lv 1 ([none,none,none,some (dG c9),some (dG c3)].set 1 (some (dN e)))).bind λt7=>(gd (bN (((es.take i).filter (λe=>!(decide (e.g.base+(e.g.oc.length:Int)<m)||decide (m+(w:Int)<e.g.base)))).map dN).length)).bind λJ=>jR (((es.take i).filter (λe=>!(decide (e.g.base+(e.g.oc.length:Int)<m)||decide (m+(w:Int)<e.g.base)))).map dN++[t7])) (jR (((es.take i).filter (λe=>!(decide (e.g.base+(e.g.oc.length:Int)<m)||decide (m+(w:Int)<e.g.base)))).map dN)) K1 (λJ J=>False) k7) (λJ J=>False) F:=by
       intro t ht;rcases t with _|_
       · refine fV rfl (fV rfl (cK rfl (fD ?_ (hK _ _ ⟨?_,rfl⟩))))
         · refine aC (aJ _) ?_;have:=ql (λe:n_=>!(decide (e.g.base+(e.g.oc.length:Int)<m)||decide (m+(w:Int)<e.g.base))) (es.take i);replace this:=cH▸this;exact(aB this (aB (gR _ _) (aB few (by decide))))
         ·refine aC (kW _ _) (aC bW (aC kT (iZ ht ?_)));simp
       · refine eB rfl (eB rfl (hK _ _ ⟨?_,rfl⟩));refine aC (kW _ _) (aC bW (aC kT (iZ ht ?_)));simp
     by_cases h1:e.g.base+(e.g.oc.length:Int)<m
     · refine aC (decide_eq_true h1) (fV rfl (fin true ?_));refine aC (decide_eq_true h1) ?_;rfl
     · refine aC (decide_eq_false h1) (eB rfl (nG (i:=0) rfl H rfl (nG (i:=4) rfl H rfl (jA (cK rfl (ib (by decide) rfl (Cw ?_)))))));by_cases h2:m+(w:Int)<e.g.base;·exact aC (decide_eq_true h2) (fV rfl (fin true (aC (decide_eq_true h2) (aC (FP _) rfl))))
       · refine aC (decide_eq_false h2) (eB rfl (fin false ?_));refine aC (decide_eq_false h1) (aC (decide_eq_false h2) ?_);rfl
   · clear hb g6 D hz f7 f6 e8 e5 wl;intro acc F q1_;refine bX q1_ λu8 u1=>?_;clear q1_;obtain rfl:=u8;obtain rfl:=u1;refine aC (aJ _) (aC eU (om λa1 x0=>fD (dP rfl) (om λa2 k4=>zA (f:=.pure) (gU k4 aH) aH (zQ _) (f5 _ _ ⟨CS.le_trans (aQ x0) (aQ k4),aC decide_eq_true_eq (qP List.map_eq_nil_iff (qP uH ⟨λh x hx=>?_,λh x hx=>?_⟩))⟩))))
     · have:=h x hx;simp only[hO,Kg,MZ,decide_eq_true_eq]at this;exact this
     · simp only[hO,Kg,MZ,decide_eq_true_eq];exact h x hx
 intro j8 r5 q1_;refine bX q1_ λg5 f8=>?_;clear q1_;have p6:=U.le g5;have m4:=k2.le g5;have H:=H.to (cR g5);have p2:=g5 _ _ n9;clear U k2 n9 g5;refine kC (a:=[(aD "is_writable",c6),(aD "memory",c1),(aD "name",c7),(aD "octets",c8),(aD "place",c9)]) rfl (om λf hf=>?_);have f4:(r5.put f (.clo (lG 701 0) [(aD "is_writable",c6),(aD "memory",c1),(aD "name",c7),(aD "octets",c8),(aD "place",c9)])) f=some (.clo (lG 701 0) [(aD "is_writable",c6),(aD "memory",c1),(aD "name",c7),(aD "octets",c8),(aD "place",c9)]):=aH;have Z:=aQ (o:=.clo (lG 701 0) [(aD "is_writable",c6),(aD "memory",c1),(aD "name",c7),(aD "octets",c8),(aD "place",c9)]) hf;generalize r5.put f (.clo (lG 701 0) [(aD "is_writable",c6),(aD "memory",c1),(aD "name",c7),(aD "octets",c8),(aD "place",c9)])=S24 at f4 Z|-;have g4:=p6.le Z;have r3:=m4.le Z;have H:=H.to (cR Z);have h8:=Z _ _ p2;clear p6 m4 p2 Z hf;have e7:bN oc.length:=(aB (aB (bA B) hw.2) (by decide));refine CY (λv F=>v=.none/\free es m (m+w)/\∃r d o s S2,S24.le S2/\kX S2 r d o ⟨nm,m,oc,wr⟩/\S24 o=none/\s<=es.length/\(∀i e,i<s->es[i]?=some e->e.g.base<=m)/\(∀i e,s<=i->es[i]?=some e->m<e.g.base)/\F=S2.put A.R (.list ((es.map λe=>dG e.r).take s++.ref r::(es.map λe=>dG e.r).drop s))) (λx F=>x=aD "a region in the way"/\¬free es m (m+w)/\S24.le F) (λK1 E1 hg R=>?_) (λv F a e9 ha=>?_) (λx F R=>?_)
 · refine⟨_,f4,?_⟩;show oD (aM (n+5)) (lG 701 0) [(aD "is_writable",c6),(aD "memory",c1),(aD "name",c7),(aD "octets",c8),(aD "place",c9)] [] K1 E1 S24;refine aC (xB _ _) ?_;refine qt (λK_ E_ rK eK=>nG (i:=5) (by kernel_rfl) H rfl ?_);refine iM g4 (g:=205) (by kernel_rfl) (by kernel_rfl) ?_;refine nG (i:=2) (by kernel_rfl) H rfl (nG (i:=0) (by kernel_rfl) H rfl (nG (i:=1) (by kernel_rfl) H rfl (Mi h8 (by refine aC cW ?_;exact e7) (kO oc) e7 λo ho=>?_)));have o1:(S24.put o (.barr oc)) o=some (.barr oc):=aH;have l1:=aQ (o:=.barr oc) ho;generalize S24.put o (.barr oc)=S25 at o1 l1|-;refine nG (i:=3) (by kernel_rfl) (H.to (cR l1)) rfl (uT (g:=⟨nm,m,oc,wr⟩) o1 λr d s7 l2 J J Y=>eS (by kernel_rfl) ?_);have l3:=CS.le_trans l1 l2;refine UW (g4.le l3).me Y e7 (λhn a q4 le r6=>eK _ _ ⟨q4,CS.le_refl,⟨a,_,rfl,r6.choose_spec.1⟩,R a _ q4 r6 ⟨rfl,?_,CS.le_trans l3 le⟩⟩) (λN s h1 h2 h3=>rK _ _ ⟨_,CS.le_refl,hg _ _ ⟨rfl,?_,r,d,o,s,s7,l3,Y,ho,h1,h2,h3,rfl⟩⟩);·intro h;apply hn;show free es m (m+(oc.length:Int));refine aC B ?_;exact h
   · have:free es m (m+(oc.length:Int)):=N;replace this:=B▸this;exact this
 · clear hb g6 D hz f7 f6 e8 e5 f4 e7;refine bX e9 λt6 r4=>?_;clear e9;obtain rfl:=t6;refine AS r4 λN r d o s S2 l2 Y ho g7 s2 k6 t3=>?_;clear r4;obtain rfl:=t3;have ht:j8=true:=f8.mpr N;subst ht;have W2:=g4.le l2;have H2:=H.to (cR l2);have c5:=l2 _ _ h8;generalize j1:S2.put A.R (.list ((es.map λe=>dG e.r).take s++.ref r::(es.map λe=>dG e.r).drop s))=S3 at ha|-;have k3:∀x y,x≠A.R->S2 x=some y->S3 x=some y:=λx y hx e=>by refine iZ j1 ?_;exact cC hx e
   have R3:S3 A.R=some (.list ((es.map λe=>dG e.r).take s++.ref r::(es.map λe=>dG e.r).drop s)):=by refine iZ j1 ?_;exact aH
   have G:∀{x:Addr}{y:CO},S2 x=some y->y≠.list (es.map λe=>.ref e.r)->x≠A.R:=λe j6 q=>by replace e:=W2.mR▸(q▸e);cases e;exact j6 rfl
   have Q:∀x∈[(c9,some (eD m)),(c8,some (.ref lo)),(c7,some (.str nm)),(c6,some (.bool wr)),(c3,some (.int w)),(c1,some (.ref A.m)),(c0,some (.ref p))],S3 x.1=some (.cell x.2):=λx hx=>k3 _ _ (G (H2.get x hx).1 (by simp)) (H2.get x hx).1;have T:=k3 _ _ (G W2.wd (by simp)) W2.wd;have g9:=W2.nl;replace g9:=propext cZ▸(propext cZ▸g9);have L3:=k3 _ _ (λq=>g9.1 (by refine iZ q ?_;simp)) W2.wL;clear j1;have a4:(S3.put a (.list [qH])) a=some (.list [qH]):=aH;have l4:=aQ (o:=.list [qH]) ha;generalize S3.put a (.list [qH])=S4 at a4 l4|-;refine dS (cK rfl (qw (fV rfl (ZT (cK rfl (DJ (l4 _ _ T) (v:=.ref A.L) (by kernel_rfl) (tT (by rfl) (l4 _ _ (Q (c7,some (.str nm)) (by simp))) (tT (by rfl) (l4 _ _ (Q (c9,some (.int m)) (by simp))) (tT (by rfl) (l4 _ _ (Q (c8,some (.ref lo)) (by simp))) (tT (by rfl) (l4 _ _ (Q (c6,some (.bool wr)) (by simp))) (fD (dP rfl) (fD (dP rfl) (om λq5 j9=>?_)))))))))))));have x5:(S4.put q5 (.list [.tup [.str nm,.int m,.ref lo,.bool wr]])) q5=some (.list [.tup [.str nm,.int m,.ref lo,.bool wr]]):=aH;have l5:=CS.le_trans l4 (aQ (o:=.list [.tup [.str nm,.int m,.ref lo,.bool wr]]) j9);have a5:=aQ (o:=.list [.tup [.str nm,.int m,.ref lo,.bool wr]]) j9 _ _ a4;generalize S4.put q5 (.list [.tup [.str nm,.int m,.ref lo,.bool wr]])=S5 at x5 l5 a5|-;refine al6 (l5 _ _ L3) x5 ⟨by refine aC (aJ _) ?_;exact(aB few (by decide)),by unfold bN;simp⟩ λq6 j4=>?_;have x6:(S5.put q6 (.list (es.map dN++[.tup [.str nm,.int m,.ref lo,.bool wr]]))) q6=some (.list (es.map dN++[.tup [.str nm,.int m,.ref lo,.bool wr]])):=aH;have l6:=CS.le_trans l5 (aQ (o:=.list (es.map dN++[.tup [.str nm,.int m,.ref lo,.bool wr]])) j4);have a6:=aQ (o:=.list (es.map dN++[.tup [.str nm,.int m,.ref lo,.bool wr]])) j4 _ _ a5;generalize S5.put q6 (.list (es.map dN++[.tup [.str nm,.int m,.ref lo,.bool wr]]))=S6 at x6 l6 a6|-;refine⟨_,x6,?_⟩;have g8:uY (EM es s (⟨r,d,o,lo,⟨nm,m,oc,wr⟩⟩:n_)):=Xe W2.ok g7 s2 k6 (by show free es m (m+(oc.length:Int));refine aC B ?_;exact N) ⟨e3,(aG (jM (dJ e6) (aX.mpr (B▸hw.2))) (by decide)),(aB (aB (bA B) hw.2) (by decide))⟩;have keys:∀l:List n_,oU 1 (l.map dN)=some (l.map λe=>e.g.base):=by intro l;induction l with|nil=>rfl|cons x y ih=>show(some x.g.base).bind _=_;refine aC (nN _ _) (aC ih ?_);rfl
   have eqT:es.map dN++[.tup [.str nm,.int m,.ref lo,.bool wr]]=(es++[(⟨r,d,o,lo,⟨nm,m,oc,wr⟩⟩:n_)]).map dN:=by refine aC bW ?_;rfl
   refine⟨by refine aC eqT (aC (aJ _) (aC fB ?_));exact aG7 few,⟨_,by refine aC eqT ?_;exact keys _⟩,λl' q' hp hk hs=>?_⟩;have t1:l'=(EM es s (⟨r,d,o,lo,⟨nm,m,oc,wr⟩⟩:n_)).map dN:=by exact EK g8 (hp.trans (aC eqT (((List.perm_append_singleton (⟨r,d,o,lo,⟨nm,m,oc,wr⟩⟩:n_) es).map dN).trans (qu.symm.map dN)))) hk hs
   clear D e3 e6 h8 s2 k6 H2 Q g9 L3 a4 l4 j9 x5 l5 a5 j4 x6 keys eqT hp hk hs;subst t1;refine om λL' I=>?_;have x7:(S6.put L' (.list ((EM es s (⟨r,d,o,lo,⟨nm,m,oc,wr⟩⟩:n_)).map dN))) L'=some (.list ((EM es s ⟨r,d,o,lo,⟨nm,m,oc,wr⟩⟩).map dN)):=aH;have l7:=CS.le_trans l6 (aQ (o:=.list ((EM es s ⟨r,d,o,lo,⟨nm,m,oc,wr⟩⟩).map dN)) I);have a7:=aQ (o:=.list ((EM es s ⟨r,d,o,lo,⟨nm,m,oc,wr⟩⟩).map dN)) I _ _ a6;have n3:L'∉lo::A.R::A.L::es.map (·.l):=λhm=>by
     have hex:∃y,S6 L'=some y:=by
       rcases a_.mp hm with e|hm;·refine aC e ?_;exact⟨_,l6 _ _ (k3 _ _ (G c5 (by
           intro q;injection q with q;refine eC λk_=>?_;rcases oc with _|⟨u,v⟩;refine k_ ?_;·exact aC4 hw B
           ·cases es with|nil=>simp[mC]at q|cons g h=>simp[mC]at q)) c5)⟩
       · by_cases hx:L'=A.R;·refine aC hx ?_;exact⟨_,l6 _ _ R3⟩
         ·exact iK (W2.lists L' hm) λy hy=>⟨y,l6 _ _ (k3 _ _ hx hy)⟩
     refine iK hex λy hy=>?_;clear hex;replace hy:=I▸hy;cases hy
   generalize S6.put L' (.list ((EM es s ⟨r,d,o,lo,⟨nm,m,oc,wr⟩⟩).map dN))=S7' at x7 l7 a7|-;refine cK rfl (UE (l7 _ _ T) (by unfold lS;simp) ?_);have ew:nV "regions" (.ref L') (lS A)=lS {A with L:=L'}:=by kernel_rfl
   refine aC ew ?_;have C:∀{x:Addr}{y:CO},S2 x=some y->(∀l,y≠.sdict l)->x≠A.w:=λe j6 q=>by replace e:=W2.wd▸(q▸e);cases e;exact j6 _ rfl
   have h9:(S7'.put A.w (.sdict (lS {A with L:=L'}))) A.w=some (.sdict (lS {A with L:=L'})):=aH;have k8:∀x y,x≠A.w->S7' x=some y->(S7'.put A.w (.sdict (lS {A with L:=L'}))) x=some y:=λx y hx e=>cC hx e;have aw:a≠A.w:=λq=>by replace ha:=T▸(q▸ha);cases ha
   have Lw:L'≠A.w:=λq=>by replace I:=(l6 _ _ T)▸(q▸I);cases I
   generalize S7'.put A.w (.sdict (lS {A with L:=L'}))=S8 at h9 k8|-;refine cK rfl (cK rfl (qw (fV rfl (fD (dP rfl) (om λzf O=>zA (gU O (k8 _ _ aw a7)) aH (by rfl:PB [qH] [qH]=some true) ?_)))));have lz:=aQ (o:=.list [qH]) O;generalize S8.put zf (.list [qH])=Sf at lz|-;have kf:∀x y,x≠A.R->x≠A.w->S2 x=some y->Sf x=some y:=λx y h1 h2 e=>lz _ _ (k8 _ _ h2 (l7 _ _ (k3 _ _ h1 e)));refine xD (rK _ _ ⟨Sf,CS.le_refl,k _ ⟨⟨{A with L:=L'},_,M1,M2,Wo.added W2 (L':=L') (x:=⟨r,d,o,lo,⟨nm,m,oc,wr⟩⟩) g7 kf ?_ (lz _ _ h9) (lz _ _ (k8 _ _ Lw x7)) ⟨?_,?_⟩ g8 few ?_ X n3,rfl,rfl,rfl,rfl,by refine aC qu.length_eq ?_;simp⟩,?_,?_⟩⟩)
   · refine aC (lz _ _ (k8 _ _ (C W2.mR (by simp)) (l7 _ _ R3))) ?_;unfold EM;exact aC bW (aC fH (aC tx (aC List.map_drop rfl)))
   ·exact⟨kf _ _ (G Y.i (by simp)) (C Y.i (by simp)) Y.i,kf _ _ (G Y.f (by simp)) (C Y.f (by simp)) Y.f,kf _ _ (G Y.o (by simp)) (C Y.o (by simp)) Y.o⟩
   ·exact kf _ _ (λq=>X (q▸bS)) (C c5 (by simp)) c5
   · intro hm;refine iK (g4.barrs o hm) λy e=>?_;replace e:=ho▸e;cases e
   · refine eC λk_=>?_;obtain⟨⟨sp,gr,ep,h1,h2⟩,f0,j3⟩:=(r3.le l2);refine k_ (⟨ns,⟨sp,gr,kf _ _ (G ep ?_) (C ep (by simp)) ep,h1,aV8 hw h2⟩,kf _ _ (G f0 ?_) (C f0 (by simp)) f0,j3⟩)
     ·intro q;injection q with q;clear D B Y ho c5 ha k3 T l6 a6 I l7 a7 ew aw Lw h9 k8 O lz k_ f0 j3 ep h1 h2 few X g7 R3 g8 n3 x7;rcases es with _|⟨e1,_|⟨e2,er⟩⟩<;>simp at q
     · intro q;injection q with q;clear few D B X Y ho g7 c5 ha k3 R3 T l6 a6 g8 I n3 x7 l7 a7 ew aw Lw h9 k8 O lz k_ f0 j3 ep h1 h2;rcases es with _|⟨e1,er⟩;·refine aY W2.ctx λJ h0 J=>?_;cases h0
       · rcases r1:ns with _|⟨u,v⟩;·replace q:=r1▸q;simp at q
         ·replace q:=r1▸q;simp at q
   · intro x v e;have e2:=l2 _ _ (qm H.pn x v e);exact kf _ _ (G e2 (by simp)) (C e2 (by simp)) e2
 · refine bX R λt9 m0=>?_;clear R;obtain rfl:=t9;refine bX m0 λN l2=>?_;clear m0;have ht:j8=false:=by
     rcases h:j8 with _|_;·rfl
     ·exact absurd (f8.mp h) N
   clear hb few q g6 D hz f7 e3 e6 f6 e8 e5 B X f8 f4 h8 e7 N;subst ht;exact dS (cK rfl (qw (eB rfl (cK rfl (cK rfl (qw (eB rfl (vZ (xD (rK _ _ (aC (decide_eq_true rfl) (⟨F,CS.le_refl,k _ ⟨⟨A,es,M1,M2,(g4.le l2),rfl,rfl,rfl,rfl,o18⟩,⟨_,(r3.le l2).up (aB (bU hw.2 (_+8)) (bU (by decide:24<=100) _))⟩,(qm H.pn).trans (qm (cR l2))⟩⟩))))))))))))
end
noncomputable def kK(nm:Str)(e:n_):Bool:=decide (e.g.nm=nm)
section
variable{n:Nat}{K:KP}{E:KP}{S:CS}{A:Ad}{es:List n_}{M1 M2:kD}{p c:Addr}{ns:List Int}{b:Nat}
theorem take_snoc{α:Type}{l:List α}{i:Nat}(hi:i<l.length):l.take (i+1)=l.take i++[l[i]]:=by refine aC iT (aC (aF hi) ?_);rfl
theorem pV{f:n_->CV}(hi:i<es.length):(es.map f).getD i .none=f es[i]:=by rw[aS,bE,aF hi];rfl
theorem HZ{nm:Str}(W:Me S A es)(w:es.filter (kK nm)=[]->K .none S)(kS:∀e r,es.filter (kK nm)=e::r->e∈es->K (.ref e.r) S):aM (n+1) (.st 217) [.ref A.m,.str nm] K E S:=by
 refine aC (zt _ _ _) ?_;refine fT (λs o q B P=>dS (qh W (mQ W.mR ?_)));refine fD rfl ?_;refine A9 (qU (p:=A.R) (l:=es.map λe=>dG e.r)) (λi vs b=>∃x,vs=[some (.ref A.m),some (.str nm),x]/\b=S/\(es.take i).filter (kK nm)=[]) (λa a a h=>by revert h;refineλg=>gA g λa a h a=>?_;clear g;refine aC h ?_;exact W.mR) ⟨none,rfl,rfl,(by rfl)⟩ ?_ ?_
 · intro i vs b u hi q1_ m J;refine aY q1_ λx X y=>?_;clear q1_;obtain rfl:=X;refine bX y λY v=>?_;clear y;obtain rfl:=Y;replace hi:=(aJ _)▸hi;refine aC (pV hi) (dS (cK rfl (C9 (W.ents _ (dB hi)) (cK rfl (vZ (Fk (λht=>?_) (λht=>?_)))))))
   · refine cK rfl (J _ _<|q _ _ ⟨_,CS.le_refl,kS es[i] ((es.drop (i+1)).filter (kK nm)) ?_ (dB hi)⟩);have e1:es=es.take i++(es[i]::es.drop (i+1)):=iZ (CJ hi) (aC (qk _ _) rfl);have ht:kK nm es[i]=true:=ht;refine aC (congrArg _ e1:es.filter (kK nm)=(es.take i++(es[i]::es.drop (i+1))).filter (kK nm)) (aC (kW _ _) (aC v (aC kT (aC (if_pos ht) ?_))));rfl
   · skip;refine m _ _ ⟨_,rfl,rfl,?_⟩;rw[take_snoc hi,kW,v,kT,if_neg (by rw[show kK nm es[i]=false from ht];simp)];rfl
 · clear W kS;intro vs b q1_;refine aY q1_ λx L f=>?_;clear q1_;obtain rfl:=L;refine bX f λz v=>?_;clear f;obtain rfl:=z;replace v:=eU▸((aJ _)▸v);exact q _ _ ⟨_,CS.le_refl,w v⟩
theorem VR{nm:Str}(W:Me S A es)(k:∀R' z,S.le z->S R'=none->z R'=some (.list ((es.filter λe=>!kK nm e).map λe=>.ref e.r))->K (.bool (decide ((es.filter λe=>!kK nm e).length<es.length))) (z.put A.dm (.flds (sY {A with R:=R'})))):aM (n+1) (.st 210) [.ref A.m,.str nm] K E S:=by
 refine aC (Ak _ _ _) ?_;refine qt (λv t s P=>JH λcn q=>I4 (by rfl) aH ?_);refine aC pQ ?_;have l1:S.le (S.put cn (.cell (some (.str nm)))):=aQ q;have c1:(S.put cn (.cell (some (.str nm)))) cn=some (.cell (some (.str nm))):=aH;generalize S.put cn (.cell (some (.str nm)))=z at l1 c1|-;have O:=W.le l1;refine kC rfl (fD (by decide) (cK rfl (qh O (mQ O.mR (fD ⟨rfl,rfl⟩ ?_)))));have hf:=W.few;have r:∀l:List n_,(l.filter λe=>!kK nm e).length<=l.length:=λl=>ql _ _;refine nr (qU (p:=A.R) (l:=es.map λe=>dG e.r)) (λi acc c=>acc=((es.take i).filter λe=>!kK nm e).map (λe=>dG e.r)/\c=z) (λf f f h=>by refine aC h.2 ?_;exact O.mR) ⟨rfl,rfl⟩ ?_ ?_
 · intro i acc c u hi q1_ m;refine bX q1_ λH Z=>?_;clear q1_;obtain rfl:=H;obtain rfl:=Z;replace hi:=(aJ _)▸hi;refine aC (pV hi) ?_;replace m:=kT▸(bW▸((kW _ _)▸((take_snoc hi)▸m)));have h2:=r (es.take i);replace h2:=cH▸h2;refine cK rfl (C9 (O.ents _ (dB hi)) (tT rfl (by assumption) (Bd (vZ ?_))));rcases ht:kK nm es[i]with _|_
   · replace m:=ht▸m;refine aC (show decide ((es[i]).g.nm=nm)=false from ht) (fV rfl (fV rfl (cK rfl (fD (by refine aC (aJ _) ?_;exact o41 hf h2) (m _ _ ⟨?_,rfl⟩)))));rfl
   · replace m:=ht▸m;refine aC (show decide ((es[i]).g.nm=nm)=true from ht) (eB rfl (eB rfl (m _ _ ⟨?_,rfl⟩)));simp
 · clear q c1 O;intro acc c q1_;refine bX q1_ λG C=>?_;clear q1_;obtain rfl:=G;obtain rfl:=C;refine aC (aJ _) (aC eU (om λR' B=>?_));have d:(c.put R' (.list ((es.filter λe=>!kK nm e).map λe=>dG e.r))) R'=some (.list ((es.filter λe=>!kK nm e).map λe=>dG e.r)):=aH;have l2:=hU (o:=.list ((es.filter λe=>!kK nm e).map λe=>dG e.r)) l1 (jQ l1 B);generalize c.put R' (.list ((es.filter λe=>!kK nm e).map λe=>dG e.r))=S2 at d l2|-;have X:=W.le l2;refine cK rfl (qX d (by refine aC (aJ _) ?_;exact Wk hf (r es)) ?_);refine aC (aJ _) (cK rfl (qh X (qX X.mR (by refine aC (aJ _) ?_;exact o6 hf) ?_)));refine aC (aJ _) (Cw (cK rfl (cK rfl (sX (i:=1) X.mi X.mf (by kernel_rfl) (by kernel_rfl) (by unfold sY;simp) ?_))));have ew:nV "regions" (.ref R') (sY A)=sY {A with R:=R'}:=by kernel_rfl
   refine iZ ew (cK rfl (xD (s _ _ ⟨_,CS.le_refl,?_⟩)));rw[(λa b=>decide_eq_decide.mpr ap9:∀a b:Nat,decide ((a:Int)<(b:Int))=decide (a<b))];exact(k R' S2 l2 (jQ l1 B) d)
theorem W0(W:Me S A es)(k:∀b,S.le b->K (.tup (es.map λe=>rB e.g)) b):aM (n+2) (.st 278) [.ref A.m] K E S:=by
 refine aC (AD _ _) ?_;have hf:=W.few;refine fT (λs t r w P=>kC rfl (fD (by decide) (qh W (mQ W.mR (fD ⟨rfl,rfl⟩ (nr (qU (p:=A.R) (l:=es.map λe=>dG e.r)) (λi acc b=>acc=(es.take i).map (λe=>rB e.g)/\b=S) (λc c c h=>by refine aC h.2 ?_;exact W.mR) ⟨rfl,rfl⟩ ?_ ?_))))))
 · intro i acc b u hi q1_ q;refine bX q1_ λo T=>?_;clear q1_;obtain rfl:=o;obtain rfl:=T;replace hi:=(aJ _)▸hi;refine aC (pV hi) ?_;replace q:=bW▸((take_snoc hi)▸q);refine fV rfl ?_;have X:=W.ents _ (dB hi);refine pM (g:=120) X.i X.f (by kernel_rfl) (by kernel_rfl) (eS (by kernel_rfl) (Dl X (by have:=(W.ok.each _ (dB hi)).2.2;exact o1 this) (fD (by refine aC (aJ _) (aC cH ?_);exact o38 hf) (q _ _ ⟨rfl,rfl⟩))))
 · intro acc b q1_;refine bX q1_ λR m=>?_;clear q1_;obtain rfl:=R;obtain rfl:=m;refine aC (aJ _) (aC eU (om λa ha=>LA aH (by refine aC (aJ _) ?_;exact o6 hf) (r _ _ ⟨b,aQ ha,k _ CS.le_refl⟩)))
theorem xJ(h:(es.map f++tl).Nodup):((es.filter q).map f++tl).Nodup:=List.Sublist.nodup (List.Sublist.append_right (List.Sublist.map f IV) tl) h
theorem Wo.dropped(W:Wo S A es M1 M2)(hk:∀a o,a≠A.dm->a≠A.w->S a=some o->Sf a=some o)(J:Sf R'=some (.list ((es.filter q).map λe=>.ref e.r)))(hd:Sf A.dm=some (.flds (sY {A with R:=R',L:=L'})))(hw:Sf A.w=some (.sdict (lS {A with R:=R',L:=L'})))(j:Sf L'=some (.list ((es.filter q).map dN)))(i:∀e,e.g.nm=aD "context"->q e=true)(n1:S R'=none)(n2:S L'=none)(b:R'≠L'):Wo Sf {A with R:=R',L:=L'} (es.filter q) M1 M2:=by
 have ne:∀{a:Addr}{o:CO},S a=some o->(∀l,o≠.flds l)->(∀l,o≠.sdict l)->Sf a=some o:=λ{a o}e h1 h2=>hk a o (λq=>by obtain rfl:=aE (W.mf▸q▸e);exact h1 _ rfl) (λq=>by obtain rfl:=aE (W.wd▸q▸e);exact h2 _ rfl) e;have T:∀{a:Addr}{l:List (Str×CV)},S a=some (.flds l)->l≠sY A->Sf a=some (.flds l):=λ{a l}e h=>hk a _ (λq=>by rw[q,W.mf]at e;cases e;exact h rfl) (λq=>by rw[q,W.wd]at e;exact nomatch e) e;have sub:∀e∈es.filter q,e∈es:=λe he=>(rk.mp he).1;refine⟨ne W.mi (by simp) (by simp),hd,J,λe he=>⟨(λh=>⟨ne h.i (by simp) (by simp),T h.f (by unfold Mk sY;simp),ne h.o (by simp) (by simp)⟩) (W.ents e (sub e he)).1,ne (W.ents e (sub e he)).2 (by simp) (by simp)⟩,ne W.mp (by simp) (by simp),(λh=>⟨ne h.i (by simp) (by simp),T h.f (by unfold Lg sY;simp),ne h.V (by simp) (by simp),λv g=>⟨ne (h.b v g).1 (by simp) (by simp),(h.b v g).2⟩⟩:∀{M:kD},gO S M->gO Sf M) W.o1,(λh=>⟨ne h.i (by simp) (by simp),T h.f (by unfold Lg sY;simp),ne h.V (by simp) (by simp),λv g=>⟨ne (h.b v g).1 (by simp) (by simp),(h.b v g).2⟩⟩:∀{M:kD},gO S M->gO Sf M) W.o2,hw,j,xJ W.nb,?_,W.c1,W.c2,?_,?_,?_⟩
 · have nl:=W.nl;rw[cZ,cZ]at nl;have hn:∀x,S x=none->x∉(es.filter q).map (·.l):=λx hx hm=>by
     refine aY (bR.mp hm) λe he k=>?_;obtain rfl:=k;exact iH (hx.symm.trans ((W.ents e (sub e he)).2))
   refine qP cZ (qP cZ (qP a_ (qP not_or (⟨⟨b,hn _ n1⟩,hn _ n2,?_⟩))));have:=xJ (q:=q) (f:=(·.l)) (tl:=[]) (by refine aC (lP _) ?_;exact nl.2.2);rwa[lP]at this
 ·exact⟨W.ok.apart.sublist IV,λe he=>W.ok.each e (sub e he)⟩
 · have:=ql q es;have:=W.few;exact(aB (by assumption) (by assumption))
 ·exact aY W.ctx λe he h=>⟨e,rk.mpr ⟨he,i e h⟩,h⟩
end
section
variable{n:Nat}{K:KP}{E:KP}{S:CS}{A:Ad}{es:List n_}{M1 M2:kD}{p c:Addr}{ns:List Int}{b:Nat}
theorem Js(W:Wo S A es M1 M2)(P:j_ S p c ns b)(hb:b<=90000)(k:∀d,Af S A es M1 M2 p c ns b d->K (.bool true) d):aM (n+5) (.st 706) [.ref p,.ref A.m,.ref A.w] K E S:=by
 refine aC (AG _ _ _ _) ?_;refine qt (λK_ E_ rK eK=>JH λcn c5=>?_);refine bX (jK.nil.new CS.le_refl c5) λH l1=>?_;have hf:=W.few;have W1:=W.le l1;have P1:=P.le l1;generalize S.put cn (.cell none)=S1 at H l1 W1 P1|-;refine fD (dP rfl) (om λq1 U=>sO (P1.le (aQ U)) (at0 hb) aH ((by decide)) rfl λv S2 hv P2 D=>?_);obtain⟨nm,rfl,g4⟩:∃nm:Str,v=.str nm/\nm≠aD "context":=by
   simp only[a_,cG,or_false]at hv;rcases hv with rfl|rfl|rfl|rfl|rfl<;>exact⟨_,rfl,by decide+kernel⟩
 have D:=(cR (aQ (o:=.list [.str "a",.str "b",.str "room",.str "packet",.str "none"]) U)).trans D;have W2:=W1.pn D;have H:=H.to D;refine CB (i:=0) rfl H rfl λS3 H q=>?_;have N:=W2.nc q;have P3:=P2.nc q;have g6:Cl S S3:=qm H.pn;have e5:S3 cn=some (.cell (some (.str nm))):=H.at_ 0 rfl;clear W2 P2 q H;refine kC rfl (fD (by decide) (cK rfl (x9 N (mQ N.wL (fD ⟨rfl,rfl⟩ ?_)))));have w:∀(q:n_->Bool)(l:List n_),(l.filter q).length<=l.length:=λJ l=>ql _ _;refine nr (qU (p:=A.L) (l:=es.map dN)) (λi acc d=>acc=((es.take i).filter λe=>!kK nm e).map dN/\d=S3) (λJ J J h=>by refine aC h.2 ?_;exact N.wL) ⟨rfl,rfl⟩ ?_ ?_
 · intro i acc d O hi q1_ m;refine bX q1_ λg8 e8=>?_;clear q1_;obtain rfl:=g8;obtain rfl:=e8;replace hi:=(aJ _)▸hi;refine aC (pV hi) ?_;replace m:=kT▸(bW▸((kW _ _)▸((take_snoc hi)▸m)));have h2:=w (λe=>!kK nm e) (es.take i);replace h2:=cH▸h2;refine cK rfl (nD ⟨by decide,by decide⟩ rfl (tT rfl (by assumption) (Bd (vZ ?_))));rcases ht:kK nm es[i]with _|_
   · replace m:=ht▸m;refine aC (show decide ((es[i]).g.nm=nm)=false from ht) (fV rfl (fV rfl (cK rfl (fD (by refine aC (aJ _) ?_;exact o41 hf h2) (m _ _ ⟨?_,rfl⟩)))));simp
   · replace m:=ht▸m;refine aC (show decide ((es[i]).g.nm=nm)=true from ht) (eB rfl (eB rfl (m _ _ ⟨?_,rfl⟩)));simp
 intro acc d q1_;refine bX q1_ λf6 f0=>?_;clear q1_;obtain rfl:=f6;obtain rfl:=f0;refine aC (aJ _) (aC eU (om λL' e4=>?_));have x4:(d.put L' (.list ((es.filter λe=>!kK nm e).map dN))) L'=some (.list ((es.filter λe=>!kK nm e).map dN)):=aH;have l4:=aQ (o:=.list ((es.filter λe=>!kK nm e).map dN)) e4;generalize d.put L' (.list ((es.filter λe=>!kK nm e).map dN))=S4 at x4 l4|-;have W4:=N.le l4;have f3:=l4 _ _ e5;refine kC rfl (fD (by decide) (cK rfl (x9 W4 (mQ W4.wL (fD ⟨rfl,rfl⟩ (nr (qU (p:=A.L) (l:=es.map dN)) (λi acc d=>acc=((es.take i).filter (kK nm)).map dN/\d=S4) (λJ J J h=>by refine aC h.2 ?_;exact W4.wL) ⟨rfl,rfl⟩ ?_ ?_))))))
 · intro i acc S5 O hi q1_ m;refine bX q1_ λf8 g9=>?_;clear q1_;obtain rfl:=f8;obtain rfl:=g9;replace hi:=(aJ _)▸hi;refine aC (pV hi) ?_;replace m:=kT▸(bW▸((kW _ _)▸((take_snoc hi)▸m)));have h2:=w (kK nm) (es.take i);replace h2:=cH▸h2;refine cK rfl (nD ⟨by decide,by decide⟩ rfl (tT rfl (by assumption) (vZ ?_)));rcases ht:kK nm es[i]with _|_
   · replace m:=ht▸m;refine aC (show decide ((es[i]).g.nm=nm)=false from ht) (eB rfl (eB rfl (m _ _ ⟨?_,rfl⟩)));simp
   · replace m:=ht▸m;refine aC (show decide ((es[i]).g.nm=nm)=true from ht) (fV rfl (fV rfl (cK rfl (fD (by refine aC (aJ _) ?_;exact o41 hf h2) (m _ _ ⟨?_,rfl⟩)))));simp
 clear W P hb c5 H l1 W1 P1 U D W4 f3;intro acc S5 q1_;refine bX q1_ λg5 f4=>?_;clear q1_;obtain rfl:=g5;obtain rfl:=f4;refine aC (aJ _) (aC eU ?_);have h2:=w (kK nm) es;refine om λq2 e6=>?_;have x6:(S5.put q2 (.list ((es.filter (kK nm)).map dN))) q2=some (.list ((es.filter (kK nm)).map dN)):=aH;have l6:=CS.le_trans l4 (aQ (o:=.list ((es.filter (kK nm)).map dN)) e6);have L6:=aQ (o:=.list ((es.filter (kK nm)).map dN)) e6 _ _ x4;generalize S5.put q2 (.list ((es.filter (kK nm)).map dN))=S6 at x6 l6 L6|-;refine HS x6 (by refine aC (aJ _) ?_;exact Wk hf h2) (by decide) λq3 e3=>?_;have I:(S6.put q3 (.list (((es.filter (kK nm)).map dN).take (cA 1)))) q3=some (.list (((es.filter (kK nm)).map dN).take (cA 1))):=aH;have l7:=CS.le_trans l6 (aQ (o:=.list (((es.filter (kK nm)).map dN).take (cA 1))) e3);have L7:=aQ (o:=.list (((es.filter (kK nm)).map dN).take (cA 1))) e3 _ _ L6;generalize S6.put q3 (.list (((es.filter (kK nm)).map dN).take (cA 1)))=S7 at I l7 L7|-;have W7:=N.le l7;have e7:=l7 _ _ e5;refine cK rfl (iM W7 (g:=217) (by kernel_rfl) (by kernel_rfl) ?_);refine tT rfl (by assumption) ?_;refine eS (by kernel_rfl) (HZ W7.me ?b1 ?b2);case' b1=> intro G;replace I:=G▸I;refine dS (cK rfl (IC (cK rfl (fD (dP rfl) (om λz hz=>?_)))));have z7:(S7.put z (.list [])) z=some (.list []):=aH;have X:=aQ (o:=.list []) hz;refine zA (X _ _ I) z7 (zQ _) ?_;generalize S7.put z (.list [])=S8 at z7 X|-;have Q:=W7.le X;have u:=X _ _ e7;refine Bd (zG rfl (eB rfl (cK rfl (qL (eB rfl (eB rfl (eB rfl ?_)))))))
 case' b2=>
   intro e r G he;replace I:=G▸I;refine dS (cK rfl (IC (cK rfl (fD (dP rfl) (om λz hz=>?_)))));have z7:(S7.put z (.list [])) z=some (.list []):=aH;have X:=aQ (o:=.list []) hz;refine zA (X _ _ I) z7 (zQ _) ?_;generalize S7.put z (.list [])=S8 at z7 X|-;have Q:=W7.le X;have u:=X _ _ e7;refine Bd (zG rfl (eB rfl (cK rfl (qL (bX (Q.ents e he) λrg rl=>?_)))));have g7:e.g.nm=nm:=by
     have:e∈es.filter (kK nm):=by refine aC G ?_;exact bS
     exact of_decide_eq_true (rk.mp this).2
   have T:=(Q.ok.each e he).2.2;refine fV rfl (cK (by rfl) (pM (g:=120) rg.i rg.f (by kernel_rfl) (by kernel_rfl) (eS (by kernel_rfl) (Dl rg (by unfold bN;exact o1 T) ?_))));have i0:∀{O:KP}{E':KP},O (dN e) S8->cJ (.ref q3) (.int 0) O E' S8:=λk=>oY (f:=.pure) (X _ _ I) ⟨by decide,by decide⟩ rfl k;have ib:∀{j:Int}{v:CV}{O:KP}{E':KP},0<=j/\j<4->[Ae e.g.nm,.int e.g.base,.ref e.l,.bool e.g.wr][j.toNat]?=some v->O v S8->cJ (dN e) (.int j) O E' S8:=λhj hv k=>nD (f:=.pure) ⟨hj.1,o19 hj⟩ hv k;refine tT rfl (by assumption) (cK rfl (i0 (ib (by decide) rfl (cK rfl (i0 (ib (by decide) rfl (qZ rl (by refine aC cW ?_;unfold bN;exact o1 T) (kO _) (by unfold bN;exact o1 T) ?_)))))));refine cK rfl (i0 (ib (by decide) rfl (fD (dP rfl) (Bd (zG (t:=true) ?_ ?_)))));·unfold rB;refine aC g7 ?_;exact Kk (rb cS (rb cI (rb cB (rb cO rfl))))
   refine eB rfl (eB rfl (eB rfl ?_))
 all_goals
   refine cK rfl (qX (X _ _ L7) (by refine aC (aJ _) ?_;exact Wk hf (w (λe=>!kK nm e) es)) ?_);refine aC (aJ _) (cK rfl (x9 Q (qX Q.wL (by refine aC (aJ _) ?_;exact o6 hf) ?_)));refine aC (aJ _) (Cw (cK rfl (cK rfl ?_)));rw[(λa b=>decide_eq_decide.mpr ap9:∀a b:Nat,decide ((a:Int)<(b:Int))=decide (a<b))];refine UE Q.wd (by unfold lS;simp) ?_;have ew:nV "regions" (.ref L') (lS A)=lS {A with L:=L'}:=by kernel_rfl
   refine aC ew ?_;have C:∀{x:Addr}{y:CO},S8 x=some y->(∀l,y≠.sdict l)->(S8.put A.w (.sdict (lS {A with L:=L'}))) x=some y:=λ{x y}e h=>cC (λq=>by obtain rfl:=aE (Q.wd▸q▸e);exact h _ rfl) e;have e0:∀{x:Addr}{y:CO},x≠A.w->S8 x=some y->(S8.put A.w (.sdict (lS {A with L:=L'}))) x=some y:=λ{x y}h e=>cC h e;have w9:(S8.put A.w (.sdict (lS {A with L:=L'}))) A.w=some (.sdict (lS {A with L:=L'})):=aH;have n9:∀{x:Addr},(S8.put A.w (.sdict (lS {A with L:=L'}))) x=none->S8 x=none:=λh=>(mJ h).1;generalize S8.put A.w (.sdict (lS {A with L:=L'}))=S9 at C e0 w9 n9|-;have m9:Me S9 A es:=⟨C Q.mi (by simp),C Q.mf (by simp),C Q.mR (by simp),λe he=>⟨C (Q.ents e he).1.i (by simp),C (Q.ents e he).1.f (by simp),C (Q.ents e he).1.o (by simp)⟩,Q.ok,Q.few⟩;refine cK rfl (pM (g:=210) m9.mi m9.mf (by kernel_rfl) (by kernel_rfl) (tT (by rfl) (C u (by simp)) (eS (by kernel_rfl) (VR m9 λR' s F B xR=>?_))));have L8:=X _ _ L7;have kf:∀x y,x≠A.dm->x≠A.w->d x=some y->(s.put A.dm (.flds (sY {A with R:=R'}))) x=some y:=λx y h1 h2 e=>cC h1 (F _ _ (e0 h2 ((CS.le_trans l7 X) _ _ e)));have df:(s.put A.dm (.flds (sY {A with R:=R'}))) A.dm=some (.flds (sY {A with R:=R'})):=aH;have Rf:(s.put A.dm (.flds (sY {A with R:=R'}))) R'=some (.list ((es.filter λe=>!kK nm e).map λe=>.ref e.r)):=cC (λq=>by exact absurd (m9.mf▸q▸B) nofun) xR;have wf:(s.put A.dm (.flds (sY {A with R:=R'}))) A.w=some (.sdict (lS {A with L:=L'})):=cC (λq=>by exact absurd (m9.mf▸q▸w9) nofun) (F _ _ w9);have Lf:(s.put A.dm (.flds (sY {A with R:=R'}))) L'=some (.list ((es.filter λe=>!kK nm e).map dN)):=cC (λq=>by exact absurd (Q.mf▸q▸L8) nofun) (F _ _ (C L8 (by simp)));have Z:(s.put A.dm (.flds (sY {A with R:=R'}))) cn=some (.cell (some (.str nm))):=cC (λq=>by replace u:=Q.mf▸(q▸u);cases u) (F _ _ (C u (by simp)));generalize s.put A.dm (.flds (sY {A with R:=R'}))=Sf at kf df Rf wf Lf Z|-;have Wf:=N.dropped (R':=R') (L':=L') kf Rf df wf Lf (λe he=>by unfold kK;refine aC he (aC (decide_eq_false (eY g4)) ?_);rfl) (jQ (CS.le_trans l7 X) (n9 B)) e4 (λq=>by replace B:=(C L8 (by simp))▸(q▸B);cases B);refine cK rfl (zG rfl (qw (fV (by simp) (cK rfl (iM (A:={A with R:=R',L:=L'}) Wf (g:=217) (by kernel_rfl) (by kernel_rfl) (tT (by rfl) Z ?_))))));have e9:(es.filter λe=>!kK nm e).filter (kK nm)=[]:=by
     refine aC List.filter_filter (qP uH ?_);intro e _;cases kK nm e<;>simp
   refine eS (by kernel_rfl) (HZ (A:={A with R:=R',L:=L'}) Wf.me (λJ=>IC (xD (rK _ _ (⟨Sf,CS.le_refl,k _ ⟨⟨_,_,M1,M2,Wf,rfl,rfl,rfl,rfl,aE6 (w (λe=>!kK nm e) es)⟩,?_,?_⟩⟩)))) (λe r G he=>by replace G:=e9▸G;cases G))
   · refine eC λk_=>?_;obtain⟨⟨sp,gr,ep,h1,h2⟩,f7,f5⟩:=P3;exact k_ (⟨ns,⟨sp,gr,(λe=>kf _ _ (λq=>by replace e:=N.mf▸(q▸e);cases e) (λq=>by replace e:=N.wd▸(q▸e);cases e) e:∀{x:Addr}{l:List CV},d x=some (.list l)->Sf x=some (.list l)) ep,h1,(aG h2 (aX.mpr (bU (by decide) _)))⟩,(λe=>kf _ _ (λq=>by replace e:=N.mf▸(q▸e);cases e) (λq=>by replace e:=N.wd▸(q▸e);cases e) e:∀{x:Addr}{l:List CV},d x=some (.list l)->Sf x=some (.list l)) f7,f5⟩)
   · intro x v e;have Y:=g6 x v e;exact kf _ _ (λq=>by replace Y:=N.mf▸(q▸Y);cases Y) (λq=>by replace Y:=N.wd▸(q▸Y);cases Y) Y
end
section
variable{n:Nat}{K:KP}{E:KP}{S:CS}{A:Ad}{es:List n_}{M1 M2:kD}{p c:Addr}{ns:List Int}{b:Nat}
theorem qo(W:Wo S A es M1 M2){r g:Row}{k:Int}{w:Nat}(hw:1<=w)(h:r∈bQ es M1 M2)(h':g∈bQ es M1 M2)(hi:fS r k w)(G:fS g k w):r=g:=by
 refine iK (cT h) λi e=>?_;refine iK (cT h') λj B=>?_;exact(tm W e B (pW hi (show 0<w by exact ak2 hw)) (pW G (show 0<w by exact ak2 hw))).2
theorem IY(W:Wo S A es M1 M2)(hr:r∈bQ es M1 M2)(k:K (.bytes r.oc) S):nJ 2 [.ref r.l] K E S:=by
 obtain⟨h|h,hl⟩:=E2 W hr;·exact qZ (f:=.pure) h (by refine aC cW ?_;unfold bN;exact o1 hl) (kO _) (by unfold bN;exact o1 hl) k
 ·exact xG (f:=.pure) h (by unfold bN;exact o1 hl) k
theorem Tb{r:Row}{i:Int}{w t:Nat}(h:fS r i w)(ht:t<w):(fG r i w).getD t 0=oR r (i+t):=by
 delta fG oR;refine aC (aS) (aC (aS) (aC (Eb ht) (aC (JW) ?_)));congr 2;exact ai6 h.1
theorem Hl(t:Nat):(256:Int)^t=2^(8*t):=by refine aC Int.pow_mul ?_;rfl
theorem Of(l:List UInt8):∀i,i<=l.length->((cF i).map λt=>((l.getD t 0).toNat:Int)*256^t).sum=BZ (l.take i):=by intro i;induction i with |zero=>exactλ_=>rfl|succ i j=> intro h;refine aC oK (aC bW (aC List.sum_append (aC (j (o49 h)) (aC (Fh (o33 h)) (iZ (Hl _) ?_)))));rfl
theorem G9(h:t<=10):(256:Int)^t<=1208925819614629174706176/\1<=(256:Int)^t:=by have:t=0\/t=1\/t=2\/t=3\/t=4\/t=5\/t=6\/t=7\/t=8\/t=9\/t=10:=aR5 h;clear h;rcases this with rfl|rfl|rfl|rfl|rfl|rfl|rfl|rfl|rfl|rfl|rfl<;>decide
theorem LY{β:Type}{g:CV->M β}{KB:β->CS->Prop}{G:CS}{l:List (Addr×Option CV)}{cells:List (Str×Addr)}{L:LamD}(H:jK G S l)(good:KP)(bad:Str->CS->Prop)(h:∀z,jK G z l->S.le z->∀(A:KP)(u:KP),(∀v b,good v b->A v b)->(∀a x b,oV b a x->bad x b->u (.ref a) b)->oD (aM n) L cells [] A u z)(F:∀v b a,good v b->b a=none->g (.ref a) KB E (b.put a (.list [v])))(N:∀x b,bad x b->g (.str x) KB E b):((mk (.clo L cells)).bind λv=>(aM (n+2) (.st 665) [v]).bind g) KB E S:=by
 refine om λf hf=>?_;have m:(S.put f (.clo L cells)) f=some (.clo L cells):=aH;have J:=aQ (o:=.clo L cells) hf;have H:=H.to (cR J);generalize S.put f (.clo L cells)=z at m J H|-;exact CY good bad (λA u hg c=>⟨_,m,h z H J A u hg c⟩) F N
theorem CL(W:Wo S A es M1 M2)(P:j_ S p c ns b)(hb:b<=90000)(k:∀y,Af S A es M1 M2 p c ns b y->K (.bool true) y):aM (n+10) (.st 711) [.ref p,.ref A.m,.ref A.w] K E S:=by
 refine aC (xC _ _ _ _) ?_;refine qt (λK_ E_ rK eK=>at9 λcm cp cw S1 H l1=>?_);have W1:=W.le l1;have P1:=P.le l1;refine CB (i:=2) rfl H rfl λB H q=>?_;have W2:=W1.nc q;have P2:=P1.nc q;refine cK rfl (cK rfl (zP W2 P2 (o21 hb) λu S3 e6 f3 P3 D=>?_));have W3:=W2.pn D;have H:=H.to D;refine cK rfl (fD (dP rfl) (om λq2 e4=>sO (P3.le (aQ e4)) (o20 hb) aH (by simp) rfl λv S4 hv P4 D=>?_));obtain⟨w,rfl,hw⟩:∃w:Nat,v=.int w/\1<=w/\w<=9:=by
   simp only[a_,cG,or_false]at hv;rcases hv with rfl|rfl|rfl|rfl|rfl|rfl;·exact⟨1,rfl,by decide⟩
   ·exact⟨2,rfl,by decide⟩
   ·exact⟨4,rfl,by decide⟩
   ·exact⟨8,rfl,by decide⟩
   ·exact⟨3,rfl,by decide⟩
   ·exact⟨9,rfl,by decide⟩
 have D:=(cR (aQ (o:=.list [.int 1,.int 2,.int 4,.int 8,.int 3,.int 9]) e4)).trans D;have W4:=W3.pn D;have H:=H.to D;refine fD (dP rfl) (fD (by decide) (CB (i:=1) rfl H rfl λS5 H q=>?_));have W5:=W4.nc q;have P5:=P4.nc q;refine CB (i:=0) rfl H rfl λS6 H q=>?_;have R:=W5.nc q;have P6:=P5.nc q;clear W4 P4 W5 P5 q;have H:jK S S6 [(cw,some (.int w)),(cp,some (.int u)),(cm,some (.ref A.m))]:=H;have fin:∀y,S6.le y->K (.bool true) y:=λy l=>k _ ⟨⟨A,es,M1,M2,R.le l,rfl,rfl,rfl,rfl,o18⟩,⟨_,(P6.le l).up aW5⟩,qm (H.pn.trans (cR l))⟩;refine cK rfl (nG (i:=1) rfl H rfl (nG (i:=0) rfl H rfl (UL R (o43 hw) (λno=>?_) (λi r e9 s a S7 l7 ha G=>?_))))
 · refine dS (nG (i:=2) rfl H rfl (iM R (g:=245) (by kernel_rfl) (by kernel_rfl) (nG (i:=1) rfl H rfl (nG (i:=0) rfl H rfl (eS (by kernel_rfl) (Ai R (o22 hw) (λm=>cK rfl (qL (Bd (zG rfl (eB rfl (cK rfl (qL (eB rfl (kC rfl (fD (by decide) (cK rfl (Lz (LI (fD (by decide) (nr (UV (l:=[])) (λi acc y=>acc=[]/\y=S6) (λm m m m=>trivial) ⟨rfl,rfl⟩ (λi acc y K' hi m m=>absurd hi (i4 i)) ?_))))))))))))))) (λrow hr s=>absurd s (no row hr))))))));intro acc y q1_;refine bX q1_ λg4 g5=>?_;clear q1_;obtain rfl:=g4;obtain rfl:=g5;refine om λz hz=>?_;have l7:=aQ (o:=.list []) hz;refine ZY aH (q:=[]) rfl ?_;have H7:=H.to (cR l7);generalize y.put z (.list [])=S7 at l7 H7|-;refine dS (kC rfl (LY H7 (λm m=>False) (λx B=>x=aD "no memory there"/\y.le B) (λS1 I F K1 E1 hg C=>?_) (λm m m h=>h.elim) ?_))
   · refine aC (oW _ _) ?_;refine qt (λK_ E_ rK eK=>nG (i:=2) (by kernel_rfl) I rfl ?_);have J:=R.le (CS.le_trans l7 F);exact iM J (g:=266) (by kernel_rfl) (by kernel_rfl) (nG (i:=1) (by kernel_rfl) I rfl (nG (i:=0) (by kernel_rfl) I rfl (eS (by kernel_rfl) (K9 J (o43 hw) (λm a B le f=>eK _ _ ⟨B,CS.le_refl,⟨a,_,rfl,f.choose_spec.1⟩,C a _ B f ⟨rfl,CS.le_trans (CS.le_trans l7 F) le⟩⟩) (λrow hr s=>absurd s (no row hr))))))
   intro x S8 q1_;refine bX q1_ λf4 l8=>?_;clear q1_;obtain rfl:=f4;refine cK rfl (qL (eB rfl (Bd (vZ (aC (decide_eq_true rfl) (eB rfl (dS (kC rfl (LY (H.to (cR l8)) (λm m=>False) (λx B=>x=aD "no memory there"/\y.le B) (λS1 I F K1 E1 hg C=>?_) (λm m m h=>h.elim) ?_)))))))))
   · refine aC (pv _ _) ?_;refine qt (λK_ E_ rK eK=>nG (i:=2) (by kernel_rfl) I rfl ?_);have J:=R.le (CS.le_trans l8 F);exact iM J (g:=252) (by kernel_rfl) (by kernel_rfl) (nG (i:=1) (by kernel_rfl) I rfl (nG (i:=0) (by kernel_rfl) I rfl (eS (by kernel_rfl) (uW J (ao8 hw) (λm a B le f=>eK _ _ ⟨B,CS.le_refl,⟨a,_,rfl,f.choose_spec.1⟩,C a _ B f ⟨rfl,CS.le_trans (CS.le_trans l8 F) le⟩⟩) (λrow hr s=>absurd s (no row hr))))))
   intro x S9 q1_;refine bX q1_ λf6 Z=>?_;clear q1_;obtain rfl:=f6;refine cK rfl (qL (eB rfl (Bd (vZ (aC (decide_eq_true rfl) (eB rfl (dS (cK rfl (IC (fV rfl (LY (H.to (cR Z)) (λm m=>False) (λx B=>x=aD "no memory there"/\y.le B) (λS1 I F K1 E1 hg C=>?_) (λm m m h=>h.elim) ?_)))))))))))
   · refine aC (tX _ _) ?_;refine qt (λK_ E_ rK eK=>nG (i:=2) (by kernel_rfl) I rfl ?_);have J:=R.le (CS.le_trans Z F);exact iM J (g:=238) (by kernel_rfl) (by kernel_rfl) (nG (i:=1) (by kernel_rfl) I rfl (nG (i:=0) (by kernel_rfl) I rfl (eS (by kernel_rfl) (DD J (o22 hw) (λm a B le f=>eK _ _ ⟨B,CS.le_refl,⟨a,_,rfl,f.choose_spec.1⟩,C a _ B f ⟨rfl,CS.le_trans (CS.le_trans Z F) le⟩⟩) (λrow hr s=>absurd s (no row hr))))))
   intro x e7 q1_;refine bX q1_ λf7 T=>?_;clear q1_;obtain rfl:=f7;exact vZ (xD (rK _ _ (aC (decide_eq_true rfl) ⟨e7,CS.le_refl,fin _ T⟩)))
 · have hr:=bG e9;have W7:=R.le l7;have H7:=H.to (cR l7);refine dS (nG (i:=2) rfl H7 rfl (iM W7 (g:=245) (by kernel_rfl) (by kernel_rfl) (nG (i:=1) rfl H7 rfl (nG (i:=0) rfl H7 rfl (eS (by kernel_rfl) (Ai W7 (o22 hw) (λno=>absurd s (no r hr)) (λm m m=>cK rfl (qL (Bd (zG rfl (eB rfl (cK rfl (qL (fV rfl (kC rfl (fD (by decide) (cK rfl (mQ (by assumption) (fD ⟨rfl,rfl⟩ ?_)))))))))))))))))));have X:(vc i r u w).length=w:=by unfold vc;simp
   have O:=sH s;refine nr (qU (p:=a) (l:=vc i r u w)) (λj acc y=>acc=mC ((fG r u w).take j)/\y=S7) (λm m m h=>by refine aC h.2 ?_;exact G) ⟨rfl,rfl⟩ ?_ ?_
   · clear W P hb l1 W1 P1 q W2 P2 P3 D W3 e4 P6 ha W7 H7;intro j acc y K' hj q1_ hK;refine bX q1_ λf8 g6=>?_;clear q1_;obtain rfl:=f8;obtain rfl:=g6;replace hj:=X▸hj;have e0:(vc i r u w).getD j .none=.tup [.int i,.bool r.wr,.int (oR r (u+j)).toNat]:=by unfold vc;refine aC (aS) (aC (bE) (aC (jY hj) ?_));rfl
     refine aC e0 (fV rfl (nD ⟨by decide,by decide⟩ rfl (fD (by refine aC cW (aC cH ?_);exact(aB (nv _ _) (aB (bK hj) (aB hw.2 (by decide))))) (hK _ _ ⟨?_,rfl⟩))));have g7:j<(fG r u w).length:=by refine aC O ?_;exact hj
     refine aC (take_snoc g7) (aC rF ?_);have e1:=Tb s hj;replace e1:=(aF g7)▸((aS)▸e1);refine iZ e1 ?_;rfl
   clear W P hb l1 W1 P1 q W2 P2 P3 D W3 e4 P6 ha W7 H7;intro acc y q1_;refine bX q1_ λi0 f5=>?_;clear q1_;obtain rfl:=i0;obtain rfl:=f5;refine aC X (aC (dE (ak1 O)) (om λz hz=>?_));have l8:=CS.le_trans l7 (aQ (o:=.list (mC (fG r u w))) hz);have G:=aQ (o:=.list (mC (fG r u w))) hz _ _ G;refine qZ aH (by refine aC cW ?_;unfold bN;exact as5 hw O) (kO _) (by unfold bN;exact as5 hw O) ?_;generalize y.put z (.list (mC (fG r u w)))=S8 at l8 G|-;refine kC rfl (fD (by decide) (cK rfl (Lz (LI (fD (by decide) (nr (UV (l:=fG r u w)) (λj acc y=>acc=((cF j).map λt=>(((fG r u w).getD t 0).toNat:Int)*256^t).map .int/\y=S8) (λm m m m=>trivial) ⟨rfl,rfl⟩ ?_ ?_))))))
   · intro j acc y K' hj q1_ hK;refine bX q1_ λj1 g9=>?_;clear q1_;obtain rfl:=j1;obtain rfl:=g9;replace hj:=O▸hj;refine bX (G9 (t:=j) (aB (bK hj) (aB hw.2 (by decide)))) λe6 f3=>unpack_ rfl (sE (sE (BV (fV rfl (cK rfl (cK rfl (G8 (by decide) (⟨aN _,aX.mpr (aB (bK hj) (aB hw.2 (by decide)))⟩) (aC (dO _) (ri (aE3 f3 (((fG r u w).getD j 0).toNat_lt) e6) (fD (by refine aC (aJ _) (aC (aJ _) (aC iU ?_));exact(aB (bK hj) (aB hw.2 (by decide)))) (hK _ _ ⟨?_,rfl⟩)))))))))));refine aC oK (aC bW (aC bW ?_));rfl
   clear q e6 f3 D X O l7;intro acc y q1_;refine bX q1_ λh9 h8=>?_;clear q1_;obtain rfl:=h9;obtain rfl:=h8;refine om λz hz=>?_;have Z:=CS.le_trans l8 (aQ (o:=.list (((cF (fG r u w).length).map λt=>(((fG r u w).getD t 0).toNat:Int)*256^t).map .int)) hz);have G:=aQ (o:=.list (((cF (fG r u w).length).map λt=>(((fG r u w).getD t 0).toNat:Int)*256^t).map .int)) hz _ _ G;refine ZY aH (tH _) (UC (aC (Of _ _ (bM _)) (aC eU rfl)) ?_);generalize y.put z (.list (((cF (fG r u w).length).map λt=>(((fG r u w).getD t 0).toNat:Int)*256^t).map .int))=S9 at Z G|-;refine dS (kC rfl (LY (H.to (cR Z)) (λv B=>v=.int (BZ (fG r u w))/\S9.le B) (λm m=>False) (λS1 I F K1 E1 hg C=>?_) ?_ (λm m h=>h.elim)))
   · refine aC (oW _ _) ?_;refine qt (λK_ E_ rK eK=>nG (i:=2) (by kernel_rfl) I rfl ?_);have J:=R.le (CS.le_trans Z F);refine iM J (g:=266) (by kernel_rfl) (by kernel_rfl) (nG (i:=1) (by kernel_rfl) I rfl (nG (i:=0) (by kernel_rfl) I rfl (eS (by kernel_rfl) (K9 J (o43 hw) (λno=>absurd s (no r hr)) (λrow N Q=>?_)))));have e:=qo J (o42 hw) N hr Q s;subst e;exact rK _ _ ⟨S1,CS.le_refl,hg _ _ ⟨rfl,F⟩⟩
   intro v B a2 q1_ L;refine bX q1_ λi3 F=>?_;clear q1_;obtain rfl:=i3;have T:=CS.le_trans Z (CS.le_trans F (aQ (o:=.list [.int (BZ (fG r u w))]) L));have G:=(CS.le_trans F (aQ (o:=.list [.int (BZ (fG r u w))]) L)) _ _ G;have x2:(B.put a2 (.list [.int (BZ (fG r u w))])) a2=some (.list [.int (BZ (fG r u w))]):=aH;generalize B.put a2 (.list [.int (BZ (fG r u w))])=e7 at T G x2|-;refine cK rfl (qL (fV rfl (cK rfl (fD (dP rfl) (om λz hz=>?_)))));have lz:=aQ (o:=.list [.int (BZ (fG r u w))]) hz;refine zA (t:=true) (lz _ _ x2) aH (ar6 rfl (rb cI rfl)) (eB rfl ?_);have U:=CS.le_trans T lz;have G:=lz _ _ G;generalize e7.put z (.list [.int (BZ (fG r u w))])=S11 at U G|-;clear T lz x2;refine dS (kC rfl (LY (H.to (cR U)) (λv B=>v=.bytes (fG r u w)/\S11.le B) (λm m=>False) (λS1 I F K1 E1 hg C=>?_) ?_ (λm m h=>h.elim)))
   · refine aC (pv _ _) ?_;refine qt (λK_ E_ rK eK=>nG (i:=2) (by kernel_rfl) I rfl ?_);have J:=R.le (CS.le_trans U F);refine iM J (g:=252) (by kernel_rfl) (by kernel_rfl) (nG (i:=1) (by kernel_rfl) I rfl (nG (i:=0) (by kernel_rfl) I rfl (eS (by kernel_rfl) (uW J (ao8 hw) (λno=>absurd s (no r hr)) (λrow N Q=>?_)))));have e:=qo J (o42 hw) N hr Q s;subst e;exact rK _ _ ⟨S1,CS.le_refl,hg _ _ ⟨rfl,F⟩⟩
   intro v B a2 q1_ L;refine bX q1_ λi8 F=>?_;clear q1_;obtain rfl:=i8;have f0:=CS.le_trans U (CS.le_trans F (aQ (o:=.list [.bytes (fG r u w)]) L));have G:=(CS.le_trans F (aQ (o:=.list [.bytes (fG r u w)]) L)) _ _ G;have x2:(B.put a2 (.list [.bytes (fG r u w)])) a2=some (.list [.bytes (fG r u w)]):=aH;generalize B.put a2 (.list [.bytes (fG r u w)])=S12 at f0 G x2|-;refine cK rfl (qL (fV rfl (cK rfl (fD (dP rfl) (om λz hz=>?_)))));have lz:=aQ (o:=.list [.bytes (fG r u w)]) hz;refine zA (t:=true) (lz _ _ x2) aH (ar6 rfl (rb cB rfl)) (eB rfl ?_);have e5:=CS.le_trans f0 lz;have G:=lz _ _ G;generalize S12.put z (.list [.bytes (fG r u w)])=S13 at e5 G|-;clear f0 lz x2;have e2:=H.to (cR e5);have e3:=R.le e5;refine dS (cK rfl (IC (eB rfl (nG (i:=2) rfl e2 rfl (iM e3 (g:=238) (by kernel_rfl) (by kernel_rfl) (nG (i:=1) rfl e2 rfl (nG (i:=0) rfl e2 rfl (eS (by kernel_rfl) (DD e3 (o22 hw) (λno=>absurd s (no r hr)) (λrow N Q j4 d nm j5 c5 rg j3=>?_))))))))));have e:=qo e3 (o42 hw) N hr Q s;clear H D R s m l8 Z F L U N Q;subst e;have g8:=e3.le c5;refine unpack_ rfl (sE (sE (BV (cK rfl (Gz g8 λa3 i1 Y j2 j0=>?_)))));have e8:=g8.le Y;have rg:=rg.le Y;refine cK rfl ?_;refine oY (v:=.tup [.int i,.bool row.wr,.int (oR row (u+(0:Nat))).toNat]) (Y _ _ (c5 _ _ G)) ⟨by decide,by decide⟩ (by
     unfold vc;refine aC (bE) (aC (jY (show cA 0<w by show 0<w;exact hw.1)) ?_);rfl) ?_;refine nD ⟨by decide,by decide⟩ rfl (oY (v:=nu row) j0 ⟨o0,(fE (aT (bV.mpr ((aR.mp e9).1)) (aX.mpr ((Az e8).1))) (by decide))⟩ (by refine aC (dO _) (aC (bE) (aC e9 ?_));rfl) ?_);have ib:∀{j:Int}{v:CV}{K':KP}{E':KP}{y:CS},0<=j/\j<3->[eD row.base,.ref row.l,.bool row.wr][j.toNat]?=some v->K' v y->cJ (nu row) (.int j) K' E' y:=λhj hv k=>nD (f:=.pure) ⟨hj.1,o14 hj⟩ hv k;exact cK rfl (qj rg (cK rfl (tb rg (xG rg.o (by show row.oc.length<=100000;exact o1 ((E2 e8 hr).2)) (cK rfl (LZ rg (cK rfl (fD (dP rfl) (cK rfl (ib (by decide) rfl (cK rfl (ib (by decide) rfl (IY e8 hr (cK rfl (ib (by decide) rfl (nG (i:=1) rfl (e2.to (cR (CS.le_trans c5 Y))) rfl (cK rfl (ib (by decide) rfl (wc (fD (dP rfl) (zG (t:=true) (Kk (rb cI (rb cB (rb cO (rb cI rfl))))) (xD (rK _ _ ⟨i1,CS.le_refl,fin _ (CS.le_trans e5 (CS.le_trans c5 Y))⟩)))))))))))))))))))))))
end
section
variable{n:Nat}{K:KP}{E:KP}{S:CS}{A:Ad}{es:List n_}{M1 M2:kD}{p c:Addr}{ns:List Int}{b:Nat}
theorem vJ{r:Row}{i:Int}{b:List UInt8}(h:fS r i b.length):(jS r i b).length=r.oc.length:=by unfold jS;simp only[fB,cH,ME];exact aU3 h.2 h.1
theorem GX{r:Row}{i:Int}{b:List UInt8}(h:fS r i b.length):((jS r i b).drop (i-r.base).toNat).take b.length=b:=by
 have h2:=h.2;unfold jS;have e:(r.oc.take (i-r.base).toNat).length=(i-r.base).toNat:=by refine aC cH ?_;exact ar2 h2
 rw[nB,List.drop_append_of_le_length (by rw[e];exact bM _),FR (by rw[e];exact bM _),rn,List.take_append_of_le_length (bM _),dE (bM _)]
theorem GS(h:r.base<=pl):jS r pl []=r.oc:=by unfold jS;exact aC (lP _) (aC (show(pl-r.base+([]:List UInt8).length).toNat=(pl-r.base).toNat from by simp) (aC (qk _ _) rfl))
theorem GK{r:Row}{i:Int}{b:List UInt8}(h:fS r i b.length){t:Nat}(ht:t<b.length):(mC (jS r i (b.take t))).set (i+t-r.base).toNat (.int (b.getD t 0).toNat)=mC (jS r i (b.take (t+1))):=by
 have h1:=h.1;have h2:=h.2;have k:b.getD t 0=b[t]:=by refine aC (aS) (aC (aF ht) ?_);rfl
 have e1:(mC (jS r i (b.take t))).set (i+t-r.base).toNat (.int (b.getD t 0).toNat)=mC ((jS r i (b.take t)).set (i+t-r.base).toNat b[t]):=by unfold mC;exact aC ad4 (aC k rfl)
 refine aC e1 ?_;congr 1;unfold jS;have lt:(b.take t).length=t:=by refine aC cH ?_;exact(fX (bK ht))
 have c:(b.take (t+1)).length=t+1:=by refine aC cH ?_;exact(fX ht)
 have l0:(r.oc.take (i-r.base).toNat).length=(i-r.base).toNat:=by refine aC cH ?_;exact ar2 h2
 refine aC lt (aC c ?_);have la:(r.oc.take (i-r.base).toNat++b.take t).length=(i+t-r.base).toNat:=by refine aC fB (aC l0 (aC lt ?_));exact ai6 h1
 refine aC (List.set_append_right _ _ (la▸bM _)) (aC la (aC (ae0 _) (aC (CJ (aP2 h2 ht h1)) ?_)));show _++(b[t]::r.oc.drop ((i-r.base+(t:Nat)).toNat+1))=_;refine aC (take_snoc ht) ?_;have:(i-r.base+(t:Nat)).toNat+1=(i-r.base+((t+1:Nat):Int)).toNat:=aL6 h1;refine aC this ?_;simp only[nB,zL,rn]
structure We(S:CS)(A:Ad)(es:List n_):Prop where
 wd:S A.w=some (.sdict (lS A))wL:S A.L=some (.list (es.map dN))l:∀e∈es,S e.l=some (.list (mC e.g.oc))nl:(A.L::es.map (·.l)).Nodup
 each:∀e∈es,e.g.oc.length<=600
open Classical in noncomputable def Ay(pl:Int)(b:List UInt8)(e:n_):List UInt8:=if fS (jC e) pl b.length then jS (jC e) pl b else e.g.oc
theorem av5{m:Int}{q:Addr}{b:List UInt8}(V:We S A es)(hq:S q=some (.list (mC b)))(hb:1<=b.length/\b.length<=20)(W:q∉es.map (·.l))(hp:0<=m/\m<=2000000000)(hc:∀e∈es,fS (jC e) m b.length\/∀t:Nat,t<b.length->¬kL (jC e) (m+t))(k:∀d,(∀e∈es,d e.l=some (.list (mC (Ay m b e))))->(∀a o,a∉es.map (·.l)->S a=some o->d a=some o)->K .none d):aM (n+1) (.st 689) [.ref A.w,.int m,.ref q] K E S:=by
 refine aC (GJ _ _ _ _) ?_;refine fT (λK_ E_ rK nK eK=>dS (DJ V.wd (v:=.ref A.L) (by kernel_rfl) (mQ V.wL ?_)));refine fD rfl ?_;have nl:=V.nl;replace nl:=propext cZ▸nl;have key:∀{d:CS},(∀a o,a∉es.map (·.l)->S a=some o->d a=some o)->d A.L=some (.list (es.map dN))/\d q=some (.list (mC b)):=λh=>⟨h _ _ nl.1 V.wL,h _ _ W hq⟩;refine A9 (qU (p:=A.L) (l:=es.map dN)) (λi vs d=>∃X x u,vs=[some (.ref A.w),some (.int m),some (.ref q),X,x,u,none,none]/\(∀j e,es[j]?=some e->d e.l=some (.list (mC (if j<i then Ay m b e else e.g.oc))))/\(∀a o,a∉es.map (·.l)->S a=some o->d a=some o)) (λi vs d h=>by revert h;refineλI=>qi I λc c c c c h=>?_;clear I;exact(key h).1) ⟨none,none,none,rfl,λj e h=>by refine aC (if_neg (i4 _)) ?_;exact V.l e (bG h),λc c c e=>e⟩ ?_ ?_
 · intro i vs d K' hi q1_ hK c;refine gD q1_ λX x u Y J=>?_;clear q1_;obtain rfl:=Y;refine bX J λhl hs=>?_;clear J;replace hi:=(aJ _)▸hi;refine aC (pV hi) ?_;have F:=dB hi;have g:=aF hi;have y:=hl i _ g;replace y:=(if_neg (Ef _))▸y;have G:∀j Q,es[j]?=some Q->j≠i->Q.l≠(es[i]).l:=λj Q hj e3 q=>by
     have a1:(es.map (·.l))[j]?=some Q.l:=by refine aC (bE) (aC hj ?_);rfl
     have a2:(es.map (·.l))[i]?=some Q.l:=by refine aC (bE) (aC g (aC q ?_));rfl
     exact e3 ((sV (by refine aC (aJ _) ?_;exact(aR.mp hj).1) nl.2).mp (a1.trans a2.symm))
   have step:∀w X x u,w (es[i]).l=some (.list (mC (Ay m b es[i])))->(∀a o,a≠(es[i]).l->d a=some o->w a=some o)->K' (.next [some (.ref A.w),some (.int m),some (.ref q),X,x,u,none,none]) w:=by
     intro w y3 y4 y5 h1 h2;refine hK _ _ ⟨y3,y4,y5,rfl,λj e hj=>?_,λa o ha e=>h2 _ _ (λq=>ha (by refine aC q ?_;exact bR.mpr ⟨_,F,rfl⟩)) (hs _ _ ha e)⟩;by_cases hij:j=i
     · cases hij;refine iZ ((aE (g.symm.trans hj))) ?_;refine aC (if_pos as4) ?_;exact h1
     · have:=h2 _ _ (G j e hj hij) (hl j e hj);refine aC this ?_;simp only[(aQ9 hij)]
   have D:=V.each _ F;have B:=hc _ F;generalize es[i]=e at y step F D B|-;have N:∀{j:Int}{v:CV}{K':KP}{E':KP}{d:CS},0<=j/\j<4->[Ae e.g.nm,.int e.g.base,.ref e.l,.bool e.g.wr][j.toNat]?=some v->K' v d->cJ (dN e) (.int j) K' E' d:=λhj hv k=>nD (f:=.pure) ⟨hj.1,o19 hj⟩ hv k;have U:=(key hs).2;refine dS (cK rfl (mQ (by assumption) (Hm (fD (by decide) ?_))));rcases B with H|Z
   · have h1:e.g.base<=m:=H.1;have h2:m+(b.length:Int)<=e.g.base+(e.g.oc.length:Int):=H.2;refine A9 (HF (p:=q) (l:=mC b)) (λt vs w=>∃x u,vs=[some (.ref A.w),some (.int m),some (.ref q),some (dN e),x,u,none,none]/\w e.l=some (.list (mC (jS (jC e) m (b.take t))))/\(∀a o,a≠e.l->d a=some o->w a=some o)) (λc c c h=>by revert h;refineλI=>dZ I λc c c c h=>?_;clear I;exact h _ _ (λh=>W (h▸bR.mpr ⟨_,F,rfl⟩)) U) ⟨x,u,rfl,by refine aC UB (aC (GS h1) ?_);exact y,λc c c e=>e⟩ ?_ ?_
     · clear V hq hb W hp hc nl key hi hK g G F;intro t vs w K2 ht q1_ C c;refine eJ q1_ λx u e6 L=>?_;clear q1_;obtain rfl:=e6;refine bX L λz O=>?_;clear L;replace ht:=cW▸ht;have e0:(mC b).getD t .none=.int (b.getD t 0).toNat:=by unfold mC;refine aC (aS) (aC (bE) (aC (aS) (aC (aF ht) ?_)));rfl
       refine aC e0 ?_;have s:(jS (jC e) m (b.take t)).length=e.g.oc.length:=vJ ⟨h1,by refine aC cH ?_;exact(aG (rM (aX.mpr (gR _ _)) _) h2)⟩;refine unpack_ rfl (sE (sE (BV (dS (cK rfl (N (by decide) rfl (cK rfl (cK rfl (jA (MI (fV (decide_eq_true (o37 h1)) (cK rfl (N (by decide) rfl (cK rfl (N (by decide) rfl (qX z (by refine aC cW (aC s ?_);unfold bN;exact o1 D) ?_))))))))))))))));refine aC cW (aC s (jA (Cw (fV (decide_eq_true (o95 h2 ht)) (cK rfl (cK rfl (N (by decide) rfl (cK rfl (cK rfl (jA (cK rfl (N (by decide) rfl (wc (HQ z ⟨aI5 h1,by refine aC cW (aC s ?_);exact(lO (aT (hG (bV.mpr ht) _) h2)),aV0 h2 ht D⟩ ?_))))))))))))));exact(GK (r:=jC e) H ht)▸(C _ _ ⟨_,_,rfl,aH,λa o ha e=>cC ha (O _ _ ha e)⟩)
     · intro vs w q1_;refine eJ q1_ λx u c5 T=>?_;clear q1_;obtain rfl:=c5;refine bX T λz O=>?_;clear T;replace z:=eU▸(cW▸z);refine step w _ _ _ (aC z ?_) O;unfold Ay;exact aC (if_pos H) rfl
   · have P:¬fS (jC e) m b.length:=λh=>Z 0 (o2 hb) (pW h (o2 hb));refine A9 (HF (p:=q) (l:=mC b)) (λt vs w=>∃x u,vs=[some (.ref A.w),some (.int m),some (.ref q),some (dN e),x,u,none,none]/\w=d) (λc c c h=>by revert h;refineλI=>eJ I λc c c h=>?_;clear I;refine aC h ?_;exact U) ⟨x,u,rfl,rfl⟩ ?_ ?_
     · intro t vs w K2 ht q1_ C c;refine eJ q1_ λx u e5 e7=>?_;clear q1_;obtain rfl:=e5;obtain rfl:=e7;replace ht:=cW▸ht;refine unpack_ rfl (sE (sE (BV (dS (cK rfl (N (by decide) rfl (cK rfl (cK rfl (jA (MI ?_))))))))));by_cases h1:e.g.base<=m+(t:Nat)
       · refine aC (decide_eq_true h1) (fV rfl (cK rfl (N (by decide) rfl (cK rfl (N (by decide) rfl (qX y (by refine aC cW ?_;unfold bN;exact o1 D) ?_))))));exact aC cW (jA (Cw (eB (decide_eq_false (λq=>(Z t ht) ⟨h1,q⟩)) (C _ _ ⟨_,_,rfl,rfl⟩))))
       ·exact aC (decide_eq_false h1) (eB rfl (eB rfl (C _ _ ⟨_,_,rfl,rfl⟩)))
     · intro vs w q1_;refine eJ q1_ λx u e8 e4=>?_;clear q1_;obtain rfl:=e8;obtain rfl:=e4;refine step w _ _ _ (aC y ?_) (λc c c e=>e);unfold Ay;exact aC (if_neg P) rfl
 · intro vs d q1_;refine gD q1_ λX x u e2 R=>?_;clear q1_;obtain rfl:=e2;refine bX R λhl hs=>?_;clear R;refine nK _ _ ⟨d,CS.le_refl,k d (λe he=>iK (cT he) λj hj=>?_) hs⟩;have:=hl j e hj;rwa[if_pos (by refine aC (aJ _) ?_;exact(aR.mp hj).1)]at this
end
section
variable{n:Nat}{K:KP}{E:KP}{S Sf:CS}{A:Ad}{es:List n_}{M M1 M2:kD}{p c:Addr}{ns:List Int}{b:Nat}
theorem Cr{α β:Type}{f:α->β}{l:List α}(h:(l.map f).Nodup){a b:α}(ha:a∈l)(c:b∈l)(e:f a=f b):a=b:=by
 refine iK (cT ha) λi hi=>?_;refine iK (cT c) λj hj=>?_;have a1:(l.map f)[i]?=some (f a):=by refine aC (bE) (aC hi ?_);rfl
 have a2:(l.map f)[j]?=some (f a):=by refine aC (bE) (aC hj (aC e ?_));rfl
 have:=(sV (by refine aC (aJ _) ?_;exact(aR.mp hi).1) h).mp (a1.trans a2.symm);clear h ha c e a1 a2;subst this;replace hj:=hi.symm.trans hj;exact aE hj
noncomputable def rW(o:Addr)(x:List UInt8)(e:n_):n_:=if e.o=o then{e with g:={e.g with oc:=x}}else e
theorem tE:(rW o x e).r=e.r/\(rW o x e).d=e.d/\(rW o x e).o=e.o/\(rW o x e).l=e.l/\(rW o x e).g.nm=e.g.nm/\(rW o x e).g.base=e.g.base/\(rW o x e).g.wr=e.g.wr:=by
 unfold rW;split;·exact⟨rfl,rfl,rfl,rfl,rfl,rfl,rfl⟩
 ·exact⟨rfl,rfl,rfl,rfl,rfl,rfl,rfl⟩
theorem Wo.wroteE(W:Wo S A es M1 M2){e0:n_}(he0:e0∈es){x:List UInt8}(hx:x.length=e0.g.oc.length)(hk:∀a o,a≠e0.o->a≠e0.l->S a=some o->Sf a=some o)(ho:Sf e0.o=some (.barr x))(hl:Sf e0.l=some (.list (mC x))):Wo Sf A (es.map (rW e0.o x)) M1 M2:=by
 refine bX (W.ents e0 he0) λrg0 rl0=>?_;have ne:∀{a:Addr}{o:CO},S a=some o->(∀l,o≠.barr l)->(∀l,o≠.list l)->Sf a=some o:=λ{a o}e h1 h2=>hk a o (λq=>by obtain rfl:=aE (rg0.o▸q▸e);exact h1 _ rfl) (λq=>by obtain rfl:=aE (rl0▸q▸e);exact h2 _ rfl) e;have neL:∀{a:Addr}{l:List CV},S a=some (.list l)->a≠e0.l->Sf a=some (.list l):=λ{a l}e h=>hk a _ (λq=>by exact absurd (rg0.o▸q▸e) nofun) h e;have neB:∀{a:Addr}{l:List UInt8},S a=some (.barr l)->a≠e0.o->Sf a=some (.barr l):=λ{a l}e h=>hk a _ h (λq=>by exact absurd (rl0▸q▸e) nofun) e;have nl:=W.nl;rw[cZ,cZ,a_,not_or]at nl;have nb:=W.nb;rw[lW]at nb;have inj:∀e∈es,e.o=e0.o->e=e0:=λe he q=>Cr nb.1 he he0 q;have len:∀e∈es,(rW e0.o x e).g.oc.length=e.g.oc.length:=λe he=>by
   unfold rW;split;·rename_i q;refine aC (inj e he q) ?_;exact hx
   ·rfl
 have mr:(es.map (rW e0.o x)).map (λe=>dG e.r)=es.map λe=>dG e.r:=by refine aC rQ ?_;exact iY λe ι=>by show dG (rW e0.o x e).r=_;exact aC tE.1 rfl
 have mo:(es.map (rW e0.o x)).map (·.o)=es.map (·.o):=by refine aC rQ ?_;exact iY λe ι=>tE.2.2.1
 have ml:(es.map (rW e0.o x)).map (·.l)=es.map (·.l):=by refine aC rQ ?_;exact iY λe ι=>tE.2.2.2.1
 have mt:(es.map (rW e0.o x)).map dN=es.map dN:=by
   refine aC rQ (iY λe ι=>rH (@tE e0.o x e) λι ι ι h4 h5 h6 h7=>?_);show dN (rW e0.o x e)=_;unfold dN;exact aC h4 (aC h5 (aC h6 (aC h7 rfl)))
 refine⟨ne W.mi (by simp) (by simp),ne W.mf (by simp) (by simp),?_,λe' he'=>?_,ne W.mp (by simp) (by simp),(λh hn=>⟨ne h.i (by simp) (by simp),ne h.f (by simp) (by simp),ne h.V (by simp) (by simp),λv hv=>⟨neB (h.b v hv).1 (hn v hv),(h.b v hv).2⟩⟩:∀{M:kD},gO S M->(∀v∈M.vals,v.1≠e0.o)->gO Sf M) W.o1 λv hv q=>?_,(λh hn=>⟨ne h.i (by simp) (by simp),ne h.f (by simp) (by simp),ne h.V (by simp) (by simp),λv hv=>⟨neB (h.b v hv).1 (hn v hv),(h.b v hv).2⟩⟩:∀{M:kD},gO S M->(∀v∈M.vals,v.1≠e0.o)->gO Sf M) W.o2 λv hv q=>?_,ne W.wd (by simp) (by simp),?_,by refine aC mo ?_;exact W.nb,by refine aC ml ?_;exact W.nl,W.c1,W.c2,?_,by refine aC (aJ _) ?_;exact W.few,?_⟩;·refine aC mr ?_;exact neL W.mR λq=>nl.1.2 (by refine aC q ?_;exact bR.mpr ⟨e0,he0,rfl⟩)
 · refine aY (bR.mp he') λe he e2x=>?_;obtain rfl:=e2x;refine bX (W.ents e he) λrg rl=>?_;by_cases q:e.o=e0.o
   · have:=inj e he q;cases this;unfold rW;exact aC (if_pos rfl) (⟨⟨ne rg.i (by simp) (by simp),ne rg.f (by simp) (by simp),ho⟩,hl⟩)
   ·unfold rW;exact aC (if_neg q) (⟨⟨ne rg.i (by simp) (by simp),ne rg.f (by simp) (by simp),neB rg.o q⟩,neL rl λh=>q (congrArg _ ((λe he q=>Cr nl.2.2 he he0 q) e he h))⟩)
 ·exact nb.2.2 _ (bR.mpr ⟨e0,he0,rfl⟩) _ (HB _ (bR.mpr ⟨v,hv,rfl⟩)) q.symm
 ·exact nb.2.2 _ (bR.mpr ⟨e0,he0,rfl⟩) _ (Gd _ (bR.mpr ⟨v,hv,rfl⟩)) q.symm
 ·refine aC mt ?_;exact neL W.wL λq=>nl.2.1 (by refine aC q ?_;exact bR.mpr ⟨e0,he0,rfl⟩)
 · refine⟨?_,λe' he'=>?_⟩;·exact qP pK (Ea.imp_of_mem (λ{a b}ha hb h=>aC tE.2.2.2.2.2.1 (aC tE.2.2.2.2.2.1 (aC (len a ha) h))) W.ok.apart)
   · refine aY (bR.mp he') λe he e1x=>?_;obtain rfl:=e1x;exact aC tE.2.2.2.2.2.1 (aC (len e he) (W.ok.each e he))
 ·refine aY W.ctx λe he h=>⟨_,bR.mpr ⟨e,he,rfl⟩,by refine aC tE.2.2.2.2.1 ?_;exact h⟩
noncomputable def setV(M:kD)(j:Nat)(a:Addr)(x:List UInt8):kD:={M with vals:=M.vals.set j (a,x)}
theorem Jw:∀{l:List (Addr×List UInt8)}{i j:Nat}{v:Addr×List UInt8}{x:List UInt8},l[j]?=some v->lA i (l.set j (v.1,x))=lA i l:=by
 intro l;induction l with |nil=>exactλh=>iH h|cons u l k=>
  intro i j v x h;rcases j with _|j;·obtain rfl:=aE h;rfl
  ·exact congrArg (_::·) (k h)
theorem AI{l:List (Addr×List UInt8)}{j:Nat}{v:Addr×List UInt8}{x:List UInt8}(h:l[j]?=some v):(l.set j (v.1,x)).map (·.1)=l.map (·.1):=by
 refine aC ad4 ?_;apply yV;intro i;refine aC (f_) ?_;split
 · rename_i q;subst q;rw[bE,h,if_pos (by rw[aJ];exact(aR.mp h).1)];rfl
 ·rfl
theorem gO.wrote(h:gO S M)(hv:M.vals[j]?=some v)(nd:(M.vals.map (·.1)).Nodup)(hx:x.length=M.w)(ne:∀{a:Addr}{o:CO},S a=some o->(∀l,o≠.barr l)->Sf a=some o)(neB:∀{a:Addr}{l:List UInt8},S a=some (.barr l)->a≠v.1->Sf a=some (.barr l))(ho:Sf v.1=some (.barr x)):gO Sf (setV M j v.1 x):=by
 refine⟨ne h.i (by simp),ne h.f (by simp),?_,λu hu=>?_⟩
 · show Sf M.V=some (.idict (lA 0 (M.vals.set j (v.1,x))));refine aC (Jw hv) ?_;exact ne h.V (by simp)
 · show Sf u.1=_/\u.2.length=M.w;refine iK (cT hu) λi hi=>?_;replace hi:=(f_).symm.trans hi;split at hi
   · split at hi;·clear ne hu;obtain rfl:=aE hi;exact⟨ho,hx⟩
     ·exact iH hi
   · rename_i hij;refine⟨neB (h.b u (bG hi)).1 λq=>hij ?_,(h.b u (bG hi)).2⟩;have a1:(M.vals.map (·.1))[j]?=some v.1:=by refine aC (bE) (aC hv ?_);rfl
     have a2:(M.vals.map (·.1))[i]?=some v.1:=by refine aC (bE) (aC hi (iZ q ?_));rfl
     exact(sV (by refine aC (aJ _) ?_;exact(aR.mp hv).1) nd).mp (a1.trans a2.symm)
theorem Wo.wroteM(W:Wo S A es M1 M2)(T:M=M1\/M=M2){j:Nat}{v:Addr×List UInt8}{x:List UInt8}(f:M.vals[j]?=some v)(hx:x.length=M.w)(hk:∀a o,a≠v.1->S a=some o->Sf a=some o)(ho:Sf v.1=some (.barr x)):∃w k,Wo Sf A es w k/\w.a=M1.a/\w.w=M1.w/\(setV M j v.1 x=w\/setV M j v.1 x=k):=by
 have v0:=((W.map T).1.b v (bG f)).1;have ne:∀{a:Addr}{o:CO},S a=some o->(∀l,o≠.barr l)->Sf a=some o:=λ{a o}e h1=>hk a o (λq=>by obtain rfl:=aE (v0▸q▸e);exact h1 _ rfl) e;have O:∀{a:Addr}{l:List UInt8},S a=some (.barr l)->a≠v.1->Sf a=some (.barr l):=λ{a l}e h=>hk a _ h e;have nb:=W.nb;rw[lW,lW]at nb;have ents:v.1∉es.map (·.o)->∀e∈es,kX Sf e.r e.d e.o e.g/\Sf e.l=some (.list (mC e.g.oc)):=λhn e he=>by exact bX (W.ents e he) λY Z=>⟨⟨ne Y.i (by simp),ne Y.f (by simp),O Y.o λq=>hn (q▸bR.mpr ⟨e,he,rfl⟩)⟩,ne Z (by simp)⟩
 have X:v.1∈M.vals.map (·.1):=bR.mpr ⟨v,(bG f),rfl⟩;rcases T with rfl|rfl
 · have n1:v.1∉es.map (·.o):=λq=>nb.2.2 _ q _ (HB _ X) rfl;have n2:v.1∉M2.vals.map (·.1):=λq=>nb.2.1.2.2 _ X _ q rfl;refine⟨setV M j v.1 x,M2,⟨ne W.mi (by simp),ne W.mf (by simp),ne W.mR (by simp),ents n1,ne W.mp (by simp),W.o1.wrote f nb.2.1.1 hx ne O ho,(λh hn=>⟨ne h.i (by simp),ne h.f (by simp),ne h.V (by simp),λu D=>⟨O (h.b u D).1 λq=>hn (by refine iZ q ?_;exact bR.mpr ⟨u,D,rfl⟩),(h.b u D).2⟩⟩:∀{N:kD},gO S N->v.1∉N.vals.map (·.1)->gO Sf N) W.o2 n2,ne W.wd (by simp),ne W.wL (by simp),?_,W.nl,?_,W.c2,W.ok,W.few,W.ctx⟩,rfl,rfl,.inl rfl⟩
   · show(es.map (·.o)++((M.vals.set j (v.1,x)).map (·.1)++M2.vals.map (·.1))).Nodup;refine aC (AI f) ?_;exact W.nb
   ·refine qJ W.c1 λa1 a2 a3 a4 a5=>⟨a1,a2,a3,a4,by show(M.vals.set j (v.1,x)).length=3;refine aC Bu ?_;exact a5⟩
 · have n1:v.1∉es.map (·.o):=λq=>nb.2.2 _ q _ (Gd _ X) rfl;have n2:v.1∉M1.vals.map (·.1):=λq=>nb.2.1.2.2 _ q _ X rfl;refine⟨M1,setV M j v.1 x,⟨ne W.mi (by simp),ne W.mf (by simp),ne W.mR (by simp),ents n1,ne W.mp (by simp),(λh hn=>⟨ne h.i (by simp),ne h.f (by simp),ne h.V (by simp),λu D=>⟨O (h.b u D).1 λq=>hn (by refine iZ q ?_;exact bR.mpr ⟨u,D,rfl⟩),(h.b u D).2⟩⟩:∀{N:kD},gO S N->v.1∉N.vals.map (·.1)->gO Sf N) W.o1 n2,W.o2.wrote f nb.2.1.2.1 hx ne O ho,ne W.wd (by simp),ne W.wL (by simp),?_,W.nl,W.c1,?_,W.ok,W.few,W.ctx⟩,rfl,rfl,.inr rfl⟩
   · show(es.map (·.o)++(M1.vals.map (·.1)++(M.vals.set j (v.1,x)).map (·.1))).Nodup;refine aC (AI f) ?_;exact W.nb
   ·refine qJ W.c2 λa1 a2 a3 a4 a5=>⟨a1,a2,a3,a4,by show(M.vals.set j (v.1,x)).length=4;refine aC Bu ?_;exact a5⟩
theorem Wo.wrote(W:Wo S A es M1 M2)(hr:row∈bQ es M1 M2)(hx:x.length=row.oc.length)(hk:∀a o,a≠row.o->a≠row.l->S a=some o->Sf a=some o)(ho:Sf row.o=some (.barr x))(hl:Sf row.l=some (.list (mC x))\/row.l=row.o):∃Q u k,Wo Sf A Q u k/\u.a=M1.a/\u.w=M1.w/\Q.length=es.length/\∃row'∈bQ Q u k,row'.base=row.base/\row'.oc=x:=by
 rcases mB.mp hr with⟨e,he,rfl⟩|⟨M,T,j,v,f,rfl⟩
 · have J:Sf e.l=some (.list (mC x)):=by
     refine eC λd=>?_;rcases hl with h|h;refine d ?_;·exact h
     · have h:e.l=e.o:=h;exact absurd (((W.ents e he).1.o)▸h▸((W.ents e he).2)) nofun
   refine⟨_,M1,M2,W.wroteE he hx hk ho J,rfl,rfl,aJ _,jC (rW e.o x e),mB.mpr (.inl ⟨_,bR.mpr ⟨e,he,rfl⟩,rfl⟩),?_,?_⟩;·exact tE.2.2.2.2.2.1
   · show(rW e.o x e).g.oc=x;unfold rW;exact aC (if_pos rfl) rfl
 · have l:=((W.map T).1.b v (bG f)).2;refine rd (W.wroteM T f (x:=x) (hx.trans l) (λa o h e=>hk a o h h e) ho) λu k m h1 h2 h3=>⟨es,u,k,m,h1,h2,rfl,qg (setV M j v.1 x) j (v.1,x),mB.mpr (.inr ⟨_,h3,j,(v.1,x),?_,rfl⟩),rfl,rfl⟩;show(M.vals.set j (v.1,x))[j]?=_;exact aC (f_) (aC (if_pos rfl) (aC (if_pos (aR.mp f).1) rfl))
end
section
variable{α:Type}{E:KP}{S:CS}
theorem aR4{K:α->CS->Prop}{f:Addr->Addr->Addr->Addr->Addr->M α}(k:∀a b c d e C,jK S C [(e,none),(d,none),(c,none),(b,none),(a,none)]->S.le C->f a b c d e K E C):((iF (.cell none)).bind λa=>(iF (.cell none)).bind λb=>(iF (.cell none)).bind λc=>(iF (.cell none)).bind λd=>(iF (.cell none)).bind λe=>f a b c d e) K E S:=by
 intro a ha b g c h d hd e he;exact eC λl=>bX (jK.nil.new CS.le_refl ha) λF t=>bX (F.new t g) λL j=>bX (L.new j h) λi Z=>bX (i.new Z hd) λG J=>bX (G.new J he) λI H=>l (k a b c d e _ I H)
end
section
variable{n:Nat}{K:KP}{E:KP}{S:CS}{A:Ad}{es:List n_}{M1 M2:kD}{p c:Addr}{ns:List Int}{b:Nat}
theorem KQ(l:List UInt8):vf (yz 4) (mC l) (mC l)=some true:=by induction l with|nil=>rfl|cons a r j=>exact rb cI j
theorem HT(l:List UInt8):PB (mC l) (mC l)=some true:=by
 unfold PB;exact aC (if_pos rfl) (aC (KQ _) rfl)
theorem ai3(W:Wo S A es M1 M2)(hr:r∈bQ es M1 M2):S r.o=some (.barr r.oc):=by
 rcases mB.mp hr with⟨e,he,rfl⟩|⟨M,T,j,v,f,rfl⟩;·exact(W.ents e he).1.o
 ·exact((W.map T).1.b v (bG f)).1
theorem zv(W:Wo S A es M1 M2)(P:j_ S p c ns b)(hb:b<=90000)(k:∀G,Af S A es M1 M2 p c ns b G->K (.bool true) G):aM (n+10) (.st 716) [.ref p,.ref A.m,.ref A.w] K E S:=by
 refine aC (ve _ _ _ _) ?_;refine qt (λK_ E_ rK eK=>aR4 λcm co cp cw cx S1 H l1=>?_);refine CB (i:=4) rfl H rfl λS2 H q=>?_;have W2:=(W.le l1).nc q;refine cK rfl (cK rfl (zP W2 ((P.le l1).nc q) (o21 hb) λs S3 g6 j1 P3 D=>?_));have W3:=W2.pn D;have H:=H.to D;refine cK rfl (fD (dP rfl) (om λq2 l3=>sO (P3.le (aQ l3)) (o20 hb) aH (by simp) rfl λv S4 hv P4 D=>?_));obtain⟨w,rfl,hw⟩:∃w:Nat,v=.int w/\1<=w/\w<=8:=by
   simp only[a_,cG,or_false]at hv;rcases hv with rfl|rfl|rfl|rfl|rfl;·exact⟨1,rfl,by decide⟩
   ·exact⟨2,rfl,by decide⟩
   ·exact⟨4,rfl,by decide⟩
   ·exact⟨8,rfl,by decide⟩
   ·exact⟨5,rfl,by decide⟩
 have D:=(cR (aQ (o:=.list [.int 1,.int 2,.int 4,.int 8,.int 5]) l3)).trans D;have W4:=W3.pn D;have H:=H.to D;refine cK rfl (Yx (by decide) (by decide) (nT P4 (o40 hb) ⟨by decide+kernel,by decide+kernel⟩ λdw S5 q4 q1 P5 D=>?_));have W5:=W4.pn D;have H:=H.to D;clear W4 P4 D;refine Yx (by decide) (by decide) (wc (fD (dP rfl) (fD (by decide) ?_)));generalize dw-1*2^cA 70=worth;refine CB (i:=2) rfl H rfl λS6 H q=>?_;have W6:=W5.nc q;have P6:=P5.nc q;clear W5 P5 q;refine CB (i:=1) rfl H rfl λS7 H q=>?_;have W7:=W6.nc q;have P7:=P6.nc q;clear W6 P6 q;refine CB (i:=0) rfl H rfl λS8 H q=>?_;have W8:=W7.nc q;have P8:=P7.nc q;clear W7 P7 q;have H:jK S S8 [(cx,some (.int worth)),(cw,some (.int w)),(cp,some (.int s)),(co,none),(cm,some (.ref A.m))]:=H;refine cK rfl (nG (i:=2) rfl H rfl (nG (i:=1) rfl H rfl (QO (λv G=>S8.le G/\((v=.none/\∀r∈bQ es M1 M2,¬fS r s w)\/(∃(i:Nat)(r:Row)(a:Addr),v=.ref a/\r∈bQ es M1 M2/\fS r s w/\G a=some (.list (vc i r s w))))) (λK' e0=>?_) ?_)));·exact UL W8 (o46 hw) (λno=>e0 _ _ ⟨CS.le_refl,.inl ⟨rfl,no⟩⟩) (λi r p1 m a S7 l7 ha xa=>e0 _ _ ⟨l7,.inr ⟨i,r,a,rfl,bG p1,m,xa⟩⟩)
 intro v20 S9 q1_;refine bX q1_ λl9 L=>?_;clear q1_;have H:=H.to (cR l9);have W9:=W8.le l9;have P9:=P8.le l9;clear W8 P8 l9;refine kC rfl (fD (by decide) (nG (i:=1) rfl H rfl (qQ (ah2 hw) (qR (ah2 hw) (fD ⟨rfl,rfl⟩ (nr (ur (n:=w)) (λi acc G=>acc=mC (ud worth i)/\G=S9) (λι ι ι ι=>trivial) ⟨rfl,rfl⟩ ?_ ?_))))))
 · intro i acc G K' hi q1_ hK;refine bX q1_ λm9 j4=>?_;clear q1_;obtain rfl:=m9;obtain rfl:=j4;refine fV rfl (nG (i:=0) rfl H rfl (cK rfl (bX (G9 (t:=i) (aB (bK hi) (aB hw.2 (by decide)))) λg6 j1=>G8 (by decide) (aW6 hw hi) (aC (dO _) (uo ⟨ar0 j1,ai2 g6⟩ (wh (by decide) (fD (by refine aC cW (aC lT ?_);exact(aB (bK hi) (aB hw.2 (by decide)))) (hK _ _ ⟨?_,rfl⟩))))))));refine aC A7 (aC rF ?_);show _=_++[eD (AX worth i).toNat];exact aC (yy _ _) (aC (Hl _) rfl)
 intro acc G q1_;refine bX q1_ λp4 m0=>?_;clear q1_;obtain rfl:=p4;obtain rfl:=m0;have I:(ud worth w).length=w:=lT;refine om λlo g9=>?_;have lo1:(G.put lo (.list (mC (ud worth w)))) lo=some (.list (mC (ud worth w))):=aH;have ll:=aQ (o:=.list (mC (ud worth w))) g9;have X:lo∉es.map (·.l):=λh=>by refine iK (W9.lists lo (eV _ (eV _ h))) λo e=>?_;exact iH (g9.symm.trans e)
 have i3:=W9.le ll;have j0:=P9.le ll;have H:=H.to (cR ll);have L:(v20=.none/\∀r∈bQ es M1 M2,¬fS r s w)\/(∃(i:Nat)(r:Row)(a:Addr),v20=.ref a/\r∈bQ es M1 M2/\fS r s w/\(G.put lo (.list (mC (ud worth w)))) a=some (.list (vc i r s w))):=by
   rcases L with h|⟨i,r,a,h1,h2,h3,h4⟩;·exact .inl h
   ·exact .inr ⟨i,r,a,h1,h2,h3,ll _ _ h4⟩
 generalize G.put lo (.list (mC (ud worth w)))=S10 at lo1 i3 j0 H L|-;clear W9 P9 ll g9;refine CB (i:=3) rfl H rfl λk8 H q=>?_;have k4:=i3.nc q;have l8:=j0.nc q;have j9:=q _ _ rfl lo1;have L:(v20=.none/\∀r∈bQ es M1 M2,¬fS r s w)\/(∃(i:Nat)(r:Row)(a:Addr),v20=.ref a/\r∈bQ es M1 M2/\fS r s w/\k8 a=some (.list (vc i r s w))):=by
   rcases L with h|⟨i,r,a,h1,h2,h3,h4⟩;·exact .inl h
   ·exact .inr ⟨i,r,a,h1,h2,h3,q _ _ rfl h4⟩
 clear i3 j0 lo1 q;refine QO (λv G=>k8.le G/\((v=.str "no memory there"/\∀r∈bQ es M1 M2,¬fS r s w)\/(∃r,r∈bQ es M1 M2/\fS r s w/\((v=.str "read only"/\r.wr=false)\/(∃d,v=.ref d/\G d=some (.list [.none])/\r.wr=true))))) (λK' e0=>?_) ?_
 · rcases L with⟨rfl,no⟩|⟨i,r,a,rfl,h2,h3,h4⟩;·exact cK rfl (IC (fV rfl (e0 _ _ ⟨CS.le_refl,.inl ⟨rfl,no⟩⟩)))
   · refine cK rfl (IC (eB rfl (cK rfl ?_)));refine oY (v:=.tup [.int i,.bool r.wr,.int (oR r (s+(0:Nat))).toNat]) h4 ⟨by decide,by decide⟩ (by unfold vc;refine aC (bE) (aC (jY (show cA 0<w by show 0<w;exact hw.1)) ?_);rfl) ?_;refine nD ⟨by decide,by decide⟩ rfl (qw (Fk (λht=>?_) (λht=>?_)));·exact fD (dP rfl) (om λd hd=>e0 _ _ ⟨aQ hd,.inr ⟨r,h2,h3,.inr ⟨d,rfl,aH,ht⟩⟩⟩)
     ·exact e0 _ _ ⟨CS.le_refl,.inr ⟨r,h2,h3,.inl ⟨rfl,ht⟩⟩⟩
 intro e8 j5 q1_;refine bX q1_ λf3 N=>?_;clear q1_;have k6:=k4.le f3;have j6:=l8.le f3;have H:=H.to (cR f3);have k1:=f3 _ _ j9;clear k4 l8 j9 f3;refine cK rfl (kC rfl (om λf1 p6=>?_));have k2:(j5.put f1 (.clo (lG 716 0) [(aD "memory",cm),(aD "place",cp),(aD "width",cw),(aD "worth",cx)])) f1=some (.clo (lG 716 0) [(aD "memory",cm),(aD "place",cp),(aD "width",cw),(aD "worth",cx)]):=aH;have l5:=aQ (o:=.clo (lG 716 0) [(aD "memory",cm),(aD "place",cp),(aD "width",cw),(aD "worth",cx)]) p6;generalize j5.put f1 (.clo (lG 716 0) [(aD "memory",cm),(aD "place",cp),(aD "width",cw),(aD "worth",cx)])=S13 at k2 l5|-;refine kC rfl (om λf2 n3=>?_);have g8:(S13.put f2 (.clo (lG 716 1) [(aD "memory",cm),(aD "octets",co),(aD "place",cp)])) f2=some (.clo (lG 716 1) [(aD "memory",cm),(aD "octets",co),(aD "place",cp)]):=aH;have Z:=aQ (o:=.clo (lG 716 1) [(aD "memory",cm),(aD "octets",co),(aD "place",cp)]) n3;have g7:=Z _ _ k2;have Z:=CS.le_trans l5 Z;generalize S13.put f2 (.clo (lG 716 1) [(aD "memory",cm),(aD "octets",co),(aD "place",cp)])=S14 at g8 g7 Z|-;refine fD (dP rfl) (om λq3 k5=>?_);have f5:=aQ (o:=.list [.ref f1,.ref f2]) k5;have i0:=CS.le_trans Z f5;refine sO (j6.le i0) (o39 hb) aH (by simp) rfl λv C hv k3 D=>?_;have fa:∃f,v=.ref f/\(C f=some (.clo (lG 716 0) [(aD "memory",cm),(aD "place",cp),(aD "width",cw),(aD "worth",cx)])\/C f=some (.clo (lG 716 1) [(aD "memory",cm),(aD "octets",co),(aD "place",cp)])):=by
   simp only[a_,cG,or_false]at hv;rcases hv with rfl|rfl;·exact⟨f1,rfl,.inl (D _ _ rfl (f5 _ _ g7))⟩
   ·exact⟨f2,rfl,.inr (D _ _ rfl (f5 _ _ g8))⟩
 refine aY fa λf m7 hf=>?_;clear fa;obtain rfl:=m7;have D:=(cR i0).trans D;have N:(e8=.str "no memory there"/\∀r∈bQ es M1 M2,¬fS r s w)\/(∃r,r∈bQ es M1 M2/\fS r s w/\((e8=.str "read only"/\r.wr=false)\/(∃d,e8=.ref d/\C d=some (.list [.none])/\r.wr=true))):=by
   rcases N with h|⟨r,h1,h2,h3|⟨d,h3,h4,h5⟩⟩;·exact .inl h
   ·exact .inr ⟨r,h1,h2,.inl h3⟩
   ·exact .inr ⟨r,h1,h2,.inr ⟨d,h3,D _ _ rfl h4,h5⟩⟩
 have U:=k6.pn D;have H:=H.to D;have i8:=D _ _ pU k1;clear k6 j6 k1 D Z i0 f5 hv g7 g8 k5;refine dS (cK rfl ?_);refine CY (λv G=>v=.none/\∃row,row∈bQ es M1 M2/\fS row s w/\row.wr=true/\G=C.put row.o (.barr (jS row s (ud worth w)))) (λx G=>C.le G/\((x=aD "no memory there"/\∀r∈bQ es M1 M2,¬fS r s w)\/(x=aD "read only"/\∃r,r∈bQ es M1 M2/\fS r s w/\r.wr=false))) (λK1 E1 hg F=>?_) (λv G a e6 ha=>?_) (λx G F=>?_)
 · rcases hf with hf|hf
   · refine⟨_,hf,?_⟩;show oD (aM (n+7)) (lG 716 0) [(aD "memory",cm),(aD "place",cp),(aD "width",cw),(aD "worth",cx)] [] K1 E1 C;refine aC (rY _ _) ?_;refine qt (λK_ E_ rK eK=>nG (i:=4) (by kernel_rfl) H rfl ?_);refine iM U (g:=273) (by kernel_rfl) (by kernel_rfl) (nG (i:=2) (by kernel_rfl) H rfl (nG (i:=1) (by kernel_rfl) H rfl (nG (i:=0) (by kernel_rfl) H rfl ?_)));refine eS (by kernel_rfl) (SK U (o46 hw) (λno a S2 le f=>eK _ _ ⟨S2,CS.le_refl,⟨a,_,rfl,f.choose_spec.1⟩,F a _ S2 f ⟨le,.inl ⟨rfl,no⟩⟩⟩) (λrow hr m T a S2 le f=>eK _ _ ⟨S2,CS.le_refl,⟨a,_,rfl,f.choose_spec.1⟩,F a _ S2 f ⟨le,.inr ⟨rfl,row,hr,m,T⟩⟩⟩) (λrow hr m T=>rK _ _ ⟨_,CS.le_refl,hg _ _ ⟨rfl,row,hr,m,T,rfl⟩⟩))
   · refine⟨_,hf,?_⟩;show oD (aM (n+7)) (lG 716 1) [(aD "memory",cm),(aD "octets",co),(aD "place",cp)] [] K1 E1 C;refine aC (rZ _ _) ?_;refine qt (λK_ E_ rK eK=>nG (i:=4) (by kernel_rfl) H rfl ?_);refine iM U (g:=259) (by kernel_rfl) (by kernel_rfl) (nG (i:=2) (by kernel_rfl) H rfl (nG (i:=3) (by kernel_rfl) H rfl (qZ i8 (by refine aC cW (aC I ?_);unfold bN;exact o45 hw) (kO _) (by refine aC I ?_;unfold bN;exact o45 hw) ?_)));refine eS (by kernel_rfl) (UH U (by refine aC I ?_;exact ah9 hw) (λno a S2 le f=>eK _ _ ⟨S2,CS.le_refl,⟨a,_,rfl,f.choose_spec.1⟩,F a _ S2 f ⟨le,.inl ⟨rfl,by replace no:=I▸no;exact no⟩⟩⟩) (λrow hr m T a S2 le f=>eK _ _ ⟨S2,CS.le_refl,⟨a,_,rfl,f.choose_spec.1⟩,F a _ S2 f ⟨le,.inr ⟨rfl,row,hr,by replace m:=I▸m;exact m,T⟩⟩⟩) (λrow hr m T=>rK _ _ ⟨_,CS.le_refl,hg _ _ ⟨rfl,row,hr,by replace m:=I▸m;exact m,T,rfl⟩⟩))
 · refine eC λk_=>bX e6 λm5 j7=>?_;clear e6;obtain rfl:=m5;refine wi j7 λrow hr m T p2=>?_;clear j7;obtain rfl:=p2;have hd:∃d,e8=.ref d/\C d=some (.list [.none]):=by
     rcases N with⟨_,no⟩|⟨r',c5,R,⟨_,h⟩|⟨d,h1,h2,_⟩⟩;·exact absurd m (no row hr)
     ·exact absurd (h▸(qo U (o44 hw) hr c5 m R)▸T) nofun
     ·exact⟨d,h1,h2⟩
   obtain⟨d,rfl,hd⟩:=hd;refine k_ ?_;have ro:=ai3 U hr;have Y:fS row s (ud worth w).length:=by refine aC I ?_;exact m
   have i1:(jS row s (ud worth w)).length=row.oc.length:=vJ Y;have f4:=GX Y;replace f4:=I▸f4;have o17:(C.put row.o (.barr (jS row s (ud worth w)))) row.o=some (.barr (jS row s (ud worth w))):=aH;have h8:∀{y:Addr}{o:CO},y≠row.o->C y=some o->(C.put row.o (.barr (jS row s (ud worth w)))) y=some o:=λh e=>cC h e;generalize C.put row.o (.barr (jS row s (ud worth w)))=S17 at ha o17 h8|-;have Q:∀{y:Addr}{o:CO},C y=some o->(∀l,o≠.barr l)->S17 y=some o:=λ{y o}e h=>h8 (λq=>by replace e:=ro▸(q▸e);cases e;exact h _ rfl) e;have l6:(S17.put a (.list [.none])) a=some (.list [.none]):=aH;have f6:=aQ (o:=.list [.none]) ha;generalize S17.put a (.list [.none])=S18 at l6 f6|-;refine cK rfl (Bd (zA (t:=true) l6 (f6 _ _ (Q hd (by simp))) rfl (eB rfl (dS (cK rfl (fD (dP rfl) (om λz hz=>?_)))))));have lz:=aQ (o:=.list [.none]) hz;refine zA (t:=true) (lz _ _ (f6 _ _ (Q hd (by simp)))) aH rfl (eB rfl ?_);have J:=CS.le_trans f6 lz;generalize S18.put z (.list [.none])=S19 at J|-;refine cK rfl (tT (by rfl) ((λe=>J _ _ (Q e (by simp)):∀{y:Addr}{v:Option CV},C y=some (.cell v)->S19 y=some (.cell v)) (H.at_ 2 rfl)) (tT (by rfl) ((λe=>J _ _ (Q e (by simp)):∀{y:Addr}{v:Option CV},C y=some (.cell v)->S19 y=some (.cell v)) (H.at_ 3 rfl)) ?_));have nl:=U.nl;replace nl:=propext cZ▸nl;have e9:∀e∈es,∀t:Nat,t<w->kL (jC e) (s+t)->jC e=row:=λe he t ht hc=>by
     refine iK (cT (mB (M1:=M1) (M2:=M2).mpr (.inl ⟨e,he,rfl⟩))) λi ei=>?_;refine iK (cT hr) λj ej=>?_;exact(tm U ei ej hc (pW m ht)).2
   refine av5 (⟨J _ _ (Q U.wd (by simp)),J _ _ (Q U.wL (by simp)),λe he=>J _ _ (Q (U.ents e he).2 (by simp)),nl.2,λe he=>(U.ok.each e he).2.2⟩) (J _ _ (Q i8 (by simp))) (by refine aC I ?_;exact o46 hw) X ⟨g6,j1⟩ (λe he=>?_) λe7 f8 f0=>?_
   · refine aC I ?_;by_cases h:∃t:Nat,t<w/\kL (jC e) (s+t)
     · refine aY h λt ht hc=>?_;clear h;refine aC (e9 e he t ht hc) ?_;exact .inl m
     ·exact .inr λt ht hc=>h ⟨t,ht,hc⟩
   have hk:∀y o,y≠row.o->y≠row.l->C y=some o->e7 y=some o:=by
     intro y o h1 h2 e;by_cases hy:y∈es.map (·.l)
     · refine aY (bR.mp hy) λe1 O p0=>?_;obtain rfl:=p0;have e2:=(U.ents e1 O).2;replace e2:=e▸e2;refine aC e2 (aC (f8 e1 O) ?_);have hn:¬fS (jC e1) s (ud worth w).length:=λhi=>h2 (by
         have:=qo U (aB hw.1 (bA I.symm)) (mB.mpr (.inl ⟨e1,O,rfl⟩)) hr hi Y;refine iZ this ?_;rfl);unfold Ay;exact aC (if_neg hn) rfl
     ·exact f0 _ _ hy (J _ _ (h8 h1 e))
   have ho:e7 row.o=some (.barr (jS row s (ud worth w))):=by
     refine f0 _ _ (λhm=>aY (bR.mp hm) λe1 O q=>?_) (J _ _ o17);have:=(U.ents e1 O).2;replace this:=ro▸(q▸this);cases this
   have hl:e7 row.l=some (.list (mC (jS row s (ud worth w))))\/row.l=row.o:=by
     rcases mB.mp hr with⟨e1,O,q⟩|⟨M,hM,j,v,hv,q⟩;·left;have:=f8 e1 O;unfold Ay at this;replace this:=(if_pos Y)▸(kU q▸this);refine aC q ?_;replace this:=q▸this;exact this
     ·right;refine aC q ?_;rfl
   refine Dd (U.wrote hr i1 hk ho hl) λq0 n9 p5 Wf m1 j3 p7 f7 c5 h9 g4=>?_;have e5:=(E2 U hr).1;have e3:∀{y:Addr}{v:Option CV},C y=some (.cell v)->e7 y=some (.cell v):=λ{y v}e=>hk _ _ (λq=>by replace e:=ro▸(q▸e);cases e) (λq=>by
     replace e:=q▸e;rcases e5 with h|h;·replace e:=h▸e;cases e
     ·replace e:=h▸e;cases e) e;refine tT (by rfl) (e3 (H.at_ 4 rfl)) (iM Wf (g:=252) (by kernel_rfl) (by kernel_rfl) (tT (by rfl) (e3 (H.at_ 2 rfl)) (tT (by rfl) (e3 (H.at_ 1 rfl)) ?_)));have R:fS f7 s w:=⟨by refine aC h9 ?_;exact m.1,by refine aC h9 (aC g4 (aC i1 ?_));exact m.2⟩;refine eS (by kernel_rfl) (uW Wf (ah9 hw) (λno=>absurd R (no f7 c5)) (λl4 m6 k9=>?_));have:=qo Wf (o44 hw) m6 c5 k9 R;subst this;have e4:fG l4 s w=ud worth w:=by
     unfold fG;refine aC h9 (aC g4 ?_);exact f4
   refine aC e4 (Lh (by refine aC I ?_;unfold bN;exact o45 hw) λz2 p3=>?_);have j2:=aQ (o:=.list ((ud worth w).map λx=>eD x.toNat)) p3;refine tT (by rfl) (j2 _ _ (e3 (H.at_ 3 rfl))) (zA (t:=true) aH (j2 _ _ (f0 _ _ X (J _ _ (Q i8 (by simp))))) ?_ ?_);·exact HT _
   refine xD (rK _ _ ⟨e7,j2,k _ ⟨⟨A,q0,n9,p5,Wf,rfl,rfl,m1,j3,aV1 p7⟩,?_,?_⟩⟩)
   · refine eC λk_=>?_;obtain⟨⟨sp,gr,ep,h1,h2⟩,B,j8⟩:=k3;refine k_ ?_;have pn:p≠row.l:=λq=>by
       replace ep:=q▸ep;rcases e5 with h|h
       · replace ep:=h▸ep;injection ep with ep;injection ep with ep;rcases k7:row.oc with _|⟨u,v⟩;·replace ep:=k7▸ep;cases ep
         ·replace ep:=k7▸ep;cases ep
       ·replace ep:=h▸ep;cases ep
     have g5:=hk _ _ (λq=>by replace ep:=ro▸(q▸ep);cases ep) pn ep;by_cases hcl:c=row.l
     · rcases hl with h|h
       · refine⟨(jS row s (ud worth w)).map λx=>(x.toNat:Int),⟨sp,gr,g5,h1,ar3 h2⟩,?_,?_⟩
         · refine aC hcl (aC h ?_);unfold mC;refine aC rQ ?_;rfl
         · refine aC (aJ _) (aC i1 ?_);replace B:=hcl▸B;rcases e5 with h|h
           · replace B:=h▸B;injection B with B;injection B with B;have:=congrArg Ab B;replace this:=(aJ _)▸(cW▸this);exact(aB (bA this) j8)
           ·replace B:=h▸B;cases B
       ·replace B:=ro▸(h▸(hcl▸B));cases B
     ·exact⟨ns,⟨sp,gr,g5,h1,ar3 h2⟩,hk _ _ (λq=>by replace B:=ro▸(q▸B);cases B) hcl B,j8⟩
   · intro y v e;exact e3 (qm H.pn y v e)
 · refine bX F λlx hx=>?_;clear F;have m4:e8=.str x:=by
     rcases hx with⟨rfl,no⟩|⟨rfl,r,hr,m,T⟩
     · refine eC λk_=>?_;rcases N with⟨h,_⟩|⟨r,hr,m,_⟩;refine k_ ?_;·exact h
       ·exact absurd m (no r hr)
     · rcases N with⟨_,no⟩|⟨r',c5,R,⟨h,_⟩|⟨d,_,_,h⟩⟩;·exact absurd m (no r hr)
       ·exact h
       ·replace T:=h▸((qo U (o44 hw) hr c5 m R)▸T);cases T
   subst m4;refine cK rfl (Bd (vZ (UC (aC (decide_eq_true rfl) rfl) (eB rfl ?_))));refine dS (cK rfl (fD (dP rfl) (om λz hz=>aj9 aH (fV rfl (xD (rK _ _ ?_))))));have lz:=CS.le_trans lx (aQ (o:=.list [.none]) hz);exact⟨_,CS.le_refl,k _ ⟨⟨A,es,M1,M2,U.le lz,rfl,rfl,rfl,rfl,o18⟩,⟨_,(k3.le lz).up am0⟩,qm (H.pn.trans (cR lz))⟩⟩
end
noncomputable def og:List Int:=[0,65536,131072,262144,524288,16777216,1879048192]
noncomputable def u_:List Str:=[aD "none",aD "context",aD "packet",aD "stack",aD "room",aD "values",aD "beyond"]
noncomputable def Ds(pl:Int)(k:Nat):Prop:=k<7/\∀i,i<7->(og.getD i 0<=pl↔i<=k)
theorem lt7(h:i<7):i=0\/i=1\/i=2\/i=3\/i=4\/i=5\/i=6:=aS5 h
theorem z3:∀j,j<7->∀i,i<7->(i<=j->og.getD i 0<=og.getD j 0)/\(j<i->og.getD j 0<og.getD i 0):=by decide
theorem R8(h:0<=pl):∃k,Ds pl k:=by
 have go:∀k,k<7->og.getD k 0<=pl->(k<6->pl<og.getD (k+1) 0)->Ds pl k:=by exactλk hk h1 h2=>⟨hk,λi hi=>⟨λq=>kZ.mp λz=>tA _ (aT (h2 (aV z (gB hi))) (aG ((z3 i hi (k+1) (aZ z hi)).1 z) q)),λz=>aG ((z3 k hk i hi).1 z) h1⟩⟩
 by_cases a6:1879048192<=pl;·exact⟨6,go 6 (by decide) a6 (λh=>absurd h (by decide))⟩
 by_cases a5:16777216<=pl;·exact⟨5,go 5 (by decide) a5 (λa=>by exact(l_.mp a6))⟩
 by_cases a4:524288<=pl;·exact⟨4,go 4 (by decide) a4 (λa=>by exact(l_.mp a5))⟩
 by_cases a3:262144<=pl;·exact⟨3,go 3 (by decide) a3 (λa=>by exact(l_.mp a4))⟩
 by_cases a2:131072<=pl;·exact⟨2,go 2 (by decide) a2 (λa=>by exact(l_.mp a3))⟩
 by_cases a1:65536<=pl;·exact⟨1,go 1 (by decide) a1 (λa=>by exact(l_.mp a2))⟩
 exact⟨0,go 0 (by decide) h (λa=>by exact(l_.mp a1))⟩
theorem JA(h:k<7):Ds (og.getD k 0) k:=⟨h,λi hi=>⟨λq=>kZ.mp λz=>absurd q (l_.mpr ((z3 k h i hi).2 z)),(z3 k h i hi).1⟩⟩
section
variable{n:Nat}{K:KP}{E:KP}{S:CS}{A:Ad}{es:List n_}{M1 M2:kD}{p c:Addr}{ns:List Int}{b:Nat}
theorem KC(hk:Ds pl k)(r:K (.str (u_.getD k "")) S):aM (n+1) (.st 183) [.int pl] K E S:=by
 refine aC (Hb _ _) ?_;revert hk;refineλg=>bX g λh7 hk=>?_;clear g;refine fT (λz w s A P=>dS (YC (Fk (λht=>?_) (λht=>?_))))
 · have ht:(1879048192:Int)<=pl:=of_decide_eq_true ht;have:k=6:=by
     have:=(hk 6 (by decide)).mp ht;exact aG2 this h7
   clear h7;subst this;exact s _ _ ⟨S,CS.le_refl,r⟩
 have ht:¬(1879048192:Int)<=pl:=of_decide_eq_false ht;refine fD (dP rfl) (fD (dP rfl) (fD (dP rfl) (fD (dP rfl) (fD (dP rfl) (fD (dP rfl) (fD (dP rfl) (om λq hq=>?_)))))));have O:(S.put q (.list [.tup [.str "none",.int 0],.tup [.str "context",.int 65536],.tup [.str "packet",.int 131072],.tup [.str "stack",.int 262144],.tup [.str "room",.int 524288],.tup [.str "values",.int 16777216]])) q=some (.list [.tup [.str "none",.int 0],.tup [.str "context",.int 65536],.tup [.str "packet",.int 131072],.tup [.str "stack",.int 262144],.tup [.str "room",.int 524288],.tup [.str "values",.int 16777216]]):=aH;have l1:=aQ (o:=.list [.tup [.str "none",.int 0],.tup [.str "context",.int 65536],.tup [.str "packet",.int 131072],.tup [.str "stack",.int 262144],.tup [.str "room",.int 524288],.tup [.str "values",.int 16777216]]) hq;generalize S.put q (.list [.tup [.str "none",.int 0],.tup [.str "context",.int 65536],.tup [.str "packet",.int 131072],.tup [.str "stack",.int 262144],.tup [.str "room",.int 524288],.tup [.str "values",.int 16777216]])=S1 at O l1|-;refine dS (cK rfl (mQ (by assumption) (fD (by decide) ?_)));refine A9 (qU (p:=q) (l:=[.tup [.str "none",.int 0],.tup [.str "context",.int 65536],.tup [.str "packet",.int 131072],.tup [.str "stack",.int 262144],.tup [.str "room",.int 524288],.tup [.str "values",.int 16777216]])) (λi vs b=>∃U j,vs=[some (.int pl),some (.ref q),some (.str (u_.getD (min (i-1) k) "")),U,j,none,none,none,none,none,none]/\b=S1) (λa a a h=>by revert h;refineλg=>eJ g λa a a h=>?_;clear g;refine aC h ?_;exact O) ⟨none,none,by refine aC (show min (0-1) k=0 by exact rfl) ?_;rfl,rfl⟩ ?_ ?_
 · clear h7 hq O;intro i vs b y hi q1_ u a;refine eJ q1_ λU j t T=>?_;clear q1_;obtain rfl:=t;obtain rfl:=T;have hi:i<6:=hi;have v:([.tup [.str "none",.int 0],.tup [.str "context",.int 65536],.tup [.str "packet",.int 131072],.tup [.str "stack",.int 262144],.tup [.str "room",.int 524288],.tup [.str "values",.int 16777216]]:List CV).getD i .none=.tup [.str (u_.getD i ""),.int (og.getD i 0)]:=by
     have:i=0\/i=1\/i=2\/i=3\/i=4\/i=5:=an8 hi;rcases this with rfl|rfl|rfl|rfl|rfl|rfl<;>rfl
   refine aC v (unpack_ rfl (sE (sE (BV (dS (cK rfl (cK rfl (YC (Fk (λht=>?_) (λht=>?_))))))))))
   · have:=(hk i (au3 hi)).mp (of_decide_eq_true ht);refine cK rfl (u _ _ ⟨some (.str (u_.getD i "")),some (.int (og.getD i 0)),?_,rfl⟩);refine aC (show min (i+1-1) k=i by exact(fX this)) ?_;rfl
   · have:¬i<=k:=λh=>of_decide_eq_false ht ((hk i (au3 hi)).mpr h);refine u _ _ ⟨some (.str (u_.getD i "")),some (.int (og.getD i 0)),?_,rfl⟩;refine aC (show min (i+1-1) k=min (i-1) k by exact aU2 this) ?_;rfl
 · clear h7 hq O;intro vs b q1_;refine eJ q1_ λU j m x=>?_;clear q1_;obtain rfl:=m;obtain rfl:=x;exact cK rfl (s _ _ ⟨S,l1,aC (show min (Ab [hY [.str "none",.int 0],.tup [.str "context",.int 65536],.tup [.str "packet",.int 131072],.tup [.str "stack",.int 262144],.tup [.str "room",.int 524288],.tup [.str "values",.int 16777216]]-1) k=k by show min 5 k=k;exact(nZ (gB (qB (λh=>ht ((hk 6 (by decide)).mpr h)))))) r⟩)
theorem Di:mC (bH m u)=bH m (.int u.toNat):=by unfold mC;exact aC List.map_replicate rfl
theorem yZ(hf:0<=f/\f<=1000)(k:∀r d o b,S.le b->S r=none->S o=none->kX b r d o ⟨vA f,262144+4096*f,bH 512 u,true⟩->K (.ref r) b):aM (n+2) (.st 292) [.int f,.int u.toNat] K E S:=by
 refine aC (DN _ _ _) ?_;refine fT (λl m t w P=>tY (Kv hf.1 (bJ hf.2 (by decide))) (tV hf ?_));refine fD (dP rfl) (om λq hq=>KO aH (by decide) λy s=>?_);have l2:=CS.le_trans (aQ (o:=.list [.int u.toNat]) hq) (aQ (o:=.list (bH (cA 512) (.int u.toNat))) s);have p:((S.put q (.list [.int u.toNat])).put y (.list (bH (cA 512) (.int u.toNat)))) y=some (.list (mC (bH 512 u))):=by refine aC aH (aC Di ?_);rfl
 generalize(S.put q (.list [.int u.toNat])).put y (.list (bH (cA 512) (.int u.toNat)))=S2 at l2 p|-;refine Mi p (by refine aC cW (aC hW ?_);unfold bN;decide) (kO _) (by refine aC hW ?_;unfold bN;decide) λo ho=>?_;exact uT (g:=⟨vA f,262144+4096*f,bH 512 u,true⟩) aH λr d b le hr hd X=>t _ _ ⟨b,CS.le_refl,k r d o b (CS.le_trans (CS.le_trans l2 (aQ (o:=.barr (bH 512 u)) ho)) le) (jQ (CS.le_trans l2 (aQ (o:=.barr (bH 512 u)) ho)) hr) (jQ l2 ho) X⟩
end
section
variable{n:Nat}{K:KP}{E:KP}{S:CS}{A:Ad}{es:List n_}{M1 M2:kD}{p c:Addr}{ns:List Int}{b:Nat}
theorem JG(hw:1<=w/\w<=40)(hn:0<=number/\number<64)(hs:0<=slot/\slot<9):(hZ number slot w+7-16777216)/1048576=number/\(hZ number slot w+7-16777216)%1048576/gJ w=slot/\(hZ number slot w+7-16777216)%1048576%gJ w=7:=by
 have c:=n7 (w:=w) ⟨OS hw,OW hw⟩;unfold hZ;generalize gJ w=st at c|-;have e1:(16777216+1048576*number+slot*st+7-16777216)/1048576=number:=aP9 (⟨gG hs.1 (o47 c),pP (Int.le_of_lt_add_one hs.2) (aG c.2.1 (aG (cX hw.2 15) (by decide))) (o47 c) (aN _)⟩);refine aC e1 (aC (aK0 e1) ⟨rfl,?_,?_⟩);·refine aC (Gc _ _ (aP7 c)) (aC (pO av8 (at5 c)) ?_);exact aC2
 ·refine aC (Int.add_mul_emod_self_right _ _ _) ?_;exact Int.emod_eq_of_lt av8 (at5 c)
theorem Dy(W:Wo S A es M1 M2)(P:j_ S p c ns b)(U:b<=90000)(k:∀m,Af S A es M1 M2 p c ns b m->K (.bool true) m):aM (n+10) (.st 721) [.ref p,.ref A.w] K E S:=by
 refine aC (xb _ _ _) ?_;refine qt (λK_ E_ rK eK=>JH λcp e6=>?_);refine bX (jK.nil.new CS.le_refl e6) λH l1=>?_;have W1:=W.le l1;have P1:=P.le l1;generalize S.put cp (.cell none)=S1 at H l1 W1 P1|-;refine zP W1 P1 (o21 U) λpl S2 Z B P2 D=>?_;have W2:=W1.pn D;have H:=H.to D;refine nT P2 (o20 U) ⟨by decide,by decide⟩ λd1 S3 h1 h2 P3 D=>?_;have W3:=W2.pn D;have H:=H.to D;refine jA (nT P3 (o40 U) ⟨by decide,by decide⟩ λnumber S4 j s P4 D=>?_);have W4:=W3.pn D;have H:=H.to D;clear W3 P3 D;refine nT P4 (o39 U) ⟨by decide,by decide⟩ λslot S5 e G P5 D=>?_;have W5:=W4.pn D;have H:=H.to D;clear W4 P4 D;obtain⟨w,hw⟩:∃w:Int,w=1+d1:=⟨_,rfl⟩;refine iZ hw ?_;have hw:1<=w/\w<=40:=by exact(⟨by subst hw;lia,by subst hw;lia⟩)
 refine fD (dP rfl) (fD (by decide) (CB (i:=0) rfl H rfl λS6 H q=>?_));have W6:=W5.nc q;have P6:=P5.nc q;have H:jK S S6 [(cp,some (.int pl))]:=H;refine cK rfl (jA (uo (by decide) (ri (⟨by decide,Zp (aG (by decide) hw.1) hw.2 (by decide)⟩) (jA (cK rfl (ri (aP5 j s) (jA (cK rfl (cK rfl (ri (aJ8 hw e G) (jA (dS (cK rfl ?_)))))))))))));have e5:8*((w+7)/8)+8=gJ w:=by unfold gJ;exact aV6
 refine aC e5 ?_;have f7:16777216+1048576*number+gJ w*slot=hZ number slot w:=by unfold hZ;exact aC (ae3 (gJ w) slot) rfl
 refine aC f7 (u5 ⟨OS hw,OW hw⟩ (cK rfl (Bd (AH (aC (decide_eq_true rfl) (eB rfl (cK rfl (cK rfl (cK rfl (sM ⟨OS hw,OW hw⟩ ⟨QG j,(aG (dJ s) (by decide))⟩ ⟨QG e,(aG (dJ G) (by decide))⟩ (cK rfl (Bd (AH (aC (decide_eq_true rfl) (eB rfl (cK rfl (jA (cK rfl (xq ⟨OS hw,OW hw⟩ (iR (JG hw ⟨j,s⟩ ⟨e,G⟩) λe1 Y e3=>aC e1 (aC Y (aC e3 (cK rfl (cK rfl (fD (dP rfl) (Bd (zG (t:=true) (Kk (rb cI (rb cI (rb (cI_ (by simp)) rfl)))) (eB rfl (eB rfl (fD (dP rfl) (om λO f0=>?_)))))))))))))))))))))))))))))));have y:(S6.put O (.list (og.map .int))) O=some (.list (og.map .int)):=aH;have l1:=aQ (o:=.list (og.map .int)) f0;show((gd (bN 7)).bind _) _ _ (S6.put O (.list (og.map .int)));generalize S6.put O (.list (og.map .int))=S7 at y l1|-;refine fD (dP rfl) (om λJ f5=>?_);have L:(S7.put J (.list (u_.map .str))) J=some (.list (u_.map .str)):=aH;have l2:=aQ (o:=.list (u_.map .str)) f5;have y:=l2 _ _ y;have l2:=CS.le_trans l1 l2;show((iG _).bind _) _ _ (S7.put J (.list (u_.map .str)));generalize S7.put J (.list (u_.map .str))=S8 at y L l2|-;have H8:=H.to (cR l2);refine iK (R8 Z) λQ hk=>bX hk λF T=>?_;clear hk;refine kC rfl (fD (by decide) (cK rfl (mQ (by assumption) (Hm (fD (by decide) (nr (HF (p:=O) (l:=og.map eD)) (λi acc m=>acc=(cF (min i (Q+1))).map (λ(t:Nat)=>eD t)/\m=S8) (λa a a h=>by refine aC h.2 ?_;exact y) ⟨by refine aC (show min 0 (Q+1)=0 by exact rfl) ?_;rfl,rfl⟩ ?_ ?_))))))
 · intro i acc m I hi q1_ hK;refine bX q1_ λf6 e9=>?_;clear q1_;obtain rfl:=f6;obtain rfl:=e9;have e0:(og.map eD).getD i .none=.int (og.getD i 0):=by rcases lt7 hi with rfl|rfl|rfl|rfl|rfl|rfl|rfl<;>rfl
   refine aC e0 ?_;have R:=T i hi;refine unpack_ rfl (sE (sE (BV (nG (i:=0) rfl H8 rfl (cK rfl (YC ?_))))));by_cases h:i<=Q
   · refine aC (decide_eq_true (R.mpr h)) (fV rfl (fV rfl (cK rfl (fD (by refine aC (aJ _) (aC iU ?_);unfold bN;exact(aB (gR _ _) (aB F (by decide)))) (hK _ _ ⟨?_,rfl⟩)))));refine aC (show min i (Q+1)=i by exact aH8 h) (aC (show min (i+1) (Q+1)=i+1 by exact aN9 h) (aC oK (aC bW ?_)));rfl
   ·exact aC (decide_eq_false (λq=>h (R.mp q))) (eB rfl (eB rfl (hK _ _ ⟨aC (show min i (Q+1)=Q+1 by exact(nZ (qB h))) (aC (show min (i+1) (Q+1)=Q+1 by exact(nZ (nY (bK (qB h))))) rfl),rfl⟩)))
 intro acc m q1_;refine bX q1_ λc5 e7=>?_;clear q1_;obtain rfl:=c5;obtain rfl:=e7;refine aC (show min (Ab (og.map eD)) (Q+1)=Q+1 by show min 7 (Q+1)=Q+1;exact(nZ F)) (om λz hz=>?_);have X:=aQ (o:=.list ((cF (Q+1)).map (λ(t:Nat)=>eD t))) hz;refine RZ (SS (v:=.int Q) aH (by decide) (by refine aC (aJ _) (aC iU ?_);exact aN0) (by refine aC (aJ _) (aC iU (aC (show(((Q+1:Nat):Int)+-1).toNat=Q by exact aH5) (aC (bE) (aC (jY as4) ?_))));rfl) ?_);have y:=X _ _ y;have L:=X _ _ L;have l9:=CS.le_trans l2 X;generalize m.put z (.list ((cF (Q+1)).map (λ(t:Nat)=>eD t)))=S9 at y L l9|-;have H9:=H.to (cR l9);clear H8 l2 X hz;have iw:∀{I:KP}{E':KP},I (.str (u_.getD Q "")) S9->cJ (.ref J) (.int Q) I E' S9:=λk=>oY (f:=.pure) L ⟨o0,au4 F⟩ (by
   refine aC (dO _) ?_;rcases lt7 F with rfl|rfl|rfl|rfl|rfl|rfl|rfl<;>rfl) k;have ie:∀{I:KP}{E':KP},I (.int (og.getD Q 0)) S9->cJ (.ref O) (.int Q) I E' S9:=λk=>oY (f:=.pure) y ⟨o0,au4 F⟩ (by
   refine aC (dO _) ?_;rcases lt7 F with rfl|rfl|rfl|rfl|rfl|rfl|rfl<;>rfl) k;refine dS (nG (i:=0) rfl H9 rfl (KC ⟨F,T⟩ (cK rfl (cK rfl (iw (Bd (vZ (aC (decide_eq_true rfl) (eB rfl (cK rfl (cK rfl (ie (KC (JA F) (cK rfl (cK rfl (iw (Bd (vZ (aC (decide_eq_true rfl) (eB rfl (nG (i:=0) rfl H9 rfl (FH (XY Z B) (nG (i:=0) rfl H9 rfl (aa3 (XY Z B) (Ll ⟨by unfold bN;decide+kernel,yc (XY Z B)⟩ ?_)))))))))))))))))))))))));unfold ED;refine Bd (vZ (aC (decide_eq_true rfl) (eB rfl (eB rfl (cK rfl (wh (by decide) (cK rfl (fD (dP rfl) (fD (by decide) (cK rfl ?_))))))))));have x:0<=number%8/\number%8<8:=⟨gM _ (by decide),fP _ (by decide)⟩;generalize number%8=fr at x|-;refine tY (aD0 x) (cK rfl (ri (aD7 x) (jA (cK rfl (fD (dP rfl) ?_)))));have hu:((kF w.toNat).toNat:Int)=w:=C_ (⟨dJ hw.1,bJ hw.2 (by decide)⟩);refine iZ hu ?_;generalize kF w.toNat=u;refine om λq3 e4=>KO aH (by decide) λq4 f4=>?_;have N:=CS.le_trans l9 (CS.le_trans (aQ (o:=.list [.int u.toNat]) e4) (aQ (o:=.list (bH (cA 512) (.int u.toNat))) f4));have Y:((S9.put q3 (.list [.int u.toNat])).put q4 (.list (bH (cA 512) (.int u.toNat)))) q4=some (.list (mC (bH 512 u))):=by refine aC aH (aC Di ?_);rfl
 generalize(S9.put q3 (.list [.int u.toNat])).put q4 (.list (bH (cA 512) (.int u.toNat)))=S10 at N Y|-;refine qZ Y (by refine aC cW (aC hW ?_);unfold bN;decide) (kO _) (by refine aC hW ?_;unfold bN;decide) ?_;refine fD (dP rfl) (cK rfl (cK rfl (yZ (aj1 x) λr d o f3 e8 a a rg=>pM (g:=120) rg.i rg.f (by unfold Mk;kernel_rfl) (by kernel_rfl) (eS (by kernel_rfl) (Dl rg (by show(bH 512 u).length<=100000;refine aC hW ?_;decide) ?_)))));refine cK rfl (zG (t:=true) (Kk (rb cS (rb cI (rb cB (rb cO rfl))))) (qw (fV rfl (cK rfl (ER (aj1 x) (cK rfl (nD ⟨by decide,by decide⟩ rfl (jA (AH (xD (rK _ _ (aC (decide_eq_true rfl) ?_))))))))))));have C:=CS.le_trans N e8;exact⟨f3,CS.le_refl,k _ ⟨⟨A,es,M1,M2,W6.le C,rfl,rfl,rfl,rfl,o18⟩,⟨_,(P6.le C).up am0⟩,qm (H.pn.trans (cR C))⟩⟩
end
noncomputable def Gw:List CV:=["array","hash","lru","rows","queue","stack","trie","ring"].map λz=>Ae (aD z)
section
variable{n:Nat}{K:KP}{E:KP}{S:CS}{A:Ad}{es:List n_}{M1 M2:kD}{p c:Addr}{ns:List Int}{b:Nat}
theorem GH(k:KM (.bi 9,[.str x]) S):dX (.str x) "split" KM E S:=by
 show(match qW "split" "split"with|true=>jR ((CV.bi 9,[Ae x]):CV×List CV)|false=>.fail) KM E S;refine aC (show qW "split" "split"=true from by kernel_rfl) ?_;exact k
theorem Jx(k:KM (.bi 10,[.bytes x]) S):dX (.bytes x) "join" KM E S:=by
 show(match qW "join" "join"with|true=>jR ((CV.bi 10,[lQ x]):CV×List CV)|false=>.fail) KM E S;refine aC (show qW "join" "join"=true from by kernel_rfl) ?_;exact k
theorem Jd(k:KM (.st 339,[]) S):dX (.st 510) "__init__" KM E S:=by
 show(match qW "__init__" "__init__"with|true=>jR ((CV.st 339,[]):CV×List CV)|false=>.fail) KM E S;refine aC (show qW "__init__" "__init__"=true from by kernel_rfl) ?_;exact k
theorem Yk(k:∀c,S c=none->K (.ref c) (S.put c (.list Gw))):qM 9 [.str ("array hash lru rows queue stack trie ring":Str),.str " "] K E S:=⟨⟨rfl,rfl⟩,k⟩
noncomputable def GM(kind:Str)(f:Int):Prop:=(kind=aD "array"/\f=1)\/(kind=aD "rows"/\f=4)
theorem aO2(hk:GM kind f)(k:K .none S):aM (n+1) (.st 318) [.str kind,.int 4] K E S:=by
 refine aC (wj _ _ _) ?_;refine fT (λl m q w P=>dS (fD (dP rfl) ?_));refine KZ (t:=false) rfl (by rcases hk with⟨rfl,_⟩|⟨rfl,_⟩<;>kernel_rfl) (eB rfl ?_);refine dS (vZ ?_);refine eB (by rcases hk with⟨rfl,_⟩|⟨rfl,_⟩<;>decide+kernel) ?_;refine dS (fD (dP rfl) ?_);refine KZ (t:=true) rfl (by rcases hk with⟨rfl,_⟩|⟨rfl,_⟩<;>kernel_rfl) (fV rfl ?_);exact dS (Bd (AH (eB rfl (w _ _ ⟨S,CS.le_refl,k⟩))))
theorem Lp(hk:GM kind f)(hw:1<=w/\w<=17)(hm:1<=most/\most<=3)(k:K .none S):aM (n+2) (.st 325) [.str kind,.int 4,.int w,.int most] K E S:=by
 refine aC (zu _ _ _ _ _) ?_;refine fT (λl m r x P=>dS (GH ?_));refine yh (Yk λq hq=>?_);have l1:=aQ (o:=.list Gw) hq;refine K8 (ah4 (t:=true) aH rfl (by rcases hk with⟨rfl,_⟩|⟨rfl,_⟩<;>kernel_rfl) (eB rfl ?_));generalize S.put q (.list Gw)=S1 at l1|-;refine cK rfl (cK rfl (aO2 hk (dS (cK rfl (vZ ?_)))));refine eB (by rcases hk with⟨rfl,_⟩|⟨rfl,_⟩<;>decide+kernel) ?_;refine dS (cK rfl (Cw (eB (decide_eq_false (iW.mpr hw.1)) (dS (cK rfl (Cw (eB (decide_eq_false (iW.mpr hm.1)) (cK rfl ?_))))))));have c:=n7 (w:=w) ⟨al4 hw,am3 hw⟩;refine u5 ⟨al4 hw,am3 hw⟩ ?_;have h1:0<=gJ w*(most+1)/\gJ w*(most+1)<=32*4:=⟨gG (o47 c) (ao2 hm),pP (aG c.2.1 (aG (cX hw.2 15) (by decide))) (bJ hm.2 (by decide)) (ao2 hm) (aN _)⟩;refine cK rfl (jA (ri (aC9 hw hm c) (cK rfl (vZ ?_))));generalize gJ w*(most+1)=y at h1|-;rcases hk with⟨rfl,_⟩|⟨rfl,_⟩;·exact eB (by decide+kernel) (ri (⟨⟨aG (by decide) h1.1,aG h1.2 (by decide)⟩,⟨aN _,aN _⟩⟩) (Y_ (eB (decide_eq_false (iW.mpr (aG (dF (aw6 _)) (aG h1.2 (by decide))))) (eB rfl (x _ _ ⟨S,l1,k⟩)))))
 ·exact fV (by decide+kernel) (ri (⟨⟨aG (by decide) h1.1,aG h1.2 (by decide)⟩,⟨aN _,aN _⟩⟩) (Y_ (eB (decide_eq_false (λq=>absurd (aT q (mK h1.2 (by decide))) (by decide))) (eB rfl (x _ _ ⟨S,l1,k⟩)))))
theorem Hi(hk:GM kind f)(g:cls=594\/cls=637)(hw:1<=w/\w<=17)(hm:1<=most/\most<=3)(hn:0<=num/\num<64)(hi:S a=some (.inst cls d))(hf:S d=some (.flds []))(k:∀V b,S V=none->b a=some (.inst cls d)->b d=some (.flds (Lg ⟨a,d,V,cls,kind,num,w,most,[]⟩))->b V=some (.idict [])->(∀x o,x≠d->S x=some o->b x=some o)->K .none b):aM (n+3) (.st 339) [.ref a,.str kind,.int num,.int 4,.int w,.int most] K E S:=by
 refine aC (Fb _ _ _ _ _ _ _) ?_;refine fT (λl m r z P=>Lp hk (⟨aX.mpr hw.1,aX.mpr hw.2⟩) hm ?_);refine dS (MI ?_);refine fV (decide_eq_true hn.1) (Cw (eB (congrArg _ (decide_eq_true hn.2)) (cK rfl (cK rfl ?_))));have ad:a≠d:=λq=>by exact absurd (hf▸q▸hi) nofun
 have L:∀{x:CO},(S.put d x) a=some (.inst cls d):=cC ad hi;have t:∀x y,(S.put d x).put d y=S.put d y:=λc c=>pQ;refine sX (i:=1) hi hf (by kernel_rfl) (by rcases g with rfl|rfl<;>kernel_rfl) (by decide) ?_;refine cK rfl (cK rfl ?_);refine sX (i:=1) L aH (by kernel_rfl) (by rcases g with rfl|rfl<;>kernel_rfl) (by show 1<=100;decide) ?_;refine aC (t _ _) (cK rfl (cK rfl ?_));refine sX (i:=1) L aH (by kernel_rfl) (by rcases g with rfl|rfl<;>kernel_rfl) (by show 2<=100;decide) ?_;refine aC (t _ _) (cK rfl (cK rfl ?_));refine sX (i:=1) L aH (by kernel_rfl) (by rcases g with rfl|rfl<;>kernel_rfl) (by show 3<=100;decide) ?_;refine aC (t _ _) (cK rfl (cK rfl ?_));refine sX (i:=1) L aH (by kernel_rfl) (by rcases g with rfl|rfl<;>kernel_rfl) (by show 4<=100;decide) ?_;refine aC (t _ _) (om λV j=>cK rfl ?_);refine sX (i:=1) (gU j L) (gU j aH) (by kernel_rfl) (by rcases g with rfl|rfl<;>kernel_rfl) (by show 5<=100;decide) ?_;refine z _ _ ⟨_,CS.le_refl,k V _ (mJ j).1 (cC ad (gU j L)) (aC aH (congrArg some (congrArg CO.flds ?_))) (cC (mJ j).2 aH) (λx o hx e=>cC hx (gU j (cC hx e)))⟩;kernel_rfl
theorem I8:∀{l:List (Addr×List UInt8)}{i:Nat}{u:Addr×List UInt8},v=.ref u.1->xH ((i+l.length:Nat):Int) v (lA i l)=lA i (l++[u]):=by intro l;induction l with |nil=>intro i u h;subst h;rfl|cons x l j=> intro i u h;show(match decide (((i+(l.length+1):Nat):Int)=(i:Int))with|true=>_|false=>((i:Int),dG x.1)::xH ((i+(l.length+1):Nat):Int) v (lA (i+1) l))=((i:Int),dG x.1)::lA (i+1) (l++[u]);refine aC (decide_eq_false (λq=>absurd (Int.ofNat_inj.mp q) (uP (Nat.lt_add_of_pos_right (FS _))))) ?_;show _::_=_;exact iZ (j (i:=i+1) h) (aC (show i+(l.length+1)=i+1+l.length by exact o31) rfl)
noncomputable def aq9(cls:Nat)(kind:Str)(num most:Int)(cnt:Nat):Prop:=(cls=594/\kind=aD "array"/\num=0/\most=3/\cnt=3)\/(cls=637/\kind=aD "rows"/\num=5/\most=1/\cnt=4)
theorem LC(hm:aq9 cls kind num most cnt)(hw:1<=w/\w<=17)(k:∀(M:kD)c,S.le c->gO c M->M.cls=cls->M.num=num->M.w=w->M.most=most->M.vals.length=cnt->(∀v∈M.vals,S v.1=none)->(M.vals.map (·.1)).Nodup->K (.ref M.a) c):mG (aM (n+4)) cls [.str kind,.int num,.int 4,.int w,.int most] K E S:=by
 have X:cls=594\/cls=637:=by rcases hm with h|h;exact .inl h.1;exact .inr h.1
 have A:cnt=3\/cnt=4:=by rcases hm with h|h;exact .inl h.2.2.2.2;exact .inr h.2.2.2.2
 refine ZU (f:=528) (by rcases X with rfl|rfl<;>kernel_rfl) (by decide) λd hd a ha=>?_;refine bX (mJ ha) λN I=>?_;refine aC (yj _ _ _ _ _ _ _) ?_;have U:((S.put d (.flds [])).put a (.inst cls d)) a=some (.inst cls d):=aH;have Z:((S.put d (.flds [])).put a (.inst cls d)) d=some (.flds []):=cC (eY I) aH;have l0:S.le ((S.put d (.flds [])).put a (.inst cls d)):=hU (aQ hd) N;generalize(S.put d (.flds [])).put a (.inst cls d)=S0 at U Z l0|-;refine fT (λK_ E_ Q nK eK=>Jd (eS (by kernel_rfl) ?_));refine Hi (f:=if cls=594 then 1 else 4) (by rcases hm with⟨rfl,rfl,_⟩|⟨rfl,rfl,_⟩;exact .inl ⟨rfl,rfl⟩;exact .inr ⟨rfl,rfl⟩) X hw (by rcases hm with⟨_,_,_,rfl,_⟩|⟨_,_,_,rfl,_⟩<;>decide) (by rcases hm with⟨_,_,rfl,_⟩|⟨_,_,rfl,_⟩<;>decide) U Z λV B hV Y f1 V1 k1=>?_;have s:gO B ⟨a,d,V,cls,kind,num,w,most,[]⟩:=⟨Y,f1,V1,λv j=>nomatch j⟩;refine dS ?_;have J:∀{D:KP}{P:KP},D (.int cnt) B->((dX (.ref a) "slot_count").bind λL=>eQ (aM (n+3)) L.1 (L.2++[])) D P B:=by
   intro D P kk;clear ha N I U Z V1;rcases hm with⟨rfl,rfl,rfl,rfl,rfl⟩|⟨rfl,rfl,rfl,rfl,rfl⟩
   · refine pM (g:=453) Y f1 (by kernel_rfl) (by kernel_rfl) (eS (by kernel_rfl) ?_);show aM (n+2+1) (.st 453) [.ref a] D P B;refine aC (xA _ _) ?_;refine fT (λK_ E_ Q nK eK=>DI s (.inl rfl) ?_);exact Q _ _ ⟨B,CS.le_refl,kk⟩
   · refine pM (g:=610) Y f1 (by kernel_rfl) (by kernel_rfl) (eS (by kernel_rfl) ?_);show aM (n+2+1) (.st 610) [.ref a] D P B;refine aC (uA _ _) ?_;refine fT (λK_ E_ Q nK eK=>DI s (.inr rfl) (ri (a:=1) (b:=4) (by decide) ?_));exact Q _ _ ⟨B,CS.le_refl,kk⟩
 refine J (qQ (au8 A) (qR (au8 A) (fD rfl ?_)));refine A9 (ur (n:=cnt)) (λi vs c=>∃(x:Option CV)(vals:List (Addr×List UInt8)),vs=[some (.ref a),some (.str kind),some (.int num),some (.int 4),some (.int w),some (.int most),x,none,none,none]/\vals.length=i/\gO c ⟨a,d,V,cls,kind,num,w,most,vals⟩/\S.le c/\(∀v∈vals,S v.1=none)/\(vals.map (·.1)).Nodup) (λG G G G=>trivial) ⟨none,[],rfl,rfl,s,(λx o e=>k1 x o (λq=>by exact iH (hd▸q▸e)) (l0 x o e)),(λG h=>by contradiction),vF⟩ ?_ ?_
 · intro i vs C D hi q1_ hK G;refine eJ q1_ λx vals c5 T=>?_;clear q1_;obtain rfl:=c5;refine qJ T λm z l2 p r=>?_;clear T;refine cK rfl (Yp (⟨aN _,aX.mpr (aB hw.2 (by decide))⟩) λo ho=>?_);have F:=aQ (o:=.barr (bH (cA w) 0)) ho;have o3:(C.put o (.barr (bH (cA w) 0))) o=some (.barr (bH (cA w) 0)):=aH;have W:o∉vals.map (·.1):=λhm=>by
     refine aY (bR.mp hm) λv j q=>?_;have:=(z.b v j).1;exact iH (ho▸q▸this)
   have t:gO (C.put o (.barr (bH (cA w) 0))) ⟨a,d,V,cls,kind,num,w,most,vals⟩:=⟨F _ _ z.i,F _ _ z.f,F _ _ z.V,λv j=>⟨F _ _ (z.b v j).1,(z.b v j).2⟩⟩;have l4:=CS.le_trans l2 F;generalize C.put o (.barr (bH (cA w) 0))=S3 at F l4 o3 t|-;refine cK rfl (sj t X (cK rfl (an6 t.V (wY▸aT4 A hi m) ?_)));have e1:xH (i:Int) (.ref o) (lA 0 vals)=lA 0 (vals++[(o,bH (cA w) 0)]):=by exact iZ (I8 (l:=vals) (i:=0) (u:=(o,bH (cA w) 0)) rfl) (aC m (aC (nX _) rfl))
   refine aC e1 ?_;have O:∀{x:Addr}{y:CO},S3 x=some y->(∀l,y≠.idict l)->(S3.put V (.idict (lA 0 (vals++[(o,bH (cA w) 0)])))) x=some y:=λ{x y}e h=>cC (λq=>by obtain rfl:=aE (t.V▸q▸e);exact h _ rfl) e;refine hK _ _ ⟨_,vals++[(o,bH (cA w) 0)],rfl,by refine aC fB (aC m ?_);rfl,⟨O t.i (by simp),O t.f (by simp),aH,λv j=>?_⟩,hU l4 (jQ l0 hV),λv j=>?_,?_⟩
   · rcases gH.mp j with j|j;·exact⟨O (t.b v j).1 (by simp),(t.b v j).2⟩
     · rw[fO]at j;subst j;exact⟨O o3 (by simp),by refine aC hW ?_;rfl⟩
   · rcases gH.mp j with j|j;·exact p v j
     · rw[fO]at j;exact aC j ((jQ l2 ho))
   · refine aC bW (qP lW ⟨r,by simp,λx hx y hy q=>?_⟩);rw[fH,yR,fO]at hy;rw[q,hy]at hx;exact W hx
 · intro vs C q1_;refine eJ q1_ λx vals R H=>?_;clear q1_;obtain rfl:=R;refine qJ H λm z l2 p r=>?_;clear H;exact nK _ _ ⟨C,CS.le_refl,k _ C l2 z rfl rfl rfl rfl m p r⟩
end
section
variable{n:Nat}{K:KP}{E:KP}{S:CS}{A:Ad}{es:List n_}{M M1 M2:kD}{p c:Addr}{ns:List Int}{b:Nat}
theorem Oy{l c:List UInt8}{KU:Unit->CS->Prop}(hl:S p=some (.barr l))(hf:bN l.length)(e:c.length=l.length)(k:KU () (S.put p (.barr c))):pY (.ref p) none none (.bytes c) KU E S:=by exact⟨_,hl,⟨by decide,by decide⟩,aC (((by rfl):min (cA 0) l.length=0)) (⟨⟨eR _,aE7 e,hf⟩,UC (by rw[UB,rn,List.drop_length,lP]) k⟩)⟩
theorem Hd(h:gO S M)(F:EW M)(hs:0<=slot/\slot<=10)(k:K (.int (hZ M.num slot M.w)) S):aM (n+3) (.st 460) [.ref M.a,.int slot] K E S:=by
 refine aC (zF _ _ _) ?_;have hn:0<=M.num/\M.num<=5:=by rcases F.num with h|h<;>(first|exact o565 h|exact o566 h)
 exact fT (λl m q w P=>LG h F.cls (y8 h F.cls (sM (⟨aN _,aX.mpr (aB F.w.2 (by decide))⟩) (⟨hn.1,aG hn.2 (by decide)⟩) (⟨hs.1,aG hs.2 (by decide)⟩) (q _ _ ⟨S,CS.le_refl,k⟩))))
theorem Lq(h:gO S M)(e:M.cls=594)(hw:1<=M.w/\M.w<=17)(hm:M.most=3)(q:M.vals[1]?=some v)(c:bs.length=M.w)(k:K (.int 0) (S.put v.1 (.barr bs))):aM (n+3) (.st 565) [.ref M.a,.bytes [1,0,0,0],.bytes bs,.int 0] K E S:=by
 refine aC (vE _ _ _ _ _) ?_;have call:∀{x:Str}{g:Nat}{KM:CV×List CV->CS->Prop}{F:KP},dA x (Lg M)=none->dU 594 x=some g->KM (.st g,[.ref M.a]) S->dX (.ref M.a) x KM F S:=λh1 h2 k=>pM h.i h.f h1 (e▸h2) k;refine fT (λG u o C s=>call (g:=535) (by kernel_rfl) (by kernel_rfl) (eS (by kernel_rfl) ?_));show aM (n+1+1) (.st 535) [.ref M.a,.bytes [1,0,0,0]] _ _ S;refine aC (xr _ _ _) ?_;refine fT (λy P l O I=>call (g:=346) (by kernel_rfl) (by kernel_rfl) (eS (by kernel_rfl) ?_));show aM (n+1) (.st 346) [.ref M.a,.bytes [1,0,0,0]] _ _ S;refine aC (yD _ _ _) ?_;refine fT (λz X m W A=>dS (Ce (by unfold bN;decide) (ai1 h (.inl e) ?_)));refine Bd (AH (eB rfl ?_));refine cK rfl (HU (by unfold bN;decide) (m _ _ ⟨S,CS.le_refl,?_⟩));refine vK (by decide) (iZ (show BZ [1,0,0,0]=1 from rfl) (DI h (.inl e) (aC hm (Cw (fV rfl (l _ _ ⟨S,CS.le_refl,call (g:=353) (by kernel_rfl) (by kernel_rfl) (eS (by kernel_rfl) ?_)⟩))))));show aM (n+1+1) (.st 353) [.ref M.a,.bytes bs] _ _ S;refine aC (wC _ _ _) ?_;refine fT (λJ B p L U=>dS (Ce (by unfold bN;exact o48 hw c) (y8 h (.inl e) ?_)));refine Bd (AH (eB (congrArg _ (decide_eq_true (aD1 c))) (cK rfl ?_)));refine HU (by unfold bN;exact o48 hw c) (p _ _ ⟨S,CS.le_refl,fD (dP rfl) (fD (by decide) (dS (fD (dP rfl) (KZ (t:=true) rfl (by kernel_rfl) (eB rfl ?_)))))⟩);refine dS (cK rfl (Cw (eB rfl (dS (cK rfl (AH (eB rfl (cK rfl (call (g:=474) (by kernel_rfl) (by kernel_rfl) (cK rfl (call (g:=542) (by kernel_rfl) (by kernel_rfl) (cK rfl (cK rfl (eS (by kernel_rfl) ?_))))))))))))));show aM (n+1+1) (.st 542) [.ref M.a,.int 1,.int 0] _ _ S;refine aC (yF _ _ _ _) ?_;refine fT (λR Q i H N=>i _ _ ⟨S,CS.le_refl,?_⟩);refine cK rfl ?_;refine eS (by kernel_rfl) ?_;show aM (n+1+1) (.st 474) [.ref M.a,.int 1,.bytes bs] _ _ S;refine aC (Gj _ _ _ _) ?_;have look:pj 1 (lA 0 M.vals)=some (.ref v.1):=by
  refine aC (AM (by decide)) ?_;show(M.vals[1]?).map _=_;refine aC q ?_;rfl
 exact bX (h.b v (bG q)) λf r=>fT (λT D Y j w=>dS (sj h (.inl e) (an1 h.V (aC look (fV rfl (sj h (.inl e) (Dt h.V look (Oy f (o48 hw r) (aM9 r c) (j _ _ ⟨_,CS.le_refl,o _ _ ⟨_,CS.le_refl,k⟩⟩)))))))))
noncomputable def numsOf(w:Int):List Int:=[131072,131072+w,131072,0,0,0]
noncomputable def ctx(w:Int):List UInt8:=((numsOf w).map λx=>ud x 4).flatten
theorem za:∀l:List (List UInt8),vv (l.map lQ)=some l|[]=>rfl|a::r=>by show(vv (r.map lQ)).map _=_;refine aC (za r) ?_;rfl
theorem lt6(h:i<6):i=0\/i=1\/i=2\/i=3\/i=4\/i=5:=an8 h
theorem oC(w:Int):(ctx w).length=24:=rfl
theorem Cx(k:K (.bytes (ctx w)) S):aM (n+2) (.st 297) [.int w] K E S:=by
 refine aC (xm _ _) ?_;refine fT (λB C r D P=>?_);refine jA (fD (dP rfl) (om λq hq=>?_));have y:(S.put q (.list ((numsOf w).map .int))) q=some (.list ((numsOf w).map .int)):=aH;have l1:=aQ (o:=.list ((numsOf w).map .int)) hq;show((dX _ _).bind _) _ _ (S.put q (.list ((numsOf w).map .int)));generalize S.put q (.list ((numsOf w).map .int))=S1 at y l1|-;refine Jx (kC rfl (fD (by decide) (mQ (by assumption) (fD ⟨rfl,rfl⟩ (nr (qU (p:=q) (l:=(numsOf w).map eD)) (λi acc b=>acc=(((numsOf w).take i).map λx=>ud x 4).map lQ/\b=S1) (λa a a h=>by refine aC h.2 ?_;exact y) ⟨rfl,rfl⟩ ?_ ?_)))))
 · clear hq y;intro i acc b v hi q1_ s;refine bX q1_ λt T=>?_;clear q1_;obtain rfl:=t;obtain rfl:=T;have hi:i<6:=hi;have u:((numsOf w).map eD).getD i .none=.int (numsOf w)[i]:=by refine aC (aS) (aC (bE) (aC (aF hi) ?_));rfl
   refine aC u (fV rfl (Ew (w:=4) (by decide) (fD (by refine aC (aJ _) (aC (aJ _) (aC cH ?_));exact(aB (nv _ _) (aB (bK hi) (by decide)))) (s _ _ ⟨?_,rfl⟩))));refine aC (take_snoc hi) (aC bW (aC bW ?_));rfl
 · clear hq y;intro acc b q1_;refine bX q1_ λm A=>?_;clear q1_;obtain rfl:=m;obtain rfl:=A;refine aC (aJ _) (aC eU (om λz hz=>yh (an2 aH (za _) ⟨by refine aC (aJ _) (aC (aJ _) ?_);show 2<=6;decide,by show(ctx w).length<=100000;refine aC (oC _) ?_;decide⟩ ?_)));exact r _ _ ⟨S,CS.le_trans l1 (aQ hz),k⟩
theorem KA(k:∀m dm R b,S.le b->S m=none->S dm=none->S R=none->Me b ⟨m,dm,R,Mp,0,0⟩ []->K (.ref m) b):mG (aM (n+1)) 281 [.ref Mp] K E S:=by
 refine ZU (f:=198) (by kernel_rfl) (by decide) λd hd m hm=>bX (mJ hm) λT u=>?_;refine aC (Bb _ _ _) ?_;refine fT (λl s r w P=>?_);have U:((S.put d (.flds [])).put m (.inst 281 d)) m=some (.inst 281 d):=aH;have c:((S.put d (.flds [])).put m (.inst 281 d)) d=some (.flds []):=cC (eY u) aH;have l0:S.le ((S.put d (.flds [])).put m (.inst 281 d)):=hU (aQ hd) T;generalize(S.put d (.flds [])).put m (.inst 281 d)=S0 at U c l0|-;refine fD (dP rfl) (om λR J=>?_);have p:=aQ (o:=.list []) J;have F:(S0.put R (.list [])) R=some (.list []):=aH;have z:=p _ _ U;have f1:=p _ _ c;have l1:=CS.le_trans l0 p;generalize S0.put R (.list [])=S1 at F z f1 l1|-;refine sX (i:=1) z f1 (by kernel_rfl) (by kernel_rfl) (by decide) (IC (eB rfl (sX (i:=1) (cC u z) aH (by kernel_rfl) (by kernel_rfl) (by show 1<=100;decide) (aC pQ (w _ _ ⟨_,CS.le_refl,k m d R _ (hU l1 hd) T hd (jQ l0 J) ⟨cC u z,aC aH (congrArg some (congrArg CO.flds ?_)),cC (λq=>by exact absurd (c▸q▸J) nofun:R≠d) F,(λe he=>by contradiction),⟨Cd,(λe he=>by contradiction)⟩,eR _⟩⟩)))));kernel_rfl
theorem wm(W:Me S A es)(X:kX S r d o g)(hl:∀e∈es,e.g.base+(e.g.oc.length:Int)<g.base)(hx:16<=g.base/\g.base+(g.oc.length:Int)<=16776976/\g.oc.length<=600)(few:es.length<=59)(k:∀c,(∀x y,x≠A.R->S x=some y->c x=some y)->Me c A (es++[⟨r,d,o,l,g⟩])->K .none c):aM (n+2) (.st 205) [.ref A.m,.ref r] K E S:=by
 refine UW W X ((aB hx.2.2 (by decide))) (λh=>absurd (λe he=>.inl (hl e he)) h) λp i h1 h2 h3=>?_;have j:i=es.length:=by
   rcases oQ h1 with h|h
   · have h4:=h3 i es[i] (bM _) (aF h);exact(absurd (fE (hl es[i] (dB h)) h4) (iW.mpr (bZ (aN _))))
   ·exact h
 refine aC j ?_;have e1:(es.map λe=>dG e.r).take es.length++dG r::(es.map λe=>dG e.r).drop es.length=(es++[(⟨r,d,o,l,g⟩:n_)]).map λe=>dG e.r:=by rw[dE (by rw[aJ];exact bM _),FR (by rw[aJ];exact bM _),bW];rfl
 refine e1▸?_;have ne:∀{x:Addr}{y:CO},S x=some y->(∀l,y≠.list l)->(S.put A.R (.list ((es++[(⟨r,d,o,l,g⟩:n_)]).map λe=>dG e.r))) x=some y:=λ{x y}e h=>cC (λq=>by obtain rfl:=aE (W.mR▸q▸e);exact h _ rfl) e;refine k _ (λx y hx e=>cC hx e) ⟨ne W.mi (by simp),ne W.mf (by simp),aH,λe he=>?_,⟨?_,λe he=>?_⟩,by refine aC fB ?_;exact aj3 few⟩
 · have f:∀{x:Addr}{y:CO},S x=some y->(∀l,y≠.list l)->(S.put A.R (.list ((es++[(⟨r,d,o,l,g⟩:n_)]).map λe=>dG e.r))) x=some y:=ne;rcases gH.mp he with he|he;·exact⟨f (W.ents e he).i (by simp),f (W.ents e he).f (by simp),f (W.ents e he).o (by simp)⟩
   · rw[fO]at he;subst he;exact⟨f X.i (by simp),f X.f (by simp),f X.o (by simp)⟩
 · refine qP nQ ⟨W.ok.apart,List.pairwise_singleton _ _,λa ha b m=>?_⟩;rw[fO]at m;subst m;exact hl a ha
 · rcases gH.mp he with he|he;·exact W.ok.each e he
   · replace he:=fO.mp he;subst he;exact hx
end
section
variable{n:Nat}{K:KP}{E:KP}{S:CS}{A:Ad}{es:List n_}{M M1 M2:kD}{p c:Addr}{ns:List Int}{b:Nat}
theorem Io(h:S.le S1)(J:S R=none)(k:∀x y,x≠R->S1 x=some y->S' x=some y):S.le S':=λx y e=>k x y (λq=>by exact iH (J▸q▸e)) (h x y e)
noncomputable abbrev vd(w:Int):Reg:=⟨aD "context",65536,ctx w,false⟩
noncomputable abbrev Hk(pk:List UInt8):Reg:=⟨aD "packet",131072,pk,true⟩
noncomputable abbrev Jb(u:UInt8):Reg:=⟨vA 0,262144,bH 512 u,true⟩
theorem DX(hp:pk.length<=20)(k:∀m dm R F d1 o1 I d2 o2 z d3 o3 d,S.le d->S R=none->S o1=none->S o2=none->S o3=none->[o1,o2,o3].Nodup->Me d ⟨m,dm,R,Mp,0,0⟩ [⟨F,d1,o1,0,vd pk.length⟩,⟨I,d2,o2,0,Hk pk⟩,⟨z,d3,o3,0,Jb u⟩]->K (.ref m) d):aM (n+5) (.st 304) [.bytes pk,.ref Mp,.int u.toNat] K E S:=by
 refine aC (B4 _ _ _ _) ?_;refine fT (λK_ E_ rK nK eK=>KA λm dm R B l1 hm p J P=>?_);refine pM (g:=205) P.mi P.mf (by kernel_rfl) (by kernel_rfl) (Ce (o5 hp) (Cx (K7 (by refine aC (oC _) ?_;unfold bN;decide) λo1 b=>?_)));have l2:=aQ (o:=.barr (ctx pk.length)) b;have w:(B.put o1 (.barr (ctx pk.length))) o1=some (.barr (ctx pk.length)):=aH;generalize B.put o1 (.barr (ctx pk.length))=S2 at l2 w|-;refine uT (g:=vd pk.length) w λF d1 S3 v a a N=>?_;have y:(65536:Int)+((ctx pk.length).length:Int)<=16776976:=by refine aC (oC _) ?_;decide
 refine eS (by kernel_rfl) ?_;have hh:=λK E=>wm (n:=n+2) (K:=K) (E:=E) (l:=0) ((P.le l2).le v) N;refine(hh _ _ (λe he=>by cases he) ⟨by show 16<=(65536:Int);decide,y,by refine aC (oC _) ?_;decide⟩ (by decide) λT L C=>?_);refine pM (g:=205) C.mi C.mf (by kernel_rfl) (by kernel_rfl) (K7 (o5 hp) λo2 i=>?_);have r:o1≠o2:=λq=>by
   have:=(C.ents ⟨F,d1,o1,0,vd pk.length⟩ (.head _)).o;have:T o1=some (.barr (ctx pk.length)):=this;exact iH (i▸q▸this)
 have Y:=aQ (o:=.barr pk) i;have c:(T.put o2 (.barr pk)) o2=some (.barr pk):=aH;generalize T.put o2 (.barr pk)=S5 at Y c|-;refine uT (g:=Hk pk) c λI d2 S6 s a a O=>eS (by kernel_rfl) (((λK E=>wm (n:=n+2) (K:=K) (E:=E) (l:=0) ((C.le Y).le s) O) _ _ (λe he=>?_) ⟨by show 16<=(131072:Int);decide,aK3 hp,(aB hp (by decide))⟩ (by show 1<=59;decide) λG U D=>?_))
 · have:e=⟨F,d1,o1,0,vd pk.length⟩:=by simpa using he
   refine aC this ?_;show(65536:Int)+((ctx pk.length).length:Int)<131072;refine aC (oC _) ?_;decide
 have W:=Io (CS.le_trans (Io (CS.le_trans l1 (CS.le_trans l2 v)) J L) (CS.le_trans Y s)) J U;refine pM (g:=205) D.mi D.mf (by kernel_rfl) (by kernel_rfl) (yZ (f:=0) (by decide) λz d3 o3 X A a h Z=>?_);have Z:kX X z d3 o3 (Jb u):=Z;have x:o1≠o3:=λq=>by
   have:G o1=some (.barr (ctx pk.length)):=(D.ents ⟨F,d1,o1,0,vd pk.length⟩ (.head _)).o;exact iH (h▸q▸this)
 have t:o2≠o3:=λq=>by
   have:G o2=some (.barr pk):=(D.ents ⟨I,d2,o2,0,Hk pk⟩ (by simp)).o;exact iH (h▸q▸this)
 refine eS (by kernel_rfl) (((λK E=>wm (n:=n+2) (K:=K) (E:=E) (l:=0) (D.le A) Z) _ _ (λe he=>?_) ⟨by show 16<=(262144:Int);decide,by show 262144+((bH 512 u).length:Int)<=_;refine aC hW ?_;decide,by refine aC hW ?_;decide⟩ (by show 2<=59;decide) λQ H W9=>?_))
 · have:e=⟨F,d1,o1,0,vd pk.length⟩\/e=⟨I,d2,o2,0,Hk pk⟩:=by simpa using he
   clear hm p P w a N y hh C Y c s O U D Z he;rcases this with rfl|rfl
   · show(65536:Int)+((ctx pk.length).length:Int)<262144;refine aC (oC _) ?_;decide
   · show(131072:Int)+(pk.length:Int)<262144;exact aJ9 hp
 have j:=Io (CS.le_trans W A) J H;refine rK _ _ ⟨Q,CS.le_refl,k m dm R F d1 o1 I d2 o2 z d3 o3 Q j J (jQ l1 b) (jQ (Io (CS.le_trans l1 (CS.le_trans l2 v)) J L) i) (jQ W h) (by simp[r,x,t]) W9⟩
end
section
variable{n:Nat}{K:KP}{E:KP}{S:CS}{A:Ad}{es:List n_}{M M1 M2:kD}{p c:Addr}{ns:List Int}{b:Nat}
theorem u7{α β γ δ:Type}{a b c d e f:α->β->γ->δ->Prop}{G:Prop}(h:∃x y z w,a x y z w/\b x y z w/\c x y z w/\d x y z w/\e x y z w/\f x y z w)(k:∀x y z w,a x y z w->b x y z w->c x y z w->d x y z w->e x y z w->f x y z w->G):G:=by
 refine vj h λx y z w h1 h2 h3 h4 h5 h6=>?_;clear h;exact k x y z w h1 h2 h3 h4 h5 h6
theorem j_.ne(P:j_ S p c ns b)(h:∀{x:Addr}{l:List CV},S x=some (.list l)->S' x=some (.list l)):j_ S' p c ns b:=⟨by refine eJ P.ex λs g e r=>?_;exact⟨s,g,h e,r⟩,h P.cells,P.few⟩
structure St(S:CS)(m wd a1:Addr)(w1:Nat)(p c cp co cm:Addr)(cnt B:Nat):Prop where
 ex:∃A es M1 M2,Wo S A es M1 M2/\A.m=m/\A.w=wd/\M1.a=a1/\M1.w=w1/\es.length<=cnt
 pen:∃ns,j_ S p c ns B
 c1:S cp=some (.cell (some (.ref p)))c2:S co=some (.cell (some (.ref a1)))c3:S cm=some (.cell (some (.ref m)))
section
variable{m wd a1 cp co cm:Addr}{w1 cnt B:Nat}
theorem St.af(T:St S m wd a1 w1 p c cp co cm cnt B)(W:Wo S A es M1 M2)(h1:A.m=m)(h2:A.w=wd)(h3:M1.a=a1)(h4:M1.w=w1)(h5:es.length<=cnt){b:CS}(F:Af S A es M1 M2 p c ns B b):St b m wd a1 w1 p c cp co cm (cnt+1) (B+100):=by exact u7 F.ex λv Q u k l e1 o U I n=>⟨⟨v,Q,u,k,l,e1.trans h1,o.trans h2,U.trans h3,I.trans h4,(aB n (nY h5))⟩,F.pen,F.cl _ _ T.c1,F.cl _ _ T.c2,F.cl _ _ T.c3⟩
theorem St.up(T:St S m wd a1 w1 p c cp co cm cnt B){j U:Nat}(h:cnt<=j)(h':B<=U):St S m wd a1 w1 p c cp co cm j U:=by exact u7 T.ex λA es M1 M2 W e1 o X I n=>bD T.pen λns P=>⟨⟨A,es,M1,M2,W,e1,o,X,I,(aB n h)⟩,⟨ns,P.up h'⟩,T.c1,T.c2,T.c3⟩
theorem St.draw{many:Int}(T:St S m wd a1 w1 p c cp co cm cnt B)(e:B<=90000)(hm:0<many/\many<=BIG)(k:∀d b,0<=d->d<many->St b m wd a1 w1 p c cp co cm cnt (B+1)->K (.int d) b):aM (n+1) (.st 651) [.ref p,.int many] K E S:=by exact u7 T.ex λA es M1 M2 W e1 q U I o=>bD T.pen λns P=>nT P (at0 e) hm λd b h1 h2 J D=>k d b h1 h2 ⟨⟨A,es,M1,M2,W.pn D,e1,q,U,I,o⟩,⟨ns,J⟩,D _ _ rfl T.c1,D _ _ rfl T.c2,D _ _ rfl T.c3⟩
theorem St.added(T:St S m wd a1 w1 p c cp co cm cnt B)(d:B<=90000)(few:cnt<=59)(k:∀b,St b m wd a1 w1 p c cp co cm (cnt+1) (B+100)->K (.bool true) b):aM (n+8) (.st 701) [.ref p,.ref m,.ref wd] K E S:=by exact u7 T.ex λA es M1 M2 W e1 q U I o=>bD T.pen λns P=>iZ e1 (iZ q (NQ W P d (aB o few) λb F=>k b (T.af W e1 q U I o F)))
theorem St.dropped(T:St S m wd a1 w1 p c cp co cm cnt B)(d:B<=90000)(k:∀b,St b m wd a1 w1 p c cp co cm (cnt+1) (B+100)->K (.bool true) b):aM (n+5) (.st 706) [.ref p,.ref m,.ref wd] K E S:=by exact u7 T.ex λA es M1 M2 W e1 o U I q=>bD T.pen λns P=>iZ e1 (iZ o (Js W P d λb F=>k b (T.af W e1 o U I q F)))
theorem St.read(T:St S m wd a1 w1 p c cp co cm cnt B)(d:B<=90000)(k:∀b,St b m wd a1 w1 p c cp co cm (cnt+1) (B+100)->K (.bool true) b):aM (n+10) (.st 711) [.ref p,.ref m,.ref wd] K E S:=by exact u7 T.ex λA es M1 M2 W e1 o U I q=>bD T.pen λns P=>iZ e1 (iZ o (CL W P d λb F=>k b (T.af W e1 o U I q F)))
theorem St.written(T:St S m wd a1 w1 p c cp co cm cnt B)(d:B<=90000)(k:∀b,St b m wd a1 w1 p c cp co cm (cnt+1) (B+100)->K (.bool true) b):aM (n+10) (.st 716) [.ref p,.ref m,.ref wd] K E S:=by exact u7 T.ex λA es M1 M2 W e1 o U I q=>bD T.pen λns P=>iZ e1 (iZ o (zv W P d λb F=>k b (T.af W e1 o U I q F)))
theorem St.said(T:St S m wd a1 w1 p c cp co cm cnt B)(d:B<=90000)(k:∀b,St b m wd a1 w1 p c cp co cm (cnt+1) (B+100)->K (.bool true) b):aM (n+10) (.st 721) [.ref p,.ref wd] K E S:=by exact u7 T.ex λA es M1 M2 W e1 o U I q=>bD T.pen λns P=>iZ (o) (Dy W P d λb F=>k b (T.af W e1 o U I q F))
theorem Lc{m:Internal.M Bool}{g:cN->Internal.M fZ}{vs:cN}{K:fZ->CS->Prop}(P:CS->Prop)(h:∀u:Bool->CS->Prop,(∀{S'},P S'->u false S')->m u E S)(k:∀{S'},P S'->g vs K E S'):gF (m.bind λt=>Internal.M.br t (Internal.M.pure (.ret (.bool false))) (Internal.M.pure (.next vs))) g K E S:=h _ λp=>eB rfl (k p)
theorem as1{a b c:Int}{f:Bool->Internal.M Bool}{Q:Bool->CS->Prop}(h1:a=b\/a=c->f true Q E S)(h2:¬(a=b\/a=c)->f false Q E S):(cY .In (.int a) (.tup [.int b,.int c])).bind f Q E S:=by
 by_cases h:a=b\/a=c
 · refine KZ rfl ?_ (h1 h);rcases h with h|h<;>cases h;·exact congrArg (λt=>some (t||_)) (decide_eq_true rfl)
   ·exact(congrArg (λt=>some (_||(t||false))) (decide_eq_true rfl)).trans (congrArg some (FP _))
 ·refine KZ rfl (congrArg some (by refine aC (decide_eq_false λq=>h (.inl q.symm)) (aC (decide_eq_false λq=>h (.inr q.symm)) ?_);rfl)) (h2 h)
theorem q1_{a t:Int}(h:¬a=t)(l:a<t+1):a<t:=Int.lt_iff_le_and_ne.mpr ⟨Int.lt_add_one_iff.mp l,h⟩
theorem q2_{a t:Int}(h:¬(a=t\/a=t+1))(l:a<t+1+1):a<t:=q1_ (λq=>h (.inl q)) (q1_ (λq=>h (.inr q)) l)
theorem q3_{a t u:Int}(h:a=t\/a=t+1)(l:t+1<u):a<u:=h.elim (λq=>q▸fE (Int.lt_add_one_iff.mpr (pD t)) l) λq=>q▸l
theorem q4_{a t:Int}(h:a=t\/a=t+1):¬a<t:=h.elim (λq=>q▸tA _) λq=>q▸iW.mpr (Int.le_add_one (pD _))
theorem KE{b:Int}{w:CV}{vs:cN}{i:Nat}{K:fZ->CS->Prop}(h1:(qd (.int b) w vs)[1]?=some (some (.ref cp)))(o:(qd (.int b) w vs)[8]?=some (some (.ref cm)))(j:(qd (.int b) w vs)[11]?=some (some (.ref wd)))(v:(qd (.int b) w vs)[12]?=some (some (.int b)))(d:400+110*i<=80000)(few:3+i<=59)(hy:b<8)(T:St S m wd a1 w1 p c cp co cm (3+i) (400+110*i+1))(k:∀e,St e m wd a1 w1 p c cp co cm (3+(i+1)) (400+110*(i+1))->K (.next (qd (.int b) w vs)) e):Iw (aM (n+11)) w vs (.int b) K E S:=by
 obtain⟨P,x,ask,put,pass,fin⟩:∃P:Int->CS->Prop,(∀{t S},¬b<t->St S m wd a1 w1 p c cp co cm (3+i) (400+110*i+1)->P t S)/\(∀{t S},P t S->¬b<t->St S m wd a1 w1 p c cp co cm (3+i) (400+110*i+1))/\(∀{t S},b<t->St S m wd a1 w1 p c cp co cm (3+(i+1)) (400+110*(i+1))->P t S)/\(∀{s t S},s<=t->(b<t->b<s)->P s S->P t S)/\(∀{t S},b<t->P t S->St S m wd a1 w1 p c cp co cm (3+(i+1)) (400+110*(i+1))):=⟨λt S=>(b<t->St S m wd a1 w1 p c cp co cm (3+(i+1)) (400+110*(i+1)))/\(¬b<t->St S m wd a1 w1 p c cp co cm (3+i) (400+110*i+1)),λh T=>⟨λq=>(h q).elim,λa=>T⟩,λp=>p.2,λh T=>⟨λa=>T,λn=>(n h).elim⟩,λl h p=>⟨λq=>p.1 (h q),λq=>p.2 λr=>q (aT r l)⟩,λh p=>p.1 h⟩;refine Lc (P 2) (λu q=>cK v (Cw ?_)) λp=>?_
 · by_cases h:b<2;·exact fV (decide_eq_true h) (tT h1 T.c1 (tT o T.c3 (cK j (T.added (o9 d) few λz T=>qw (eB rfl (q (put h (T.up o8 o25))))))))
   ·exact eB (decide_eq_false h) (q (x h T))
 refine Lc (P 3) (λu q=>cK v (AH ?_)) λp=>?_
 · by_cases h:b=2
   · have T:=ask p (h▸tA _);have h':b<3:=h▸by decide
     exact fV (decide_eq_true h) (tT h1 T.c1 (T.draw (o9 d) ⟨by decide,by decide⟩ λd3 z a a T=>AH (Fk (λa=>tT h1 T.c1 (tT o T.c3 (cK j (T.dropped (aB (eE d 2) (by decide)) λR T=>qw (eB rfl (q (put h' (T.up o8 ap3)))))))) λa=>q (put h' (T.up (m_ _) (aB (eI _ _) ap3))))))
   ·exact eB (decide_eq_false h) (q (pass (by decide) (q1_ h) p))
 refine Lc (P 5) (λu q=>cK v (fD (dP rfl) (as1 (λh=>?_) λh=>eB rfl (q (pass (by decide) (q2_ h) p))))) λp=>?_
 · have T:=ask p (q4_ h);exact fV rfl (tT h1 T.c1 (tT o T.c3 (cK j (T.read (o9 d) λz T=>qw (eB rfl (q (put (q3_ h (by decide)) (T.up o8 o25))))))))
 refine Lc (P 7) (λu q=>cK v (fD (dP rfl) (as1 (λh=>?_) λh=>eB rfl (q (pass (by decide) (q2_ h) p))))) λp=>?_
 · have T:=ask p (q4_ h);exact fV rfl (tT h1 T.c1 (tT o T.c3 (cK j (T.written (o9 d) λz T=>qw (eB rfl (q (put (q3_ h (by decide)) (T.up o8 o25))))))))
 refine Lc (P 8) (λu q=>cK v (AH ?_)) λp=>k _ (fin hy p);by_cases h:b=7
 · have T:=ask p (h▸tA _);exact fV (decide_eq_true h) (tT h1 T.c1 (cK j (T.said (o9 d) λz T=>qw (eB rfl (q (put hy (T.up o8 o25)))))))
 ·exact eB (decide_eq_false h) (q (pass (by decide) (q1_ h) p))
end
theorem KJ(l:List n_):vf (yz 3) (l.map λe=>rB e.g) (l.map λe=>rB e.g)=some true:=by induction l with|nil=>rfl|cons a r j=>exact rb aa6 j
theorem Jf(l:List (List UInt8)):vf (yz 4) (l.map lQ) (l.map lQ)=some true:=by induction l with|nil=>rfl|cons a r j=>exact rb cB j
theorem av4(hns:ns0.length<=63)(k:∀w,K (.bool true) w):aM (n+12) (.st 726) [.script ns0] K E S:=by
 refine aC (Wv _ _) ?_;refine qt (λK_ E_ rK eK=>at9 λcp co cm S1 H l1=>?_);refine am8 hns λp c S2 l2 P2=>?_;generalize s2:ns0.take 40=ns at P2;clear s2;have H:=H.to (cR l2);refine CB (i:=2) rfl H rfl λS3 H q=>?_;have P3:=P2.nc q;clear P2 q l1 l2;refine kC rfl (fD (by decide) ?_);have H:jK S S3 [(cm,none),(co,none),(cp,some (.ref p))]:=H;refine nG (i:=2) rfl H rfl (nT P3 (eR _) ⟨by decide,by decide⟩ λdk S4 h1 h2 P4 D=>?_);have H:=H.to D;clear P3 D;refine iK (⟨dk.toNat,((mH h1).symm)⟩:∃kp:Nat,dk=kp) λkp e2x=>?_;obtain rfl:=e2x;refine qQ (ag9 h2) (qR (ag9 h2) (fD ⟨rfl,rfl⟩ (nr (ur (n:=kp)) (λi acc w=>∃oc:List UInt8,oc.length=i/\acc=mC oc/\j_ w p c ns (1+i)/\jK S w [(cm,none),(co,none),(cp,some (.ref p))]) (λy y y y=>trivial) ⟨[],rfl,rfl,P4,H⟩ ?_ ?_)))
 · intro i acc w K' hi q1_ F;refine gA q1_ λoc i0 s4 l3=>?_;clear q1_;obtain rfl:=s4;refine bX l3 λP' H'=>?_;clear l3;refine fV rfl (nG (i:=2) rfl H' rfl (nT P' (aB (bU (bK (rU hi (bV.mp h2))) 1) (by decide)) ⟨by decide,by decide⟩ λd S'' m1 l8 n9 D=>fD (by refine aC cW ?_;exact aW3 h2 hi i0) ?_));exact F _ _ ⟨oc++[kF d.toNat],by refine aC fB (aC i0 ?_);rfl,AB ⟨m1,l8⟩,n9,H'.to D⟩
 intro acc S5 q1_;refine gA q1_ λJ g7 x4 k9=>?_;clear q1_;obtain rfl:=x4;refine bX k9 λP5 H=>?_;clear k9;clear P4;refine om λlp r0=>?_;have Y:(S5.put lp (.list (mC J))) lp=some (.list (mC J)):=aH;have l6:=aQ (o:=.list (mC J)) r0;have P6:=P5.le l6;have H:=H.to (cR l6);generalize S5.put lp (.list (mC J))=S6 at Y P6 H|-;clear P5 l6 r0;refine nG (i:=2) rfl H rfl (nT P6 (aN4 h2) ⟨by decide,by decide⟩ λfi S7 hf1 hf2 P7 D=>?_);have H:=H.to D;have Y:=D _ _ pU Y;clear P6 D;refine iK (⟨kF fi.toNat,(C_ ⟨hf1,hf2⟩).symm⟩:∃u:UInt8,fi=u.toNat) λu m4=>?_;obtain rfl:=m4;refine fD (dP rfl) (fD (by decide) (nG (i:=2) rfl H rfl (nT P7 (aT5 h2) ⟨by decide,by decide⟩ λdw S8 x1 f8 P8 D=>?_)));have H:=H.to D;have Y:=D _ _ pU Y;clear P7 D;refine iK (⟨(1+dw).toNat,((mH (eM (by decide) x1)).symm)⟩:∃w1:Nat,1+dw=w1) λw1 hw=>jA (aC hw ?_);have hw:1<=w1/\w1<=17:=aO1 hw x1 f8;refine LC (cnt:=3) (.inl ⟨rfl,rfl,rfl,rfl,rfl⟩) hw λM1 S9 l9 s f4 j4 c5 y5 h9 m1f g5=>?_;have P9:=P8.le l9;have H:=H.to (cR l9);have Y:=l9 _ _ Y;clear P8;refine nG (i:=2) rfl H rfl (fD (dP rfl) (om λq2 m6=>sO (P9.le (aQ m6)) (aG6 h2) aH (by simp) rfl λv S10 hv u8 D=>?_));obtain⟨w2,rfl,f8⟩:∃w2:Nat,v=.int w2/\1<=w2/\w2<=17:=by
   simp only[a_,cG,or_false]at hv;rcases hv with rfl|rfl|rfl;·exact⟨8,rfl,by decide⟩
   ·exact⟨4,rfl,by decide⟩
   ·exact⟨7,rfl,by decide⟩
 have D:=(cR (aQ (o:=.list [.int 8,.int 4,.int 7]) m6)).trans D;have H:=H.to D;have Y:=D _ _ pU Y;have s:=s.pn D;clear P9 D hv m6;refine LC (cnt:=4) (.inr ⟨rfl,rfl,rfl,rfl,rfl⟩) f8 λM2 S11 g8 r m2c m2n p2 m2m m2l p7 s7=>?_;have y3:=u8.le g8;have H:=H.to (cR g8);have Y:=g8 _ _ Y;have h8:∀a∈M1.vals.map (·.1),∀b∈M2.vals.map (·.1),a≠b:=λa ha b hb q=>by
   refine aY (bR.mp ha) λv hv r5=>?_;obtain rfl:=r5;refine aY (bR.mp hb) λu hu w9=>?_;obtain rfl:=w9;have:=p7 u hu;replace this:=((s.b v hv).1)▸(kU q▸this);cases this
 have s:gO S11 M1:=s.pn (cR g8);clear u8 p7;refine fD (dP rfl) (fD (by decide) (CB (i:=1) rfl H rfl λq1 H q=>?_));have q6:=y3.nc q;have Y:=q _ _ rfl Y;have s:=s.nc q;have r:=r.nc q;clear y3 q l9 g8 m1f;have H:jK S q1 [(cm,none),(co,some (.ref M1.a)),(cp,some (.ref p))]:=H;refine nG (i:=1) rfl H rfl (pM (g:=565) s.i s.f (by kernel_rfl) (by refine aC f4 ?_;kernel_rfl) ?_);refine kC rfl (fD (by decide) (nG (i:=1) rfl H rfl (y8 s (.inl f4) (aC c5 (qQ (au5 hw) (qR (au5 hw) (fD ⟨rfl,rfl⟩ (nr (ur (n:=w1)) (λi acc w=>∃oc:List UInt8,oc.length=i/\acc=mC oc/\j_ w p c ns (40+i)/\Pn q1 w) (λy y y y=>trivial) ⟨[],rfl,rfl,q6.up (aB8 h2),Pn.refl⟩ ?_ ?_))))))))
 · intro i acc w K' hi q1_ F;refine gA q1_ λoc i0 t5 l7=>?_;clear q1_;obtain rfl:=t5;refine bX l7 λP' D'=>?_;clear l7;refine fV rfl (nG (i:=2) rfl (H.to D') rfl (nT P' (aB (bU (bK (aV hi hw.2)) 40) (by decide)) ⟨by decide,by decide⟩ λd S'' m1 l8 n9 D=>fD (by refine aC cW ?_;unfold bN;exact aM6 hw hi i0) ?_));exact F _ _ ⟨oc++[kF d.toNat],by refine aC fB (aC i0 ?_);rfl,AB ⟨m1,l8⟩,n9,D'.trans D⟩
 intro acc S13 q1_;refine gA q1_ λbs j2 x6 k8=>?_;clear q1_;obtain rfl:=x6;refine bX k8 λp6 D=>?_;clear k8;have H:=H.to D;have Y:=D _ _ pU Y;have s:=s.pn D;have r:=r.pn D;clear q6 D;refine om λz hz=>?_;have X:=aQ (o:=.list (mC bs)) hz;refine qZ aH (by refine aC cW ?_;unfold bN;exact o48 hw j2) (kO _) (by unfold bN;exact o48 hw j2) ?_;have H:=H.to (cR X);have Y:=X _ _ Y;have s:=s.pn (cR X);have r:=r.pn (cR X);have p0:=p6.le X;generalize S13.put z (.list (mC bs))=S14 at H Y s r p0|-;clear p6 X hz;have f0:M1.vals[1]?=some M1.vals[1]:=aF (aV (by decide) (bA h9.symm));generalize M1.vals[1]=v1 at f0;refine eS (by kernel_rfl) (Lq s f4 (by refine aC c5 ?_;exact hw) y5 f0 (by refine aC c5 ?_;exact j2) ?_);have v0:=(s.b v1 (bG f0)).1;have ho:(S14.put v1.1 (.barr bs)) v1.1=some (.barr bs):=aH;have ne:∀{a:Addr}{o:CO},S14 a=some o->(∀l,o≠.barr l)->(S14.put v1.1 (.barr bs)) a=some o:=λ{a o}e h1=>cC (λq=>by obtain rfl:=aE (v0▸q▸e);exact h1 _ rfl) e;have j6:∀{a:Addr}{l:List UInt8},S14 a=some (.barr l)->a≠v1.1->(S14.put v1.1 (.barr bs)) a=some (.barr l):=λ{a l}e h=>cC h e;generalize S14.put v1.1 (.barr bs)=S15 at ho ne j6|-;have vm:v1.1∈M1.vals.map (·.1):=bR.mpr ⟨v1,bG f0,rfl⟩;have C:gO S15 (setV M1 1 v1.1 bs):=s.wrote f0 g5 (by refine aC c5 ?_;exact j2) ne j6 ho;have r:gO S15 M2:=⟨ne r.i (by simp),ne r.f (by simp),ne r.V (by simp),λu hu=>⟨j6 (r.b u hu).1 λq=>h8 _ vm _ (bR.mpr ⟨u,hu,rfl⟩) q.symm,(r.b u hu).2⟩⟩;have P15:j_ S15 p c ns (40+w1):=p0.ne λe=>ne e (by simp);have Y:=ne Y (by simp);have c1:S15 cp=some (.cell (some (.ref p))):=ne (H.at_ 2 rfl) (by simp);have c2:S15 co=some (.cell (some (.ref M1.a))):=ne (H.at_ 1 rfl) (by simp);have c3:S15 cm=some (.cell none):=ne (H.at_ 0 rfl) (by simp);have k1:(setV M1 1 v1.1 bs).vals.map (·.1)=M1.vals.map (·.1):=AI f0;rw[<-k1]at g5 h8;have a1:(setV M1 1 v1.1 bs).a=M1.a:=rfl;have a2:(setV M1 1 v1.1 bs).w=M1.w:=rfl;have a3:(setV M1 1 v1.1 bs).cls=M1.cls:=rfl;have a4:(setV M1 1 v1.1 bs).num=M1.num:=rfl;have a5:(setV M1 1 v1.1 bs).vals.length=M1.vals.length:=Bu;replace c2:=kU a1▸c2;replace c5:=kU a2▸c5;replace f4:=kU a3▸f4;replace j4:=kU a4▸j4;replace h9:=kU a5▸h9;generalize setV M1 1 v1.1 bs=N1 at C g5 h8 c2 c5 f4 j4 h9|-;clear s f0 v0 ho ne j6 vm p0 k1 a1 a2 a3 a4 a5 H y5;refine tT rfl (by assumption) (cK rfl (fD (by decide) (om λMp z7=>?_)));have lM:=aQ (o:=.idict [((0:Int),.ref N1.a),(5,.ref M2.a)]) z7;have xM:(S15.put Mp (.idict [((0:Int),.ref N1.a),(5,.ref M2.a)])) Mp=some (.idict [((0:Int),.ref N1.a),(5,.ref M2.a)]):=aH;generalize S15.put Mp (.idict [((0:Int),.ref N1.a),(5,.ref M2.a)])=S16 at lM xM|-;refine cK rfl (qZ (lM _ _ Y) (by refine aC cW ?_;exact o26 h2 g7) (kO _) (o26 h2 g7) ?_);refine cK rfl (cK rfl (DX (bK (aV (aZ (bA g7) (bV.mp h2)) (by decide))) λm dm R r1 d1 o1 r2 d2 o2 r3 d3 o3 f6 O hR0 f1 f2 f3 u3 e9=>?_));have xM:=O _ _ xM;have fb:∀{x:Addr},S16 x=none->∀{N:kD},gO S15 N->x∉N.vals.map (·.1):=λ{x}hx{N}hN hm=>by
   refine aY (bR.mp hm) λv hv s8=>?_;obtain rfl:=s8;exact iH (hx.symm.trans (lM _ _ (hN.b v hv).1))
 have nb:([o1,o2,o3]++(N1.vals.map (·.1)++M2.vals.map (·.1))).Nodup:=by
   refine qP lW (qP lW (⟨u3,⟨g5,s7,h8⟩,λa ha b hb q=>?_⟩));have hS:S16 a=none:=by
     simp only[a_,cG,or_false]at ha;rcases ha with rfl|rfl|rfl;·exact f1
     ·exact f2
     ·exact f3
   replace hS:=q▸hS;rcases gH.mp hb with h|h;·exact fb hS C h
   ·exact fb hS r h
 have O:=CS.le_trans lM O;have k6:=O _ _ Y;have l4:=O _ _ c1;have k5:=O _ _ c2;have e6:=O _ _ c3;have C:=C.pn (cR O);have r:=r.pn (cR O);have x5:=P15.le O;have R1:R≠lp:=λq=>by exact absurd ((lM _ _ Y)▸q▸hR0) nofun
 refine I4 (by rfl) e6 ?_;have Z:Nc f6 (f6.put cm (.cell (some (.ref m)))):=λa x hx e=>oG e6 e (by rintro rfl;cases hx);have i1:(f6.put cm (.cell (some (.ref m)))) cp=some (.cell (some (.ref p))):=oG e6 l4 (by simp);have j0:(f6.put cm (.cell (some (.ref m)))) co=some (.cell (some (.ref N1.a))):=oG e6 k5 (by simp);have g6:(f6.put cm (.cell (some (.ref m)))) cm=some (.cell (some (.ref m))):=aH;generalize f6.put cm (.cell (some (.ref m)))=S18 at Z i1 j0 g6|-;have g9:Me S18 ⟨m,dm,R,Mp,0,0⟩ [⟨r1,d1,o1,0,vd J.length⟩,⟨r2,d2,o2,0,Hk J⟩,⟨r3,d3,o3,0,Jb u⟩]:=⟨Z _ _ rfl e9.mi,Z _ _ rfl e9.mf,Z _ _ rfl e9.mR,λe he=>(e9.ents e he).nc Z,e9.ok,e9.few⟩;have e2:=Z _ _ rfl k6;have xM:=Z _ _ rfl xM;have C:=C.nc Z;have r:=r.nc Z;have s6:=x5.nc Z;clear l4 k5 e6 e9 k6 x5 Z;refine cK rfl (qX e2 (by refine aC cW ?_;exact o26 h2 g7) ?_);refine aC cW (jA (fD (dP rfl) (om λen x3=>?_)));have xe:(S18.put en (.list ((numsOf J.length).map .int))) en=some (.list ((numsOf J.length).map .int)):=aH;have i8:=aQ (o:=.list ((numsOf J.length).map .int)) x3;show((iG _).bind _) _ _ (S18.put en (.list ((numsOf J.length).map .int)));generalize S18.put en (.list ((numsOf J.length).map .int))=S19 at xe i8|-;refine kC rfl (fD (by decide) (cK rfl (mQ (by assumption) (fD ⟨rfl,rfl⟩ (nr (qU (p:=en) (l:=(numsOf J.length).map eD)) (λi acc w=>acc=mC (((numsOf J.length).take i).map λx=>ud x 4).flatten/\w=S19) (λy y y h=>by refine aC h.2 ?_;exact xe) ⟨rfl,rfl⟩ ?_ ?_)))))
 · intro i acc w K' hi q1_ F;refine bX q1_ λy1 u0=>?_;clear q1_;obtain rfl:=y1;obtain rfl:=u0;have hi:i<6:=hi;have x0:i<(numsOf J.length).length:=hi;have e0:((numsOf J.length).map eD).getD i .none=.int (numsOf J.length)[i]:=by refine aC (aS) (aC (bE) (aC (aF x0) ?_));rfl
   refine aC e0 ?_;replace F:=List.flatten_append▸(bW▸((take_snoc x0)▸F));generalize(numsOf J.length)[i]=x at F|-;have q9:(((numsOf J.length).take i).map λx=>ud x 4).flatten.length<=24:=by
     rcases lt6 hi with rfl|rfl|rfl|rfl|rfl|rfl;·exact(by decide:0<=24)
     ·exact(by decide:4<=24)
     ·exact(by decide:8<=24)
     ·exact(by decide:12<=24)
     ·exact(by decide:16<=24)
     ·exact(by decide:20<=24)
   generalize(((numsOf J.length).take i).map λx=>ud x 4).flatten=prev at F q9|-;refine fV rfl (fD (by decide) (qQ (by decide) (qR (by decide) (fD (by decide) (nr (ur (n:=4)) (λj acc S2=>acc=mC (prev++ud x j)/\S2=w) (λy y y y=>trivial) ⟨by simp[ud],rfl⟩ ?_ ?_)))))
   · intro j acc S2 K2 hj q1_ hK2;refine bX q1_ λt7 r6=>?_;clear q1_;obtain rfl:=t7;obtain rfl:=r6;refine fV rfl (bX (G9 (t:=j) (aB (bK hj) (by decide))) λhp1 hp2=>G8 (by decide) (aJ4 hj) (aC (dO _) (uo ⟨ar0 hp2,ai2 hp1⟩ (wh (by decide) (fD (by refine aC cW (aC fB (aC lT ?_));exact(aB (jL q9 (bK hj)) (by decide))) (hK2 _ _ ⟨?_,rfl⟩))))));exact aC A7 (iZ (nB _ _ _) (aC (show mC (prev++ud x j++[AX x j])=mC (prev++ud x j)++[eD (AX x j).toNat]from rF) (aC (yy _ _) (aC (Hl _) rfl))))
   · intro acc S2 q1_;refine bX q1_ λt3 u1=>?_;clear q1_;obtain rfl:=t3;obtain rfl:=u1;exact F _ _ ⟨by simp,rfl⟩
 intro acc w q1_;refine bX q1_ λq0 x7=>?_;clear q1_;obtain rfl:=q0;obtain rfl:=x7;have q7:(((numsOf J.length).take ((numsOf J.length).map eD).length).map λx=>ud x 4).flatten=ctx J.length:=by refine aC (aJ _) (aC eU ?_);rfl
 refine aC q7 (om λlc e7=>?_);have xc:(w.put lc (.list (mC (ctx J.length)))) lc=some (.list (mC (ctx J.length))):=aH;have j1:=CS.le_trans i8 (aQ (o:=.list (mC (ctx J.length))) e7);have Rc:R≠lc:=λq=>by replace e7:=(i8 _ _ g9.mR)▸(kU q▸e7);cases e7
 have pc:lp≠lc:=λq=>by replace e7:=(i8 _ _ e2)▸(kU q▸e7);cases e7
 generalize w.put lc (.list (mC (ctx J.length)))=S20 at xc j1|-;refine cK rfl (cK rfl (fD (dP rfl) (cK rfl (fD (dP rfl) (tY (by decide) (cK rfl (fD (dP rfl) (om λq3 t8=>KO aH (by decide) λlf P=>?_))))))));have f5:=aQ (o:=.list [.int u.toNat]) t8;have Rf:R≠lf:=λq=>by replace P:=(f5 _ _ (j1 _ _ g9.mR))▸(kU q▸P);cases P
 have pf:lp≠lf:=λq=>by replace P:=(f5 _ _ (j1 _ _ e2))▸(kU q▸P);cases P
 have cf:lc≠lf:=λq=>by replace P:=(f5 _ _ xc)▸(kU q▸P);cases P
 have e8:=CS.le_trans f5 (aQ (o:=.list (bH (cA 512) (.int u.toNat))) P);have xf:((S20.put q3 (.list [.int u.toNat])).put lf (.list (bH (cA 512) (.int u.toNat)))) lf=some (.list (mC (bH 512 u))):=by refine aC aH (aC Di ?_);rfl
 have xc:=e8 _ _ xc;have e8:=CS.le_trans j1 e8;generalize(S20.put q3 (.list [.int u.toNat])).put lf (.list (bH (cA 512) (.int u.toNat)))=S21 at xf xc e8|-;refine fD (dP rfl) (fD (dP rfl) (om λL hL=>?_));have RL:R≠L:=λq=>by replace hL:=(e8 _ _ g9.mR)▸(kU q▸hL);cases hL
 have pL:lp≠L:=λq=>by replace hL:=(e8 _ _ e2)▸(kU q▸hL);cases hL
 have cL:lc≠L:=λq=>by replace hL:=xc▸(kU q▸hL);cases hL
 have fL:lf≠L:=λq=>by replace hL:=xf▸(kU q▸hL);cases hL
 have xL:(S21.put L (.list ([(⟨r1,d1,o1,lc,vd J.length⟩:n_),⟨r2,d2,o2,lp,Hk J⟩,⟨r3,d3,o3,lf,Jb u⟩].map dN))) L=some (.list ([(⟨r1,d1,o1,lc,vd J.length⟩:n_),⟨r2,d2,o2,lp,Hk J⟩,⟨r3,d3,o3,lf,Jb u⟩].map dN)):=aH;have n3:=CS.le_trans e8 (aQ (o:=.list ([(⟨r1,d1,o1,lc,vd J.length⟩:n_),⟨r2,d2,o2,lp,Hk J⟩,⟨r3,d3,o3,lf,Jb u⟩].map dN)) hL);have xc:=aQ (o:=.list ([(⟨r1,d1,o1,lc,vd J.length⟩:n_),⟨r2,d2,o2,lp,Hk J⟩,⟨r3,d3,o3,lf,Jb u⟩].map dN)) hL _ _ xc;have xf:=aQ (o:=.list ([(⟨r1,d1,o1,lc,vd J.length⟩:n_),⟨r2,d2,o2,lp,Hk J⟩,⟨r3,d3,o3,lf,Jb u⟩].map dN)) hL _ _ xf;show((gd _).bind _) _ _ (S21.put L (.list ([(⟨r1,d1,o1,lc,vd J.length⟩:n_),⟨r2,d2,o2,lp,Hk J⟩,⟨r3,d3,o3,lf,Jb u⟩].map dN)));generalize S21.put L (.list ([(⟨r1,d1,o1,lc,vd J.length⟩:n_),⟨r2,d2,o2,lp,Hk J⟩,⟨r3,d3,o3,lf,Jb u⟩].map dN))=S22 at xL xc xf n3|-;refine fD (by decide+kernel) (om λwd p1=>?_);have xw:(S22.put wd (.sdict [(aD "maps",.ref Mp),(aD "regions",.ref L)])) wd=some (.sdict [(aD "maps",.ref Mp),(aD "regions",.ref L)]):=aH;have lw:=aQ (o:=.sdict [(aD "maps",.ref Mp),(aD "regions",.ref L)]) p1;have G:=CS.le_trans n3 lw;have xL:=lw _ _ xL;have xc:=lw _ _ xc;have xf:=lw _ _ xf;generalize S22.put wd (.sdict [(aD "maps",.ref Mp),(aD "regions",.ref L)])=S23 at xw lw G xL xc xf|-;have Q:=g9.le G;have W:Wo S23 ⟨m,dm,R,Mp,wd,L⟩ [⟨r1,d1,o1,lc,vd J.length⟩,⟨r2,d2,o2,lp,Hk J⟩,⟨r3,d3,o3,lf,Jb u⟩] N1 M2:=by
   refine⟨Q.mi,Q.mf,Q.mR,λe he=>?_,G _ _ xM,C.pn (cR G),r.pn (cR G),xw,xL,nb,?_,⟨f4,j4,ai5 hw c5,aj4 hw c5,h9⟩,⟨m2c,m2n,ai5 f8 p2,aj4 f8 p2,m2l⟩,⟨?_,λe he=>?_⟩,(by show 3<=60;decide),⟨_,bS,rfl⟩⟩
   · simp only[a_,cG,or_false]at he;rcases he with rfl|rfl|rfl;·exact⟨Q.ents ⟨r1,d1,o1,0,vd J.length⟩ (by simp),xc⟩
     ·exact⟨Q.ents ⟨r2,d2,o2,0,Hk J⟩ (by simp),G _ _ e2⟩
     ·exact⟨Q.ents ⟨r3,d3,o3,0,Jb u⟩ (by simp),xf⟩
   · show[R,L,lc,lp,lf].Nodup;simp only[cZ,a_,cG,or_false,not_or,vF,and_true,not_false_eq_true];exact⟨⟨RL,Rc,R1,Rf⟩,⟨eY cL,eY pL,eY fL⟩,⟨eY pc,cf⟩,pf⟩
   · have:=Q.ok.apart;simp only[JX,a_,cG,or_false,forall_eq_or_imp,forall_eq,Cd,and_true]at this|-;exact this
   · simp only[a_,cG,or_false]at he;rcases he with rfl|rfl|rfl;·exact Q.ok.each ⟨r1,d1,o1,0,vd J.length⟩ (by simp)
     ·exact Q.ok.each ⟨r2,d2,o2,0,Hk J⟩ (by simp)
     ·exact Q.ok.each ⟨r3,d3,o3,0,Jb u⟩ (by simp)
 have s3:=s6.le G;have j9:=G _ _ i1;have k7:=G _ _ j0;have k3:=G _ _ g6;have l5:=G _ _ e2;clear xM C r s6 i1 j0 g6 g9 Q p1 hL P t8 e7 x3 O j1 e8 n3 i8 nb u3 f1 f2 f3 fb h8 g5 s7;refine dS (cK rfl (qX l5 (by refine aC cW ?_;exact o26 h2 g7) ?_));refine aC cW (Cx (Lh (by refine aC (oC _) ?_;unfold bN;decide) λz hz=>?_));have X:=aQ (o:=.list ((ctx J.length).map λx=>eD x.toNat)) hz;refine cK rfl (Bd (zA (t:=true) aH (X _ _ xc) (HT _) (eB rfl ?_)));have W:=W.le X;have m9:=s3.le X;have c1:=X _ _ j9;have c2:=X _ _ k7;have c3:=X _ _ k3;generalize S23.put z (.list ((ctx J.length).map λx=>eD x.toNat))=S24 at W m9 c1 c2 c3|-;clear X hz s3 j9 k7 k3 l5 xw lw xL xc xf G;refine dS (tT rfl (by assumption) (nT m9 (aW4 hw) ⟨by decide,by decide⟩ λdn S25 m5 j5 y4 D=>?_));have W:=W.pn D;have c1:=D _ _ rfl c1;have c2:=D _ _ rfl c2;have c3:=D _ _ rfl c3;clear m9 D;refine jA (qQ (am9 m5 j5) (qR (am9 m5 j5) (fD rfl (iK (⟨(10+dn).toNat,((mH (eM (by decide) m5)).symm)⟩:∃nt:Nat,10+dn=nt) λnt m0=>aC m0 ?_))));have T0:St S25 m wd N1.a w1 p c cp co cm 3 400:=⟨⟨_,_,N1,M2,W,rfl,rfl,rfl,c5,bM _⟩,⟨ns,y4.up (aD8 hw)⟩,c1,c2,c3⟩;clear W y4 c1 c2 c3;refine A9 (ur (n:=nt)) (λi vs w=>∃(x2 m7:Option CV),vs=[some (.script ns0),some (.ref cp),x2,some (.ref lp),some (.int u.toNat),some (.ref co),some (.ref M2.a),some (.ref Mp),some (.ref cm),some (.ref en),some (.ref lc),some (.ref wd),m7,none,none,none,none,none,none,none,none,none,none,none,none,none,none,none,none,none,none]/\St w m wd N1.a w1 p c cp co cm (3+i) (400+110*i)) (λy y y y=>trivial) ⟨none,none,rfl,T0⟩ ?_ ?_
 · intro i vs w K' hi q1_ F y;refine eJ q1_ λx2 m7 t6 T=>?_;clear q1_;obtain rfl:=t6;have hB:400+110*i<=80000:=aM5 m0 j5 hi;exact tT (by rfl) T.c1 (T.draw (aB hB (by decide)) ⟨by decide,by decide⟩ λway S2 hy1 hy2 T=>KE rfl rfl rfl rfl hB (aB (bU (bK (rU hi (av1 m0 j5))) 3) (by decide)) hy2 T λw T=>F _ _ ⟨_,_,rfl,T⟩)
 intro vs S26 q1_;refine eJ q1_ λx2 m7 p4 T=>?_;clear q1_;obtain rfl:=p4;clear T0;refine eC λk_=>AF T.ex λA es M1 M2' WF s1 k4=>?_;obtain rfl:=s1;refine bX k4 λq5 k2=>?_;clear k4;obtain rfl:=q5;refine iR k2 λe3 e4 e5=>?_;clear k2;refine k_ ?_;have B:=T.c2;have f7:=T.c3;have y2:es.length<=60:=WF.few;refine dS (tT rfl (by assumption) (iM WF (g:=278) (by kernel_rfl) (by kernel_rfl) (eS (by kernel_rfl) (W0 WF.me λS27 j3=>?_))));have WF:=WF.le j3;have B:=j3 _ _ B;have f7:=j3 _ _ f7;clear j3 T;refine kC rfl (fD (by decide) (cK rfl (x9 WF (mQ WF.wL (fD ⟨rfl,rfl⟩ (nr (qU (p:=A.L) (l:=es.map dN)) (λi acc w=>acc=(es.take i).map (λe=>rB e.g)/\w=S27) (λy y y h=>by refine aC h.2 ?_;exact WF.wL) ⟨rfl,rfl⟩ ?_ ?_))))))
 · intro i acc w K' hi q1_ F;refine bX q1_ λt0 u2=>?_;clear q1_;obtain rfl:=t0;obtain rfl:=u2;replace hi:=(aJ _)▸hi;refine aC (pV hi) ?_;have g4:=dB hi;replace F:=bW▸((take_snoc hi)▸F);generalize es[i]=e at g4 F|-;have t9:=(WF.ok.each e g4).2.2;have ib:∀{j:Int}{v:CV}{K':KP}{E':KP},0<=j/\j<4->[Ae e.g.nm,.int e.g.base,.ref e.l,.bool e.g.wr][j.toNat]?=some v->K' v w->cJ (dN e) (.int j) K' E' w:=λhj hv k=>nD (f:=.pure) ⟨hj.1,o19 hj⟩ hv k;refine fV rfl (ib (by decide) rfl (ib (by decide) rfl (ib (by decide) rfl (qZ (WF.ents e g4).2 (by refine aC cW ?_;unfold bN;exact Internal.o1 t9) (kO _) (by unfold bN;exact Internal.o1 t9) ?_))));refine ib (by decide) rfl (fD (dP rfl) (fD (by refine aC (aJ _) (aC cH ?_);exact o38 y2) (F _ _ ⟨rfl,rfl⟩)))
 intro acc w q1_;refine bX q1_ λe9x p5=>?_;clear q1_;obtain rfl:=e9x;obtain rfl:=p5;refine aC (aJ _) (aC eU (om λz hz=>?_));have X:=aQ (o:=.list (es.map λe=>rB e.g)) hz;refine LA aH (by refine aC (aJ _) ?_;exact o6 y2) ?_;refine Bd (zG (t:=true) (KJ es) ?_);have WF:=WF.le X;have B:=X _ _ B;have f7:=X _ _ f7;generalize w.put z (.list (es.map λe=>rB e.g))=S28 at WF B f7|-;clear X hz;refine eB rfl (kC rfl (fD (by decide) (qQ (by decide) (qR (by decide) (fD (by decide) (iR (WF.map (M:=M1) (.inl rfl)) λU F1 y=>?_))))));have j7:=WF.c1.2.2.2.2;replace B:=kU e3▸B;refine nr (ur (n:=3)) (λi acc w=>acc=((M1.vals.take i).map (·.2)).map lQ/\w=S28) (λy y y y=>trivial) ⟨rfl,rfl⟩ ?_ ?_
 · intro i acc w K' hi q1_ F;refine bX q1_ λe7x z1=>?_;clear q1_;obtain rfl:=e7x;obtain rfl:=z1;have i3:i<M1.vals.length:=ai7 hi j7;have I:=aF i3;replace F:=bW▸(bW▸((take_snoc i3)▸F));generalize M1.vals[i]=v at I F;refine bX (U.b v (bG I)) λs5 j8=>fV rfl (tT (by rfl) f7 (iM WF (g:=252) (by kernel_rfl) (by kernel_rfl) (tT (by rfl) B ?_)));refine pM (g:=460) U.i U.f (by kernel_rfl) (by rcases F1.cls with h|h<;>rw[h]<;>kernel_rfl) ?_;refine cK rfl (eS (by kernel_rfl) (Hd U F1 (⟨aN _,aX.mpr (aB (bK hi) (by decide))⟩) (tT (by rfl) B (y8 U F1.cls ?_))));have hw:=F1.w;have p3:qg M1 i v∈bQ es M1 M2':=mB.mpr (.inr ⟨M1,.inl rfl,i,v,I,rfl⟩);have q4:fS (qg M1 i v) (hZ M1.num i M1.w) M1.w:=⟨pD _,aR8 j8⟩;refine eS (by kernel_rfl) (uW WF (⟨hw.1,aB hw.2 (by decide)⟩) (λno=>absurd q4 (no _ p3)) (λrow hr r4=>?_));have:=qo WF (hw.1) hr p3 r4 q4;subst this;have t1:fG (qg M1 i v) (hZ M1.num i M1.w) M1.w=v.2:=by
     show(v.2.drop (hZ M1.num i M1.w-hZ M1.num i M1.w).toNat).take M1.w=v.2;refine aC (ag7 _) ?_;show(v.2.drop 0).take M1.w=v.2;exact aC r8 (aC (dE (ak1 j8)) rfl)
   refine aC t1 (fD (by refine aC (aJ _) (aC (aJ _) (aC cH ?_));exact an7 hi) (F _ _ ⟨rfl,rfl⟩))
 intro acc w q1_;refine bX q1_ λe5x r6x=>?_;clear q1_;obtain rfl:=e5x;obtain rfl:=r6x;refine aC (show M1.vals.take 3=M1.vals from dE (ar9 j7)) (om λz hz=>?_);have xz:(w.put z (.list ((M1.vals.map (·.2)).map lQ))) z=some (.list ((M1.vals.map (·.2)).map lQ)):=aH;have X:=aQ (o:=.list ((M1.vals.map (·.2)).map lQ)) hz;have WF:=WF.le X;have B:=X _ _ B;have U:gO (w.put z (.list ((M1.vals.map (·.2)).map lQ))) M1:=U.pn (cR X);generalize w.put z (.list ((M1.vals.map (·.2)).map lQ))=S29 at WF B U xz|-;clear X hz;refine kC rfl (fD (by decide) (qQ (by decide) (qR (by decide) (fD (by decide) (nr (ur (n:=3)) (λi acc w=>acc=((M1.vals.take i).map (·.2)).map lQ/\w=S29) (λy y y y=>trivial) ⟨rfl,rfl⟩ ?_ ?_)))))
 · intro i acc w K' hi q1_ F;refine bX q1_ λe3x r4x=>?_;clear q1_;obtain rfl:=e3x;obtain rfl:=r4x;have i3:i<M1.vals.length:=ai7 hi j7;have I:=aF i3;replace F:=bW▸(bW▸((take_snoc i3)▸F));generalize M1.vals[i]=v at I F;refine bX (U.b v (bG I)) λs5 j8=>?_;have hw:=F1.w;refine fV rfl (tT (by rfl) B (sj U F1.cls (cK rfl (Dt (v:=.ref v.1) U.V (by refine aC (AM o0) (aC (dO _) (aC I ?_));rfl) ?_))));refine xG s5 (by unfold bN;exact o48 hw j8) (fD (by refine aC (aJ _) (aC (aJ _) (aC cH ?_));exact an7 hi) (F _ _ ⟨rfl,rfl⟩))
 intro acc w q1_;refine bX q1_ λm4 r2x=>?_;clear q1_;obtain rfl:=m4;obtain rfl:=r2x;refine aC (show M1.vals.take 3=M1.vals from dE (ar9 j7)) (om λz2 hz2=>zA (t:=true) (aQ (o:=.list ((M1.vals.map (·.2)).map lQ)) hz2 _ _ xz) aH ?_ ?_)
 · unfold PB;exact aC (if_pos rfl) (Jf _)
 exact xD (rK _ _ ⟨_,CS.le_refl,k _⟩)
theorem Mm(ns:List Int)(h:ns.length<=63):aM 60 (.st 726) [.script ns] (λv a=>v=.bool true) (λa a=>False) (λa=>none):=av4 (n:=48) h λa=>rfl
end
end Internal
end
section
open PySem PySem.W PySem.W.X PyProof.Rows
namespace Internal
noncomputable abbrev hr:OpenLaw:=PySem.Challenge.rw_pq0999_01
theorem Jz(y:Nr s=Qv w):uZ (qq (fragOf s.heap))=true/\uc.map (λe=>Ie ((qq (fragOf s.heap)).lookup e.1))=uc.map (λe=>De (wx e.1))/\Yj (fragOf s.heap)=true/\nsIn (fragOf s.heap) 3 "law"=some (some (.ref 726))/\s.heap.objs.size=727:=⟨congrArg UA y,congrArg (λx=>x.2.1) y,congrArg (λx=>x.2.2.1) y,congrArg (λx=>x.2.2.2.1) y,congrArg (λx=>x.2.2.2.2) y⟩
theorem aB7:hr.wellSaid=true:=by rw[PySem.W.Fast.te9446332074065402090];kernel_rfl
theorem hOk:(aB2 hq&&ag6 hp&&(frees hr.row.toRowW&&hr.row.toRowW.within.isEmpty))=true:=by kernel_rfl
noncomputable def hd:DefRec×List (Str×aI):=(defOf hq "law").getD ⟨⟨"",default,[],default,default⟩,[]⟩
theorem hdef:defOf hq "law"=some (hd.1,hd.2):=by kernel_rfl
theorem aQ6:hp.theDef "law"=some (hd.1.params,hd.1.body,hd.1.scope):=by kernel_rfl
theorem hKw:kwWritten? hd.1.params.kwonlyargs hd.1.params.kw_defaults=some hd.2:=by kernel_rfl
theorem QM:hr.row.toRowW.promised:=⟨[.list []],by kernel_rfl,by kernel_rfl⟩
set_option tactic.hygienic true in theorem am7:hr.Holds:=holds_law aB7 λk1=>by
 refine Internal.PySem.W.holds_openX (q:=hq) (loose:=DG) (Xt:=λι=>true) (XP:=λι ι=>True) (Yf:=Nr) (Ya:=Qv) (N:=5320) av7 (λι ι=>trivial) (λι ι ι h ι=>h) hdef aQ6 hKw (λs ι=>recFacts_nil rfl) rfl k1 hOk ⟨rfl,rfl,rfl,rfl,rfl,by kernel_rfl⟩ QM ?_;intro w s₀ s₁ mg mb G Y fa o pm cd doc dV kV ho hd hcd hD hmg hg args vals as L hpre hlay hrd hwl hlo;refine qJ (Jz Y) λC V T N sz=>?_;have KX:(fragOf s₀.heap).In s₁.heap:=λa o e=>L.keeps a o (JE _ a o e);refine Ground.open G ?_;intro T' B D TE TW;wrow_args hpre hlay hrd hwl hlo;rename_i ns hs h0 hL1 hr1 hl2 b1 b2 a svs b3 hL ra w1 r0 hI hr hn ht;refine bX (script_at L) λhat hsz=>?_;rw[sz]at hat hsz;subst hat;have GV:xd w s₁.heap _ ns svs:=⟨KX,C,V,T,hsz,hL,hI,ut λq=>hn (bV.mpr q)⟩;have hfa:fa=726:=by
  have q:=tU KX T'.g N;have hmg:mg (aD "law")=some (.ref fa):=hmg;replace q:=hmg▸q;cases q;rfl
 subst hfa;have fin:=finish GV hg (Mm ns (by omega));refine cV fin (λv s' q=>bX q λe1x r2x=>?_) (λι ι q=>q.elim);clear q;obtain rfl:=e1x;refine iR r2x λq1 q2 q3=>⟨.inl ⟨.bool true,.bool true,[],rfl,raisesW_false ?_,.bool true,?_,unshared_nil⟩,q1,q2,.of_eq q3⟩;·wrow_none_raised
 ·wrow_post
end Internal
end
theorem PySem.Challenge.cw_pq0999_01_holds : PySem.Challenge.rw_pq0999_01.Holds :=
 Internal.am7
